import PyProof.Rows.All
import Wide.All
import OpenK.AllK
import Wide.FinOn
import HandS.ForMost
import HandS.Exc
import HandS.TryOnly
import HandS.ExcOwn
import HandS.WordsExc
import HandS.IsInst
import HandS.Flow
import HandS.Style
import HandS.TupLe
import HandS.TupAny
import HandS.TupMul
import HandS.Deep
import HandS.Conv
import HandS.Wide
import HandS.CallSlots
import KE.KDictCopyH
import KE.KDictKeyed
import KE.KeyNested
import KE.KDictWalk
import HandS.Lambda
import HandS.Zip
import HandS.SortInts
import KE.KTupSum
import KE.GoesMore
import KE.GoesZip
import KE.SortData
import KE.DataMinMax
import KE.DataCmp
import KE.DataFind
import PyProof.ReprRoads
import PyProof.Rows.TupDisplay
import KE.KDictSum
import HandS.More
import PyProof.TupleOfSeq
import HandS.Iter
import KE.GoesEnum
import HandS.ExcIs
import KE.KNestM
import HandS.EndTab
import PySem.Challenge.RW_puzzlechest_k73_whole_two_heaps_doubled
set_option Elab.async false
set_option linter.all false
set_option maxRecDepth 100000
set_option maxHeartbeats 4000000
namespace Ev
open PySem
/-- the defs that make lambdas: their code objects, their tables, the lambdas' name -/
def TCS : List (Addr × Addr × Str) := [(224, 220, "_law_refused_right" ++ ".<locals>." ++ "<lambda>")]
/-- the tables: where they stand, and the lambdas' name -/
def TBL : List (Addr × Str) := TCS.map fun t => (t.2.1, t.2.2)
end Ev

/-! Ev: pure data D, its place in the abstract heap, value semantics of expressions and statements -/
namespace Ev
open PySem PySem.Spec PyProof.Rows L2

/-- pure data -/
inductive D where
  | non | bl (b : Bool) | int (i : Int) | str (s : Str) | tup (ds : List D) | lst (ds : List D) | scr (ds : List D) | dct (t : Bool) (es : List (D × D)) | tape | pin (o : HO) | prm (φ : V → Hp → Prop) | fnc (x : Str)
abbrev Tp := Option (List D)
abbrev Ve := List (Option D)
inductive Res (α : Type) where
  | ok (a : α) (T : Tp) | ex (x : Str) (T : Tp) | no
def Res.bind {α β : Type} (r : Res α) (f : α → Tp → Res β) : Res β := match r with
  | .ok a T => f a T
  | .ex x T => .ex x T
  | .no => .no
def ofO {α : Type} (o : Option α) (T : Tp) : Res α := match o with
  | some a => .ok a T
  | none => .no
abbrev Ex := Ve → Tp → Res D

/-! ### the place of data in the heap -/
mutual
/-- the key that a thing is -/
def nk : D → Option NestedKey
  | .non => some .none
  | .bl b => some (.num (if b then 1 else 0))
  | .int i => some (.num i)
  | .str s => some (.text s)
  | .tup ds => match nks ds with
    | some ks => some (.tup ks)
    | none => none
  | _ => none
def nks : List D → Option (List NestedKey)
  | [] => some []
  | d :: ds => match nk d with
    | some k => match nks ds with
      | some ks => some (k :: ks)
      | none => none
    | none => none
end
def nkT (d : D) : Option NestedKey := match nk d with
  | some k => if k.depth ≤ 8 then some k else none
  | none => none
/-- a dict's object, by its entries -/
def PinD (a : Addr) (ar : Array DictEntry) (ep : Nat) : HO := .ext fun h => h.DictRaw a ar ep
def kD : L2.Key → D
  | .inl i => .int i
  | .inr s => .str s
/-- the entries stand as they must: t: keys are tuples; else they are whole numbers and texts -/
def Core (w : World) (t : Bool) (ar : Array DictEntry) (kds : List D) (ks vs : List V) : Prop := match t with
  | false => ∃ l : List (L2.Key × Value), (∀ P, KeysOf (mixKind P w) ar ∧ Pairs (mixKind P w) ar.toList l) ∧ (l.map (·.1)).Nodup ∧ kds = l.map (fun p => kD p.1) ∧ ks = l.map (fun p => kV p.1) ∧ Vals vs (l.map (·.2))
  | true => ∃ xs : List (NestedKey × Addr × Value), (∀ P, ar.toList = xs.map (entryOfKey (nestedKind P w))) ∧ (xs.map (·.1)).Nodup ∧ kds.map nkT = xs.map (fun x => some x.1) ∧ ks = xs.map (fun x => .ref x.2.1) ∧ Vals vs (xs.map (fun x => x.2.2))
/-- a dict's object, its keys, its keys' and values' places -/
def DH (w : World) (a : Addr) (t : Bool) (o : HO) (kds : List D) (us : List V) : Prop := ∃ (ar : Array DictEntry) (ep : Nat) (ks vs : List V),
  o = PinD a ar ep ∧ (a == sysModules) = false ∧ ar.size ≤ sizeLine ∧ us = ks ++ vs ∧ Core w t ar kds ks vs
def flE (es : List (D × D)) : List D := es.map Prod.fst ++ es.map Prod.snd
structure Gh where
  K : PySem.W.Frag
  w : World
  pt : Option Addr
  H0 : Hp
  O0 : Addr → Prop
mutual
inductive Rep (g : Gh) (H : Hp) : V → D → Prop
  | non : Rep g H .non .non
  | bl (b : Bool) : Rep g H (.bl b) (.bl b)
  | int (i : Int) : Rep g H (.int i) (.int i)
  | str (x : Str) : Rep g H (.str x) (.str x)
  | tup {a : Addr} {vs : List V} {ds : List D} : SqT g.K H a vs → RepL g H vs ds → Rep g H (.ref a) (.tup ds)
  | lst {a : Addr} {vs : List V} {ds : List D} : H a = some (.lst vs) → RepL g H vs ds → Rep g H (.ref a) (.lst ds)
  | scr {a : Addr} {vs : List V} {ds : List D} : SqL g.K H a vs → RepL g H vs ds → Rep g H (.ref a) (.scr ds)
  | dct {a : Addr} {o : HO} {vs : List V} {t : Bool} {es : List (D × D)} : H a = some o → DH g.w a t o (es.map Prod.fst) vs → RepL g H vs (flE es) → Rep g H (.ref a) (.dct t es)
  | tape {a : Addr} : g.pt = some a → Rep g H (.ref a) .tape
  | pin {a : Addr} {o : HO} : H a = some o → Rep g H (.ref a) (.pin o)
  | prm {v : V} {φ : V → Hp → Prop} : (∀ H', (∀ a o, H a = some o → H' a = some o) → φ v H') → Rep g H v (.prm φ)
  | fnc {f : Addr} {x : Str} : PySem.W.nsIn g.K mainGlobals x = some (some (.ref f)) → Rep g H (.ref f) (.fnc x)
inductive RepL (g : Gh) (H : Hp) : List V → List D → Prop
  | nil : RepL g H [] []
  | cons {v : V} {vs : List V} {d : D} {ds : List D} : Rep g H v d → RepL g H vs ds → RepL g H (v :: vs) (d :: ds)
end
def Le (H1 H2 : Hp) : Prop := ∀ a o, H1 a = some o → H2 a = some o
theorem Le.refl (H : Hp) : Le H H := fun _ _ h => h
theorem Le.trans {H1 H2 H3 : Hp} (a : Le H1 H2) (b : Le H2 H3) : Le H1 H3 := fun x o h => b x o (a x o h)
theorem Le.rd {H1 H2 : Hp} (l : Le H1 H2) {a : Addr} {u : HO} (h : Rd H1 a u) : Rd H2 a u := by
  rcases h with h | ⟨o, h⟩
  · exact .inl (l _ _ h)
  · exact .inr ⟨o, l _ _ h⟩
theorem Le.sqL {K : PySem.W.Frag} {H1 H2 : Hp} (l : Le H1 H2) {a : Addr} {vs : List V} (h : SqL K H1 a vs) : SqL K H2 a vs := by
  rcases h with h | h
  · exact .inl (l.rd h)
  · exact .inr h
theorem Le.sqT {K : PySem.W.Frag} {H1 H2 : Hp} (l : Le H1 H2) {a : Addr} {vs : List V} (h : SqT K H1 a vs) : SqT K H2 a vs := by
  rcases h with h | h
  · exact .inl (l.rd h)
  · exact .inr h
mutual
theorem Rep.le {g : Gh} {H1 H2 : Hp} (l : Le H1 H2) {v : V} {d : D} : Rep g H1 v d → Rep g H2 v d
  | .non => .non
  | .bl b => .bl b
  | .int i => .int i
  | .str x => .str x
  | .tup h r => .tup (l.sqT h) (RepL.le l r)
  | .lst h r => .lst (l _ _ h) (RepL.le l r)
  | .scr h r => .scr (l.sqL h) (RepL.le l r)
  | .dct h q r => .dct (l _ _ h) q (RepL.le l r)
  | .tape h => .tape h
  | .pin h => .pin (l _ _ h)
  | .prm h => .prm fun H' l' => h H' fun a o e => l' a o (l a o e)
  | .fnc h => .fnc h
theorem RepL.le {g : Gh} {H1 H2 : Hp} (l : Le H1 H2) {vs : List V} {ds : List D} : RepL g H1 vs ds → RepL g H2 vs ds
  | .nil => .nil
  | .cons h r => .cons (Rep.le l h) (RepL.le l r)
end
theorem RepL.len {g : Gh} {H : Hp} : ∀ {vs : List V} {ds : List D}, RepL g H vs ds → vs.length = ds.length
  | _, _, .nil => rfl
  | _, _, .cons _ r => by simp [r.len]
theorem RepL.append {g : Gh} {H : Hp} : ∀ {vs ws : List V} {ds es : List D}, RepL g H vs ds → RepL g H ws es → RepL g H (vs ++ ws) (ds ++ es)
  | _, _, _, _, .nil, s => s
  | _, _, _, _, .cons h r, s => .cons h (RepL.append r s)
theorem RepL.get {g : Gh} {H : Hp} : ∀ {vs : List V} {ds : List D} {i : Nat} {d : D}, RepL g H vs ds → ds[i]? = some d → ∃ v, vs[i]? = some v ∧ Rep g H v d
  | _, _, _, _, .nil, h => by simp at h
  | _, _, 0, _, .cons h r, e => by simp at e; subst e; exact ⟨_, rfl, h⟩
  | _, _, i + 1, _, .cons h r, e => by
    obtain ⟨v, h1, h2⟩ := RepL.get (i := i) r (by simpa using e)
    exact ⟨v, by simpa using h1, h2⟩
theorem RepL.getV {g : Gh} {H : Hp} : ∀ {vs : List V} {ds : List D} {i : Nat} {v : V}, RepL g H vs ds → vs[i]? = some v → ∃ d, ds[i]? = some d ∧ Rep g H v d
  | _, _, _, _, .nil, h => by simp at h
  | _, _, 0, _, .cons h r, e => by simp at e; subst e; exact ⟨_, rfl, h⟩
  | _, _, i + 1, _, .cons h r, e => by
    obtain ⟨v, h1, h2⟩ := RepL.getV (i := i) r (by simpa using e)
    exact ⟨v, by simpa using h1, h2⟩
theorem RepL.take {g : Gh} {H : Hp} : ∀ {vs : List V} {ds : List D} (n : Nat), RepL g H vs ds → RepL g H (vs.take n) (ds.take n)
  | _, _, 0, _ => .nil
  | _, _, _ + 1, .nil => .nil
  | _, _, n + 1, .cons h r => .cons h (RepL.take n r)
theorem RepL.drop {g : Gh} {H : Hp} : ∀ {vs : List V} {ds : List D} (n : Nat), RepL g H vs ds → RepL g H (vs.drop n) (ds.drop n)
  | _, _, 0, r => r
  | _, _, _ + 1, .nil => .nil
  | _, _, n + 1, .cons h r => RepL.drop n r
theorem RepL.set {g : Gh} {H : Hp} {v : V} {d : D} (h0 : Rep g H v d) : ∀ {vs : List V} {ds : List D} (i : Nat), RepL g H vs ds → RepL g H (vs.set i v) (ds.set i d)
  | _, _, _, .nil => .nil
  | _, _, 0, .cons _ r => .cons h0 r
  | _, _, i + 1, .cons h r => .cons h (RepL.set h0 i r)
theorem RepL.reverse {g : Gh} {H : Hp} : ∀ {vs : List V} {ds : List D}, RepL g H vs ds → RepL g H vs.reverse ds.reverse
  | _, _, .nil => .nil
  | _, _, .cons h r => by
    rw [List.reverse_cons, List.reverse_cons]
    exact r.reverse.append (.cons h .nil)

/-! ### what is frozen -/
noncomputable def fz (H : Hp) (O : Addr → Prop) : Hp := fun a => open Classical in if O a then none else H a
theorem fz_in {H : Hp} {O : Addr → Prop} {a : Addr} (h : O a) : fz H O a = none := by unfold fz; rw [if_pos h]
theorem fz_out {H : Hp} {O : Addr → Prop} {a : Addr} (h : ¬ O a) : fz H O a = H a := by unfold fz; rw [if_neg h]
theorem fz_some {H : Hp} {O : Addr → Prop} {a : Addr} {o : HO} (h : fz H O a = some o) : ¬ O a ∧ H a = some o := by
  by_cases q : O a
  · rw [fz_in q] at h; cases h
  · rw [fz_out q] at h; exact ⟨q, h⟩
theorem fz_le {H : Hp} {O : Addr → Prop} : Le (fz H O) H := fun _ _ h => (fz_some h).2
theorem fz_mono {H H' : Hp} {O O' : Addr → Prop} (h1 : ∀ a o, ¬ O a → H a = some o → ¬ O' a ∧ H' a = some o) : Le (fz H O) (fz H' O') := fun a o h => by
  obtain ⟨a1, a2⟩ := fz_some h
  obtain ⟨b1, b2⟩ := h1 a o a1 a2
  rw [fz_out b1]; exact b2
/-- what a def may change: the tape, the tables -/
def Gh.mut (g : Gh) (a : Addr) : Prop := g.pt = some a ∨ ∃ q, (a, q) ∈ TBL
def Ext (m : Addr → Prop) (H1 H2 : Hp) : Prop := ∀ a o, ¬ m a → H1 a = some o → H2 a = some o
theorem Ext.refl (m : Addr → Prop) (H : Hp) : Ext m H H := fun _ _ _ h => h
theorem Ext.trans {m : Addr → Prop} {H1 H2 H3 : Hp} (a : Ext m H1 H2) (b : Ext m H2 H3) : Ext m H1 H3 := fun x o n h => b x o n (a x o n h)
/-- an owned object at p -/
def Own1 (g : Gh) (H : Hp) (O : Addr → Prop) (p : Addr) : D → Prop
  | .lst ds => ∃ vs, H p = some (.lst vs) ∧ RepL g (fz H O) vs ds
  | .dct t es => ∃ o vs, H p = some o ∧ DH g.w p t o (es.map Prod.fst) vs ∧ RepL g (fz H O) vs (flE es)
  | _ => False
structure OwnAt (g : Gh) (H : Hp) (O : Addr → Prop) (p : Addr) (d : D) : Prop where
  o : O p
  new : g.H0 p = none
  npt : ¬ g.mut p
  at_ : Own1 g H O p d
/-- what may be read now -/
def RepB (g : Gh) (H : Hp) (O : Addr → Prop) (v : V) : D → Prop
  | .lst ds => ∃ p vs, v = .ref p ∧ H p = some (.lst vs) ∧ RepL g (fz H O) vs ds
  | .dct t es => ∃ p o vs, v = .ref p ∧ H p = some o ∧ DH g.w p t o (es.map Prod.fst) vs ∧ RepL g (fz H O) vs (flE es)
  | d => Rep g (fz H O) v d
theorem Rep.toB {g : Gh} {H : Hp} {O : Addr → Prop} {v : V} {d : D} (h : Rep g (fz H O) v d) : RepB g H O v d := by
  cases d with
  | lst ds => cases h with | lst a b => exact ⟨_, _, rfl, fz_le _ _ a, b⟩
  | dct t es => cases h with | dct a q b => exact ⟨_, _, _, rfl, fz_le _ _ a, q, b⟩
  | _ => exact h
theorem OwnAt.toB {g : Gh} {H : Hp} {O : Addr → Prop} {p : Addr} {d : D} (h : OwnAt g H O p d) : RepB g H O (.ref p) d := by
  have q := h.at_
  cases d with
  | lst ds => obtain ⟨vs, a, b⟩ := q; exact ⟨_, _, rfl, a, b⟩
  | dct t es => obtain ⟨o, vs, a, q, b⟩ := q; exact ⟨_, _, _, rfl, a, q, b⟩
  | _ => exact False.elim q
def Tap0 (g : Gh) (T : Tp) (H : Hp) (O : Addr → Prop) : Prop :=
  (g.pt = none ∧ T = none) ∨ ∃ p ts vs, g.pt = some p ∧ T = some ts ∧ O p ∧ H p = some (.lst vs) ∧ RepL g (fz H O) vs ts
theorem Own1.of {g : Gh} {H H' : Hp} {O O' : Addr → Prop} {p : Addr} {d : D} (h : Own1 g H O p d) (e : H' p = H p) (l : Le (fz H O) (fz H' O')) : Own1 g H' O' p d := by
  cases d with
  | lst ds => obtain ⟨vs, a, b⟩ := h; exact ⟨vs, e.trans a, b.le l⟩
  | dct t es => obtain ⟨o, vs, a, q, b⟩ := h; exact ⟨o, vs, e.trans a, q, b.le l⟩
  | _ => exact h.elim
theorem Tap0.of {g : Gh} {T : Tp} {H H' : Hp} {O O' : Addr → Prop} (h : Tap0 g T H O) (e : ∀ p, g.pt = some p → O p → O' p ∧ H' p = H p) (l : Le (fz H O) (fz H' O')) : Tap0 g T H' O' := by
  rcases h with h | ⟨p, ts, vs, e1, e2, o, a, b⟩
  · exact .inl h
  · obtain ⟨q1, q2⟩ := e p e1 o
    exact .inr ⟨p, ts, vs, e1, e2, q1, q2.trans a, b.le l⟩
/-- the tables: each of one's own, the code objects that they tell known by their names -/
def TabP (Hf : Hp) (ps : Array Value) (q : Str) : Prop := TriplesOk ps.toList ∧ ∀ (pos : Pos) (cv : Value), codeAmong pos ps.toList = some cv → ∃ c, cv = .ref c ∧ Hf c = some (LamX.CodeO c q)
def TblOk (H : Hp) (O : Addr → Prop) : Prop := ∀ p ∈ TBL, O p.1 ∧ ∃ ps, H p.1 = some (.tbl ps) ∧ TabP (fz H O) ps p.2
theorem TabP.le {H H' : Hp} {ps : Array Value} {q : Str} (h : TabP H ps q) (l : Le H H') : TabP H' ps q := ⟨h.1, fun pos cv e => by
  obtain ⟨c, a, b⟩ := h.2 pos cv e
  exact ⟨c, a, l _ _ b⟩⟩
theorem TblOk.of {H H' : Hp} {O O' : Addr → Prop} (h : TblOk H O) (e : ∀ p, (∃ q, (p, q) ∈ TBL) → O p → O' p ∧ H' p = H p) (l : Le (fz H O) (fz H' O')) : TblOk H' O' := fun p hp => by
  obtain ⟨a, ps, b, c⟩ := h p hp
  obtain ⟨d1, d2⟩ := e p.1 ⟨p.2, hp⟩ a
  exact ⟨d1, ps, d2.trans b, c.le l⟩
def TapeOk (g : Gh) (T : Tp) (H : Hp) (O : Addr → Prop) : Prop := Tap0 g T H O ∧ TblOk H O
theorem TapeOk.of {g : Gh} {T : Tp} {H H' : Hp} {O O' : Addr → Prop} (h : TapeOk g T H O) (e : ∀ p, g.mut p → O p → O' p ∧ H' p = H p) (l : Le (fz H O) (fz H' O')) : TapeOk g T H' O' :=
  ⟨h.1.of (fun p q => e p (.inl q)) l, h.2.of (fun p q => e p (.inr q)) l⟩
theorem Tap0.some {g : Gh} {T : Tp} {H : Hp} {O : Addr → Prop} (h : Tap0 g T H O) {p : Addr} (e : g.pt = some p) : O p ∧ ∃ vs ts, T = some ts ∧ H p = some (.lst vs) ∧ RepL g (fz H O) vs ts := by
  rcases h with h | ⟨p', ts, vs, e1, e2, o, a, b⟩
  · rw [h.1] at e; cases e
  · rw [e1] at e; cases e
    exact ⟨o, vs, ts, e2, a, b⟩
theorem TapeOk.mutO {g : Gh} {T : Tp} {H : Hp} {O : Addr → Prop} (h : TapeOk g T H O) {p : Addr} (e : g.mut p) : O p := by
  rcases e with e | ⟨q, e⟩
  · exact (h.1.some e).1
  · exact (h.2 _ e).1
theorem TapeOk.mutH {g : Gh} {T : Tp} {H : Hp} {O : Addr → Prop} (h : TapeOk g T H O) {p : Addr} (e : g.mut p) : H p ≠ none := by
  rcases e with e | ⟨q, e⟩
  · obtain ⟨_, vs, ts, _, h, _⟩ := h.1.some e
    rw [h]; simp
  · obtain ⟨_, ps, h, _⟩ := h.2 _ e
    rw [h]; simp
theorem TapeOk.some {g : Gh} {T : Tp} {H : Hp} {O : Addr → Prop} (h : TapeOk g T H O) {p : Addr} (e : g.pt = some p) : O p ∧ ∃ vs ts, T = some ts ∧ H p = some (.lst vs) ∧ RepL g (fz H O) vs ts := h.1.some e
/-- the state: S the slots that own their object -/
structure R (g : Gh) (S : List Nat) (env : Ve) (T : Tp) (σ : L2.St) (H : Hp) (O : Addr → Prop) : Prop where
  oh : ∀ a, g.O0 a → g.H0 a ≠ none
  oin : ∀ a, O a → H a ≠ none
  o0 : ∀ a, g.O0 a → O a
  o1 : ∀ a, O a → g.O0 a ∨ g.H0 a = none
  ext : Ext g.mut g.H0 H
  len : env.length = σ.length
  bd : ∀ i, i ∈ S → i < env.length
  tape : TapeOk g T H O
  fro : ∀ (i : Nat) d, i ∉ S → env[i]? = some (some d) → ∃ v, σ[i]? = some (some v) ∧ Rep g (fz H O) v d
  own : ∀ (i : Nat) d, i ∈ S → env[i]? = some (some d) → ∃ p, σ[i]? = some (some (V.ref p)) ∧ OwnAt g H O p d
  inj : ∀ (i j : Nat) d d' p, i ∈ S → j ∈ S → env[i]? = some (some d) → env[j]? = some (some d') → σ[i]? = some (some (V.ref p)) → σ[j]? = some (some (V.ref p)) → i = j
section
variable {g : Gh} {S : List Nat} {env : Ve} {T : Tp} {σ : L2.St} {H H' : Hp} {O O' : Addr → Prop}
theorem R.h0 (r : R g S env T σ H O) {a : Addr} (h : H a = none) : g.H0 a = none := by
  cases q : g.H0 a with
  | none => rfl
  | some o =>
    by_cases m : g.mut a
    · exact absurd h (r.tape.mutH m)
    · rw [r.ext a o m q] at h; cases h
/-- the heap grows, the tape stays -/
theorem R.grow (r : R g S env T σ H O) (e : Le H H') (h1 : ∀ a, O a → O' a) (h2 : ∀ a, O' a → ¬ O a → H a = none ∧ H' a ≠ none) : R g S env T σ H' O' ∧ Le (fz H O) (fz H' O') := by
  have l : Le (fz H O) (fz H' O') := fz_mono fun a o n h => ⟨fun q => (by rw [(h2 a q n).1] at h; cases h), e _ _ h⟩
  have keep : ∀ a, O a → H' a = H a := fun a ha => by
    cases q : H a with
    | none => exact absurd q (r.oin a ha)
    | some o => exact e _ _ q
  refine ⟨⟨r.oh, fun a ha => ?_, fun a h => h1 a (r.o0 a h), fun a ha => (by
    by_cases q : O a
    · exact r.o1 a q
    · exact .inr (r.h0 (h2 a ha q).1)), fun a o n h => e _ _ (r.ext a o n h), r.len, r.bd, r.tape.of (fun p _ o => ?_) l, fun i d hi h => ?_, fun i d hi h => ?_, r.inj⟩, l⟩
  · by_cases q : O a
    · rw [keep a q]; exact r.oin a q
    · exact (h2 a ha q).2
  · exact ⟨h1 p o, keep p o⟩
  · obtain ⟨v, a1, a2⟩ := r.fro i d hi h
    exact ⟨v, a1, a2.le l⟩
  · obtain ⟨p, a1, a2⟩ := r.own i d hi h
    exact ⟨p, a1, h1 p a2.o, a2.new, a2.npt, a2.at_.of (keep p a2.o) l⟩
theorem upd_le {p : Addr} {o : HO} (h : H p = none) : Le H (upd H p o) := fun a u e => by
  rw [upd_ne (ne_of_none e h)]; exact e
/-- a new frozen object -/
theorem R.new (r : R g S env T σ H O) {p : Addr} (o : HO) (h : H p = none) : R g S env T σ (upd H p o) O ∧ Le (fz H O) (fz (upd H p o) O) ∧ fz (upd H p o) O p = some o := by
  obtain ⟨a, b⟩ := r.grow (upd_le (o := o) h) (fun a h => h) (fun a h n => absurd h n)
  refine ⟨a, b, ?_⟩
  rw [fz_out fun q => r.oin p q h, upd_same]
/-- a new object of one's own -/
theorem R.newOwn (r : R g S env T σ H O) {p : Addr} (o : HO) (h : H p = none) : R g S env T σ (upd H p o) (fun a => O a ∨ a = p) ∧ Le (fz H O) (fz (upd H p o) (fun a => O a ∨ a = p)) :=
  r.grow (upd_le (o := o) h) (fun a h => .inl h) (fun a q n => by
    rcases q with q | q
    · exact absurd q n
    · subst q; exact ⟨h, by rw [upd_same]; simp⟩)
theorem R.h0new (r : R g S env T σ H O) {p : Addr} (h : H p = none) (np : ¬ g.mut p) : g.H0 p = none := by
  cases q : g.H0 p with
  | none => rfl
  | some o => rw [r.ext p o np q] at h; cases h
theorem R.npt (r : R g S env T σ H O) {p : Addr} (h : H p = none) : ¬ g.mut p := fun e => r.oin p (r.tape.mutO e) h
theorem R.slot_ne (r : R g S env T σ H O) {p : Addr} (h : H p = none) {i : Nat} {d : D} (hi : i ∈ S) (he : env[i]? = some (some d)) : σ[i]? ≠ some (some (V.ref p)) := fun e => by
  obtain ⟨q, a, b⟩ := r.own i d hi he
  rw [a] at e; cases e
  exact r.oin _ b.o h
/-- fewer slots own -/
theorem R.sub (r : R g S env T σ H O) {S' : List Nat} (hs : ∀ i, i ∈ S' → i ∈ S) : ∃ O', R g S' env T σ H O' ∧ Le (fz H O) (fz H O') ∧ ∀ a, O' a → O a := by
  let P : Addr → Prop := fun a => ∃ i d, i ∈ S ∧ i ∉ S' ∧ env[i]? = some (some d) ∧ σ[i]? = some (some (V.ref a))
  have l : Le (fz H O) (fz H fun a => O a ∧ ¬ P a) := fz_mono fun a o n h => ⟨fun q => n q.1, h⟩
  refine ⟨fun a => O a ∧ ¬ P a, ⟨r.oh, fun a ha => r.oin a ha.1, fun a h => ⟨r.o0 a h, fun ⟨i, d, h1, h2, h3, h4⟩ => ?_⟩, fun a h => r.o1 a h.1, r.ext, r.len, fun i h => r.bd i (hs i h), r.tape.of (fun p e o => ⟨⟨o, fun ⟨i, d, h1, h2, h3, h4⟩ => ?_⟩, rfl⟩) l, fun i d hi h => ?_, fun i d hi h => ?_,
    fun i j d d' p hi hj => r.inj i j d d' p (hs i hi) (hs j hj)⟩, l, fun a h => h.1⟩
  · obtain ⟨q, b1, b2⟩ := r.own i d h1 h3
    rw [b1] at h4; cases h4
    exact r.oh _ h b2.new
  · obtain ⟨q, b1, b2⟩ := r.own i d h1 h3
    rw [b1] at h4; cases h4
    exact b2.npt e
  · by_cases q : i ∈ S
    · obtain ⟨p, b1, b2⟩ := r.own i d q h
      have np : fz H (fun a => O a ∧ ¬ P a) p = H p := fz_out fun z => z.2 ⟨i, d, q, hi, h, b1⟩
      refine ⟨_, b1, ?_⟩
      have c := b2.at_
      cases d with
      | lst ds => obtain ⟨vs, c1, c2⟩ := c; exact .lst (np.trans c1) (c2.le l)
      | dct t es => obtain ⟨o, vs, c1, q, c2⟩ := c; exact .dct (np.trans c1) q (c2.le l)
      | _ => exact c.elim
    · obtain ⟨v, b1, b2⟩ := r.fro i d q h
      exact ⟨v, b1, b2.le l⟩
  · obtain ⟨p, b1, b2⟩ := r.own i d (hs i hi) h
    refine ⟨p, b1, ⟨b2.o, fun ⟨j, d', h1, h2, h3, h4⟩ => ?_⟩, b2.new, b2.npt, b2.at_.of rfl l⟩
    have := r.inj i j d d' p (hs i hi) h1 h h3 b1 h4
    subst this
    exact h2 hi
end
end Ev

/-! Ev: expressions -/
namespace Ev
open PySem PySem.Spec PyProof.Rows L2

inductive Mode where
  | fro | fre | bor
/-- a def's state as a whole: its slots, then what waits -/
structure Cf where
  g : Gh
  env : Ve
  tms : Ve
  σ : L2.St
  τ : L2.St
  xs : List Nat
def Cf.R (F : Cf) (S : List Nat) (T : Tp) (H : Hp) (O : Addr → Prop) : Prop := Ev.R F.g (S ++ F.xs) (F.env ++ F.tms) T (F.σ ++ F.τ) H O
def MOk (m : Mode) (F : Cf) (S : List Nat) (H : Hp) (O : Addr → Prop) (v : V) (d : D) : Prop := match m with
  | .fro => Rep F.g (fz H O) v d
  | .fre => ∃ p, v = .ref p ∧ OwnAt F.g H O p d ∧ ∀ (i : Nat) d', i ∈ S ++ F.xs → (F.env ++ F.tms)[i]? = some (some d') → (F.σ ++ F.τ)[i]? ≠ some (some (V.ref p))
  | .bor => ∀ H2 O2 T2, F.R S T2 H2 O2 → Le (fz H O) (fz H2 O2) → RepB F.g H2 O2 v d
/-- the class of an error by its name -/
def ec (X : Cx) (x : Str) : Value := (X.mg x).getD .none
def Po (X : Cx) (W : WX) (S : List Nat) (m : Mode) (F : Cf) (H : Hp) (O : Addr → Prop) (r : Res D) (Q : VK) : Prop := match r with
  | .ok d T' => ∀ v H' O', F.R S T' H' O' → Le (fz H O) (fz H' O') → MOk m F S H' O' v d → Q v H'
  | .ex x T' => ∀ H' O', F.R S T' H' O' → W (ec X x) none F.σ H'
  | .no => False
structure Fit0 (K : PySem.W.Frag) (w : World) (F : Cf) (σ : L2.St) : Prop where
  s : F.σ = σ
  k : F.g.K = K
  w : F.g.w = w
  l : F.env.length = F.σ.length
  x : ∀ i, i ∈ F.xs → F.env.length ≤ i
abbrev Fit (X : Cx) := Fit0 X.K X.w
def tE (X : Cx) (W : WX) (S : List Nat) (c : Ex) (m : Mode) : TE := fun σ H Q => ∃ F T O, Fit X F σ ∧ F.R S T H O ∧ Po X W S m F H O (c F.env T) Q
structure SE (X : Cx) (W : WX) (S : List Nat) (e : Expr) (c : Ex) (m : Mode) : Prop where
  pe : PE X e (tE X W S c m)
def tT (X : Cx) (W : WX) (S : List Nat) (c : Ex) : TT := fun σ H Q => tE X W S c .fro σ H fun v H' => ∃ b, v = .bl b ∧ Q b H'
structure ST (X : Cx) (W : WX) (S : List Nat) (e : Expr) (c : Ex) : Prop where
  pt : PT X e (tT X W S c)
theorem peMono {X : Cx} {e : Expr} {t t' : TE} (h : PE X e t) (i : ∀ σ H Q, t' σ H Q → t σ H Q) : PE X e t' := ⟨fun pins s σ H Q I q => h.run pins s σ H Q I (i _ _ _ q)⟩
theorem ptMono {X : Cx} {e : Expr} {t t' : TT} (h : PT X e t) (i : ∀ σ H Q, t' σ H Q → t σ H Q) : PT X e t' := ⟨fun pins s σ H Q I q => h.run pins s σ H Q I (i _ _ _ q)⟩
section
variable {X : Cx} {W : WX} {S : List Nat} {e a b : Expr} {c ca cb cc : Ex} {m m1 m2 : Mode} {F : Cf} {T T' : Tp} {σ : L2.St} {H H1 : Hp} {O O1 : Addr → Prop} {Q : VK}
theorem Po.le {r : Res D} (h : Po X W S m F H O r Q) (l : Le (fz H O) (fz H1 O1)) : Po X W S m F H1 O1 r Q := by
  cases r with
  | ok d T' => exact fun v H' O' r l' q => h v H' O' r (l.trans l') q
  | ex x T' => exact h
  | no => exact h
theorem Po.imp {Q' : VK} {r : Res D} (h : Po X W S m F H O r Q) (i : ∀ v H, Q v H → Q' v H) : Po X W S m F H O r Q' := by
  cases r with
  | ok d T' => exact fun v H' O' r l' q => i _ _ (h v H' O' r l' q)
  | ex x T' => exact h
  | no => exact h
theorem Po.now {d : D} {v : V} (h : Po X W S m F H O (.ok d T) Q) (r : F.R S T H O) (k : MOk m F S H O v d) : Q v H := h v H O r (Le.refl _) k
/-- first c, then k -/
theorem tE_bind {k : D → Tp → Res D} {Qn : VK} (f : Fit X F σ) (r : F.R S T H O) (h : Po X W S m F H O ((c F.env T).bind k) Q)
    (n : ∀ d T1 v H1 O1, F.R S T1 H1 O1 → Le (fz H O) (fz H1 O1) → MOk m1 F S H1 O1 v d → Po X W S m F H1 O1 (k d T1) Q → Qn v H1) : tE X W S c m1 σ H Qn := by
  refine ⟨F, T, O, f, r, ?_⟩
  cases e : c F.env T with
  | ok d T1 =>
    rw [e] at h
    exact fun v H1 O1 r1 l1 q => n d T1 v H1 O1 r1 l1 q (Po.le h l1)
  | ex x T1 =>
    rw [e] at h
    exact h
  | no =>
    rw [e] at h
    exact h
theorem fro_bor {v : V} {d : D} (h : MOk .fro F S H O v d) : MOk .bor F S H O v d := fun H2 O2 T2 r l => Rep.toB (Rep.le l h)
theorem bOf {v : V} {d : D} (h : MOk .bor F S H O v d) (r : F.R S T H O) : RepB F.g H O v d := h H O T r (Le.refl _)
theorem SE.bor (h : SE X W S e c .fro) : SE X W S e c .bor := ⟨peMono h.pe fun σ H Q ⟨F, T, O, f, r, p⟩ => ⟨F, T, O, f, r, by
  revert p
  cases c F.env T with
  | ok d T' => exact fun p v H' O' r l q => p v H' O' r l (fro_bor q)
  | ex x T' => exact id
  | no => exact id⟩⟩
end

/-! ### the pieces of meaning -/
def kE (d : D) : Ex := fun _ T => .ok d T
def vE (i : Nat) : Ex := fun env T => match env[i]? with
  | some (some d) => .ok d T
  | _ => .no
def ap1 (f : D → Option D) (a : Ex) : Ex := fun env T => (a env T).bind fun d T => ofO (f d) T
def ap2 (f : D → D → Option D) (a b : Ex) : Ex := fun env T => (a env T).bind fun d T => (b env T).bind fun e T => ofO (f d e) T
def ap3 (f : D → D → D → Option D) (a b c : Ex) : Ex := fun env T => (a env T).bind fun d T => (b env T).bind fun e T => (c env T).bind fun h T => ofO (f d e h) T
def isB (d : D) (T : Tp) : Res D := match d with
  | .bl b => .ok (.bl b) T
  | _ => .no
def andE (a b : Ex) : Ex := fun env T => (a env T).bind fun d T => match d with
  | .bl true => b env T
  | .bl false => .ok (.bl false) T
  | _ => .no
def orE (a b : Ex) : Ex := fun env T => (a env T).bind fun d T => match d with
  | .bl true => .ok (.bl true) T
  | .bl false => b env T
  | _ => .no
def notD : D → Option D
  | .bl b => some (.bl (!b))
  | _ => none
abbrev notE (a : Ex) : Ex := ap1 notD a
def iteE (c a b : Ex) : Ex := fun env T => (c env T).bind fun d T => match d with
  | .bl true => a env T
  | .bl false => b env T
  | _ => .no
def chE (f g : D → D → Option D) (a b c : Ex) : Ex := fun env T => (a env T).bind fun d T => (b env T).bind fun e T => match f d e with
  | some (.bl true) => (c env T).bind fun h T => ofO (g e h) T
  | some (.bl false) => .ok (.bl false) T
  | _ => .no
def esE : List Ex → Ve → Tp → Res (List D)
  | [], _, T => .ok [] T
  | a :: r, env, T => (a env T).bind fun d T => (esE r env T).bind fun ds T => .ok (d :: ds) T
def tupE (es : List Ex) : Ex := fun env T => (esE es env T).bind fun ds T => .ok (.tup ds) T
def lstE (es : List Ex) : Ex := fun env T => (esE es env T).bind fun ds T => .ok (.lst ds) T
def callE (f : List D → Tp → Res D) (es : List Ex) : Ex := fun env T => (esE es env T).bind fun ds T => f ds T
def apN (f : List D → Option D) (es : List Ex) : Ex := fun env T => (esE es env T).bind fun ds T => ofO (f ds) T

section
variable {X : Cx} {W : WX} {S : List Nat} {e a b : Expr} {c ca cb cc : Ex} {m m1 m2 : Mode} {F : Cf} {T T' : Tp} {σ : L2.St} {H H1 : Hp} {O O1 : Addr → Prop} {Q : VK}
/-- an operation on values -/
def Op1S (X : Cx) (S : List Nat) (r : V → Hp → VK → Prop) (f : D → Option D) (m : Mode) : Prop := ∀ (F : Cf) T H O v1 d1 d Q, F.g.K = X.K → F.g.w = X.w → F.R S T H O → RepB F.g H O v1 d1 → f d1 = some d →
  (∀ v H' O', F.R S T H' O' → Le (fz H O) (fz H' O') → MOk m F S H' O' v d → Q v H') → r v1 H Q
def Op2S (X : Cx) (S : List Nat) (r : R2) (f : D → D → Option D) (m : Mode) : Prop := ∀ (F : Cf) T H O v1 v2 d1 d2 d Q, F.g.K = X.K → F.g.w = X.w → F.R S T H O → RepB F.g H O v1 d1 → RepB F.g H O v2 d2 → f d1 d2 = some d →
  (∀ v H' O', F.R S T H' O' → Le (fz H O) (fz H' O') → MOk m F S H' O' v d → Q v H') → r v1 v2 H Q
theorem po_of {o : Option D} (h : Po X W S m F H O (ofO o T) Q) : ∃ d, o = some d ∧ ∀ v H' O', F.R S T H' O' → Le (fz H O) (fz H' O') → MOk m F S H' O' v d → Q v H' := by
  cases o with
  | some d => exact ⟨d, rfl, h⟩
  | none => exact False.elim h
theorem tOp_of {f : D → D → Option D} {r : R2} (hs : Op2S X S r f m) {σ : L2.St} {H : Hp} {Q : VK} (h : tE X W S (ap2 f ca cb) m σ H Q) : tOp r (tE X W S ca .bor) (tE X W S cb .bor) σ H Q := by
  obtain ⟨F, T, O, ft, r, p⟩ := h
  refine tE_bind ft r p fun d1 T1 v1 H1 O1 r1 l1 q1 p1 => ?_
  refine tE_bind ft r1 p1 fun d2 T2 v2 H2 O2 r2 l2 q2 p2 => ?_
  obtain ⟨d, e, k⟩ := po_of p2
  exact hs F T2 H2 O2 v1 v2 d1 d2 d Q ft.k ft.w r2 (q1 H2 O2 T2 r2 l2) (bOf q2 r2) e k
theorem se_op {op : Operator} {r : R2} {f : D → D → Option D} {pos : Pos} (ho : OpR X (binaryOp op) r) (hs : Op2S X S r f m) (ha : SE X W S a ca .bor) (hb : SE X W S b cb .bor) : SE X W S (.BinOp a op b pos) (ap2 f ca cb) m :=
  ⟨peMono (pe_op ho ha.pe hb.pe) fun _ _ _ h => tOp_of hs h⟩
theorem se_cmp {op : CmpOp} {r : R2} {f : D → D → Option D} {pos : Pos} (ho : OpR X (compareOp op) r) (hs : Op2S X S r f m) (ha : SE X W S a ca .bor) (hb : SE X W S b cb .bor) (hm : behindInMarks op b = false) : SE X W S (.Compare a [op] [b] pos) (ap2 f ca cb) m :=
  ⟨peMono (pe_cmpR ho ha.pe hb.pe hm) fun _ _ _ h => tOp_of hs h⟩
theorem st_cmp {op : CmpOp} {r : R2} {f : D → D → Option D} {pos : Pos} (ho : OpR X (compareOp op) r) (hs : Op2S X S r f .fro) (ha : SE X W S a ca .bor) (hb : SE X W S b cb .bor) (hm : behindInMarks op b = false) : ST X W S (.Compare a [op] [b] pos) (ap2 f ca cb) :=
  ⟨ptMono (pt_cmpR ho ha.pe hb.pe hm) fun _ _ _ h => tOp_of hs h⟩
theorem se_ix {r : R2} {f : D → D → Option D} {pos : Pos} (ho : IxR X r) (hs : Op2S X S r f m) (ha : SE X W S a ca .bor) (hb : SE X W S b cb .bor) (hp : PlainIx b) : SE X W S (.Subscript a b pos) (ap2 f ca cb) m :=
  ⟨peMono (pe_ix ho ha.pe hb.pe hp) fun _ _ _ h => tOp_of hs h⟩
theorem se_un {op : UnaryOp} {r : V → Hp → VK → Prop} {f : D → Option D} {pos : Pos} (ho : UnR X (unaryOp op) r) (hs : Op1S X S r f m) (ha : SE X W S a ca .bor) : SE X W S (.UnaryOp op a pos) (ap1 f ca) m :=
  ⟨peMono (pe_un ho ha.pe) fun σ H Q h => by
    obtain ⟨F, T, O, ft, r, p⟩ := h
    refine tE_bind ft r p fun d1 T1 v1 H1 O1 r1 l1 q1 p1 => ?_
    obtain ⟨d, e, k⟩ := po_of p1
    exact hs F T1 H1 O1 v1 d1 d Q ft.k ft.w r1 (bOf q1 r1) e k⟩
theorem st_val (h : SE X W S e c .fro) (he : ∀ whole, isTrue e X.env whole = (do let v ← whole; standAt e.pos; holding [v] (truthy v)) := by intro _; rfl) : ST X W S e c := ⟨pt_val h.pe he⟩
/-! ### names, constants -/
theorem R_at {g : Gh} {env : Ve} {i : Nat} {d : D} (r : Ev.R g S env T σ H O) (h : env[i]? = some (some d)) : ∃ v, σ[i]? = some (some v) ∧ RepB g H O v d := by
  by_cases hi : i ∈ S
  · obtain ⟨p, a, b⟩ := r.own i d hi h
    exact ⟨_, a, b.toB⟩
  · obtain ⟨v, a, b⟩ := r.fro i d hi h
    exact ⟨v, a, b.toB⟩
theorem vE_some {i : Nat} {env : Ve} {d : D} (h : vE i env T = .ok d T') : env[i]? = some (some d) ∧ T' = T := by
  unfold vE at h
  split at h
  · rename_i d' e; cases h; exact ⟨e, rfl⟩
  · cases h
theorem Fit0.at {i : Nat} (f : Fit X F σ) {d : D} (h : F.env[i]? = some (some d)) : (F.env ++ F.tms)[i]? = some (some d) ∧ ∀ v, (F.σ ++ F.τ)[i]? = some v → σ[i]? = some v := by
  have hl : i < F.env.length := by
    rcases Nat.lt_or_ge i F.env.length with q | q
    · exact q
    · rw [List.getElem?_eq_none q] at h; cases h
  refine ⟨by rw [List.getElem?_append_left hl]; exact h, fun v hv => ?_⟩
  rw [List.getElem?_append_left (by rw [← f.l]; exact hl)] at hv
  rw [← f.s]; exact hv
theorem Fit0.out {i : Nat} (f : Fit X F σ) {d : D} (hS : i ∉ S) (h : F.env[i]? = some (some d)) : i ∉ S ++ F.xs := fun q => by
  rcases List.mem_append.mp q with q | q
  · exact hS q
  · rw [List.getElem?_eq_none (f.x i q)] at h; cases h
theorem vE_no {i : Nat} {env : Ve} : (∃ d, env[i]? = some (some d) ∧ ∀ T, vE i env T = .ok d T) ∨ ∀ T, vE i env T = .no := by
  unfold vE
  rcases q : env[i]? with _ | _ | d
  · exact .inr fun _ => rfl
  · exact .inr fun _ => rfl
  · exact .inl ⟨d, rfl, fun _ => rfl⟩
theorem se_v (i : Nat) (hS : i ∉ S) (h : PE X e (tVar i)) : SE X W S e (vE i) .fro := ⟨peMono h fun σ H Q ⟨F, T, O, f, r, p⟩ => by
  rcases vE_no (i := i) (env := F.env) with ⟨d, e1, e2⟩ | e2
  · rw [e2] at p
    obtain ⟨a1, a2⟩ := f.at e1
    obtain ⟨v, b1, b2⟩ := r.fro i d (f.out hS e1) a1
    exact ⟨v, a2 _ b1, p.now r b2⟩
  · rw [e2] at p; exact False.elim p⟩
theorem se_vb (i : Nat) (h : PE X e (tVar i)) : SE X W S e (vE i) .bor := ⟨peMono h fun σ H Q ⟨F, T, O, f, r, p⟩ => by
  rcases vE_no (i := i) (env := F.env) with ⟨d, e1, e2⟩ | e2
  · rw [e2] at p
    obtain ⟨a1, a2⟩ := f.at e1
    obtain ⟨v, b1, b2⟩ := R_at r a1
    refine ⟨v, a2 _ b1, p.now r fun H2 O2 T2 r2 l2 => ?_⟩
    obtain ⟨v', c1, c2⟩ := R_at r2 a1
    rw [b1] at c1
    cases c1
    exact c2
  · rw [e2] at p; exact False.elim p⟩
def flat : D → Option V
  | .non => some .non
  | .bl b => some (.bl b)
  | .int i => some (.int i)
  | .str s => some (.str s)
  | _ => none
theorem flat_rep {g : Gh} {d : D} {v : V} (h : flat d = some v) : Rep g H v d := by
  cases d <;> first | (cases h; done) | (cases h; constructor)
theorem rep_flat {g : Gh} {d : D} {v u : V} (h : flat d = some v) (r : RepB g H O u d) : u = v := by
  cases d with
  | non => cases h; cases r; rfl
  | bl _ => cases h; cases r; rfl
  | int _ => cases h; cases r; rfl
  | str _ => cases h; cases r; rfl
  | _ => cases h
theorem se_k {v : V} {d : D} (hf : flat d = some v) (h : PE X e (tC v)) : SE X W S e (kE d) .fro := ⟨peMono h fun σ H Q ⟨F, T, O, f, r, p⟩ => p.now r (flat_rep hf)⟩
/-! ### and, or, not, if -/
theorem rep_bl {g : Gh} {b : Bool} {u : V} (r : RepB g H O u (.bl b)) : u = .bl b := rep_flat rfl r
theorem se_one {op} {pos : Pos} (h : SE X W S a ca m) : SE X W S (.BoolOp op [a] pos) ca m := ⟨pe_one h.pe⟩
theorem se_and {rest : List Expr} {pos : Pos} (ha : SE X W S a ca .bor) (hb : SE X W S (.BoolOp .And (b :: rest) pos) cb .fro) : SE X W S (.BoolOp .And (a :: b :: rest) pos) (andE ca cb) .fro :=
  ⟨peMono (pe_and ha.pe hb.pe) fun σ H Q h => by
    obtain ⟨F, T, O, ft, r, p⟩ := h
    refine tE_bind ft r p fun d1 T1 v1 H1 O1 r1 l1 q1 p1 => ?_
    cases d1 with
    | bl x =>
      have e := rep_bl (bOf q1 r1)
      subst e
      cases x with
      | true => exact ⟨true, rfl, F, T1, O1, ft, r1, p1⟩
      | false => exact ⟨false, rfl, p1.now r1 (.bl false)⟩
    | _ => exact False.elim p1⟩
theorem se_or {rest : List Expr} {pos : Pos} (ha : SE X W S a ca .bor) (hb : SE X W S (.BoolOp .Or (b :: rest) pos) cb .fro) : SE X W S (.BoolOp .Or (a :: b :: rest) pos) (orE ca cb) .fro :=
  ⟨peMono (pe_or ha.pe hb.pe) fun σ H Q h => by
    obtain ⟨F, T, O, ft, r, p⟩ := h
    refine tE_bind ft r p fun d1 T1 v1 H1 O1 r1 l1 q1 p1 => ?_
    cases d1 with
    | bl x =>
      have e := rep_bl (bOf q1 r1)
      subst e
      cases x with
      | true => exact ⟨true, rfl, p1.now r1 (.bl true)⟩
      | false => exact ⟨false, rfl, F, T1, O1, ft, r1, p1⟩
    | _ => exact False.elim p1⟩
theorem op_not : Op1S X S (fun x H Q => ∃ c, x = .bl c ∧ Q (.bl (!c)) H) notD .fro := fun F T H O v1 d1 d Q _ _ r q1 e k => by
  cases d1 with
  | bl x => cases e; exact ⟨x, rep_bl q1, k _ H O r (Le.refl _) (.bl _)⟩
  | _ => cases e
theorem se_not {pos : Pos} (ha : SE X W S a ca .bor) : SE X W S (.UnaryOp .Not a pos) (notE ca) .fro :=
  ⟨peMono (pe_not ha.pe) fun σ H Q h => by
    obtain ⟨F, T, O, ft, r, p⟩ := h
    refine tE_bind ft r p fun d1 T1 v1 H1 O1 r1 l1 q1 p1 => ?_
    obtain ⟨d, e, k⟩ := po_of p1
    exact op_not (X := X) F T1 H1 O1 v1 d1 d Q ft.k ft.w r1 (bOf q1 r1) e k⟩
theorem st_not {pos : Pos} (ha : ST X W S a ca) : ST X W S (.UnaryOp .Not a pos) (notE ca) :=
  ⟨ptMono (pt_not ha.pt) fun σ H Q h => by
    obtain ⟨F, T, O, ft, r, p⟩ := h
    refine tE_bind ft r p fun d1 T1 v1 H1 O1 r1 l1 q1 p1 => ?_
    obtain ⟨d, e, k⟩ := po_of p1
    cases d1 with
    | bl x =>
      cases e
      have e := rep_bl (bOf (fro_bor q1) r1)
      subst e
      obtain ⟨b, e1, e2⟩ := k _ H1 O1 r1 (Le.refl _) (.bl _)
      cases e1
      exact ⟨x, rfl, e2⟩
    | _ => cases e⟩
structure SW (X : Cx) (W : WX) (S : List Nat) (e : Expr) (c : Ex) : Prop where
  pw : PW X e (tT X W S c)
theorem pwMono {e : Expr} {t t' : TT} (h : PW X e t) (i : ∀ σ H Q, t' σ H Q → t σ H Q) : PW X e t' := ⟨fun wh pins s σ H Q I q => h.run wh pins s σ H Q I (i _ _ _ q)⟩
theorem SW.st (h : SW X W S e c) : ST X W S e c := ⟨h.pw.pt⟩
theorem sw_and1 {pos : Pos} (h : ST X W S a ca) : SW X W S (.BoolOp .And [a] pos) ca := ⟨pw_and1 h.pt⟩
theorem sw_or1 {pos : Pos} (h : ST X W S a ca) : SW X W S (.BoolOp .Or [a] pos) ca := ⟨pw_or1 h.pt⟩
theorem tT_bool {σ : L2.St} {H : Hp} {Q : Bool → Hp → Prop} {k : D → Tp → Res D} (f : Fit X F σ) (r : F.R S T H O) (h : Po X W S m F H O ((c F.env T).bind k) (fun v H' => ∃ b, v = .bl b ∧ Q b H'))
    {Qn : Bool → Hp → Prop} (hk : ∀ d T, (∀ b, d ≠ .bl b) → k d T = .no)
    (n : ∀ x T1 H1 O1, F.R S T1 H1 O1 → Le (fz H O) (fz H1 O1) → Po X W S m F H1 O1 (k (.bl x) T1) (fun v H' => ∃ b, v = .bl b ∧ Q b H') → Qn x H1) : tT X W S c σ H Qn := by
  refine tE_bind f r h fun d1 T1 v1 H1 O1 r1 l1 q1 p1 => ?_
  cases d1 with
  | bl x =>
    have e := rep_bl (bOf (fro_bor q1) r1)
    subst e
    exact ⟨x, rfl, n x T1 H1 O1 r1 l1 p1⟩
  | _ => rw [hk _ _ (fun b h => by cases h)] at p1; exact False.elim p1
theorem sw_and {rest : List Expr} {pos : Pos} (ha : ST X W S a ca) (hb : SW X W S (.BoolOp .And (b :: rest) pos) cb) : SW X W S (.BoolOp .And (a :: b :: rest) pos) (andE ca cb) :=
  ⟨pwMono (pw_and ha.pt hb.pw) fun σ H Q h => by
    obtain ⟨F, T, O, ft, r, p⟩ := h
    refine tT_bool ft r p (fun d T hd => by cases d <;> first | rfl | exact absurd rfl (hd _)) fun x T1 H1 O1 r1 l1 p1 => ?_
    cases x with
    | true => exact ⟨F, T1, O1, ft, r1, p1⟩
    | false =>
      obtain ⟨b, e1, e2⟩ := p1.now r1 (.bl false)
      cases e1
      exact e2⟩
theorem sw_or {rest : List Expr} {pos : Pos} (ha : ST X W S a ca) (hb : SW X W S (.BoolOp .Or (b :: rest) pos) cb) : SW X W S (.BoolOp .Or (a :: b :: rest) pos) (orE ca cb) :=
  ⟨pwMono (pw_or ha.pt hb.pw) fun σ H Q h => by
    obtain ⟨F, T, O, ft, r, p⟩ := h
    refine tT_bool ft r p (fun d T hd => by cases d <;> first | rfl | exact absurd rfl (hd _)) fun x T1 H1 O1 r1 l1 p1 => ?_
    cases x with
    | false => exact ⟨F, T1, O1, ft, r1, p1⟩
    | true =>
      obtain ⟨b, e1, e2⟩ := p1.now r1 (.bl true)
      cases e1
      exact e2⟩
theorem se_ite {t : Expr} {pos : Pos} (hc : ST X W S t c) (ha : SE X W S a ca m) (hb : SE X W S b cb m) : SE X W S (.IfExp t a b pos) (iteE c ca cb) m :=
  ⟨peMono (pe_ifExp hc.pt ha.pe hb.pe) fun σ H Q h => by
    obtain ⟨F, T, O, ft, r, p⟩ := h
    refine tE_bind ft r p fun d1 T1 v1 H1 O1 r1 l1 q1 p1 => ?_
    cases d1 with
    | bl x =>
      have e := rep_bl (bOf (fro_bor q1) r1)
      subst e
      cases x with
      | true => exact ⟨true, rfl, F, T1, O1, ft, r1, p1⟩
      | false => exact ⟨false, rfl, F, T1, O1, ft, r1, p1⟩
    | _ => exact False.elim p1⟩
/-! ### chains -/
theorem tChain_of {f g : D → D → Option D} {r r' : R2} {mm : Mode} (hs : Op2S X S r f .fro) (hs' : Op2S X S r' g .fro) {σ : L2.St} {H : Hp} {Q : VK} (h : tE X W S (chE f g ca cb cc) .fro σ H Q) : tChain r r' (tE X W S ca .bor) (tE X W S cb .bor) (tE X W S cc .bor) σ H Q := by
  obtain ⟨F, T, O, ft, r, p⟩ := h
  refine tE_bind ft r p fun d1 T1 v1 H1 O1 r1 l1 q1 p1 => ?_
  refine tE_bind ft r1 p1 fun d2 T2 v2 H2 O2 r2 l2 q2 p2 => ?_
  cases e : f d1 d2 with
  | none => rw [e] at p2; exact False.elim p2
  | some d =>
    refine hs F T2 H2 O2 v1 v2 d1 d2 d _ ft.k ft.w r2 (q1 H2 O2 T2 r2 l2) (bOf q2 r2) e fun v3 H3 O3 r3 l3 q3 => ?_
    rw [e] at p2
    cases d with
    | bl x =>
      cases q3
      cases x with
      | true =>
        refine ⟨true, rfl, ?_⟩
        rw [if_pos rfl]
        have p3 : Po X W S .fro F H3 O3 ((cc F.env T2).bind fun h T => ofO (g d2 h) T) Q := Po.le p2 l3
        refine tE_bind ft r3 p3 fun d4 T4 v4 H4 O4 r4 l4 q4 p4 => ?_
        obtain ⟨d5, e5, k5⟩ := po_of p4
        exact hs' F T4 H4 O4 v2 v4 d2 d4 d5 Q ft.k ft.w r4 (q2 H4 O4 T4 r4 (l3.trans l4)) (bOf q4 r4) e5 k5
      | false =>
        refine ⟨false, rfl, ?_⟩
        rw [if_neg Bool.false_ne_true]
        exact (Po.le p2 l3).now r3 (.bl false)
    | _ => exact False.elim p2
theorem se_chain {op op' : CmpOp} {r r' : R2} {f g : D → D → Option D} {x : Expr} {pos : Pos} (ho : OpR X (compareOp op) r) (ho' : OpR X (compareOp op') r') (hs : Op2S X S r f .fro) (hs' : Op2S X S r' g .fro) (ha : SE X W S a ca .bor) (hb : SE X W S b cb .bor) (hc : SE X W S x cc .bor)
    (hm : lastMarks [op, op'] [b, x] = false := by with_unfolding_all rfl) : SE X W S (.Compare a [op, op'] [b, x] pos) (chE f g ca cb cc) .fro :=
  ⟨peMono (pe_chain ho ho' ha.pe hb.pe hc.pe hm) fun _ _ _ h => tChain_of (mm := .fro) hs hs' h⟩
theorem st_chain {op op' : CmpOp} {r r' : R2} {f g : D → D → Option D} {x : Expr} {pos : Pos} (ho : OpR X (compareOp op) r) (ho' : OpR X (compareOp op') r') (hs : Op2S X S r f .fro) (hs' : Op2S X S r' g .fro) (ha : SE X W S a ca .bor) (hb : SE X W S b cb .bor) (hc : SE X W S x cc .bor)
    (hm : lastMarks [op, op'] [b, x] = false := by with_unfolding_all rfl) : ST X W S (.Compare a [op, op'] [b, x] pos) (chE f g ca cb cc) :=
  ⟨ptMono (pt_chain ho ho' ha.pe hb.pe hc.pe hm) fun _ _ _ h => tChain_of (mm := .fro) hs hs' h⟩
end
end Ev

/-! Ev: operators -/
namespace Ev
open PySem PySem.Spec PyProof.Rows L2

/-! ### new objects -/
section
variable {X : Cx} {W : WX} {S : List Nat} {m : Mode} {F : Cf} {T : Tp} {H : Hp} {O : Addr → Prop} {Q : VK} {vs : List V} {ds : List D}
theorem new_tup (r : F.R S T H O) (hl : RepL F.g (fz H O) vs ds) (k : ∀ v H' O', F.R S T H' O' → Le (fz H O) (fz H' O') → MOk .fro F S H' O' v (.tup ds) → Q v H') : ∀ p, H p = none → Q (.ref p) (upd H p (.tup vs)) := fun p hp => by
  obtain ⟨a, b, c⟩ := R.new r (.tup vs) hp
  exact k _ _ O a b (.tup (.inl (.inl c)) (hl.le b))
theorem new_lst (r : F.R S T H O) (hl : RepL F.g (fz H O) vs ds) (k : ∀ v H' O', F.R S T H' O' → Le (fz H O) (fz H' O') → MOk .fro F S H' O' v (.lst ds) → Q v H') : ∀ p, H p = none → Q (.ref p) (upd H p (.lst vs)) := fun p hp => by
  obtain ⟨a, b, c⟩ := R.new r (.lst vs) hp
  exact k _ _ O a b (.lst c (hl.le b))
theorem new_lstO (r : F.R S T H O) (hl : RepL F.g (fz H O) vs ds) (k : ∀ v H' O', F.R S T H' O' → Le (fz H O) (fz H' O') → MOk .fre F S H' O' v (.lst ds) → Q v H') : ∀ p, H p = none → Q (.ref p) (upd H p (.lst vs)) := fun p hp => by
  obtain ⟨a, b⟩ := R.newOwn r (.lst vs) hp
  have np := R.npt r hp
  exact k _ _ _ a b ⟨p, rfl, ⟨.inr rfl, R.h0new r hp np, np, vs, upd_same, hl.le b⟩, fun i d' hi he => R.slot_ne r hp hi he⟩
end

/-! ### reading values -/
section
variable {g : Gh} {H : Hp} {O : Addr → Prop} {v : V}
theorem rb_int {i : Int} (h : RepB g H O v (.int i)) : v = .int i := rep_flat rfl h
theorem rb_str {i : Str} (h : RepB g H O v (.str i)) : v = .str i := rep_flat rfl h
theorem rb_non (h : RepB g H O v .non) : v = .non := rep_flat rfl h
theorem rb_tup {ds : List D} (h : RepB g H O v (.tup ds)) : ∃ p vs, v = .ref p ∧ SqT g.K H p vs ∧ RepL g (fz H O) vs ds := by
  have h : Rep g (fz H O) v (.tup ds) := h
  cases h with
  | tup a b => exact ⟨_, _, rfl, fz_le.sqT a, b⟩
theorem rb_scr {ds : List D} (h : RepB g H O v (.scr ds)) : ∃ p vs, v = .ref p ∧ SqL g.K H p vs ∧ RepL g (fz H O) vs ds := by
  have h : Rep g (fz H O) v (.scr ds) := h
  cases h with
  | scr a b => exact ⟨_, _, rfl, fz_le.sqL a, b⟩
theorem rb_lst {ds : List D} (h : RepB g H O v (.lst ds)) : ∃ p vs, v = .ref p ∧ H p = some (.lst vs) ∧ RepL g (fz H O) vs ds := h
end

/-! ### data for == -/
mutual
def toP : D → Option PyData
  | .non => some .none
  | .bl b => some (.bool b)
  | .int i => some (.int i)
  | .str s => some (.str s)
  | .tup ds => (toPs ds).map .tuple
  | .lst ds => (toPs ds).map .list
  | _ => none
def toPs : List D → Option (List PyData)
  | [] => some []
  | d :: ds => match toP d, toPs ds with
    | some p, some ps => some (p :: ps)
    | _, _ => none
end
mutual
theorem Rep.dp {g : Gh} {H : Hp} : ∀ {v : V} {d : D} {p : PyData}, Rep g H v d → toP d = some p → Dp g.K H v p
  | _, _, _, .non, h => by unfold toP at h; cases h; exact .non
  | _, _, _, .bl b, h => by unfold toP at h; cases h; exact .bl b
  | _, _, _, .int b, h => by unfold toP at h; cases h; exact .int b
  | _, _, _, .str b, h => by unfold toP at h; cases h; exact .str b
  | _, .tup ds, _, .tup a r, h => by
    unfold toP at h
    cases e : toPs ds with
    | none => rw [e] at h; cases h
    | some ps => rw [e] at h; cases h; exact .tup a (RepL.dp r e)
  | _, .lst ds, _, .lst a r, h => by
    unfold toP at h
    cases e : toPs ds with
    | none => rw [e] at h; cases h
    | some ps => rw [e] at h; cases h; exact .lst (.inl (.inl a)) (RepL.dp r e)
  | _, _, _, .scr _ _, h => by unfold toP at h; cases h
  | _, _, _, .dct _ _ _, h => by unfold toP at h; cases h
  | _, _, _, .tape _, h => by unfold toP at h; cases h
  | _, _, _, .pin _, h => by unfold toP at h; cases h
  | _, _, _, .prm _, h => by unfold toP at h; cases h
  | _, _, _, .fnc _, h => by unfold toP at h; cases h
theorem RepL.dp {g : Gh} {H : Hp} : ∀ {vs : List V} {ds : List D} {ps : List PyData}, RepL g H vs ds → toPs ds = some ps → DpAll g.K H vs ps
  | _, _, _, .nil, h => by unfold toPs at h; cases h; exact .nil
  | _, d :: ds, _, .cons a r, h => by
    unfold toPs at h
    cases e : toP d with
    | none => rw [e] at h; cases h
    | some p =>
      cases e2 : toPs ds with
      | none => rw [e, e2] at h; cases h
      | some ps => rw [e, e2] at h; cases h; exact .cons (Rep.dp a e) (RepL.dp r e2)
end
theorem rb_dp {g : Gh} {H : Hp} {O : Addr → Prop} {v : V} {d : D} {p : PyData} (h : RepB g H O v d) (e : toP d = some p) : Dp g.K H v p := by
  cases d with
  | lst ds =>
    obtain ⟨q, vs, rfl, a, b⟩ := h
    unfold toP at e
    cases e2 : toPs ds with
    | none => rw [e2] at e; cases e
    | some ps => rw [e2] at e; cases e; exact .lst (.inl (.inl a)) (RepL.dp (b.le fz_le) e2)
  | dct t es => unfold toP at e; cases e
  | _ => exact Rep.dp (Rep.le fz_le (show Rep g (fz H O) v _ from h)) e

/-! ### the operators on data -/
def addD : D → D → Option D
  | .int i, .int j => some (.int (i + j))
  | .str x, .str y => if x.length + y.length ≤ sizeLine then some (.str (x ++ y)) else none
  | .tup a, .tup b => if a.length + b.length ≤ sizeLine then some (.tup (a ++ b)) else none
  | .lst a, .lst b => if a.length + b.length ≤ sizeLine then some (.lst (a ++ b)) else none
  | _, _ => none
def subD : D → D → Option D
  | .int i, .int j => some (.int (i - j))
  | _, _ => none
def smI (i : Int) : Bool := decide (-(2 ^ 64) < i) && decide (i < 2 ^ 64)
def mulD : D → D → Option D
  | .int i, .int j => if smI i || smI j then some (.int (i * j)) else none
  | _, _ => none
/-- [..] * n -/
def repD : D → D → Option D
  | .lst a, .int k => if decide (-(2 ^ 63) ≤ k) && decide (k < 2 ^ 63) && decide (a.length * k.toNat ≤ sizeLine) then some (.lst (List.replicate k.toNat a).flatten) else none
  | _, _ => none
def fdivD : D → D → Option D
  | .int i, .int j => if decide (j ≠ 0) && decide (j.natAbs < 1073741824) then some (.int (i.fdiv j)) else none
  | _, _ => none
def modD : D → D → Option D
  | .int i, .int j => if j ≠ 0 then some (.int (i.fmod j)) else none
  | _, _ => none
def powD : D → D → Option D
  | .int i, .int j => if decide (0 ≤ j) && decide (j ≤ 1000000) && decide (i.natAbs < 2 ^ 64) then some (.int (i ^ j.toNat)) else none
  | _, _ => none
def negD : D → Option D
  | .int i => some (.int (-i))
  | _ => none
def ltD : D → D → Option D
  | .int i, .int j => some (.bl (decide (i < j)))
  | _, _ => none
def leD : D → D → Option D
  | .int i, .int j => some (.bl (decide (i ≤ j)))
  | _, _ => none
def gtD : D → D → Option D
  | .int i, .int j => some (.bl (decide (j < i)))
  | _, _ => none
def geD : D → D → Option D
  | .int i, .int j => some (.bl (decide (j ≤ i)))
  | _, _ => none
def eqD (d e : D) : Option D := match toP d, toP e with
  | some p, some q => if SeqAt.shaped p && SeqAt.shaped q then some (.bl (PyData.eqv p q)) else none
  | _, _ => none
def neD (d e : D) : Option D := match toP d, toP e with
  | some p, some q => if SeqAt.shaped p && SeqAt.shaped q then some (.bl (!PyData.eqv p q)) else none
  | _, _ => none
def isNonD : D → Option Bool
  | .non => some true
  | .tape => none
  | .pin _ => none
  | .prm _ => none
  | .fnc _ => none
  | _ => some false
def isD (d e : D) : Option D := match e with
  | .non => (isNonD d).map .bl
  | _ => none
def isnD (d e : D) : Option D := match e with
  | .non => (isNonD d).map fun b => .bl (!b)
  | _ => none
def inP (d : D) (ds : List D) : Option Bool := match toP d, toPs ds with
  | some p, some ps => if SeqAt.shaped p && SeqAt.shaped (.list ps) then some (ps.any fun z => PyData.eqv z p) else none
  | _, _ => none
def ixD : D → D → Option D
  | .lst ds, .int i => atI ds i
  | .tup ds, .int i => atI ds i
  | .scr ds, .int i => atI ds i
  | .str z, .int i => if z.length ≤ sizeLine then (atI z.cps.toList i).map fun c => .str ⟨#[c]⟩ else none
  | _, _ => none

section
variable {X : Cx} {W : WX} {S : List Nat}
theorem opOr {f : Value → Value → Sem Value} {r1 r2 : R2} (h1 : OpR X f r1) (h2 : OpR X f r2) : OpR X f (fun x y H Q => r1 x y H Q ∨ r2 x y H Q) := by
  intro pins s σ H x y v u Q I rx ry h
  rcases h with h | h
  · exact h1 pins s σ H x y v u Q I rx ry h
  · exact h2 pins s σ H x y v u Q I rx ry h
theorem ixOr {r1 r2 : R2} (h1 : IxR X r1) (h2 : IxR X r2) : IxR X (fun x y H Q => r1 x y H Q ∨ r2 x y H Q) := by
  intro value slice pins s σ H x y v u Q I rx ry h hs
  rcases h with h | h
  · exact h1 value slice pins s σ H x y v u Q I rx ry h hs
  · exact h2 value slice pins s σ H x y v u Q I rx ry h hs
theorem o_sub : Op2S X S (rI0 fun i j => .int (i - j)) subD .fro := fun F T H O v1 v2 d1 d2 d Q _ _ rr q1 q2 e k => by
  unfold subD at e
  split at e
  · cases e
    exact ⟨_, _, rb_int q1, rb_int q2, k _ H O rr (Le.refl _) (.int _)⟩
  · cases e
theorem o_lt : Op2S X S (rI0 fun i j => .bl (decide (i < j))) ltD .fro := fun F T H O v1 v2 d1 d2 d Q _ _ rr q1 q2 e k => by
  unfold ltD at e
  split at e
  · cases e
    exact ⟨_, _, rb_int q1, rb_int q2, k _ H O rr (Le.refl _) (.bl _)⟩
  · cases e
theorem o_le : Op2S X S (rI0 fun i j => .bl (decide (i ≤ j))) leD .fro := fun F T H O v1 v2 d1 d2 d Q _ _ rr q1 q2 e k => by
  unfold leD at e
  split at e
  · cases e
    exact ⟨_, _, rb_int q1, rb_int q2, k _ H O rr (Le.refl _) (.bl _)⟩
  · cases e
theorem o_gt : Op2S X S (rI0 fun i j => .bl (decide (j < i))) gtD .fro := fun F T H O v1 v2 d1 d2 d Q _ _ rr q1 q2 e k => by
  unfold gtD at e
  split at e
  · cases e
    exact ⟨_, _, rb_int q1, rb_int q2, k _ H O rr (Le.refl _) (.bl _)⟩
  · cases e
theorem o_ge : Op2S X S (rI0 fun i j => .bl (decide (j ≤ i))) geD .fro := fun F T H O v1 v2 d1 d2 d Q _ _ rr q1 q2 e k => by
  unfold geD at e
  split at e
  · cases e
    exact ⟨_, _, rb_int q1, rb_int q2, k _ H O rr (Le.refl _) (.bl _)⟩
  · cases e
theorem o_mod : Op2S X S (rI (fun _ j => j ≠ 0) fun i j => .int (i.fmod j)) modD .fro := fun F T H O v1 v2 d1 d2 d Q _ _ rr q1 q2 e k => by
  unfold modD at e
  split at e
  · split at e
    · rename_i hc
      cases e
      exact ⟨_, _, rb_int q1, rb_int q2, hc, k _ H O rr (Le.refl _) (.int _)⟩
    · cases e
  · cases e
theorem o_fdiv : Op2S X S (rI CDivN fun i j => .int (i.fdiv j)) fdivD .fro := fun F T H O v1 v2 d1 d2 d Q _ _ rr q1 q2 e k => by
  unfold fdivD at e
  split at e
  · split at e
    · rename_i hc
      cases e
      exact ⟨_, _, rb_int q1, rb_int q2, (by rw [Bool.and_eq_true, decide_eq_true_eq, decide_eq_true_eq] at hc; exact hc), k _ H O rr (Le.refl _) (.int _)⟩
    · cases e
  · cases e
theorem o_pow : Op2S X S (rI CPow fun i j => .int (i ^ j.toNat)) powD .fro := fun F T H O v1 v2 d1 d2 d Q _ _ rr q1 q2 e k => by
  unfold powD at e
  split at e
  · split at e
    · rename_i hc
      cases e
      exact ⟨_, _, rb_int q1, rb_int q2, (by rw [Bool.and_eq_true, Bool.and_eq_true, decide_eq_true_eq, decide_eq_true_eq, decide_eq_true_eq] at hc; exact ⟨hc.1.1, hc.1.2, hc.2⟩), k _ H O rr (Le.refl _) (.int _)⟩
    · cases e
  · cases e
theorem o_mul : Op2S X S (rI CMul fun i j => .int (i * j)) mulD .fro := fun F T H O v1 v2 d1 d2 d Q _ _ rr q1 q2 e k => by
  unfold mulD at e
  split at e
  · split at e
    · rename_i hc
      cases e
      exact ⟨_, _, rb_int q1, rb_int q2, (by unfold smI at hc; simp only [Bool.or_eq_true, Bool.and_eq_true, decide_eq_true_eq] at hc; exact hc), k _ H O rr (Le.refl _) (.int _)⟩
    · cases e
  · cases e
theorem o_neg : Op1S X S (rU fun i => .int (-i)) negD .fro := fun F T H O v1 d1 d Q _ _ r q1 e k => by
  unfold negD at e
  split at e
  · cases e; exact ⟨_, rb_int q1, k _ H O r (Le.refl _) (.int _)⟩
  · cases e
def rAdd4 (X : Cx) : R2 := fun x y H Q => (((rI0 fun i j => .int (i + j)) x y H Q ∨ (∃ i j, x = .str i ∧ y = .str j ∧ i.length + j.length ≤ sizeLine ∧ Q (.str (i ++ j)) H)) ∨ rCatA X.K x y H Q) ∨ rCat x y H Q
theorem op_add4 : OpR X (binaryOp .Add) (rAdd4 X) := opOr (opOr (opOr op_add op_add_str) op_catA) op_cat
theorem o_add : Op2S X S (rAdd4 X) addD .fro := fun F T H O v1 v2 d1 d2 d Q hK _ r q1 q2 e k => by
  unfold addD at e
  split at e
  · cases e
    rw [rb_int q1, rb_int q2]
    exact .inl (.inl (.inl ⟨_, _, rfl, rfl, k _ H O r (Le.refl _) (.int _)⟩))
  · split at e
    · rename_i hl
      cases e
      rw [rb_str q1, rb_str q2]
      exact .inl (.inl (.inr ⟨_, _, rfl, rfl, hl, k _ H O r (Le.refl _) (.str _)⟩))
    · cases e
  · rename_i a b
    split at e
    · rename_i hl
      cases e
      obtain ⟨p, vs, rfl, a1, b1⟩ := rb_tup q1
      obtain ⟨p2, ws, rfl, a2, b2⟩ := rb_tup q2
      rw [hK] at a1 a2
      refine .inl (.inr ⟨p, p2, vs, ws, rfl, rfl, a1, a2, by rw [b1.len, b2.len]; exact hl, fun z => ?_, fun _ z => ?_, fun _ _ => ?_⟩)
      · subst z
        cases b1
        exact k _ H O r (Le.refl _) q2
      · subst z
        cases b2
        rw [List.append_nil] at k
        exact k _ H O r (Le.refl _) q1
      · exact new_tup r (b1.append b2) k
    · cases e
  · rename_i a b
    split at e
    · rename_i hl
      cases e
      obtain ⟨p, vs, rfl, a1, b1⟩ := rb_lst q1
      obtain ⟨p2, ws, rfl, a2, b2⟩ := rb_lst q2
      exact .inr ⟨p, p2, vs, ws, rfl, rfl, a1, a2, by rw [b1.len, b2.len]; exact hl, new_lst r (b1.append b2) k⟩
    · cases e
  · cases e
theorem RepL.flatten_rep {g : Gh} {H : Hp} {vs : List V} {ds : List D} (h : RepL g H vs ds) : ∀ n : Nat, RepL g H (List.replicate n vs).flatten (List.replicate n ds).flatten
  | 0 => .nil
  | n + 1 => by
    rw [List.replicate_succ, List.replicate_succ, List.flatten_cons, List.flatten_cons]
    exact h.append (flatten_rep h n)
theorem o_rep : Op2S X S rRep repD .fre := fun F T H O v1 v2 d1 d2 d Q hK _ r q1 q2 e k => by
  unfold repD at e
  split at e
  · split at e
    · rename_i a i hl
      cases e
      obtain ⟨p, vs, rfl, a1, b1⟩ := rb_lst q1
      rw [rb_int q2]
      simp only [Bool.and_eq_true, decide_eq_true_eq] at hl
      exact ⟨p, _, vs, rfl, rfl, a1, hl.1.1, hl.1.2, by rw [b1.len]; exact hl.2, new_lstO r (b1.flatten_rep _) k⟩
    · cases e
  · cases e
theorem o_eq : Op2S X S (rEqD X.K) eqD .fro := fun F T H O v1 v2 d1 d2 d Q hK _ r q1 q2 e k => by
  unfold eqD at e
  split at e
  · rename_i p q e1 e2
    split at e
    · rename_i hs
      cases e
      rw [Bool.and_eq_true] at hs
      have h1 := rb_dp q1 e1
      have h2 := rb_dp q2 e2
      rw [hK] at h1 h2
      exact ⟨p, q, h1, h2, hs.1, hs.2, k _ H O r (Le.refl _) (.bl _)⟩
    · cases e
  · cases e
theorem o_ne : Op2S X S (rNeD X.K) neD .fro := fun F T H O v1 v2 d1 d2 d Q hK _ r q1 q2 e k => by
  unfold neD at e
  split at e
  · rename_i p q e1 e2
    split at e
    · rename_i hs
      cases e
      rw [Bool.and_eq_true] at hs
      have h1 := rb_dp q1 e1
      have h2 := rb_dp q2 e2
      rw [hK] at h1 h2
      exact ⟨p, q, h1, h2, hs.1, hs.2, k _ H O r (Le.refl _) (.bl _)⟩
    · cases e
  · cases e
theorem rb_isnon {g : Gh} {H : Hp} {O : Addr → Prop} {v : V} {d : D} {b : Bool} (h : RepB g H O v d) (e : isNonD d = some b) : decide (v = .non) = b := by
  cases d with
  | non => cases e; rw [rb_non h]; rfl
  | tape => cases e
  | pin o => cases e
  | prm o => cases e
  | fnc o => cases e
  | bl x => cases e; rw [rep_bl h]; rfl
  | int x => cases e; rw [rb_int h]; rfl
  | str x => cases e; rw [rb_str h]; rfl
  | tup ds => cases e; obtain ⟨p, vs, rfl, _⟩ := rb_tup h; rfl
  | scr ds => cases e; obtain ⟨p, vs, rfl, _⟩ := rb_scr h; rfl
  | lst ds => cases e; obtain ⟨p, vs, rfl, _⟩ := h; rfl
  | dct t ds => cases e; obtain ⟨p, _, vs, rfl, _⟩ := h; rfl
theorem o_is : Op2S X S (fun x y H Q => y = .non ∧ Q (.bl (decide (x = .non))) H) isD .fro := fun F T H O v1 v2 d1 d2 d Q hK _ r q1 q2 e k => by
  unfold isD at e
  split at e
  · cases e2 : isNonD d1 with
    | none => rw [e2] at e; cases e
    | some b =>
      rw [e2] at e
      cases e
      refine ⟨rb_non q2, ?_⟩
      rw [rb_isnon q1 e2]
      exact k _ H O r (Le.refl _) (.bl _)
  · cases e
theorem o_isn : Op2S X S (fun x y H Q => y = .non ∧ Q (.bl (!decide (x = .non))) H) isnD .fro := fun F T H O v1 v2 d1 d2 d Q hK _ r q1 q2 e k => by
  unfold isnD at e
  split at e
  · cases e2 : isNonD d1 with
    | none => rw [e2] at e; cases e
    | some b =>
      rw [e2] at e
      cases e
      refine ⟨rb_non q2, ?_⟩
      rw [rb_isnon q1 e2]
      exact k _ H O r (Le.refl _) (.bl _)
  · cases e
/-! ### places -/
theorem atI_rep {g : Gh} {H : Hp} {vs : List V} {ds : List D} {i : Int} {d : D} (r : RepL g H vs ds) (h : atI ds i = some d) : ∃ v, atI vs i = some v ∧ Rep g H v d := by
  unfold atI at *
  rw [r.len]
  cases e : ixN ds.length i with
  | none => rw [e] at h; cases h
  | some j => rw [e] at h; exact r.get h
def rIx3 (X : Cx) : R2 := fun x y H Q => (rIxL X.K x y H Q ∨ rIxT X.K x y H Q) ∨ rIxS x y H Q
theorem ix3 : IxR X (rIx3 X) := ixOr (ixOr ix_list ix_tup) ix_str
theorem o_ix : Op2S X S (rIx3 X) ixD .fro := fun F T H O v1 v2 d1 d2 d Q hK _ r q1 q2 e k => by
  unfold ixD at e
  split at e
  · rename_i ds i
    obtain ⟨p, vs, rfl, a1, b1⟩ := rb_lst q1
    rw [rb_int q2]
    obtain ⟨v, c1, c2⟩ := atI_rep b1 e
    exact .inl (.inl ⟨p, vs, i, v, rfl, rfl, .inl (.inl a1), c1, k _ H O r (Le.refl _) c2⟩)
  · rename_i ds i
    obtain ⟨p, vs, rfl, a1, b1⟩ := rb_tup q1
    rw [rb_int q2]
    obtain ⟨v, c1, c2⟩ := atI_rep b1 e
    rw [hK] at a1
    exact .inl (.inr ⟨p, vs, i, v, rfl, rfl, a1, c1, k _ H O r (Le.refl _) c2⟩)
  · rename_i ds i
    obtain ⟨p, vs, rfl, a1, b1⟩ := rb_scr q1
    rw [rb_int q2]
    obtain ⟨v, c1, c2⟩ := atI_rep b1 e
    rw [hK] at a1
    exact .inl (.inl ⟨p, vs, i, v, rfl, rfl, a1, c1, k _ H O r (Le.refl _) c2⟩)
  · rename_i z i
    rw [rb_str q1, rb_int q2]
    split at e
    · rename_i hz
      cases e2 : atI z.cps.toList i with
      | none => rw [e2] at e; cases e
      | some c =>
        rw [e2] at e
        cases e
        exact .inr ⟨z, i, c, rfl, rfl, hz, e2, k _ H O r (Le.refl _) (.str _)⟩
    · cases e
  · cases e
end
end Ev

/-! Ev: calls that know that no guard stands around them (repr of what holds things asks for it) -/
namespace Ev
open PySem PySem.Spec PyProof.Rows L2
structure RoomG (k : Nat) (A : Around) : Prop extends Room k A where
  gd : A.guards = some []
theorem RoomG.mono {j k : Nat} {A : Around} (r : RoomG k A) (h : j ≤ k) : RoomG j A := ⟨r.toRoom.mono h, r.gd⟩
theorem RoomG.deeper {k : Nat} {A : Around} (r : RoomG (k + 1) A) (env : Env) : RoomG k (A.deeper env) := ⟨r.toRoom.deeper env, r.gd⟩
/-- a def's promise where no guard stands -/
structure FnG (P : Program) (w : World) (K : PySem.W.Frag) (mg : Str → Option Value) (base : Heap) (CX : CXT) (k : Nat) (f : Addr) (fd : FuncData) (ps : List Str) (sp : Sp) : Prop where
  len : ∀ vs H Q E, sp vs H Q E → vs.length = ps.length
  run : ∀ (A : Around) (outer : List Env) (s : Shared) (H : Hp) (args : Args) (us : List Value) (vs : List V) (Q : VK) (E : XK), RoomG k A → Env0 P w K mg base A outer s H → BindsTo s fd args (ps.zip us) → Vals vs us → sp vs H Q E →
    codeAny (model P w) A (.call (.ref f) args) (CR CX outer P w H s Q E) s
theorem FnG.mono {P : Program} {w : World} {K : PySem.W.Frag} {mg : Str → Option Value} {base : Heap} {CX : CXT} {j k : Nat} {f : Addr} {fd : FuncData} {ps : List Str} {sp : Sp} (F : FnG P w K mg base CX j f fd ps sp) (h : j ≤ k) : FnG P w K mg base CX k f fd ps sp := ⟨F.len, fun A outer s H args us vs Q E hr => F.run A outer s H args us vs Q E (hr.mono h)⟩
section
variable {X : Cx} {CX : CXT} {k : Nat} {f : Addr} {fd : FuncData} {ps : List Str} {sp : Sp} {E : L2.St → XK} {x : Str} {p pos : Pos} {e : Expr} {es : List Expr} {t : TA}
theorem pe_callG (F : FnG X.prog X.w X.K X.mg X.base CX k f fd ps sp) (hr : RoomG k X.A) (hg : Gl X x) (hm : X.mg x = some (.ref f)) (hk : PySem.W.keepIn X.K (.ref f) = true) (hb : Binds X.K fd ps []) (hx : ∀ σ, PassesAt CX X σ (E σ))
    (ha : PA X (e :: es) t) (hdb : (x == ("__debug__" : Str)) = false := by decide) (he : starEach (e :: es) X.env = (false, eval e X.env) :: starEach es X.env := by rfl) (hpl : (backTo pos (starEach es X.env)).any (·.1) = false := by rfl) :
    PE X (.Call (.Name x p) (e :: es) [] pos) (tCallS sp E t) := by
  refine ⟨fun pins s σ H Q I h => wpAny_Call_Name_kw (ld_glob I hg hm ?_ hdb)⟩
  refine PySem.W.callWith_K (h₀ := X.base) I.ok.mod.kin hk (thn (ha.run pos pins s σ H _ I h) fun us s1 ⟨vs, H1, I1, r, q⟩ => ⟨I1.kIn, ?_⟩) he hpl
  have b := hb s1 us I1.kIn (by rw [List.append_nil, ← r.length]; exact F.len _ _ _ _ q)
  rw [List.append_nil] at b
  refine wpAny_call (codeAny_mono (F.run X.A X.stack s1 H1 ⟨us, []⟩ us vs Q (E σ) hr I1.env0 b r q) fun z s' hq => ?_)
  match z, hq with
  | .error e, hq => exact hx σ pins H1 s1 e s' I1 hq
  | .ok (.ret u), hq => exact I1.after hq
  | .ok .next, hq => exact False.elim hq
  | .ok .brk, hq => exact False.elim hq
  | .ok .cont, hq => exact False.elim hq
end
section
variable {P : Program} {w : World} {K : PySem.W.Frag} {mg : Str → Option Value} {base : Heap}
theorem okXG {x qual : Str} {st : Stmt} {f : Addr} {fd : FuncData} {N ps : List Str} {k : Nat} {sp : Sp} (F : Fun K x qual st f fd) (S : FnScope N ps (defScope st)) (len : ∀ vs H Q E, sp vs H Q E → vs.length = ps.length)
    (hbody : ∀ (cdv : Value) (A : Around) (outer : List Env) (s : Shared) (H : Hp) (vs : List V) (Q : VK) (E : XK), RoomG k (A.deeper (envOfC qual (defScope st) s.heap.objs.size f cdv)) → sp vs H Q E →
      ∃ t, PSs (cxOf (L2.CX P w) P w K mg base N qual (defScope st) f cdv A outer s H E) (defBody st) t ∧ t { nx := fun _ H' => Q .non H', rt := Q } (start N vs) H) : FnG P w K mg base (L2.CX P w) (k + 1) f fd ps sp := by
  obtain ⟨oc, od, kV, doc, pm, an, cdv, ct, osl, rfl, lk, hcd⟩ := F.ex
  refine ⟨len, fun A outer s H args us vs Q E hr e0 hb r hsp => ?_⟩
  have hl := len _ _ _ _ hsp
  have KX : K.In s.heap := e0.mod.kin.keeps fun b o e => (e0.bs b o e).1
  have lim : s.heap.NoLimit := e0.mod.nolimit.keeps fun b o e => (e0.bs b o e).1
  have hkind : ∀ y ∈ ps.zip us, (defScope st).names.lookup y.1 = some .local ∨ ((defScope st).names.lookup y.1 = some .cell ∧ ((cellsFrom (s.heap.objs.size + 1) (defScope st).names []).lookup y.1).isSome = true) := fun y hy =>
    (S.par y.1 (List.of_mem_zip hy).1).imp id fun q => ⟨q, PySem.W.cellsFrom_some _ _ _ (.inl q)⟩
  refine codeAny_call_function hr.depth (KX _ _ lk) rfl S.co S.gen rfl (PySem.W.codeRec_of KX hcd) (hb _ _ _ _ (wpAny_newFunctionEnv_cells S.kind hkind fun env he s1 x => ?_))
  subst he
  refine ⟨lim.keeps x.toInCall.keep, codeAny_func ?_⟩
  obtain ⟨t, ht, hq⟩ := hbody cdv A outer s H vs Q E (hr.deeper _) hsp
  have I : Inv (cxOf (L2.CX P w) P w K mg base N qual (defScope st) f cdv A outer s H E) [] (start N vs) H s1 := inv_start S hr.hd e0 hl r x
  refine wpAny_mono (ht.run [] s1 (start N vs) H _ I hq) (fun fl s' hs => ?_) fun e s' hs => hs
  have fin : ∀ {σ' : L2.St} {H' : Hp} {v : V} {u : Value}, Inv (cxOf (L2.CX P w) P w K mg base N qual (defScope st) f cdv A outer s H E) [] σ' H' s' → RelV v u → Q v H' → CE outer P w H s Q u s' :=
    fun {σ' H' v u} J rv q => ⟨v, H', J.os, J.bare, J.base, J.hok, rv, q⟩
  match fl, hs with
  | .ret u, ⟨v, σ', H', J, rv, q⟩ => exact fin J rv q
  | .next, ⟨σ', H', J, q⟩ => exact fin (v := V.non) (u := Value.none) J rfl q
  | .brk, ⟨_, _, _, q⟩ => exact False.elim q
  | .cont, ⟨_, _, _, q⟩ => exact False.elim q
end
/-! ### the law's call: nothing stands around it -/
section
variable {P : Program} {w : World} {K : PySem.W.Frag} {mg mb : Str → Option Value} {CX : CXT} {k : Nat} {fa a : Addr} {fd : FuncData} {x : Str} {sp : Sp} {s₁ : Shared} {vs : List Value} {ns : List Int}
/-- from an abstract heap in which at most the script stands -/
theorem law_core {H : Hp} (KX : K.In s₁.heap) (hns : s₁.heap.Ns mainGlobals mg) (hb : s₁.heap.Ns builtinsNs mb) (hbb : ∀ x : Str, x ≠ "__name__" → mb x = bootBuiltins x) (hlim : s₁.heap.NoLimit) (hg : s₁.gens = #[])
    (ha : s₁.heap.get? a = some { cls := .type "list", data := .seq vs.toArray }) (hr : Room k callerA)
    (F : ∀ base : Heap, K.In base → base.Ns mainGlobals mg → FnG P w K mg base CX k fa fd [x] sp) (hbind : ∀ (s : Shared) (u : Value), BindsTo s fd ⟨[u], []⟩ [(x, u)])
    (hsp : sp [.ref a] H (fun v _ => v = .bl true) fun _ _ _ => False) (hCX : ∀ H e s', CX [] H s₁ (fun _ _ _ => False) e s' → False)
    (hO : Only H) (hok : HOk P w H s₁.heap) (hA : ∀ b, H b ≠ none → b = a) (hK : H a ≠ none → K.lookup a = none) :
    codeAny (model P w) callerA (.call (.ref fa) ⟨[.ref a], []⟩) (fun r s' => r = .ok (.ret (.bool true)) ∧ OldK s₁.heap s'.heap ∧ s'.os = s₁.os ∧ AllBare s'.gens) s₁ := by
  have away : ∀ {b : Addr}, b ≠ a → H b = none := fun {b} n => Classical.byContradiction fun q => n (hA b q)
  have nsK : ∀ {b : Addr} {m : Str → Option Value}, s₁.heap.Ns b m → (hidT s₁.heap H).Ns b m := fun {b m} ⟨o, es, ep, e, d, r⟩ => ⟨o, es, ep, hidT_get e (away fun z => by
    subst z; rw [ha] at e; cases e; cases (show Data.seq vs.toArray _ = Data.dict es ep from d)), d, r⟩
  have hKb : K.In (hidT s₁.heap H) := fun b o e => hidT_get (KX b o e) (Classical.byContradiction fun q => by
    have z := hA b q
    subst z
    rw [hK q] at e; cases e)
  have hM : Mod K mg (hidT s₁.heap H) := ⟨hKb, nsK hns, ⟨mb, nsK hb, hbb⟩, let ⟨mc, h1, h2⟩ := hlim; ⟨mc, nsK h1, h2⟩⟩
  have e0 : Env0 P w K mg (hidT s₁.heap H) callerA [] s₁ H := ⟨rfl, hM, fun b o e => of_hidT e, Nat.le_of_eq (hidT_size _ _), trivial, fun b hb => absurd (show b ∈ ([] : List Addr) from hb) (by simp), hok, .of_eq hg⟩
  refine codeAny_mono ((F _ hKb (nsK hns)).run callerA [] s₁ H ⟨[.ref a], []⟩ [.ref a] [.ref a] _ _ ⟨hr, rfl⟩ e0 (hbind s₁ (.ref a)) (.cons rfl .nil) hsp) fun r s' h => ?_
  match r, h with
  | .error e, h => exact (hCX H e s' h).elim
  | .ok .next, h => exact False.elim h
  | .ok .brk, h => exact False.elim h
  | .ok .cont, h => exact False.elim h
  | .ok (.ret u), ⟨v, H', os, bare, un, hok', r', q⟩ =>
    obtain rfl : v = V.bl true := q
    obtain rfl : u = Value.bool true := r'
    refine ⟨rfl, OldK.of_keep fun b o e => ?_, os, bare⟩
    rcases hO b with z | ⟨ob, xs, z⟩
    · exact un.keep b o e z (by intro z; exact absurd (show b ∈ ([] : List Addr) from z) (by simp)) (by simp)
    · obtain ⟨e1, _⟩ := hok b _ z
      obtain ⟨e2, _⟩ := hok' b _ (un.frzs b ob _ z)
      rw [e] at e1; cases e1
      exact e2
theorem law_callG (KX : K.In s₁.heap) (hns : s₁.heap.Ns mainGlobals mg) (hb : s₁.heap.Ns builtinsNs mb) (hbb : ∀ x : Str, x ≠ "__name__" → mb x = bootBuiltins x) (hlim : s₁.heap.NoLimit) (hg : s₁.gens = #[])
    (ha : s₁.heap.get? a = some { cls := .type "list", data := .seq vs.toArray }) (hi : IntsAre vs ns) (hl : ns.length ≤ sizeLine) (hr : Room k callerA)
    (F : ∀ base : Heap, K.In base → base.Ns mainGlobals mg → FnG P w K mg base CX k fa fd [x] sp) (hbind : ∀ (s : Shared) (u : Value), BindsTo s fd ⟨[u], []⟩ [(x, u)])
    (hsp : ∀ H : Hp, Only H → SqL K H a (ns.map V.int) → sp [.ref a] H (fun v _ => v = .bl true) fun _ _ _ => False)
    (hCX : ∀ H e s', CX [] H s₁ (fun _ _ _ => False) e s' → False) :
    codeAny (model P w) callerA (.call (.ref fa) ⟨[.ref a], []⟩) (fun r s' => r = .ok (.ret (.bool true)) ∧ OldK s₁.heap s'.heap ∧ s'.os = s₁.os ∧ AllBare s'.gens) s₁ := by
  have rv := vals_ints hi
  have lenV := hi.length
  cases hk : K.lookup a with
  | some o =>
    have e := KX a o hk
    rw [ha] at e
    cases e
    have hO : Only fun _ => none := fun _ => .inl rfl
    exact law_core (H := fun _ => none) KX hns hb hbb hlim hg ha hr F hbind (hsp _ hO (.inr ⟨_, vs.toArray, _, hk, rfl, rfl, rfl, by rw [List.size_toArray, lenV]; exact hl, by simpa using rv⟩)) hCX hO
      (fun b u z => by have z' : (none : Option HO) = some u := z; cases z') (fun b z => absurd rfl z) fun z => absurd rfl z
  | none =>
    let H0 : Hp := fun b => if b = a then some (.frz { cls := .type "list", data := .seq vs.toArray } (.lst (ns.map V.int))) else none
    have at0 : H0 a = some (.frz { cls := .type "list", data := .seq vs.toArray } (.lst (ns.map V.int))) := if_pos rfl
    have off : ∀ {b : Addr}, b ≠ a → H0 b = none := fun {b} n => if_neg n
    have hO : Only H0 := fun b => by
      by_cases z : b = a
      · subst z; exact .inr ⟨_, _, at0⟩
      · exact .inl (off z)
    refine law_core (H := H0) KX hns hb hbb hlim hg ha hr F hbind (hsp _ hO (.inl (.inr ⟨_, at0⟩))) hCX hO (fun b u z => ?_) (fun b z => Classical.byContradiction fun q => z (off q)) fun _ => hk
    by_cases q : b = a
    · subst q
      rw [at0] at z
      cases z
      exact ⟨ha, by rw [List.length_map]; exact hl, vs, _, rv, ha⟩
    · rw [off q] at z; cases z
end
theorem walk_ofG {l : PySem.W.OpenLaw} {n k : Nat} {q : Program} {loose : List Str} {XP : (Str → Option Value) → Heap → Prop} {YP : World → Heap → Prop} {d : DefRec} {K : Params → PySem.W.Frag} {CX : World → CXT} {sp : World → Sp} {x : Str}
    (hn : l.most = some n) (hn2 : n ≤ sizeLine) (hdf : d.params.defaults = []) (hr : Room k callerA)
    (hY : ∀ (w : World) (h : Heap), YP w h → (K w.params).In h)
    (F : ∀ (w : World) (mg : Str → Option Value) (fa : Addr) (h : Heap), (K w.params).In h → h.Ns mainGlobals mg → mg d.name = some (.ref fa) →
      ∃ fd : FuncData, (∀ (s : Shared) (u : Value), BindsTo s fd ⟨[u], []⟩ [(x, u)]) ∧
        ∀ base : Heap, (K w.params).In base → base.Ns mainGlobals mg → FnG l.prog w (K w.params) mg base (CX w) k fa fd [x] (sp w))
    (hsp : ∀ (w : World) (H : Hp) (a : Addr) (ns : List Int), ns.length ≤ n → Only H → SqL (K w.params) H a (ns.map V.int) → sp w [.ref a] H (fun v _ => v = .bl true) fun _ _ _ => False)
    (hCX : ∀ (w : World) (H : Hp) (s : Shared) (e : Value) (s' : Shared), CX w [] H s (fun _ _ _ => False) e s' → False) :
    PySem.W.WalkO q loose XP YP l.row.toRowW d [] (fun f vs => PySem.call f vs) := by
  refine Att.attach_call hn hdf fun w s₀ s₁ mg mb fa o pm cd doc a vs ns G Y ho hd hcd hmg hobj hints hlen hg => ?_
  have KX := hY w _ Y
  obtain ⟨fd, hb, hF⟩ := F w mg fa _ KX G.T.g hmg
  exact law_callG KX G.T.g G.T.b G.T.builtins G.T.nolimit hg hobj hints (Nat.le_trans hlen hn2) hr hF hb (fun H hO hS => hsp w H a ns hlen hO hS) fun H e s' => hCX w H s₁ e s'
end Ev

/-! Ev: argument lists, displays, calls -/
namespace Ev
open PySem PySem.Spec PyProof.Rows L2

def MOkL (m : Mode) (F : Cf) (S : List Nat) (H : Hp) (O : Addr → Prop) : List V → List D → Prop
  | [], [] => True
  | v :: vs, d :: ds => MOk m F S H O v d ∧ MOkL m F S H O vs ds
  | _, _ => False
def PoA (X : Cx) (W : WX) (S : List Nat) (m : Mode) (F : Cf) (H : Hp) (O : Addr → Prop) (r : Res (List D)) (Q : List V → Hp → Prop) : Prop := match r with
  | .ok ds T' => ∀ vs H' O', F.R S T' H' O' → Le (fz H O) (fz H' O') → MOkL m F S H' O' vs ds → Q vs H'
  | .ex x T' => ∀ H' O', F.R S T' H' O' → W (ec X x) none F.σ H'
  | .no => False
def tA (X : Cx) (W : WX) (S : List Nat) (cs : List Ex) (m : Mode) : TA := fun σ H Q => ∃ F T O, Fit X F σ ∧ F.R S T H O ∧ PoA X W S m F H O (esE cs F.env T) Q
structure SA (X : Cx) (W : WX) (S : List Nat) (es : List Expr) (cs : List Ex) (m : Mode) : Prop where
  pa : PA X es (tA X W S cs m)
theorem paMono {X : Cx} {es : List Expr} {t t' : TA} (h : PA X es t) (i : ∀ σ H Q, t' σ H Q → t σ H Q) : PA X es t' := ⟨fun pos pins s σ H Q I q => h.run pos pins s σ H Q I (i _ _ _ q)⟩
section
variable {X : Cx} {W : WX} {S : List Nat} {e a b : Expr} {es : List Expr} {c ca cb cc : Ex} {cs : List Ex} {m m1 m2 : Mode} {F : Cf} {T T' : Tp} {σ : L2.St} {H H1 : Hp} {O O1 : Addr → Prop}
theorem MOk.later {v : V} {d : D} (hm : m ≠ .fre) (h : MOk m F S H O v d) (l : Le (fz H O) (fz H1 O1)) : MOk m F S H1 O1 v d := by
  cases m with
  | fro => exact Rep.le l h
  | fre => exact absurd rfl hm
  | bor => exact fun H2 O2 T2 r l2 => h H2 O2 T2 r (l.trans l2)
theorem MOkL.later (hm : m ≠ .fre) (l : Le (fz H O) (fz H1 O1)) : ∀ {vs : List V} {ds : List D}, MOkL m F S H O vs ds → MOkL m F S H1 O1 vs ds
  | [], [], _ => trivial
  | _ :: _, _ :: _, h => ⟨h.1.later hm l, MOkL.later hm l h.2⟩
  | [], _ :: _, h => h.elim
  | _ :: _, [], h => h.elim
theorem MOkL.rep : ∀ {vs : List V} {ds : List D}, MOkL .fro F S H O vs ds → RepL F.g (fz H O) vs ds
  | [], [], _ => .nil
  | _ :: _, _ :: _, h => .cons h.1 h.2.rep
  | [], _ :: _, h => h.elim
  | _ :: _, [], h => h.elim
theorem PoA.le {r : Res (List D)} {Q : List V → Hp → Prop} (h : PoA X W S m F H O r Q) (l : Le (fz H O) (fz H1 O1)) : PoA X W S m F H1 O1 r Q := by
  cases r with
  | ok d T' => exact fun v H' O' r l' q => h v H' O' r (l.trans l') q
  | ex x T' => exact h
  | no => exact h
theorem tE_bindA {Q : List V → Hp → Prop} {k : D → Tp → Res (List D)} {Qn : VK} (f : Fit X F σ) (r : F.R S T H O) (h : PoA X W S m F H O ((c F.env T).bind k) Q)
    (n : ∀ d T1 v H1 O1, F.R S T1 H1 O1 → Le (fz H O) (fz H1 O1) → MOk m1 F S H1 O1 v d → PoA X W S m F H1 O1 (k d T1) Q → Qn v H1) : tE X W S c m1 σ H Qn := by
  refine ⟨F, T, O, f, r, ?_⟩
  cases e : c F.env T with
  | ok d T1 =>
    rw [e] at h
    exact fun v H1 O1 r1 l1 q => n d T1 v H1 O1 r1 l1 q (PoA.le h l1)
  | ex x T1 =>
    rw [e] at h
    exact h
  | no =>
    rw [e] at h
    exact h
theorem tA_bindA {Q : List V → Hp → Prop} {k : List D → Tp → Res (List D)} {Qn : List V → Hp → Prop} (f : Fit X F σ) (r : F.R S T H O) (h : PoA X W S m F H O ((esE cs F.env T).bind k) Q)
    (n : ∀ d T1 v H1 O1, F.R S T1 H1 O1 → Le (fz H O) (fz H1 O1) → MOkL m1 F S H1 O1 v d → PoA X W S m F H1 O1 (k d T1) Q → Qn v H1) : tA X W S cs m1 σ H Qn := by
  refine ⟨F, T, O, f, r, ?_⟩
  cases e : esE cs F.env T with
  | ok d T1 =>
    rw [e] at h
    exact fun v H1 O1 r1 l1 q => n d T1 v H1 O1 r1 l1 q (PoA.le h l1)
  | ex x T1 =>
    rw [e] at h
    exact h
  | no =>
    rw [e] at h
    exact h
theorem tA_bind {Q : VK} {k : List D → Tp → Res D} {Qn : List V → Hp → Prop} (f : Fit X F σ) (r : F.R S T H O) (h : Po X W S m F H O ((esE cs F.env T).bind k) Q)
    (n : ∀ d T1 v H1 O1, esE cs F.env T = .ok d T1 → F.R S T1 H1 O1 → Le (fz H O) (fz H1 O1) → MOkL m1 F S H1 O1 v d → Po X W S m F H1 O1 (k d T1) Q → Qn v H1) : tA X W S cs m1 σ H Qn := by
  refine ⟨F, T, O, f, r, ?_⟩
  cases e : esE cs F.env T with
  | ok d T1 =>
    rw [e] at h
    exact fun v H1 O1 r1 l1 q => n d T1 v H1 O1 e r1 l1 q (Po.le h l1)
  | ex x T1 =>
    rw [e] at h
    exact h
  | no =>
    rw [e] at h
    exact h
theorem esE_len : ∀ {cs : List Ex} {env : Ve} {T T' : Tp} {ds : List D}, esE cs env T = .ok ds T' → ds.length = cs.length
  | [], _, _, _, _, h => by cases h; rfl
  | a :: r, env, T, T', ds, h => by
    unfold esE at h
    cases e : a env T with
    | ok d T1 =>
      rw [e] at h
      cases e2 : esE r env T1 with
      | ok d2 T2 =>
        have h : ((esE r env T1).bind fun ds T => Res.ok (d :: ds) T) = .ok ds T' := h
        rw [e2] at h
        cases h
        simp [esE_len e2]
      | ex x T2 =>
        have h : ((esE r env T1).bind fun ds T => Res.ok (d :: ds) T) = .ok ds T' := h
        rw [e2] at h; cases h
      | no =>
        have h : ((esE r env T1).bind fun ds T => Res.ok (d :: ds) T) = .ok ds T' := h
        rw [e2] at h; cases h
    | ex x T1 => rw [e] at h; cases h
    | no => rw [e] at h; cases h
theorem sa_nil : SA X W S [] [] m := ⟨paMono pa_nil fun σ H Q ⟨F, T, O, f, r, p⟩ => p [] H O r (Le.refl _) trivial⟩
theorem sa_cons (hm : m ≠ .fre) (ha : SE X W S a ca m) (hr : SA X W S es cs m) (hs : starEach (a :: es) X.env = (false, eval a X.env) :: starEach es X.env := by rfl) : SA X W S (a :: es) (ca :: cs) m :=
  ⟨paMono (pa_cons ha.pe hr.pa hs) fun σ H Q h => by
    obtain ⟨F, T, O, ft, r, p⟩ := h
    refine tE_bindA ft r p fun d1 T1 v1 H1 O1 r1 l1 q1 p1 => ?_
    refine tA_bindA ft r1 p1 fun ds T2 vs H2 O2 r2 l2 q2 p2 => ?_
    exact p2 (v1 :: vs) H2 O2 r2 (Le.refl _) ⟨q1.later hm l2, q2⟩⟩
abbrev fc (ha : SE X W S a ca .fro) (hr : SA X W S es cs .fro) (hs : starEach (a :: es) X.env = (false, eval a X.env) :: starEach es X.env := by rfl) : SA X W S (a :: es) (ca :: cs) .fro := sa_cons (by intro h; cases h) ha hr hs
abbrev bc (ha : SE X W S a ca .bor) (hr : SA X W S es cs .bor) (hs : starEach (a :: es) X.env = (false, eval a X.env) :: starEach es X.env := by rfl) : SA X W S (a :: es) (ca :: cs) .bor := sa_cons (by intro h; cases h) ha hr hs
/-! ### displays -/
theorem se_tup {i : Nat} {pos : Pos} (h : SA X W S es cs .fro) (hz : cs.length ≤ sizeLine := by decide) : SE X W S (.Tuple es i pos) (tupE cs) .fro :=
  ⟨peMono (pe_tup h.pa) fun σ H Q h => by
    obtain ⟨F, T, O, ft, r, p⟩ := h
    refine tA_bind ft r p fun ds T1 vs H1 O1 e r1 l1 q1 p1 => ⟨?_, new_tup r1 q1.rep p1⟩
    rw [q1.rep.len, esE_len e]; exact hz⟩
theorem se_lst {pos : Pos} (h : SA X W S es cs .fro) (hz : cs.length ≤ sizeLine := by decide) : SE X W S (.List es pos) (lstE cs) .fro :=
  ⟨peMono (pe_lst h.pa) fun σ H Q h => by
    obtain ⟨F, T, O, ft, r, p⟩ := h
    refine tA_bind ft r p fun ds T1 vs H1 O1 e r1 l1 q1 p1 => ⟨?_, new_lst r1 q1.rep p1⟩
    rw [q1.rep.len, esE_len e]; exact hz⟩
theorem se_lstO {pos : Pos} (h : SA X W S es cs .fro) (hz : cs.length ≤ sizeLine := by decide) : SE X W S (.List es pos) (lstE cs) .fre :=
  ⟨peMono (pe_lst h.pa) fun σ H Q h => by
    obtain ⟨F, T, O, ft, r, p⟩ := h
    refine tA_bind ft r p fun ds T1 vs H1 O1 e r1 l1 q1 p1 => ⟨?_, new_lstO r1 q1.rep p1⟩
    rw [q1.rep.len, esE_len e]; exact hz⟩
end

/-! ### the promise of a def -/
mutual
theorem Rep.cg {g g' : Gh} {H : Hp} (h1 : g'.K = g.K) (h2 : g'.w = g.w) (h3 : g'.pt = g.pt) {v : V} {d : D} : Rep g H v d → Rep g' H v d
  | .non => .non
  | .bl b => .bl b
  | .int i => .int i
  | .str x => .str x
  | .tup h r => .tup (by rw [h1]; exact h) (RepL.cg h1 h2 h3 r)
  | .lst h r => .lst h (RepL.cg h1 h2 h3 r)
  | .scr h r => .scr (by rw [h1]; exact h) (RepL.cg h1 h2 h3 r)
  | .dct h q r => .dct h (by rw [h2]; exact q) (RepL.cg h1 h2 h3 r)
  | .tape h => .tape (by rw [h3]; exact h)
  | .pin h => .pin h
  | .prm h => .prm h
  | .fnc h => .fnc (by rw [h1]; exact h)
theorem RepL.cg {g g' : Gh} {H : Hp} (h1 : g'.K = g.K) (h2 : g'.w = g.w) (h3 : g'.pt = g.pt) {vs : List V} {ds : List D} : RepL g H vs ds → RepL g' H vs ds
  | .nil => .nil
  | .cons h r => .cons (Rep.cg h1 h2 h3 h) (RepL.cg h1 h2 h3 r)
end
theorem TapeOk.cg {g g' : Gh} {T : Tp} {H : Hp} {O : Addr → Prop} (h1 : g'.K = g.K) (h2 : g'.w = g.w) (h3 : g'.pt = g.pt) (h : TapeOk g T H O) : TapeOk g' T H O := by
  refine ⟨?_, h.2⟩
  have h := h.1
  rcases h with h | ⟨p, ts, vs, e1, e2, o, a, b⟩
  · exact .inl ⟨by rw [h3]; exact h.1, h.2⟩
  · exact .inr ⟨p, ts, vs, by rw [h3]; exact e1, e2, o, a, b.cg h1 h2 h3⟩
theorem Own1.cg {g g' : Gh} {H : Hp} {O : Addr → Prop} {p : Addr} {d : D} (h1 : g'.K = g.K) (h2 : g'.w = g.w) (h3 : g'.pt = g.pt) (h : Own1 g H O p d) : Own1 g' H O p d := by
  cases d with
  | lst ds => obtain ⟨vs, a, b⟩ := h; exact ⟨vs, a, b.cg h1 h2 h3⟩
  | dct t es => obtain ⟨o, vs, a, q, b⟩ := h; exact ⟨o, vs, a, by rw [h2]; exact q, b.cg h1 h2 h3⟩
  | _ => exact h.elim
def RetOk (fr : Bool) (g : Gh) (T' : Tp) (H H' : Hp) (O : Addr → Prop) (v : V) (d : D) : Prop := match fr with
  | false => TapeOk g T' H' O ∧ Rep g (fz H' O) v d
  | true => ∃ p, v = .ref p ∧ H p = none ∧ TapeOk g T' H' (fun a => O a ∨ a = p) ∧ Own1 g H' (fun a => O a ∨ a = p) p d
def PoC (mg : Str → Option Value) (g : Gh) (fr : Bool) (H : Hp) (O : Addr → Prop) (r : Res D) (Q : VK) (E : XK) : Prop := match r with
  | .ok d T' => ∀ H' v, Ext g.mut H H' → RetOk fr g T' H H' O v d → Q v H'
  | .ex x T' => ∀ H', Ext g.mut H H' → TapeOk g T' H' O → E ((mg x).getD .none) none H'
  | .no => False
abbrev gOf (K : PySem.W.Frag) (w : World) (pt : Option Addr) (H : Hp) (O : Addr → Prop) : Gh := ⟨K, w, pt, H, O⟩
def spOf (K : PySem.W.Frag) (w : World) (mg : Str → Option Value) (c : List D → Tp → Res D) (fr : Bool) : Sp := fun vs H Q E => ∃ pt O ds T, (∀ a, O a → H a ≠ none) ∧ TapeOk (gOf K w pt H O) T H O ∧ RepL (gOf K w pt H O) (fz H O) vs ds ∧
  PoC mg (gOf K w pt H O) fr H O (c ds T) Q E
/-- a def of the module that keeps its promise -/
structure Cal (P : Program) (w : World) (K : PySem.W.Frag) (mg : Str → Option Value) (base : Heap) (x : Str) (c : List D → Tp → Res D) (fr : Bool) (k : Nat) : Prop where
  ex : ∃ f fd ps, FnG P w K mg base (L2.CX P w) k f fd ps (spOf K w mg c fr) ∧ mg x = some (.ref f) ∧ PySem.W.keepIn K (.ref f) = true ∧ Binds K fd ps []
section
variable {X : Cx} {W : WX} {S : List Nat} {e a b : Expr} {es : List Expr} {c ca cb cc : Ex} {cs : List Ex} {m m1 m2 : Mode} {F : Cf} {T T' : Tp} {σ : L2.St} {H H1 : Hp} {O O1 : Addr → Prop}
/-- behind a call -/
theorem R.call {g : Gh} {env : Ve} {H' : Hp} (r : Ev.R g S env T σ H O) (e : Ext g.mut H H') (t : TapeOk g T' H' O) : Ev.R g S env T' σ H' O ∧ Le (fz H O) (fz H' O) := by
  have l : Le (fz H O) (fz H' O) := fz_mono fun a o n h => ⟨n, e a o (fun q => n (r.tape.mutO q)) h⟩
  have keep : ∀ a, O a → ¬ g.mut a → H' a = H a := fun a ha n => by
    cases q : H a with
    | none => exact absurd q (r.oin a ha)
    | some o => exact e _ _ n q
  refine ⟨⟨r.oh, fun a ha => ?_, r.o0, r.o1, r.ext.trans e, r.len, r.bd, t, fun i d hi h => ?_, fun i d hi h => ?_, r.inj⟩, l⟩
  · by_cases q : g.mut a
    · exact t.mutH q
    · rw [keep a ha q]; exact r.oin a ha
  · obtain ⟨v, a1, a2⟩ := r.fro i d hi h
    exact ⟨v, a1, a2.le l⟩
  · obtain ⟨p, a1, a2⟩ := r.own i d hi h
    exact ⟨p, a1, a2.o, a2.new, a2.npt, a2.at_.of (keep p a2.o a2.npt) l⟩
theorem R.callO {g : Gh} {env : Ve} {H' : Hp} {p : Addr} (r : Ev.R g S env T σ H O) (e : Ext g.mut H H') (hp : H p = none) (hp' : H' p ≠ none) (t : TapeOk g T' H' (fun a => O a ∨ a = p)) :
    Ev.R g S env T' σ H' (fun a => O a ∨ a = p) ∧ Le (fz H O) (fz H' (fun a => O a ∨ a = p)) := by
  have l : Le (fz H O) (fz H' (fun a => O a ∨ a = p)) := fz_mono fun a o n h => ⟨fun z => (by
    rcases z with z | z
    · exact n z
    · subst z; rw [hp] at h; cases h), e a o (fun q => n (r.tape.mutO q)) h⟩
  have keep : ∀ a, O a → ¬ g.mut a → H' a = H a := fun a ha n => by
    cases q : H a with
    | none => exact absurd q (r.oin a ha)
    | some o => exact e _ _ n q
  refine ⟨⟨r.oh, fun a ha => ?_, fun a h => .inl (r.o0 a h), fun a ha => ha.elim (r.o1 a) (fun z => .inr (by rw [z]; exact r.h0 hp)), r.ext.trans e, r.len, r.bd, t, fun i d hi h => ?_, fun i d hi h => ?_, r.inj⟩, l⟩
  · rcases ha with ha | ha
    · by_cases q : g.mut a
      · exact t.mutH q
      · rw [keep a ha q]; exact r.oin a ha
    · subst ha; exact hp'
  · obtain ⟨v, a1, a2⟩ := r.fro i d hi h
    exact ⟨v, a1, a2.le l⟩
  · obtain ⟨p, a1, a2⟩ := r.own i d hi h
    exact ⟨p, a1, .inl a2.o, a2.new, a2.npt, a2.at_.of (keep p a2.o a2.npt) l⟩
theorem Own1.there {g : Gh} {p : Addr} {d : D} (h : Own1 g H O p d) : H p ≠ none := by
  cases d with
  | lst ds => obtain ⟨vs, a, b⟩ := h; rw [a]; simp
  | dct t es => obtain ⟨o, vs, a, b⟩ := h; rw [a]; simp
  | _ => exact h.elim
def mdOf (fr : Bool) : Mode := if fr then .fre else .fro
theorem se_call {x : Str} {f : List D → Tp → Res D} {fr : Bool} {k : Nat} {p pos : Pos} (G : Cal X.prog X.w X.K X.mg X.base x f fr k) (hr : RoomG k X.A) (tk : Takes X W) (hg : Gl X x) (ha : SA X W S (e :: es) cs .fro) (hfr : fr = false)
    (hdb : (x == ("__debug__" : Str)) = false := by decide) (he : starEach (e :: es) X.env = (false, eval e X.env) :: starEach es X.env := by rfl) (hpl : (backTo pos (starEach es X.env)).any (·.1) = false := by rfl) :
    SE X W S (.Call (.Name x p) (e :: es) [] pos) (callE f cs) .fro := by
  subst hfr
  obtain ⟨fa, fd, ps, FO, hm, hk, hb⟩ := G.ex
  refine ⟨peMono (pe_callG (E := WE W) FO hr hg hm hk hb (passAt tk) ha.pa hdb he hpl) fun σ H Q h => ?_⟩
  obtain ⟨F, T, O, ft, r, p⟩ := h
  refine tA_bind ft r p fun ds T1 vs H1 O1 e r1 l1 q1 p1 => ?_
  have c1 : (gOf X.K X.w F.g.pt H1 O1).K = F.g.K := ft.k.symm
  have c2 : (gOf X.K X.w F.g.pt H1 O1).w = F.g.w := ft.w.symm
  refine ⟨F.g.pt, O1, ds, T1, r1.oin, r1.tape.cg c1 c2 rfl, q1.rep.cg c1 c2 rfl, ?_⟩
  cases ec : f ds T1 with
  | ok d T2 =>
    rw [ec] at p1
    intro H2 v x2 ⟨t2, rt⟩
    obtain ⟨r2, l2⟩ := R.call r1 x2 (t2.cg c1.symm c2.symm rfl)
    exact p1 v H2 O1 r2 l2 (Rep.cg c1.symm c2.symm rfl rt)
  | ex x T2 =>
    rw [ec] at p1
    intro H2 x2 t2
    obtain ⟨r2, l2⟩ := R.call r1 x2 (t2.cg c1.symm c2.symm rfl)
    have z := p1 H2 O1 r2
    rw [ft.s] at z
    exact z
  | no => rw [ec] at p1; exact p1
theorem se_callO {x : Str} {f : List D → Tp → Res D} {k : Nat} {p pos : Pos} (G : Cal X.prog X.w X.K X.mg X.base x f true k) (hr : RoomG k X.A) (tk : Takes X W) (hg : Gl X x) (ha : SA X W S (e :: es) cs .fro)
    (hdb : (x == ("__debug__" : Str)) = false := by decide) (he : starEach (e :: es) X.env = (false, eval e X.env) :: starEach es X.env := by rfl) (hpl : (backTo pos (starEach es X.env)).any (·.1) = false := by rfl) :
    SE X W S (.Call (.Name x p) (e :: es) [] pos) (callE f cs) .fre := by
  obtain ⟨fa, fd, ps, FO, hm, hk, hb⟩ := G.ex
  refine ⟨peMono (pe_callG (E := WE W) FO hr hg hm hk hb (passAt tk) ha.pa hdb he hpl) fun σ H Q h => ?_⟩
  obtain ⟨F, T, O, ft, r, p⟩ := h
  refine tA_bind ft r p fun ds T1 vs H1 O1 e r1 l1 q1 p1 => ?_
  have c1 : (gOf X.K X.w F.g.pt H1 O1).K = F.g.K := ft.k.symm
  have c2 : (gOf X.K X.w F.g.pt H1 O1).w = F.g.w := ft.w.symm
  refine ⟨F.g.pt, O1, ds, T1, r1.oin, r1.tape.cg c1 c2 rfl, q1.rep.cg c1 c2 rfl, ?_⟩
  cases ec : f ds T1 with
  | ok d T2 =>
    rw [ec] at p1
    intro H2 v x2 ⟨p, ev, hp, t2, rt⟩
    subst ev
    have rt2 : Own1 F.g H2 (fun a => O1 a ∨ a = p) p d := rt.cg c1.symm c2.symm rfl
    obtain ⟨r2, l2⟩ := R.callO r1 x2 hp rt2.there (t2.cg c1.symm c2.symm rfl)
    have np := R.npt r1 hp
    exact p1 _ H2 _ r2 l2 ⟨p, rfl, ⟨.inr rfl, R.h0new r1 hp np, np, rt2⟩, fun i d' hi he => R.slot_ne r1 hp hi he⟩
  | ex x T2 =>
    rw [ec] at p1
    intro H2 x2 t2
    obtain ⟨r2, l2⟩ := R.call r1 x2 (t2.cg c1.symm c2.symm rfl)
    have z := p1 H2 O1 r2
    rw [ft.s] at z
    exact z
  | no => rw [ec] at p1; exact p1
/-! ### built-ins -/
def RepBL (g : Gh) (H : Hp) (O : Addr → Prop) : List V → List D → Prop
  | [], [] => True
  | v :: vs, d :: ds => RepB g H O v d ∧ RepBL g H O vs ds
  | _, _ => False
theorem bOfL (r : F.R S T H O) : ∀ {vs : List V} {ds : List D}, MOkL .bor F S H O vs ds → RepBL F.g H O vs ds
  | [], [], _ => trivial
  | _ :: _, _ :: _, h => ⟨bOf h.1 r, bOfL r h.2⟩
  | [], _ :: _, h => h.elim
  | _ :: _, [], h => h.elim
def OpNS (X : Cx) (S : List Nat) (r : List V → Hp → VK → Prop) (f : List D → Option D) (m : Mode) : Prop := ∀ (F : Cf) T H O vs ds d Q, F.g.K = X.K → F.g.w = X.w → F.R S T H O → RepBL F.g H O vs ds → f ds = some d →
  (∀ v H' O', F.R S T H' O' → Le (fz H O) (fz H' O') → MOk m F S H' O' v d → Q v H') → r vs H Q
theorem se_bi {x : Str} {id : String} {r : List V → Hp → VK → Prop} {f : List D → Option D} {p pos : Pos} (hc : CallR X (.builtin id) r) (hs : OpNS X S r f m) (hg : Gl X x) (hm : X.mg x = none) (hv : bootBuiltins x = some (.builtin id)) (ha : SA X W S (e :: es) cs .bor)
    (hn : x ≠ "__name__" := by decide) (hdb : (x == ("__debug__" : Str)) = false := by decide) (he : starEach (e :: es) X.env = (false, eval e X.env) :: starEach es X.env := by rfl) (hpl : (backTo pos (starEach es X.env)).any (·.1) = false := by rfl) :
    SE X W S (.Call (.Name x p) (e :: es) [] pos) (apN f cs) m :=
  ⟨peMono (pe_callB hc hg hm hv ha.pa hn hdb he hpl) fun σ H Q h => by
    obtain ⟨F, T, O, ft, r, p⟩ := h
    refine tA_bind ft r p fun ds T1 vs H1 O1 e r1 l1 q1 p1 => ?_
    obtain ⟨d, e, k⟩ := po_of p1
    exact hs F T1 H1 O1 vs ds d Q ft.k ft.w r1 (bOfL r1 q1) e k⟩
theorem se_bt {x : Str} {id : String} {r : List V → Hp → VK → Prop} {f : List D → Option D} {p pos : Pos} (hc : CallR X (.type id) r) (hs : OpNS X S r f m) (hg : Gl X x) (hm : X.mg x = none) (hv : bootBuiltins x = some (.type id)) (ha : SA X W S (e :: es) cs .bor)
    (hn : x ≠ "__name__" := by decide) (hdb : (x == ("__debug__" : Str)) = false := by decide) (he : starEach (e :: es) X.env = (false, eval e X.env) :: starEach es X.env := by rfl) (hpl : (backTo pos (starEach es X.env)).any (·.1) = false := by rfl) :
    SE X W S (.Call (.Name x p) (e :: es) [] pos) (apN f cs) m :=
  ⟨peMono (pe_callTy hc hg hm hv ha.pa hn hdb he hpl) fun σ H Q h => by
    obtain ⟨F, T, O, ft, r, p⟩ := h
    refine tA_bind ft r p fun ds T1 vs H1 O1 e r1 l1 q1 p1 => ?_
    obtain ⟨d, e, k⟩ := po_of p1
    exact hs F T1 H1 O1 vs ds d Q ft.k ft.w r1 (bOfL r1 q1) e k⟩
theorem rbl1 {g : Gh} {vs : List V} {d : D} (h : RepBL g H O vs [d]) : ∃ v, vs = [v] ∧ RepB g H O v d := by
  cases vs with
  | nil => exact h.elim
  | cons v r => cases r with
    | nil => exact ⟨v, rfl, h.1⟩
    | cons _ _ => exact h.2.elim
theorem rbl2 {g : Gh} {vs : List V} {d d2 : D} (h : RepBL g H O vs [d, d2]) : ∃ v u, vs = [v, u] ∧ RepB g H O v d ∧ RepB g H O u d2 := by
  cases vs with
  | nil => exact h.elim
  | cons v r =>
    obtain ⟨u, e, q⟩ := rbl1 h.2
    exact ⟨v, u, by rw [e], h.1, q⟩
/-! #### which -/
def lenD : List D → Option D
  | [.str z] => if z.length ≤ sizeLine then some (.int z.length) else none
  | [.tup ds] => some (.int ds.length)
  | [.lst ds] => some (.int ds.length)
  | [.scr ds] => some (.int ds.length)
  | _ => none
theorem o_len : OpNS X S (fun xs H Q => ∃ x n, xs = [x] ∧ LenV X.K x H n ∧ Q (.int n) H) lenD .fro := fun F T H O vs ds d Q hK _ r q1 e k => by
  unfold lenD at e
  split at e
  · split at e
    · rename_i z hz
      cases e
      obtain ⟨v, rfl, q⟩ := rbl1 q1
      rw [rb_str q]
      exact ⟨_, _, rfl, ⟨hz, rfl⟩, k _ H O r (Le.refl _) (.int _)⟩
    · cases e
  · cases e
    obtain ⟨v, rfl, q⟩ := rbl1 q1
    obtain ⟨p, vs, rfl, a, b⟩ := rb_tup q
    rw [hK] at a
    exact ⟨_, _, rfl, .inr ⟨vs, a, b.len.symm⟩, k _ H O r (Le.refl _) (.int _)⟩
  · cases e
    obtain ⟨v, rfl, q⟩ := rbl1 q1
    obtain ⟨p, vs, rfl, a, b⟩ := rb_lst q
    exact ⟨_, _, rfl, .inl ⟨vs, .inl (.inl a), b.len.symm⟩, k _ H O r (Le.refl _) (.int _)⟩
  · cases e
    obtain ⟨v, rfl, q⟩ := rbl1 q1
    obtain ⟨p, vs, rfl, a, b⟩ := rb_scr q
    rw [hK] at a
    exact ⟨_, _, rfl, .inl ⟨vs, a, b.len.symm⟩, k _ H O r (Le.refl _) (.int _)⟩
  · cases e
def absD : List D → Option D
  | [.int i] => some (.int (if i < 0 then -i else i))
  | _ => none
theorem o_abs : OpNS X S (fun xs H Q => ∃ i, xs = [.int i] ∧ Q (.int (if i < 0 then -i else i)) H) absD .fro := fun F T H O vs ds d Q hK _ r q1 e k => by
  unfold absD at e
  split at e
  · cases e
    obtain ⟨v, rfl, q⟩ := rbl1 q1
    rw [rb_int q]
    exact ⟨_, rfl, k _ H O r (Le.refl _) (.int _)⟩
  · cases e
def max2D : List D → Option D
  | [.int i, .int j] => some (.int (if j > i then j else i))
  | _ => none
theorem o_max2 : OpNS X S (fun xs H Q => ∃ i j, xs = [.int i, .int j] ∧ Q (.int (if j > i then j else i)) H) max2D .fro := fun F T H O vs ds d Q hK _ r q1 e k => by
  unfold max2D at e
  split at e
  · cases e
    obtain ⟨v, u, rfl, q, q2⟩ := rbl2 q1
    rw [rb_int q, rb_int q2]
    exact ⟨_, _, rfl, k _ H O r (Le.refl _) (.int _)⟩
  · cases e
def min2D : List D → Option D
  | [.int i, .int j] => some (.int (if j < i then j else i))
  | _ => none
theorem o_min2 : OpNS X S (fun xs H Q => ∃ i j, xs = [.int i, .int j] ∧ Q (.int (if j < i then j else i)) H) min2D .fro := fun F T H O vs ds d Q hK _ r q1 e k => by
  unfold min2D at e
  split at e
  · cases e
    obtain ⟨v, u, rfl, q, q2⟩ := rbl2 q1
    rw [rb_int q, rb_int q2]
    exact ⟨_, _, rfl, k _ H O r (Le.refl _) (.int _)⟩
  · cases e
def int1D : List D → Option D
  | [.int i] => some (.int i)
  | [.bl b] => some (.int (if b then 1 else 0))
  | _ => none
theorem o_int1 : OpNS X S (fun xs H Q => (∃ i, xs = [.int i] ∧ Q (.int i) H) ∨ ∃ k, xs = [.bl k] ∧ Q (.int (if k then 1 else 0)) H) int1D .fro := fun F T H O vs ds d Q hK _ r q1 e k => by
  unfold int1D at e
  split at e
  · cases e
    obtain ⟨v, rfl, q⟩ := rbl1 q1
    rw [rb_int q]
    exact .inl ⟨_, rfl, k _ H O r (Le.refl _) (.int _)⟩
  · cases e
    obtain ⟨v, rfl, q⟩ := rbl1 q1
    rw [rep_bl q]
    exact .inr ⟨_, rfl, k _ H O r (Le.refl _) (.int _)⟩
  · cases e
def intsOf : List D → Option (List Int)
  | [] => some []
  | .int i :: ds => (intsOf ds).map (i :: ·)
  | _ => none
def boolsOf : List D → Option (List Bool)
  | [] => some []
  | .bl i :: ds => (boolsOf ds).map (i :: ·)
  | _ => none
theorem ints_rep {g : Gh} : ∀ {ds : List D} {ns : List Int} {vs : List V}, intsOf ds = some ns → RepL g H vs ds → vs = ns.map V.int
  | [], ns, _, e, .nil => by cases e; rfl
  | .int i :: ds, ns, _, e, .cons h r => by
    unfold intsOf at e
    cases e2 : intsOf ds with
    | none => rw [e2] at e; cases e
    | some ms =>
      rw [e2] at e; cases e
      cases h
      rw [ints_rep e2 r]; rfl
theorem bools_rep {g : Gh} : ∀ {ds : List D} {ns : List Bool} {vs : List V}, boolsOf ds = some ns → RepL g H vs ds → vs = ns.map V.bl
  | [], ns, _, e, .nil => by cases e; rfl
  | .bl i :: ds, ns, _, e, .cons h r => by
    unfold boolsOf at e
    cases e2 : boolsOf ds with
    | none => rw [e2] at e; cases e
    | some ms =>
      rw [e2] at e; cases e
      cases h
      rw [bools_rep e2 r]; rfl
/-- a list of intsOf that is read -/
def seqI : List D → Option (List Int)
  | [.lst ds] => intsOf ds
  | _ => none
def sumD (ds : List D) : Option D := (seqI ds).map fun ns => .int ns.sum
theorem seqI_rep {g : Gh} {vs : List V} {ds : List D} {ns : List Int} (h : seqI ds = some ns) (q0 : RepBL g H O vs ds) : ∃ a, vs = [.ref a] ∧ H a = some (.lst (ns.map V.int)) := by
  unfold seqI at h
  split at h
  · obtain ⟨v, rfl, q⟩ := rbl1 q0
    obtain ⟨p, ws, rfl, a, b⟩ := rb_lst q
    exact ⟨p, rfl, by rw [a, ints_rep h b]⟩
  · cases h
theorem o_sum : OpNS X S (rSum X.K) sumD .fro := fun F T H O vs ds d Q hK _ r q1 e k => by
  unfold sumD at e
  cases e2 : seqI ds with
  | none => rw [e2] at e; cases e
  | some ns =>
    rw [e2] at e; cases e
    obtain ⟨a, rfl, h⟩ := seqI_rep e2 q1
    exact ⟨a, ns, rfl, .inl (.inl h), k _ H O r (Le.refl _) (.int _)⟩
/-- the greatest, the least -/
def maxI : List Int → Int
  | [] => 0
  | [x] => x
  | x :: y :: r => max x (maxI (y :: r))
def minI : List Int → Int
  | [] => 0
  | [x] => x
  | x :: y :: r => min x (minI (y :: r))
theorem maxI_mem : ∀ (x : Int) (r : List Int), maxI (x :: r) ∈ x :: r ∧ ∀ k ∈ x :: r, k ≤ maxI (x :: r)
  | x, [] => by simp [maxI]
  | x, y :: r => by
    obtain ⟨a, b⟩ := maxI_mem y r
    have e : maxI (x :: y :: r) = max x (maxI (y :: r)) := rfl
    rw [e]
    refine ⟨?_, fun k hk => ?_⟩
    · rcases Int.le_total x (maxI (y :: r)) with h | h
      · rw [Int.max_eq_right h]; exact List.mem_cons_of_mem _ a
      · rw [Int.max_eq_left h]; exact List.mem_cons_self
    · rcases List.mem_cons.mp hk with h | h
      · subst h; exact Int.le_max_left _ _
      · exact Int.le_trans (b k h) (Int.le_max_right _ _)
theorem minI_mem : ∀ (x : Int) (r : List Int), minI (x :: r) ∈ x :: r ∧ ∀ k ∈ x :: r, minI (x :: r) ≤ k
  | x, [] => by simp [minI]
  | x, y :: r => by
    obtain ⟨a, b⟩ := minI_mem y r
    have e : minI (x :: y :: r) = min x (minI (y :: r)) := rfl
    rw [e]
    refine ⟨?_, fun k hk => ?_⟩
    · rcases Int.le_total x (minI (y :: r)) with h | h
      · rw [Int.min_eq_left h]; exact List.mem_cons_self
      · rw [Int.min_eq_right h]; exact List.mem_cons_of_mem _ a
    · rcases List.mem_cons.mp hk with h | h
      · subst h; exact Int.min_le_left _ _
      · exact Int.le_trans (Int.min_le_right _ _) (b k h)
def maxD (ds : List D) : Option D := match seqI ds with
  | some (x :: r) => some (.int (maxI (x :: r)))
  | _ => none
def minD (ds : List D) : Option D := match seqI ds with
  | some (x :: r) => some (.int (minI (x :: r)))
  | _ => none
theorem o_max : OpNS X S (rMax X.K) maxD .fro := fun F T H O vs ds d Q hK _ r q1 e k => by
  unfold maxD at e
  split at e
  · rename_i x l e2
    cases e
    obtain ⟨a, rfl, h⟩ := seqI_rep e2 q1
    refine ⟨a, x :: l, rfl, .inl (.inl h), Nat.zero_lt_succ _, fun m hm hl => ?_⟩
    have e : m = maxI (x :: l) := Int.le_antisymm ((maxI_mem x l).2 m hm) (hl _ (maxI_mem x l).1)
    rw [e]
    exact k _ H O r (Le.refl _) (.int _)
  · cases e
theorem o_min : OpNS X S (rMin X.K) minD .fro := fun F T H O vs ds d Q hK _ r q1 e k => by
  unfold minD at e
  split at e
  · rename_i x l e2
    cases e
    obtain ⟨a, rfl, h⟩ := seqI_rep e2 q1
    refine ⟨a, x :: l, rfl, .inl (.inl h), Nat.zero_lt_succ _, fun m hm hl => ?_⟩
    have e : m = minI (x :: l) := Int.le_antisymm (hl _ (minI_mem x l).1) ((minI_mem x l).2 m hm)
    rw [e]
    exact k _ H O r (Le.refl _) (.int _)
  · cases e
def seqB : List D → Option (List Bool)
  | [.lst ds] => boolsOf ds
  | _ => none
theorem seqB_rep {g : Gh} {vs : List V} {ds : List D} {ns : List Bool} (h : seqB ds = some ns) (q0 : RepBL g H O vs ds) : ∃ a, vs = [.ref a] ∧ H a = some (.lst (ns.map V.bl)) := by
  unfold seqB at h
  split at h
  · obtain ⟨v, rfl, q⟩ := rbl1 q0
    obtain ⟨p, ws, rfl, a, b⟩ := rb_lst q
    exact ⟨p, rfl, by rw [a, bools_rep h b]⟩
  · cases h
def allD (ds : List D) : Option D := (seqB ds).map fun bs => .bl (bs.all id)
def anyD (ds : List D) : Option D := (seqB ds).map fun bs => .bl (bs.any id)
theorem o_all : OpNS X S (rAll X.K) allD .fro := fun F T H O vs ds d Q hK _ r q1 e k => by
  unfold allD at e
  cases e2 : seqB ds with
  | none => rw [e2] at e; cases e
  | some ns =>
    rw [e2] at e; cases e
    obtain ⟨a, rfl, h⟩ := seqB_rep e2 q1
    exact ⟨a, ns, rfl, .inl (.inl h), k _ H O r (Le.refl _) (.bl _)⟩
theorem o_any : OpNS X S (rAny X.K) anyD .fro := fun F T H O vs ds d Q hK _ r q1 e k => by
  unfold anyD at e
  cases e2 : seqB ds with
  | none => rw [e2] at e; cases e
  | some ns =>
    rw [e2] at e; cases e
    obtain ⟨a, rfl, h⟩ := seqB_rep e2 q1
    exact ⟨a, ns, rfl, .inl (.inl h), k _ H O r (Le.refl _) (.bl _)⟩
def tupOfD : List D → Option D
  | [.lst ds] => some (.tup ds)
  | [.tup ds] => some (.tup ds)
  | _ => none
theorem o_tupOf : OpNS X S (fun xs H Q => ∃ p ys, xs = [.ref p] ∧ ((SqL X.K H p ys ∧ ∀ l, H l = none → Q (.ref l) (upd H l (.tup ys))) ∨ (SqT X.K H p ys ∧ Q (.ref p) H))) tupOfD .fro := fun F T H O vs ds d Q hK _ r q1 e k => by
  unfold tupOfD at e
  split at e
  · cases e
    obtain ⟨v, rfl, q⟩ := rbl1 q1
    obtain ⟨p, ws, rfl, a, b⟩ := rb_lst q
    exact ⟨p, ws, rfl, .inl ⟨.inl (.inl a), new_tup r b k⟩⟩
  · cases e
    obtain ⟨v, rfl, q⟩ := rbl1 q1
    obtain ⟨p, ws, rfl, a, b⟩ := rb_tup q
    rw [hK] at a
    exact ⟨p, ws, rfl, .inr ⟨a, k _ H O r (Le.refl _) q⟩⟩
  · cases e
def listOfD : List D → Option D
  | [.lst ds] => some (.lst ds)
  | [.tup ds] => some (.lst ds)
  | _ => none
theorem o_listOf : OpNS X S (fun xs H Q => ∃ p ys, xs = [.ref p] ∧ (SqL X.K H p ys ∨ SqT X.K H p ys) ∧ ∀ l, H l = none → Q (.ref l) (upd H l (.lst ys))) listOfD .fre := fun F T H O vs ds d Q hK _ r q1 e k => by
  unfold listOfD at e
  split at e
  · cases e
    obtain ⟨v, rfl, q⟩ := rbl1 q1
    obtain ⟨p, ws, rfl, a, b⟩ := rb_lst q
    exact ⟨p, ws, rfl, .inl (.inl (.inl a)), new_lstO r b k⟩
  · cases e
    obtain ⟨v, rfl, q⟩ := rbl1 q1
    obtain ⟨p, ws, rfl, a, b⟩ := rb_tup q
    rw [hK] at a
    exact ⟨p, ws, rfl, .inr a, new_lstO r b k⟩
  · cases e
end
end Ev

/-! Ev: isinstance, slices, methods -/
namespace Ev
open PySem PySem.Spec PyProof.Rows L2

/-! ### isinstance -/
def tyN : D → String
  | .non => "NoneType"
  | .bl _ => "bool"
  | .int _ => "int"
  | .str _ => "str"
  | .tup _ => "tuple"
  | .lst _ => "list"
  | .scr _ => "list"
  | .tape => "list"
  | .pin _ => "dict"
  | .prm _ => "dict"
  | .fnc _ => "dict"
  | .dct _ _ => "dict"
def isT (a b : String) : Bool := a == b || (a == "bool" && b == "int")
def tyAll : List String := ["NoneType", "bool", "int", "str", "tuple", "list", "dict"]
def isiD (ts : List String) (d : D) : Option D := match d with
  | .tape => none
  | .pin _ => none
  | .prm _ => none
  | .fnc _ => none
  | d => some (.bl (ts.any fun t => isT (tyN d) t))
inductive TyG (K : PySem.W.Frag) (H : Hp) : V → Value → Prop
  | x {v : V} {t : Value} : TyX K H v t → TyG K H v t
  | d {a : Addr} {o : HO} {w : World} {t : Bool} {ks : List D} {vs : List V} : H a = some o → DH w a t o ks vs → TyG K H (.ref a) (.type "dict")
section
variable {X : Cx} {W : WX} {S : List Nat} {e a b : Expr} {es : List Expr} {c ca cb cc : Ex} {cs : List Ex} {m m1 m2 : Mode} {F : Cf} {T T' : Tp} {σ : L2.St} {H H1 : Hp} {O O1 : Addr → Prop}
theorem kit_ofG {pins : List (Addr × Obj)} {s : Shared} {x : V} {u t : Value} (I : Inv X pins σ H s) (rx : RelV x u) (ty : TyG X.K H x t) : ∃ P : Heap → Prop, PySem.W.KitX X.K u t P ∧ P s.heap ∧ u ≠ .builtin "__main__.__loader__#opaque" := by
  cases ty with
  | x ty => exact kit_of I rx ty
  | @d a o w t ks vs e q =>
    obtain ⟨ar, ep, k2, v2, rfl, _⟩ := q
    cases (show u = Value.ref a from rx)
    obtain ⟨ob, h1, h2, _⟩ := (show Heap.DictRaw s.heap a ar ep from (I.hok a _ e).1)
    exact ⟨_, PySem.W.kitx_dict, ⟨ob, h1, h2.1⟩, fun z => nomatch z⟩
def rIsiG (K : PySem.W.Frag) : List V → Hp → VK → Prop := fun xs H Q => ∃ (x : V) (tp : Addr) (cs : List V) (t : Value) (us : List Value) (b : Bool), xs = [x, .ref tp] ∧ H tp = some (.tup cs) ∧ Paired ClsV cs us ∧ TyG K H x t ∧ PySem.W.kitAny K t us = some b ∧ Q (.bl b) H
def rIsi1 (K : PySem.W.Frag) : List V → Hp → VK → Prop := fun xs H Q => ∃ (x c : V) (t u : Value) (b : Bool), xs = [x, c] ∧ ClsV c u ∧ TyG K H x t ∧ PySem.W.kitOne K t u = some b ∧ Q (.bl b) H
theorem call_isi1 : CallR X (.builtin "isinstance") (rIsi1 X.K) := by
  intro pins s σ H xs us Q I r h
  obtain ⟨x, c, t, u, b, rfl, k, ty, e, q⟩ := h
  obtain ⟨u1, u2, rfl, r1, r2⟩ := vals2 r
  have e2 := k.eq r2
  subst e2
  obtain ⟨P, Z, p, hx⟩ := kit_ofG I r1 ty
  exact PySem.W.kia_one Z I.kIn p e hx fun tk => ⟨.bl b, H, I.tok tk, rfl, q⟩
theorem call_isiG : CallR X (.builtin "isinstance") (rIsiG X.K) := by
  intro pins s σ H xs us Q I r h
  obtain ⟨x, tp, cs, t, ws, b, rfl, hT, k, ty, e, q⟩ := h
  obtain ⟨u1, u2, rfl, r1, r2⟩ := vals2 r
  cases (show u2 = Value.ref tp from r2)
  obtain ⟨P, Z, p, hx⟩ := kit_ofG I r1 ty
  obtain ⟨_, its, rv, o, h1, h2, n, h3⟩ := (show ObjOk X.prog X.w H s.heap tp (.tup cs) from I.hok tp _ hT)
  have e3 := ClsV.all k rv
  subst e3
  obtain ⟨oc, od, dt, sl⟩ := o
  simp only at h2 h3
  subst h2 h3
  exact PySem.W.kia_tup Z I.kIn p h1 e hx fun tk => ⟨.bl b, H, I.tok tk, rfl, q⟩
theorem sqL_ty {K : PySem.W.Frag} {a : Addr} {vs : List V} (h : SqL K H a vs) : TyX K H (.ref a) (.type "list") := by
  rcases h with (h | ⟨o, h⟩) | ⟨o, its, n, h1, h2, _⟩
  · exact .base (.lst h)
  · exact .base (.frz h)
  · exact .kList h1 h2
theorem sqT_ty {K : PySem.W.Frag} {a : Addr} {vs : List V} (h : SqT K H a vs) : TyX K H (.ref a) (.type "tuple") := by
  rcases h with (h | ⟨o, h⟩) | ⟨o, its, n, h1, h2, _⟩
  · exact .base (.tup h)
  · exact .fTuple h
  · exact .kTuple h1 h2
theorem rb_ty {g : Gh} {v : V} {d : D} (h : RepB g H O v d) (nt : d ≠ .tape) (np : ∀ o, d ≠ .pin o) (na : ∀ o, d ≠ .prm o) (nf : ∀ o, d ≠ .fnc o) : TyG g.K H v (.type (tyN d)) := by
  cases d with
  | non => rw [rb_non h]; exact .x (.base .non)
  | bl x => rw [rep_bl h]; exact .x (.base (.bl x))
  | int x => rw [rb_int h]; exact .x (.base (.int x))
  | str x => rw [rb_str h]; exact .x (.base (.str x))
  | tup ds => obtain ⟨p, vs, rfl, a, _⟩ := rb_tup h; exact .x (sqT_ty a)
  | scr ds => obtain ⟨p, vs, rfl, a, _⟩ := rb_scr h; exact .x (sqL_ty a)
  | lst ds => obtain ⟨p, vs, rfl, a, _⟩ := h; exact .x (.base (.lst a))
  | dct t ds => obtain ⟨p, o, vs, rfl, a, q, _⟩ := h; exact .d a q
  | tape => exact absurd rfl nt
  | pin o => exact absurd rfl (np o)
  | prm o => exact absurd rfl (na o)
  | fnc o => exact absurd rfl (nf o)
theorem tyN_all {d : D} : tyN d ∈ tyAll := by cases d <;> (unfold tyN tyAll; simp)
/-- T is well known -/
def tyOkB (t : String) : Bool := tyAll.all fun a => kitB a t == some (isT a t)
theorem kit_one {K : PySem.W.Frag} {t : String} {d : D} (h : tyOkB t = true) : PySem.W.kitOne K (.type (tyN d)) (.type t) = some (isT (tyN d) t) := by
  unfold tyOkB at h
  rw [List.all_eq_true] at h
  exact kit_ty (eq_of_beq (h _ tyN_all))
theorem kit_any {K : PySem.W.Frag} {d : D} : ∀ {ts : List String}, ts.all tyOkB = true → PySem.W.kitAny K (.type (tyN d)) (ts.map Value.type) = some (ts.any fun t => isT (tyN d) t)
  | [], _ => rfl
  | t :: ts, h => by
    rw [List.all_cons, Bool.and_eq_true] at h
    have h1 := kit_one (K := K) (d := d) h.1
    have h2 := kit_any (K := K) (d := d) h.2
    show (match PySem.W.kitOne K (.type (tyN d)) (.type t) with
      | some true => some true
      | some false => PySem.W.kitAny K (.type (tyN d)) (ts.map Value.type)
      | none => none) = _
    rw [h1, List.any_cons]
    cases isT (tyN d) t with
    | true => rfl
    | false => rw [h2]; rfl
theorem isiD_some {ts : List String} {d x : D} (h : isiD ts d = some x) : d ≠ .tape ∧ (∀ o, d ≠ .pin o) ∧ (∀ o, d ≠ .prm o) ∧ (∀ o, d ≠ .fnc o) ∧ x = .bl (ts.any fun t => isT (tyN d) t) := by
  unfold isiD at h
  split at h
  · cases h
  · cases h
  · cases h
  · cases h
  · rename_i q q2 q3 q4; cases h; exact ⟨q, q2, q3, q4, rfl⟩
theorem se_isi {t : Str} {n : String} {p p2 pos : Pos} (hg : Gl X "isinstance") (hm : X.mg "isinstance" = none) (ha : SE X W S a ca .bor) (hT : tyOkB n = true) (ht : PE X (.Name t p2) (tC (.ty n)))
    (h1 : starEach [a, .Name t p2] X.env = (false, eval a X.env) :: starEach [.Name t p2] X.env := by rfl) (h2 : starEach [.Name t p2] X.env = [(false, eval (.Name t p2) X.env)] := by rfl) (hpl : (backTo pos (starEach [.Name t p2] X.env)).any (·.1) = false := by rfl) :
    SE X W S (.Call (.Name "isinstance" p) [a, .Name t p2] [] pos) (ap1 (isiD [n]) ca) .fro :=
  ⟨peMono (pe_callB call_isi1 hg hm (by decide +kernel) (pa_cons ha.pe (pa_cons ht pa_nil h2) h1) (he := h1) (hpl := hpl)) fun σ H Q h => by
    obtain ⟨F, T, O, ft, r, p⟩ := h
    refine tE_bind ft r p fun d1 T1 v1 H1 O1 r1 l1 q1 p1 => ?_
    obtain ⟨d, e, k⟩ := po_of p1
    obtain ⟨nt, np2, na2, nf2, rfl⟩ := isiD_some e
    have ty := rb_ty (bOf q1 r1) nt np2 na2 nf2
    rw [ft.k] at ty
    refine ⟨v1, .ty n, _, _, _, rfl, .ty n, ty, kit_one hT, ?_⟩
    have e2 : ([n].any fun t => isT (tyN d1) t) = isT (tyN d1) n := by simp
    rw [e2] at k
    exact k _ H1 O1 r1 (Le.refl _) (.bl _)⟩
theorem pa_names : ∀ {ts : List String} {es : List Expr}, PA X es (fun σ H Q => Q (ts.map V.ty) H) → PA X es (fun σ H Q => Q (ts.map V.ty) H) := fun h => h
theorem pa_nm0 : PA X [] (fun σ H Q => Q (([] : List String).map V.ty) H) := paMono pa_nil fun σ H Q h => h
theorem pa_nm {t : Expr} {n : String} {ts : List String} (ht : PE X t (tC (.ty n))) (h : PA X es (fun σ H Q => Q (ts.map V.ty) H)) (hs : starEach (t :: es) X.env = (false, eval t X.env) :: starEach es X.env := by rfl) : PA X (t :: es) (fun σ H Q => Q ((n :: ts).map V.ty) H) :=
  paMono (pa_cons ht h hs) fun σ H Q h => h
theorem cls_all : ∀ ts : List String, Paired ClsV (ts.map V.ty) (ts.map Value.type)
  | [] => .nil
  | t :: ts => .cons (.ty t) (cls_all ts)
theorem se_isiT {ts : List String} {i : Nat} {p p2 pos : Pos} (hg : Gl X "isinstance") (hm : X.mg "isinstance" = none) (ha : SE X W S a ca .bor) (hT : ts.all tyOkB = true) (ht : PA X es (fun σ H Q => Q (ts.map V.ty) H)) (hz : ts.length ≤ sizeLine := by decide)
    (h1 : starEach [a, .Tuple es i p2] X.env = (false, eval a X.env) :: starEach [.Tuple es i p2] X.env := by rfl) (h2 : starEach [.Tuple es i p2] X.env = [(false, eval (.Tuple es i p2) X.env)] := by rfl) (hpl : (backTo pos (starEach [.Tuple es i p2] X.env)).any (·.1) = false := by rfl) :
    SE X W S (.Call (.Name "isinstance" p) [a, .Tuple es i p2] [] pos) (ap1 (isiD ts) ca) .fro :=
  ⟨peMono (pe_callB call_isiG hg hm (by decide +kernel) (pa_cons ha.pe (pa_cons (pe_tup ht) pa_nil h2) h1) (he := h1) (hpl := hpl)) fun σ H Q h => by
    obtain ⟨F, T, O, ft, r, p⟩ := h
    refine tE_bind ft r p fun d1 T1 v1 H1 O1 r1 l1 q1 p1 => ?_
    obtain ⟨d, e, k⟩ := po_of p1
    obtain ⟨nt, np2, na2, nf2, rfl⟩ := isiD_some e
    refine ⟨by rw [List.length_map]; exact hz, fun tp np => ?_⟩
    obtain ⟨r2, l2, z2⟩ := R.new r1 (.tup (ts.map V.ty)) np
    have ty := rb_ty (q1 _ _ _ r2 l2) nt np2 na2 nf2
    rw [ft.k] at ty
    exact ⟨v1, tp, ts.map V.ty, _, ts.map Value.type, _, rfl, upd_same, cls_all ts, ty, kit_any hT, k _ _ O1 r2 l2 (.bl _)⟩⟩

/-! ### slices -/
def cutD (ds : List D) (lo hi : Option Int) : List D := (ds.drop (HT.sIx ds.length 0 lo)).take (HT.sIx ds.length ds.length hi - HT.sIx ds.length 0 lo)
def slD (d : D) (lo hi : Option Int) : Option D := match d with
  | .lst ds => some (.lst (cutD ds lo hi))
  | .scr ds => some (.lst (cutD ds lo hi))
  | .tup ds => some (.tup (cutD ds lo hi))
  | _ => none
theorem RepL.cut {g : Gh} {vs : List V} {ds : List D} (h : RepL g H vs ds) (lo hi : Option Int) : RepL g H (cutV vs lo hi) (cutD ds lo hi) := by
  unfold cutV cutD
  rw [h.len]
  exact (h.drop _).take _
def SlS (X : Cx) (S : List Nat) (r : V → Option Int → Option Int → Hp → VK → Prop) (f : D → Option Int → Option Int → Option D) (m : Mode) : Prop := ∀ (F : Cf) T H O v d1 lo hi d Q, F.g.K = X.K → F.R S T H O → RepB F.g H O v d1 → f d1 lo hi = some d →
  (∀ v H' O', F.R S T H' O' → Le (fz H O) (fz H' O') → MOk m F S H' O' v d → Q v H') → r v lo hi H Q
theorem slOr {r1 r2 : V → Option Int → Option Int → Hp → VK → Prop} (h1 : SlR X r1) (h2 : SlR X r2) : SlR X (fun x l u H Q => r1 x l u H Q ∨ r2 x l u H Q) := by
  intro pins s σ H x v vl vu lo hi sl Q I rx hs pl pu h
  rcases h with h | h
  · exact h1 pins s σ H x v vl vu lo hi sl Q I rx hs pl pu h
  · exact h2 pins s σ H x v vl vu lo hi sl Q I rx hs pl pu h
def rSl2 (X : Cx) : V → Option Int → Option Int → Hp → VK → Prop := fun x l u H Q => rSlL X.K x l u H Q ∨ rSlA X.K x l u H Q
theorem sl2 : SlR X (rSl2 X) := slOr sl_list sl_tupA
theorem cut_whole {ds : List D} {lo hi : Option Int} (h : HT.sIx ds.length 0 lo = 0 ∧ HT.sIx ds.length ds.length hi = ds.length) : cutD ds lo hi = ds := by
  unfold cutD
  rw [h.1, h.2]
  simp
theorem o_sl : SlS X S (rSl2 X) slD .fro := fun F T H O v d1 lo hi d Q hK r q e k => by
  unfold slD at e
  split at e
  · cases e
    obtain ⟨p, ws, rfl, a, b⟩ := rb_lst q
    exact .inl ⟨p, ws, rfl, .inl (.inl a), new_lst r (b.cut lo hi) k⟩
  · cases e
    obtain ⟨p, ws, rfl, a, b⟩ := rb_scr q
    rw [hK] at a
    exact .inl ⟨p, ws, rfl, a, new_lst r (b.cut lo hi) k⟩
  · rename_i ds
    cases e
    obtain ⟨p, ws, rfl, a, b⟩ := rb_tup q
    rw [hK] at a
    refine .inr ⟨p, ws, rfl, a, fun z => ?_, fun _ => new_tup r (b.cut lo hi) k⟩
    rw [b.len] at z
    rw [cut_whole z] at k
    exact k _ H O r (Le.refl _) q
  · cases e
def slLD (d : D) (lo hi : Option Int) : Option D := match d with
  | .lst ds => some (.lst (cutD ds lo hi))
  | _ => none
theorem o_slO : SlS X S (rSl2 X) slLD .fre := fun F T H O v d1 lo hi d Q hK r q e k => by
  unfold slLD at e
  split at e
  · cases e
    obtain ⟨p, ws, rfl, a, b⟩ := rb_lst q
    exact .inl ⟨p, ws, rfl, .inl (.inl a), new_lstO r (b.cut lo hi) k⟩
  · cases e
/-- an int or nothing -/
def poE (c : Option Ex) : Ve → Tp → Res (Option Int) := fun env T => match c with
  | none => .ok none T
  | some c => (c env T).bind fun d T => match d with
    | .int i => .ok (some i) T
    | _ => .no
def slE (f : D → Option Int → Option Int → Option D) (c : Ex) (lo hi : Option Ex) : Ex := fun env T => (c env T).bind fun d T => (poE lo env T).bind fun l T => (poE hi env T).bind fun h T => ofO (f d l h) T
def PoO (X : Cx) (W : WX) (S : List Nat) (F : Cf) (H : Hp) (O : Addr → Prop) (r : Res (Option Int)) (Q : Option Int → Hp → Prop) : Prop := match r with
  | .ok i T' => ∀ H' O', F.R S T' H' O' → Le (fz H O) (fz H' O') → Q i H'
  | .ex x T' => ∀ H' O', F.R S T' H' O' → W (ec X x) none F.σ H'
  | .no => False
def tPO (X : Cx) (W : WX) (S : List Nat) (c : Option Ex) : TO := fun σ H Q => ∃ F T O, Fit X F σ ∧ F.R S T H O ∧ PoO X W S F H O (poE c F.env T) Q
structure SO (X : Cx) (W : WX) (S : List Nat) (e : Option Expr) (c : Option Ex) : Prop where
  po : PO X e (tPO X W S c)
theorem so_none : SO X W S none none := ⟨⟨fun pins s σ H Q I h => po_none.run pins s σ H Q I (by
  obtain ⟨F, T, O, ft, r, p⟩ := h
  exact p H O r (Le.refl _))⟩⟩
theorem so_some (h : SE X W S e c .bor) : SO X W S (some e) (some c) := ⟨⟨fun pins s σ H Q I hq => (po_some h.pe).run pins s σ H Q I (by
  obtain ⟨F, T, O, ft, r, p⟩ := hq
  refine ⟨F, T, O, ft, r, ?_⟩
  have p : PoO X W S F H O ((c F.env T).bind fun d T => match d with
    | .int i => .ok (some i) T
    | _ => .no) Q := p
  cases ec : c F.env T with
  | ok d T' =>
    rw [ec] at p
    intro v H' O' r' l' q'
    cases d with
    | int i => exact ⟨i, rb_int (bOf q' r'), p H' O' r' l'⟩
    | _ => exact False.elim p
  | ex x T' => rw [ec] at p; exact p
  | no => rw [ec] at p; exact p)⟩⟩
theorem tPO_bind {Q : VK} {c : Option Ex} {k : Option Int → Tp → Res D} {Qn : Option Int → Hp → Prop} (f : Fit X F σ) (r : F.R S T H O) (h : Po X W S m F H O ((poE c F.env T).bind k) Q)
    (n : ∀ d T1 H1 O1, F.R S T1 H1 O1 → Le (fz H O) (fz H1 O1) → Po X W S m F H1 O1 (k d T1) Q → Qn d H1) : tPO X W S c σ H Qn := by
  refine ⟨F, T, O, f, r, ?_⟩
  cases e : poE c F.env T with
  | ok d T1 =>
    rw [e] at h
    exact fun H1 O1 r1 l1 => n d T1 H1 O1 r1 l1 (Po.le h l1)
  | ex x T1 =>
    rw [e] at h
    exact h
  | no =>
    rw [e] at h
    exact h
theorem se_sl {r : V → Option Int → Option Int → Hp → VK → Prop} {f : D → Option Int → Option Int → Option D} {lo hi : Option Expr} {cl ch : Option Ex} {pos p2 : Pos} (hr : SlR X r) (hs : SlS X S r f m) (ha : SE X W S a ca .bor) (hl : SO X W S lo cl) (hh : SO X W S hi ch) :
    SE X W S (.Subscript a (.Slice lo hi none p2) pos) (slE f ca cl ch) m :=
  ⟨peMono (pe_slice hr ha.pe hl.po hh.po) fun σ H Q h => by
    obtain ⟨F, T, O, ft, r, p⟩ := h
    refine tE_bind ft r p fun d1 T1 v1 H1 O1 r1 l1 q1 p1 => ?_
    refine tPO_bind ft r1 p1 fun l T2 H2 O2 r2 l2 p2 => ?_
    refine tPO_bind ft r2 p2 fun u T3 H3 O3 r3 l3 p3 => ?_
    obtain ⟨d, e, k⟩ := po_of p3
    exact hs F T3 H3 O3 v1 d1 l u d Q ft.k r3 (q1 H3 O3 T3 r3 (l2.trans l3)) e k⟩

/-! ### methods that only read -/
def mtE (f : D → List D → Option D) (c : Ex) (cs : List Ex) : Ex := fun env T => (c env T).bind fun d T => (esE cs env T).bind fun ds T => ofO (f d ds) T
def MtS (X : Cx) (S : List Nat) (tn : String) (r : V → List V → Hp → VK → Prop) (f : D → List D → Option D) (m : Mode) : Prop := ∀ (F : Cf) T H O v vs d1 ds d Q, F.g.K = X.K → F.g.w = X.w → F.R S T H O → RepB F.g H O v d1 → RepBL F.g H O vs ds → f d1 ds = some d →
  (∀ v H' O', F.R S T H' O' → Le (fz H O) (fz H' O') → MOk m F S H' O' v d → Q v H') → r v vs H Q
end
end Ev

/-! Ev: statements -/
namespace Ev
open PySem PySem.Spec PyProof.Rows L2

/-! ### the state changes -/
section
variable {g : Gh} {S S' : List Nat} {env tms : Ve} {T T' : Tp} {σ τ : L2.St} {H H' : Hp} {O O' : Addr → Prop} {i : Nat} {d : D} {v : V} {p : Addr}
theorem set_get {α : Type} {l : List α} {i j : Nat} {x : α} : (l.set i x)[j]? = if i = j then (if i < l.length then some x else none) else l[j]? := by
  by_cases h : i = j
  · subst h
    rw [if_pos rfl, List.getElem?_set_self']
    by_cases q : i < l.length
    · rw [if_pos q, List.getElem?_eq_getElem q]; rfl
    · rw [if_neg q, List.getElem?_eq_none (by omega)]; rfl
  · rw [if_neg h, List.getElem?_set_ne h]
theorem R.setF (r : R g S env T σ H O) (hi : i < env.length) (hn : i ∉ S) (q : Rep g (fz H O) v d) : R g S (env.set i (some d)) T (σ.set i (some v)) H O := by
  have hl := r.len
  refine ⟨r.oh, r.oin, r.o0, r.o1, r.ext, by rw [List.length_set, List.length_set, hl], fun j h => by rw [List.length_set]; exact r.bd j h, r.tape, fun j d' hj h => ?_, fun j d' hj h => ?_, fun j k d' d'' a hj hk h1 h2 h3 h4 => ?_⟩
  · rw [set_get] at h ⊢
    by_cases e : i = j
    · rw [if_pos e, if_pos hi] at h
      cases h
      rw [if_pos e, if_pos (by omega)]
      exact ⟨v, rfl, q⟩
    · rw [if_neg e] at h ⊢
      exact r.fro j d' hj h
  · have e : i ≠ j := fun z => hn (by rw [z]; exact hj)
    rw [set_get, if_neg e] at h ⊢
    exact r.own j d' hj h
  · have e : i ≠ j := fun z => hn (by rw [z]; exact hj)
    have e2 : i ≠ k := fun z => hn (by rw [z]; exact hk)
    rw [set_get, if_neg e] at h1 h3
    rw [set_get, if_neg e2] at h2 h4
    exact r.inj j k d' d'' a hj hk h1 h2 h3 h4
theorem R.setO (r : R g S env T σ H O) (hi : i < env.length) (q : OwnAt g H O p d) (ne : ∀ (j : Nat) d', j ∈ S → env[j]? = some (some d') → σ[j]? ≠ some (some (V.ref p))) : R g (i :: S) (env.set i (some d)) T (σ.set i (some (V.ref p))) H O := by
  have hl := r.len
  have key : ∀ (j : Nat) d', j ∈ i :: S → (env.set i (some d))[j]? = some (some d') → (i = j ∧ d' = d ∧ (σ.set i (some (V.ref p)))[j]? = some (some (V.ref p))) ∨ (i ≠ j ∧ j ∈ S ∧ env[j]? = some (some d') ∧ (σ.set i (some (V.ref p)))[j]? = σ[j]?) := fun j d' hj h => by
    by_cases e : i = j
    · rw [set_get, if_pos e, if_pos hi] at h
      cases h
      exact .inl ⟨e, rfl, by rw [set_get, if_pos e, if_pos (by omega)]⟩
    · rw [set_get, if_neg e] at h
      rcases List.mem_cons.mp hj with z | z
      · exact absurd z.symm e
      · exact .inr ⟨e, z, h, by rw [set_get, if_neg e]⟩
  refine ⟨r.oh, r.oin, r.o0, r.o1, r.ext, by rw [List.length_set, List.length_set, hl], fun j h => ?_, r.tape, fun j d' hj h => ?_, fun j d' hj h => ?_, fun j k d' d'' a hj hk h1 h2 h3 h4 => ?_⟩
  · rw [List.length_set]
    rcases List.mem_cons.mp h with z | z
    · rw [z]; exact hi
    · exact r.bd j z
  · have e : i ≠ j := fun z => hj (by rw [z]; exact List.mem_cons_self)
    rw [set_get, if_neg e] at h ⊢
    exact r.fro j d' (fun z => hj (List.mem_cons_of_mem _ z)) h
  · rcases key j d' hj h with ⟨_, e2, e3⟩ | ⟨_, e2, e3, e4⟩
    · subst e2; exact ⟨p, e3, q⟩
    · obtain ⟨a, b1, b2⟩ := r.own j d' e2 e3
      exact ⟨a, e4.trans b1, b2⟩
  · rcases key j d' hj h1 with ⟨a1, a2, a3⟩ | ⟨a1, a2, a3, a4⟩
    · rcases key k d'' hk h2 with ⟨b1, b2, b3⟩ | ⟨b1, b2, b3, b4⟩
      · omega
      · rw [a3] at h3; cases h3
        rw [b4] at h4
        exact absurd h4 (ne k d'' b2 b3)
    · rcases key k d'' hk h2 with ⟨b1, b2, b3⟩ | ⟨b1, b2, b3, b4⟩
      · rw [b3] at h4; cases h4
        rw [a4] at h3
        exact absurd h3 (ne j d' a2 a3)
      · rw [a4] at h3; rw [b4] at h4
        exact r.inj j k d' d'' a a2 b2 a3 b3 h3 h4
theorem fz_upd {o : HO} (h : O p) : fz (upd H p o) O = fz H O := by
  funext a
  by_cases q : O a
  · rw [fz_in q, fz_in q]
  · rw [fz_out q, fz_out q, upd_ne fun e => q (by rw [e]; exact h)]
/-- one's own object is changed -/
theorem R.mut {o : HO} {d0 : D} (r : R g S env T σ H O) (hi : i ∈ S) (h0 : env[i]? = some (some d0)) (hp : σ[i]? = some (some (V.ref p))) (q : Own1 g (upd H p o) O p d) : R g S (env.set i (some d)) T σ (upd H p o) O := by
  obtain ⟨p', b1, b2⟩ := r.own i d0 hi h0
  rw [hp] at b1; cases b1
  have ef : fz (upd H p o) O = fz H O := fz_upd b2.o
  have hil := r.bd i hi
  refine ⟨r.oh, fun a ha => ?_, r.o0, r.o1, fun a u n h => ?_, by rw [List.length_set]; exact r.len, fun j h => by rw [List.length_set]; exact r.bd j h, r.tape.of (fun a e oa => ⟨oa, upd_ne fun z => b2.npt (by rw [← z]; exact e)⟩) (by rw [ef]; exact Le.refl _), fun j d' hj h => ?_, fun j d' hj h => ?_, fun j k d' d'' a hj hk h1 h2 h3 h4 => ?_⟩
  · by_cases e : a = p
    · rw [e, upd_same]; simp
    · rw [upd_ne e]; exact r.oin a ha
  · have e : a ≠ p := fun z => by rw [z, b2.new] at h; cases h
    rw [upd_ne e]; exact r.ext a u n h
  · have e : i ≠ j := fun z => hj (by rw [← z]; exact hi)
    rw [set_get, if_neg e] at h
    rw [ef]
    exact r.fro j d' hj h
  · by_cases e : i = j
    · subst e
      rw [set_get, if_pos rfl, if_pos hil] at h
      cases h
      exact ⟨p, hp, b2.o, b2.new, b2.npt, q⟩
    · rw [set_get, if_neg e] at h
      obtain ⟨a, c1, c2⟩ := r.own j d' hj h
      have ne : a ≠ p := fun z => e (r.inj i j d0 d' p hi hj h0 h hp (by rw [c1, z]))
      exact ⟨a, c1, c2.o, c2.new, c2.npt, c2.at_.of (upd_ne ne) (by rw [ef]; exact Le.refl _)⟩
  · have f : ∀ (j : Nat) d', (env.set i (some d))[j]? = some (some d') → ∃ x, env[j]? = some (some x) := fun j d' h => by
      rw [set_get] at h
      by_cases e : i = j
      · subst e; exact ⟨_, h0⟩
      · rw [if_neg e] at h; exact ⟨_, h⟩
    obtain ⟨x, hx⟩ := f j d' h1
    obtain ⟨y, hy⟩ := f k d'' h2
    exact r.inj j k x y a hj hk hx hy h3 h4
/-- what waits -/
theorem R.push (r : R g S env T σ H O) (q : Rep g (fz H O) v d) : R g S (env ++ [some d]) T (σ ++ [some v]) H O := by
  have hl := r.len
  have key : ∀ (j : Nat), j ∈ S → (env ++ [some d])[j]? = env[j]? ∧ (σ ++ [some v])[j]? = σ[j]? := fun j hj => by
    have := r.bd j hj
    exact ⟨List.getElem?_append_left this, List.getElem?_append_left (by omega)⟩
  refine ⟨r.oh, r.oin, r.o0, r.o1, r.ext, by rw [List.length_append, List.length_append, hl]; rfl, fun j h => by rw [List.length_append]; exact Nat.lt_add_right _ (r.bd j h), r.tape, fun j d' hj h => ?_, fun j d' hj h => ?_, fun j k d' d'' a hj hk h1 h2 h3 h4 => ?_⟩
  · rcases Nat.lt_or_ge j env.length with z | z
    · rw [List.getElem?_append_left z] at h
      rw [List.getElem?_append_left (by omega)]
      exact r.fro j d' hj h
    · rw [List.getElem?_append_right z] at h
      rw [List.getElem?_append_right (by omega), ← hl]
      cases e : j - env.length with
      | zero => rw [e] at h; cases h; exact ⟨v, rfl, q⟩
      | succ n => rw [e] at h; simp at h
  · rw [(key j hj).1] at h
    rw [(key j hj).2]
    exact r.own j d' hj h
  · rw [(key j hj).1] at h1; rw [(key k hk).1] at h2; rw [(key j hj).2] at h3; rw [(key k hk).2] at h4
    exact r.inj j k d' d'' a hj hk h1 h2 h3 h4
theorem R.pop {x : Option D} {y : Option V} (r : R g S (env ++ [x]) T (σ ++ [y]) H O) (hb : ∀ i, i ∈ S → i < env.length) : R g S env T σ H O := by
  have hl : env.length = σ.length := by
    have := r.len
    rw [List.length_append, List.length_append] at this
    simpa using this
  have key : ∀ (j : Nat), j < env.length → (env ++ [x])[j]? = env[j]? ∧ (σ ++ [y])[j]? = σ[j]? := fun j hj => ⟨List.getElem?_append_left hj, List.getElem?_append_left (by omega)⟩
  refine ⟨r.oh, r.oin, r.o0, r.o1, r.ext, hl, hb, r.tape, fun j d' hj h => ?_, fun j d' hj h => ?_, fun j k d' d'' a hj hk h1 h2 h3 h4 => ?_⟩
  · have z : j < env.length := by
      rcases Nat.lt_or_ge j env.length with z | z
      · exact z
      · rw [List.getElem?_eq_none z] at h; cases h
    rw [← (key j z).1] at h
    rw [← (key j z).2]
    exact r.fro j d' hj h
  · rw [← (key j (hb j hj)).1] at h
    rw [← (key j (hb j hj)).2]
    exact r.own j d' hj h
  · rw [← (key j (hb j hj)).1] at h1; rw [← (key k (hb k hk)).1] at h2; rw [← (key j (hb j hj)).2] at h3; rw [← (key k (hb k hk)).2] at h4
    exact r.inj j k d' d'' a hj hk h1 h2 h3 h4
/-- a fresh object is given away -/
theorem R.give (r : R g S env T σ H O) (q : OwnAt g H O p d) (ne : ∀ (j : Nat) d', j ∈ S → env[j]? = some (some d') → σ[j]? ≠ some (some (V.ref p))) :
    ∃ O', R g S env T σ H O' ∧ Le (fz H O) (fz H O') ∧ Rep g (fz H O') (.ref p) d := by
  have l : Le (fz H O) (fz H fun a => O a ∧ a ≠ p) := fz_mono fun a o n h => ⟨fun q => n q.1, h⟩
  have np : fz H (fun a => O a ∧ a ≠ p) p = H p := fz_out fun z => z.2 rfl
  refine ⟨fun a => O a ∧ a ≠ p, ⟨r.oh, fun a ha => r.oin a ha.1, fun a h => ⟨r.o0 a h, fun z => ?_⟩, fun a h => r.o1 a h.1, r.ext, r.len, r.bd, r.tape.of (fun a e oa => ⟨⟨oa, fun z => q.npt (by rw [← z]; exact e)⟩, rfl⟩) l, fun j d' hj h => ?_, fun j d' hj h => ?_, r.inj⟩, l, ?_⟩
  · rw [z] at h; exact r.oh p h q.new
  · obtain ⟨v, b1, b2⟩ := r.fro j d' hj h
    exact ⟨v, b1, b2.le l⟩
  · obtain ⟨a, b1, b2⟩ := r.own j d' hj h
    exact ⟨a, b1, ⟨b2.o, fun z => ne j d' hj h (by rw [b1, z])⟩, b2.new, b2.npt, b2.at_.of rfl l⟩
  · have c := q.at_
    cases d with
    | lst ds => obtain ⟨vs, c1, c2⟩ := c; exact .lst (np.trans c1) (c2.le l)
    | dct t es => obtain ⟨o, vs, c1, q, c2⟩ := c; exact .dct (np.trans c1) q (c2.le l)
    | _ => exact c.elim
end
theorem SE.fz {X : Cx} {W : WX} {S : List Nat} {e : Expr} {c : Ex} (h : SE X W S e c .fre) : SE X W S e c .fro := ⟨peMono h.pe fun σ H Q ⟨F, T, O, f, r, p⟩ => ⟨F, T, O, f, r, by
  revert p
  cases c F.env T with
  | ok d T' =>
    intro p v H' O' r' l q
    obtain ⟨a, e, ow, ne⟩ := q
    subst e
    obtain ⟨O2, r2, l2, q2⟩ := R.give r' ow ne
    exact p _ H' O2 r2 (l.trans l2) q2
  | ex x T' => exact id
  | no => exact id⟩⟩

/-! ### meaning of statements -/
inductive SR where
  | nx (env : Ve) (T : Tp) | rt (d : D) (T : Tp) | bk (env : Ve) (T : Tp) | ct (env : Ve) (T : Tp) | ex (x : Str) (env : Ve) (T : Tp) | no
abbrev Sx := Ve → Tp → SR
def exS {α : Type} (r : Res α) (env : Ve) (k : α → Tp → SR) : SR := match r with
  | .ok a T => k a T
  | .ex x T => .ex x env T
  | .no => .no
def Cf.to (F : Cf) (env : Ve) (σ : L2.St) : Cf := { F with env := env, σ := σ }
structure Rend (g : Gh) (T : Tp) (H : Hp) (O : Addr → Prop) : Prop where
  oh : ∀ a, g.O0 a → g.H0 a ≠ none
  oin : ∀ a, O a → H a ≠ none
  o0 : ∀ a, g.O0 a → O a
  ext : Ext g.mut g.H0 H
  tape : TapeOk g T H O
def RtOk (fr : Bool) (g : Gh) (H : Hp) (O : Addr → Prop) (v : V) (d : D) : Prop := match fr with
  | false => Rep g (fz H O) v d
  | true => ∃ p, v = .ref p ∧ OwnAt g H O p d
def PoS (X : Cx) (W : WX) (S' Sl : List Nat) (fr : Bool) (F : Cf) (r : SR) (D' : Ends) : Prop := match r with
  | .nx env T => ∀ σ H O, σ.length = F.σ.length → env.length = F.env.length → (F.to env σ).R S' T H O → D'.nx σ H
  | .bk env T => ∀ σ H O, σ.length = F.σ.length → env.length = F.env.length → (F.to env σ).R Sl T H O → D'.bk σ H
  | .ct env T => ∀ σ H O, σ.length = F.σ.length → env.length = F.env.length → (F.to env σ).R Sl T H O → D'.ct σ H
  | .rt d T => ∀ v H O, Rend F.g T H O → RtOk fr F.g H O v d → D'.rt v H
  | .ex x env T => ∀ σ H O, σ.length = F.σ.length → env.length = F.env.length → (F.to env σ).R [] T H O → W (ec X x) none σ H
  | .no => False
def tS (X : Cx) (W : WX) (S S' Sl : List Nat) (fr : Bool) (c : Sx) : TS := fun D' σ H => ∃ F T O, Fit X F σ ∧ F.R S T H O ∧ PoS X W S' Sl fr F (c F.env T) D'
structure SS (X : Cx) (W : WX) (S S' Sl : List Nat) (fr : Bool) (st : Stmt) (c : Sx) : Prop where
  ps : PS X st (tS X W S S' Sl fr c)
structure SSs (X : Cx) (W : WX) (S S' Sl : List Nat) (fr : Bool) (st : List Stmt) (c : Sx) : Prop where
  ps : PSs X st (tS X W S S' Sl fr c)
theorem psMono {X : Cx} {e : Stmt} {t t' : TS} (h : PS X e t) (i : ∀ D σ H, t' D σ H → t D σ H) : PS X e t' := ⟨fun pins s σ H Q I q => h.run pins s σ H Q I (i _ _ _ q)⟩
theorem pssMono {X : Cx} {e : List Stmt} {t t' : TS} (h : PSs X e t) (i : ∀ D σ H, t' D σ H → t D σ H) : PSs X e t' := ⟨fun pins s σ H Q I q => h.run pins s σ H Q I (i _ _ _ q)⟩
section
variable {X : Cx} {W : WX} {S S1 S2 S' Sl : List Nat} {fr : Bool} {e a b : Expr} {st : Stmt} {sts : List Stmt} {c ca cb cc : Ex} {s s1 s2 : Sx} {m : Mode} {F : Cf} {T T' : Tp} {σ : L2.St} {H H1 : Hp} {O O1 : Addr → Prop} {D' : Ends}
theorem Cf.R.sub (r : F.R S T H O) (hs : ∀ i, i ∈ S' → i ∈ S) : ∃ O', F.R S' T H O' ∧ Le (fz H O) (fz H O') ∧ ∀ a, O' a → O a :=
  Ev.R.sub r fun i hi => by
    rcases List.mem_append.mp hi with q | q
    · exact List.mem_append_left _ (hs i q)
    · exact List.mem_append_right _ q
theorem Cf.same (f : Fit X F σ) : F.to F.env F.σ = F := rfl
theorem Fit0.to {env : Ve} {σ' : L2.St} (f : Fit X F σ) (h1 : σ'.length = F.σ.length) (h2 : env.length = F.env.length) : Fit X (F.to env σ') σ' := ⟨rfl, f.k, f.w, (by show env.length = σ'.length; rw [h1, h2]; exact f.l), fun i hi => (by show env.length ≤ i; rw [h2]; exact f.x i hi)⟩
/-- an expression, then more -/
theorem tE_bindS {k : D → Tp → SR} {Qn : VK} (f : Fit X F σ) (r : F.R S T H O) (h : PoS X W S' Sl fr F (exS (c F.env T) F.env k) D')
    (n : ∀ d T1 v H1 O1, F.R S T1 H1 O1 → MOk m F S H1 O1 v d → PoS X W S' Sl fr F (k d T1) D' → Qn v H1) : tE X W S c m σ H Qn := by
  refine ⟨F, T, O, f, r, ?_⟩
  cases e : c F.env T with
  | ok d T1 =>
    rw [e] at h
    exact fun v H1 O1 r1 l1 q => n d T1 v H1 O1 r1 q h
  | ex x T1 =>
    rw [e] at h
    intro H1 O1 r1
    obtain ⟨O2, r2, _⟩ := Cf.R.sub r1 (S' := []) (fun i h => by cases h)
    have z := h F.σ H1 O2 rfl rfl r2
    exact z
  | no =>
    rw [e] at h
    exact h
theorem SS.weak (h : SS X W S1 S' Sl fr st s) (hs : ∀ i, i ∈ S1 → i ∈ S) : SS X W S S' Sl fr st s := ⟨psMono h.ps fun D σ H ⟨F, T, O, f, r, p⟩ => by
  obtain ⟨O2, r2, _⟩ := Cf.R.sub r hs
  exact ⟨F, T, O2, f, r2, p⟩⟩
theorem SSs.weak (h : SSs X W S1 S' Sl fr sts s) (hs : ∀ i, i ∈ S1 → i ∈ S) : SSs X W S S' Sl fr sts s := ⟨pssMono h.ps fun D σ H ⟨F, T, O, f, r, p⟩ => by
  obtain ⟨O2, r2, _⟩ := Cf.R.sub r hs
  exact ⟨F, T, O2, f, r2, p⟩⟩
theorem PoS.weak {r : SR} (h : PoS X W S2 Sl fr F r D') (hs : ∀ i, i ∈ S2 → i ∈ S') : PoS X W S' Sl fr F r D' := by
  cases r with
  | nx env T =>
    intro σ H O a b r
    obtain ⟨O2, r2, _⟩ := Cf.R.sub r hs
    exact h σ H O2 a b r2
  | _ => exact h
/-! ### blocks -/
def sq (a b : Sx) : Sx := fun env T => match a env T with
  | .nx env T => b env T
  | r => r
def sk : Sx := fun env T => .nx env T
theorem ss_nil (hs : ∀ i, i ∈ S' → i ∈ S := by decide) : SSs X W S S' Sl fr [] sk := ⟨pssMono pss_nil fun D σ H ⟨F, T, O, f, r, p⟩ => by
  obtain ⟨O2, r2, _⟩ := Cf.R.sub r hs
  have z := p F.σ H O2 rfl rfl r2
  rw [f.s] at z
  exact z⟩
theorem PoS.to {env : Ve} {σ' : L2.St} {r : SR} (h : PoS X W S' Sl fr F r D') (h1 : σ'.length = F.σ.length) (h2 : env.length = F.env.length) : PoS X W S' Sl fr (F.to env σ') r D' := by
  cases r with
  | nx env T => exact fun σ H O a b r => h σ H O (a.trans h1) (b.trans h2) r
  | bk env T => exact fun σ H O a b r => h σ H O (a.trans h1) (b.trans h2) r
  | ct env T => exact fun σ H O a b r => h σ H O (a.trans h1) (b.trans h2) r
  | ex x env T => exact fun σ H O a b r => h σ H O (a.trans h1) (b.trans h2) r
  | rt d T => exact h
  | no => exact h
theorem ss_cons (h1 : SS X W S S1 Sl fr st s1) (h2 : SSs X W S1 S' Sl fr sts s2) : SSs X W S S' Sl fr (st :: sts) (sq s1 s2) := ⟨pssMono (pss_cons h1.ps h2.ps) fun D σ H ⟨F, T, O, f, r, p⟩ => by
  refine ⟨F, T, O, f, r, ?_⟩
  have p : PoS X W S' Sl fr F (match s1 F.env T with
    | .nx env T => s2 env T
    | r => r) D := p
  revert p
  cases s1 F.env T with
  | nx env T1 => exact fun p σ' H' O' a b r' => ⟨F.to env σ', T1, O', f.to a b, r', p.to a b⟩
  | bk env T1 => exact id
  | ct env T1 => exact id
  | ex x env T1 => exact id
  | rt d T1 => exact id
  | no => exact id⟩
theorem ss_one (h1 : SS X W S S' Sl fr st s1) : SSs X W S S' Sl fr [st] s1 := ⟨pssMono (pss_one h1.ps) fun D σ H h => h⟩
/-! ### return, if, pass -/
def rtS (c : Ex) : Sx := fun env T => exS (c env T) env fun d T => .rt d T
theorem R.rend {g : Gh} {env : Ve} (r : Ev.R g S env T σ H O) : Rend g T H O := ⟨r.oh, r.oin, r.o0, r.ext, r.tape⟩
theorem ss_ret {pos : Pos} (h : SE X W S e c .fro) : SS X W S S' Sl false (.Return (some e) pos) (rtS c) := ⟨psMono (ps_ret h.pe) fun D σ H ⟨F, T, O, f, r, p⟩ =>
  tE_bindS f r p fun d T1 v H1 O1 r1 q p1 => p1 v H1 O1 (R.rend r1) q⟩
theorem ss_retO {pos : Pos} (h : SE X W S e c .fre) : SS X W S S' Sl true (.Return (some e) pos) (rtS c) := ⟨psMono (ps_ret h.pe) fun D σ H ⟨F, T, O, f, r, p⟩ =>
  tE_bindS f r p fun d T1 v H1 O1 r1 ⟨a, e, ow, _⟩ p1 => p1 v H1 O1 (R.rend r1) ⟨a, e, ow⟩⟩
theorem ss_retV {x : Str} {pos p2 : Pos} (i : Nat) (hi : i ∈ S) (h : PE X (.Name x p2) (tVar i)) : SS X W S S' Sl true (.Return (some (.Name x p2)) pos) (rtS (vE i)) := ⟨psMono (ps_ret h) fun D σ H ⟨F, T, O, f, r, p⟩ => by
  rcases vE_no (i := i) (env := F.env) with ⟨d, e1, e2⟩ | e2
  · have p : PoS X W S' Sl true F (exS (vE i F.env T) F.env fun d T => .rt d T) D := p
    rw [e2] at p
    obtain ⟨a1, a2⟩ := f.at e1
    obtain ⟨q, b1, b2⟩ := r.own i d (List.mem_append_left _ hi) a1
    exact ⟨_, a2 _ b1, p _ H O (R.rend r) ⟨q, rfl, b2⟩⟩
  · have p : PoS X W S' Sl true F (exS (vE i F.env T) F.env fun d T => .rt d T) D := p
    rw [e2] at p; exact False.elim p⟩
def ifS (c : Ex) (a b : Sx) : Sx := fun env T => exS (c env T) env fun d T => match d with
  | .bl true => a env T
  | .bl false => b env T
  | _ => .no
theorem ss_if {pos : Pos} {sa sb : List Stmt} (hc : ST X W S e c) (ha : SSs X W S S' Sl fr sa s1) (hb : SSs X W S S' Sl fr sb s2) : SS X W S S' Sl fr (.If e sa sb pos) (ifS c s1 s2) :=
  ⟨psMono (ps_if hc.pt ha.ps hb.ps) fun D σ H ⟨F, T, O, f, r, p⟩ => by
    refine tE_bindS f r p fun d T1 v H1 O1 r1 q p1 => ?_
    cases d with
    | bl x =>
      have e := rep_bl (bOf (fro_bor q) r1)
      subst e
      cases x with
      | true => exact ⟨true, rfl, F, T1, O1, f, r1, p1⟩
      | false => exact ⟨false, rfl, F, T1, O1, f, r1, p1⟩
    | _ => exact False.elim p1⟩
theorem ss_pass {pos : Pos} (hs : ∀ i, i ∈ S' → i ∈ S := by decide) : SS X W S S' Sl fr (.Pass pos) sk := ⟨psMono ps_pass fun D σ H ⟨F, T, O, f, r, p⟩ => by
  obtain ⟨O2, r2, _⟩ := Cf.R.sub r hs
  have z := p F.σ H O2 rfl rfl r2
  rw [f.s] at z
  exact z⟩
def bkS : Sx := fun env T => .bk env T
def ctS : Sx := fun env T => .ct env T
theorem ss_break {pos : Pos} (hs : ∀ i, i ∈ Sl → i ∈ S := by decide) : SS X W S S' Sl fr (.Break pos) bkS := ⟨psMono ps_break fun D σ H ⟨F, T, O, f, r, p⟩ => by
  obtain ⟨O2, r2, _⟩ := Cf.R.sub r hs
  have z := p F.σ H O2 rfl rfl r2
  rw [f.s] at z
  exact z⟩
theorem ss_cont {pos : Pos} (hs : ∀ i, i ∈ Sl → i ∈ S := by decide) : SS X W S S' Sl fr (.Continue pos) ctS := ⟨psMono ps_continue fun D σ H ⟨F, T, O, f, r, p⟩ => by
  obtain ⟨O2, r2, _⟩ := Cf.R.sub r hs
  have z := p F.σ H O2 rfl rfl r2
  rw [f.s] at z
  exact z⟩
def drS (c : Ex) : Sx := fun env T => exS (c env T) env fun _ T => .nx env T
theorem ss_expr {pos : Pos} (h : SE X W S e c .fro) (hs : ∀ i, i ∈ S' → i ∈ S := by decide) (hw : swapsWith e none pos.line X.env = pure false := by rfl) : SS X W S S' Sl fr (.Expr e pos) (drS c) := ⟨psMono (ps_expr h.pe hw) fun D σ H ⟨F, T, O, f, r, p⟩ =>
  tE_bindS f r p fun d T1 v H1 O1 r1 q p1 => by
    obtain ⟨O2, r2, _⟩ := Cf.R.sub r1 hs
    have z := p1 F.σ H1 O2 rfl rfl r2
    rw [f.s] at z
    exact z⟩
/-! ### targets -/
abbrev Tf := D → Ve → Option Ve
/-- a target that takes frozen data -/
structure SG (X : Cx) (S is : List Nat) (tg : Expr) (f : Tf) (gt : TG) : Prop where
  pre : ∀ d env env', f d env = some env' → env'.length = env.length ∧ ∀ j, j ∉ is → env'[j]? = env[j]?
  pg : PG X tg gt
  sim : ∀ (F : Cf) T H O v d env', Fit X F F.σ → F.R S T H O → X.N.length = F.σ.length → Rep F.g (fz H O) v d → f d F.env = some env' →
    ∀ Q : L2.St → Hp → Prop, (∀ σ', σ'.length = F.σ.length → env'.length = F.env.length → (∀ j, j ∉ is → σ'[j]? = F.σ[j]?) → (F.to env' σ').R S T H O → Q σ' H) → gt v F.σ H Q
structure SGs (X : Cx) (S is : List Nat) (tgs : List Expr) (f : List D → Ve → Option Ve) (gt : TGs) : Prop where
  pre : ∀ d env env', f d env = some env' → env'.length = env.length ∧ ∀ j, j ∉ is → env'[j]? = env[j]?
  pg : PGs X tgs gt
  sim : ∀ (F : Cf) T H O vs ds env', Fit X F F.σ → F.R S T H O → X.N.length = F.σ.length → RepL F.g (fz H O) vs ds → f ds F.env = some env' →
    ∀ Q : L2.St → Hp → Prop, (∀ σ', σ'.length = F.σ.length → env'.length = F.env.length → (∀ j, j ∉ is → σ'[j]? = F.σ[j]?) → (F.to env' σ').R S T H O → Q σ' H) → gt vs F.σ H Q
def tgN (i : Nat) : Tf := fun d env => some (env.set i (some d))
def tgs0 : List D → Ve → Option Ve := fun ds env => match ds with
  | [] => some env
  | _ => none
def tgsC (f : Tf) (r : List D → Ve → Option Ve) : List D → Ve → Option Ve := fun ds env => match ds with
  | d :: ds => match f d env with
    | some env => r ds env
    | none => none
  | _ => none
def tgT (f : List D → Ve → Option Ve) : Tf := fun d env => match d with
  | .tup ds => f ds env
  | _ => none
theorem Cf.R.set {i : Nat} {d : D} {v : V} (r : F.R S T H O) (hl : F.env.length = F.σ.length) (hx : ∀ i, i ∈ F.xs → F.env.length ≤ i) (hi : i < F.env.length) (hn : i ∉ S) (q : Rep F.g (fz H O) v d) : (F.to (F.env.set i (some d)) (F.σ.set i (some v))).R S T H O := by
  have z := R.setF r (i := i) (by rw [List.length_append]; omega) (fun h => by
    rcases List.mem_append.mp h with h | h
    · exact hn h
    · exact absurd (hx i h) (by omega)) q
  rw [List.set_append_left _ _ hi, List.set_append_left _ _ (by omega)] at z
  exact z
theorem sg_name {i : Nat} {x : Str} {pos : Pos} (hN : X.N.Nodup) (hi : X.N[i]? = some x) (hx : Loc X.env.scope x) (hS : i ∉ S := by decide) (hf : X.fn x = true ∨ X.env.scope.names.lookup x = some .local := by first | exact .inl rfl | exact .inr rfl | assumption) : SG X S [i] (.Name x pos) (tgN i) (gName i) :=
  ⟨fun d env env' h => by
    cases h
    exact ⟨List.length_set .., fun j hj => by rw [set_get, if_neg fun z => hj (by rw [z]; exact List.mem_singleton.mpr rfl)]⟩, pg_name hN hi hx hf, fun F T H O v d env' ft r hn q e Q k => by
    cases e
    have hl := ft.l
    have hil : i < F.env.length := by
      rcases Nat.lt_or_ge i X.N.length with z | z
      · omega
      · rw [List.getElem?_eq_none z] at hi; cases hi
    exact k _ (List.length_set ..) (List.length_set ..) (fun j hj => by rw [set_get, if_neg fun z => hj (by rw [z]; exact List.mem_singleton.mpr rfl)]) (Cf.R.set r hl ft.x hil hS q)⟩
theorem sgs_nil : SGs X S [] [] tgs0 gNil := ⟨fun d env env' h => (by
  unfold tgs0 at h; split at h
  · cases h; exact ⟨rfl, fun _ _ => rfl⟩
  · cases h), pgs_nil, fun F T H O vs ds env' ft r hn q e Q k => by
  cases q with
  | nil => cases e; exact ⟨rfl, k F.σ rfl rfl (fun _ _ => rfl) r⟩
  | cons _ _ => cases e⟩
theorem sgs_cons {tg : Expr} {tgs : List Expr} {f : Tf} {fs : List D → Ve → Option Ve} {i1 i2 : List Nat} {g1 : TG} {g2 : TGs} (h1 : SG X S i1 tg f g1) (h2 : SGs X S i2 tgs fs g2) (hs : (assignEach (tg :: tgs) X.env).map (·.2) = assign tg X.env :: (assignEach tgs X.env).map (·.2) := by rfl) : SGs X S (i1 ++ i2) (tg :: tgs) (tgsC f fs) (gCons g1 g2) := by
  have p1 := h1.pg
  have q1 := h1.sim
  have p2 := h2.pg
  have q2 := h2.sim
  refine ⟨fun d env env' h => ?_, pgs_cons p1 p2 hs, fun F T H O vs ds env' ft r hn q e Q k => ?_⟩
  · unfold tgsC at h
    split at h
    · split at h
      · rename_i e1
        obtain ⟨a1, a2⟩ := h1.pre _ _ _ e1
        obtain ⟨b1, b2⟩ := h2.pre _ _ _ h
        exact ⟨b1.trans a1, fun j hj => (b2 j fun z => hj (List.mem_append_right _ z)).trans (a2 j fun z => hj (List.mem_append_left _ z))⟩
      · cases h
    · cases h
  cases q with
  | nil => cases e
  | @cons v vs d ds h1 h2 =>
    have e : (match f d F.env with
      | some env => fs ds env
      | none => none) = some env' := e
    cases e1 : f d F.env with
    | none => rw [e1] at e; cases e
    | some env1 =>
      rw [e1] at e
      refine ⟨v, vs, rfl, q1 F T H O v d env1 ft r hn h1 e1 _ fun σ1 a1 b1 c1 r1 => ?_⟩
      exact q2 (F.to env1 σ1) T H O vs ds env' (ft.to a1 b1) r1 (by show X.N.length = σ1.length; omega) h2 e Q fun σ2 a2 b2 c2 r2 => k σ2 (a2.trans a1) (b2.trans b1) (fun j hj => (c2 j fun z => hj (List.mem_append_right _ z)).trans (c1 j fun z => hj (List.mem_append_left _ z))) r2
theorem sg_tup {es : List Expr} {n i : Nat} {fs : List D → Ve → Option Ve} {is : List Nat} {pos : Pos} {g1 : TGs} (hc : X.calm = true) (h : SGs X S is es fs g1) (hfs : ∀ ds env env', fs ds env = some env' → ds.length = n) (hn : (assignEach es X.env).length = n := by rfl) (hst : (assignEach es X.env).findIdx? (·.1) = none := by rfl) :
    SG X S is (.Tuple es i pos) (tgT fs) (gTup X.K n g1) := by
  have p1 := h.pg
  have q1 := h.sim
  refine ⟨fun d env env' e => (by
    unfold tgT at e
    split at e
    · exact h.pre _ _ _ e
    · cases e), pg_tup hc p1 hn hst, fun F T H O v d env' ft r hN q e Q k => ?_⟩
  cases q with
  | tup a b =>
    have a := fz_le.sqT a
    rw [ft.k] at a
    exact ⟨_, _, rfl, a, by rw [b.len]; exact hfs _ _ _ e, q1 F T H O _ _ env' ft r hN b e Q k⟩
  | _ => cases e
theorem tgs0_len (ds : List D) (env env' : Ve) (h : tgs0 ds env = some env') : ds.length = 0 := by
  unfold tgs0 at h; split at h
  · rfl
  · cases h
theorem tgsC_len {f : Tf} {r : List D → Ve → Option Ve} {n : Nat} (hr : ∀ ds env env', r ds env = some env' → ds.length = n) (ds : List D) (env env' : Ve) (h : tgsC f r ds env = some env') : ds.length = n + 1 := by
  unfold tgsC at h; split at h
  · split at h
    · rw [List.length_cons, hr _ _ _ h]
    · cases h
  · cases h
def asS (f : Tf) (c : Ex) : Sx := fun env T => exS (c env T) env fun d T => match f d env with
  | some env => .nx env T
  | none => .no
theorem ss_asg {tg : Expr} {f : Tf} {pos : Pos} (hNl : ∀ pins σ H s, Inv X pins σ H s → σ.length = X.N.length := fun _ _ _ _ I => I.len) (he : SE X W S e c .fro) {is : List Nat} {gt : TG} (hg : SG X S' is tg f gt) (hs : ∀ i, i ∈ S' → i ∈ S := by decide) (h1 : swapsWithSole [tg] e pos.line X.env = pure false := by rfl) (h2 : swappedStores [tg] e X.env = pure none := by rfl)
    (h3 : (assignEach [tg] X.env).map (·.2) = [assign tg X.env] := by rfl) : SS X W S S' Sl fr (.Assign [tg] e pos) (asS f c) := by
  have pg := hg.pg
  have sim := hg.sim
  refine ⟨⟨fun pins s σ H D I h => (ps_asg he.pe pg h1 h2 h3).run pins s σ H D I ?_⟩⟩
  have hN := hNl _ _ _ _ I
  obtain ⟨F, T, O, ft, r, p⟩ := h
  refine tE_bindS ft r p fun d T1 v H1 O1 r1 q p1 => ?_
  obtain ⟨O2, r2, l2, _⟩ := Cf.R.sub r1 hs
  cases e1 : f d F.env with
  | none => rw [e1] at p1; exact False.elim p1
  | some env' =>
    rw [e1] at p1
    have z := sim F T1 H1 O2 v d env' ⟨rfl, ft.k, ft.w, ft.l, ft.x⟩ r2 (by rw [ft.s]; exact hN.symm) (Rep.le l2 q) e1 D.nx fun σ' a b _ r' => p1 σ' H1 O2 a b r'
    rw [ft.s] at z
    exact z
/-- a name takes a new object -/
def setS (i : Nat) (c : Ex) : Sx := fun env T => exS (c env T) env fun d T => .nx (env.set i (some d)) T
theorem ss_setO {x : Str} {i : Nat} {p pos : Pos} (hN : X.N.Nodup) (hi : X.N[i]? = some x) (hx : Loc X.env.scope x) (he : SE X W S e c .fre) (hs : ∀ j, j ∈ S' → j ∈ i :: S := by decide) (h1 : swapsWithSole [.Name x p] e pos.line X.env = pure false := by rfl) (h2 : swappedStores [.Name x p] e X.env = pure none := by rfl)
    (h3 : (assignEach [.Name x p] X.env).map (·.2) = [assign (.Name x p) X.env] := by rfl) (hf : X.fn x = true ∨ X.env.scope.names.lookup x = some .local := by first | exact .inl rfl | exact .inr rfl | assumption) : SS X W S S' Sl fr (.Assign [.Name x p] e pos) (setS i c) := by
  refine ⟨⟨fun pins s σ H D I h => (ps_asg he.pe (pg_name hN hi hx hf) h1 h2 h3).run pins s σ H D I ?_⟩⟩
  have hNl := I.len
  obtain ⟨F, T, O, ft, r, p⟩ := h
  have hil : i < F.env.length := by
    rcases Nat.lt_or_ge i X.N.length with z | z
    · rw [ft.l, ft.s, hNl]; exact z
    · rw [List.getElem?_eq_none z] at hi; cases hi
  refine tE_bindS ft r p fun d T1 v H1 O1 r1 ⟨a, ea, ow, ne⟩ p1 => ?_
  subst ea
  have z := R.setO r1 (i := i) (by rw [List.length_append]; omega) ow ne
  have hl := ft.l
  rw [List.set_append_left _ _ hil, List.set_append_left _ _ (by omega)] at z
  obtain ⟨O2, r2, _⟩ := Cf.R.sub (F := F.to (F.env.set i (some d)) (F.σ.set i (some (V.ref a)))) (S := i :: S) z hs
  have z := p1 (F.σ.set i (some (V.ref a))) H1 O2 (List.length_set ..) (List.length_set ..) r2
  rw [ft.s] at z
  exact z
end
end Ev

/-! Ev: loops, changes in place -/
namespace Ev
open PySem PySem.Spec PyProof.Rows L2

/-! ### while -/
def whl : Nat → Ex → Sx → Sx
  | 0, _, _ => fun _ _ => .no
  | n + 1, c, b => fun env T => exS (c env T) env fun d T => match d with
    | .bl true => match b env T with
      | .nx env T => whl n c b env T
      | .ct env T => whl n c b env T
      | .bk env T => .nx env T
      | r => r
    | .bl false => .nx env T
    | _ => .no
/-- a walk over the items -/
def loop (f : Tf) (b : Sx) : List D → Sx
  | [] => fun env T => .nx env T
  | d :: ds => fun env T => match f d env with
    | none => .no
    | some env => match b env T with
      | .nx env T => loop f b ds env T
      | .ct env T => loop f b ds env T
      | .bk env T => .nx env T
      | r => r
abbrev It_ := Ve → Tp → Res (List D)
def forS (f : Tf) (it : It_) (b : Sx) : Sx := fun env T => exS (it env T) env fun ds T => loop f b ds env T
section
variable {X : Cx} {W : WX} {S S1 S2 S' Sl Si : List Nat} {fr : Bool} {e a b : Expr} {st : Stmt} {sts : List Stmt} {c ca cb cc : Ex} {s s1 s2 : Sx} {m : Mode} {F : Cf} {T T' : Tp} {σ : L2.St} {H H1 : Hp} {O O1 : Addr → Prop} {D' : Ends}
theorem ss_while {pos : Pos} (n : Nat) (hp : PassesOwn (model X.prog X.w) X.A X.env X.xe) (hc : ST X W Si e c) (hb : SSs X W Si Si Si fr sts s) (h1 : ∀ i, i ∈ Si → i ∈ S := by decide) (h2 : ∀ i, i ∈ S' → i ∈ Si := by decide) : SS X W S S' Sl fr (.While e sts [] pos) (whl n c s) := by
  refine ⟨psMono (ps_while hp hc.pt hb.ps) fun D σ H ⟨F, T, O, f, r, p⟩ => ?_⟩
  obtain ⟨O2, r2, _⟩ := Cf.R.sub r h1
  refine ⟨fun m σ H => ∃ env T O, σ.length = F.σ.length ∧ env.length = F.env.length ∧ (F.to env σ).R Si T H O ∧ PoS X W S' Sl fr F (whl m c s env T) D, ⟨n, F.env, T, O2, by rw [f.s], rfl, by rw [← f.s]; exact r2, p⟩, ?_⟩
  rintro m σ H ⟨env, T, O, a1, a2, r, p⟩
  cases m with
  | zero => exact False.elim p
  | succ m =>
    have ft : Fit X (F.to env σ) σ := f.to a1 a2
    have p : PoS X W S' Sl fr F (exS (c env T) env fun d T => match d with
      | .bl true => match s env T with
        | .nx env T => whl m c s env T
        | .ct env T => whl m c s env T
        | .bk env T => .nx env T
        | r => r
      | .bl false => .nx env T
      | _ => .no) D := p
    have p := p.to a1 a2
    refine tE_bindS ft r p fun d T1 v H1 O1 r1 q p1 => ?_
    cases d with
    | bl x =>
      have e := rep_bl (bOf (fro_bor q) r1)
      subst e
      cases x with
      | false =>
        refine ⟨false, rfl, ?_⟩
        obtain ⟨O3, r3, _⟩ := Cf.R.sub r1 h2
        exact p1 σ H1 O3 rfl rfl r3
      | true =>
        refine ⟨true, rfl, fun σ' H' => ∃ env T O, σ'.length = F.σ.length ∧ env.length = F.env.length ∧ (F.to env σ').R Si T H' O ∧ PoS X W S' Sl fr F (whl m c s env T) D, fun σ' H' h => ⟨m, Nat.lt_succ_self _, h⟩, F.to env σ, T1, O1, ft, r1, ?_⟩
        have p1 : PoS X W S' Sl fr (F.to env σ) (match s env T1 with
          | .nx env T => whl m c s env T
          | .ct env T => whl m c s env T
          | .bk env T => .nx env T
          | r => r) D := p1
        revert p1
        show PoS X W S' Sl fr (F.to env σ) (match s env T1 with
          | .nx env T => whl m c s env T
          | .ct env T => whl m c s env T
          | .bk env T => .nx env T
          | r => r) D → PoS X W Si Si fr (F.to env σ) (s env T1) _
        have back : ∀ {r : SR}, PoS X W S' Sl fr (F.to env σ) r D → PoS X W S' Sl fr F r D := fun {r} h => by
          cases r with
          | nx e T => exact fun σ2 H2 O2 b1 b2 q => h σ2 H2 O2 (b1.trans a1.symm) (b2.trans a2.symm) q
          | bk e T => exact fun σ2 H2 O2 b1 b2 q => h σ2 H2 O2 (b1.trans a1.symm) (b2.trans a2.symm) q
          | ct e T => exact fun σ2 H2 O2 b1 b2 q => h σ2 H2 O2 (b1.trans a1.symm) (b2.trans a2.symm) q
          | ex x e T => exact fun σ2 H2 O2 b1 b2 q => h σ2 H2 O2 (b1.trans a1.symm) (b2.trans a2.symm) q
          | rt d T => exact h
          | no => exact h
        cases s env T1 with
        | nx env2 T2 => exact fun p1 σ2 H2 O2 b1 b2 r2 => ⟨env2, T2, O2, b1.trans a1, b2.trans a2, r2, back p1⟩
        | ct env2 T2 => exact fun p1 σ2 H2 O2 b1 b2 r2 => ⟨env2, T2, O2, b1.trans a1, b2.trans a2, r2, back p1⟩
        | bk env2 T2 =>
          intro p1 σ2 H2 O2 b1 b2 r2
          obtain ⟨O3, r3, _⟩ := Cf.R.sub r2 h2
          exact p1 σ2 H2 O3 b1 b2 r3
        | rt d T2 => exact id
        | ex x env2 T2 => exact id
        | no => exact id
    | _ => exact False.elim p1
/-! ### what is walked -/
def Cf.more (F : Cf) (vs : List V) (ds : List D) : Cf := { F with tms := F.tms ++ ds.map some, τ := F.τ ++ vs.map some }
/-- the iterator walks ds, while the frozen vs stand as dvs -/
def Sim (g : Gh) (J : It) (ds : List D) (vs : List V) (dvs : List D) : Prop := ∀ (H : Hp) (O : Addr → Prop), (∀ a, O a → H a ≠ none) → RepL g (fz H O) vs dvs → ∀ i,
  (i < ds.length → J.go i H ∧ ∀ x H', J.yld i H x H' → ∃ d, ds[i]? = some d ∧ ((H' = H ∧ Rep g (fz H O) x d) ∨ ∃ p o, H p = none ∧ H' = upd H p o ∧ Rep g (fz (upd H p o) O) x d)) ∧ (i = ds.length → J.stop i H)
def PoI (X : Cx) (W : WX) (S : List Nat) (F : Cf) (H0 : Hp) (O0 : Addr → Prop) (r : Res (List D)) (Rr : It → Hp → Prop) : Prop := match r with
  | .ok ds T => ∀ J H O vs dvs, F.R S T H O → Le (fz H0 O0) (fz H O) → RepL F.g (fz H O) vs dvs → Sim F.g J ds vs dvs → Rr J H
  | .ex x T => ∀ H O, F.R S T H O → W (ec X x) none F.σ H
  | .no => False
structure SI (X : Cx) (W : WX) (S : List Nat) (tg iter : Expr) (it : It_) : Prop where
  ex : ∃ wi, PI X tg iter wi ∧ ∀ (F : Cf) T H O Rr, Fit X F F.σ → F.R S T H O → PoI X W S F H O (it F.env T) Rr → wi F.σ H Rr
theorem pushL {g : Gh} : ∀ {vs : List V} {ds : List D} {env : Ve} {σ : L2.St}, Ev.R g S env T σ H O → RepL g (fz H O) vs ds → Ev.R g S (env ++ ds.map some) T (σ ++ vs.map some) H O
  | _, _, env, σ, r, .nil => by
    rw [List.map_nil, List.map_nil, List.append_nil, List.append_nil]; exact r
  | _, _, env, σ, r, .cons (v := v) (vs := vs) (d := d) (ds := ds) h t => by
    have z := pushL (R.push r h) t
    rw [List.append_assoc, List.append_assoc] at z
    exact z
theorem popL {g : Gh} : ∀ {ds : List (Option D)} {vs : List (Option V)} {env : Ve} {σ : L2.St}, ds.length = vs.length → Ev.R g S (env ++ ds) T (σ ++ vs) H O → (∀ i, i ∈ S → i < env.length) → Ev.R g S env T σ H O
  | [], [], env, σ, _, r, _ => by
    rw [List.append_nil, List.append_nil] at r; exact r
  | d :: ds, v :: vs, env, σ, h, r, hb => by
    have z : Ev.R g S ((env ++ [d]) ++ ds) T ((σ ++ [v]) ++ vs) H O := by
      rw [List.append_assoc, List.append_assoc]; exact r
    have z := popL (by simpa using h) z fun i hi => by rw [List.length_append]; exact Nat.lt_add_right _ (hb i hi)
    exact R.pop z hb
  | [], _ :: _, _, _, h, _, _ => by simp at h
  | _ :: _, [], _, _, h, _, _ => by simp at h
theorem R_more {vs : List V} {dvs : List D} (r : F.R S T H O) (q : RepL F.g (fz H O) vs dvs) : (F.more vs dvs).R S T H O := by
  have z := pushL r q
  rw [List.append_assoc, List.append_assoc] at z
  exact z
theorem R_less {vs : List V} {dvs : List D} (hl : vs.length = dvs.length) (r : (F.more vs dvs).R S T H O) (hb : ∀ i, i ∈ S ++ F.xs → i < (F.env ++ F.tms).length) : F.R S T H O := by
  have r : Ev.R F.g (S ++ F.xs) (F.env ++ (F.tms ++ dvs.map some)) T (F.σ ++ (F.τ ++ vs.map some)) H O := r
  rw [← List.append_assoc, ← List.append_assoc] at r
  exact popL (by simp [hl]) r hb
theorem more_to {vs : List V} {dvs : List D} {env : Ve} {σ : L2.St} : (F.to env σ).more vs dvs = (F.more vs dvs).to env σ := rfl
/-- what holds at the end of the inner block, outside of it -/
theorem PoS.more {vs : List V} {dvs : List D} {r : SR} (hl : vs.length = dvs.length) (hb : ∀ i, i ∈ S' ++ F.xs → i < (F.env ++ F.tms).length) (hb2 : ∀ i, i ∈ Sl ++ F.xs → i < (F.env ++ F.tms).length) (h : PoS X W S' Sl fr F r D') : PoS X W S' Sl fr (F.more vs dvs) r D' := by
  have k : ∀ {S : List Nat} {env : Ve} {σ : L2.St} {T : Tp} {H : Hp} {O : Addr → Prop}, env.length = F.env.length → (∀ i, i ∈ S ++ F.xs → i < (F.env ++ F.tms).length) → ((F.more vs dvs).to env σ).R S T H O → (F.to env σ).R S T H O := fun {S env σ T H O} he hb q =>
    R_less hl (F := F.to env σ) q fun i hi => by
      have z := hb i hi
      rw [List.length_append] at z ⊢
      show i < env.length + F.tms.length
      omega
  cases r with
  | nx env T => exact fun σ H O b1 b2 q => h σ H O b1 b2 (k b2 hb q)
  | bk env T => exact fun σ H O b1 b2 q => h σ H O b1 b2 (k b2 hb2 q)
  | ct env T => exact fun σ H O b1 b2 q => h σ H O b1 b2 (k b2 hb2 q)
  | ex x env T => exact fun σ H O b1 b2 q => h σ H O b1 b2 (k b2 (fun i hi => hb i (by
      rcases List.mem_append.mp hi with z | z
      · cases z
      · exact List.mem_append_right _ z)) q)
  | rt d T => exact h
  | no => exact h
theorem sub_bd (r : F.R S T H O) (hs : ∀ i, i ∈ S' → i ∈ S) : ∀ i, i ∈ S' ++ F.xs → i < (F.env ++ F.tms).length := fun i hi => r.bd i (by
  rcases List.mem_append.mp hi with z | z
  · exact List.mem_append_left _ (hs i z)
  · exact List.mem_append_right _ z)
theorem ss_for {tg : Expr} {f : Tf} {it : It_} {is : List Nat} {pos : Pos} (hp : PassesOwn (model X.prog X.w) X.A X.env X.xe) (hc : X.calm = true) (hi : SI X W Si tg e it) {gt : TG} (hg : SG X Si is tg f gt) (hb : SSs X W Si Si Si fr sts s) (h1 : ∀ i, i ∈ Si → i ∈ S := by decide) (h2 : ∀ i, i ∈ S' → i ∈ Si := by decide)
    (hNl : ∀ pins σ H s, Inv X pins σ H s → σ.length = X.N.length := fun _ _ _ _ I => I.len) (hs : ∀ x, foldedSetIterable e X.env x = pure x := by intro _; rfl) : SS X W S S' Sl fr (.For tg e sts [] pos) (forS f it s) := by
  obtain ⟨wi, pi, sim⟩ := hi.ex
  have pg := hg.pg
  have gsim := hg.sim
  refine ⟨⟨fun pins ss σ H D I h => (ps_for hp hc pi pg hb.ps hs).run pins ss σ H D I ?_⟩⟩
  have hN := hNl _ _ _ _ I
  obtain ⟨F, T, O, ft, r0, p⟩ := h
  have es := ft.s
  subst es
  obtain ⟨O2, r, _⟩ := Cf.R.sub r0 h1
  refine sim F T H O2 _ ft r ?_
  have p : PoS X W S' Sl fr F (exS (it F.env T) F.env fun ds T => loop f s ds F.env T) D := p
  cases ei : it F.env T with
  | no => rw [ei] at p; exact p
  | ex x T1 =>
    rw [ei] at p
    intro H1 O1 r1
    obtain ⟨O3, r3, _⟩ := Cf.R.sub r1 (S' := []) (fun i h => by cases h)
    exact p F.σ H1 O3 rfl rfl r3
  | ok ds T1 =>
    rw [ei] at p
    intro J H1 O1 vs dvs r1 _ q1 sm
    have bd := sub_bd r1 h2
    have hl : vs.length = dvs.length := q1.len
    have bdi : ∀ i, i ∈ Si ++ F.xs → i < (F.env ++ F.tms).length := sub_bd r1 fun i h => h
    refine ⟨fun i m σ H => ∃ env T O, σ.length = F.σ.length ∧ env.length = F.env.length ∧ m = ds.length - i ∧ i ≤ ds.length ∧ ((F.to env σ).more vs dvs).R Si T H O ∧ RepL F.g (fz H O) vs dvs ∧ PoS X W S' Sl fr F (loop f s (ds.drop i) env T) D,
      ⟨ds.length - 0, F.env, T1, O1, rfl, rfl, rfl, Nat.zero_le _, R_more r1 q1, q1, by rw [List.drop_zero]; exact p⟩, ?_⟩
    rintro i m σ H ⟨env, T, O, a1, a2, em, hi, r, q, p⟩
    have less : ∀ {S : List Nat} {env : Ve} {σ : L2.St} {T : Tp} {H : Hp} {O : Addr → Prop}, env.length = F.env.length → (∀ i, i ∈ S ++ F.xs → i < (F.env ++ F.tms).length) → ((F.to env σ).more vs dvs).R S T H O → (F.to env σ).R S T H O := fun {S env σ T H O} he hb q =>
      R_less hl (F := F.to env σ) q fun i hi => by
        have z := hb i hi
        rw [List.length_append] at z ⊢
        show i < env.length + F.tms.length
        omega
    by_cases hlt : i < ds.length
    · obtain ⟨go, yl⟩ := (sm H O r.oin q i).1 hlt
      refine .inr ⟨go, fun σ' H' => ∃ env T O, σ'.length = F.σ.length ∧ env.length = F.env.length ∧ i + 1 ≤ ds.length ∧ ((F.to env σ').more vs dvs).R Si T H' O ∧ RepL F.g (fz H' O) vs dvs ∧ PoS X W S' Sl fr F (loop f s (ds.drop (i + 1)) env T) D, fun σ' H' ⟨env, T, O, b1, b2, b3, b4, b5, b6⟩ => ⟨ds.length - (i + 1), by omega, env, T, O, b1, b2, rfl, b3, b4, b5, b6⟩, fun x H' y => ?_⟩
      obtain ⟨d, ed, alt⟩ := yl x H' y
      have edrop : ds.drop i = d :: ds.drop (i + 1) := by
        rw [List.drop_eq_getElem_cons hlt]
        rw [List.getElem?_eq_getElem hlt] at ed
        cases ed; rfl
      rw [edrop] at p
      have p : PoS X W S' Sl fr F (match f d env with
        | none => .no
        | some env => match s env T with
          | .nx env T => loop f s (ds.drop (i + 1)) env T
          | .ct env T => loop f s (ds.drop (i + 1)) env T
          | .bk env T => .nx env T
          | r => r) D := p
      cases e1 : f d env with
      | none => rw [e1] at p; exact False.elim p
      | some env1 =>
        rw [e1] at p
        have main : ∀ H', ((F.to env σ).more vs dvs).R Si T H' O → RepL F.g (fz H' O) vs dvs → Rep F.g (fz H' O) x d → gt x σ H' fun σ2 H2 => tS X W Si Si Si fr s { D with nx := fun σ' H' => ∃ env T O, σ'.length = F.σ.length ∧ env.length = F.env.length ∧ i + 1 ≤ ds.length ∧ ((F.to env σ').more vs dvs).R Si T H' O ∧ RepL F.g (fz H' O) vs dvs ∧ PoS X W S' Sl fr F (loop f s (ds.drop (i + 1)) env T) D, ct := fun σ' H' => ∃ env T O, σ'.length = F.σ.length ∧ env.length = F.env.length ∧ i + 1 ≤ ds.length ∧ ((F.to env σ').more vs dvs).R Si T H' O ∧ RepL F.g (fz H' O) vs dvs ∧ PoS X W S' Sl fr F (loop f s (ds.drop (i + 1)) env T) D, bk := D.nx } σ2 H2 := fun H' r' q' qx => by
          have fm : Fit X ((F.to env σ).more vs dvs) σ := ⟨rfl, ft.k, ft.w, (ft.to a1 a2).l, (ft.to a1 a2).x⟩
          refine gsim ((F.to env σ).more vs dvs) T H' O x d env1 fm r' (by show X.N.length = σ.length; omega) qx e1 _ fun σ2 b1 b2 _ r2 => ?_
          have b1 : σ2.length = σ.length := b1
          have b2 : env1.length = env.length := b2
          have b2' : env1.length = F.env.length := b2.trans a2
          refine ⟨((F.to env σ).more vs dvs).to env1 σ2, T, O, fm.to b1 b2, r2, ?_⟩
          show PoS X W Si Si fr (((F.to env σ).more vs dvs).to env1 σ2) (s env1 T) _
          have keep : ∀ {env3 : Ve} {σ3 : L2.St} {T3 : Tp} {H3 : Hp} {O3 : Addr → Prop}, σ3.length = σ2.length → env3.length = env1.length → ((((F.to env σ).more vs dvs).to env1 σ2).to env3 σ3).R Si T3 H3 O3 → RepL F.g (fz H3 O3) vs dvs := fun {env3 σ3 T3 H3 O3} c1 c2 r3 => by
            have r3 : Ev.R F.g (Si ++ F.xs) (env3 ++ (F.tms ++ dvs.map some)) T3 (σ3 ++ (F.τ ++ vs.map some)) H3 O3 := r3
            have hlen := r3.len
            have hτ : F.tms.length = F.τ.length := by
              have z := r1.len
              rw [List.length_append, List.length_append] at z
              have := ft.l
              omega
            have hσ3 : σ3.length = env3.length := by
              have := ft.l
              omega
            have pick : ∀ (k : Nat) d, dvs[k]? = some d → ∃ v, vs[k]? = some v ∧ Rep F.g (fz H3 O3) v d := fun k d hk => by
              have hkl : k < dvs.length := by
                rcases Nat.lt_or_ge k dvs.length with z | z
                · exact z
                · rw [List.getElem?_eq_none z] at hk; cases hk
              have e1 : (env3 ++ (F.tms ++ dvs.map some))[env3.length + (F.tms.length + k)]? = some (some d) := by
                rw [List.getElem?_append_right (by omega), List.getElem?_append_right (by omega), List.getElem?_map]
                have : env3.length + (F.tms.length + k) - env3.length - F.tms.length = k := by omega
                rw [this, hk]; rfl
              have nS : env3.length + (F.tms.length + k) ∉ Si ++ F.xs := fun z => by
                have w := bdi _ z
                rw [List.length_append] at w
                omega
              obtain ⟨v, c1, c2⟩ := r3.fro _ d nS e1
              rw [List.getElem?_append_right (by omega), List.getElem?_append_right (by omega), List.getElem?_map] at c1
              have : env3.length + (F.tms.length + k) - σ3.length - F.τ.length = k := by omega
              rw [this] at c1
              cases e : vs[k]? with
              | none => rw [e] at c1; cases c1
              | some w => rw [e] at c1; cases c1; exact ⟨_, rfl, c2⟩
            have build : ∀ (ds : List Ev.D) (ws : List V), ws.length = ds.length → (∀ (k : Nat) d, ds[k]? = some d → ∃ v, ws[k]? = some v ∧ Rep F.g (fz H3 O3) v d) → RepL F.g (fz H3 O3) ws ds := by
              intro ds
              induction ds with
              | nil =>
                intro ws h _
                cases ws with
                | nil => exact .nil
                | cons _ _ => simp at h
              | cons d ds ih =>
                intro ws h hp
                cases ws with
                | nil => simp at h
                | cons w ws =>
                  obtain ⟨v, e1, e2⟩ := hp 0 d rfl
                  cases e1
                  exact .cons e2 (ih ws (by simpa using h) fun k d hk => hp (k + 1) d hk)
            exact build dvs vs hl pick
          have p : PoS X W S' Sl fr F (match s env1 T with
            | .nx env T => loop f s (ds.drop (i + 1)) env T
            | .ct env T => loop f s (ds.drop (i + 1)) env T
            | .bk env T => .nx env T
            | r => r) D := p
          revert p
          cases s env1 T with
          | nx env2 T2 => exact fun p σ3 H3 O3 c1 c2 r3 => ⟨env2, T2, O3, (c1.trans b1).trans a1, c2.trans b2', hlt, r3, keep c1 c2 r3, p⟩
          | ct env2 T2 => exact fun p σ3 H3 O3 c1 c2 r3 => ⟨env2, T2, O3, (c1.trans b1).trans a1, c2.trans b2', hlt, r3, keep c1 c2 r3, p⟩
          | bk env2 T2 =>
            intro p σ3 H3 O3 c1 c2 r3
            obtain ⟨O4, r4, _⟩ := Cf.R.sub r3 h2
            exact p σ3 H3 O4 ((c1.trans b1).trans a1) (c2.trans b2') (less (c2.trans b2') bd r4)
          | rt d T2 => exact fun p => p
          | ex x env2 T2 => exact fun p σ3 H3 O3 c1 c2 r3 => p σ3 H3 O3 ((c1.trans b1).trans a1) (c2.trans b2') (less (c2.trans b2') (fun i hi => bd i (by
                  rcases List.mem_append.mp hi with z | z
                  · cases z
                  · exact List.mem_append_right _ z)) r3)
          | no => exact fun p => p
        rcases alt with ⟨eh, qx⟩ | ⟨pp, o, np, eh, qx⟩
        · subst eh
          exact main H' r q qx
        · subst eh
          obtain ⟨ra, la, _⟩ := R.new r o np
          exact main _ ra (q.le la) qx
    · have ei : i = ds.length := by omega
      refine .inl ⟨(sm H O r.oin q i).2 ei, ?_⟩
      rw [ei, List.drop_length] at p
      obtain ⟨O4, r4, _⟩ := Cf.R.sub r h2
      exact p σ H O4 a1 a2 (less a2 bd r4)
end
end Ev

/-! Ev: what is walked; changes in place -/
namespace Ev
open PySem PySem.Spec PyProof.Rows L2
section
variable {X : Cx} {W : WX} {S S1 S2 S' Sl Si : List Nat} {fr : Bool} {e a b tg : Expr} {es : List Expr} {st : Stmt} {sts : List Stmt} {c ca cb cc : Ex} {cs : List Ex} {s s1 s2 : Sx} {m : Mode} {F : Cf} {T T' : Tp} {σ : L2.St} {H H1 : Hp} {O O1 : Addr → Prop} {D' : Ends} {Rr : It → Hp → Prop}
theorem PoI.le {r : Res (List D)} (h : PoI X W S F H O r Rr) (l : Le (fz H O) (fz H1 O1)) : PoI X W S F H1 O1 r Rr := by
  cases r with
  | ok ds T => exact fun J H' O' vs dvs a b c d => h J H' O' vs dvs a (l.trans b) c d
  | ex x T => exact h
  | no => exact h
theorem tE_bindI {k : D → Tp → Res (List D)} {Qn : VK} (f : Fit X F σ) (r : F.R S T H O) (h : PoI X W S F H O ((c F.env T).bind k) Rr)
    (n : ∀ d T1 v H1 O1, F.R S T1 H1 O1 → MOk m F S H1 O1 v d → PoI X W S F H1 O1 (k d T1) Rr → Qn v H1) : tE X W S c m σ H Qn := by
  refine ⟨F, T, O, f, r, ?_⟩
  cases e : c F.env T with
  | ok d T1 =>
    rw [e] at h
    exact fun v H1 O1 r1 l1 q => n d T1 v H1 O1 r1 q (PoI.le h l1)
  | ex x T1 => rw [e] at h; exact h
  | no => rw [e] at h; exact h
theorem tA_bindI {k : List D → Tp → Res (List D)} {Qn : List V → Hp → Prop} (f : Fit X F σ) (r : F.R S T H O) (h : PoI X W S F H O ((esE cs F.env T).bind k) Rr)
    (n : ∀ d T1 v H1 O1, F.R S T1 H1 O1 → MOkL m F S H1 O1 v d → PoI X W S F H1 O1 (k d T1) Rr → Qn v H1) : tA X W S cs m σ H Qn := by
  refine ⟨F, T, O, f, r, ?_⟩
  cases e : esE cs F.env T with
  | ok d T1 =>
    rw [e] at h
    exact fun v H1 O1 r1 l1 q => n d T1 v H1 O1 r1 q (PoI.le h l1)
  | ex x T1 => rw [e] at h; exact h
  | no => rw [e] at h; exact h
theorem piOr {w1 w2 : TI} (h1 : PI X tg e w1) (h2 : PI X tg e w2) : PI X tg e (fun σ H R => w1 σ H R ∨ w2 σ H R) := ⟨fun pins s σ H R I h => by
  rcases h with h | h
  · exact h1.run pins s σ H R I h
  · exact h2.run pins s σ H R I h⟩
def itemsD : D → Option (List D)
  | .lst ds => some ds
  | .tup ds => some ds
  | _ => none
def seqIt (c : Ex) : It_ := fun env T => (c env T).bind fun d T => ofO (itemsD d) T
theorem sim_list {g : Gh} {a : Addr} {ds : List D} : Sim g (Itl g.K a) ds [.ref a] [.lst ds] := fun H O _ q i => by
  cases q with
  | cons q _ =>
    cases q with
    | lst h r =>
      have hs : SqL g.K H a _ := .inl (.inl (fz_le _ _ h))
      refine ⟨fun hi => ?_, fun hi => ⟨_, hs, by rw [r.len]; omega⟩⟩
      obtain ⟨v, e1, e2⟩ := r.get (List.getElem?_eq_getElem hi)
      refine ⟨⟨_, v, hs, e1⟩, fun x H' ⟨eh, y⟩ => ⟨_, List.getElem?_eq_getElem hi, .inl ⟨eh, ?_⟩⟩⟩
      have z := y _ hs
      rw [e1] at z; cases z
      exact e2
theorem sim_tup {g : Gh} {a : Addr} {ds : List D} : Sim g (Itt g.K a) ds [.ref a] [.tup ds] := fun H O _ q i => by
  cases q with
  | cons q _ =>
    cases q with
    | tup h r =>
      have hs : SqT g.K H a _ := fz_le.sqT h
      refine ⟨fun hi => ?_, fun hi => ⟨_, hs, by rw [r.len]; omega⟩⟩
      obtain ⟨v, e1, e2⟩ := r.get (List.getElem?_eq_getElem hi)
      refine ⟨⟨_, v, hs, e1⟩, fun x H' ⟨eh, y⟩ => ⟨_, List.getElem?_eq_getElem hi, .inl ⟨eh, ?_⟩⟩⟩
      have z := y _ hs
      rw [e1] at z; cases z
      exact e2
theorem si_seq (he : SE X W S e c .fro) : SI X W S tg e (seqIt c) := ⟨_, piOr (pi_list he.pe) (pi_tup he.pe), fun F T H O Rr ft r p => by
  cases ec : c F.env T with
  | no =>
    have p : PoI X W S F H O ((c F.env T).bind fun d T => ofO (itemsD d) T) Rr := p
    rw [ec] at p; exact False.elim p
  | ex x T1 =>
    have p : PoI X W S F H O ((c F.env T).bind fun d T => ofO (itemsD d) T) Rr := p
    rw [ec] at p
    exact .inl ⟨F, T, O, ft, r, by rw [ec]; exact p⟩
  | ok d T1 =>
    have p : PoI X W S F H O ((c F.env T).bind fun d T => ofO (itemsD d) T) Rr := p
    rw [ec] at p
    have p : PoI X W S F H O (ofO (itemsD d) T1) Rr := p
    cases d with
    | lst ds =>
      refine .inl ⟨F, T, O, ft, r, ?_⟩
      rw [ec]
      intro v H1 O1 r1 l1 q
      have q : Rep F.g (fz H1 O1) v (.lst ds) := q
      cases q with
      | @lst a vs _ h r2 =>
        refine ⟨a, rfl, ⟨_, .inl (.inl (fz_le _ _ h))⟩, ?_⟩
        have z := p (Itl F.g.K a) H1 O1 [.ref a] [.lst ds] r1 l1 (.cons (.lst h r2) .nil) sim_list
        rw [ft.k] at z
        exact z
    | tup ds =>
      refine .inr ⟨F, T, O, ft, r, ?_⟩
      rw [ec]
      intro v H1 O1 r1 l1 q
      have q : Rep F.g (fz H1 O1) v (.tup ds) := q
      cases q with
      | @tup a vs _ h r2 =>
        have hs := fz_le.sqT h
        rw [ft.k] at hs
        refine ⟨a, rfl, ⟨_, hs⟩, ?_⟩
        have z := p (Itt F.g.K a) H1 O1 [.ref a] [.tup ds] r1 l1 (.cons (.tup h r2) .nil) sim_tup
        rw [ft.k] at z
        exact z
    | _ => exact False.elim p⟩
/-! #### ranges -/
def rngL (lo : Int) (n : Nat) : List D := (List.range n).map fun k => .int (lo + (k : Nat))
def okR (i : Int) : Bool := decide (-(2 ^ 62) ≤ i) && decide (i < 2 ^ 62)
def rng1D : List D → Option (List D)
  | [.int j] => if okR j then some (rngL 0 j.toNat) else none
  | _ => none
def rng2D : List D → Option (List D)
  | [.int i, .int j] => if okR i && okR j then some (rngL i (j - i).toNat) else none
  | _ => none
/-- downwards by ones -/
def rngDn (lo : Int) (n : Nat) : List D := (List.range n).map fun k => .int (lo + (k : Nat) * (-1))
def rng3D : List D → Option (List D)
  | [.int i, .int j, .int k] => if k = -1 ∧ okR i && okR j then some (rngDn i (i - j).toNat) else none
  | _ => none
def apI (f : List D → Option (List D)) (cs : List Ex) : It_ := fun env T => (esE cs env T).bind fun ds T => ofO (f ds) T
theorem sim_rng {g : Gh} {lo : Int} {n : Nat} : Sim g (Itr lo n) (rngL lo n) [] [] := fun H O _ _ i => by
  have hl : (rngL lo n).length = n := by simp [rngL]
  refine ⟨fun hi => ⟨by rw [hl] at hi; exact hi, fun x H' ⟨eh, ex⟩ => ⟨.int (lo + (i : Nat)), ?_, .inl ⟨eh, ?_⟩⟩⟩, fun hi => by rw [hl] at hi; exact Nat.le_of_eq hi.symm⟩
  · rw [hl] at hi
    simp [rngL, List.getElem?_map, List.getElem?_range hi]
  · rw [ex]; exact .int _
theorem okR_iff {i : Int} (h : okR i = true) : -(2 ^ 62) ≤ i ∧ i < 2 ^ 62 := by
  unfold okR at h
  rw [Bool.and_eq_true, decide_eq_true_eq, decide_eq_true_eq] at h
  exact h
theorem si_rng1 {p pos : Pos} (hg : Gl X "range") (hm : X.mg "range" = none) (ha : SA X W S [a] [ca] .bor) (hs : starEach [a] X.env = [(false, eval a X.env)] := by rfl) : SI X W S tg (.Call (.Name "range" p) [a] [] pos) (apI rng1D [ca]) := ⟨_, pi_range1 hg hm ha.pa hs, fun F T H O Rr ft r p => by
  refine tA_bindI ft r p fun ds T1 vs H1 O1 r1 q1 p1 => ?_
  unfold rng1D at p1
  split at p1
  · split at p1
    · rename_i j hj
      obtain ⟨v, rfl, q⟩ := rbl1 (bOfL r1 q1)
      rw [rb_int q]
      exact ⟨j, rfl, (okR_iff hj).1, (okR_iff hj).2, p1 _ H1 O1 [] [] r1 (Le.refl _) .nil sim_rng⟩
    · exact False.elim p1
  · exact False.elim p1⟩
theorem si_rng2 {p pos : Pos} (hg : Gl X "range") (hm : X.mg "range" = none) (ha : SA X W S [a, b] [ca, cb] .bor) (hs : starEach [a, b] X.env = [(false, eval a X.env), (false, eval b X.env)] := by rfl) (hs2 : starEach [b] X.env = [(false, eval b X.env)] := by rfl) : SI X W S tg (.Call (.Name "range" p) [a, b] [] pos) (apI rng2D [ca, cb]) := ⟨_, pi_range2 hg hm ha.pa hs hs2, fun F T H O Rr ft r p => by
  refine tA_bindI ft r p fun ds T1 vs H1 O1 r1 q1 p1 => ?_
  unfold rng2D at p1
  split at p1
  · split at p1
    · rename_i i j hj
      rw [Bool.and_eq_true] at hj
      obtain ⟨v, u, rfl, q, q2⟩ := rbl2 (bOfL r1 q1)
      rw [rb_int q, rb_int q2]
      exact ⟨i, j, rfl, ⟨(okR_iff hj.1).1, (okR_iff hj.1).2, (okR_iff hj.2).1, (okR_iff hj.2).2⟩, p1 _ H1 O1 [] [] r1 (Le.refl _) .nil sim_rng⟩
    · exact False.elim p1
  · exact False.elim p1⟩
theorem sim_rngDn {g : Gh} {lo : Int} {n : Nat} : Sim g (Itc lo (-1) n) (rngDn lo n) [] [] := fun H O _ _ i => by
  have hl : (rngDn lo n).length = n := by simp [rngDn]
  refine ⟨fun hi => ⟨by rw [hl] at hi; exact hi, fun x H' ⟨eh, ex⟩ => ⟨.int (lo + (i : Nat) * (-1)), ?_, .inl ⟨eh, ?_⟩⟩⟩, fun hi => by rw [hl] at hi; exact Nat.le_of_eq hi.symm⟩
  · rw [hl] at hi
    simp [rngDn, List.getElem?_map, List.getElem?_range hi]
  · rw [ex]; exact .int _
theorem rbl3 {g : Gh} {vs : List V} {d d2 d3 : D} (h : RepBL g H O vs [d, d2, d3]) : ∃ v u w, vs = [v, u, w] ∧ RepB g H O v d ∧ RepB g H O u d2 ∧ RepB g H O w d3 := by
  cases vs with
  | nil => exact h.elim
  | cons v r =>
    obtain ⟨u, w, e, q1, q2⟩ := rbl2 h.2
    exact ⟨v, u, w, by rw [e], h.1, q1, q2⟩
theorem si_rng3 {z : Expr} {cz : Ex} {p pos : Pos} (hg : Gl X "range") (hm : X.mg "range" = none) (ha : SA X W S [a, b, z] [ca, cb, cz] .bor) (hs : starEach [a, b, z] X.env = (false, eval a X.env) :: starEach [b, z] X.env := by rfl) (hpl : (backTo pos (starEach [b, z] X.env)).any (·.1) = false := by rfl) : SI X W S tg (.Call (.Name "range" p) [a, b, z] [] pos) (apI rng3D [ca, cb, cz]) := ⟨_, pi_range3 hg hm ha.pa hs hpl, fun F T H O Rr ft r p => by
  refine tA_bindI ft r p fun ds T1 vs H1 O1 r1 q1 p1 => ?_
  unfold rng3D at p1
  split at p1
  · split at p1
    · rename_i i j k hj
      obtain ⟨rfl, hj⟩ := hj
      rw [Bool.and_eq_true] at hj
      obtain ⟨v, u, w, rfl, q, q2, q3⟩ := rbl3 (bOfL r1 q1)
      rw [rb_int q, rb_int q2, rb_int q3]
      exact ⟨i, j, -1, _, rfl, RgC.neg (okR_iff hj.1).1 (okR_iff hj.1).2 (okR_iff hj.2).1 (okR_iff hj.2).2, p1 _ H1 O1 [] [] r1 (Le.refl _) .nil sim_rngDn⟩
    · exact False.elim p1
  · exact False.elim p1⟩
/-! #### pairs -/
def zip2D : List D → Option (List D)
  | [.lst a, .lst b] => some (List.zipWith (fun x y => .tup [x, y]) a b)
  | [.tup a, .tup b] => some (List.zipWith (fun x y => .tup [x, y]) a b)
  | _ => none
theorem new_pair {g : Gh} {p : Addr} {x y : V} {dx dy : D} (hp : H p = none) (hO : ∀ a, O a → H a ≠ none) (hx : Rep g (fz H O) x dx) (hy : Rep g (fz H O) y dy) : Rep g (fz (upd H p (.tup [x, y])) O) (.ref p) (.tup [dx, dy]) := by
  have l : Le (fz H O) (fz (upd H p (.tup [x, y])) O) := fz_mono fun a o n h => ⟨n, upd_le hp a o h⟩
  exact .tup (.inl (.inl (by rw [fz_out fun q => hO p q hp, upd_same]))) (.cons (hx.le l) (.cons (hy.le l) .nil))
theorem zipW_get {a b : List D} {i : Nat} {x y : D} (h1 : a[i]? = some x) (h2 : b[i]? = some y) : (List.zipWith (fun x y => D.tup [x, y]) a b)[i]? = some (.tup [x, y]) := by
  rw [List.getElem?_zipWith, h1, h2]
theorem sim_zipL {g : Gh} {p q : Addr} {a b : List D} : Sim g (Itz g.K p q) (List.zipWith (fun x y => .tup [x, y]) a b) [.ref p, .ref q] [.lst a, .lst b] := fun H O hO r i => by
  obtain ⟨ws1, h1, r1⟩ : ∃ ws, H p = some (.lst ws) ∧ RepL g (fz H O) ws a := by
    cases r with
    | cons q _ => cases q with | lst h r => exact ⟨_, fz_le _ _ h, r⟩
  obtain ⟨ws2, h2, r2⟩ : ∃ ws, H q = some (.lst ws) ∧ RepL g (fz H O) ws b := by
    cases r with
    | cons _ q => cases q with | cons q _ => cases q with | lst h r => exact ⟨_, fz_le _ _ h, r⟩
  have s1 : SqL g.K H p ws1 := .inl (.inl h1)
  have s2 : SqL g.K H q ws2 := .inl (.inl h2)
  rw [List.length_zipWith]
  refine ⟨fun hi => ?_, fun hi => ⟨ws1, ws2, s1, s2, by rw [r1.len, r2.len]; omega⟩⟩
  have ha : a[i]? = some a[i] := List.getElem?_eq_getElem (by omega)
  have hb : b[i]? = some b[i] := List.getElem?_eq_getElem (by omega)
  obtain ⟨v1, e1, q1⟩ := r1.get ha
  obtain ⟨v2, e2, q2⟩ := r2.get hb
  refine ⟨⟨ws1, ws2, v1, v2, s1, s2, e1, e2⟩, fun v H' ⟨t, x, y, ev, nt, eh, f1, f2⟩ => ⟨_, zipW_get ha hb, .inr ⟨t, .tup [x, y], nt, eh, ?_⟩⟩⟩
  have z1 := f1 _ s1
  have z2 := f2 _ s2
  rw [e1] at z1; rw [e2] at z2
  cases z1; cases z2
  subst ev
  exact new_pair nt hO q1 q2
theorem sim_zipT {g : Gh} {p q : Addr} {a b : List D} : Sim g (RZ.ItzT g.K p q) (List.zipWith (fun x y => .tup [x, y]) a b) [.ref p, .ref q] [.tup a, .tup b] := fun H O hO r i => by
  obtain ⟨ws1, s1, r1⟩ : ∃ ws, SqT g.K H p ws ∧ RepL g (fz H O) ws a := by
    cases r with
    | cons q _ => cases q with | tup h r => exact ⟨_, fz_le.sqT h, r⟩
  obtain ⟨ws2, s2, r2⟩ : ∃ ws, SqT g.K H q ws ∧ RepL g (fz H O) ws b := by
    cases r with
    | cons _ q => cases q with | cons q _ => cases q with | tup h r => exact ⟨_, fz_le.sqT h, r⟩
  rw [List.length_zipWith]
  refine ⟨fun hi => ?_, fun hi => ⟨ws1, ws2, s1, s2, by rw [r1.len, r2.len]; omega⟩⟩
  have ha : a[i]? = some a[i] := List.getElem?_eq_getElem (by omega)
  have hb : b[i]? = some b[i] := List.getElem?_eq_getElem (by omega)
  obtain ⟨v1, e1, q1⟩ := r1.get ha
  obtain ⟨v2, e2, q2⟩ := r2.get hb
  refine ⟨⟨ws1, ws2, v1, v2, s1, s2, e1, e2⟩, fun v H' ⟨t, x, y, ev, nt, eh, f1, f2⟩ => ⟨_, zipW_get ha hb, .inr ⟨t, .tup [x, y], nt, eh, ?_⟩⟩⟩
  have z1 := f1 _ s1
  have z2 := f2 _ s2
  rw [e1] at z1; rw [e2] at z2
  cases z1; cases z2
  subst ev
  exact new_pair nt hO q1 q2
theorem mokl2 {vs : List V} {d d2 : D} (h : MOkL m F S H O vs [d, d2]) : ∃ v u, vs = [v, u] ∧ MOk m F S H O v d ∧ MOk m F S H O u d2 := by
  cases vs with
  | nil => exact h.elim
  | cons v r =>
    obtain ⟨h1, h2⟩ := h
    cases r with
    | nil => exact h2.elim
    | cons u r =>
      obtain ⟨h2, h3⟩ := h2
      cases r with
      | nil => exact ⟨v, u, rfl, h1, h2⟩
      | cons _ _ => exact h3.elim
theorem mokl1 {vs : List V} {d : D} (h : MOkL m F S H O vs [d]) : ∃ v, vs = [v] ∧ MOk m F S H O v d := by
  cases vs with
  | nil => exact h.elim
  | cons v r =>
    obtain ⟨h1, h2⟩ := h
    cases r with
    | nil => exact ⟨v, rfl, h1⟩
    | cons u r => exact h2.elim
theorem si_zip2 {elts : List Expr} {kk : Nat} {p pos tpos : Pos} (hg : Gl X "zip") (hm : X.mg "zip" = none) (ha : SA X W S [a, b] [ca, cb] .fro) (hs : starEach [a, b] X.env = (false, eval a X.env) :: starEach [b] X.env := by rfl) (hpl : (backTo pos (starEach [b] X.env)).any (·.1) = false := by rfl) : SI X W S (.Tuple elts kk tpos) (.Call (.Name "zip" p) [a, b] [] pos) (apI zip2D [ca, cb]) := ⟨_, RZ.pi_zipA hg hm ha.pa hs hpl, fun F T H O Rr ft r p => by
  refine tA_bindI ft r p fun ds T1 vs H1 O1 r1 q1 p1 => ?_
  unfold zip2D at p1
  split at p1
  · rename_i da db
    obtain ⟨v, u, rfl, q, q2⟩ := mokl2 q1
    have q : Rep F.g (fz H1 O1) v (.lst da) := q
    have q2 : Rep F.g (fz H1 O1) u (.lst db) := q2
    cases q with
    | lst x1 y1 =>
      cases q2 with
      | lst x2 y2 =>
        have z := p1 _ H1 O1 _ _ r1 (Le.refl _) (.cons (.lst x1 y1) (.cons (.lst x2 y2) .nil)) sim_zipL
        rw [ft.k] at z
        exact ⟨_, _, _, _, rfl, .inl ⟨.inl (.inl (fz_le _ _ x1)), .inl (.inl (fz_le _ _ x2)), z⟩⟩
  · rename_i da db
    obtain ⟨v, u, rfl, q, q2⟩ := mokl2 q1
    have q : Rep F.g (fz H1 O1) v (.tup da) := q
    have q2 : Rep F.g (fz H1 O1) u (.tup db) := q2
    cases q with
    | tup x1 y1 =>
      cases q2 with
      | tup x2 y2 =>
        have z := p1 _ H1 O1 _ _ r1 (Le.refl _) (.cons (.tup x1 y1) (.cons (.tup x2 y2) .nil)) sim_zipT
        rw [ft.k] at z
        have w1 := fz_le.sqT x1
        have w2 := fz_le.sqT x2
        rw [ft.k] at w1 w2
        exact ⟨_, _, _, _, rfl, .inr ⟨w1, w2, z⟩⟩
  · exact False.elim p1⟩
def enumL : Nat → List D → List D
  | _, [] => []
  | i, d :: ds => .tup [.int (i : Nat), d] :: enumL (i + 1) ds
theorem enumL_len : ∀ (k : Nat) (ds : List D), (enumL k ds).length = ds.length
  | _, [] => rfl
  | k, d :: ds => by simp [enumL, enumL_len (k + 1) ds]
theorem enumL_get : ∀ (k : Nat) (ds : List D) (i : Nat) (d : D), ds[i]? = some d → (enumL k ds)[i]? = some (.tup [.int ((k + i : Nat) : Int), d])
  | _, [], _, _, h => by simp at h
  | k, x :: ds, 0, d, h => by simp at h; subst h; rfl
  | k, x :: ds, i + 1, d, h => by
    have z := enumL_get (k + 1) ds i d (by simpa using h)
    rw [show k + 1 + i = k + (i + 1) by omega] at z
    simpa [enumL] using z
def enumD : List D → Option (List D)
  | [.lst a] => some (enumL 0 a)
  | _ => none
theorem sim_enum {g : Gh} {p : Addr} {a : List D} : Sim g (Ite g.K p) (enumL 0 a) [.ref p] [.lst a] := fun H O hO r i => by
  obtain ⟨ws1, h1, r1⟩ : ∃ ws, H p = some (.lst ws) ∧ RepL g (fz H O) ws a := by
    cases r with
    | cons q _ => cases q with | lst h r => exact ⟨_, fz_le _ _ h, r⟩
  have s1 : SqL g.K H p ws1 := .inl (.inl h1)
  rw [enumL_len]
  refine ⟨fun hi => ?_, fun hi => ⟨ws1, s1, by rw [r1.len]; omega⟩⟩
  have ha : a[i]? = some a[i] := List.getElem?_eq_getElem (by omega)
  obtain ⟨v1, e1, q1⟩ := r1.get ha
  refine ⟨⟨ws1, v1, s1, e1⟩, fun v H' ⟨t, x, ev, nt, eh, f1⟩ => ⟨_, enumL_get 0 a i _ ha, .inr ⟨t, .tup [.int (i : Nat), x], nt, eh, ?_⟩⟩⟩
  have z1 := f1 _ s1
  rw [e1] at z1
  cases z1
  subst ev
  rw [Nat.zero_add]
  exact new_pair nt hO (.int _) q1
theorem si_enum {elts : List Expr} {kk : Nat} {p pos tpos : Pos} (hg : Gl X "enumerate") (hm : X.mg "enumerate" = none) (ha : SA X W S [a] [ca] .fro) (hs : starEach [a] X.env = [(false, eval a X.env)] := by rfl) : SI X W S (.Tuple elts kk tpos) (.Call (.Name "enumerate" p) [a] [] pos) (apI enumD [ca]) := ⟨_, pi_enum hg hm ha.pa hs, fun F T H O Rr ft r p => by
  refine tA_bindI ft r p fun ds T1 vs H1 O1 r1 q1 p1 => ?_
  unfold enumD at p1
  split at p1
  · rename_i da
    obtain ⟨v, rfl, q⟩ := mokl1 q1
    have q : Rep F.g (fz H1 O1) v (.lst da) := q
    cases q with
    | lst x1 y1 =>
      have z := p1 _ H1 O1 _ _ r1 (Le.refl _) (.cons (.lst x1 y1) .nil) sim_enum
      rw [ft.k] at z
      exact ⟨_, _, rfl, .inl (.inl (fz_le _ _ x1)), z⟩
  · exact False.elim p1⟩
end
end Ev

/-! Ev: changes in place, the tape, several names at once, comprehensions -/
namespace Ev
open PySem PySem.Spec PyProof.Rows L2
section
variable {X : Cx} {W : WX} {S S1 S2 S' Sl Si : List Nat} {fr : Bool} {e a b tg : Expr} {es : List Expr} {st : Stmt} {sts : List Stmt} {c ca cb cc : Ex} {cs : List Ex} {s s1 s2 : Sx} {m : Mode} {F : Cf} {T T' : Tp} {σ : L2.St} {H H1 : Hp} {O O1 : Addr → Prop} {D' : Ends} {Rr : It → Hp → Prop}
theorem Cf.R.mut {i : Nat} {p : Addr} {o : HO} {d0 d : D} (r : F.R S T H O) (hx : Fit X F σ) (hi : i ∈ S) (h0 : F.env[i]? = some (some d0)) (hp : σ[i]? = some (some (V.ref p))) (q : Own1 F.g (upd H p o) O p d) : (F.to (F.env.set i (some d)) F.σ).R S T (upd H p o) O := by
  obtain ⟨a1, a2⟩ := hx.at h0
  have hil : i < F.env.length := by
    rcases Nat.lt_or_ge i F.env.length with z | z
    · exact z
    · rw [List.getElem?_eq_none z] at h0; cases h0
  have hl := hx.l
  have hp2 : (F.σ ++ F.τ)[i]? = some (some (V.ref p)) := by
    rw [List.getElem?_append_left (by omega), hx.s]; exact hp
  have z := Ev.R.mut r (List.mem_append_left _ hi) a1 hp2 q
  rw [List.set_append_left _ _ hil] at z
  exact z
theorem Cf.R.owns {i : Nat} {d0 : D} (r : F.R S T H O) (hx : Fit X F σ) (hi : i ∈ S) (h0 : F.env[i]? = some (some d0)) : ∃ p, σ[i]? = some (some (V.ref p)) ∧ OwnAt F.g H O p d0 := by
  obtain ⟨a1, a2⟩ := hx.at h0
  obtain ⟨p, b1, b2⟩ := r.own i d0 (List.mem_append_left _ hi) a1
  exact ⟨p, a2 _ b1, b2⟩
/-! ### xs.append(e) -/
def lstAt (env : Ve) (i : Nat) : Option (List D) := match env[i]? with
  | some (some (.lst ds)) => some ds
  | _ => none
theorem lstAt_some {env : Ve} {i : Nat} {ds : List D} (h : lstAt env i = some ds) : env[i]? = some (some (.lst ds)) := by
  unfold lstAt at h
  split at h
  · rename_i q; cases h; exact q
  · cases h
def appS (i : Nat) (c : Ex) : Sx := fun env T => match lstAt env i with
  | some ds => exS (c env T) env fun d T => if ds.length < sizeLine then .nx (env.set i (some (.lst (ds ++ [d])))) T else .no
  | none => .no
theorem ss_append {x : Str} {i : Nat} {px apos cpos pos : Pos} (hi : i ∈ S) (hv : PE X (.Name x px) (tVar i)) (he : SE X W S e c .fro) (hs : ∀ j, j ∈ S' → j ∈ S := by decide)
    (hbase : attributeBase (.Name x px) "append" X.env (eval (.Name x px) X.env) = eval (.Name x px) X.env := by rfl)
    (hfew : ((backTo cpos (starEach [e] X.env)).all (fun x => !x.1) && (backToKw cpos (keywordEach [] X.env)).all (fun x => x.1.isSome)
      && decide ([e].length + ([] : List Keyword).length + (if ([] : List Keyword).isEmpty then 0 else 1) < 30)) = true := by rfl)
    (hline : (apos.endLine == cpos.line) = true := by rfl) (h1 : starEach [e] X.env = (false, eval e X.env) :: starEach [] X.env := by rfl) (hplain : (backTo cpos (starEach [] X.env)).any (·.1) = false := by rfl)
    (hw : swapsWith (.Call (.Attribute (.Name x px) "append" apos) [e] [] cpos) none pos.line X.env = pure false := by rfl) :
    SS X W S S' Sl fr (.Expr (.Call (.Attribute (.Name x px) "append" apos) [e] [] cpos) pos) (appS i c) := by
  refine ⟨psMono (ps_expr (pe_bm PySem.F.plainAttrs_list PySem.F.slot_list_append PySem.F.type_list_append mt_append hv (pa_cons he.pe pa_nil h1) hbase hfew hline h1 hplain) hw) fun D σ H ⟨F, T, O, f, r, p⟩ => ?_⟩
  have p : PoS X W S' Sl fr F (match lstAt F.env i with
    | some ds => exS (c F.env T) F.env fun d T => if ds.length < sizeLine then .nx (F.env.set i (some (.lst (ds ++ [d])))) T else .no
    | none => .no) D := p
  cases el : lstAt F.env i with
  | none => rw [el] at p; exact False.elim p
  | some ds =>
    rw [el] at p
    have e0 := lstAt_some el
    obtain ⟨q, b1, b2⟩ := Cf.R.owns r f hi e0
    obtain ⟨ws, c1, c2⟩ := b2.at_
    refine ⟨.ref q, b1, .inl ⟨rfl, ws, .inl (.inl c1)⟩, ?_⟩
    refine tE_bindS f r p fun d T1 v H1 O1 r1 qv p1 => ?_
    split at p1
    · rename_i hlen
      obtain ⟨q', d1, d2⟩ := Cf.R.owns r1 f hi e0
      rw [b1] at d1; cases d1
      obtain ⟨us, g1, g2⟩ := d2.at_
      refine ⟨q, us, v, rfl, rfl, g1, by rw [g2.len]; exact hlen, ?_⟩
      have q1 : Own1 F.g (upd H1 q (.lst (us ++ [v]))) O1 q (.lst (ds ++ [d])) := ⟨_, upd_same, by
        rw [fz_upd d2.o]
        exact g2.append (.cons qv .nil)⟩
      have r2 := Cf.R.mut r1 f hi e0 b1 q1
      obtain ⟨O3, r3, _⟩ := Cf.R.sub r2 hs
      have z := p1 F.σ _ O3 rfl (List.length_set ..) r3
      rw [f.s] at z
      exact z
    · exact False.elim p1
def extS (i : Nat) (c : Ex) : Sx := fun env T => match lstAt env i with
  | some ds => exS (c env T) env fun d T => match d with
    | .lst es => if ds.length + es.length ≤ sizeLine then .nx (env.set i (some (.lst (ds ++ es)))) T else .no
    | _ => .no
  | none => .no
theorem ss_extend {x : Str} {i : Nat} {px apos cpos pos : Pos} (hi : i ∈ S) (hv : PE X (.Name x px) (tVar i)) (he : SE X W S e c .bor) (hs : ∀ j, j ∈ S' → j ∈ S := by decide)
    (hbase : attributeBase (.Name x px) "extend" X.env (eval (.Name x px) X.env) = eval (.Name x px) X.env := by rfl)
    (hfew : ((backTo cpos (starEach [e] X.env)).all (fun x => !x.1) && (backToKw cpos (keywordEach [] X.env)).all (fun x => x.1.isSome)
      && decide ([e].length + ([] : List Keyword).length + (if ([] : List Keyword).isEmpty then 0 else 1) < 30)) = true := by rfl)
    (hline : (apos.endLine == cpos.line) = true := by rfl) (h1 : starEach [e] X.env = (false, eval e X.env) :: starEach [] X.env := by rfl) (hplain : (backTo cpos (starEach [] X.env)).any (·.1) = false := by rfl)
    (hw : swapsWith (.Call (.Attribute (.Name x px) "extend" apos) [e] [] cpos) none pos.line X.env = pure false := by rfl) :
    SS X W S S' Sl fr (.Expr (.Call (.Attribute (.Name x px) "extend" apos) [e] [] cpos) pos) (extS i c) := by
  refine ⟨psMono (ps_expr (pe_bm PySem.F.plainAttrs_list PySem.F.slot_list_extend PySem.F.type_list_extend mt_extend hv (pa_cons he.pe pa_nil h1) hbase hfew hline h1 hplain) hw) fun D σ H ⟨F, T, O, f, r, p⟩ => ?_⟩
  have p : PoS X W S' Sl fr F (match lstAt F.env i with
    | some ds => exS (c F.env T) F.env fun d T => match d with
      | .lst es => if ds.length + es.length ≤ sizeLine then .nx (F.env.set i (some (.lst (ds ++ es)))) T else .no
      | _ => .no
    | none => .no) D := p
  cases el : lstAt F.env i with
  | none => rw [el] at p; exact False.elim p
  | some ds =>
    rw [el] at p
    have e0 := lstAt_some el
    obtain ⟨q, b1, b2⟩ := Cf.R.owns r f hi e0
    obtain ⟨ws, c1, c2⟩ := b2.at_
    refine ⟨.ref q, b1, .inl ⟨rfl, ws, .inl (.inl c1)⟩, ?_⟩
    refine tE_bindS f r p fun d T1 v H1 O1 r1 qv p1 => ?_
    cases d with
    | lst es =>
      obtain ⟨k, vs, rfl, k1, k2⟩ := rb_lst (bOf qv r1)
      have p1 : PoS X W S' Sl fr F (if ds.length + es.length ≤ sizeLine then .nx (F.env.set i (some (.lst (ds ++ es)))) T1 else .no) D := p1
      split at p1
      · rename_i hlen
        obtain ⟨q', d1, d2⟩ := Cf.R.owns r1 f hi e0
        rw [b1] at d1; cases d1
        obtain ⟨us, g1, g2⟩ := d2.at_
        refine ⟨q, k, us, vs, rfl, rfl, g1, k1, by rw [g2.len, k2.len]; exact hlen, ?_⟩
        have q1 : Own1 F.g (upd H1 q (.lst (us ++ vs))) O1 q (.lst (ds ++ es)) := ⟨_, upd_same, by
          rw [fz_upd d2.o]
          exact g2.append k2⟩
        have r2 := Cf.R.mut r1 f hi e0 b1 q1
        obtain ⟨O3, r3, _⟩ := Cf.R.sub r2 hs
        have z := p1 F.σ _ O3 rfl (List.length_set ..) r3
        rw [f.s] at z
        exact z
      · exact False.elim p1
    | _ => exact False.elim p1
/-! ### xs.pop(), xs.pop(k) -/
/-- an expression that changes the list of slot i: its value, the list behind it -/
abbrev Mx := Ve → Tp → Res (D × List D)
def PoM (X : Cx) (W : WX) (S : List Nat) (i : Nat) (F : Cf) (r : Res (D × List D)) (Q : VK) : Prop := match r with
  | .ok x T' => ∀ v H' O', (F.to (F.env.set i (some (.lst x.2))) F.σ).R S T' H' O' → Rep F.g (fz H' O') v x.1 → Q v H'
  | .ex x T' => ∀ H' O', F.R S T' H' O' → W (ec X x) none F.σ H'
  | .no => False
def tM (X : Cx) (W : WX) (S : List Nat) (i : Nat) (c : Mx) : TE := fun σ H Q => ∃ F T O, Fit X F σ ∧ F.R S T H O ∧ PoM X W S i F (c F.env T) Q
structure SM (X : Cx) (W : WX) (S : List Nat) (i : Nat) (e : Expr) (c : Mx) : Prop where
  pe : PE X e (tM X W S i c)
def popM (i : Nat) : Mx := fun env T => match lstAt env i with
  | some ds => match ds[ds.length - 1]? with
    | some d => .ok (d, ds.dropLast) T
    | none => .no
  | none => .no
theorem dropLast_rep {g : Gh} {vs : List V} {ds : List D} (h : RepL g H vs ds) : RepL g H vs.dropLast ds.dropLast := by
  rw [List.dropLast_eq_take, List.dropLast_eq_take, h.len]
  exact h.take _
theorem sm_pop {x : Str} {i : Nat} {px apos cpos : Pos} (hi : i ∈ S) (hv : PE X (.Name x px) (tVar i))
    (hbase : attributeBase (.Name x px) "pop" X.env (eval (.Name x px) X.env) = eval (.Name x px) X.env := by rfl) (hline : (apos.endLine == cpos.line) = true := by rfl) :
    SM X W S i (.Call (.Attribute (.Name x px) "pop" apos) [] [] cpos) (popM i) := by
  refine ⟨peMono (pe_bm0 PySem.F.plainAttrs_list PySem.F.slot_list_pop PySem.F.type_list_pop mt_pop hv hbase hline) fun σ H Q ⟨F, T, O, f, r, p⟩ => ?_⟩
  have p : PoM X W S i F (match lstAt F.env i with
    | some ds => match ds[ds.length - 1]? with
      | some d => .ok (d, ds.dropLast) T
      | none => .no
    | none => .no) Q := p
  cases el : lstAt F.env i with
  | none => rw [el] at p; exact False.elim p
  | some ds =>
    rw [el] at p
    have e0 := lstAt_some el
    obtain ⟨q, b1, b2⟩ := Cf.R.owns r f hi e0
    obtain ⟨ws, c1, c2⟩ := b2.at_
    have p : PoM X W S i F (match ds[ds.length - 1]? with
      | some d => .ok (d, ds.dropLast) T
      | none => .no) Q := p
    cases ed : ds[ds.length - 1]? with
    | none => rw [ed] at p; exact False.elim p
    | some d =>
      rw [ed] at p
      obtain ⟨v, g1, g2⟩ := c2.get ed
      refine ⟨.ref q, b1, .inl ⟨rfl, ws, .inl (.inl c1)⟩, q, ws, v, rfl, rfl, c1, by rw [c2.len]; exact g1, ?_⟩
      have q1 : Own1 F.g (upd H q (.lst ws.dropLast)) O q (.lst ds.dropLast) := ⟨_, upd_same, by
        rw [fz_upd b2.o]
        exact dropLast_rep c2⟩
      exact p v _ O (Cf.R.mut r f hi e0 b1 q1) (by rw [fz_upd b2.o]; exact g2)
def popAtM (i : Nat) (c : Ex) : Mx := fun env T => match lstAt env i with
  | some ds => (c env T).bind fun d T => match d with
    | .int k => if okR k then match seqIndex? k ds.length with
      | some j => match ds[j]? with
        | some d => .ok (d, ds.eraseIdx j) T
        | none => .no
      | none => .no
      else .no
    | _ => .no
  | none => .no
theorem erase_rep {g : Gh} : ∀ {vs : List V} {ds : List D} (j : Nat), RepL g H vs ds → RepL g H (vs.eraseIdx j) (ds.eraseIdx j)
  | _, _, _, .nil => .nil
  | _, _, 0, .cons h t => t
  | _, _, j + 1, .cons h t => .cons h (erase_rep j t)
theorem tE_bindM {i : Nat} {k : D → Tp → Res (D × List D)} {Q : VK} {Qn : VK} (f : Fit X F σ) (r : F.R S T H O) (h : PoM X W S i F ((c F.env T).bind k) Q)
    (n : ∀ d T1 v H1 O1, F.R S T1 H1 O1 → MOk m F S H1 O1 v d → PoM X W S i F (k d T1) Q → Qn v H1) : tE X W S c m σ H Qn := by
  refine ⟨F, T, O, f, r, ?_⟩
  cases e : c F.env T with
  | ok d T1 =>
    rw [e] at h
    exact fun v H1 O1 r1 l1 q => n d T1 v H1 O1 r1 q h
  | ex x T1 => rw [e] at h; exact h
  | no => rw [e] at h; exact h
theorem sm_popAt {x : Str} {i : Nat} {px apos cpos : Pos} (hi : i ∈ S) (hv : PE X (.Name x px) (tVar i)) (he : SE X W S e c .bor)
    (hbase : attributeBase (.Name x px) "pop" X.env (eval (.Name x px) X.env) = eval (.Name x px) X.env := by rfl)
    (hfew : ((backTo cpos (starEach [e] X.env)).all (fun x => !x.1) && (backToKw cpos (keywordEach [] X.env)).all (fun x => x.1.isSome)
      && decide ([e].length + ([] : List Keyword).length + (if ([] : List Keyword).isEmpty then 0 else 1) < 30)) = true := by rfl)
    (hline : (apos.endLine == cpos.line) = true := by rfl) (h1 : starEach [e] X.env = (false, eval e X.env) :: starEach [] X.env := by rfl) (hplain : (backTo cpos (starEach [] X.env)).any (·.1) = false := by rfl) :
    SM X W S i (.Call (.Attribute (.Name x px) "pop" apos) [e] [] cpos) (popAtM i c) := by
  refine ⟨peMono (pe_bm PySem.F.plainAttrs_list PySem.F.slot_list_pop PySem.F.type_list_pop mt_popAt hv (pa_cons he.pe pa_nil h1) hbase hfew hline h1 hplain) fun σ H Q ⟨F, T, O, f, r, p⟩ => ?_⟩
  have p : PoM X W S i F (match lstAt F.env i with
    | some ds => (c F.env T).bind fun d T => match d with
      | .int k => if okR k then match seqIndex? k ds.length with
        | some j => match ds[j]? with
          | some d => .ok (d, ds.eraseIdx j) T
          | none => .no
        | none => .no
        else .no
      | _ => .no
    | none => .no) Q := p
  cases el : lstAt F.env i with
  | none => rw [el] at p; exact False.elim p
  | some ds =>
    rw [el] at p
    have e0 := lstAt_some el
    obtain ⟨q, b1, b2⟩ := Cf.R.owns r f hi e0
    obtain ⟨ws, c1, c2⟩ := b2.at_
    refine ⟨.ref q, b1, .inl ⟨rfl, ws, .inl (.inl c1)⟩, ?_⟩
    refine tE_bindM f r p fun d T1 v H1 O1 r1 qv p1 => ?_
    cases d with
    | int k =>
      have p1 : PoM X W S i F (if okR k then match seqIndex? k ds.length with
        | some j => match ds[j]? with
          | some d => .ok (d, ds.eraseIdx j) T1
          | none => .no
        | none => .no
        else .no) Q := p1
      split at p1
      · rename_i hk
        obtain ⟨hk1, hk2⟩ := okR_iff hk
        cases ej : seqIndex? k ds.length with
        | none => rw [ej] at p1; exact False.elim p1
        | some j =>
          rw [ej] at p1
          have p1 : PoM X W S i F (match ds[j]? with
            | some d => .ok (d, ds.eraseIdx j) T1
            | none => .no) Q := p1
          cases ed : ds[j]? with
          | none => rw [ed] at p1; exact False.elim p1
          | some d =>
            rw [ed] at p1
            obtain ⟨q', d1, d2⟩ := Cf.R.owns r1 f hi e0
            rw [b1] at d1; cases d1
            obtain ⟨us, g1, g2⟩ := d2.at_
            obtain ⟨y, y1, y2⟩ := g2.get ed
            have ev := rb_int (bOf qv r1)
            refine ⟨q, us, k, j, y, rfl, by rw [ev], g1, by omega, by omega, by rw [g2.len]; exact ej, y1, ?_⟩
            have q1 : Own1 F.g (upd H1 q (.lst (us.eraseIdx j))) O1 q (.lst (ds.eraseIdx j)) := ⟨_, upd_same, by
              rw [fz_upd d2.o]
              exact erase_rep j g2⟩
            exact p1 y _ O1 (Cf.R.mut r1 f hi e0 b1 q1) (by rw [fz_upd d2.o]; exact y2)
      · exact False.elim p1
    | _ => exact False.elim p1
theorem tM_bindS {i : Nat} {cm : Mx} {k : D × List D → Tp → SR} {Qn : VK} (f : Fit X F σ) (r : F.R S T H O) (h : PoS X W S' Sl fr F (exS (cm F.env T) F.env k) D')
    (n : ∀ x T1 v H1 O1, (F.to (F.env.set i (some (.lst x.2))) F.σ).R S T1 H1 O1 → Rep F.g (fz H1 O1) v x.1 → PoS X W S' Sl fr F (k x T1) D' → Qn v H1) : tM X W S i cm σ H Qn := by
  refine ⟨F, T, O, f, r, ?_⟩
  cases e : cm F.env T with
  | ok d T1 =>
    rw [e] at h
    exact fun v H1 O1 r1 q => n d T1 v H1 O1 r1 q h
  | ex x T1 =>
    rw [e] at h
    intro H1 O1 r1
    obtain ⟨O2, r2, _⟩ := Cf.R.sub r1 (S' := []) (fun i h => by cases h)
    exact h F.σ H1 O2 rfl rfl r2
  | no => rw [e] at h; exact h
/-- xs.pop(..) alone -/
def drM (i : Nat) (c : Mx) : Sx := fun env T => exS (c env T) env fun x T => .nx (env.set i (some (.lst x.2))) T
theorem ss_exprM {i : Nat} {cm : Mx} {pos : Pos} (h : SM X W S i e cm) (hs : ∀ i, i ∈ S' → i ∈ S := by decide) (hw : swapsWith e none pos.line X.env = pure false := by rfl) : SS X W S S' Sl fr (.Expr e pos) (drM i cm) := ⟨psMono (ps_expr h.pe hw) fun D σ H ⟨F, T, O, f, r, p⟩ =>
  tM_bindS f r p fun x T1 v H1 O1 r1 q p1 => by
    obtain ⟨O2, r2, _⟩ := Cf.R.sub r1 hs
    have z := p1 F.σ H1 O2 rfl (List.length_set ..) r2
    rw [f.s] at z
    exact z⟩
/-- target = xs.pop(..) -/
def asM (i : Nat) (tf : Tf) (c : Mx) : Sx := fun env T => exS (c env T) env fun x T => match tf x.1 (env.set i (some (.lst x.2))) with
  | some env => .nx env T
  | none => .no
theorem ss_asgM {tg : Expr} {i : Nat} {cm : Mx} {tf : Tf} {is : List Nat} {pos : Pos} (he : SM X W S i e cm) {gt : TG} (hg : SG X S' is tg tf gt) (hs : ∀ i, i ∈ S' → i ∈ S := by decide) (h1 : swapsWithSole [tg] e pos.line X.env = pure false := by rfl) (h2 : swappedStores [tg] e X.env = pure none := by rfl)
    (h3 : (assignEach [tg] X.env).map (·.2) = [assign tg X.env] := by rfl) : SS X W S S' Sl fr (.Assign [tg] e pos) (asM i tf cm) := by
  have pg := hg.pg
  have sim := hg.sim
  refine ⟨⟨fun pins s σ H D I h => (ps_asg he.pe pg h1 h2 h3).run pins s σ H D I ?_⟩⟩
  have hN := I.len
  obtain ⟨F, T, O, ft, r, p⟩ := h
  refine tM_bindS ft r p fun x T1 v H1 O1 r1 q p1 => ?_
  obtain ⟨O2, r2, l2, _⟩ := Cf.R.sub r1 hs
  cases e1 : tf x.1 (F.env.set i (some (.lst x.2))) with
  | none => rw [e1] at p1; exact False.elim p1
  | some env' =>
    rw [e1] at p1
    have hl : (F.env.set i (some (.lst x.2))).length = F.env.length := List.length_set ..
    have z := sim (F.to (F.env.set i (some (.lst x.2))) F.σ) T1 H1 O2 v x.1 env' (by have w := ft.to (σ' := F.σ) rfl hl; exact ⟨rfl, w.k, w.w, w.l, w.x⟩) r2 (by rw [show (F.to (F.env.set i (some (.lst x.2))) F.σ).σ = F.σ from rfl, ft.s]; exact hN.symm) (Rep.le l2 q) e1 D.nx fun σ' a b _ r' => p1 σ' H1 O2 a (b.trans hl) r'
    have ez : (F.to (F.env.set i (some (.lst x.2))) F.σ).σ = σ := ft.s
    rw [ez] at z
    exact z
/-- zs.append(xs.pop(..)) -/
def appM (k i : Nat) (c : Mx) : Sx := fun env T => match lstAt env k with
  | some ds => exS (c env T) env fun x T => if ds.length < sizeLine then .nx ((env.set i (some (.lst x.2))).set k (some (.lst (ds ++ [x.1])))) T else .no
  | none => .no
theorem ss_appM {x : Str} {k i : Nat} {cm : Mx} {px apos cpos pos : Pos} (hk : k ∈ S) (hki : i ≠ k) (hv : PE X (.Name x px) (tVar k)) (he : SM X W S i e cm) (hs : ∀ j, j ∈ S' → j ∈ S := by decide)
    (hbase : attributeBase (.Name x px) "append" X.env (eval (.Name x px) X.env) = eval (.Name x px) X.env := by rfl)
    (hfew : ((backTo cpos (starEach [e] X.env)).all (fun x => !x.1) && (backToKw cpos (keywordEach [] X.env)).all (fun x => x.1.isSome)
      && decide ([e].length + ([] : List Keyword).length + (if ([] : List Keyword).isEmpty then 0 else 1) < 30)) = true := by rfl)
    (hline : (apos.endLine == cpos.line) = true := by rfl) (h1 : starEach [e] X.env = (false, eval e X.env) :: starEach [] X.env := by rfl) (hplain : (backTo cpos (starEach [] X.env)).any (·.1) = false := by rfl)
    (hw : swapsWith (.Call (.Attribute (.Name x px) "append" apos) [e] [] cpos) none pos.line X.env = pure false := by rfl) :
    SS X W S S' Sl fr (.Expr (.Call (.Attribute (.Name x px) "append" apos) [e] [] cpos) pos) (appM k i cm) := by
  refine ⟨psMono (ps_expr (pe_bm PySem.F.plainAttrs_list PySem.F.slot_list_append PySem.F.type_list_append mt_append hv (pa_cons he.pe pa_nil h1) hbase hfew hline h1 hplain) hw) fun D σ H ⟨F, T, O, f, r, p⟩ => ?_⟩
  have p : PoS X W S' Sl fr F (match lstAt F.env k with
    | some ds => exS (cm F.env T) F.env fun x T => if ds.length < sizeLine then .nx ((F.env.set i (some (.lst x.2))).set k (some (.lst (ds ++ [x.1])))) T else .no
    | none => .no) D := p
  cases el : lstAt F.env k with
  | none => rw [el] at p; exact False.elim p
  | some ds =>
    rw [el] at p
    have e0 := lstAt_some el
    obtain ⟨q, b1, b2⟩ := Cf.R.owns r f hk e0
    obtain ⟨ws, c1, c2⟩ := b2.at_
    refine ⟨.ref q, b1, .inl ⟨rfl, ws, .inl (.inl c1)⟩, ?_⟩
    refine tM_bindS f r p fun x T1 v H1 O1 r1 qv p1 => ?_
    split at p1
    · rename_i hlen
      have f2 : Fit X (F.to (F.env.set i (some (.lst x.2))) F.σ) σ := by
        have w := f.to (σ' := F.σ) rfl (List.length_set .. : (F.env.set i (some (.lst x.2))).length = F.env.length)
        exact ⟨f.s, w.k, w.w, w.l, w.x⟩
      have e1 : (F.to (F.env.set i (some (.lst x.2))) F.σ).env[k]? = some (some (.lst ds)) := by
        show (F.env.set i (some (.lst x.2)))[k]? = _
        rw [set_get, if_neg hki]; exact e0
      obtain ⟨q', d1, d2⟩ := Cf.R.owns r1 f2 hk e1
      rw [b1] at d1; cases d1
      obtain ⟨us, g1, g2⟩ := d2.at_
      refine ⟨q, us, v, rfl, rfl, g1, by rw [g2.len]; exact hlen, ?_⟩
      have q1 : Own1 F.g (upd H1 q (.lst (us ++ [v]))) O1 q (.lst (ds ++ [x.1])) := ⟨_, upd_same, by
        rw [fz_upd d2.o]
        exact g2.append (.cons qv .nil)⟩
      have r2 := Cf.R.mut r1 f2 hk e1 b1 q1
      obtain ⟨O3, r3, _⟩ := Cf.R.sub r2 hs
      have z := p1 F.σ _ O3 rfl (by rw [List.length_set, List.length_set]) r3
      rw [f.s] at z
      exact z
    · exact False.elim p1
/-! ### xs[k] = e -/
def setAt (ds : List D) (k : Int) (d : D) : Option (List D) := (ixN ds.length k).map fun j => ds.set j d
def putS (i : Nat) (ci c : Ex) : Sx := fun env T => exS (c env T) env fun d T => match lstAt env i with
  | some ds => exS (ci env T) env fun k T => match k with
    | .int k => match setAt ds k d with
      | some ds => .nx (env.set i (some (.lst ds))) T
      | none => .no
    | _ => .no
  | none => .no
theorem ss_put {x : Str} {i : Nat} {ix : Expr} {ci : Ex} {px p2 pos : Pos} (hi : i ∈ S) (hv : PE X (.Name x px) (tVar i)) (hix : SE X W S ix ci .bor) (he : SE X W S e c .fro) (hs : ∀ j, j ∈ S' → j ∈ S := by decide)
    (h0 : ∀ v, assign (.Subscript (.Name x px) ix p2) X.env v = (do
      let ov ← holding [v] (eval (.Name x px) X.env)
      let iv ← holding [v, ov] (eval ix X.env)
      standAt p2
      holding [v, ov, iv] (setItem ov iv v)
      release [v, ov, iv] []) := by intro _; rfl)
    (h1 : swapsWithSole [.Subscript (.Name x px) ix p2] e pos.line X.env = pure false := by rfl) (h2 : swappedStores [.Subscript (.Name x px) ix p2] e X.env = pure none := by rfl)
    (h3 : (assignEach [.Subscript (.Name x px) ix p2] X.env).map (·.2) = [assign (.Subscript (.Name x px) ix p2) X.env] := by rfl) :
    SS X W S S' Sl fr (.Assign [.Subscript (.Name x px) ix p2] e pos) (putS i ci c) := by
  refine ⟨psMono (ps_asg he.pe (pg_sub hv hix.pe set_list h0) h1 h2 h3) fun D σ H ⟨F, T, O, f, r, p⟩ => ?_⟩
  refine tE_bindS f r p fun d T1 v H1 O1 r1 qv p1 => ?_
  cases el : lstAt F.env i with
  | none => rw [el] at p1; exact False.elim p1
  | some ds =>
    rw [el] at p1
    have e0 := lstAt_some el
    obtain ⟨q, b1, b2⟩ := Cf.R.owns r1 f hi e0
    refine ⟨.ref q, b1, ?_⟩
    have keep := qv
    refine ⟨F, T1, O1, f, r1, ?_⟩
    have p1 : PoS X W S' Sl fr F (exS (ci F.env T1) F.env fun k T => match k with
      | .int k => match setAt ds k d with
        | some ds => .nx (F.env.set i (some (.lst ds))) T
        | none => .no
      | _ => .no) D := p1
    cases ec : ci F.env T1 with
    | no => rw [ec] at p1; exact False.elim p1
    | ex x T2 =>
      rw [ec] at p1
      intro H2 O2 r2
      obtain ⟨O3, r3, _⟩ := Cf.R.sub r2 (S' := []) (fun i h => by cases h)
      exact p1 F.σ H2 O3 rfl rfl r3
    | ok dk T2 =>
      rw [ec] at p1
      intro vk H2 O2 r2 l2 qk
      cases dk with
      | int k =>
        have p1 : PoS X W S' Sl fr F (match setAt ds k d with
          | some ds => .nx (F.env.set i (some (.lst ds))) T2
          | none => .no) D := p1
        cases es : setAt ds k d with
        | none => rw [es] at p1; exact False.elim p1
        | some ds2 =>
          rw [es] at p1
          unfold setAt at es
          cases ej : ixN ds.length k with
          | none => rw [ej] at es; cases es
          | some j =>
            rw [ej] at es
            cases es
            obtain ⟨q', d1, d2⟩ := Cf.R.owns r2 f hi e0
            rw [b1] at d1; cases d1
            obtain ⟨us, g1, g2⟩ := d2.at_
            refine ⟨q, us, k, j, rfl, rb_int (bOf qk r2), g1, by rw [g2.len]; exact ej, ?_⟩
            have q1 : Own1 F.g (upd H2 q (.lst (us.set j v))) O2 q (.lst (ds.set j d)) := ⟨_, upd_same, by
              rw [fz_upd d2.o]
              exact g2.set (Rep.le l2 keep) j⟩
            have r3 := Cf.R.mut r2 f hi e0 b1 q1
            obtain ⟨O3, r4, _⟩ := Cf.R.sub r3 hs
            have z := p1 F.σ _ O3 rfl (List.length_set ..) r4
            rw [f.s] at z
            exact z
      | _ => exact False.elim p1
/-! ### x += e -/
def augS (fn : Int → Int → Int) (i : Nat) (c : Ex) : Sx := fun env T => match env[i]? with
  | some (some (.int x)) => exS (c env T) env fun d T => match d with
    | .int y => .nx (env.set i (some (.int (fn x y)))) T
    | _ => .no
  | _ => .no
theorem ss_aug {x : Str} {i : Nat} {op : Operator} {fn : Int → Int → Int} {p pos : Pos} (hN : X.N.Nodup) (hi : X.N[i]? = some x) (hx : Loc X.env.scope x) (ho : PIp X op (ipI fn)) (he : SE X W S e c .bor) (hS : i ∉ S := by decide) (hs : ∀ j, j ∈ S' → j ∈ S := by decide)
    (hf : X.fn x = true ∨ X.env.scope.names.lookup x = some .local := by first | exact .inl rfl | exact .inr rfl | assumption) : SS X W S S' Sl fr (.AugAssign (.Name x p) op e pos) (augS fn i c) := by
  refine ⟨psMono (ps_aug hN hi hx he.pe ho hf) fun D σ H ⟨F, T, O, f, r, p⟩ => ?_⟩
  have p : PoS X W S' Sl fr F (match F.env[i]? with
    | some (some (.int x)) => exS (c F.env T) F.env fun d T => match d with
      | .int y => .nx (F.env.set i (some (.int (fn x y)))) T
      | _ => .no
    | _ => .no) D := p
  split at p
  · rename_i x0 e0
    obtain ⟨a1, a2⟩ := f.at e0
    obtain ⟨v, b1, b2⟩ := r.fro i _ (f.out hS e0) a1
    cases b2
    refine ⟨_, a2 _ b1, ?_⟩
    refine tE_bindS f r p fun d T1 v H1 O1 r1 qv p1 => ?_
    cases d with
    | int y =>
      refine ⟨x0, y, rfl, rb_int (bOf qv r1), ?_⟩
      have hil : i < F.env.length := by
        rcases Nat.lt_or_ge i F.env.length with z | z
        · exact z
        · rw [List.getElem?_eq_none z] at e0; cases e0
      have r2 := Cf.R.set (i := i) (d := .int (fn x0 y)) (v := .int (fn x0 y)) r1 f.l f.x hil hS (.int _)
      obtain ⟨O3, r3, _⟩ := Cf.R.sub (F := F.to (F.env.set i (some (.int (fn x0 y)))) (F.σ.set i (some (.int (fn x0 y))))) r2 hs
      have z := p1 (F.σ.set i (some (.int (fn x0 y)))) H1 O3 (List.length_set ..) (List.length_set ..) r3
      rw [f.s] at z
      exact z
    | _ => exact False.elim p1
  · exact False.elim p
/-! ### the tape -/
def tgetD (k : D) (T : Tp) : Option D := match k, T with
  | .int k, some ts => atI ts k
  | _, _ => none
theorem tgetD_some {k d : D} {T : Tp} (h : tgetD k T = some d) : ∃ j ts, k = .int j ∧ T = some ts ∧ atI ts j = some d := by
  unfold tgetD at h
  split at h
  · exact ⟨_, _, rfl, rfl, h⟩
  · cases h
def tputD (k d : D) (T : Tp) : Option (List D) := match k, T with
  | .int k, some ts => setAt ts k d
  | _, _ => none
theorem tputD_some {k d : D} {T : Tp} {us : List D} (h : tputD k d T = some us) : ∃ j ts, k = .int j ∧ T = some ts ∧ setAt ts j d = some us := by
  unfold tputD at h
  split at h
  · exact ⟨_, _, rfl, rfl, h⟩
  · cases h
def tgetE (c ci : Ex) : Ex := fun env T => (c env T).bind fun d T => match d with
  | .tape => (ci env T).bind fun k T => ofO (tgetD k T) T
  | _ => .no
theorem se_tget {pos : Pos} (ha : SE X W S a ca .fro) (hb : SE X W S b cb .bor) (hp : PlainIx b) : SE X W S (.Subscript a b pos) (tgetE ca cb) .fro :=
  ⟨peMono (pe_ix ix_list ha.pe hb.pe hp) fun σ H Q h => by
    obtain ⟨F, T, O, ft, r, p⟩ := h
    refine tE_bind ft r p fun d1 T1 v1 H1 O1 r1 l1 q1 p1 => ?_
    cases d1 with
    | tape =>
      refine tE_bind ft r1 p1 fun d2 T2 v2 H2 O2 r2 l2 q2 p2 => ?_
      obtain ⟨d, ed, k2⟩ := po_of p2
      obtain ⟨k, ts, rfl, rfl, ea⟩ := tgetD_some ed
      have q1 : Rep F.g (fz H1 O1) v1 .tape := q1
      cases q1 with
      | tape hp =>
        obtain ⟨o, vs, ts', et, hh, rr⟩ := r2.tape.some hp
        cases et
        obtain ⟨v, c1, c2⟩ := atI_rep rr ea
        exact ⟨_, vs, k, v, rfl, rb_int (bOf q2 r2), .inl (.inl hh), c1, k2 v H2 O2 r2 (Le.refl _) c2⟩
    | _ => exact False.elim p1⟩
def tputS (c ci ce : Ex) : Sx := fun env T => exS (ce env T) env fun d T => exS (c env T) env fun t T => match t with
  | .tape => exS (ci env T) env fun k T => match tputD k d T with
    | some ts => .nx env (some ts)
    | none => .no
  | _ => .no
theorem R.tput {g : Gh} {env : Ve} {ts : List D} {vs : List V} {p : Addr} (r : Ev.R g S env T σ H O) (hp : g.pt = some p) (q : RepL g (fz H O) vs ts) : Ev.R g S env (some ts) σ (upd H p (.lst vs)) O := by
  obtain ⟨o, ws, ts0, e0, h0, r0⟩ := r.tape.some hp
  have ef : fz (upd H p (.lst vs)) O = fz H O := fz_upd o
  refine ⟨r.oh, fun a ha => ?_, r.o0, r.o1, fun a u n h => ?_, r.len, r.bd, ⟨.inr ⟨p, ts, vs, hp, rfl, o, upd_same, by rw [ef]; exact q⟩, r.tape.2.of (fun a hq oa => ⟨oa, upd_ne fun z => (by
    obtain ⟨q', hq⟩ := hq
    obtain ⟨_, ps, e1, _⟩ := r.tape.2 _ hq
    rw [z, h0] at e1; cases e1)⟩) (by rw [ef]; exact Le.refl _)⟩, fun i d hi h => ?_, fun i d hi h => ?_, r.inj⟩
  · by_cases e : a = p
    · rw [e, upd_same]; simp
    · rw [upd_ne e]; exact r.oin a ha
  · have e : a ≠ p := fun z => n (by rw [z]; exact .inl hp)
    rw [upd_ne e]; exact r.ext a u n h
  · rw [ef]; exact r.fro i d hi h
  · obtain ⟨a, a1, a2⟩ := r.own i d hi h
    have ne : a ≠ p := fun z => a2.npt (by rw [z]; exact .inl hp)
    exact ⟨a, a1, a2.o, a2.new, a2.npt, a2.at_.of (upd_ne ne) (by rw [ef]; exact Le.refl _)⟩
theorem ss_tput {x : Str} {ix : Expr} {ci ct : Ex} {px p2 pos : Pos} (hv : SE X W S (.Name x px) ct .fro) (hix : SE X W S ix ci .bor) (he : SE X W S e c .fro) (hs : ∀ j, j ∈ S' → j ∈ S := by decide)
    (h0 : ∀ v, assign (.Subscript (.Name x px) ix p2) X.env v = (do
      let ov ← holding [v] (eval (.Name x px) X.env)
      let iv ← holding [v, ov] (eval ix X.env)
      standAt p2
      holding [v, ov, iv] (setItem ov iv v)
      release [v, ov, iv] []) := by intro _; rfl)
    (h1 : swapsWithSole [.Subscript (.Name x px) ix p2] e pos.line X.env = pure false := by rfl) (h2 : swappedStores [.Subscript (.Name x px) ix p2] e X.env = pure none := by rfl)
    (h3 : (assignEach [.Subscript (.Name x px) ix p2] X.env).map (·.2) = [assign (.Subscript (.Name x px) ix p2) X.env] := by rfl) :
    SS X W S S' Sl fr (.Assign [.Subscript (.Name x px) ix p2] e pos) (tputS ct ci c) := by
  refine ⟨psMono (ps_asg he.pe (pg_sub hv.pe hix.pe set_list h0) h1 h2 h3) fun D σ H ⟨F, T, O, f, r, p⟩ => ?_⟩
  refine tE_bindS f r p fun d T1 v H1 O1 r1 qv p1 => ?_
  refine ⟨F, T1, O1, f, r1, ?_⟩
  cases et : ct F.env T1 with
  | no => rw [et] at p1; exact False.elim p1
  | ex x T2 =>
    rw [et] at p1
    intro H2 O2 r2
    obtain ⟨O3, r3, _⟩ := Cf.R.sub r2 (S' := []) (fun i h => by cases h)
    exact p1 F.σ H2 O3 rfl rfl r3
  | ok t T2 =>
    rw [et] at p1
    intro vt H2 O2 r2 l2 qt
    cases t with
    | tape =>
      refine ⟨F, T2, O2, f, r2, ?_⟩
      have p1 : PoS X W S' Sl fr F (exS (ci F.env T2) F.env fun k T => match tputD k d T with
        | some ts => .nx F.env (some ts)
        | none => .no) D := p1
      cases ec : ci F.env T2 with
      | no => rw [ec] at p1; exact False.elim p1
      | ex x T3 =>
        rw [ec] at p1
        intro H3 O3 r3
        obtain ⟨O4, r4, _⟩ := Cf.R.sub r3 (S' := []) (fun i h => by cases h)
        exact p1 F.σ H3 O4 rfl rfl r4
      | ok dk T3 =>
        rw [ec] at p1
        intro vk H3 O3 r3 l3 qk
        have p1 : PoS X W S' Sl fr F (match tputD dk d T3 with
          | some ts => .nx F.env (some ts)
          | none => .no) D := p1
        cases eu : tputD dk d T3 with
        | none => rw [eu] at p1; exact False.elim p1
        | some us =>
          rw [eu] at p1
          obtain ⟨k, ts, rfl, rfl, es⟩ := tputD_some eu
          unfold setAt at es
          cases ej : ixN ts.length k with
          | none => rw [ej] at es; cases es
          | some j =>
            rw [ej] at es
            cases es
            have qt : Rep F.g (fz H2 O2) vt .tape := qt
            cases qt with
            | tape hp =>
              obtain ⟨o, vs, ts', et2, hh, rr⟩ := r3.tape.some hp
              cases et2
              refine ⟨_, vs, k, j, rfl, rb_int (bOf qk r3), hh, by rw [rr.len]; exact ej, ?_⟩
              have r4 := R.tput r3 hp (rr.set (Rep.le (l2.trans l3) qv) j)
              obtain ⟨O5, r5, _⟩ := Cf.R.sub (F := F) r4 hs
              have z := p1 F.σ _ O5 rfl rfl r5
              rw [f.s] at z
              exact z
    | _ => exact False.elim p1
end
end Ev

/-! Ev: several names at once, comprehensions -/
namespace Ev
open PySem PySem.Spec PyProof.Rows L2
/-- how a value goes to a name -/
inductive Own? where
  | f | o
  deriving DecidableEq
def Own?.m : Own? → Mode
  | .f => .fro
  | .o => .fre
def Own?.S (i : Nat) (S : List Nat) : Own? → List Nat
  | .f => S
  | .o => i :: S
section
variable {X : Cx} {W : WX} {S S1 S2 S' Sl Si : List Nat} {fr : Bool} {e a b tg : Expr} {es : List Expr} {st : Stmt} {sts : List Stmt} {c ca cb cc : Ex} {cs : List Ex} {s s1 s2 : Sx} {m : Mode} {F : Cf} {T T' : Tp} {σ : L2.St} {H H1 : Hp} {O O1 : Addr → Prop} {D' : Ends} {Rr : It → Hp → Prop}
/-! ### a fresh object waits -/
theorem R.pushO {g : Gh} {env : Ve} {p : Addr} {d : D} (r : Ev.R g S env T σ H O) (q : OwnAt g H O p d) (ne : ∀ (j : Nat) d', j ∈ S → env[j]? = some (some d') → σ[j]? ≠ some (some (V.ref p))) : Ev.R g (S ++ [env.length]) (env ++ [some d]) T (σ ++ [some (V.ref p)]) H O := by
  have hl := r.len
  have key : ∀ (j : Nat) d', j ∈ S ++ [env.length] → (env ++ [some d])[j]? = some (some d') → (j ∈ S ∧ env[j]? = some (some d') ∧ (σ ++ [some (V.ref p)])[j]? = σ[j]?) ∨ (j = env.length ∧ d' = d ∧ (σ ++ [some (V.ref p)])[j]? = some (some (V.ref p))) := fun j d' hj h => by
    rcases List.mem_append.mp hj with z | z
    · have w := r.bd j z
      rw [List.getElem?_append_left w] at h
      exact .inl ⟨z, h, List.getElem?_append_left (by omega)⟩
    · have z := List.mem_singleton.mp z
      subst z
      rw [List.getElem?_append_right (Nat.le_refl _)] at h
      simp at h
      exact .inr ⟨rfl, h.symm, by rw [List.getElem?_append_right (by omega)]; simp [hl]⟩
  refine ⟨r.oh, r.oin, r.o0, r.o1, r.ext, by rw [List.length_append, List.length_append, hl]; rfl, fun j h => ?_, r.tape, fun j d' hj h => ?_, fun j d' hj h => ?_, fun j k d' d'' a hj hk h1 h2 h3 h4 => ?_⟩
  · rw [List.length_append]
    rcases List.mem_append.mp h with z | z
    · exact Nat.lt_add_right _ (r.bd j z)
    · have z := List.mem_singleton.mp z
      subst z; simp
  · have n1 : j ∉ S := fun z => hj (List.mem_append_left _ z)
    have n2 : j ≠ env.length := fun z => hj (List.mem_append_right _ (by rw [z]; exact List.mem_singleton.mpr rfl))
    rcases Nat.lt_or_ge j env.length with z | z
    · rw [List.getElem?_append_left z] at h
      rw [List.getElem?_append_left (by omega)]
      exact r.fro j d' n1 h
    · rw [List.getElem?_eq_none (by rw [List.length_append]; show env.length + 1 ≤ j; omega)] at h
      cases h
  · rcases key j d' hj h with ⟨x1, x2, x3⟩ | ⟨x1, x2, x3⟩
    · rw [x3]; exact r.own j d' x1 x2
    · subst x2; exact ⟨p, x3, q⟩
  · rcases key j d' hj h1 with ⟨x1, x2, x3⟩ | ⟨x1, x2, x3⟩
    · rcases key k d'' hk h2 with ⟨y1, y2, y3⟩ | ⟨y1, y2, y3⟩
      · rw [x3] at h3; rw [y3] at h4
        exact r.inj j k d' d'' a x1 y1 x2 y2 h3 h4
      · rw [y3] at h4; cases h4
        rw [x3] at h3
        exact absurd h3 (ne j d' x1 x2)
    · rcases key k d'' hk h2 with ⟨y1, y2, y3⟩ | ⟨y1, y2, y3⟩
      · rw [x3] at h3; cases h3
        rw [y3] at h4
        exact absurd h4 (ne k d'' y1 y2)
      · omega
theorem R.popO {g : Gh} {env : Ve} {d : D} {v : V} (r : Ev.R g (S ++ [env.length]) (env ++ [some d]) T (σ ++ [some v]) H O) (hb : ∀ i, i ∈ S → i < env.length) : Ev.R g S env T σ H O ∧ ∃ p, v = .ref p ∧ OwnAt g H O p d ∧ ∀ (j : Nat) d', j ∈ S → env[j]? = some (some d') → σ[j]? ≠ some (some (V.ref p)) := by
  have hl : env.length = σ.length := by
    have := r.len
    rw [List.length_append, List.length_append] at this
    simpa using this
  have ek : (env ++ [some d])[env.length]? = some (some d) := by simp
  have es : (σ ++ [some v])[env.length]? = some (some v) := by rw [hl]; simp
  have mk : env.length ∈ S ++ [env.length] := List.mem_append_right _ (List.mem_singleton.mpr rfl)
  obtain ⟨p, b1, b2⟩ := r.own _ d mk ek
  rw [es] at b1
  have b1 : v = .ref p := Option.some.inj (Option.some.inj b1)
  have key : ∀ (j : Nat), j < env.length → (env ++ [some d])[j]? = env[j]? ∧ (σ ++ [some v])[j]? = σ[j]? := fun j hj => ⟨List.getElem?_append_left hj, List.getElem?_append_left (by omega)⟩
  refine ⟨⟨r.oh, r.oin, r.o0, r.o1, r.ext, hl, hb, r.tape, fun j d' hj h => ?_, fun j d' hj h => ?_, fun j k d' d'' a hj hk h1 h2 h3 h4 => ?_⟩, p, b1, b2, fun j d' hj h1 h2 => ?_⟩
  · have z : j < env.length := by
      rcases Nat.lt_or_ge j env.length with z | z
      · exact z
      · rw [List.getElem?_eq_none z] at h; cases h
    rw [← (key j z).1] at h
    rw [← (key j z).2]
    refine r.fro j d' (fun w => ?_) h
    rcases List.mem_append.mp w with w | w
    · exact hj w
    · have w := List.mem_singleton.mp w; omega
  · rw [← (key j (hb j hj)).1] at h
    rw [← (key j (hb j hj)).2]
    exact r.own j d' (List.mem_append_left _ hj) h
  · rw [← (key j (hb j hj)).1] at h1; rw [← (key k (hb k hk)).1] at h2; rw [← (key j (hb j hj)).2] at h3; rw [← (key k (hb k hk)).2] at h4
    exact r.inj j k d' d'' a (List.mem_append_left _ hj) (List.mem_append_left _ hk) h1 h2 h3 h4
  · rw [← (key j (hb j hj)).1] at h1; rw [← (key j (hb j hj)).2] at h2
    have := r.inj j env.length d' d p (List.mem_append_left _ hj) mk h1 ek h2 (by rw [es, b1])
    have := hb j hj
    omega
def par2S (i j : Nat) (ca cb : Ex) : Sx := fun env T => exS (ca env T) env fun d T => exS (cb env T) env fun e T => .nx ((env.set i (some d)).set j (some e)) T
/-- the state with a value that waits -/
def Cf.wait (F : Cf) (o : Own?) (v : V) (d : D) : Cf := { F with tms := F.tms ++ [some d], τ := F.τ ++ [some v], xs := match o with | .f => F.xs | .o => F.xs ++ [(F.env ++ F.tms).length] }
theorem R_wait {o : Own?} {v : V} {d : D} (r : F.R S T H O) (q : MOk o.m F S H O v d) : (F.wait o v d).R S T H O := by
  cases o with
  | f =>
    have z := R.push r (show Rep F.g (fz H O) v d from q)
    rw [List.append_assoc, List.append_assoc] at z
    exact z
  | o =>
    obtain ⟨p, rfl, ow, ne⟩ := q
    have z := R.pushO r ow ne
    rw [List.append_assoc, List.append_assoc, List.append_assoc] at z
    exact z
theorem Fit0.wait {o : Own?} {v : V} {d : D} (f : Fit X F σ) : Fit X (F.wait o v d) σ := ⟨f.s, f.k, f.w, f.l, fun i hi => by
  cases o with
  | f => exact f.x i hi
  | o =>
    rcases List.mem_append.mp hi with z | z
    · exact f.x i z
    · have z := List.mem_singleton.mp z
      rw [z, List.length_append]
      show F.env.length ≤ _
      omega⟩
/-- the value that waited goes to its name -/
theorem R_take {o : Own?} {v : V} {d : D} {i : Nat} (f : Fit X F σ) (r0 : F.R S T' H1 O1) (hi : i < F.env.length) (hn : o = .f → i ∉ S) (r : (F.wait o v d).R S T H O) : (F.to (F.env.set i (some d)) (F.σ.set i (some v))).R (o.S i S) T H O := by
  have hl := f.l
  have bd := r0.bd
  cases o with
  | f =>
    have r : Ev.R F.g (S ++ F.xs) (F.env ++ (F.tms ++ [some d])) T (F.σ ++ (F.τ ++ [some v])) H O := r
    rw [← List.append_assoc, ← List.append_assoc] at r
    have ek : ((F.env ++ F.tms) ++ [some d])[(F.env ++ F.tms).length]? = some (some d) := by simp
    have nS : (F.env ++ F.tms).length ∉ S ++ F.xs := fun z => absurd (bd _ z) (by omega)
    obtain ⟨v', b1, b2⟩ := r.fro _ d nS ek
    have len0 : (F.env ++ F.tms).length = (F.σ ++ F.τ).length := r0.len
    rw [len0] at b1
    simp at b1
    subst b1
    have r2 : F.R S T H O := R.pop r bd
    exact Cf.R.set r2 hl f.x hi (hn rfl) b2
  | o =>
    have r : Ev.R F.g (S ++ (F.xs ++ [(F.env ++ F.tms).length])) (F.env ++ (F.tms ++ [some d])) T (F.σ ++ (F.τ ++ [some v])) H O := r
    rw [← List.append_assoc, ← List.append_assoc, ← List.append_assoc] at r
    obtain ⟨r2, p, rfl, ow, ne⟩ := R.popO r bd
    have z := R.setO r2 (i := i) (by rw [List.length_append]; omega) ow ne
    rw [List.set_append_left _ _ hi, List.set_append_left _ _ (by omega)] at z
    exact z
theorem R_put {o : Own?} {v : V} {d : D} {i : Nat} (f : Fit X F σ) (r : F.R S T H O) (hi : i < F.env.length) (hn : o = .f → i ∉ S) (q : MOk o.m F S H O v d) : (F.to (F.env.set i (some d)) (F.σ.set i (some v))).R (o.S i S) T H O :=
  R_take f r hi hn (R_wait r q)
theorem wait_to {o : Own?} {v : V} {d : D} {env : Ve} {σ' : L2.St} (h : env.length = F.env.length) : (F.wait o v d).to env σ' = (F.to env σ').wait o v d := by
  cases o with
  | f => rfl
  | o =>
    unfold Cf.wait Cf.to
    simp [h]
/-- what two names at once ask -/
theorem par2_t {x y : Str} {i j : Nat} {o1 o2 : Own?} {σ : L2.St} {H : Hp} {D : Ends} (hi : X.N[i]? = some x) (hj : X.N[j]? = some y) (hij : i ≠ j) (n2 : o2 = .f → j ∉ S) (n3 : o1 = .f → i ∉ o2.S j S) (hs : ∀ k, k ∈ S' → k ∈ o1.S i (o2.S j S)) (hNl : σ.length = X.N.length) (h : tS X W S S' Sl fr (par2S i j ca cb) D σ H) :
    tPar i j (tCons (tE X W S ca o1.m) (tCons (tE X W S cb o2.m) tNil)) D σ H := by
  obtain ⟨F, T, O, f, r, p⟩ := h
  have inN : ∀ {k : Nat} {z : Str}, X.N[k]? = some z → k < F.env.length := fun {k z} hk => by
    rcases Nat.lt_or_ge k X.N.length with w | w
    · rw [f.l, f.s, hNl]; exact w
    · rw [List.getElem?_eq_none w] at hk; cases hk
  refine tE_bindS f r p fun d1 T1 v1 H1 O1 r1 q1 p1 => ?_
  have w1 := R_wait r1 q1
  have fw : Fit X (F.wait o1 v1 d1) σ := f.wait
  have p1 : PoS X W S' Sl fr F (exS (cb F.env T1) F.env fun e T => .nx ((F.env.set i (some d1)).set j (some e)) T) D := p1
  refine ⟨F.wait o1 v1 d1, T1, O1, fw, w1, ?_⟩
  show Po X W S o2.m (F.wait o1 v1 d1) H1 O1 (cb F.env T1) _
  cases eb : cb F.env T1 with
  | no => rw [eb] at p1; exact p1
  | ex z T2 =>
    rw [eb] at p1
    intro H2 O2 r2
    have r2' : (F.wait o1 v1 d1).R [] T2 H2 O2 ∨ True := .inr trivial
    obtain ⟨O3, r3, _⟩ := Cf.R.sub (S' := []) r2 (fun i h => by cases h)
    have r4 : ∃ O4, F.R [] T2 H2 O4 := by
      have bd := r.bd
      have bd0 : ∀ i, i ∈ ([] : List Nat) ++ F.xs → i < (F.env ++ F.tms).length := fun i hi => bd i (by
        rcases List.mem_append.mp hi with z | z
        · cases z
        · exact List.mem_append_right _ z)
      cases o1 with
      | f =>
        have r3 : Ev.R F.g ([] ++ F.xs) (F.env ++ (F.tms ++ [some d1])) T2 (F.σ ++ (F.τ ++ [some v1])) H2 O3 := r3
        rw [← List.append_assoc, ← List.append_assoc] at r3
        exact ⟨O3, R.pop r3 bd0⟩
      | o =>
        have r3 : Ev.R F.g ([] ++ (F.xs ++ [(F.env ++ F.tms).length])) (F.env ++ (F.tms ++ [some d1])) T2 (F.σ ++ (F.τ ++ [some v1])) H2 O3 := r3
        rw [← List.append_assoc, ← List.append_assoc, ← List.append_assoc] at r3
        exact ⟨O3, (R.popO r3 bd0).1⟩
    obtain ⟨O4, r4⟩ := r4
    have z := p1 F.σ H2 O4 rfl rfl r4
    exact z
  | ok d2 T2 =>
    rw [eb] at p1
    intro v2 H2 O2 r2 l2 q2
    refine ⟨v1, v2, rfl, ?_⟩
    have hil := inN hi
    have hjl := inN hj
    have r3 := R_put fw r2 (i := j) hjl n2 q2
    have e3 : ((F.wait o1 v1 d1).to ((F.wait o1 v1 d1).env.set j (some d2)) ((F.wait o1 v1 d1).σ.set j (some v2))) = ((F.to (F.env.set j (some d2)) (F.σ.set j (some v2))).wait o1 v1 d1) := wait_to (List.length_set ..)
    rw [e3] at r3
    have f2 : Fit X (F.to (F.env.set j (some d2)) (F.σ.set j (some v2))) (F.σ.set j (some v2)) := f.to (List.length_set ..) (List.length_set ..)
    have base : ∃ T' H1 O1, (F.to (F.env.set j (some d2)) (F.σ.set j (some v2))).R (o2.S j S) T' H1 O1 := by
      have bd := r.bd
      have bd2 : ∀ k, k ∈ o2.S j S ++ F.xs → k < (F.env.set j (some d2) ++ F.tms).length := fun k hk => by
        rw [List.length_append, List.length_set]
        have go : k ∈ S ++ F.xs → k < F.env.length + F.tms.length := fun h => by
          have := bd k h
          rw [List.length_append] at this
          exact this
        cases o2 with
        | f => exact go hk
        | o =>
          rcases List.mem_cons.mp hk with z | z
          · rw [z]; omega
          · exact go z
      cases o1 with
      | f =>
        have r3 : Ev.R F.g (o2.S j S ++ F.xs) (F.env.set j (some d2) ++ (F.tms ++ [some d1])) T2 (F.σ.set j (some v2) ++ (F.τ ++ [some v1])) H2 O2 := r3
        rw [← List.append_assoc, ← List.append_assoc] at r3
        exact ⟨_, _, _, R.pop r3 bd2⟩
      | o =>
        have r3 : Ev.R F.g (o2.S j S ++ (F.xs ++ [(F.env.set j (some d2) ++ F.tms).length])) (F.env.set j (some d2) ++ (F.tms ++ [some d1])) T2 (F.σ.set j (some v2) ++ (F.τ ++ [some v1])) H2 O2 := r3
        rw [← List.append_assoc, ← List.append_assoc, ← List.append_assoc] at r3
        exact ⟨_, _, _, (R.popO r3 bd2).1⟩
    obtain ⟨_, _, _, base⟩ := base
    have r5 := R_take f2 base (i := i) (by show i < (F.env.set j (some d2)).length; rw [List.length_set]; exact hil) n3 r3
    have r6 : (F.to ((F.env.set i (some d1)).set j (some d2)) ((F.σ.set i (some v1)).set j (some v2))).R (o1.S i (o2.S j S)) T2 H2 O2 := by
      have z : (F.to ((F.env.set j (some d2)).set i (some d1)) ((F.σ.set j (some v2)).set i (some v1))).R (o1.S i (o2.S j S)) T2 H2 O2 := r5
      rw [List.set_comm _ _ (Ne.symm hij), List.set_comm _ _ (Ne.symm hij)] at z
      exact z
    obtain ⟨O7, r7, _⟩ := Cf.R.sub r6 hs
    have z := p1 ((F.σ.set i (some v1)).set j (some v2)) H2 O7 (by rw [List.length_set, List.length_set]) (by rw [List.length_set, List.length_set]) r7
    rw [f.s] at z
    exact z
theorem ss_par2 {x y : Str} {i j : Nat} {o1 o2 : Own?} {px py pt pos pt2 : Pos} {kt k2} (hc : X.calm = true) (hN : X.N.Nodup) (hi : X.N[i]? = some x) (hj : X.N[j]? = some y) (hij : i ≠ j) (hx : X.env.scope.names.lookup x = some .local) (hy : X.env.scope.names.lookup y = some .local)
    (ha : SE X W S a ca o1.m) (hb : SE X W S b cb o2.m) (n1 : o1 = .f → i ∉ S := by decide) (n2 : o2 = .f → j ∉ S := by decide) (n3 : o1 = .f → i ∉ o2.S j S := by decide) (hs : ∀ k, k ∈ S' → k ∈ o1.S i (o2.S j S) := by decide)
    (hw : swappedStores [.Tuple [.Name x px, .Name y py] kt pt] (.Tuple [a, b] k2 pt2) X.env = pure (some [x, y]) := by rfl)
    (hsw : swapsWithSole [.Tuple [.Name x px, .Name y py] kt pt] (.Tuple [a, b] k2 pt2) pos.line X.env = pure false := by rfl)
    (h1 : starEach [a, b] X.env = (false, eval a X.env) :: starEach [b] X.env := by rfl) (h2 : starEach [b] X.env = (false, eval b X.env) :: starEach [] X.env := by rfl) :
    SS X W S S' Sl fr (.Assign [.Tuple [.Name x px, .Name y py] kt pt] (.Tuple [a, b] k2 pt2) pos) (par2S i j ca cb) :=
  ⟨⟨fun pins s σ H D I h => (ps_par hc hN hi hj hij hx hy (pa_cons ha.pe (pa_cons hb.pe pa_nil h2) h1) hw hsw).run pins s σ H D I (par2_t hi hj hij n2 n3 hs I.len h)⟩⟩
end
end Ev

/-! Ev: comprehensions -/
namespace Ev
open PySem PySem.Spec PyProof.Rows L2
def wipeE (env : Ve) : List Nat → Ve
  | [] => env
  | v :: vs => (wipeE env vs).set v none
def nxR {α : Type} (r : Res α) : Res α := match r with
  | .ex _ _ => .no
  | r => r
def lcL (env : Ve) (f : Tf) (cd ce : Ex) : List D → Tp → Res (List D)
  | [], T => .ok [] T
  | d :: ds, T => match f d env with
    | none => .no
    | some env1 => (nxR (cd env1 T)).bind fun b T => match b with
      | .bl true => (nxR (ce env1 T)).bind fun x T => (lcL env f cd ce ds T).bind fun xs T => .ok (x :: xs) T
      | .bl false => lcL env f cd ce ds T
      | _ => .no
def lcE (vs : List Nat) (f : Tf) (it : It_) (cd ce : Ex) : Ex := fun env T => (it env T).bind fun ds T => (lcL (wipeE env vs) f cd ce ds T).bind fun xs T => if xs.length ≤ sizeLine then .ok (.lst xs) T else .no
/-- a comprehension's tests -/
structure STs (X : Cx) (W : WX) (S : List Nat) (ifs : List Expr) (c : Ex) : Prop where
  pt : PTs X ifs (tT X W S c)
theorem ptsMono {X : Cx} {e : List Expr} {t t' : TT} (h : PTs X e t) (i : ∀ σ H Q, t' σ H Q → t σ H Q) : PTs X e t' := ⟨fun pins s σ H Q I q => h.run pins s σ H Q I (i _ _ _ q)⟩
section
variable {X : Cx} {W : WX} {S S1 S2 S' Sl Si : List Nat} {fr : Bool} {e a b tg iter : Expr} {es ifs : List Expr} {st : Stmt} {sts : List Stmt} {c ca cb cc cd ce : Ex} {cs : List Ex} {s s1 s2 : Sx} {m : Mode} {F : Cf} {T T' : Tp} {σ : L2.St} {H H1 : Hp} {O O1 : Addr → Prop} {D' : Ends} {Rr : It → Hp → Prop}
theorem sts_nil : STs X W S [] (kE (.bl true)) := ⟨ptsMono pts_nil fun σ H Q ⟨F, T, O, f, r, p⟩ => by
  obtain ⟨b, e1, e2⟩ := p.now r (.bl true)
  cases e1; exact e2⟩
theorem sts_one (h : ST X W S e c) : STs X W S [e] c := ⟨pts_one h.pt⟩
theorem wipeE_length (env : Ve) : ∀ vs : List Nat, (wipeE env vs).length = env.length
  | [] => rfl
  | v :: vs => by unfold wipeE; rw [List.length_set, wipeE_length env vs]
theorem R.wipe1 {g : Gh} {env : Ve} (i : Nat) (r : Ev.R g S env T σ H O) : Ev.R g S (env.set i none) T (σ.set i none) H O := by
  have k : ∀ (j : Nat) d, (env.set i none)[j]? = some (some d) → i ≠ j ∧ env[j]? = some (some d) := fun j d h => by
    rw [set_get] at h
    by_cases e : i = j
    · rw [if_pos e] at h
      split at h <;> cases h
    · rw [if_neg e] at h; exact ⟨e, h⟩
  refine ⟨r.oh, r.oin, r.o0, r.o1, r.ext, by rw [List.length_set, List.length_set]; exact r.len, fun j h => by rw [List.length_set]; exact r.bd j h, r.tape, fun j d hj h => ?_, fun j d hj h => ?_, fun j l d d' a hj hl h1 h2 h3 h4 => ?_⟩
  · obtain ⟨e, h⟩ := k j d h
    rw [set_get, if_neg e]; exact r.fro j d hj h
  · obtain ⟨e, h⟩ := k j d h
    rw [set_get, if_neg e]; exact r.own j d hj h
  · obtain ⟨e1, h1⟩ := k j d h1
    obtain ⟨e2, h2⟩ := k l d' h2
    rw [set_get, if_neg e1] at h3; rw [set_get, if_neg e2] at h4
    exact r.inj j l d d' a hj hl h1 h2 h3 h4
theorem R.unset {g : Gh} {env : Ve} {i : Nat} (r : Ev.R g S (env.set i none) T (σ.set i none) H O) (hi : i ∉ S) (q : ∀ d, env[i]? = some (some d) → ∃ v, σ[i]? = some (some v) ∧ Rep g (fz H O) v d) : Ev.R g S env T σ H O := by
  have ne : ∀ j, j ∈ S → i ≠ j := fun j hj e => hi (by rw [e]; exact hj)
  refine ⟨r.oh, r.oin, r.o0, r.o1, r.ext, by have := r.len; rw [List.length_set, List.length_set] at this; exact this, fun j h => by have := r.bd j h; rw [List.length_set] at this; exact this, r.tape, fun j d hj h => ?_, fun j d hj h => ?_, fun j l d d' a hj hl h1 h2 h3 h4 => ?_⟩
  · by_cases e : i = j
    · subst e; exact q d h
    · have z := r.fro j d hj (by rw [set_get, if_neg e]; exact h)
      rw [set_get, if_neg e] at z; exact z
  · have z := r.own j d hj (by rw [set_get, if_neg (ne j hj)]; exact h)
    rw [set_get, if_neg (ne j hj)] at z; exact z
  · exact r.inj j l d d' a hj hl (by rw [set_get, if_neg (ne j hj)]; exact h1) (by rw [set_get, if_neg (ne l hl)]; exact h2) (by rw [set_get, if_neg (ne j hj)]; exact h3) (by rw [set_get, if_neg (ne l hl)]; exact h4)
theorem wipe_app {env : Ve} {tms : Ve} : ∀ {vs : List Nat}, (∀ i, i ∈ vs → i < env.length) → wipeE (env ++ tms) vs = wipeE env vs ++ tms
  | [], _ => rfl
  | v :: vs, h => by
    unfold wipeE
    rw [wipe_app fun i hi => h i (List.mem_cons_of_mem _ hi), List.set_append_left _ _ (by rw [wipeE_length]; exact h v List.mem_cons_self)]
theorem wipe_appS {σ τ : L2.St} : ∀ {vs : List Nat}, (∀ i, i ∈ vs → i < σ.length) → wipe (σ ++ τ) vs = wipe σ vs ++ τ
  | [], _ => rfl
  | v :: vs, h => by
    unfold wipe
    rw [wipe_appS fun i hi => h i (List.mem_cons_of_mem _ hi), List.set_append_left _ _ (by rw [wipe_length]; exact h v List.mem_cons_self)]
theorem R.wipes {g : Gh} {env : Ve} (r : Ev.R g S env T σ H O) : ∀ vs : List Nat, Ev.R g S (wipeE env vs) T (wipe σ vs) H O
  | [] => r
  | v :: vs => R.wipe1 v (R.wipes r vs)
theorem wipeE_get {env : Ve} {i : Nat} {d : D} : ∀ {vs : List Nat}, (wipeE env vs)[i]? = some (some d) → env[i]? = some (some d)
  | [], h => h
  | v :: vs, h => by
    unfold wipeE at h
    rw [set_get] at h
    split at h
    · split at h <;> cases h
    · exact wipeE_get h
theorem wipe_val {env : Ve} {i : Nat} {d : D} {v : V} : ∀ {vs : List Nat}, (wipeE env vs)[i]? = some (some d) → σ[i]? = some (some v) → (wipe σ vs)[i]? = some (some v)
  | [], _, h => h
  | w :: vs, h, h2 => by
    unfold wipeE at h
    unfold wipe
    rw [set_get] at h ⊢
    by_cases e : w = i
    · rw [if_pos e] at h
      split at h <;> cases h
    · rw [if_neg e] at h ⊢
      exact wipe_val h h2
theorem R.unwipes {g : Gh} {env : Ve} : ∀ {vs : List Nat}, Ev.R g S (wipeE env vs) T (wipe σ vs) H O → (∀ i, i ∈ vs → i ∉ S) → (∀ (i : Nat) d, i ∈ vs → env[i]? = some (some d) → ∃ v, σ[i]? = some (some v) ∧ Rep g (fz H O) v d) → Ev.R g S env T σ H O
  | [], r, _, _ => r
  | v :: vs, r, h1, h2 => by
    refine R.unwipes (vs := vs) (R.unset (i := v) r (h1 v List.mem_cons_self) fun d hd => ?_) (fun i hi => h1 i (List.mem_cons_of_mem _ hi)) (fun i d hi => h2 i d (List.mem_cons_of_mem _ hi))
    obtain ⟨x, x1, x2⟩ := h2 v d List.mem_cons_self (wipeE_get hd)
    exact ⟨x, wipe_val hd x1, x2⟩
theorem wipe_same {σ σ2 : L2.St} : ∀ {vs is : List Nat}, (∀ i, i ∈ is → i ∈ vs) → σ2.length = σ.length → (∀ j, j ∉ is → σ2[j]? = (wipe σ vs)[j]?) → wipe σ2 vs = wipe σ vs := fun {vs is} h hl hq => by
  apply List.ext_getElem?
  intro j
  have w0 : ∀ (vs : List Nat) (σ : L2.St) (j : Nat), j ∈ vs → (wipe σ vs)[j]? = if j < σ.length then some none else none := by
    intro vs
    induction vs with
    | nil => intro σ j hj; cases hj
    | cons v vs ih =>
      intro σ j hj
      unfold wipe
      rw [set_get]
      by_cases e : v = j
      · rw [if_pos e, wipe_length]
        by_cases q : v < σ.length
        · rw [if_pos q, if_pos (by omega)]
        · rw [if_neg q, if_neg (by omega)]
      · rw [if_neg e]
        rcases List.mem_cons.mp hj with z | z
        · exact absurd z.symm e
        · exact ih σ j z
  have w1 : ∀ (vs : List Nat) (σ : L2.St) (j : Nat), j ∉ vs → (wipe σ vs)[j]? = σ[j]? := by
    intro vs
    induction vs with
    | nil => intro σ j _; rfl
    | cons v vs ih =>
      intro σ j hj
      unfold wipe
      rw [set_get, if_neg fun e => hj (by rw [e]; exact List.mem_cons_self)]
      exact ih σ j fun z => hj (List.mem_cons_of_mem _ z)
  by_cases hj : j ∈ vs
  · rw [w0 vs σ2 j hj, w0 vs σ j hj, hl]
  · rw [w1 vs σ2 j hj, hq j fun z => hj (h j z)]
abbrev W0 : WX := fun _ _ _ _ => False
theorem wipe_sameE {env env2 : Ve} : ∀ {vs is : List Nat}, (∀ i, i ∈ is → i ∈ vs) → env2.length = env.length → (∀ j, j ∉ is → env2[j]? = (wipeE env vs)[j]?) → wipeE env2 vs = wipeE env vs := fun {vs is} h hl hq => by
  apply List.ext_getElem?
  intro j
  have w0 : ∀ (vs : List Nat) (σ : Ve) (j : Nat), j ∈ vs → (wipeE σ vs)[j]? = if j < σ.length then some none else none := by
    intro vs
    induction vs with
    | nil => intro σ j hj; cases hj
    | cons v vs ih =>
      intro σ j hj
      unfold wipeE
      rw [set_get]
      by_cases e : v = j
      · rw [if_pos e, wipeE_length]
        by_cases q : v < σ.length
        · rw [if_pos q, if_pos (by omega)]
        · rw [if_neg q, if_neg (by omega)]
      · rw [if_neg e]
        rcases List.mem_cons.mp hj with z | z
        · exact absurd z.symm e
        · exact ih σ j z
  have w1 : ∀ (vs : List Nat) (σ : Ve) (j : Nat), j ∉ vs → (wipeE σ vs)[j]? = σ[j]? := by
    intro vs
    induction vs with
    | nil => intro σ j _; rfl
    | cons v vs ih =>
      intro σ j hj
      unfold wipeE
      rw [set_get, if_neg fun e => hj (by rw [e]; exact List.mem_cons_self)]
      exact ih σ j fun z => hj (List.mem_cons_of_mem _ z)
  by_cases hj : j ∈ vs
  · rw [w0 vs env2 j hj, w0 vs env j hj, hl]
  · rw [w1 vs env2 j hj, hq j fun z => hj (h j z)]
theorem wipeE_out {env : Ve} {j : Nat} : ∀ {vs : List Nat}, j ∉ vs → (wipeE env vs)[j]? = env[j]?
  | [], _ => rfl
  | v :: vs, hj => by
    unfold wipeE
    rw [set_get, if_neg fun e => hj (by rw [e]; exact List.mem_cons_self)]
    exact wipeE_out fun z => hj (List.mem_cons_of_mem _ z)
theorem wipe_out {σ : L2.St} {j : Nat} : ∀ {vs : List Nat}, j ∉ vs → (wipe σ vs)[j]? = σ[j]?
  | [], _ => rfl
  | v :: vs, hj => by
    unfold wipe
    rw [set_get, if_neg fun e => hj (by rw [e]; exact List.mem_cons_self)]
    exact wipe_out fun z => hj (List.mem_cons_of_mem _ z)
theorem lcL_noex {env : Ve} {f : Tf} {cd ce : Ex} : ∀ (ds : List D) (T : Tp) (x : Str) (T' : Tp), lcL env f cd ce ds T ≠ .ex x T'
  | [], T, x, T', h => by cases h
  | d :: ds, T, x, T', h => by
    unfold lcL at h
    cases e1 : f d env with
    | none => rw [e1] at h; cases h
    | some env1 =>
      rw [e1] at h
      have h : ((nxR (cd env1 T)).bind fun b T => match b with
        | .bl true => (nxR (ce env1 T)).bind fun x T => (lcL env f cd ce ds T).bind fun xs T => .ok (x :: xs) T
        | .bl false => lcL env f cd ce ds T
        | _ => .no) = .ex x T' := h
      cases e2 : cd env1 T with
      | no => rw [e2] at h; cases h
      | ex _ _ => rw [e2] at h; cases h
      | ok b T1 =>
        rw [e2] at h
        have h : (match b with
          | .bl true => (nxR (ce env1 T1)).bind fun x T => (lcL env f cd ce ds T).bind fun xs T => .ok (x :: xs) T
          | .bl false => lcL env f cd ce ds T1
          | _ => .no) = .ex x T' := h
        split at h
        · cases e3 : ce env1 T1 with
          | no => rw [e3] at h; cases h
          | ex _ _ => rw [e3] at h; cases h
          | ok y T2 =>
            rw [e3] at h
            have h : ((lcL env f cd ce ds T2).bind fun xs T => .ok (y :: xs) T) = .ex x T' := h
            cases e4 : lcL env f cd ce ds T2 with
            | no => rw [e4] at h; cases h
            | ok _ _ => rw [e4] at h; cases h
            | ex z T3 => exact lcL_noex ds T2 z T3 e4
        · exact lcL_noex ds T1 x T' h
        · cases h
/-- what is left of a comprehension, acc made so far -/
def lcK (env : Ve) (f : Tf) (cd ce : Ex) (acc ds : List D) (T : Tp) : Res D := (lcL env f cd ce ds T).bind fun xs T => if (acc ++ xs).length ≤ sizeLine then .ok (.lst (acc ++ xs)) T else .no
theorem lcK_cons {env env1 : Ve} {f : Tf} {acc ds : List D} {d : D} (h : f d env = some env1) : lcK env f cd ce acc (d :: ds) T = (nxR (cd env1 T)).bind fun b T => match b with
    | .bl true => (nxR (ce env1 T)).bind fun x T => lcK env f cd ce (acc ++ [x]) ds T
    | .bl false => lcK env f cd ce acc ds T
    | _ => .no := by
  unfold lcK
  show Res.bind (match f d env with
    | none => .no
    | some env1 => (nxR (cd env1 T)).bind fun b T => match b with
      | .bl true => (nxR (ce env1 T)).bind fun x T => (lcL env f cd ce ds T).bind fun xs T => .ok (x :: xs) T
      | .bl false => lcL env f cd ce ds T
      | _ => .no) _ = _
  rw [h]
  show Res.bind (Res.bind (nxR (cd env1 T)) fun b T => match b with
      | .bl true => (nxR (ce env1 T)).bind fun x T => (lcL env f cd ce ds T).bind fun xs T => .ok (x :: xs) T
      | .bl false => lcL env f cd ce ds T
      | _ => .no) _ = _
  cases nxR (cd env1 T) with
  | no => rfl
  | ex _ _ => rfl
  | ok b T1 =>
    cases b with
    | bl bb =>
      cases bb with
      | false => rfl
      | true =>
        show Res.bind (Res.bind (nxR (ce env1 T1)) fun x T => (lcL env f cd ce ds T).bind fun xs T => .ok (x :: xs) T) _ = Res.bind (nxR (ce env1 T1)) _
        cases nxR (ce env1 T1) with
        | no => rfl
        | ex _ _ => rfl
        | ok y T2 =>
          show Res.bind (Res.bind (lcL env f cd ce ds T2) fun xs T => .ok (y :: xs) T) _ = Res.bind (lcL env f cd ce ds T2) _
          cases lcL env f cd ce ds T2 with
          | no => rfl
          | ex _ _ => rfl
          | ok xs T3 =>
            show (if (acc ++ (y :: xs)).length ≤ sizeLine then Res.ok (D.lst (acc ++ (y :: xs))) T3 else Res.no) = (if ((acc ++ [y]) ++ xs).length ≤ sizeLine then Res.ok (D.lst ((acc ++ [y]) ++ xs)) T3 else Res.no)
            rw [List.append_assoc]
            rfl
    | _ => rfl
theorem lcK_len {env : Ve} {f : Tf} {acc ds : List D} (h : Po X W S m F H O (lcK env f cd ce acc ds T) Q) : acc.length ≤ sizeLine := by
  unfold lcK at h
  cases e : lcL env f cd ce ds T with
  | no => rw [e] at h; exact False.elim h
  | ex x T1 => exact absurd e (lcL_noex ds T x T1)
  | ok xs T1 =>
    rw [e] at h
    have h : Po X W S m F H O (if (acc ++ xs).length ≤ sizeLine then .ok (.lst (acc ++ xs)) T1 else .no) Q := h
    split at h
    · rename_i q
      rw [List.length_append] at q
      omega
    · exact False.elim h
/-- the list that waits is changed -/
theorem R_wait_mut {L : Addr} {acc acc2 : List D} {us : List V} (r : (F.wait .o (.ref L) (.lst acc)).R S T H O) (hl : F.env.length = F.σ.length) (bd : ∀ i, i ∈ S ++ F.xs → i < (F.env ++ F.tms).length) (q : O L → RepL F.g (fz H O) us acc2) : (F.wait .o (.ref L) (.lst acc2)).R S T (upd H L (.lst us)) O ∧ O L := by
  have r : Ev.R F.g (S ++ (F.xs ++ [(F.env ++ F.tms).length])) (F.env ++ (F.tms ++ [some (.lst acc)])) T (F.σ ++ (F.τ ++ [some (.ref L)])) H O := r
  rw [← List.append_assoc, ← List.append_assoc, ← List.append_assoc] at r
  have len0 : (F.env ++ F.tms).length = (F.σ ++ F.τ).length := by
    have := r.len
    rw [List.length_append, List.length_append (as := F.σ ++ F.τ)] at this
    simpa using this
  have ek : ((F.env ++ F.tms) ++ [some (.lst acc)])[(F.env ++ F.tms).length]? = some (some (.lst acc)) := by simp
  have es : ((F.σ ++ F.τ) ++ [some (V.ref L)])[(F.env ++ F.tms).length]? = some (some (V.ref L)) := by rw [len0]; simp
  have mk : (F.env ++ F.tms).length ∈ (S ++ F.xs) ++ [(F.env ++ F.tms).length] := List.mem_append_right _ (List.mem_singleton.mpr rfl)
  obtain ⟨p, b1, b2⟩ := r.own _ _ mk ek
  rw [es] at b1
  cases b1
  have z := Ev.R.mut (o := .lst us) (d := .lst acc2) r mk ek es ⟨us, upd_same, by rw [fz_upd b2.o]; exact q b2.o⟩
  have e2 : ((F.env ++ F.tms) ++ [some (D.lst acc)]).set (F.env ++ F.tms).length (some (.lst acc2)) = (F.env ++ F.tms) ++ [some (.lst acc2)] := by simp
  rw [e2, List.append_assoc, List.append_assoc, List.append_assoc] at z
  exact ⟨z, b2.o⟩
theorem R_wait_at {L : Addr} {acc : List D} (r : (F.wait .o (.ref L) (.lst acc)).R S T H O) : ∃ us, H L = some (.lst us) ∧ RepL F.g (fz H O) us acc := by
  have r : Ev.R F.g (S ++ (F.xs ++ [(F.env ++ F.tms).length])) (F.env ++ (F.tms ++ [some (.lst acc)])) T (F.σ ++ (F.τ ++ [some (.ref L)])) H O := r
  rw [← List.append_assoc, ← List.append_assoc, ← List.append_assoc] at r
  have len0 : (F.env ++ F.tms).length = (F.σ ++ F.τ).length := by
    have := r.len
    rw [List.length_append, List.length_append (as := F.σ ++ F.τ)] at this
    simpa using this
  have ek : ((F.env ++ F.tms) ++ [some (.lst acc)])[(F.env ++ F.tms).length]? = some (some (.lst acc)) := by simp
  have es : ((F.σ ++ F.τ) ++ [some (V.ref L)])[(F.env ++ F.tms).length]? = some (some (V.ref L)) := by rw [len0]; simp
  have mk : (F.env ++ F.tms).length ∈ (S ++ F.xs) ++ [(F.env ++ F.tms).length] := List.mem_append_right _ (List.mem_singleton.mpr rfl)
  obtain ⟨p, b1, b2⟩ := r.own _ _ mk ek
  rw [es] at b1
  cases b1
  exact b2.at_
/-- the walk of a comprehension, whatever is done with its list -/
theorem lc_of {vs is : List Nat} {f : Tf} {it : It_} {wi : TI} {gt : TG} (hvN : ∀ i, i ∈ vs → i < X.N.length) (hvS : ∀ i, i ∈ vs → i ∉ S) (his : ∀ i, i ∈ is → i ∈ vs)
    (sim : ∀ (F : Cf) T H O Rr, Fit X F F.σ → F.R S T H O → PoI X W S F H O (it F.env T) Rr → wi F.σ H Rr)
    (pre : ∀ d env env', f d env = some env' → env'.length = env.length ∧ ∀ j, j ∉ is → env'[j]? = env[j]?)
    (gsim : ∀ (F : Cf) T H O v d env', Fit X F F.σ → F.R S T H O → X.N.length = F.σ.length → Rep F.g (fz H O) v d → f d F.env = some env' →
      ∀ Q : L2.St → Hp → Prop, (∀ σ', σ'.length = F.σ.length → env'.length = F.env.length → (∀ j, j ∉ is → σ'[j]? = F.σ[j]?) → (F.to env' σ').R S T H O → Q σ' H) → gt v F.σ H Q)
    {σ : L2.St} {H : Hp} {Q : VK} (hN : σ.length = X.N.length) (h : tE X W S (lcE vs f it cd ce) .fre σ H Q) : tLc wi gt (tT X W0 S cd) (tE X W0 S ce .fro) vs σ H Q := by
  obtain ⟨F, T, O, ft, r, p⟩ := h
  have es := ft.s
  subst es
  refine sim F T H O _ ft r ?_
  have p : Po X W S .fre F H O ((it F.env T).bind fun ds T => (lcL (wipeE F.env vs) f cd ce ds T).bind fun xs T => if xs.length ≤ sizeLine then .ok (.lst xs) T else .no) Q := p
  cases ei : it F.env T with
  | no => rw [ei] at p; exact p
  | ex x T1 => rw [ei] at p; exact p
  | ok ds T1 =>
    rw [ei] at p
    have p : Po X W S .fre F H O (lcK (wipeE F.env vs) f cd ce [] ds T1) Q := p
    intro J H1 O1 ws dvs r1 l1 q1 sm L hL
    have p := Po.le p l1
    have hl : ws.length = dvs.length := q1.len
    have hlE := ft.l
    have vE : ∀ i, i ∈ vs → i < F.env.length := fun i hi => by have := hvN i hi; omega
    have vσ : ∀ i, i ∈ vs → i < F.σ.length := fun i hi => by have := hvN i hi; omega
    -- the frame of the block
    obtain ⟨G, eG⟩ : ∃ G : Cf, G = (F.to (wipeE F.env vs) (wipe F.σ vs)).more ws dvs := ⟨_, rfl⟩
    have gE : G.env = wipeE F.env vs := by rw [eG]; rfl
    have gS : G.σ = wipe F.σ vs := by rw [eG]; rfl
    have gg : G.g = F.g := by rw [eG]; rfl
    have glE : G.env.length = F.env.length := by rw [gE, wipeE_length]
    have glS : G.σ.length = F.σ.length := by rw [gS, wipe_length]
    have fG : Fit X G G.σ := ⟨rfl, by rw [gg]; exact ft.k, by rw [gg]; exact ft.w, by rw [glE, glS]; exact ft.l, by rw [glE, eG]; exact ft.x⟩
    have rG0 : G.R S T1 H1 O1 := by
      have z := R.wipes (R_more r1 q1) vs
      have z : Ev.R F.g (S ++ F.xs) (wipeE (F.env ++ (F.tms ++ dvs.map some)) vs) T1 (wipe (F.σ ++ (F.τ ++ ws.map some)) vs) H1 O1 := z
      rw [wipe_app vE, wipe_appS vσ] at z
      rw [eG]
      exact z
    have gx : G.xs = F.xs := by rw [eG]; rfl
    have bdG : ∀ i, i ∈ S ++ G.xs → i < (G.env ++ G.tms).length := rG0.bd
    -- the new list waits
    have start : (G.wait .o (.ref L) (.lst [])).R S T1 (upd H1 L (.lst [])) (fun a => O1 a ∨ a = L) ∧ Le (fz H1 O1) (fz (upd H1 L (.lst [])) (fun a => O1 a ∨ a = L)) := by
      obtain ⟨a, b⟩ := R.newOwn rG0 (.lst []) hL
      have np := R.npt rG0 hL
      have z := R_wait (F := G) (o := .o) (v := .ref L) (d := .lst []) a ⟨L, rfl, ⟨.inr rfl, R.h0new rG0 hL np, np, [], upd_same, .nil⟩, fun i d' hi he => R.slot_ne rG0 hL hi he⟩
      exact ⟨z, b⟩
    refine ⟨fun i m H2 => m = ds.length - i ∧ i ≤ ds.length ∧ ∃ T2 O2 acc, (G.wait .o (.ref L) (.lst acc)).R S T2 H2 O2 ∧ Le (fz H1 O1) (fz H2 O2) ∧ Po X W S .fre F H1 O1 (lcK (wipeE F.env vs) f cd ce acc (ds.drop i) T2) Q,
      ⟨ds.length - 0, rfl, Nat.zero_le _, T1, _, [], start.1, start.2, by rw [List.drop_zero]; exact p⟩, ?_⟩
    rintro i m H2 ⟨em, hi, T2, O2, acc, r2, l2, p2⟩
    by_cases hlt : i < ds.length
    · obtain ⟨go, yl⟩ := (sm H2 O2 r2.oin (q1.le l2) i).1 hlt
      refine .inr ⟨go, fun H3 => i + 1 ≤ ds.length ∧ ∃ T2 O2 acc, (G.wait .o (.ref L) (.lst acc)).R S T2 H3 O2 ∧ Le (fz H1 O1) (fz H3 O2) ∧ Po X W S .fre F H1 O1 (lcK (wipeE F.env vs) f cd ce acc (ds.drop (i + 1)) T2) Q, fun H3 h3 => ⟨ds.length - (i + 1), by omega, rfl, h3.1, h3.2⟩, fun x H3 y => ?_⟩
      obtain ⟨d, ed, alt⟩ := yl x H3 y
      have edrop : ds.drop i = d :: ds.drop (i + 1) := by
        rw [List.drop_eq_getElem_cons hlt]
        rw [List.getElem?_eq_getElem hlt] at ed
        cases ed; rfl
      rw [edrop] at p2
      cases e1 : f d (wipeE F.env vs) with
      | none =>
        unfold lcK lcL at p2
        rw [e1] at p2
        exact False.elim p2
      | some env1 =>
        rw [lcK_cons e1] at p2
        obtain ⟨pl, pk⟩ := pre d _ env1 e1
        have main : ∀ H3, (G.wait .o (.ref L) (.lst acc)).R S T2 H3 O2 → Le (fz H1 O1) (fz H3 O2) → Rep F.g (fz H3 O2) x d → gt x (wipe F.σ vs) H3 fun σ2 H2 => wipe σ2 vs = wipe F.σ vs ∧ tT X W0 S cd σ2 H2 fun b H3 =>
            if b = true then tE X W0 S ce .fro σ2 H3 fun y H4 => ∃ acc, H4 L = some (.lst acc) ∧ acc.length < sizeLine ∧ (i + 1 ≤ ds.length ∧ ∃ T2 O2 acc_1, (G.wait .o (.ref L) (.lst acc_1)).R S T2 (upd H4 L (.lst (acc ++ [y]))) O2 ∧ Le (fz H1 O1) (fz (upd H4 L (.lst (acc ++ [y]))) O2) ∧ Po X W S .fre F H1 O1 (lcK (wipeE F.env vs) f cd ce acc_1 (ds.drop (i + 1)) T2) Q)
            else (i + 1 ≤ ds.length ∧ ∃ T2 O2 acc, (G.wait .o (.ref L) (.lst acc)).R S T2 H3 O2 ∧ Le (fz H1 O1) (fz H3 O2) ∧ Po X W S .fre F H1 O1 (lcK (wipeE F.env vs) f cd ce acc (ds.drop (i + 1)) T2) Q) := fun H3 r3 l3 qx => by
          have fGw : Fit X (G.wait .o (.ref L) (.lst acc)) (G.wait .o (.ref L) (.lst acc)).σ := fG.wait
          have ge := gsim (G.wait .o (.ref L) (.lst acc)) T2 H3 O2 x d env1 fGw r3 (by show X.N.length = G.σ.length; rw [glS, hN]) (by show Rep G.g _ _ _; rw [gg]; exact qx) (by show f d G.env = _; rw [gE]; exact e1)
          have ge := ge (fun σ2 H2 => wipe σ2 vs = wipe F.σ vs ∧ tT X W0 S cd σ2 H2 fun b H3 =>
            if b = true then tE X W0 S ce .fro σ2 H3 fun y H4 => ∃ acc, H4 L = some (.lst acc) ∧ acc.length < sizeLine ∧ (i + 1 ≤ ds.length ∧ ∃ T2 O2 acc_1, (G.wait .o (.ref L) (.lst acc_1)).R S T2 (upd H4 L (.lst (acc ++ [y]))) O2 ∧ Le (fz H1 O1) (fz (upd H4 L (.lst (acc ++ [y]))) O2) ∧ Po X W S .fre F H1 O1 (lcK (wipeE F.env vs) f cd ce acc_1 (ds.drop (i + 1)) T2) Q)
            else (i + 1 ≤ ds.length ∧ ∃ T2 O2 acc, (G.wait .o (.ref L) (.lst acc)).R S T2 H3 O2 ∧ Le (fz H1 O1) (fz H3 O2) ∧ Po X W S .fre F H1 O1 (lcK (wipeE F.env vs) f cd ce acc (ds.drop (i + 1)) T2) Q))
          have gsig : (G.wait .o (.ref L) (.lst acc)).σ = wipe F.σ vs := gS
          rw [gsig] at ge
          refine ge fun σ2 b1 b2 b3 r4 => ?_
          have b1 : σ2.length = (wipe F.σ vs).length := b1
          have b1' : σ2.length = F.σ.length := by rw [b1, wipe_length]
          have b2' : env1.length = F.env.length := by rw [pl, wipeE_length]
          have ws2 : wipe σ2 vs = wipe F.σ vs := wipe_same his b1' (fun j hj => b3 j hj)
          have we1 : wipeE env1 vs = wipeE F.env vs := wipe_sameE his b2' pk
          refine ⟨ws2, ?_⟩
          -- the frame of the turn
          obtain ⟨K1, eK⟩ : ∃ K1 : Cf, K1 = (G.to env1 σ2) := ⟨_, rfl⟩
          have r4 : (K1.wait .o (.ref L) (.lst acc)).R S T2 H3 O2 := by
            rw [eK, ← wait_to (F := G) (by rw [b2', glE])]
            exact r4
          have fK : Fit X (K1.wait .o (.ref L) (.lst acc)) σ2 := by
            have z : Fit X K1 σ2 := by
              rw [eK]
              exact fG.to (by rw [b1', glS]) (by rw [b2', glE])
            exact z.wait
          have kE : K1.env = env1 := by rw [eK]; rfl
          have kS : K1.σ = σ2 := by rw [eK]; rfl
          have kg : K1.g = F.g := by rw [eK]; exact gg
          have bdK : ∀ i, i ∈ S ++ K1.xs → i < (K1.env ++ K1.tms).length := fun i hi => by
            have z := bdG i (by rw [eK] at hi; exact hi)
            rw [List.length_append] at z ⊢
            rw [kE, b2', ← glE]
            rw [eK]
            exact z
          -- back to the block's frame
          have back : ∀ {T : Tp} {H : Hp} {O : Addr → Prop} {acc : List D}, (K1.wait .o (.ref L) (.lst acc)).R S T H O → (G.wait .o (.ref L) (.lst acc)).R S T H O := fun {T H O acc} q => by
            have z := R.wipes q vs
            have e1 : wipeE ((K1.wait .o (.ref L) (.lst acc)).env ++ (K1.wait .o (.ref L) (.lst acc)).tms) vs = G.env ++ (K1.wait .o (.ref L) (.lst acc)).tms := by
              rw [wipe_app fun i hi => by show i < K1.env.length; rw [kE, b2']; exact vE i hi]
              show wipeE K1.env vs ++ _ = _
              rw [kE, we1, gE]
            have e2 : wipe ((K1.wait .o (.ref L) (.lst acc)).σ ++ (K1.wait .o (.ref L) (.lst acc)).τ) vs = G.σ ++ (K1.wait .o (.ref L) (.lst acc)).τ := by
              rw [wipe_appS fun i hi => by show i < K1.σ.length; rw [kS, b1']; exact vσ i hi]
              show wipe K1.σ vs ++ _ = _
              rw [kS, ws2, gS]
            rw [e1, e2] at z
            have e3 : (K1.wait .o (.ref L) (.lst acc)).xs = (G.wait .o (.ref L) (.lst acc)).xs := by
              rw [eK]
              show G.xs ++ [(env1 ++ G.tms).length] = G.xs ++ [(G.env ++ G.tms).length]
              rw [List.length_append, List.length_append, b2', glE]
            rw [e3] at z
            rw [eK] at z
            exact z
          have p2 : Po X W S .fre F H1 O1 ((nxR (cd env1 T2)).bind fun b T => match b with
            | .bl true => (nxR (ce env1 T)).bind fun x T => lcK (wipeE F.env vs) f cd ce (acc ++ [x]) (ds.drop (i + 1)) T
            | .bl false => lcK (wipeE F.env vs) f cd ce acc (ds.drop (i + 1)) T
            | _ => .no) Q := p2
          refine ⟨K1.wait .o (.ref L) (.lst acc), T2, O2, fK, r4, ?_⟩
          show Po X W0 S .fro (K1.wait .o (.ref L) (.lst acc)) H3 O2 (cd K1.env T2) _
          rw [kE]
          cases ec : cd env1 T2 with
          | no => rw [ec] at p2; exact False.elim p2
          | ex _ _ => rw [ec] at p2; exact False.elim p2
          | ok b T3 =>
            rw [ec] at p2
            intro vb H4 O4 r5 l5 qb
            cases b with
            | bl bb =>
              have eb : vb = .bl bb := by cases qb; rfl
              refine ⟨bb, eb, ?_⟩
              cases bb with
              | false =>
                rw [if_neg Bool.false_ne_true]
                exact ⟨hlt, T3, O4, acc, back r5, l3.trans l5, p2⟩
              | true =>
                rw [if_pos rfl]
                have p2 : Po X W S .fre F H1 O1 ((nxR (ce env1 T3)).bind fun x T => lcK (wipeE F.env vs) f cd ce (acc ++ [x]) (ds.drop (i + 1)) T) Q := p2
                refine ⟨K1.wait .o (.ref L) (.lst acc), T3, O4, fK, r5, ?_⟩
                show Po X W0 S .fro (K1.wait .o (.ref L) (.lst acc)) H4 O4 (ce K1.env T3) _
                rw [kE]
                cases ee : ce env1 T3 with
                | no => rw [ee] at p2; exact False.elim p2
                | ex _ _ => rw [ee] at p2; exact False.elim p2
                | ok xd T4 =>
                  rw [ee] at p2
                  have p2 : Po X W S .fre F H1 O1 (lcK (wipeE F.env vs) f cd ce (acc ++ [xd]) (ds.drop (i + 1)) T4) Q := p2
                  intro xv H5 O5 r6 l6 qx2
                  obtain ⟨us, u1, u2⟩ := R_wait_at r6
                  have hsz := lcK_len p2
                  rw [List.length_append] at hsz
                  have hsz : acc.length + 1 ≤ sizeLine := hsz
                  refine ⟨us, u1, by rw [u2.len]; omega, hlt, ?_⟩
                  have qx2 : Rep K1.g (fz H5 O5) xv xd := qx2
                  obtain ⟨r7, oL⟩ := R_wait_mut (acc2 := acc ++ [xd]) (us := us ++ [xv]) r6 (by rw [kE, kS, b2', b1', hlE]) bdK fun _ => u2.append (.cons qx2 .nil)
                  refine ⟨T4, O5, acc ++ [xd], back r7, ?_, p2⟩
                  have ef : fz (upd H5 L (.lst (us ++ [xv]))) O5 = fz H5 O5 := fz_upd oL
                  rw [ef]
                  exact (l3.trans l5).trans l6
            | _ => exact False.elim p2
        rcases alt with ⟨eh, qx⟩ | ⟨pp, o, np, eh, qx⟩
        · subst eh
          exact main H3 r2 l2 qx
        · subst eh
          obtain ⟨ra, la, _⟩ := R.new r2 o np
          exact main _ ra (l2.trans la) qx
    · have ei : i = ds.length := by omega
      refine .inl ⟨(sm H2 O2 r2.oin (q1.le l2) i).2 ei, ?_⟩
      rw [ei, List.drop_length] at p2
      have hacc := lcK_len p2
      have p2 : Po X W S .fre F H1 O1 (if (acc ++ []).length ≤ sizeLine then .ok (.lst (acc ++ [])) T2 else .no) Q := p2
      rw [List.append_nil, if_pos hacc] at p2
      -- the list goes out of the waiting place
      have r3 : Ev.R G.g ((S ++ G.xs) ++ [(G.env ++ G.tms).length]) ((G.env ++ G.tms) ++ [some (.lst acc)]) T2 ((G.σ ++ G.τ) ++ [some (.ref L)]) H2 O2 := by
        have z : Ev.R G.g (S ++ (G.xs ++ [(G.env ++ G.tms).length])) (G.env ++ (G.tms ++ [some (.lst acc)])) T2 (G.σ ++ (G.τ ++ [some (.ref L)])) H2 O2 := r2
        rw [← List.append_assoc, ← List.append_assoc, ← List.append_assoc] at z
        exact z
      obtain ⟨r4, pL, ep, ow, ne⟩ := R.popO r3 bdG
      cases ep
      have r5 : ((F.to (wipeE F.env vs) (wipe F.σ vs)).more ws dvs).R S T2 H2 O2 := by rw [← eG]; exact r4
      have r6 : (F.to (wipeE F.env vs) (wipe F.σ vs)).R S T2 H2 O2 := R_less hl r5 fun i hi => by
        have z := r1.bd i hi
        rw [List.length_append] at z ⊢
        show i < (wipeE F.env vs).length + F.tms.length
        rw [wipeE_length]; exact z
      have outS : ∀ i, i ∈ S ++ F.xs → i ∉ vs := fun i hi hv => by
        rcases List.mem_append.mp hi with z | z
        · exact hvS i hv z
        · have := ft.x i z
          have := vE i hv
          omega
      have r7 : F.R S T2 H2 O2 := by
        have z : Ev.R F.g (S ++ F.xs) (wipeE F.env vs ++ F.tms) T2 (wipe F.σ vs ++ F.τ) H2 O2 := r6
        rw [← wipe_app vE, ← wipe_appS vσ] at z
        refine R.unwipes z (fun i hi hS => outS i hS hi) fun i d hi hd => ?_
        obtain ⟨v, a1, a2⟩ := r1.fro i d (fun hS => outS i hS hi) hd
        exact ⟨v, a1, a2.le l2⟩
      refine p2 _ H2 O2 r7 l2 ⟨L, rfl, by rw [← gg]; exact ow, fun j d' hj hd => ?_⟩
      have nv := outS j hj
      have hj2 : j < (F.env ++ F.tms).length := r1.bd j hj
      have gtm : G.tms = F.tms ++ dvs.map some := by rw [eG]; rfl
      have gta : G.τ = F.τ ++ ws.map some := by rw [eG]; rfl
      have lenFT : (F.env ++ F.tms).length = (F.σ ++ F.τ).length := r1.len
      have a1 : (G.env ++ G.tms)[j]? = some (some d') := by
        rw [gE, gtm, ← List.append_assoc, ← wipe_app vE, List.getElem?_append_left (by rw [wipeE_length]; exact hj2), wipeE_out nv]
        exact hd
      have a2 : (G.σ ++ G.τ)[j]? = (F.σ ++ F.τ)[j]? := by
        rw [gS, gta, ← List.append_assoc, ← wipe_appS vσ, List.getElem?_append_left (by rw [wipe_length]; omega), wipe_out nv]
      rw [← a2]
      exact ne j d' (by rw [gx]; exact hj) a1
theorem se_lc {scope : Scope} {own : List (Str × Nat)} {is : List Nat} {pos : Pos} {f : Tf} {it : It_} {gt : TG} (hc : X.calm = true) (hN : X.N.Nodup) (hi : SI X W S tg iter it) (ok : BlkOk X.N X.env.scope scope own)
    (hg : ∀ (s : Shared) (H : Hp) (C : Addr) (cl : List (Str × Addr)) (fp : List Addr), SG (X.blk s H scope (compEnvC scope cl C X.env) fp) S is tg f gt) (ht : ∀ (s : Shared) (H : Hp) (C : Addr) (cl : List (Str × Addr)) (fp : List Addr), STs (X.blk s H scope (compEnvC scope cl C X.env) fp) W0 S ifs cd)
    (he : ∀ (s : Shared) (H : Hp) (C : Addr) (cl : List (Str × Addr)) (fp : List Addr), SE (X.blk s H scope (compEnvC scope cl C X.env) fp) W0 S e ce .fro) (hvS : ∀ i, i ∈ own.map (·.2) → i ∉ S := by decide) (his : ∀ i, i ∈ is → i ∈ own.map (·.2) := by decide) (n : Nat) (hn : X.N.length = n := by rfl) (hvN : ∀ i, i ∈ own.map (·.2) → i < n := by decide) (hs : ∀ x, foldedSetIterable iter X.env x = pure x := by intro _; rfl) :
    SE X W S (.ListComp e [⟨tg, iter, ifs, 0⟩] scope pos) (lcE (own.map (·.2)) f it cd ce) .fre := by
  obtain ⟨wi, pi, sim⟩ := hi.ex
  have s0 : Shared := {}
  refine ⟨⟨fun pins s σ H Q I h => (pe_lc (tt := tT X W0 S cd) (te := tE X W0 S ce .fro) hc hN pi ok (fun s H C cl fp => (hg s H C cl fp).pg) (fun s H C cl fp => (ht s H C cl fp).pt) (fun s H C cl fp => (he s H C cl fp).pe) hs).run pins s σ H Q I ?_⟩⟩
  exact lc_of (fun i hi => by rw [hn]; exact hvN i hi) hvS his sim (hg s H 0 [] []).pre (hg s H 0 [] []).sim I.len h
/-- name = [..] -/
theorem ss_setLc {i : Nat} {y : Str} {py spos : Pos} {scope : Scope} {own : List (Str × Nat)} {is : List Nat} {pos : Pos} {f : Tf} {it : It_} {gt : TG} (hc : X.calm = true) (hN : X.N.Nodup) (hy : X.N[i]? = some y) (hyl : X.env.scope.names.lookup y = some .local)
    (hsw : swapsWith (.ListComp e [⟨tg, iter, ifs, 0⟩] scope pos) (some (.Name y py)) spos.line X.env = pure true) (hi : SI X W S tg iter it) (ok : BlkOk X.N X.env.scope scope own)
    (hg : ∀ (s : Shared) (H : Hp) (C : Addr) (cl : List (Str × Addr)) (fp : List Addr), SG (X.blk s H scope (compEnvC scope cl C X.env) fp) S is tg f gt) (ht : ∀ (s : Shared) (H : Hp) (C : Addr) (cl : List (Str × Addr)) (fp : List Addr), STs (X.blk s H scope (compEnvC scope cl C X.env) fp) W0 S ifs cd)
    (he : ∀ (s : Shared) (H : Hp) (C : Addr) (cl : List (Str × Addr)) (fp : List Addr), SE (X.blk s H scope (compEnvC scope cl C X.env) fp) W0 S e ce .fro) (hvS : ∀ i, i ∈ own.map (·.2) → i ∉ S := by decide) (his : ∀ i, i ∈ is → i ∈ own.map (·.2) := by decide) (n : Nat) (hn : X.N.length = n := by rfl) (hvN : ∀ i, i ∈ own.map (·.2) → i < n := by decide) (hS : ∀ j, j ∈ S' → j ∈ i :: S := by decide) (hs : ∀ x, foldedSetIterable iter X.env x = pure x := by intro _; rfl) :
    SS X W S S' Sl fr (.Assign [.Name y py] (.ListComp e [⟨tg, iter, ifs, 0⟩] scope pos) spos) (setS i (lcE (own.map (·.2)) f it cd ce)) := by
  obtain ⟨wi, pi, sim⟩ := hi.ex
  refine ⟨⟨fun pins s σ H D I h => (ps_setLc (tt := tT X W0 S cd) (te := tE X W0 S ce .fro) hc hN hy hyl hsw pi ok (fun s H C cl fp => (hg s H C cl fp).pg) (fun s H C cl fp => (ht s H C cl fp).pt) (fun s H C cl fp => (he s H C cl fp).pe) hs).run pins s σ H D I ?_⟩⟩
  have hNl := I.len
  refine lc_of (S := S) (fun i hi => by rw [hn]; exact hvN i hi) hvS his sim (hg s H 0 [] []).pre (hg s H 0 [] []).sim hNl ?_
  obtain ⟨F, T, O, ft, r, p⟩ := h
  have hil : i < F.env.length := by
    rcases Nat.lt_or_ge i X.N.length with z | z
    · rw [ft.l, ft.s, hNl]; exact z
    · rw [List.getElem?_eq_none z] at hy; cases hy
  refine tE_bindS ft r p fun d T1 v H1 O1 r1 ⟨a, ea, ow, ne⟩ p1 => ?_
  subst ea
  have z := R.setO r1 (i := i) (by rw [List.length_append]; omega) ow ne
  have hl := ft.l
  rw [List.set_append_left _ _ hil, List.set_append_left _ _ (by omega)] at z
  obtain ⟨O2, r2, _⟩ := Cf.R.sub (F := F.to (F.env.set i (some d)) (F.σ.set i (some (V.ref a)))) (S := i :: S) z hS
  have z := p1 (F.σ.set i (some (V.ref a))) H1 O2 (List.length_set ..) (List.length_set ..) r2
  rw [ft.s] at z
  exact z
end
theorem relI {i : Int} {t : Tok} : RelV (.int i) (.int i t) := ⟨t, rfl⟩
theorem relS' {i : Str} {t : Tok} : RelV (.str i) (.str i t) := ⟨t, rfl⟩
end Ev

/-! Ev: a def keeps its promise; the law -/
namespace Ev
open PySem PySem.Spec PyProof.Rows L2

/-- a def's meaning from its body's -/
def fnD (fr : Bool) (n N : Nat) (b : Sx) : List D → Tp → Res D := fun ds T => if ds.length = n then match b (ds.map some ++ List.replicate (N - n) none) T with
  | .nx _ T => if fr then .no else .ok .non T
  | .rt d T => .ok d T
  | .ex x _ T => .ex x T
  | _ => .no
  else .no
structure Def0 (K : PySem.W.Frag) (mg : Str → Option Value) (x : Str) (st : Stmt) (ps : List Str) : Prop where
  ex : ∃ f fd, Fun K x x st f fd ∧ mg x = some (.ref f) ∧ Binds K fd ps []
section
variable {P : Program} {w : World} {K : PySem.W.Frag} {mg : Str → Option Value} {base : Heap} {x : Str} {st : Stmt} {ps N : List Str} {fr : Bool} {b : Sx} {S' : List Nat} {k : Nat}
theorem R_start {pt : Option Addr} {O : Addr → Prop} {H : Hp} {ds : List D} {vs : List V} {T : Tp} {n : Nat} (h1 : ∀ a, O a → H a ≠ none) (h2 : TapeOk (gOf K w pt H O) T H O) (h3 : RepL (gOf K w pt H O) (fz H O) vs ds) :
    R (gOf K w pt H O) [] (ds.map some ++ List.replicate n none) T (vs.map some ++ List.replicate n none) H O := by
  have hl := h3.len
  refine ⟨h1, h1, fun a h => h, fun a h => .inl h, Ext.refl _ _, by simp [hl], fun i h => (by cases h), h2, fun i d _ h => ?_, fun i d h => (by cases h), fun i j d d' p h => (by cases h)⟩
  have hi : i < ds.length := by
    rcases Nat.lt_or_ge i ds.length with z | z
    · exact z
    · rw [List.getElem?_append_right (by simpa using z), List.getElem?_replicate] at h
      split at h <;> cases h
  rw [List.getElem?_append_left (by simpa using hi), List.getElem?_map] at h
  cases e : ds[i]? with
  | none => rw [e] at h; cases h
  | some d' =>
    rw [e] at h
    cases h
    obtain ⟨v, a1, a2⟩ := h3.get e
    refine ⟨v, ?_, a2⟩
    rw [List.getElem?_append_left (by simp; omega), List.getElem?_map, a1]
    rfl
theorem TapeOk.down {g : Gh} {T T0 : Tp} {H H' : Hp} {O O' : Addr → Prop} (h0 : TapeOk g T0 H O) (h : TapeOk g T H' O') (hs : ∀ a, O a → O' a) : TapeOk g T H' O := by
  have l : Le (fz H' O') (fz H' O) := fz_mono fun a o n h => ⟨fun q => n (hs a q), h⟩
  refine ⟨?_, fun p hp => ?_⟩
  · rcases h.1 with h | ⟨p, ts, vs, e1, e2, o, a, b⟩
    · exact .inl h
    · exact .inr ⟨p, ts, vs, e1, e2, (h0.some e1).1, a, b.le l⟩
  · obtain ⟨_, ps, a, b⟩ := h.2 p hp
    exact ⟨(h0.2 p hp).1, ps, a, b.le l⟩
theorem cal_of (G : Def0 K mg x st ps) (Sc : FnScope N ps (defScope st))
    (body : ∀ (f : Addr) (cdv : Value) (A : Around) (outer : List Env) (s : Shared) (H : Hp) (E : XK), RoomG k (A.deeper (envOfC x (defScope st) s.heap.objs.size f cdv)) →
      SSs (cxOf (L2.CX P w) P w K mg base N x (defScope st) f cdv A outer s H E) (fun cls d _ H => E cls d H) [] S' [] fr (defBody st) b) :
    Cal P w K mg base x (fnD fr ps.length N.length b) fr (k + 1) := by
  obtain ⟨f, fd, FU, hm, hb⟩ := G.ex
  refine ⟨f, fd, ps, ?_, hm, FU.kp, hb⟩
  refine okXG FU Sc (fun vs H Q E h => ?_) (fun cdv A outer s H vs Q E hr h => ?_)
  · obtain ⟨pt, O, ds, T, h1, h2, h3, h4⟩ := h
    rw [h3.len]
    unfold fnD at h4
    by_cases q : ds.length = ps.length
    · exact q
    · rw [if_neg q] at h4; exact False.elim h4
  · obtain ⟨pt, O, ds, T, h1, h2, h3, h4⟩ := h
    have hl : ds.length = ps.length := by
      unfold fnD at h4
      by_cases q : ds.length = ps.length
      · exact q
      · rw [if_neg q] at h4; exact False.elim h4
    have hps : ps.length ≤ N.length := by
      have z := congrArg List.length Sc.pre
      rw [List.length_take] at z
      omega
    refine ⟨_, (body f cdv A outer s H E hr).ps, ⟨gOf K w pt H O, ds.map some ++ List.replicate (N.length - ps.length) none, [], start N vs, [], []⟩, T, O, ⟨rfl, rfl, rfl, ?_, fun i h => by cases h⟩, ?_, ?_⟩
    · show (ds.map some ++ List.replicate (N.length - ps.length) none).length = (start N vs).length
      unfold L2.start
      simp [h3.len, hl]
    · show R (gOf K w pt H O) ([] ++ []) ((ds.map some ++ List.replicate (N.length - ps.length) none) ++ []) T (start N vs ++ []) H O
      rw [List.append_nil, List.append_nil, List.append_nil]
      unfold L2.start
      rw [h3.len, hl]
      exact R_start h1 h2 h3
    · unfold fnD at h4
      rw [if_pos hl] at h4
      show PoS _ _ S' [] fr _ (b (ds.map some ++ List.replicate (N.length - ps.length) none) T) _
      cases eb : b (ds.map some ++ List.replicate (N.length - ps.length) none) T with
      | no => rw [eb] at h4; exact h4
      | bk _ _ => rw [eb] at h4; exact False.elim h4
      | ct _ _ => rw [eb] at h4; exact False.elim h4
      | nx env T2 =>
        rw [eb] at h4
        intro σ2 H2 O2 a1 a2 r
        cases fr with
        | true => exact False.elim h4
        | false =>
          exact h4 H2 .non r.ext ⟨h2.down r.tape r.o0, .non⟩
      | rt d T2 =>
        rw [eb] at h4
        intro v H2 O2 re rt
        have l : Le (fz H2 O2) (fz H2 O) := fz_mono fun a o n h => ⟨fun q => n (re.o0 a q), h⟩
        cases fr with
        | false => exact h4 H2 v re.ext ⟨h2.down re.tape re.o0, Rep.le l rt⟩
        | true =>
          obtain ⟨p, ev, ow⟩ := rt
          have l2 : Le (fz H2 O2) (fz H2 fun a => O a ∨ a = p) := fz_mono fun a o n h => ⟨fun q => by
            rcases q with q | q
            · exact n (re.o0 a q)
            · exact n (by rw [q]; exact ow.o), h⟩
          refine h4 H2 v re.ext ⟨p, ev, ow.new, ?_, ow.at_.of rfl l2⟩
          exact re.tape.of (fun q e o => ⟨.inl (h2.mutO e), rfl⟩) l2
      | ex y env T2 =>
        rw [eb] at h4
        intro σ2 H2 O2 a1 a2 r
        exact h4 H2 r.ext (h2.down r.tape r.o0)
/-! ### the law -/
mutual
theorem Rep.pt0 {g g' : Gh} {H : Hp} (h0 : g.pt = none) (h1 : g'.K = g.K) (h2 : g'.w = g.w) {v : V} {d : D} : Rep g H v d → Rep g' H v d
  | .non => .non
  | .bl b => .bl b
  | .int i => .int i
  | .str x => .str x
  | .tup h r => .tup (by rw [h1]; exact h) (RepL.pt0 h0 h1 h2 r)
  | .lst h r => .lst h (RepL.pt0 h0 h1 h2 r)
  | .scr h r => .scr (by rw [h1]; exact h) (RepL.pt0 h0 h1 h2 r)
  | .dct h q r => .dct h (by rw [h2]; exact q) (RepL.pt0 h0 h1 h2 r)
  | .tape h => by rw [h0] at h; cases h
  | .pin h => .pin h
  | .prm h => .prm h
  | .fnc h => .fnc (by rw [h1]; exact h)
theorem RepL.pt0 {g g' : Gh} {H : Hp} (h0 : g.pt = none) (h1 : g'.K = g.K) (h2 : g'.w = g.w) {vs : List V} {ds : List D} : RepL g H vs ds → RepL g' H vs ds
  | .nil => .nil
  | .cons h r => .cons (Rep.pt0 h0 h1 h2 h) (RepL.pt0 h0 h1 h2 r)
end
/-- a run of the law's body behind «hand = f(script)» -/
def lawRun (f : List D → Tp → Res D) (b : Sx) (N : Nat) (ns : List Int) : SR := match f [.scr (ns.map .int)] none with
  | .ok (.lst ts) none => b (some (.scr (ns.map .int)) :: some .tape :: List.replicate (N - 2) none) (some ts)
  | _ => .no
/-- the tables' places -/
def tbO : Addr → Prop := fun a => ∃ q, (a, q) ∈ TBL
def Tb0 (H : Hp) : Prop := ∀ p ∈ TBL, H p.1 = some (.tbl #[])
theorem tbl0 {H : Hp} (h : Tb0 H) : TblOk H tbO := fun p hp => ⟨⟨p.2, hp⟩, #[], h p hp, True.intro, fun pos cv hc => by
  have z : codeAmong pos [] = some cv := hc
  simp [codeAmong] at z⟩
theorem sq_tb {K : PySem.W.Frag} {H : Hp} {a : Addr} {xs : List V} (h : Tb0 H) (s : SqL K H a xs) : SqL K (fz H tbO) a xs := by
  have no : ∀ u, H a = some u → (∀ ps, u ≠ .tbl ps) → fz H tbO a = some u := fun u e n => by
    rw [fz_out fun ⟨q, hq⟩ => (by
      have z := h _ hq
      rw [e] at z
      exact n _ (Option.some.inj z))]
    exact e
  rcases s with (s | ⟨o, s⟩) | s
  · exact .inl (.inl (no _ s fun ps z => by cases z))
  · exact .inl (.inr ⟨o, no _ s fun ps z => by cases z⟩)
  · exact .inr s
def spLaw (K : PySem.W.Frag) : Sp := fun vs H Q _ => ∃ (a : Addr) (ns : List Int), vs = [.ref a] ∧ SqL K H a (ns.map V.int) ∧ Tb0 H ∧ ns.length ≤ 63 ∧ ∀ H', Q (.bl true) H'
theorem ints_repL {g : Gh} {H : Hp} : ∀ ns : List Int, RepL g H (ns.map V.int) (ns.map D.int)
  | [] => .nil
  | n :: ns => .cons (.int n) (ints_repL ns)
theorem law_fn {hf : List D → Tp → Res D} {hand fname : Str} {ph pf pa pc pos : Pos} {rest : List Stmt} {f : Addr} {fd : FuncData} {bl : SR → Prop} (F : Fun K x x st f fd) (Sc : FnScope N ["script"] (defScope st)) (hst : defBody st = .Assign [.Name hand ph] (.Call (.Name fname pf) [.Name "script" pa] [] pc) pos :: rest)
    (hN : N[1]? = some hand) (h2N : 2 ≤ N.length) (hmath : ∀ ns : List Int, ns.length ≤ 63 → ∃ T, lawRun hf b N.length ns = .rt (.bl true) T)
    (body : ∀ (cdv : Value) (A : Around) (outer : List Env) (s : Shared) (H : Hp) (E : XK), RoomG k (A.deeper (envOfC x (defScope st) s.heap.objs.size f cdv)) →
      SSs (cxOf (L2.CX P w) P w K mg base N x (defScope st) f cdv A outer s H E) W0 [] S' [] false rest b ∧
      SS (cxOf (L2.CX P w) P w K mg base N x (defScope st) f cdv A outer s H E) W0 [] [1] [] false (.Assign [.Name hand ph] (.Call (.Name fname pf) [.Name "script" pa] [] pc) pos) (setS 1 (callE hf [vE 0]))) :
    FnG P w K mg base (L2.CX P w) (k + 1) f fd ["script"] (spLaw K) := by
  refine okXG F Sc (fun vs H Q E h => ?_) (fun cdv A outer s H vs Q E hr h => ?_)
  · obtain ⟨a, ns, rfl, _⟩ := h
    rfl
  · obtain ⟨a, ns, rfl, hS, hT, hlen, q⟩ := h
    obtain ⟨hrest, hfirst⟩ := body cdv A outer s H E hr
    rw [hst]
    refine ⟨_, pss_cons hfirst.ps hrest.ps, ?_⟩
    have rs : RepL (gOf K w none H tbO) (fz H tbO) [.ref a] [.scr (ns.map .int)] := .cons (.scr (sq_tb hT hS) (ints_repL ns)) .nil
    have r0 := R_start (K := K) (w := w) (T := none) (n := N.length - 1) (H := H) (O := tbO) (fun a ⟨q, hq⟩ => by rw [hT _ hq]; simp) ⟨.inl ⟨rfl, rfl⟩, tbl0 hT⟩ rs
    have hm := hmath ns hlen
    obtain ⟨T, hm⟩ := hm
    unfold lawRun at hm
    refine ⟨⟨gOf K w none H tbO, [some (.scr (ns.map .int))] ++ List.replicate (N.length - 1) none, [], start N [.ref a], [], []⟩, none, tbO, ⟨rfl, rfl, rfl, ?_, fun i h => by cases h⟩, ?_, ?_⟩
    · show ([some (D.scr (ns.map .int))] ++ List.replicate (N.length - 1) none).length = (start N [V.ref a]).length
      unfold L2.start
      simp
    · show R _ ([] ++ []) (([some (D.scr (ns.map .int))] ++ List.replicate (N.length - 1) none) ++ []) none (start N [V.ref a] ++ []) H _
      rw [List.append_nil, List.append_nil, List.append_nil]
      exact r0
    · have ecall : setS 1 (callE hf [vE 0]) ([some (D.scr (ns.map .int))] ++ List.replicate (N.length - 1) none) none = exS (hf [.scr (ns.map .int)] none) ([some (D.scr (ns.map .int))] ++ List.replicate (N.length - 1) none) (fun d T => .nx (([some (D.scr (ns.map .int))] ++ List.replicate (N.length - 1) none).set 1 (some d)) T) := rfl
      show PoS _ W0 [1] [] false _ (setS 1 (callE hf [vE 0]) ([some (D.scr (ns.map .int))] ++ List.replicate (N.length - 1) none) none) _
      rw [ecall]
      split at hm
      · rename_i ts eh
        rw [eh]
        intro σ2 H2 O2 a1 a2 r
        -- the tape is born
        have r : R (gOf K w none H tbO) ([1] ++ []) ((([some (D.scr (ns.map .int))] ++ List.replicate (N.length - 1) none).set 1 (some (.lst ts))) ++ []) none (σ2 ++ []) H2 O2 := r
        rw [List.append_nil, List.append_nil, List.append_nil] at r
        have hrep : List.replicate (N.length - 1) (none : Option D) = none :: List.replicate (N.length - 2) none := by
          rw [show N.length - 1 = (N.length - 2) + 1 by omega, List.replicate_succ]
        have eenv : ([some (D.scr (ns.map .int))] ++ List.replicate (N.length - 1) none).set 1 (some (.lst ts)) = some (.scr (ns.map .int)) :: some (.lst ts) :: List.replicate (N.length - 2) none := by
          rw [hrep]; rfl
        rw [eenv] at r
        obtain ⟨p, b1, b2⟩ := r.own 1 (.lst ts) (by simp) rfl
        obtain ⟨us, c1, c2⟩ := b2.at_
        have r2 : R (gOf K w (some p) H tbO) [] (some (.scr (ns.map .int)) :: some .tape :: List.replicate (N.length - 2) none) (some ts) σ2 H2 O2 := by
          refine ⟨r.oh, r.oin, r.o0, r.o1, fun a o n h => r.ext a o (fun z => n (z.elim (fun z => by cases z) .inr)) h, r.len, fun i h => (by cases h), ⟨.inr ⟨p, ts, us, rfl, rfl, b2.o, c1, RepL.pt0 (g := gOf K w none H tbO) (g' := gOf K w (some p) H tbO) rfl rfl rfl c2⟩, r.tape.2⟩, fun i d _ h => ?_, fun i d h => (by cases h), fun i j d d' p h => (by cases h)⟩
          match i, h with
          | 0, h =>
            obtain ⟨v, d1, d2⟩ := r.fro 0 d (by simp) h
            exact ⟨v, d1, Rep.pt0 (g := gOf K w none H tbO) (g' := gOf K w (some p) H tbO) rfl rfl rfl d2⟩
          | 1, h =>
            cases h
            exact ⟨_, b1, .tape rfl⟩
          | i + 2, h =>
            have h : (List.replicate (N.length - 2) (none : Option D))[i]? = some (some d) := h
            rw [List.getElem?_replicate] at h
            split at h <;> cases h
        refine ⟨⟨gOf K w (some p) H tbO, some (.scr (ns.map .int)) :: some .tape :: List.replicate (N.length - 2) none, [], σ2, [], []⟩, some ts, O2, ⟨rfl, rfl, rfl, r2.len, fun i h => by cases h⟩, ?_, ?_⟩
        · show R _ ([] ++ []) (_ ++ []) (some ts) (σ2 ++ []) H2 O2
          rw [List.append_nil, List.append_nil, List.append_nil]
          exact r2
        · show PoS _ W0 S' [] false _ (b (some (.scr (ns.map .int)) :: some .tape :: List.replicate (N.length - 2) none) (some ts)) _
          rw [hm]
          intro v H3 O3 re rt
          cases rt
          exact q H3
      · cases hm
end
end Ev

/-! Ev: three names at once; in; raise that is never reached; a def that calls itself -/
namespace Ev
open PySem PySem.Spec PyProof.Rows L2
section
variable {X : Cx} {W : WX} {S S1 S2 S' Sl Si : List Nat} {fr : Bool} {e a b tg : Expr} {es : List Expr} {st : Stmt} {sts : List Stmt} {c ca cb cc : Ex} {cs : List Ex} {s s1 s2 : Sx} {m : Mode} {F : Cf} {T T' : Tp} {σ : L2.St} {H H1 : Hp} {O O1 : Addr → Prop} {D' : Ends} {Rr : It → Hp → Prop}
theorem R_unwait {o : Own?} {v : V} {d : D} (r : (F.wait o v d).R S T H O) (bd : ∀ i, i ∈ S ++ F.xs → i < (F.env ++ F.tms).length) : F.R S T H O := by
  cases o with
  | f =>
    have r : Ev.R F.g (S ++ F.xs) (F.env ++ (F.tms ++ [some d])) T (F.σ ++ (F.τ ++ [some v])) H O := r
    rw [← List.append_assoc, ← List.append_assoc] at r
    exact R.pop r bd
  | o =>
    have r : Ev.R F.g (S ++ (F.xs ++ [(F.env ++ F.tms).length])) (F.env ++ (F.tms ++ [some d])) T (F.σ ++ (F.τ ++ [some v])) H O := r
    rw [← List.append_assoc, ← List.append_assoc, ← List.append_assoc] at r
    exact (R.popO r bd).1
theorem bd_S {o : Own?} {i : Nat} {n : Nat} (hi : i < n) (h : ∀ k, k ∈ S ++ F.xs → k < n) : ∀ k, k ∈ o.S i S ++ F.xs → k < n := fun k hk => by
  cases o with
  | f => exact h k hk
  | o =>
    rcases List.mem_cons.mp hk with z | z
    · rw [z]; exact hi
    · exact h k z
def par3S (i j k : Nat) (ca cb cc : Ex) : Sx := fun env T => exS (ca env T) env fun d T => exS (cb env T) env fun e T => exS (cc env T) env fun f T => .nx (((env.set i (some d)).set j (some e)).set k (some f)) T
theorem wait_tms {o : Own?} {v : V} {d : D} : (F.wait o v d).tms.length = F.tms.length + 1 := by
  show (F.tms ++ [some d]).length = _
  simp
/-- what three names at once ask -/
theorem par3_t {x y z : Str} {i j l : Nat} {o1 o2 o3 : Own?} {σ : L2.St} {H : Hp} {D : Ends} (hi : X.N[i]? = some x) (hj : X.N[j]? = some y) (hl : X.N[l]? = some z) (hij : i ≠ j) (hil : i ≠ l) (hjl : j ≠ l) (n1 : o3 = .f → l ∉ S) (n2 : o2 = .f → j ∉ o3.S l S) (n3 : o1 = .f → i ∉ o2.S j (o3.S l S)) (hs : ∀ k, k ∈ S' → k ∈ o1.S i (o2.S j (o3.S l S))) (hNl : σ.length = X.N.length)
    (h : tS X W S S' Sl fr (par3S i j l ca cb cc) D σ H) : tPar3 i j l (tCons (tE X W S ca o1.m) (tCons (tE X W S cb o2.m) (tCons (tE X W S cc o3.m) tNil))) D σ H := by
  obtain ⟨F, T, O, f, r, p⟩ := h
  have inN : ∀ {k : Nat} {z : Str}, X.N[k]? = some z → k < F.env.length := fun {k z} hk => by
    rcases Nat.lt_or_ge k X.N.length with w | w
    · rw [f.l, f.s, hNl]; exact w
    · rw [List.getElem?_eq_none w] at hk; cases hk
  have bd := r.bd
  refine tE_bindS f r p fun d1 T1 v1 H1 O1 r1 q1 p1 => ?_
  have w1 := R_wait r1 q1
  have f1 : Fit X (F.wait o1 v1 d1) σ := f.wait
  have p1 : PoS X W S' Sl fr F (exS (cb F.env T1) F.env fun e T => exS (cc F.env T) F.env fun f T => .nx (((F.env.set i (some d1)).set j (some e)).set l (some f)) T) D := p1
  refine ⟨F.wait o1 v1 d1, T1, O1, f1, w1, ?_⟩
  show Po X W S o2.m (F.wait o1 v1 d1) H1 O1 (cb F.env T1) _
  have bd1 : ∀ k, k ∈ S ++ (F.wait o1 v1 d1).xs → k < ((F.wait o1 v1 d1).env ++ (F.wait o1 v1 d1).tms).length := w1.bd
  have exc : ∀ {x : Str} {T2 : Tp}, PoS X W S' Sl fr F (.ex x F.env T2) D → ∀ H2 O2, (F.wait o1 v1 d1).R S T2 H2 O2 → W (ec X x) none F.σ H2 := fun {x T2} pp H2 O2 r2 => by
    obtain ⟨O3, r3, _⟩ := Cf.R.sub (S' := []) (R_unwait r2 bd) (fun i h => by cases h)
    exact pp F.σ H2 O3 rfl rfl r3
  cases eb : cb F.env T1 with
  | no => rw [eb] at p1; exact p1
  | ex z T2 =>
    rw [eb] at p1
    exact exc p1
  | ok d2 T2 =>
    rw [eb] at p1
    intro v2 H2 O2 r2 l2 q2
    have w2 := R_wait r2 q2
    have f2 : Fit X ((F.wait o1 v1 d1).wait o2 v2 d2) σ := f1.wait
    have p1 : PoS X W S' Sl fr F (exS (cc F.env T2) F.env fun f T => .nx (((F.env.set i (some d1)).set j (some d2)).set l (some f)) T) D := p1
    refine ⟨(F.wait o1 v1 d1).wait o2 v2 d2, T2, O2, f2, w2, ?_⟩
    show Po X W S o3.m ((F.wait o1 v1 d1).wait o2 v2 d2) H2 O2 (cc F.env T2) _
    cases ec3 : cc F.env T2 with
    | no => rw [ec3] at p1; exact p1
    | ex z T3 =>
      rw [ec3] at p1
      intro H3 O3 r3
      exact exc p1 H3 O3 (R_unwait r3 bd1)
    | ok d3 T3 =>
      rw [ec3] at p1
      intro v3 H3 O3 r3 l3 q3
      refine ⟨v1, v2, v3, rfl, ?_⟩
      have hil' := inN hi
      have hjl' := inN hj
      have hll' := inN hl
      -- the third goes to its name
      have r4 := R_put f2 r3 (i := l) hll' n1 q3
      obtain ⟨F1, eF1⟩ : ∃ F1 : Cf, F1 = F.to (F.env.set l (some d3)) (F.σ.set l (some v3)) := ⟨_, rfl⟩
      have lE : (F.env.set l (some d3)).length = F.env.length := List.length_set ..
      have e4 : (((F.wait o1 v1 d1).wait o2 v2 d2).to (((F.wait o1 v1 d1).wait o2 v2 d2).env.set l (some d3)) (((F.wait o1 v1 d1).wait o2 v2 d2).σ.set l (some v3))) = ((F1.wait o1 v1 d1).wait o2 v2 d2) := by
        rw [wait_to (F := F.wait o1 v1 d1) (by exact lE), wait_to (F := F) (by exact lE), eF1]
        rfl
      rw [e4] at r4
      have fF1 : Fit X F1 (F.σ.set l (some v3)) := by rw [eF1]; exact f.to (List.length_set ..) lE
      have eF1e : F1.env = F.env.set l (some d3) := by rw [eF1]; rfl
      have eF1x : F1.xs = F.xs := by rw [eF1]; rfl
      have eF1t : F1.tms = F.tms := by rw [eF1]; rfl
      have bF1 : ∀ k, k ∈ o3.S l S ++ F1.xs → k < (F1.env ++ F1.tms).length := by
        rw [eF1x, eF1e, eF1t]
        refine bd_S (by rw [List.length_append, lE]; omega) fun k hk => ?_
        have z := bd k hk
        rw [List.length_append] at z ⊢
        rw [lE]; exact z
      have bF1w : ∀ k, k ∈ o3.S l S ++ (F1.wait o1 v1 d1).xs → k < ((F1.wait o1 v1 d1).env ++ (F1.wait o1 v1 d1).tms).length := by
        intro k hk
        rw [List.length_append, wait_tms]
        show k < F1.env.length + (F1.tms.length + 1)
        cases o1 with
        | f =>
          have z := bF1 k hk
          rw [List.length_append] at z
          omega
        | o =>
          have hk : k ∈ o3.S l S ++ (F1.xs ++ [(F1.env ++ F1.tms).length]) := hk
          rw [← List.append_assoc] at hk
          rcases List.mem_append.mp hk with z | z
          · have z := bF1 k z
            rw [List.length_append] at z
            omega
          · have z := List.mem_singleton.mp z
            rw [z, List.length_append]; omega
      have base2 := R_unwait r4 bF1w
      -- the second
      have r5 := R_take fF1.wait base2 (i := j) (by show j < F1.env.length; rw [eF1e, lE]; exact hjl') n2 r4
      obtain ⟨F2, eF2⟩ : ∃ F2 : Cf, F2 = F1.to (F1.env.set j (some d2)) (F1.σ.set j (some v2)) := ⟨_, rfl⟩
      have lE2 : (F1.env.set j (some d2)).length = F1.env.length := List.length_set ..
      have e5 : ((F1.wait o1 v1 d1).to ((F1.wait o1 v1 d1).env.set j (some d2)) ((F1.wait o1 v1 d1).σ.set j (some v2))) = F2.wait o1 v1 d1 := by
        rw [wait_to (F := F1) (by exact lE2), eF2]
        rfl
      rw [e5] at r5
      have sF1 : F1.σ = F.σ.set l (some v3) := by rw [eF1]; rfl
      have fF2 : Fit X F2 (F1.σ.set j (some v2)) := by rw [eF2]; exact fF1.to (by rw [List.length_set]) lE2
      have eF2e : F2.env = F1.env.set j (some d2) := by rw [eF2]; rfl
      have eF2x : F2.xs = F1.xs := by rw [eF2]; rfl
      have eF2t : F2.tms = F1.tms := by rw [eF2]; rfl
      have bF2 : ∀ k, k ∈ o2.S j (o3.S l S) ++ F2.xs → k < (F2.env ++ F2.tms).length := by
        rw [eF2x, eF2e, eF2t]
        refine bd_S (by rw [List.length_append, lE2, eF1e, lE]; omega) fun k hk => ?_
        have z := bF1 k hk
        rw [List.length_append] at z ⊢
        rw [lE2]; exact z
      have base1 := R_unwait r5 bF2
      have r6 := R_take fF2 base1 (i := i) (by rw [eF2e, lE2, eF1e, lE]; exact hil') n3 r5
      have e6 : F2.to (F2.env.set i (some d1)) (F2.σ.set i (some v1)) = F.to (((F.env.set i (some d1)).set j (some d2)).set l (some d3)) (((F.σ.set i (some v1)).set j (some v2)).set l (some v3)) := by
        have s2 : F2.σ = F1.σ.set j (some v2) := by rw [eF2]; rfl
        rw [eF2e, s2, eF1e, sF1, eF2, eF1]
        show ({ F with env := ((F.env.set l (some d3)).set j (some d2)).set i (some d1), σ := ((F.σ.set l (some v3)).set j (some v2)).set i (some v1) } : Cf) = _
        rw [List.set_comm _ _ (Ne.symm hjl), List.set_comm _ _ (Ne.symm hil), List.set_comm _ _ (Ne.symm hij), List.set_comm _ _ (Ne.symm hjl), List.set_comm _ _ (Ne.symm hil), List.set_comm _ _ (Ne.symm hij)]
        rfl
      rw [e6] at r6
      obtain ⟨O7, r7, _⟩ := Cf.R.sub r6 hs
      have z := p1 _ H3 O7 (by rw [List.length_set, List.length_set, List.length_set]) (by rw [List.length_set, List.length_set, List.length_set]) r7
      rw [f.s] at z
      exact z
theorem ss_par3 {x y z : Str} {ze : Expr} {i j l : Nat} {o1 o2 o3 : Own?} {px py pz pt pos pt2 : Pos} {kt k2} (hc : X.calm = true) (hN : X.N.Nodup) (hi : X.N[i]? = some x) (hj : X.N[j]? = some y) (hl : X.N[l]? = some z) (hij : i ≠ j) (hil : i ≠ l) (hjl : j ≠ l) (hx : X.env.scope.names.lookup x = some .local) (hy : X.env.scope.names.lookup y = some .local) (hz : X.env.scope.names.lookup z = some .local)
    (ha : SE X W S a ca o1.m) (hb : SE X W S b cb o2.m) (hcc : SE X W S ze cc o3.m) (n1 : o3 = .f → l ∉ S := by decide) (n2 : o2 = .f → j ∉ o3.S l S := by decide) (n3 : o1 = .f → i ∉ o2.S j (o3.S l S) := by decide) (hs : ∀ k, k ∈ S' → k ∈ o1.S i (o2.S j (o3.S l S)) := by decide)
    (hw : swappedStores [.Tuple [.Name x px, .Name y py, .Name z pz] kt pt] (.Tuple [a, b, ze] k2 pt2) X.env = pure (some [x, y, z]) := by rfl)
    (hsw : swapsWithSole [.Tuple [.Name x px, .Name y py, .Name z pz] kt pt] (.Tuple [a, b, ze] k2 pt2) pos.line X.env = pure false := by rfl)
    (h1 : starEach [a, b, ze] X.env = (false, eval a X.env) :: starEach [b, ze] X.env := by rfl) (h2 : starEach [b, ze] X.env = (false, eval b X.env) :: starEach [ze] X.env := by rfl) (h3 : starEach [ze] X.env = (false, eval ze X.env) :: starEach [] X.env := by rfl) :
    SS X W S S' Sl fr (.Assign [.Tuple [.Name x px, .Name y py, .Name z pz] kt pt] (.Tuple [a, b, ze] k2 pt2) pos) (par3S i j l ca cb cc) :=
  ⟨⟨fun pins s σ H D I h => (ps_par3 hc hN hi hj hl hij hil hjl hx hy hz (pa_cons ha.pe (pa_cons hb.pe (pa_cons hcc.pe pa_nil h3) h2) h1) hw hsw).run pins s σ H D I (par3_t hi hj hl hij hil hjl n1 n2 n3 hs I.len h)⟩⟩
/-! ### in -/
theorem op_inT (hu : X.A.units + 65 < cLine) : OpR X (compareOp .In) (fun x y H Q => ∃ d ds, Dp X.K H x d ∧ Dp X.K H y (.tuple ds) ∧ SeqAt.shaped d = true ∧ SeqAt.shaped (.list ds) = true ∧ Q (.bl (ds.any fun z => PyData.eqv z d)) H) := by
  intro pins s σ H x y v u Q I rx ry h
  obtain ⟨d, ds, hd, he, sd, se, q⟩ := h
  obtain ⟨as, r1⟩ := Dp.reads I d x v hd rx
  obtain ⟨bs, r2⟩ := Dp.reads I (.tuple ds) y u he ry
  exact SeqAt.in_tuple_reads r2 r1 (SeqAt.canLay_of_shaped se) (SeqAt.canLay_of_shaped sd) (room_in_shaped sd hu) ⟨.bl _, H, I, rfl, q⟩
theorem op_notInT (hu : X.A.units + 65 < cLine) : OpR X (compareOp .NotIn) (fun x y H Q => ∃ d ds, Dp X.K H x d ∧ Dp X.K H y (.tuple ds) ∧ SeqAt.shaped d = true ∧ SeqAt.shaped (.list ds) = true ∧ Q (.bl (!ds.any fun z => PyData.eqv z d)) H) := by
  intro pins s σ H x y v u Q I rx ry h
  obtain ⟨d, ds, hd, he, sd, se, q⟩ := h
  obtain ⟨as, r1⟩ := Dp.reads I d x v hd rx
  obtain ⟨bs, r2⟩ := Dp.reads I (.tuple ds) y u he ry
  exact SeqAt.notIn_tuple_reads r2 r1 (SeqAt.canLay_of_shaped se) (SeqAt.canLay_of_shaped sd) (room_in_shaped sd hu) ⟨.bl _, H, I, rfl, q⟩
def inD (d : D) : D → Option D
  | .lst ds => (inP d ds).map .bl
  | .tup ds => (inP d ds).map .bl
  | .str z => match d with
    | .str y => some (.bl (!(Builtin.Str.occurrences z y 0 z.length 1).isEmpty))
    | _ => none
  | _ => none
def ninD (d : D) : D → Option D
  | .lst ds => (inP d ds).map fun b => .bl (!b)
  | .tup ds => (inP d ds).map fun b => .bl (!b)
  | .str z => match d with
    | .str y => some (.bl (!(!(Builtin.Str.occurrences z y 0 z.length 1).isEmpty)))
    | _ => none
  | _ => none
theorem inP_some {d : D} {ds : List D} {b : Bool} (h : inP d ds = some b) : ∃ p ps, toP d = some p ∧ toPs ds = some ps ∧ SeqAt.shaped p = true ∧ SeqAt.shaped (.list ps) = true ∧ b = ps.any fun z => PyData.eqv z p := by
  unfold inP at h
  split at h
  · split at h
    · rename_i hs
      rw [Bool.and_eq_true] at hs
      cases h
      exact ⟨_, _, ‹_›, ‹_›, hs.1, hs.2, rfl⟩
    · cases h
  · cases h
def rIn3 (X : Cx) : R2 := fun x y H Q => (rInD X.K x y H Q ∨ (∃ d ds, Dp X.K H x d ∧ Dp X.K H y (.tuple ds) ∧ SeqAt.shaped d = true ∧ SeqAt.shaped (.list ds) = true ∧ Q (.bl (ds.any fun z => PyData.eqv z d)) H)) ∨ (∃ i j, x = .str i ∧ y = .str j ∧ Q (.bl (!(Builtin.Str.occurrences j i 0 j.length 1).isEmpty)) H)
def rNin3 (X : Cx) : R2 := fun x y H Q => (rNotInD X.K x y H Q ∨ (∃ d ds, Dp X.K H x d ∧ Dp X.K H y (.tuple ds) ∧ SeqAt.shaped d = true ∧ SeqAt.shaped (.list ds) = true ∧ Q (.bl (!ds.any fun z => PyData.eqv z d)) H)) ∨ (∃ i j, x = .str i ∧ y = .str j ∧ Q (.bl (!(!(Builtin.Str.occurrences j i 0 j.length 1).isEmpty))) H)
theorem op_in3 (hu : X.A.units + 65 < cLine) : OpR X (compareOp .In) (rIn3 X) := opOr (opOr (op_inD hu) (op_inT hu)) op_in_str
theorem op_nin3 (hu : X.A.units + 65 < cLine) : OpR X (compareOp .NotIn) (rNin3 X) := opOr (opOr (op_notInD hu) (op_notInT hu)) op_notIn_str
theorem o_in : Op2S X S (rIn3 X) inD .fro := fun F T H O v1 v2 d1 d2 d Q hK _ r q1 q2 e k => by
  unfold inD at e
  split at e
  · rename_i ds
    cases e2 : inP d1 ds with
    | none => rw [e2] at e; cases e
    | some b =>
      rw [e2] at e
      cases e
      obtain ⟨p, ps, a1, a2, a3, a4, rfl⟩ := inP_some e2
      have h1 := rb_dp q1 a1
      have h2 : Dp F.g.K H v2 (.list ps) := rb_dp (d := .lst ds) q2 (by unfold toP; rw [a2]; rfl)
      rw [hK] at h1 h2
      exact .inl (.inl ⟨p, ps, h1, h2, a3, a4, k _ H O r (Le.refl _) (.bl _)⟩)
  · rename_i ds
    cases e2 : inP d1 ds with
    | none => rw [e2] at e; cases e
    | some b =>
      rw [e2] at e
      cases e
      obtain ⟨p, ps, a1, a2, a3, a4, rfl⟩ := inP_some e2
      have h1 := rb_dp q1 a1
      have h2 : Dp F.g.K H v2 (.tuple ps) := rb_dp (d := .tup ds) q2 (by unfold toP; rw [a2]; rfl)
      rw [hK] at h1 h2
      exact .inl (.inr ⟨p, ps, h1, h2, a3, a4, k _ H O r (Le.refl _) (.bl _)⟩)
  · split at e
    · cases e
      exact .inr ⟨_, _, rb_str q1, rb_str q2, k _ H O r (Le.refl _) (.bl _)⟩
    · cases e
  · cases e
theorem o_nin : Op2S X S (rNin3 X) ninD .fro := fun F T H O v1 v2 d1 d2 d Q hK _ r q1 q2 e k => by
  unfold ninD at e
  split at e
  · rename_i ds
    cases e2 : inP d1 ds with
    | none => rw [e2] at e; cases e
    | some b =>
      rw [e2] at e
      cases e
      obtain ⟨p, ps, a1, a2, a3, a4, rfl⟩ := inP_some e2
      have h1 := rb_dp q1 a1
      have h2 : Dp F.g.K H v2 (.list ps) := rb_dp (d := .lst ds) q2 (by unfold toP; rw [a2]; rfl)
      rw [hK] at h1 h2
      exact .inl (.inl ⟨p, ps, h1, h2, a3, a4, k _ H O r (Le.refl _) (.bl _)⟩)
  · rename_i ds
    cases e2 : inP d1 ds with
    | none => rw [e2] at e; cases e
    | some b =>
      rw [e2] at e
      cases e
      obtain ⟨p, ps, a1, a2, a3, a4, rfl⟩ := inP_some e2
      have h1 := rb_dp q1 a1
      have h2 : Dp F.g.K H v2 (.tuple ps) := rb_dp (d := .tup ds) q2 (by unfold toP; rw [a2]; rfl)
      rw [hK] at h1 h2
      exact .inl (.inr ⟨p, ps, h1, h2, a3, a4, k _ H O r (Le.refl _) (.bl _)⟩)
  · split at e
    · cases e
      exact .inr ⟨_, _, rb_str q1, rb_str q2, k _ H O r (Le.refl _) (.bl _)⟩
    · cases e
  · cases e
/-! ### never -/
def noS : Sx := fun _ _ => .no
theorem ss_never : SS X W S S' Sl fr st noS := ⟨psMono ps_never fun D σ H ⟨F, T, O, f, r, p⟩ => p⟩
end
/-- a def that is not called -/
theorem cal_no {P : Program} {w : World} {K : PySem.W.Frag} {mg : Str → Option Value} {base : Heap} {x : Str} {st : Stmt} {ps : List Str} {fr : Bool} {k : Nat} (G : Def0 K mg x st ps) : Cal P w K mg base x (fun _ _ => .no) fr k := by
  obtain ⟨f, fd, FU, hm, hb⟩ := G.ex
  have no : ∀ vs H Q E, ¬ spOf K w mg (fun _ _ => .no) fr vs H Q E := fun vs H Q E h => by
    obtain ⟨pt, O, ds, T, h1, h2, h3, h4⟩ := h
    exact h4
  exact ⟨f, fd, ps, ⟨fun vs H Q E h => (no _ _ _ _ h).elim, fun A outer s H args us vs Q E _ _ _ _ h => (no _ _ _ _ h).elim⟩, hm, FU.kp, hb⟩
theorem noCX {P : Program} {w : World} {l : List Env} {H : Hp} {s : Shared} {e : Value} {s' : Shared} (h : L2.CX P w l H s (fun _ _ _ => False) e s') : False := by
  obtain ⟨_, _, _, _, _, _, _, _, _, _, _, _, z⟩ := h
  exact z
theorem Cal.mono {P : Program} {w : World} {K : PySem.W.Frag} {mg : Str → Option Value} {base : Heap} {x : Str} {c : List D → Tp → Res D} {fr : Bool} {j k : Nat} (h : Cal P w K mg base x c fr j) (hk : j ≤ k) : Cal P w K mg base x c fr k := by
  obtain ⟨f, fd, ps, h1, h2⟩ := h.ex
  exact ⟨f, fd, ps, h1.mono hk, h2⟩
end Ev

/-! Ev: the mathematics' tools: how meanings are reckoned -/
namespace Ev
open PySem
@[simp] theorem bind_ok {α β : Type} (a : α) (T : Tp) (f : α → Tp → Res β) : (Res.ok a T).bind f = f a T := (rfl)
@[simp] theorem bind_no {α β : Type} (f : α → Tp → Res β) : (Res.no : Res α).bind f = .no := (rfl)
@[simp] theorem bind_ex {α β : Type} (x : Str) (T : Tp) (f : α → Tp → Res β) : (Res.ex x T : Res α).bind f = .ex x T := (rfl)
@[simp] theorem exS_ok {α : Type} (a : α) (T : Tp) (env : Ve) (k : α → Tp → SR) : exS (.ok a T) env k = k a T := (rfl)
@[simp] theorem exS_ex {α : Type} (x : Str) (T : Tp) (env : Ve) (k : α → Tp → SR) : exS (.ex x T) env k = .ex x env T := (rfl)
@[simp] theorem exS_no {α : Type} (env : Ve) (k : α → Tp → SR) : exS (.no : Res α) env k = .no := (rfl)
@[simp] theorem ofO_some {α : Type} (a : α) (T : Tp) : ofO (some a) T = .ok a T := (rfl)
@[simp] theorem ofO_none {α : Type} (T : Tp) : ofO (none : Option α) T = .no := (rfl)
@[simp] theorem kE_ev (d : D) (env : Ve) (T : Tp) : kE d env T = .ok d T := (rfl)
theorem vE_of {i : Nat} {env : Ve} {d : D} (h : env[i]? = some (some d)) (T : Tp) : vE i env T = .ok d T := by unfold vE; rw [h]
@[simp] theorem vE_0 (d : D) (env : Ve) (T : Tp) : vE 0 (some d :: env) T = .ok d T := (rfl)
@[simp] theorem vE_s (i : Nat) (x : Option D) (env : Ve) (T : Tp) : vE (i + 1) (x :: env) T = vE i env T := (rfl)
@[simp] theorem ap1_ev (f : D → Option D) (a : Ex) (env : Ve) (T : Tp) : ap1 f a env T = (a env T).bind fun d T => ofO (f d) T := (rfl)
@[simp] theorem ap2_ev (f : D → D → Option D) (a b : Ex) (env : Ve) (T : Tp) : ap2 f a b env T = (a env T).bind fun d T => (b env T).bind fun e T => ofO (f d e) T := (rfl)
@[simp] theorem apN_ev (f : List D → Option D) (es : List Ex) (env : Ve) (T : Tp) : apN f es env T = (esE es env T).bind fun ds T => ofO (f ds) T := (rfl)
@[simp] theorem esE_nil (env : Ve) (T : Tp) : esE [] env T = .ok [] T := (rfl)
@[simp] theorem esE_cons (a : Ex) (r : List Ex) (env : Ve) (T : Tp) : esE (a :: r) env T = (a env T).bind fun d T => (esE r env T).bind fun ds T => .ok (d :: ds) T := (rfl)
@[simp] theorem tupE_ev (es : List Ex) (env : Ve) (T : Tp) : tupE es env T = (esE es env T).bind fun ds T => .ok (.tup ds) T := (rfl)
@[simp] theorem lstE_ev (es : List Ex) (env : Ve) (T : Tp) : lstE es env T = (esE es env T).bind fun ds T => .ok (.lst ds) T := (rfl)
@[simp] theorem callE_ev (f : List D → Tp → Res D) (es : List Ex) (env : Ve) (T : Tp) : callE f es env T = (esE es env T).bind fun ds T => f ds T := (rfl)
def andK (d : D) (T : Tp) (k : Tp → Res D) : Res D := match d with
  | .bl true => k T
  | .bl false => .ok (.bl false) T
  | _ => .no
@[simp] theorem andE_ev (a b : Ex) (env : Ve) (T : Tp) : andE a b env T = (a env T).bind fun d T => andK d T fun T => b env T := by
  first
  | rfl
  | (unfold andE andK; congr 1)
@[simp] theorem andK_t (T : Tp) (k : Tp → Res D) : andK (.bl true) T k = k T := (rfl)
@[simp] theorem andK_f (T : Tp) (k : Tp → Res D) : andK (.bl false) T k = .ok (.bl false) T := (rfl)
def orK (d : D) (T : Tp) (k : Tp → Res D) : Res D := match d with
  | .bl true => .ok (.bl true) T
  | .bl false => k T
  | _ => .no
@[simp] theorem orE_ev (a b : Ex) (env : Ve) (T : Tp) : orE a b env T = (a env T).bind fun d T => orK d T fun T => b env T := by
  first
  | rfl
  | (unfold orE orK; congr 1)
@[simp] theorem orK_t (T : Tp) (k : Tp → Res D) : orK (.bl true) T k = .ok (.bl true) T := (rfl)
@[simp] theorem orK_f (T : Tp) (k : Tp → Res D) : orK (.bl false) T k = k T := (rfl)
@[simp] theorem notD_ev (b : Bool) : notD (.bl b) = some (.bl (!b)) := (rfl)
def iteK (d : D) (T : Tp) (k1 k2 : Tp → Res D) : Res D := match d with
  | .bl true => k1 T
  | .bl false => k2 T
  | _ => .no
@[simp] theorem iteE_ev (c a b : Ex) (env : Ve) (T : Tp) : iteE c a b env T = (c env T).bind fun d T => iteK d T (fun T => a env T) fun T => b env T := by
  first
  | rfl
  | (unfold iteE iteK; congr 1)
@[simp] theorem iteK_t (T : Tp) (k1 k2 : Tp → Res D) : iteK (.bl true) T k1 k2 = k1 T := (rfl)
@[simp] theorem iteK_f (T : Tp) (k1 k2 : Tp → Res D) : iteK (.bl false) T k1 k2 = k2 T := (rfl)
theorem iteK_b (b : Bool) (T : Tp) (k1 k2 : Tp → Res D) : iteK (.bl b) T k1 k2 = if b then k1 T else k2 T := by cases b <;> rfl
theorem andK_b (b : Bool) (T : Tp) (k : Tp → Res D) : andK (.bl b) T k = if b then k T else .ok (.bl false) T := by cases b <;> rfl
theorem orK_b (b : Bool) (T : Tp) (k : Tp → Res D) : orK (.bl b) T k = if b then .ok (.bl true) T else k T := by cases b <;> rfl
/-- a chain's two halves -/
def chK (o : Option D) (T : Tp) (k : Tp → Res D) : Res D := match o with
  | some (.bl true) => k T
  | some (.bl false) => .ok (.bl false) T
  | _ => .no
@[simp] theorem chE_ev (f g : D → D → Option D) (a b c : Ex) (env : Ve) (T : Tp) : chE f g a b c env T = (a env T).bind fun d T => (b env T).bind fun e T => chK (f d e) T fun T => (c env T).bind fun h T => ofO (g e h) T := by
  first
  | rfl
  | (unfold chE chK; congr 1)
@[simp] theorem chK_t (T : Tp) (k : Tp → Res D) : chK (some (.bl true)) T k = k T := (rfl)
@[simp] theorem chK_f (T : Tp) (k : Tp → Res D) : chK (some (.bl false)) T k = .ok (.bl false) T := (rfl)
theorem chK_b (b : Bool) (T : Tp) (k : Tp → Res D) : chK (some (.bl b)) T k = if b then k T else .ok (.bl false) T := by cases b <;> rfl
/-! statements -/
def sqK (r : SR) (b : Sx) : SR := match r with
  | .nx env T => b env T
  | r => r
@[simp] theorem sq_ev (a b : Sx) (env : Ve) (T : Tp) : sq a b env T = sqK (a env T) b := by
  unfold sq sqK
  cases a env T <;> rfl
@[simp] theorem sqK_nx (env : Ve) (T : Tp) (b : Sx) : sqK (.nx env T) b = b env T := (rfl)
@[simp] theorem sqK_rt (d : D) (T : Tp) (b : Sx) : sqK (.rt d T) b = .rt d T := (rfl)
@[simp] theorem sqK_no (b : Sx) : sqK .no b = .no := (rfl)
@[simp] theorem sqK_ct (env : Ve) (T : Tp) (b : Sx) : sqK (.ct env T) b = .ct env T := (rfl)
@[simp] theorem sqK_bk (env : Ve) (T : Tp) (b : Sx) : sqK (.bk env T) b = .bk env T := (rfl)
@[simp] theorem sqK_ex (x : Str) (env : Ve) (T : Tp) (b : Sx) : sqK (.ex x env T) b = .ex x env T := (rfl)
@[simp] theorem sk_ev (env : Ve) (T : Tp) : sk env T = .nx env T := (rfl)
@[simp] theorem bkS_ev (env : Ve) (T : Tp) : bkS env T = .bk env T := (rfl)
@[simp] theorem ctS_ev (env : Ve) (T : Tp) : ctS env T = .ct env T := (rfl)
@[simp] theorem noS_ev (env : Ve) (T : Tp) : noS env T = .no := (rfl)
@[simp] theorem rtS_ev (c : Ex) (env : Ve) (T : Tp) : rtS c env T = exS (c env T) env fun d T => .rt d T := (rfl)
@[simp] theorem drS_ev (c : Ex) (env : Ve) (T : Tp) : drS c env T = exS (c env T) env fun _ T => .nx env T := (rfl)
def ifK (d : D) (k1 k2 : SR) : SR := match d with
  | .bl true => k1
  | .bl false => k2
  | _ => .no
@[simp] theorem ifS_ev (c : Ex) (a b : Sx) (env : Ve) (T : Tp) : ifS c a b env T = exS (c env T) env fun d T => ifK d (a env T) (b env T) := by
  first
  | rfl
  | (unfold ifS ifK; congr 1)
@[simp] theorem ifK_t (k1 k2 : SR) : ifK (.bl true) k1 k2 = k1 := (rfl)
@[simp] theorem ifK_f (k1 k2 : SR) : ifK (.bl false) k1 k2 = k2 := (rfl)
theorem ifK_b (b : Bool) (k1 k2 : SR) : ifK (.bl b) k1 k2 = if b then k1 else k2 := by cases b <;> rfl
@[simp] theorem asS_N (i : Nat) (c : Ex) (env : Ve) (T : Tp) : asS (tgN i) c env T = exS (c env T) env fun d T => .nx (env.set i (some d)) T := (rfl)
theorem asS_ev (f : Tf) (c : Ex) (env : Ve) (T : Tp) : asS f c env T = exS (c env T) env fun d T => match f d env with | some env => .nx env T | none => .no := rfl
@[simp] theorem setS_ev (i : Nat) (c : Ex) (env : Ve) (T : Tp) : setS i c env T = exS (c env T) env fun d T => .nx (env.set i (some d)) T := (rfl)
@[simp] theorem tgN_ev (i : Nat) (d : D) (env : Ve) : tgN i d env = some (env.set i (some d)) := (rfl)
@[simp] theorem tgT_ev (f : List D → Ve → Option Ve) (ds : List D) (env : Ve) : tgT f (.tup ds) env = f ds env := (rfl)
@[simp] theorem tgs0_ev (env : Ve) : tgs0 [] env = some env := (rfl)
@[simp] theorem tgsC_ev (f : Tf) (r : List D → Ve → Option Ve) (d : D) (ds : List D) (env : Ve) : tgsC f r (d :: ds) env = (f d env).bind fun env => r ds env := by
  show (match f d env with | some env => r ds env | none => none) = _
  cases f d env <;> rfl
@[simp] theorem par2S_ev (i j : Nat) (ca cb : Ex) (env : Ve) (T : Tp) : par2S i j ca cb env T = exS (ca env T) env fun d T => exS (cb env T) env fun e T => .nx ((env.set i (some d)).set j (some e)) T := (rfl)
@[simp] theorem par3S_ev (i j k : Nat) (ca cb cc : Ex) (env : Ve) (T : Tp) : par3S i j k ca cb cc env T = exS (ca env T) env fun d T => exS (cb env T) env fun e T => exS (cc env T) env fun f T => .nx (((env.set i (some d)).set j (some e)).set k (some f)) T := (rfl)
@[simp] theorem lstAt_0 (ds : List D) (env : Ve) : lstAt (some (.lst ds) :: env) 0 = some ds := (rfl)
@[simp] theorem lstAt_s (i : Nat) (x : Option D) (env : Ve) : lstAt (x :: env) (i + 1) = lstAt env i := (rfl)
theorem appS_of {i : Nat} {c : Ex} {env : Ve} {ds : List D} {T : Tp} (h : lstAt env i = some ds) : appS i c env T = exS (c env T) env fun d T => if ds.length < sizeLine then .nx (env.set i (some (.lst (ds ++ [d])))) T else .no := by
  unfold appS; rw [h]
@[simp] theorem augS_ev (fn : Int → Int → Int) (i : Nat) (c : Ex) (env : Ve) (T : Tp) : augS fn i c env T = match env[i]? with
  | some (some (.int x)) => exS (c env T) env fun d T => match d with
    | .int y => .nx (env.set i (some (.int (fn x y)))) T
    | _ => .no
  | _ => .no := rfl
/-! a call -/
theorem fnD_ev (fr : Bool) (n N : Nat) (b : Sx) (ds : List D) (T : Tp) (h : ds.length = n) : fnD fr n N b ds T = match b (ds.map some ++ List.replicate (N - n) none) T with
  | .nx _ T => if fr then .no else .ok .non T
  | .rt d T => .ok d T
  | .ex x _ T => .ex x T
  | _ => .no := by
  unfold fnD
  rw [if_pos h]
  try (cases b (ds.map some ++ List.replicate (N - n) none) T <;> rfl)
theorem fnD_rt {fr : Bool} {n N : Nat} {b : Sx} {ds : List D} {T T' : Tp} {d : D} (hl : ds.length = n) (h : b (ds.map some ++ List.replicate (N - n) none) T = .rt d T') : fnD fr n N b ds T = .ok d T' := by
  rw [fnD_ev _ _ _ _ _ _ hl, h]
theorem fnD_nx {n N : Nat} {b : Sx} {ds : List D} {T T' : Tp} {env : Ve} (hl : ds.length = n) (h : b (ds.map some ++ List.replicate (N - n) none) T = .nx env T') : fnD false n N b ds T = .ok .non T' := by
  rw [fnD_ev _ _ _ _ _ _ hl, h]; rfl
/-! ints -/
@[simp] theorem addD_int (i j : Int) : addD (.int i) (.int j) = some (.int (i + j)) := (rfl)
@[simp] theorem subD_int (i j : Int) : subD (.int i) (.int j) = some (.int (i - j)) := (rfl)
@[simp] theorem ltD_int (i j : Int) : ltD (.int i) (.int j) = some (.bl (decide (i < j))) := (rfl)
@[simp] theorem leD_int (i j : Int) : leD (.int i) (.int j) = some (.bl (decide (i ≤ j))) := (rfl)
@[simp] theorem gtD_int (i j : Int) : gtD (.int i) (.int j) = some (.bl (decide (j < i))) := (rfl)
@[simp] theorem geD_int (i j : Int) : geD (.int i) (.int j) = some (.bl (decide (j ≤ i))) := (rfl)
@[simp] theorem negD_int (i : Int) : negD (.int i) = some (.int (-i)) := (rfl)
@[simp] theorem eqD_int (i j : Int) : eqD (.int i) (.int j) = some (.bl (decide (i = j))) := by
  have e : (i == j) = decide (i = j) := rfl
  show some (D.bl (i == j)) = _
  rw [e]
@[simp] theorem neD_int (i j : Int) : neD (.int i) (.int j) = some (.bl (!decide (i = j))) := by
  have e : (i == j) = decide (i = j) := rfl
  show some (D.bl (!(i == j))) = _
  rw [e]
theorem mulD_int {i j : Int} (h : smI i = true ∨ smI j = true) : mulD (.int i) (.int j) = some (.int (i * j)) := by
  show (if (smI i || smI j) = true then _ else _) = _
  rw [if_pos (by rcases h with h | h <;> simp [h])]
theorem smI_of {i : Int} (h1 : -1000000000000000000 ≤ i) (h2 : i ≤ 1000000000000000000) : smI i = true := by
  unfold smI
  rw [Bool.and_eq_true, decide_eq_true_eq, decide_eq_true_eq]
  constructor
  · exact Int.lt_of_lt_of_le (by decide) h1
  · exact Int.lt_of_le_of_lt h2 (by decide)
theorem fdivD_int {i j : Int} (h1 : 0 < j) (h2 : j < 1073741824) : fdivD (.int i) (.int j) = some (.int (i / j)) := by
  show (if (decide (j ≠ 0) && decide (j.natAbs < 1073741824)) = true then some (D.int (i.fdiv j)) else none) = _
  rw [if_pos (by simp; omega), Int.fdiv_eq_ediv_of_nonneg _ (by omega)]
theorem modD_int {i j : Int} (h1 : 0 < j) : modD (.int i) (.int j) = some (.int (i % j)) := by
  show (if j ≠ 0 then some (D.int (i.fmod j)) else none) = _
  rw [if_pos (by omega), Int.fmod_eq_emod_of_nonneg _ (by omega)]
@[simp] theorem lenD_lst (ds : List D) : lenD [.lst ds] = some (.int ds.length) := (rfl)
@[simp] theorem lenD_tup (ds : List D) : lenD [.tup ds] = some (.int ds.length) := (rfl)
@[simp] theorem lenD_scr (ds : List D) : lenD [.scr ds] = some (.int ds.length) := (rfl)
@[simp] theorem max2D_ev (i j : Int) : max2D [.int i, .int j] = some (.int (if j > i then j else i)) := (rfl)
@[simp] theorem min2D_ev (i j : Int) : min2D [.int i, .int j] = some (.int (if j < i then j else i)) := (rfl)
@[simp] theorem tupOfD_lst (ds : List D) : tupOfD [.lst ds] = some (.tup ds) := (rfl)
@[simp] theorem tupOfD_tup (ds : List D) : tupOfD [.tup ds] = some (.tup ds) := (rfl)
@[simp] theorem listOfD_lst (ds : List D) : listOfD [.lst ds] = some (.lst ds) := (rfl)
@[simp] theorem listOfD_tup (ds : List D) : listOfD [.tup ds] = some (.lst ds) := (rfl)
@[simp] theorem isiD_ev (ts : List String) (d : D) (h : d ≠ .tape) (hp : ∀ o, d ≠ .pin o) (ha : ∀ o, d ≠ .prm o) (hf : ∀ o, d ≠ .fnc o) : isiD ts d = some (.bl (ts.any fun t => isT (tyN d) t)) := by
  unfold isiD
  cases d with
  | tape => exact absurd rfl h
  | pin o => exact absurd rfl (hp o)
  | prm o => exact absurd rfl (ha o)
  | fnc o => exact absurd rfl (hf o)
  | _ => rfl
theorem sizeLine_big {n : Nat} (h : n ≤ 16000000) : n < sizeLine := Nat.lt_of_le_of_lt h (by decide)
theorem sizeLine_le {n : Nat} (h : n ≤ 16000000) : n ≤ sizeLine := Nat.le_of_lt (sizeLine_big h)
theorem addD_lst {a b : List D} (h : a.length + b.length ≤ 16000000) : addD (.lst a) (.lst b) = some (.lst (a ++ b)) := by
  show (if a.length + b.length ≤ sizeLine then _ else _) = _
  rw [if_pos (sizeLine_le h)]
theorem addD_tup {a b : List D} (h : a.length + b.length ≤ 16000000) : addD (.tup a) (.tup b) = some (.tup (a ++ b)) := by
  show (if a.length + b.length ≤ sizeLine then _ else _) = _
  rw [if_pos (sizeLine_le h)]
/-! places -/
theorem atI_nat' {α : Type} {xs : List α} {i : Int} {x : α} (h0 : 0 ≤ i) (h : xs[i.toNat]? = some x) : L2.atI xs i = some x := by
  unfold L2.atI L2.ixN
  have hl : i.toNat < xs.length := by
    rcases Nat.lt_or_ge i.toNat xs.length with z | z
    · exact z
    · rw [List.getElem?_eq_none z] at h; cases h
  rw [if_pos h0, if_pos (by omega)]
  exact h
theorem ixD_lst {ds : List D} {i : Int} {d : D} (h0 : 0 ≤ i) (h : ds[i.toNat]? = some d) : ixD (.lst ds) (.int i) = some d := atI_nat' h0 h
theorem ixD_tup {ds : List D} {i : Int} {d : D} (h0 : 0 ≤ i) (h : ds[i.toNat]? = some d) : ixD (.tup ds) (.int i) = some d := atI_nat' h0 h
/-! loops -/
theorem loop_inv {f : Tf} {b : Sx} (P : Nat → Ve → Tp → Prop) : ∀ (ds : List D) (env : Ve) (T : Tp), P 0 env T →
    (∀ (i : Nat) d env T, ds[i]? = some d → P i env T → ∃ env1 env2 T2, f d env = some env1 ∧ (b env1 T = .nx env2 T2 ∨ b env1 T = .ct env2 T2) ∧ P (i + 1) env2 T2) → ∃ env' T', loop f b ds env T = .nx env' T' ∧ P ds.length env' T'
  | [], env, T, h0, _ => ⟨env, T, rfl, h0⟩
  | d :: ds, env, T, h0, hs => by
    obtain ⟨env1, env2, T2, e1, e2, e3⟩ := hs 0 d env T rfl h0
    obtain ⟨env', T', e4, e5⟩ := loop_inv (f := f) (b := b) (fun i => P (i + 1)) ds env2 T2 e3 fun i d env T h p => hs (i + 1) d env T (by simpa using h) p
    refine ⟨env', T', ?_, e5⟩
    show (match f d env with
      | none => SR.no
      | some env => match b env T with
        | SR.nx env T => loop f b ds env T
        | SR.ct env T => loop f b ds env T
        | SR.bk env T => SR.nx env T
        | r => r) = _
    rw [e1]
    rcases e2 with e2 | e2
    · show (match b env1 T with
        | SR.nx env T => loop f b ds env T
        | SR.ct env T => loop f b ds env T
        | SR.bk env T => SR.nx env T
        | r => r) = _
      rw [e2]; exact e4
    · show (match b env1 T with
        | SR.nx env T => loop f b ds env T
        | SR.ct env T => loop f b ds env T
        | SR.bk env T => SR.nx env T
        | r => r) = _
      rw [e2]; exact e4
/-- a loop that may hand back -/
theorem loop_find {f : Tf} {b : Sx} (P : Nat → Ve → Tp → Prop) (R : SR → Prop) : ∀ (ds : List D) (env : Ve) (T : Tp), P 0 env T →
    (∀ (i : Nat) d env T, ds[i]? = some d → P i env T → ∃ env1, f d env = some env1 ∧ ((∃ env2 T2, (b env1 T = .nx env2 T2 ∨ b env1 T = .ct env2 T2) ∧ P (i + 1) env2 T2) ∨ ((∃ d T2, b env1 T = .rt d T2) ∧ R (b env1 T)))) →
    (∃ env' T', loop f b ds env T = .nx env' T' ∧ P ds.length env' T') ∨ R (loop f b ds env T)
  | [], env, T, h0, _ => .inl ⟨env, T, rfl, h0⟩
  | d :: ds, env, T, h0, hs => by
    obtain ⟨env1, e1, e2⟩ := hs 0 d env T rfl h0
    have el : loop f b (d :: ds) env T = (match f d env with
      | none => SR.no
      | some env => match b env T with
        | SR.nx env T => loop f b ds env T
        | SR.ct env T => loop f b ds env T
        | SR.bk env T => SR.nx env T
        | r => r) := rfl
    rw [el, e1]
    show (∃ env' T', (match b env1 T with
        | SR.nx env T => loop f b ds env T
        | SR.ct env T => loop f b ds env T
        | SR.bk env T => SR.nx env T
        | r => r) = .nx env' T' ∧ P (ds.length + 1) env' T') ∨ R (match b env1 T with
        | SR.nx env T => loop f b ds env T
        | SR.ct env T => loop f b ds env T
        | SR.bk env T => SR.nx env T
        | r => r)
    rcases e2 with ⟨env2, T2, e2, e3⟩ | ⟨⟨x, T2, e2⟩, e3⟩
    · have ih := loop_find (f := f) (b := b) (fun i => P (i + 1)) R ds env2 T2 e3 fun i d env T h p => hs (i + 1) d env T (by simpa using h) p
      rcases e2 with e2 | e2 <;> (rw [e2]; exact ih)
    · rw [e2] at e3 ⊢
      exact .inr e3
theorem whl_inv {c : Ex} {b : Sx} (P Q : Ve → Tp → Prop) (m : Ve → Tp → Nat) (turn : ∀ env T, P env T → (∃ T1, c env T = .ok (.bl false) T1 ∧ Q env T1) ∨ ∃ T1 env2 T2, c env T = .ok (.bl true) T1 ∧ (b env T1 = .nx env2 T2 ∨ b env T1 = .ct env2 T2) ∧ P env2 T2 ∧ m env2 T2 < m env T) :
    ∀ (n : Nat) (env : Ve) (T : Tp), P env T → m env T < n → ∃ env' T', whl n c b env T = .nx env' T' ∧ Q env' T'
  | 0, _, _, _, h => absurd h (Nat.not_lt_zero _)
  | n + 1, env, T, h0, hn => by
    have el : whl (n + 1) c b env T = exS (c env T) env fun d T => match d with
      | .bl true => match b env T with
        | SR.nx env T => whl n c b env T
        | SR.ct env T => whl n c b env T
        | SR.bk env T => SR.nx env T
        | r => r
      | .bl false => .nx env T
      | _ => SR.no := rfl
    rcases turn env T h0 with ⟨T1, e1, e2⟩ | ⟨T1, env2, T2, e1, e2, e3, e4⟩
    · exact ⟨env, T1, by rw [el, e1]; rfl, e2⟩
    · obtain ⟨env', T', e5, e6⟩ := whl_inv P Q m turn n env2 T2 e3 (by omega)
      refine ⟨env', T', ?_, e6⟩
      rw [el, e1]
      show (match b env T1 with
        | SR.nx env T => whl n c b env T
        | SR.ct env T => whl n c b env T
        | SR.bk env T => SR.nx env T
        | r => r) = _
      rcases e2 with e2 | e2 <;> (rw [e2]; exact e5)
/-! comprehensions -/
theorem lcL_pure {env : Ve} {f : Tf} {cd ce : Ex} {T : Tp} (p : D → Bool) (g : D → D) : ∀ (ds : List D), (∀ d ∈ ds, ∃ env1, f d env = some env1 ∧ cd env1 T = .ok (.bl (p d)) T ∧ (p d = true → ce env1 T = .ok (g d) T)) → lcL env f cd ce ds T = .ok ((ds.filter p).map g) T
  | [], _ => rfl
  | d :: ds, h => by
    obtain ⟨env1, e1, e2, e3⟩ := h d List.mem_cons_self
    have ih := lcL_pure p g ds fun x hx => h x (List.mem_cons_of_mem _ hx)
    show (match f d env with
      | none => Res.no
      | some env1 => (nxR (cd env1 T)).bind fun b T => match b with
        | .bl true => (nxR (ce env1 T)).bind fun x T => (lcL env f cd ce ds T).bind fun xs T => Res.ok (x :: xs) T
        | .bl false => lcL env f cd ce ds T
        | _ => Res.no) = _
    rw [e1]
    show ((nxR (cd env1 T)).bind fun b T => match b with
        | .bl true => (nxR (ce env1 T)).bind fun x T => (lcL env f cd ce ds T).bind fun xs T => Res.ok (x :: xs) T
        | .bl false => lcL env f cd ce ds T
        | _ => Res.no) = _
    rw [e2]
    cases hp : p d with
    | false =>
      rw [List.filter_cons_of_neg (by rw [hp]; exact Bool.false_ne_true)]
      exact ih
    | true =>
      rw [List.filter_cons_of_pos hp, List.map_cons]
      show ((nxR (ce env1 T)).bind fun x T => (lcL env f cd ce ds T).bind fun xs T => Res.ok (x :: xs) T) = _
      rw [e3 hp]
      show ((lcL env f cd ce ds T).bind fun xs T => Res.ok (g d :: xs) T) = _
      rw [ih]; rfl
theorem lcE_pure {vs : List Nat} {env : Ve} {f : Tf} {it : It_} {cd ce : Ex} {T : Tp} {ds : List D} (p : D → Bool) (g : D → D) (hi : it env T = .ok ds T) (hl : ds.length ≤ 16000000)
    (h : ∀ d ∈ ds, ∃ env1, f d (wipeE env vs) = some env1 ∧ cd env1 T = .ok (.bl (p d)) T ∧ (p d = true → ce env1 T = .ok (g d) T)) : lcE vs f it cd ce env T = .ok (.lst ((ds.filter p).map g)) T := by
  unfold lcE
  rw [hi]
  show ((lcL (wipeE env vs) f cd ce ds T).bind fun xs T => if xs.length ≤ sizeLine then Res.ok (D.lst xs) T else Res.no) = _
  rw [lcL_pure p g ds h]
  show (if ((ds.filter p).map g).length ≤ sizeLine then Res.ok (D.lst ((ds.filter p).map g)) T else Res.no) = _
  rw [if_pos]
  rw [List.length_map]
  exact Nat.le_trans (List.length_filter_le _ _) (sizeLine_le hl)
/-- without a test -/
theorem lcE_map {vs : List Nat} {env : Ve} {f : Tf} {it : It_} {ce : Ex} {T : Tp} {ds : List D} (g : D → D) (hi : it env T = .ok ds T) (hl : ds.length ≤ 16000000)
    (h : ∀ d ∈ ds, ∃ env1, f d (wipeE env vs) = some env1 ∧ ce env1 T = .ok (g d) T) : lcE vs f it (kE (.bl true)) ce env T = .ok (.lst (ds.map g)) T := by
  have z := lcE_pure (cd := kE (.bl true)) (fun _ => true) g hi hl fun d hd => by
    obtain ⟨env1, e1, e2⟩ := h d hd
    exact ⟨env1, e1, rfl, fun _ => e2⟩
  rw [z]
  have : ds.filter (fun _ => true) = ds := List.filter_eq_self.mpr fun _ _ => rfl
  rw [this]
@[simp] theorem seqIt_ev (c : Ex) (env : Ve) (T : Tp) : seqIt c env T = (c env T).bind fun d T => ofO (itemsD d) T := (rfl)
@[simp] theorem itemsD_lst (ds : List D) : itemsD (.lst ds) = some ds := (rfl)
@[simp] theorem itemsD_tup (ds : List D) : itemsD (.tup ds) = some ds := (rfl)
@[simp] theorem apI_ev (f : List D → Option (List D)) (cs : List Ex) (env : Ve) (T : Tp) : apI f cs env T = (esE cs env T).bind fun ds T => ofO (f ds) T := (rfl)
theorem okR_of {i : Int} (h1 : -1000000000000000000 ≤ i) (h2 : i ≤ 1000000000000000000) : okR i = true := by
  unfold okR
  rw [Bool.and_eq_true, decide_eq_true_eq, decide_eq_true_eq]
  constructor
  · exact Int.le_trans (by decide) h1
  · exact Int.lt_of_le_of_lt h2 (by decide)
theorem rng1D_ev {j : Int} (h1 : -1000000000000000000 ≤ j) (h2 : j ≤ 1000000000000000000) : rng1D [.int j] = some (rngL 0 j.toNat) := by
  show (if okR j = true then _ else _) = _
  rw [if_pos (okR_of h1 h2)]
theorem rng2D_ev {i j : Int} (h1 : -1000000000000000000 ≤ j) (h2 : j ≤ 1000000000000000000) (h3 : -1000000000000000000 ≤ i) (h4 : i ≤ 1000000000000000000) : rng2D [.int i, .int j] = some (rngL i (j - i).toNat) := by
  show (if (okR i && okR j) = true then _ else _) = _
  rw [if_pos (by rw [okR_of h1 h2, okR_of h3 h4]; rfl)]
theorem rngL_len (lo : Int) (n : Nat) : (rngL lo n).length = n := by simp [rngL]
theorem rngL_get {lo : Int} {n i : Nat} {d : D} (h : (rngL lo n)[i]? = some d) : i < n ∧ d = .int (lo + (i : Nat)) := by
  have hi : i < n := by
    rcases Nat.lt_or_ge i n with z | z
    · exact z
    · rw [List.getElem?_eq_none (by rw [rngL_len]; exact z)] at h; cases h
  refine ⟨hi, ?_⟩
  simp [rngL, List.getElem?_map, List.getElem?_range hi] at h
  exact h.symm
@[simp] theorem forS_ev (f : Tf) (it : It_) (b : Sx) (env : Ve) (T : Tp) : forS f it b env T = exS (it env T) env fun ds T => loop f b ds env T := (rfl)
@[simp] theorem wipeE_ev0 (env : Ve) : wipeE env [] = env := (rfl)
@[simp] theorem wipeE_ev (env : Ve) (v : Nat) (vs : List Nat) : wipeE env (v :: vs) = (wipeE env vs).set v none := (rfl)
/-! the tape -/
@[simp] theorem tgetE_ev (c ci : Ex) (env : Ve) (T : Tp) : tgetE c ci env T = (c env T).bind fun d T => match d with
  | .tape => (ci env T).bind fun k T => ofO (tgetD k T) T
  | _ => .no := rfl
@[simp] theorem tputS_ev (c ci ce : Ex) (env : Ve) (T : Tp) : tputS c ci ce env T = exS (ce env T) env fun d T => exS (c env T) env fun t T => match t with
  | .tape => exS (ci env T) env fun k T => match tputD k d T with
    | some ts => .nx env (some ts)
    | none => SR.no
  | _ => .no := rfl
end Ev

/-! Ev: x *= e, sorted of ints, tuples of the module -/
namespace Ev
open PySem PySem.Spec PyProof.Rows L2
section
variable {X : Cx} {W : WX} {S S1 S2 S' Sl Si : List Nat} {fr : Bool} {e a b tg : Expr} {es : List Expr} {st : Stmt} {sts : List Stmt} {c ca cb cc : Ex} {cs : List Ex} {s s1 s2 : Sx} {m : Mode} {F : Cf} {T T' : Tp} {σ : L2.St} {H H1 : Hp} {O O1 : Addr → Prop}
def ipM : TIp := fun x y H Q => ∃ i j, x = .int i ∧ y = .int j ∧ CMul i j ∧ Q (.int (i * j)) H
theorem ip_mulM : PIp X .Mult ipM := by
  intro pins s σ H x y v u Q I r1 r2 h
  obtain ⟨i, j, e1, e2, hc, q⟩ := h
  subst e1; subst e2
  obtain ⟨t, rfl⟩ := r1
  obtain ⟨t', rfl⟩ := r2
  exact PyProof.Rows.imul_int ⟨.int _, H, I.tok _, ⟨_, rfl⟩, q⟩ hc.ok
def augM (i : Nat) (c : Ex) : Sx := fun env T => match env[i]? with
  | some (some (.int x)) => exS (c env T) env fun d T => match d with
    | .int y => if smI x || smI y then .nx (env.set i (some (.int (x * y)))) T else .no
    | _ => .no
  | _ => .no
theorem ss_augM {x : Str} {i : Nat} {p pos : Pos} (hN : X.N.Nodup) (hi : X.N[i]? = some x) (hx : Loc X.env.scope x) (he : SE X W S e c .bor) (hS : i ∉ S := by decide) (hs : ∀ j, j ∈ S' → j ∈ S := by decide)
    (hf : X.fn x = true ∨ X.env.scope.names.lookup x = some .local := by first | exact .inl rfl | exact .inr rfl | assumption) : SS X W S S' Sl fr (.AugAssign (.Name x p) .Mult e pos) (augM i c) := by
  refine ⟨psMono (ps_aug hN hi hx he.pe ip_mulM hf) fun D σ H ⟨F, T, O, f, r, p⟩ => ?_⟩
  have p : PoS X W S' Sl fr F (match F.env[i]? with
    | some (some (.int x)) => exS (c F.env T) F.env fun d T => match d with
      | .int y => if smI x || smI y then .nx (F.env.set i (some (.int (x * y)))) T else .no
      | _ => .no
    | _ => .no) D := p
  split at p
  · rename_i x0 e0
    obtain ⟨a1, a2⟩ := f.at e0
    obtain ⟨v, b1, b2⟩ := r.fro i _ (f.out hS e0) a1
    cases b2
    refine ⟨_, a2 _ b1, ?_⟩
    refine tE_bindS f r p fun d T1 v H1 O1 r1 qv p1 => ?_
    cases d with
    | int y =>
      by_cases hc : (smI x0 || smI y) = true
      · have p1 : PoS X W S' Sl fr F (if (smI x0 || smI y) = true then .nx (F.env.set i (some (.int (x0 * y)))) T1 else .no) D := p1
        rw [if_pos hc] at p1
        refine ⟨x0, y, rfl, rb_int (bOf qv r1), (by unfold smI at hc; simp only [Bool.or_eq_true, Bool.and_eq_true, decide_eq_true_eq] at hc; exact hc), ?_⟩
        have hil : i < F.env.length := by
          rcases Nat.lt_or_ge i F.env.length with z | z
          · exact z
          · rw [List.getElem?_eq_none z] at e0; cases e0
        have r2 := Cf.R.set (i := i) (d := .int (x0 * y)) (v := .int (x0 * y)) r1 f.l f.x hil hS (.int _)
        obtain ⟨O3, r3, _⟩ := Cf.R.sub (F := F.to (F.env.set i (some (.int (x0 * y)))) (F.σ.set i (some (.int (x0 * y))))) r2 hs
        have z := p1 (F.σ.set i (some (.int (x0 * y)))) H1 O3 (List.length_set ..) (List.length_set ..) r3
        rw [f.s] at z
        exact z
      · have p1 : PoS X W S' Sl fr F (if (smI x0 || smI y) = true then .nx (F.env.set i (some (.int (x0 * y)))) T1 else .no) D := p1
        rw [if_neg hc] at p1
        exact False.elim p1
    | _ => exact False.elim p1
  · exact False.elim p
/-! sorted -/
def insI (x : Int) : List Int → List Int
  | [] => [x]
  | y :: r => if x ≤ y then x :: y :: r else y :: insI x r
def sortI : List Int → List Int
  | [] => []
  | x :: r => insI x (sortI r)
theorem insI_perm (x : Int) : ∀ l, (insI x l).Perm (x :: l)
  | [] => .refl _
  | y :: r => by
    show (if x ≤ y then x :: y :: r else y :: insI x r).Perm _
    split
    · exact .refl _
    · exact ((insI_perm x r).cons y).trans (.swap x y r)
theorem sortI_perm : ∀ l, (sortI l).Perm l
  | [] => .refl _
  | x :: r => (insI_perm x (sortI r)).trans ((sortI_perm r).cons x)
theorem insI_srt (x : Int) : ∀ l : List Int, l.Pairwise (· ≤ ·) → (insI x l).Pairwise (· ≤ ·)
  | [], _ => by simp [insI]
  | y :: r, h => by
    have hy := List.pairwise_cons.mp h
    show (if x ≤ y then x :: y :: r else y :: insI x r).Pairwise _
    split
    · rename_i hxy
      refine List.pairwise_cons.mpr ⟨fun z hz => ?_, h⟩
      rcases List.mem_cons.mp hz with z | z
      · rw [z]; exact hxy
      · exact Int.le_trans hxy (hy.1 _ z)
    · rename_i hxy
      refine List.pairwise_cons.mpr ⟨fun z hz => ?_, insI_srt x r hy.2⟩
      rcases List.mem_cons.mp ((insI_perm x r).mem_iff.mp hz) with z | z
      · rw [z]; omega
      · exact hy.1 _ z
theorem sortI_srt : ∀ l, (sortI l).Pairwise (· ≤ ·)
  | [] => .nil
  | x :: r => insI_srt x _ (sortI_srt r)
theorem srt_uniq : ∀ {a b : List Int}, a.Perm b → a.Pairwise (· ≤ ·) → b.Pairwise (· ≤ ·) → a = b
  | [], b, h, _, _ => (List.Perm.nil_eq h)
  | x :: a, [], h, _, _ => absurd h.length_eq (by simp)
  | x :: a, y :: b, h, ha, hb => by
    have h1 := List.pairwise_cons.mp ha
    have h2 := List.pairwise_cons.mp hb
    have e : x = y := by
      have m1 : x ∈ y :: b := h.mem_iff.mp List.mem_cons_self
      have m2 : y ∈ x :: a := h.mem_iff.mpr List.mem_cons_self
      rcases List.mem_cons.mp m1 with z | z
      · exact z
      · rcases List.mem_cons.mp m2 with w | w
        · exact w.symm
        · have := h1.1 _ w
          have := h2.1 _ z
          omega
    subst e
    rw [srt_uniq h.cons_inv h1.2 h2.2]
def sortedD (ds : List D) : Option D := (seqI ds).map fun ns => .lst ((sortI ns).map .int)
theorem o_sorted : OpNS X S (rSortedI X.K) sortedD .fre := fun F T H O vs ds d Q hK _ r q1 e k => by
  unfold sortedD at e
  cases e2 : seqI ds with
  | none => rw [e2] at e; cases e
  | some ns =>
    rw [e2] at e; cases e
    obtain ⟨a, rfl, h⟩ := seqI_rep e2 q1
    refine ⟨a, ns, rfl, .inl (.inl h), fun ns' p hp hs hn => ?_⟩
    have e3 : ns' = sortI ns := srt_uniq (hp.trans (sortI_perm ns).symm) hs (sortI_srt ns)
    subst e3
    exact new_lstO r (ints_repL _) k _ hn
/-! a tuple of the module -/
def KTup (K : PySem.W.Frag) (mg : Str → Option Value) (x : Str) (vs : List V) : Prop := ∃ (a : Addr) (o : Obj) (its : Array Value) (n : Nat), mg x = some (.ref a) ∧ K.lookup a = some o ∧ o.cls = .type "tuple" ∧ o.data = .seq its n ∧ its.size ≤ sizeLine ∧ Vals vs its.toList
def flats : List V → List D → Prop
  | [], [] => True
  | v :: vs, d :: ds => flat d = some v ∧ flats vs ds
  | _, _ => False
theorem flats_rep {g : Gh} {H : Hp} : ∀ {vs : List V} {ds : List D}, flats vs ds → RepL g H vs ds
  | [], [], _ => .nil
  | v :: vs, d :: ds, h => .cons (flat_rep h.1) (flats_rep h.2)
  | [], _ :: _, h => h.elim
  | _ :: _, [], h => h.elim
theorem se_kT {x : Str} {vs : List V} {ds : List D} {pos : Pos} (hg : Gl X x) (h : KTup X.K X.mg x vs) (hf : flats vs ds) (hd : (x == ("__debug__" : Str)) = false := by decide) : SE X W S (.Name x pos) (kE (.tup ds)) .fro := by
  obtain ⟨a, o, its, n, h1, h2, h3, h4, h5, h6⟩ := h
  refine ⟨peMono (pe_glob (v := .ref a) hg h1 rfl hd) fun σ H Q ⟨F, T, O, f, r, p⟩ => ?_⟩
  exact p.now r (.tup (.inr ⟨o, its, n, by rw [f.k]; exact h2, h3, h4, h5, h6⟩) (flats_rep hf))
end
theorem u65 {k : Nat} {A : Around} (h : RoomG k A) : A.units + 65 < cLine := by
  have := h.un
  omega
end Ev
namespace Ev
open PySem PySem.Spec PyProof.Rows L2
section
variable {X : Cx} {S : List Nat}
def rSumT (K : PySem.W.Frag) : List V → Hp → VK → Prop := fun vs H Q => ∃ (a : Addr) (ns : List Int), vs = [V.ref a] ∧ SqT K H a (ns.map V.int) ∧ Q (.int ns.sum) H
theorem cr_sumT (hc : X.calm = true) : CallR X (.builtin "sum") (rSumT X.K) := by
  intro pins s σ H vs us Q I r h
  obtain ⟨a, ns, rfl, hs, q⟩ := h
  obtain ⟨its, rv, hl, _⟩ := I.tuple hs
  rw [Vals.ref1 r]
  have hi := rv.ints
  obtain ⟨xs, e⟩ := hi.allInts.items
  have hn : numsOf (intItems xs).toList = ns := by rw [← e]; exact hi.numsOf
  rw [nums_intItems] at hn
  rw [e] at hl
  refine PySem.W.ktm_sumG (I.ok.hd hc) hl fun h' tk t' hk => ?_
  rw [preSum_eq, List.take_of_length_le (by simp), hn]
  exact ⟨.int _, H, I.kept hk, ⟨_, rfl⟩, q⟩
def rSumA (K : PySem.W.Frag) : List V → Hp → VK → Prop := fun vs H Q => rSum K vs H Q ∨ rSumT K vs H Q
theorem cr_sumA (hc : X.calm = true) : CallR X (.builtin "sum") (rSumA X.K) := by
  intro pins s σ H vs us Q I r h
  rcases h with h | h
  · exact cr_sum hc pins s σ H vs us Q I r h
  · exact cr_sumT hc pins s σ H vs us Q I r h
def sumAD : List D → Option D
  | [.lst ds] => (intsOf ds).map fun ns => .int ns.sum
  | [.tup ds] => (intsOf ds).map fun ns => .int ns.sum
  | _ => none
theorem o_sumA : OpNS X S (rSumA X.K) sumAD .fro := fun F T H O vs ds d Q hK _ r q1 e k => by
  unfold sumAD at e
  split at e
  · rename_i ds0
    cases e2 : intsOf ds0 with
    | none => rw [e2] at e; cases e
    | some ns =>
      rw [e2] at e; cases e
      obtain ⟨a, rfl, h⟩ := seqI_rep (ds := [.lst ds0]) e2 q1
      exact .inl ⟨a, ns, rfl, .inl (.inl h), k _ H O r (Le.refl _) (.int _)⟩
  · rename_i ds0
    cases e2 : intsOf ds0 with
    | none => rw [e2] at e; cases e
    | some ns =>
      rw [e2] at e; cases e
      obtain ⟨v, rfl, q⟩ := rbl1 q1
      obtain ⟨p, ws, rfl, a, b⟩ := rb_tup q
      rw [hK] at a
      refine .inr ⟨p, ns, rfl, ?_, k _ H O r (Le.refl _) (.int _)⟩
      rw [ints_rep e2 b] at a
      exact a
  · cases e
end
end Ev

/-! Ev: meanings that do not look at the tape -/
namespace Ev
open PySem
def PR {α : Type} (r : Tp → Res α) : Prop := (∃ a, ∀ T, r T = .ok a T) ∨ (∀ T, r T = .no) ∨ ∃ x, ∀ T, r T = .ex x T
def PSR (r : Tp → SR) : Prop := (∃ e, ∀ T, r T = .nx e T) ∨ (∃ e, ∀ T, r T = .ct e T) ∨ (∃ e, ∀ T, r T = .bk e T) ∨ (∃ d, ∀ T, r T = .rt d T) ∨ (∀ T, r T = .no) ∨ ∃ x e, ∀ T, r T = .ex x e T
abbrev PurE (c : Ex) : Prop := ∀ env, PR (c env)
abbrev PurL (c : It_) : Prop := ∀ env, PR (c env)
abbrev PurM (c : Mx) : Prop := ∀ env, PR (c env)
abbrev PurS (b : Sx) : Prop := ∀ env, PSR (b env)
abbrev PurF (f : List D → Tp → Res D) : Prop := ∀ ds, PR (f ds)
theorem PR.okk {α : Type} (a : α) : PR fun T => Res.ok a T := .inl ⟨a, fun _ => rfl⟩
theorem PR.noo {α : Type} : PR fun _ => (Res.no : Res α) := .inr (.inl fun _ => rfl)
theorem PR.of {α : Type} (o : Option α) : PR fun T => ofO o T := by
  cases o with
  | none => exact .noo
  | some a => exact .okk a
theorem PR.then {α β : Type} {r : Tp → Res α} {f : α → Tp → Res β} (h : PR r) (hf : ∀ a, PR (f a)) : PR fun T => (r T).bind f := by
  rcases h with ⟨a, h⟩ | h | ⟨x, h⟩
  · have e : (fun T => (r T).bind f) = f a := by funext T; rw [h T]; rfl
    rw [e]; exact hf a
  · exact .inr (.inl fun T => congrArg (fun z => z.bind f) (h T))
  · exact .inr (.inr ⟨x, fun T => congrArg (fun z => z.bind f) (h T)⟩)
theorem PSR.nxx (e : Ve) : PSR fun T => .nx e T := .inl ⟨e, fun _ => rfl⟩
theorem PSR.rtt (d : D) : PSR fun T => .rt d T := .inr (.inr (.inr (.inl ⟨d, fun _ => rfl⟩)))
theorem PSR.noo : PSR fun _ => .no := .inr (.inr (.inr (.inr (.inl fun _ => rfl))))
theorem PSR.exx {α : Type} {r : Tp → Res α} {env : Ve} {k : α → Tp → SR} (h : PR r) (hk : ∀ a, PSR (k a)) : PSR fun T => exS (r T) env k := by
  rcases h with ⟨a, h⟩ | h | ⟨x, h⟩
  · have e : (fun T => exS (r T) env k) = k a := by funext T; rw [h T]; rfl
    rw [e]; exact hk a
  · exact .inr (.inr (.inr (.inr (.inl fun T => congrArg (fun z => exS z env k) (h T)))))
  · exact .inr (.inr (.inr (.inr (.inr ⟨x, env, fun T => congrArg (fun z => exS z env k) (h T)⟩))))
theorem pr_k (d : D) : PurE (kE d) := fun _ => .okk d
theorem pr_v (i : Nat) : PurE (vE i) := fun env => by
  unfold vE
  split
  · exact .okk _
  · exact .noo
section
variable {c ca cb cc cd ce : Ex} {cs : List Ex} {f : D → Option D} {b s1 s2 : Sx}
theorem pr_ap1 {f : D → Option D} (h : PurE ca) : PurE (ap1 f ca) := fun env => (h env).then fun d => .of _
theorem pr_ap2 {f : D → D → Option D} (h : PurE ca) (h2 : PurE cb) : PurE (ap2 f ca cb) := fun env => (h env).then fun d => (h2 env).then fun e => .of _
theorem pr_not (h : PurE ca) : PurE (notE ca) := pr_ap1 h
theorem pr_and (h : PurE ca) (h2 : PurE cb) : PurE (andE ca cb) := fun env => (h env).then fun d => by
  cases d with
  | bl x => cases x with
    | true => exact h2 env
    | false => exact .okk _
  | _ => exact .noo
theorem pr_or (h : PurE ca) (h2 : PurE cb) : PurE (orE ca cb) := fun env => (h env).then fun d => by
  cases d with
  | bl x => cases x with
    | true => exact .okk _
    | false => exact h2 env
  | _ => exact .noo
theorem pr_ite (h : PurE cc) (h1 : PurE ca) (h2 : PurE cb) : PurE (iteE cc ca cb) := fun env => (h env).then fun d => by
  cases d with
  | bl x => cases x with
    | true => exact h1 env
    | false => exact h2 env
  | _ => exact .noo
theorem pr_ch {f g : D → D → Option D} (h : PurE ca) (h1 : PurE cb) (h2 : PurE cc) : PurE (chE f g ca cb cc) := fun env => (h env).then fun d => (h1 env).then fun e => by
  cases hf : f d e with
  | none => exact .noo
  | some x => cases x with
    | bl y => cases y with
      | true => exact (h2 env).then fun z => .of _
      | false => exact .okk _
    | _ => exact .noo
inductive PurEs : List Ex → Prop where
  | nil : PurEs []
  | cons {c : Ex} {cs : List Ex} : PurE c → PurEs cs → PurEs (c :: cs)
theorem pr_es : ∀ {cs : List Ex}, PurEs cs → ∀ env, PR (esE cs env)
  | _, .nil, _ => .okk []
  | _, .cons h r, env => (h env).then fun d => (pr_es r env).then fun ds => .okk _
theorem pr_apN {f : List D → Option D} (h : PurEs cs) : PurE (apN f cs) := fun env => (pr_es h env).then fun ds => .of _
theorem pr_tup (h : PurEs cs) : PurE (tupE cs) := fun env => (pr_es h env).then fun ds => .okk _
theorem pr_lst (h : PurEs cs) : PurE (lstE cs) := fun env => (pr_es h env).then fun ds => .okk _
theorem pr_call {f : List D → Tp → Res D} (hf : PurF f) (h : PurEs cs) : PurE (callE f cs) := fun env => (pr_es h env).then fun ds => hf ds
theorem pr_mt {f : D → List D → Option D} (h : PurE c) (hs : PurEs cs) : PurE (mtE f c cs) := fun env => (h env).then fun d => (pr_es hs env).then fun ds => .of _
inductive PurO : Option Ex → Prop where
  | none : PurO none
  | some {c : Ex} : PurE c → PurO (some c)
theorem pr_po {o : Option Ex} (h : PurO o) (env : Ve) : PR (poE o env) := by
  cases h with
  | none => exact .okk _
  | some h =>
    refine (h env).then fun d => ?_
    cases d with
    | int i => exact .okk _
    | _ => exact .noo
theorem pr_sl {f : D → Option Int → Option Int → Option D} {lo hi : Option Ex} (h : PurE c) (h1 : PurO lo) (h2 : PurO hi) : PurE (slE f c lo hi) := fun env => (h env).then fun d => (pr_po h1 env).then fun l => (pr_po h2 env).then fun u => .of _
theorem pr_nx {α : Type} {r : Tp → Res α} (h : PR r) : PR fun T => nxR (r T) := by
  rcases h with ⟨a, h⟩ | h | ⟨x, h⟩
  · exact .inl ⟨a, fun T => congrArg nxR (h T)⟩
  · exact .inr (.inl fun T => congrArg nxR (h T))
  · exact .inr (.inl fun T => congrArg nxR (h T))
theorem pr_lcL {env : Ve} {f : Tf} (h : PurE cd) (h2 : PurE ce) : ∀ ds, PR (lcL env f cd ce ds)
  | [] => .okk []
  | d :: ds => by
    have ih := pr_lcL (env := env) (f := f) h h2 ds
    cases hf : f d env with
    | none =>
      have e : lcL env f cd ce (d :: ds) = fun T => Res.no := by
        funext T
        show (match f d env with
          | none => Res.no
          | some env1 => (nxR (cd env1 T)).bind fun b T => match b with
            | .bl true => (nxR (ce env1 T)).bind fun x T => (lcL env f cd ce ds T).bind fun xs T => Res.ok (x :: xs) T
            | .bl false => lcL env f cd ce ds T
            | _ => Res.no) = _
        rw [hf]
      rw [e]; exact .noo
    | some env1 =>
      have e : lcL env f cd ce (d :: ds) = fun T => (nxR (cd env1 T)).bind fun b T => match b with
            | .bl true => (nxR (ce env1 T)).bind fun x T => (lcL env f cd ce ds T).bind fun xs T => Res.ok (x :: xs) T
            | .bl false => lcL env f cd ce ds T
            | _ => Res.no := by
        funext T
        show (match f d env with
          | none => Res.no
          | some env1 => (nxR (cd env1 T)).bind fun b T => match b with
            | .bl true => (nxR (ce env1 T)).bind fun x T => (lcL env f cd ce ds T).bind fun xs T => Res.ok (x :: xs) T
            | .bl false => lcL env f cd ce ds T
            | _ => Res.no) = _
        rw [hf]
      rw [e]
      refine (pr_nx (h env1)).then fun b => ?_
      cases b with
      | bl x => cases x with
        | true => exact (pr_nx (h2 env1)).then fun x => ih.then fun xs => .okk _
        | false => exact ih
      | _ => exact .noo
theorem pr_lc {vs : List Nat} {f : Tf} {it : It_} (hi : PurL it) (h : PurE cd) (h2 : PurE ce) : PurE (lcE vs f it cd ce) := fun env => (hi env).then fun ds => (pr_lcL h h2 ds).then fun xs => by
  by_cases z : xs.length ≤ sizeLine
  · have e : (fun T => if xs.length ≤ sizeLine then Res.ok (D.lst xs) T else Res.no) = fun T => Res.ok (D.lst xs) T := by funext T; rw [if_pos z]
    rw [e]; exact .okk _
  · have e : (fun T => if xs.length ≤ sizeLine then Res.ok (D.lst xs) T else Res.no) = fun T => Res.no := by funext T; rw [if_neg z]
    rw [e]; exact .noo
theorem pr_seq (h : PurE c) : PurL (seqIt c) := fun env => (h env).then fun d => .of _
theorem pr_apI {f : List D → Option (List D)} (h : PurEs cs) : PurL (apI f cs) := fun env => (pr_es h env).then fun ds => .of _
/-! statements -/
theorem pr_sk : PurS sk := fun env => .nxx env
theorem pr_no : PurS noS := fun _ => .noo
theorem pr_bk : PurS bkS := fun env => .inr (.inr (.inl ⟨env, fun _ => rfl⟩))
theorem pr_ct : PurS ctS := fun env => .inr (.inl ⟨env, fun _ => rfl⟩)
theorem pr_sq (h : PurS s1) (h2 : PurS s2) : PurS (sq s1 s2) := fun env => by
  have el : ∀ T, sq s1 s2 env T = sqK (s1 env T) s2 := fun T => sq_ev s1 s2 env T
  rcases h env with ⟨e, h⟩ | ⟨e, h⟩ | ⟨e, h⟩ | ⟨d, h⟩ | h | ⟨x, e, h⟩
  · have z : sq s1 s2 env = s2 e := by funext T; rw [el, h T]; rfl
    rw [z]; exact h2 e
  · exact .inr (.inl ⟨e, fun T => by rw [el, h T]; rfl⟩)
  · exact .inr (.inr (.inl ⟨e, fun T => by rw [el, h T]; rfl⟩))
  · exact .inr (.inr (.inr (.inl ⟨d, fun T => by rw [el, h T]; rfl⟩)))
  · exact .inr (.inr (.inr (.inr (.inl fun T => by rw [el, h T]; rfl))))
  · exact .inr (.inr (.inr (.inr (.inr ⟨x, e, fun T => by rw [el, h T]; rfl⟩))))
theorem pr_rt (h : PurE c) : PurS (rtS c) := fun env => .exx (h env) fun d => .rtt d
theorem pr_dr (h : PurE c) : PurS (drS c) := fun env => .exx (h env) fun _ => .nxx env
theorem pr_if (h : PurE c) (h1 : PurS s1) (h2 : PurS s2) : PurS (ifS c s1 s2) := fun env => .exx (h env) fun d => by
  cases d with
  | bl x => cases x with
    | true => exact h1 env
    | false => exact h2 env
  | _ => exact .noo
theorem pr_asS {f : Tf} (h : PurE c) : PurS (asS f c) := fun env => .exx (h env) fun d => by
  cases hf : f d env with
  | none => exact .noo
  | some e => exact .nxx e
theorem pr_set {i : Nat} (h : PurE c) : PurS (setS i c) := fun env => .exx (h env) fun d => .nxx _
theorem pr_par2 {i j : Nat} (h : PurE ca) (h2 : PurE cb) : PurS (par2S i j ca cb) := fun env => .exx (h env) fun d => .exx (h2 env) fun e => .nxx _
theorem pr_par3 {i j k : Nat} (h : PurE ca) (h2 : PurE cb) (h3 : PurE cc) : PurS (par3S i j k ca cb cc) := fun env => .exx (h env) fun d => .exx (h2 env) fun e => .exx (h3 env) fun f => .nxx _
theorem pr_app {i : Nat} (h : PurE c) : PurS (appS i c) := fun env => by
  cases hl : lstAt env i with
  | none =>
    have e : appS i c env = fun T => .no := by funext T; unfold appS; rw [hl]
    rw [e]; exact .noo
  | some ds =>
    have e : appS i c env = fun T => exS (c env T) env fun d T => if ds.length < sizeLine then .nx (env.set i (some (.lst (ds ++ [d])))) T else .no := by funext T; exact appS_of hl
    rw [e]
    refine .exx (h env) fun d => ?_
    by_cases z : ds.length < sizeLine
    · have e : (fun T => if ds.length < sizeLine then SR.nx (env.set i (some (.lst (ds ++ [d])))) T else .no) = fun T => SR.nx (env.set i (some (.lst (ds ++ [d])))) T := by funext T; rw [if_pos z]
      rw [e]; exact .nxx _
    · have e : (fun T => if ds.length < sizeLine then SR.nx (env.set i (some (.lst (ds ++ [d])))) T else .no) = fun T => SR.no := by funext T; rw [if_neg z]
      rw [e]; exact .noo
theorem pr_ifn {p : Prop} [Decidable p] {r r2 : Tp → SR} (h : PSR r) (h2 : PSR r2) : PSR fun T => if p then r T else r2 T := by
  by_cases z : p
  · have e : (fun T => if p then r T else r2 T) = r := by funext T; rw [if_pos z]
    rw [e]; exact h
  · have e : (fun T => if p then r T else r2 T) = r2 := by funext T; rw [if_neg z]
    rw [e]; exact h2
theorem pr_ext {i : Nat} (h : PurE c) : PurS (extS i c) := fun env => by
  cases hl : lstAt env i with
  | none =>
    have e : extS i c env = fun T => .no := by funext T; unfold extS; rw [hl]
    rw [e]; exact .noo
  | some ds =>
    have e : extS i c env = fun T => exS (c env T) env fun d T => match d with
      | .lst es => if ds.length + es.length ≤ sizeLine then .nx (env.set i (some (.lst (ds ++ es)))) T else .no
      | _ => .no := by
      funext T
      unfold extS
      rw [hl]
      try rfl
    rw [e]
    refine .exx (h env) fun d => ?_
    cases d with
    | lst es => exact pr_ifn (.nxx _) .noo
    | _ => exact .noo
theorem pr_put {i : Nat} {ci : Ex} (hi : PurE ci) (h : PurE c) : PurS (putS i ci c) := fun env => .exx (h env) fun d => by
  cases hl : lstAt env i with
  | none => exact .noo
  | some ds =>
      refine .exx (hi env) fun k => ?_
      cases k with
      | int k =>
        cases hs : setAt ds k d with
        | none =>
          have e : (fun T => match (D.int k) with
            | .int k => match setAt ds k d with
              | some ds => SR.nx (env.set i (some (.lst ds))) T
              | none => .no
            | _ => .no) = fun T => SR.no := by funext T; simp only [hs]
          exact Eq.mpr (congrArg PSR e) PSR.noo
        | some es =>
          have e : (fun T => match (D.int k) with
            | .int k => match setAt ds k d with
              | some ds => SR.nx (env.set i (some (.lst ds))) T
              | none => .no
            | _ => .no) = fun T => SR.nx (env.set i (some (.lst es))) T := by funext T; simp only [hs]
          exact Eq.mpr (congrArg PSR e) (PSR.nxx _)
      | _ => exact .noo
theorem pr_aug {fn : Int → Int → Int} {i : Nat} (h : PurE c) : PurS (augS fn i c) := fun env => by
  unfold augS
  split
  · exact .exx (h env) fun d => by
      cases d with
      | int y => exact .nxx _
      | _ => exact .noo
  · exact .noo
theorem pr_augM {i : Nat} (h : PurE c) : PurS (augM i c) := fun env => by
  unfold augM
  split
  · exact .exx (h env) fun d => by
      cases d with
      | int y => exact pr_ifn (.nxx _) .noo
      | _ => exact .noo
  · exact .noo
theorem pr_pop {i : Nat} : PurM (popM i) := fun env => by
  unfold popM
  split
  · split
    · exact .okk _
    · exact .noo
  · exact .noo
theorem pr_asM {i : Nat} {tf : Tf} {m : Mx} (h : PurM m) : PurS (asM i tf m) := fun env => .exx (h env) fun x => by
  cases hf : tf x.1 (env.set i (some (.lst x.2))) with
  | none => exact .noo
  | some e => exact .nxx e
theorem pr_whl (h : PurE c) (hb : PurS b) : ∀ n, PurS (whl n c b)
  | 0 => fun _ => .noo
  | n + 1 => fun env => .exx (h env) fun d => by
    cases d with
    | bl x => cases x with
      | true =>
        have ih := pr_whl h hb n
        rcases hb env with ⟨e, q⟩ | ⟨e, q⟩ | ⟨e, q⟩ | ⟨d, q⟩ | q | ⟨x, e, q⟩
        · rcases ih e with ⟨a, z⟩ | ⟨a, z⟩ | ⟨a, z⟩ | ⟨a, z⟩ | z | ⟨a, g, z⟩
          · exact .inl ⟨a, fun T => by simp only [q T]; exact z T⟩
          · exact .inr (.inl ⟨a, fun T => by simp only [q T]; exact z T⟩)
          · exact .inr (.inr (.inl ⟨a, fun T => by simp only [q T]; exact z T⟩))
          · exact .inr (.inr (.inr (.inl ⟨a, fun T => by simp only [q T]; exact z T⟩)))
          · exact .inr (.inr (.inr (.inr (.inl fun T => by simp only [q T]; exact z T))))
          · exact .inr (.inr (.inr (.inr (.inr ⟨a, g, fun T => by simp only [q T]; exact z T⟩))))
        · rcases ih e with ⟨a, z⟩ | ⟨a, z⟩ | ⟨a, z⟩ | ⟨a, z⟩ | z | ⟨a, g, z⟩
          · exact .inl ⟨a, fun T => by simp only [q T]; exact z T⟩
          · exact .inr (.inl ⟨a, fun T => by simp only [q T]; exact z T⟩)
          · exact .inr (.inr (.inl ⟨a, fun T => by simp only [q T]; exact z T⟩))
          · exact .inr (.inr (.inr (.inl ⟨a, fun T => by simp only [q T]; exact z T⟩)))
          · exact .inr (.inr (.inr (.inr (.inl fun T => by simp only [q T]; exact z T))))
          · exact .inr (.inr (.inr (.inr (.inr ⟨a, g, fun T => by simp only [q T]; exact z T⟩))))
        · exact .inl ⟨e, fun T => by simp only [q T]⟩
        · exact .inr (.inr (.inr (.inl ⟨d, fun T => by simp only [q T]⟩)))
        · exact .inr (.inr (.inr (.inr (.inl fun T => by simp only [q T]))))
        · exact .inr (.inr (.inr (.inr (.inr ⟨x, e, fun T => by simp only [q T]⟩))))
      | false => exact .nxx _
    | _ => exact .noo
theorem pr_loop {f : Tf} (hb : PurS b) : ∀ ds, PurS (loop f b ds)
  | [] => fun env => .nxx env
  | d :: ds => fun env => by
    have ih := pr_loop (f := f) hb ds
    cases hf : f d env with
    | none =>
      have e : loop f b (d :: ds) env = fun T => SR.no := by
        funext T
        show (match f d env with
          | none => SR.no
          | some env => match b env T with
            | .nx env T => loop f b ds env T
            | .ct env T => loop f b ds env T
            | .bk env T => SR.nx env T
            | r => r) = _
        rw [hf]
      rw [e]; exact .noo
    | some env1 =>
      have el : ∀ T, loop f b (d :: ds) env T = match b env1 T with
            | .nx env T => loop f b ds env T
            | .ct env T => loop f b ds env T
            | .bk env T => SR.nx env T
            | r => r := fun T => by
        show (match f d env with
          | none => SR.no
          | some env => match b env T with
            | .nx env T => loop f b ds env T
            | .ct env T => loop f b ds env T
            | .bk env T => SR.nx env T
            | r => r) = _
        rw [hf]
      rcases hb env1 with ⟨e, q⟩ | ⟨e, q⟩ | ⟨e, q⟩ | ⟨d, q⟩ | q | ⟨x, e, q⟩
      · have z : loop f b (d :: ds) env = loop f b ds e := by funext T; rw [el, q T]
        rw [z]; exact ih e
      · have z : loop f b (d :: ds) env = loop f b ds e := by funext T; rw [el, q T]
        rw [z]; exact ih e
      · exact .inl ⟨e, fun T => by rw [el, q T]⟩
      · exact .inr (.inr (.inr (.inl ⟨d, fun T => by rw [el, q T]⟩)))
      · exact .inr (.inr (.inr (.inr (.inl fun T => by rw [el, q T]))))
      · exact .inr (.inr (.inr (.inr (.inr ⟨x, e, fun T => by rw [el, q T]⟩))))
theorem pr_for {f : Tf} {it : It_} (hi : PurL it) (hb : PurS b) : PurS (forS f it b) := fun env => .exx (hi env) fun ds => pr_loop hb ds env
theorem pr_fn {fr : Bool} {n N : Nat} (hb : PurS b) : PurF (fnD fr n N b) := fun ds => by
  by_cases hl : ds.length = n
  · have el : ∀ T, fnD fr n N b ds T = match b (ds.map some ++ List.replicate (N - n) none) T with
      | .nx _ T => if fr then .no else .ok .non T
      | .rt d T => .ok d T
      | .ex x _ T => .ex x T
      | _ => .no := fun T => fnD_ev fr n N b ds T hl
    rcases hb (ds.map some ++ List.replicate (N - n) none) with ⟨e, q⟩ | ⟨e, q⟩ | ⟨e, q⟩ | ⟨d, q⟩ | q | ⟨x, e, q⟩
    · cases fr with
      | true => exact .inr (.inl fun T => by rw [el, q T]; rfl)
      | false => exact .inl ⟨.non, fun T => by rw [el, q T]; rfl⟩
    · exact .inr (.inl fun T => by rw [el, q T])
    · exact .inr (.inl fun T => by rw [el, q T])
    · exact .inl ⟨d, fun T => by rw [el, q T]⟩
    · exact .inr (.inl fun T => by rw [el, q T])
    · exact .inr (.inr ⟨x, fun T => by rw [el, q T]⟩)
  · exact .inr (.inl fun T => by unfold fnD; rw [if_neg hl])
theorem PurF.zero : PurF fun _ _ => Res.no := fun _ => .noo
/-- from one tape to all -/
theorem PR.at_ {α : Type} {r : Tp → Res α} {a : α} (h : PR r) (e : r none = .ok a none) (T : Tp) : r T = .ok a T := by
  rcases h with ⟨a', h⟩ | h | ⟨x, h⟩
  · have z := (h none).symm.trans e
    cases z
    exact h T
  · have z := (h none).symm.trans e
    cases z
  · have z := (h none).symm.trans e
    cases z
end
end Ev

/-! Ev: zip of a list or a tuple beside a list or a tuple -/
namespace Ev
open PySem PySem.Spec PyProof.Rows L2
/-- a tuple (true) or a list -/
def SqK (t : Bool) (K : PySem.W.Frag) (H : Hp) (a : Addr) (xs : List V) : Prop := if t then SqT K H a xs else SqL K H a xs
def ItK (t : Bool) (h : Heap) (it a : Addr) (k : Nat) : Prop := if t then h.IsTupleIter it a k else h.IsListIter it a k
def ArK (t : Bool) (h : Heap) (a : Addr) (vs : Array Value) : Prop := if t then h.IsTuple a vs else h.IsList a vs
def ooK (t : Bool) (a : Addr) : Obj := if t then { cls := .type "tuple_iterator", data := .fields #[.ref a, .int 0 0] } else { cls := .type "list_iterator", data := .fields #[.ref a, .int 0 0] }
theorem ItK.at {t : Bool} {h h' : Heap} {it a : Addr} {k : Nat} (x : ItK t h it a k) (e : ∀ o, h.get? it = some o → h'.get? it = some o) : ItK t h' it a k := by
  cases t with
  | true => exact Heap.IsTupleIter.at x e
  | false => exact Heap.IsListIter.at x e
theorem ItK.obj {t : Bool} {h : Heap} {it a : Addr} {k : Nat} (x : ItK t h it a k) : ∃ o, h.get? it = some o ∧ ∀ v, o.data ≠ .cell v := by
  cases t with
  | true => obtain ⟨o, ho, _, hd⟩ := x; exact ⟨o, ho, fun v q => by rw [hd] at q; cases q⟩
  | false => obtain ⟨o, ho, _, hd⟩ := x; exact ⟨o, ho, fun v q => by rw [hd] at q; cases q⟩
theorem itK_new {t : Bool} {h : Heap} {it a : Addr} (e : h.get? it = some (ooK t a)) : ItK t h it a 0 := by
  cases t with
  | true => exact ⟨_, e, rfl, rfl⟩
  | false => exact ⟨_, e, rfl, rfl⟩
theorem beginsK (t : Bool) (a : Addr) (vs : Array Value) : Begins (.ref a) (ooK t a) fun h => ArK t h a vs := by
  cases t with
  | true => exact begins_tuple a vs
  | false => exact begins_list a vs
theorem drawsK {prog : Program} {w : World} {A : Around} (hh : A.handled = none) (t : Bool) (it a : Addr) (hne : a ≠ it) (vs : Array Value) :
    Draws prog w A it [it, a] vs.size (fun i v => vs[i]? = some v) fun i h => ItK t h it a i ∧ ArK t h a vs := by
  cases t with
  | true => exact Draws.tuple hh it a hne vs
  | false => exact Draws.list hh it a hne vs
section
variable {X : Cx} {pins : List (Addr × Obj)} {σ : L2.St} {H : Hp} {s : Shared} {a : Addr} {xs ys : List V}
theorem seqK {t : Bool} (I : Inv X pins σ H s) (h : SqK t X.K H a xs) : ∃ its : List Value, Vals xs its ∧ ArK t s.heap a its.toArray ∧ a < s.heap.objs.size := by
  cases t with
  | true =>
    obtain ⟨its, rv, p, _⟩ := I.tuple h
    obtain ⟨o, ho, _⟩ := id p
    exact ⟨its, rv, p, Heap.lt_size ho⟩
  | false =>
    obtain ⟨its, rv, p, _⟩ := I.list h
    exact ⟨its, rv, p.isList, p.lt⟩
theorem seqK_inj {t : Bool} (I : Inv X pins σ H s) (h : SqK t X.K H a xs) (h' : SqK t X.K H a ys) : xs = ys := by
  cases t with
  | true => exact I.tuple_inj h h'
  | false => exact I.list_inj h h'
end
def ItzK (K : PySem.W.Frag) (t u : Bool) (a b : Addr) : It :=
  ⟨fun n H => ∃ (xs ys : List V) (x y : V), SqK t K H a xs ∧ SqK u K H b ys ∧ xs[n]? = some x ∧ ys[n]? = some y,
    fun n H v H' => ∃ p x y, v = .ref p ∧ H p = none ∧ H' = upd H p (.tup [x, y]) ∧ (∀ xs, SqK t K H a xs → xs[n]? = some x) ∧ ∀ ys, SqK u K H b ys → ys[n]? = some y,
    fun n H => ∃ xs ys : List V, SqK t K H a xs ∧ SqK u K H b ys ∧ n ≤ xs.length ∧ n ≤ ys.length ∧ (n = xs.length ∨ n = ys.length)⟩
theorem sepK {zz ti oo j1 j2 a b : Addr} (D : ZipApart zz ti oo j1 j2 a b) : ZipSep2 zz ti oo j1 j2 [j1, a] [j2, b] where
  TIz := D.TIz
  TOz := D.TOz
  TITO := D.TITO
  TIi1 := D.TIi1
  mem1 := by simp
  zf1 := by
    intro h
    rcases List.mem_cons.mp h with h | h
    · exact D.i1z h.symm
    · exact D.l1z (List.mem_singleton.mp h).symm
  Tf1 := by
    intro h
    rcases List.mem_cons.mp h with h | h
    · exact D.TOi1 h
    · exact D.l1TO (List.mem_singleton.mp h).symm
  TIi2 := D.TIi2
  mem2 := by simp
  zf2 := by
    intro h
    rcases List.mem_cons.mp h with h | h
    · exact D.i2z h.symm
    · exact D.l2z (List.mem_singleton.mp h).symm
  Tf2 := by
    intro h
    rcases List.mem_cons.mp h with h | h
    · exact D.TOi2 h
    · exact D.l2TO (List.mem_singleton.mp h).symm
  sep1_2 := by
    intro h
    rcases List.mem_cons.mp h with h | h
    · exact D.i12 h
    · exact D.l2i1 (List.mem_singleton.mp h).symm
  sep2_1 := by
    intro h
    rcases List.mem_cons.mp h with h | h
    · exact D.i12 h.symm
    · exact D.l1i2 (List.mem_singleton.mp h).symm
theorem five {c zz ti oo j1 j2 : Addr} (h : c ∈ [zz, ti, oo, j1, j2]) : c = zz ∨ c = ti ∨ c = oo ∨ c = j1 ∨ c = j2 := by simpa using h
theorem turn_zipK {P : Program} {w : World} {K : PySem.W.Frag} {elts : List Expr} {kk : Nat} {tpos : Pos} {t u : Bool} {a b zz ti oo j1 j2 : Addr} (D : ZipApart zz ti oo j1 j2 a b) :
    Turn P w K (.Tuple elts kk tpos) (ItzK K t u a b) [zz, ti, oo, j1, j2] zz fun n h => IsZip h zz ti oo .none ∧ IsTupOf2 h ti (.ref j1) (.ref j2) ∧ (∃ x y, IsTupOf2 h oo x y) ∧ ItK t h j1 a n ∧ ItK u h j2 b n where
  mem := by simp
  obj := fun n h st c hc => by
    obtain ⟨q1, q2, ⟨x, y, q3⟩, q4, q5⟩ := st
    rcases five hc with e | e | e | e | e <;> subst e
    · exact ⟨_, q1, fun v q => nomatch q⟩
    · exact ⟨_, q2, fun v q => nomatch q⟩
    · exact ⟨_, q3, fun v q => nomatch q⟩
    · exact q4.obj
    · exact q5.obj
  keep := fun n h h' st k => by
    obtain ⟨q1, q2, ⟨x, y, q3⟩, q4, q5⟩ := st
    exact ⟨k zz (by simp) _ q1, k ti (by simp) _ q2, ⟨x, y, k oo (by simp) _ q3⟩, q4.at (k j1 (by simp)), q5.at (k j2 (by simp))⟩
  item := by
    intro X hP hw hK hc n pins s σ H E I hf st hg
    subst hP hw hK
    obtain ⟨q1, q2, ⟨x0, y0, q3⟩, q4, q5⟩ := st
    obtain ⟨xs, ys, x, y, g1, g2, g3, g4⟩ := hg
    obtain ⟨us, r1, p1, _⟩ := seqK I g1
    obtain ⟨ws, r2, p2, _⟩ := seqK I g2
    obtain ⟨ux, hx, rx⟩ := r1.get g3
    obtain ⟨uy, hy, ry⟩ := r2.get g4
    have hn1 : n < us.toArray.size := by
      rw [List.size_toArray]
      rcases Nat.lt_or_ge n us.length with z | z
      · exact z
      · rw [List.getElem?_eq_none z] at hx; cases hx
    have hn2 : n < ws.toArray.size := by
      rw [List.size_toArray]
      rcases Nat.lt_or_ge n ws.length with z | z
      · exact z
      · rw [List.getElem?_eq_none z] at hy; cases hy
    have hzl : zz < s.heap.objs.size := Heap.lt_size q1
    have hh : X.A.in1.handled = none := I.ok.hd hc
    refine wpAny_pyNext_zipD2_item (sepK D) (drawsK hh t j1 a D.l1i1 us.toArray) (drawsK hh u j2 b D.l2i2 ws.toArray) q1 q2 q3 ⟨q4, p1⟩ ⟨q5, p2⟩ hn1 hn2 fun v1 v2 h' tk y1 y2 b1 b2 d1 d2 b5 b6 hk => ?_
    have e1 : v1 = ux := by
      have z : us.toArray[n]? = some v1 := y1
      have z2 : us.toArray[n]? = some ux := by simpa using hx
      exact Option.some.inj (z.symm.trans z2)
    have e2 : v2 = uy := by
      have z : ws.toArray[n]? = some v2 := y2
      have z2 : ws.toArray[n]? = some uy := by simpa using hy
      exact Option.some.inj (z.symm.trans z2)
    subst e1 e2
    refine ⟨_, rfl, wpAny_letOwnedTupleGo_zip (s := { s with heap := h', toks := tk }) b1 fun h2 z2 sb => ?_⟩
    have hT : h2.get? s.heap.objs.size = some { cls := .type "tuple", data := .seq #[v1, v2] } := (sb.2 _ (Nat.ne_of_gt hzl)).trans b5
    have new : ObjOk X.prog X.w (upd H s.heap.objs.size (.tup [x, y])) h2 s.heap.objs.size (.tup [x, y]) :=
      ⟨(show 2 ≤ sizeLine from by decide), [v1, v2], .cons rx (.cons ry .nil), ⟨_, hT, rfl, _, rfl⟩⟩
    have I1 : Inv X pins σ (upd H s.heap.objs.size (.tup [x, y])) { s with heap := h2, toks := tk } :=
      I.turnedNew (ch := [zz, ti, oo, j1, j2]) (fun c o hb q => (sb.2 c (fun e => hb (by simp [e]))).trans (hk c o (fun e => hb (by simp [e])) (fun e => hb (by simp [e])) (fun e => hb (by simp [e])) (fun e => hb (by simp [e])) q)) hf (Nat.le_refl _) new
    refine ⟨.ref s.heap.objs.size, _, I1, rfl, ⟨_, x, y, rfl, I.hok.fresh (Nat.le_refl _), rfl, fun l hl => ?_, fun l hl => ?_⟩, ⟨z2, ?_, ⟨v1, v2, ?_⟩, ?_, ?_⟩, fun c hcm => ?_⟩
    · rw [seqK_inj I hl g1]; exact g3
    · rw [seqK_inj I hl g2]; exact g4
    · exact (sb.2 _ D.TIz).trans (hk _ _ D.TIz D.TITO D.TIi1 D.TIi2 q2)
    · exact (sb.2 _ D.TOz).trans b2
    · exact d1.1.at fun o q => (sb.2 _ D.i1z).trans q
    · exact d2.1.at fun o q => (sb.2 _ D.i2z).trans q
    · have hlt : c < s.heap.objs.size := by
        rcases five hcm with e | e | e | e | e
        · rw [e]; exact hzl
        · rw [e]; exact Heap.lt_size q2
        · rw [e]; exact Heap.lt_size q3
        · rw [e]; obtain ⟨_, z, _⟩ := q4.obj; exact Heap.lt_size z
        · rw [e]; obtain ⟨_, z, _⟩ := q5.obj; exact Heap.lt_size z
      rw [upd_ne (Nat.ne_of_lt hlt)]
      exact (hf c hcm).1
  done := by
    intro X hP hw hK hc n pins s σ H E I hf st hg
    subst hP hw hK
    obtain ⟨q1, q2, ⟨x0, y0, q3⟩, q4, q5⟩ := st
    obtain ⟨xs, ys, g1, g2, g3, g4, g5⟩ := hg
    obtain ⟨us, r1, p1, _⟩ := seqK I g1
    obtain ⟨ws, r2, p2, _⟩ := seqK I g2
    have m1 := r1.length
    have m2 := r2.length
    have z1 : us.toArray.size = us.length := List.size_toArray ..
    have z2 : ws.toArray.size = ws.length := List.size_toArray ..
    have hh : X.A.in1.handled = none := I.ok.hd hc
    exact wpAny_pyNext_zipD2_end (sepK D) (drawsK hh t j1 a D.l1i1 us.toArray) (drawsK hh u j2 b D.l2i2 ws.toArray) q1 q2 q3 ⟨q4, p1⟩ ⟨q5, p2⟩ (by omega) (by omega) (by omega) fun h' tk hk =>
      ⟨rfl, I.turnedL (ch := [zz, ti, oo, j1, j2]) (fun c o hb q => hk c o (fun e => hb (by simp [e])) (fun e => hb (by simp [e])) (fun e => hb (by simp [e])) (fun e => hb (by simp [e])) q) hf⟩
  self := fun A n s Q E st h => wpAny_pyIter_zip st.1 h
def iZipK (K : PySem.W.Frag) (ta : TA) : TI := fun σ H R => ta σ H fun vs H1 => ∃ (a b : Addr) (xs ys : List V) (t u : Bool), vs = [.ref a, .ref b] ∧ SqK t K H1 a xs ∧ SqK u K H1 b ys ∧ R (ItzK K t u a b) H1
theorem pi_zipK {X : Cx} {e e2 : Expr} {ta : TA} {p pos tpos : Pos} {elts : List Expr} {kk : Nat} (hg : Gl X "zip") (hm : X.mg "zip" = none) (ha : PA X [e, e2] ta)
    (hs : starEach [e, e2] X.env = (false, eval e X.env) :: starEach [e2] X.env) (hpl : (backTo pos (starEach [e2] X.env)).any (·.1) = false) : PI X (.Tuple elts kk tpos) (.Call (.Name "zip" p) [e, e2] [] pos) (iZipK X.K ta) := by
  refine ⟨fun pins s σ H R I h => ?_⟩
  refine Call_ (ld_blt I hg hm PyProof.Rows.boot_zip (PyProof.Rows.callWith_type1 (thn (ha.run pos pins s σ H _ I h) fun us s1 ⟨vs, H1, I1, r1, q1⟩ => ?_) hs hpl))
  obtain ⟨a, b, xs, ys, t, u, ev, g1, g2, q⟩ := q1
  subst ev
  cases r1 with
  | cons ra rr =>
    cases rr with
    | cons rb rr =>
      cases rr
      cases ra
      cases rb
      obtain ⟨us1, w1, p1, k1⟩ := seqK I1 g1
      obtain ⟨us2, w2, p2, k2⟩ := seqK I1 g2
      generalize hN : s1.heap.objs.size = N at *
      have fresh : ∀ c, c ∈ [N + 4, N + 2, N + 3, N, N + 1] → FpOk X pins H1 c := fun c hcm => by
        have hle : s1.heap.objs.size ≤ c := by
          rw [hN]
          rcases five hcm with z | z | z | z | z <;> rw [z] <;> first | exact Nat.le_refl _ | exact Nat.le_add_right _ _
        exact I1.fpOk hle (I1.hok.fresh hle)
      refine zip_begins2 (beginsK t a us1.toArray) (beginsK u b us2.toArray) p1 p2 fun h' hz hTI hTO h1 h2 hsz hk => wpAny_pyIter_zip hz ?_
      rw [hN] at hz hTI hTO h1 h2
      have I2 : Inv X pins σ H1 { s1 with heap := h' } := I1.kept (t' := s1.toks) hk
      rw [hN]
      exact ⟨N + 4, [N + 4, N + 2, N + 3, N, N + 1], _, _, H1, rfl, I2, turn_zipK (PySem.W.ktu_apart N a b k1 k2), ⟨hz, hTI, ⟨_, _, hTO⟩, itK_new h1, itK_new h2⟩, fresh, q⟩
def prs (a b : List D) : List D := List.zipWith (fun x y => .tup [x, y]) a b
def zip2K : List D → Option (List D)
  | [.lst a, .lst b] => some (prs a b)
  | [.tup a, .tup b] => some (prs a b)
  | [.tup a, .lst b] => some (prs a b)
  | [.lst a, .tup b] => some (prs a b)
  | _ => none
def mk (t : Bool) (a : List D) : D := if t then .tup a else .lst a
theorem rep_mk {g : Gh} {H : Hp} {O : Addr → Prop} {v : V} {t : Bool} {a : List D} (h : Rep g (fz H O) v (mk t a)) : ∃ p ws, v = .ref p ∧ SqK t g.K H p ws ∧ RepL g (fz H O) ws a := by
  cases t with
  | true =>
    have h : Rep g (fz H O) v (.tup a) := h
    cases h with
    | tup h1 r => exact ⟨_, _, rfl, fz_le.sqT h1, r⟩
  | false =>
    have h : Rep g (fz H O) v (.lst a) := h
    cases h with
    | lst h1 r => exact ⟨_, _, rfl, .inl (.inl (fz_le _ _ h1)), r⟩
theorem sim_zipK {g : Gh} {p q : Addr} {t u : Bool} {a b : List D} : Sim g (ItzK g.K t u p q) (prs a b) [.ref p, .ref q] [mk t a, mk u b] := fun H O hO r i => by
  obtain ⟨ws1, s1, r1⟩ : ∃ ws, SqK t g.K H p ws ∧ RepL g (fz H O) ws a := by
    cases r with
    | cons q _ =>
      obtain ⟨_, ws, e, s, r⟩ := rep_mk q
      cases e
      exact ⟨ws, s, r⟩
  obtain ⟨ws2, s2, r2⟩ : ∃ ws, SqK u g.K H q ws ∧ RepL g (fz H O) ws b := by
    cases r with
    | cons _ q =>
      cases q with
      | cons q _ =>
        obtain ⟨_, ws, e, s, r⟩ := rep_mk q
        cases e
        exact ⟨ws, s, r⟩
  have hlen : (prs a b).length = min a.length b.length := List.length_zipWith ..
  rw [hlen]
  refine ⟨fun hi => ?_, fun hi => ⟨ws1, ws2, s1, s2, by rw [r1.len]; omega, by rw [r2.len]; omega, by rw [r1.len, r2.len]; omega⟩⟩
  have ha : a[i]? = some a[i] := List.getElem?_eq_getElem (by omega)
  have hb : b[i]? = some b[i] := List.getElem?_eq_getElem (by omega)
  obtain ⟨v1, e1, q1⟩ := r1.get ha
  obtain ⟨v2, e2, q2⟩ := r2.get hb
  refine ⟨⟨ws1, ws2, v1, v2, s1, s2, e1, e2⟩, fun v H' ⟨t, x, y, ev, nt, eh, f1, f2⟩ => ⟨_, zipW_get ha hb, .inr ⟨t, .tup [x, y], nt, eh, ?_⟩⟩⟩
  have z1 := f1 _ s1
  have z2 := f2 _ s2
  rw [e1] at z1; rw [e2] at z2
  cases z1; cases z2
  subst ev
  exact new_pair nt hO q1 q2
theorem zip2K_some {ds ys : List D} (h : zip2K ds = some ys) : ∃ t u a b, ds = [mk t a, mk u b] ∧ ys = prs a b := by
  unfold zip2K at h
  split at h
  · cases h; exact ⟨false, false, _, _, rfl, rfl⟩
  · cases h; exact ⟨true, true, _, _, rfl, rfl⟩
  · cases h; exact ⟨true, false, _, _, rfl, rfl⟩
  · cases h; exact ⟨false, true, _, _, rfl, rfl⟩
  · cases h
section
variable {X : Cx} {W : WX} {S : List Nat} {a b : Expr} {ca cb : Ex}
theorem si_zip2K {elts : List Expr} {kk : Nat} {p pos tpos : Pos} (hg : Gl X "zip") (hm : X.mg "zip" = none) (ha : SA X W S [a, b] [ca, cb] .fro) (hs : starEach [a, b] X.env = (false, eval a X.env) :: starEach [b] X.env := by rfl) (hpl : (backTo pos (starEach [b] X.env)).any (·.1) = false := by rfl) :
    SI X W S (.Tuple elts kk tpos) (.Call (.Name "zip" p) [a, b] [] pos) (apI zip2K [ca, cb]) := ⟨_, pi_zipK hg hm ha.pa hs hpl, fun F T H O Rr ft r p => by
  refine tA_bindI ft r p fun ds T1 vs H1 O1 r1 q1 p1 => ?_
  cases hz : zip2K ds with
  | none => rw [hz] at p1; exact False.elim p1
  | some ys =>
    rw [hz] at p1
    obtain ⟨t, u, da, db, rfl, rfl⟩ := zip2K_some hz
    obtain ⟨v, u', rfl, q, q2⟩ := mokl2 q1
    have q : Rep F.g (fz H1 O1) v (mk t da) := q
    have q2 : Rep F.g (fz H1 O1) u' (mk u db) := q2
    obtain ⟨p1', ws1, rfl, s1, _⟩ := rep_mk q
    obtain ⟨p2', ws2, rfl, s2, _⟩ := rep_mk q2
    have z := p1 _ H1 O1 _ _ r1 (Le.refl _) (.cons q (.cons q2 .nil)) sim_zipK
    rw [ft.k] at z s1 s2
    exact ⟨p1', p2', ws1, ws2, t, u, rfl, s1, s2, z⟩⟩
end
end Ev

/-! Ev: dicts -/
namespace Ev
open PySem PySem.Spec PyProof.Rows L2

/-! ### keys -/
def kN : L2.Key → NestedKey
  | .inl i => .num i
  | .inr s => .text s
theorem kN_inj {a b : L2.Key} (h : kN a = kN b) : a = b := by
  cases a <;> cases b <;> simp [kN] at h <;> rw [h]
/-- a plain key -/
def leafD : D → Option L2.Key
  | .int i => some (.inl i)
  | .str s => some (.inr s)
  | _ => none
theorem leafD_some {d : D} {k : L2.Key} (h : leafD d = some k) : d = kD k := by
  cases d <;> simp [leafD] at h <;> subst h <;> rfl
theorem nkT_kD (k : L2.Key) : nkT (kD k) = some (kN k) := by
  cases k <;> simp [nkT, nk, kD, kN, NestedKey.depth]
def keyD (t : Bool) (d : D) : Option NestedKey := match t with
  | false => match leafD d with
    | some k => some (kN k)
    | none => none
  | true => match d with
    | .tup ds => nkT (.tup ds)
    | _ => none
theorem keyD_nkT {t : Bool} {d : D} {k : NestedKey} (h : keyD t d = some k) : nkT d = some k := by
  unfold keyD at h
  split at h
  · split at h
    · rename_i k' e
      cases h
      rw [leafD_some e]; exact nkT_kD k'
    · cases h
  · split at h
    · exact h
    · cases h
theorem nkT_some {d : D} {k : NestedKey} (h : nkT d = some k) : nk d = some k ∧ k.depth ≤ 8 := by
  unfold nkT at h
  split at h
  · split at h
    · cases h; rename_i e q; exact ⟨e, q⟩
    · cases h
  · cases h
def dlook : List (D × D) → NestedKey → Option D
  | [], _ => none
  | e :: r, k => if nkT e.1 = some k then some e.2 else dlook r k
def dhas : List (D × D) → NestedKey → Bool
  | [], _ => false
  | e :: r, k => decide (nkT e.1 = some k) || dhas r k
/-- d[k] = v -/
def dsto (es : List (D × D)) (kd : D) (k : NestedKey) (v : D) : List (D × D) :=
  if dhas es k then es.map (fun e => if nkT e.1 = some k then (e.1, v) else e) else es ++ [(kd, v)]
theorem dhas_look (k : NestedKey) : ∀ es : List (D × D), dhas es k = (dlook es k).isSome
  | [] => rfl
  | e :: r => by
    unfold dhas dlook
    by_cases h : nkT e.1 = some k
    · simp [h]
    · simp [h, dhas_look k r]
section
variable {X : Cx} {W : WX} {S S' Sl : List Nat} {fr : Bool} {e : Expr} {c cc : Ex} {m : Mode} {F : Cf} {T : Tp} {pins : List (Addr × Obj)} {σ : L2.St} {H Hf : Hp} {O : Addr → Prop} {s : Shared} {g : Gh} {a : Addr} {t : Bool} {es : List (D × D)} {o : HO} {us : List V} {w : World}
mutual
theorem Rep.key (I : Inv X pins σ H s) (hK : g.K = X.K) : ∀ {v : V} {d : D} {u : Value} {k : NestedKey}, Rep g H v d → nk d = some k → RelV v u → NestedIs s.heap k u
  | _, _, _, _, .non, h, r => by unfold nk at h; cases h; cases r; exact .none
  | _, _, _, _, .bl b, h, r => by unfold nk at h; cases h; cases r; exact .bool rfl
  | _, _, _, _, .int i, h, r => by unfold nk at h; cases h; obtain ⟨t, rfl⟩ := r; exact .int i t
  | _, _, _, _, .str i, h, r => by unfold nk at h; cases h; obtain ⟨t, rfl⟩ := r; exact .text i t
  | _, .tup ds, _, _, .tup a q, h, r => by
    unfold nk at h
    cases e : nks ds with
    | none => rw [e] at h; cases h
    | some ks =>
      rw [e] at h
      cases h
      cases r
      rw [hK] at a
      obtain ⟨its, rv, ⟨o, ho, hc, n, hd⟩, _⟩ := I.tuple a
      exact .tup ho hc hd (RepL.keys I hK q e rv)
  | _, _, _, _, .lst _ _, h, _ => by unfold nk at h; cases h
  | _, _, _, _, .scr _ _, h, _ => by unfold nk at h; cases h
  | _, _, _, _, .dct _ _ _, h, _ => by unfold nk at h; cases h
  | _, _, _, _, .tape _, h, _ => by unfold nk at h; cases h
  | _, _, _, _, .pin _, h, _ => by unfold nk at h; cases h
  | _, _, _, _, .prm _, h, _ => by unfold nk at h; cases h
  | _, _, _, _, .fnc _, h, _ => by unfold nk at h; cases h
theorem RepL.keys (I : Inv X pins σ H s) (hK : g.K = X.K) : ∀ {vs : List V} {ds : List D} {us : List Value} {ks : List NestedKey}, RepL g H vs ds → nks ds = some ks → Vals vs us → NestedAll s.heap ks us
  | _, _, _, _, .nil, h, r => by unfold nks at h; cases h; cases r; exact .nil
  | _, d :: ds, _, _, .cons a q, h, r => by
    unfold nks at h
    cases e : nk d with
    | none => rw [e] at h; cases h
    | some k =>
      cases e2 : nks ds with
      | none => rw [e, e2] at h; cases h
      | some ks =>
        rw [e, e2] at h
        cases h
        cases r with
        | cons r1 r2 => exact .cons (Rep.key I hK a e r1) (RepL.keys I hK q e2 r2)
end
theorem RepB.leaf {v : V} {d : D} {k : L2.Key} (h : RepB g H O v d) (e : leafD d = some k) : v = kV k := by
  cases d with
  | int i => cases e; exact rb_int h
  | str i => cases e; exact rb_str h
  | _ => cases e
theorem RepB.tupKey {v : V} {ds : List D} (h : RepB g H O v (.tup ds)) : Rep g H v (.tup ds) ∧ ∃ b, v = .ref b := by
  have h : Rep g (fz H O) v (.tup ds) := h
  refine ⟨h.le fz_le, ?_⟩
  cases h with
  | tup a b => exact ⟨_, rfl⟩

/-! ### what stands at a -/
theorem pairs_any {P P' : Program} : ∀ {es : List DictEntry} {l : List (L2.Key × Value)}, Pairs (mixKind P w) es l → Pairs (mixKind P' w) es l
  | _, _, .nil => .nil
  | _, _, .cons h e r => .cons h e (pairs_any r)
theorem raw_at (I : Inv X pins σ H s) {ar : Array DictEntry} {ep : Nat} (e : H a = some (PinD a ar ep)) : s.heap.DictRaw a ar ep := (I.hok a _ e).1
theorem kN_look {l : List (L2.Key × Value)} {vs : List V} {ds : List D} (k : L2.Key) : ∀ {es : List (D × D)}, es.map Prod.fst = l.map (fun p => kD p.1) → Vals vs (l.map (·.2)) → RepL g Hf vs (es.map Prod.snd) →
    (dlook es (kN k) = none ∧ valueAt l k = none) ∨ ∃ d v u, dlook es (kN k) = some d ∧ valueAt l k = some u ∧ RelV v u ∧ Rep g Hf v d := by
  intro es
  induction es generalizing l vs with
  | nil =>
    intro h _ _
    cases l with
    | nil => exact .inl ⟨rfl, rfl⟩
    | cons p l => cases h
  | cons e es ih =>
    intro h r q
    cases l with
    | nil => cases h
    | cons p l =>
      rw [List.map_cons, List.map_cons] at h
      injection h with h1 h2
      cases r with
      | cons r1 r2 =>
        cases q with
        | cons q1 q2 =>
          by_cases hk : p.1 = k
          · refine .inr ⟨e.2, _, p.2, ?_, ?_, r1, q1⟩
            · unfold dlook
              rw [if_pos (by rw [h1, hk]; exact nkT_kD k)]
            · simp [valueAt, hk]
          · have n : ¬ nkT e.1 = some (kN k) := fun z => hk (by
              rw [h1, nkT_kD] at z
              exact kN_inj (Option.some.inj z))
            rcases ih (vs := _) h2 r2 q2 with ⟨z1, z2⟩ | ⟨d, v, u, z1, z2, z3, z4⟩
            · refine .inl ⟨?_, ?_⟩
              · unfold dlook; rw [if_neg n]; exact z1
              · simpa [valueAt, hk] using z2
            · refine .inr ⟨d, v, u, ?_, ?_, z3, z4⟩
              · unfold dlook; rw [if_neg n]; exact z1
              · simpa [valueAt, hk] using z2
theorem nk_look {xs : List (NestedKey × Addr × Value)} {vs : List V} (k : NestedKey) : ∀ {es : List (D × D)}, (es.map Prod.fst).map nkT = xs.map (fun x => some x.1) → Vals vs (xs.map fun x => x.2.2) → RepL g Hf vs (es.map Prod.snd) →
    (dlook es k = none ∧ atKey xs k = none) ∨ ∃ d v p, dlook es k = some d ∧ atKey xs k = some p ∧ RelV v p.2 ∧ Rep g Hf v d := by
  intro es
  induction es generalizing xs vs with
  | nil =>
    intro h _ _
    cases xs with
    | nil => exact .inl ⟨rfl, rfl⟩
    | cons p l => cases h
  | cons e es ih =>
    intro h r q
    cases xs with
    | nil => cases h
    | cons p l =>
      rw [List.map_cons, List.map_cons, List.map_cons] at h
      injection h with h1 h2
      cases r with
      | cons r1 r2 =>
        cases q with
        | cons q1 q2 =>
          by_cases hk : p.1 = k
          · refine .inr ⟨e.2, _, p.2, ?_, ?_, r1, q1⟩
            · unfold dlook
              rw [if_pos (by rw [h1, hk])]
            · simp [atKey, hk]
          · have n : ¬ nkT e.1 = some k := fun z => hk (by
              rw [h1] at z
              exact Option.some.inj z)
            rcases ih (vs := _) h2 r2 q2 with ⟨z1, z2⟩ | ⟨d, v, u, z1, z2, z3, z4⟩
            · refine .inl ⟨?_, ?_⟩
              · unfold dlook; rw [if_neg n]; exact z1
              · simpa [atKey, hk] using z2
            · refine .inr ⟨d, v, u, ?_, ?_, z3, z4⟩
              · unfold dlook; rw [if_neg n]; exact z1
              · simpa [atKey, hk] using z2
theorem RepL.split {H : Hp} : ∀ {ks vs : List V} {as bs : List D}, ks.length = as.length → RepL g H (ks ++ vs) (as ++ bs) → RepL g H ks as ∧ RepL g H vs bs
  | [], _, [], _, _, h => ⟨.nil, h⟩
  | _ :: ks, _, _ :: as, _, e, .cons h r => by
    obtain ⟨a, b⟩ := RepL.split (ks := ks) (as := as) (by simpa using e) r
    exact ⟨.cons h a, b⟩
  | [], _, _ :: _, _, e, _ => by cases e
  | _ :: _, _, [], _, e, _ => by cases e
/-- the two kinds of dicts, as the rules want them -/
inductive DSt (X : Cx) (g : Gh) (s : Shared) (Hf : Hp) (a : Addr) (es : List (D × D)) : Bool → List V → List V → Array DictEntry → Prop
  | k {l : List (L2.Key × Value)} {vs : List V} {ar : Array DictEntry} : s.heap.DictOf (mixKind X.prog X.w) a l → l.length = ar.size → es.map Prod.fst = l.map (fun p => kD p.1) → Vals vs (l.map (·.2)) → RepL g Hf vs (es.map Prod.snd) → DSt X g s Hf a es false (l.map fun p => kV p.1) vs ar
  | n {xs : List (NestedKey × Addr × Value)} {vs : List V} {ar : Array DictEntry} : s.heap.DictOfH (nestedKind X.prog X.w) a xs → xs.length = ar.size → (es.map Prod.fst).map nkT = xs.map (fun x => some x.1) → Vals vs (xs.map fun x => x.2.2) → RepL g Hf (xs.map fun x => .ref x.2.1) (es.map Prod.fst) → RepL g Hf vs (es.map Prod.snd) → DSt X g s Hf a es true (xs.map fun x => .ref x.2.1) vs ar
theorem dh_len {kds : List D} (q : DH w a t o kds us) : ∃ ks vs, us = ks ++ vs ∧ ks.length = kds.length := by
  obtain ⟨ar, ep, ks, vs, _, _, _, rfl, h⟩ := q
  refine ⟨ks, vs, rfl, ?_⟩
  cases t with
  | false => obtain ⟨l, _, _, rfl, rfl, _⟩ := h; simp
  | true =>
    obtain ⟨xs, _, _, e, rfl, _⟩ := h
    have := congrArg List.length e
    simpa using this.symm
theorem dst_of (I : Inv X pins σ H s) (hK : g.K = X.K) (hw : g.w = X.w) (hf : Le Hf H) (h : H a = some o) (q : DH g.w a t o (es.map Prod.fst) us) (r : RepL g Hf us (flE es)) :
    ∃ ar ep ks vs, o = PinD a ar ep ∧ us = ks ++ vs ∧ (a == sysModules) = false ∧ ar.size ≤ sizeLine ∧ DSt X g s Hf a es t ks vs ar := by
  obtain ⟨ar, ep, ks, vs, rfl, hs, hz, rfl, z⟩ := q
  rw [hw] at z
  obtain ⟨ob, ho, hc, hd⟩ := raw_at I h
  refine ⟨ar, ep, ks, vs, rfl, rfl, hs, hz, ?_⟩
  cases t with
  | false =>
    obtain ⟨l, kp, nd, e1, rfl, rv⟩ := z
    obtain ⟨_, q2⟩ := RepL.split (by rw [e1]; simp) r
    exact .k ⟨ob, ar, ep, ho, hc, hd, (kp X.prog).1, (kp X.prog).2, nd⟩ (by rw [← (kp X.prog).2.length]; simp) e1 rv q2
  | true =>
    obtain ⟨xs, he, nd, e1, rfl, rv⟩ := z
    obtain ⟨q1, q2⟩ := RepL.split (by
      have := congrArg List.length e1
      simpa using this.symm) r
    refine .n ⟨ob, ar, ep, ho, hc, hd, he X.prog, ?_, nd⟩ (by have := congrArg List.length (he X.prog); simpa using this.symm) e1 rv q1 q2
    have key : ∀ (xs : List (NestedKey × Addr × Value)) (ds : List D), ds.map nkT = xs.map (fun x => some x.1) → RepL g Hf (xs.map fun x => V.ref x.2.1) ds → ∀ x ∈ xs, (nestedKind X.prog X.w).is s.heap x.1 x.2.1 := by
      intro xs
      induction xs with
      | nil => intro _ _ _ x hx; cases hx
      | cons x xs ih =>
        intro ds e q y hy
        cases ds with
        | nil => cases e
        | cons d ds =>
          rw [List.map_cons, List.map_cons] at e
          injection e with e1 e2
          cases q with
          | cons p1 p2 =>
            rcases List.mem_cons.mp hy with rfl | hy
            · obtain ⟨n1, n2⟩ := nkT_some e1
              exact ⟨Rep.key I hK (p1.le hf) n1 rfl, n2⟩
            · exact ih ds e2 p2 y hy
    exact key xs _ e1 q1
/-- a key, as the rules want it -/
theorem key_at (I : Inv X pins σ H s) (hK : g.K = X.K) {y : V} {d : D} {u : Value} {k : NestedKey} (hy : RepB g H O y d) (e : keyD t d = some k) (ry : RelV y u) :
    match t with
    | false => ∃ k', k = kN k' ∧ d = kD k' ∧ y = kV k' ∧ (mixKind X.prog X.w).is k' u = true
    | true => ∃ b, y = .ref b ∧ u = .ref b ∧ (nestedKind X.prog X.w).is s.heap k b ∧ Rep g (fz H O) y d := by
  cases t with
  | false =>
    unfold keyD at e
    simp only at e
    split at e
    · rename_i k' e'
      cases e
      have ev := hy.leaf e'
      subst ev
      exact ⟨k', rfl, leafD_some e', rfl, kV_is ry⟩
    · cases e
  | true =>
    unfold keyD at e
    simp only at e
    split at e
    · obtain ⟨n1, n2⟩ := nkT_some e
      obtain ⟨r1, b, rfl⟩ := hy.tupKey
      cases ry
      exact ⟨b, rfl, rfl, ⟨Rep.key I hK r1 n1 rfl, n2⟩, hy⟩
    · cases e
theorem room_n {A : Around} (hu : A.units + 65 < cLine) : (nestedKind X.prog X.w).room A.in1 := by
  show A.units + 1 + 8 < cLine
  omega
/-- what the rules below look at -/
structure DAt (X : Cx) (g : Gh) (H : Hp) (O : Addr → Prop) (a : Addr) (t : Bool) (es : List (D × D)) : Prop where
  k : g.K = X.K
  w : g.w = X.w
  at_ : ∃ o us, H a = some o ∧ DH g.w a t o (es.map Prod.fst) us ∧ RepL g (fz H O) us (flE es)
theorem rb_dct {v : V} (hK : g.K = X.K) (hw : g.w = X.w) (h : RepB g H O v (.dct t es)) : ∃ a, v = .ref a ∧ DAt X g H O a t es := by
  obtain ⟨p, o, vs, rfl, a, q, r⟩ := h
  exact ⟨p, rfl, hK, hw, o, vs, a, q, r⟩
theorem d4_in {neg : Bool} {Q : Value → Shared → Prop} {E : Value → Shared → Prop} (hu : X.A.units + 65 < cLine) (I : Inv X pins σ H s) (d : DAt X g H O a t es) {y : V} {kd : D} {u : Value} {k : NestedKey} (hy : RepB g H O y kd) (ek : keyD t kd = some k) (ry : RelV y u)
    (h : ∀ s', Inv X pins σ H s' → Q (.bool (if neg then !(dlook es k).isSome else (dlook es k).isSome)) s') : wpAny (model X.prog X.w) X.A (compareOp (if neg then .NotIn else .In) u (.ref a)) Q E s := by
  obtain ⟨hK, hw, o, us, ho, q, r⟩ := d
  obtain ⟨ar, ep, ks, vs, rfl, rfl, hs, hz, st⟩ := dst_of I hK hw fz_le ho q r
  have ka := key_at (X := X) I hK hy ek ry
  cases st with
  | @k l _ _ dd _ e1 rv q2 =>
    obtain ⟨k', rfl, _, _, hk⟩ := ka
    have lk : (dlook es (kN k')).isSome = (valueAt l k').isSome := by
      rcases kN_look (ds := []) k' e1 rv q2 with ⟨z1, z2⟩ | ⟨d, v, u, z1, z2, _⟩
      · rw [z1, z2]; rfl
      · rw [z1, z2]; rfl
    rw [lk] at h
    cases neg with
    | false => exact wpAny_in_of hk hs dd.mapOf (h _ (I.tok _))
    | true => exact wpAny_notIn_of hk hs dd.mapOf (h _ (I.tok _))
  | @n xs _ _ dd _ e1 rv q1 q2 =>
    obtain ⟨b, rfl, rfl, hk, _⟩ := ka
    have lk : (dlook es k).isSome = (atKey xs k).isSome := by
      rcases nk_look k e1 rv q2 with ⟨z1, z2⟩ | ⟨d, v, u, z1, z2, _⟩
      · rw [z1, z2]; rfl
      · rw [z1, z2]; rfl
    rw [lk] at h
    cases neg with
    | false => exact wpAny_in_heap (room_n hu) hk hs dd (h _ (I.tok _))
    | true => exact wpAny_notIn_heap (room_n hu) hk hs dd (h _ (I.tok _))
theorem d4_get {Q : Value → Shared → Prop} {E : Value → Shared → Prop} (hu : X.A.units + 65 < cLine) (I : Inv X pins σ H s) (d : DAt X g H O a t es) {y : V} {kd vd : D} {u : Value} {k : NestedKey} (hy : RepB g H O y kd) (ek : keyD t kd = some k) (ev : dlook es k = some vd) (ry : RelV y u)
    (h : ∀ v w' s', Inv X pins σ H s' → RelV v w' → Rep g (fz H O) v vd → Q w' s') : wpAny (model X.prog X.w) X.A (getItem (.ref a) u) Q E s := by
  obtain ⟨hK, hw, o, us, ho, q, r⟩ := d
  obtain ⟨ar, ep, ks, vs, rfl, rfl, hs, hz, st⟩ := dst_of I hK hw fz_le ho q r
  have ka := key_at (X := X) I hK hy ek ry
  cases st with
  | k dd _ e1 rv q2 =>
    obtain ⟨k', rfl, _, _, hk⟩ := ka
    rcases kN_look (ds := []) k' e1 rv q2 with ⟨z1, z2⟩ | ⟨d, v, u, z1, z2, z3, z4⟩
    · rw [z1] at ev; cases ev
    · rw [z1] at ev
      cases ev
      exact wpAny_getItem_of hk dd.mapOf z2 (h v u _ (I.tok _) z3 z4)
  | n dd _ e1 rv q1 q2 =>
    obtain ⟨b, rfl, rfl, hk, _⟩ := ka
    rcases nk_look k e1 rv q2 with ⟨z1, z2⟩ | ⟨d, v, p, z1, z2, z3, z4⟩
    · rw [z1] at ev; cases ev
    · rw [z1] at ev
      cases ev
      exact wpAny_getItem_heap (room_n hu) hk dd z2 (h v p.2 _ (I.tok _) z3 z4)
/-! ### d[k] = v -/
theorem leaf_upd {l : List (L2.Key × Value)} {vs : List V} {v : V} {r : Value} {vd : D} (k : L2.Key) (rv : RelV v r) (hv : Rep g Hf v vd) : ∀ {es : List (D × D)}, es.map Prod.fst = l.map (fun p => kD p.1) → Vals vs (l.map (·.2)) → RepL g Hf vs (es.map Prod.snd) →
    ∃ vs', (es.map fun e => if nkT e.1 = some (kN k) then (e.1, vd) else e).map Prod.fst = (l.map fun kv => if kv.1 = k then (kv.1, r) else kv).map (fun p => kD p.1) ∧ Vals vs' ((l.map fun kv => if kv.1 = k then (kv.1, r) else kv).map (·.2)) ∧
      RepL g Hf vs' ((es.map fun e => if nkT e.1 = some (kN k) then (e.1, vd) else e).map Prod.snd) := by
  intro es
  induction es generalizing l vs with
  | nil =>
    intro h _ _
    cases l with
    | nil => exact ⟨[], rfl, .nil, .nil⟩
    | cons p l => cases h
  | cons e es ih =>
    intro h r0 q
    cases l with
    | nil => cases h
    | cons p l =>
      rw [List.map_cons, List.map_cons] at h
      injection h with h1 h2
      cases r0 with
      | @cons w0 _ _ _ r1 r2 =>
        cases q with
        | cons q1 q2 =>
          obtain ⟨vs', z1, z2, z3⟩ := ih h2 r2 q2
          have hd : nkT e.1 = some (kN p.1) := by rw [h1]; exact nkT_kD p.1
          by_cases hk : p.1 = k
          · refine ⟨v :: vs', ?_, ?_, ?_⟩
            · rw [List.map_cons, List.map_cons, List.map_cons, List.map_cons, z1, if_pos (by rw [hd, hk]), if_pos hk]
              exact congrArg (· :: _) h1
            · rw [List.map_cons, List.map_cons, if_pos hk]
              exact .cons rv z2
            · rw [List.map_cons, List.map_cons, if_pos (by rw [hd, hk])]
              exact .cons hv z3
          · have n : ¬ nkT e.1 = some (kN k) := fun z => hk (by rw [hd] at z; exact kN_inj (Option.some.inj z))
            refine ⟨w0 :: vs', ?_, ?_, ?_⟩
            · rw [List.map_cons, List.map_cons, List.map_cons, List.map_cons, z1, if_neg n, if_neg hk]
              exact congrArg (· :: _) h1
            · rw [List.map_cons, List.map_cons, if_neg hk]
              exact .cons r1 z2
            · rw [List.map_cons, List.map_cons, if_neg n]
              exact .cons q1 z3
theorem nest_upd {l : List (NestedKey × Addr × Value)} {vs : List V} {v : V} {r : Value} {vd : D} (k : NestedKey) (rv : RelV v r) (hv : Rep g Hf v vd) : ∀ {es : List (D × D)}, (es.map Prod.fst).map nkT = l.map (fun p => some p.1) → Vals vs (l.map (·.2.2)) → RepL g Hf vs (es.map Prod.snd) →
    ∃ vs', ((es.map fun e => if nkT e.1 = some k then (e.1, vd) else e).map Prod.fst).map nkT = (l.map (putAt k r)).map (fun p => some p.1) ∧ Vals vs' ((l.map (putAt k r)).map (·.2.2)) ∧
      RepL g Hf vs' ((es.map fun e => if nkT e.1 = some k then (e.1, vd) else e).map Prod.snd) := by
  intro es
  induction es generalizing l vs with
  | nil =>
    intro h _ _
    cases l with
    | nil => exact ⟨[], rfl, .nil, .nil⟩
    | cons p l => cases h
  | cons e es ih =>
    intro h r0 q
    cases l with
    | nil => cases h
    | cons p l =>
      rw [List.map_cons, List.map_cons, List.map_cons] at h
      injection h with h1 h2
      cases r0 with
      | @cons w0 _ _ _ r1 r2 =>
        cases q with
        | cons q1 q2 =>
          obtain ⟨vs', z1, z2, z3⟩ := ih h2 r2 q2
          by_cases hk : p.1 = k
          · have ep : putAt k r p = (p.1, p.2.1, r) := by unfold putAt; rw [if_pos hk]
            refine ⟨v :: vs', ?_, ?_, ?_⟩
            · rw [List.map_cons, List.map_cons, List.map_cons, List.map_cons, List.map_cons, z1, if_pos (by rw [h1, hk]), ep]
              exact congrArg (· :: _) h1
            · rw [List.map_cons, List.map_cons, ep]
              exact .cons rv z2
            · rw [List.map_cons, List.map_cons, if_pos (by rw [h1, hk])]
              exact .cons hv z3
          · have n : ¬ nkT e.1 = some k := fun z => hk (by rw [h1] at z; exact Option.some.inj z)
            have ep : putAt k r p = p := by unfold putAt; rw [if_neg hk]
            refine ⟨w0 :: vs', ?_, ?_, ?_⟩
            · rw [List.map_cons, List.map_cons, List.map_cons, List.map_cons, List.map_cons, z1, if_neg n, ep]
              exact congrArg (· :: _) h1
            · rw [List.map_cons, List.map_cons, ep]
              exact .cons r1 z2
            · rw [List.map_cons, List.map_cons, if_neg n]
              exact .cons q1 z3
theorem valueAt_any (k : L2.Key) : ∀ l : List (L2.Key × Value), (valueAt l k).isSome = l.any (fun kv => decide (kv.1 = k))
  | [] => rfl
  | p :: l => by
    have ih := valueAt_any k l
    unfold valueAt at ih ⊢
    rw [Option.isSome_map] at ih ⊢
    cases hh : decide (p.1 = k) <;> simp [List.find?_cons, hh, ih]
theorem keys_upd {k : NestedKey} {vd : D} (es : List (D × D)) : (es.map fun e => if nkT e.1 = some k then (e.1, vd) else e).map Prod.fst = es.map Prod.fst := by
  rw [List.map_map]
  refine List.map_congr_left fun e _ => ?_
  simp only [Function.comp]
  split <;> rfl
theorem putAt_addr {k : NestedKey} {r : Value} (l : List (NestedKey × Addr × Value)) : (l.map (putAt k r)).map (fun x => V.ref x.2.1) = l.map (fun x => V.ref x.2.1) := by
  rw [List.map_map]
  refine List.map_congr_left fun e _ => ?_
  simp only [Function.comp, putAt]
  split <;> rfl
theorem dict_wr (I : Inv X pins σ H s) (ho : H a = some o) (mu : Mut (some o)) {h' : Heap} {tk : Nat} {ar' : Array DictEntry} {ep' : Nat} (hs : Heap.SameBut a s.heap h') (q : h'.DictRaw a ar' ep') : Inv X pins σ (upd H a (PinD a ar' ep')) { s with heap := h', toks := tk } := by
  have he : ∃ u, h'.get? a = some u := let ⟨u, hu, _⟩ := q; ⟨u, hu⟩
  exact d_write I (by rw [ho]; exact mu) hs he ⟨q, he, fun h1 h2 φ k => φ.at k⟩
theorem d4_setM {Q : Unit → Shared → Prop} {E : Value → Shared → Prop} {m : Sem Unit} {y v : V} {kd vd : D} {u r : Value} {k : NestedKey}
    (mp : ∀ (l : List (L2.Key × Value)) (k' : L2.Key) (Q : Unit → Shared → Prop), (mixKind X.prog X.w).is k' u = true → s.heap.DictOf (mixKind X.prog X.w) a l → (∀ h', h'.DictOf (mixKind X.prog X.w) a (stored l k' r) → Heap.SameBut a s.heap h' → Q () { s with heap := h', toks := s.toks + 1 }) → l.length ≤ sizeLine → wpAny (model X.prog X.w) X.A m Q E s)
    (mh : ∀ (xs : List (NestedKey × Addr × Value)) (b : Addr) (k : NestedKey) (Q : Unit → Shared → Prop), u = .ref b → (nestedKind X.prog X.w).is s.heap k b → s.heap.DictOfH (nestedKind X.prog X.w) a xs → (∀ h', h'.DictOfH (nestedKind X.prog X.w) a (storedH xs k b r) → Heap.SameBut a s.heap h' → Q () { s with heap := h', toks := s.toks + (nestedKind X.prog X.w).draws k }) → xs.length ≤ sizeLine → wpAny (model X.prog X.w) X.A m Q E s)
    (I : Inv X pins σ H s) (d : DAt X g H O a t es) (hy : RepB g H O y kd) (ek : keyD t kd = some k) (ry : RelV y u) (hv : Rep g (fz H O) v vd) (rv : RelV v r)
    (hl : es.length < sizeLine)
    (h : ∀ s' o' us', Inv X pins σ (upd H a o') s' → DH g.w a t o' ((dsto es kd k vd).map Prod.fst) us' → RepL g (fz H O) us' (flE (dsto es kd k vd)) → Q () s') : wpAny (model X.prog X.w) X.A m Q E s := by
  obtain ⟨hK, hw, o, us, ho, q, rr⟩ := d
  obtain ⟨ar, ep, ks, vs, rfl, rfl, hs, hz, st⟩ := dst_of I hK hw fz_le ho q rr
  have ka := key_at (X := X) I hK hy ek ry
  have mu : Mut (some (PinD a ar ep)) := True.intro
  cases st with
  | @k l _ _ dd hsz e1 rv0 q2 =>
    obtain ⟨k', rfl, rfl, rfl, hk⟩ := ka
    have hle : l.length = es.length := by have := congrArg List.length e1; simpa using this.symm
    refine mp _ _ _ hk dd (fun h' dd' hsb => ?_) (by rw [hsz]; exact hz)
    obtain ⟨ob', ar', ep', ho', hc', hd', kp', pr', nd'⟩ := dd'
    have hany : dhas es (kN k') = l.any (fun kv => decide (kv.1 = k')) := by
      rw [dhas_look]
      have z := valueAt_any k' l
      rw [← z]
      rcases kN_look (ds := []) k' e1 rv0 q2 with ⟨z1, z2⟩ | ⟨d, v, u, z1, z2, _⟩
      · rw [z1, z2]; rfl
      · rw [z1, z2]; rfl
    have hsize : ar'.size ≤ sizeLine := by
      have e := pr'.length
      have e' : ar'.size = (stored l k' r).length := by rw [← e]; simp
      rw [e']
      unfold stored
      split
      · rw [List.length_map]; omega
      · rw [List.length_append]; simp; omega
    have kr : ∀ l : List (L2.Key × Value), RepL g (fz H O) (l.map fun p => kV p.1) (l.map fun p => kD p.1) := by
      intro l
      induction l with
      | nil => exact .nil
      | cons p l ih =>
        refine .cons ?_ ih
        show Rep g (fz H O) (kV p.1) (kD p.1)
        cases p.1 with
        | inl i => exact .int i
        | inr i => exact .str i
    by_cases hh : dhas es (kN k') = true
    · obtain ⟨vs', c1, c2, c3⟩ := leaf_upd k' rv hv e1 rv0 q2
      have es1 : stored l k' r = l.map fun kv => if kv.1 = k' then (kv.1, r) else kv := by unfold stored; rw [if_pos (by rw [← hany]; exact hh)]
      have es2 : dsto es (kD k') (kN k') vd = es.map fun e => if nkT e.1 = some (kN k') then (e.1, vd) else e := by unfold dsto; rw [if_pos hh]
      rw [es1] at pr' nd'
      refine h _ (PinD a ar' ep') ((l.map fun kv => if kv.1 = k' then (kv.1, r) else kv).map (fun p => kV p.1) ++ vs') (dict_wr I ho mu hsb ⟨ob', ho', hc', hd'⟩) ?_ ?_
      · refine ⟨ar', ep', _, _, rfl, hs, hsize, rfl, ?_⟩
        rw [hw, es2]
        exact ⟨_, fun P => ⟨kp', pairs_any pr'⟩, nd', c1, rfl, c2⟩
      · rw [es2]
        unfold flE
        rw [c1]
        exact (kr _).append c3
    · have es1 : stored l k' r = l ++ [(k', r)] := by unfold stored; rw [if_neg (by rw [← hany]; exact hh)]
      have es2 : dsto es (kD k') (kN k') vd = es ++ [(kD k', vd)] := by unfold dsto; rw [if_neg hh]
      rw [es1] at pr' nd'
      refine h _ (PinD a ar' ep') ((l ++ [(k', r)]).map (fun p => kV p.1) ++ (vs ++ [v])) (dict_wr I ho mu hsb ⟨ob', ho', hc', hd'⟩) ?_ ?_
      · refine ⟨ar', ep', _, _, rfl, hs, hsize, rfl, ?_⟩
        rw [hw, es2]
        refine ⟨l ++ [(k', r)], fun P => ⟨kp', pairs_any pr'⟩, nd', ?_, rfl, ?_⟩
        · rw [List.map_append, List.map_append, e1]
          rfl
        · rw [List.map_append]
          exact rv0.append (.cons rv .nil)
      · rw [es2]
        unfold flE
        rw [List.map_append, List.map_append, List.map_append, e1]
        exact ((kr l).append (kr [(k', r)])).append (q2.append (.cons hv .nil))
  | @n xs _ _ dd hsz e1 rv0 q1 q2 =>
    obtain ⟨b, rfl, rfl, hk, hyr⟩ := ka
    have hle : xs.length = es.length := by have := congrArg List.length e1; simpa using this.symm
    refine mh _ _ _ _ rfl hk dd (fun h' dd' hsb => ?_) (by rw [hsz]; exact hz)
    obtain ⟨ob', ar', ep', ho', hc', hd', he', _, nd'⟩ := dd'
    have hany : dhas es k = (atKey xs k).isSome := by
      rw [dhas_look]
      rcases nk_look k e1 rv0 q2 with ⟨z1, z2⟩ | ⟨d, v, u, z1, z2, _⟩
      · rw [z1, z2]; rfl
      · rw [z1, z2]; rfl
    have hsize : ar'.size ≤ sizeLine := by
      have e' : ar'.size = (storedH xs k b r).length := by
        have := congrArg List.length he'
        simpa using this
      rw [e']
      unfold storedH
      split
      · rw [List.length_map]; omega
      · rw [List.length_append]; simp; omega
    by_cases hh : dhas es k = true
    · obtain ⟨vs', c1, c2, c3⟩ := nest_upd k rv hv e1 rv0 q2
      have es1 : storedH xs k b r = xs.map (putAt k r) := by unfold storedH; rw [if_pos (by rw [← hany]; exact hh)]
      have es2 : dsto es kd k vd = es.map fun e => if nkT e.1 = some k then (e.1, vd) else e := by unfold dsto; rw [if_pos hh]
      rw [es1] at he' nd'
      refine h _ (PinD a ar' ep') (xs.map (fun x => V.ref x.2.1) ++ vs') (dict_wr I ho mu hsb ⟨ob', ho', hc', hd'⟩) ?_ ?_
      · refine ⟨ar', ep', _, _, rfl, hs, hsize, rfl, ?_⟩
        rw [hw, es2]
        exact ⟨xs.map (putAt k r), fun P => he', nd', c1, (putAt_addr xs).symm, c2⟩
      · rw [es2]
        unfold flE
        rw [keys_upd]
        exact q1.append (by simpa using c3)
    · have es1 : storedH xs k b r = xs ++ [(k, b, r)] := by unfold storedH; rw [if_neg (by rw [← hany]; exact hh)]
      have es2 : dsto es kd k vd = es ++ [(kd, vd)] := by unfold dsto; rw [if_neg hh]
      rw [es1] at he' nd'
      refine h _ (PinD a ar' ep') ((xs ++ [(k, b, r)]).map (fun x => V.ref x.2.1) ++ (vs ++ [v])) (dict_wr I ho mu hsb ⟨ob', ho', hc', hd'⟩) ?_ ?_
      · refine ⟨ar', ep', _, _, rfl, hs, hsize, rfl, ?_⟩
        rw [hw, es2]
        refine ⟨xs ++ [(k, b, r)], fun P => he', nd', ?_, rfl, ?_⟩
        · rw [List.map_append, List.map_append, List.map_append, e1]
          simp [keyD_nkT ek]
        · rw [List.map_append]
          exact rv0.append (.cons rv .nil)
      · rw [es2]
        unfold flE
        rw [List.map_append, List.map_append, List.map_append]
        exact (q1.append (.cons hyr .nil)).append (q2.append (.cons hv .nil))
theorem d4_set {Q : Unit → Shared → Prop} {E : Value → Shared → Prop} (hu : X.A.units + 65 < cLine) (I : Inv X pins σ H s) (d : DAt X g H O a t es) {y v : V} {kd vd : D} {u r : Value} {k : NestedKey} (hy : RepB g H O y kd) (ek : keyD t kd = some k) (ry : RelV y u) (hv : Rep g (fz H O) v vd) (rv : RelV v r)
    (hl : es.length < sizeLine)
    (h : ∀ s' o' us', Inv X pins σ (upd H a o') s' → DH g.w a t o' ((dsto es kd k vd).map Prod.fst) us' → RepL g (fz H O) us' (flE (dsto es kd k vd)) → Q () s') : wpAny (model X.prog X.w) X.A (setItem (.ref a) u r) Q E s :=
  d4_setM (mp := fun l k' Q hk dd hq hz => wpAny_setItem_pairs (hsz := hz) hk dd hq) (mh := fun xs b k Q e hk dd hq hz => by subst e; exact wpAny_setItem_heap (hsz := hz) (room_n hu) hk dd hq) I d hy ek ry hv rv hl h
theorem room_0 {A : Around} (hu : A.units + 65 < cLine) : (nestedKind X.prog X.w).room A := by
  have z := room_n (X := X) (A := A) hu
  first
  | exact z
  | (have e : (nestedKind X.prog X.w).room A = (A.units + 64 < cLine) := rfl
     rw [e]; omega)
  | (show A.units + _ < cLine; omega)
theorem d4_store {Q : Unit → Shared → Prop} {E : Value → Shared → Prop} (hu : X.A.units + 65 < cLine) (I : Inv X pins σ H s) (d : DAt X g H O a t es) {y v : V} {kd vd : D} {u r : Value} {k : NestedKey} (hy : RepB g H O y kd) (ek : keyD t kd = some k) (ry : RelV y u) (hv : Rep g (fz H O) v vd) (rv : RelV v r)
    (hl : es.length < sizeLine)
    (h : ∀ s' o' us', Inv X pins σ (upd H a o') s' → DH g.w a t o' ((dsto es kd k vd).map Prod.fst) us' → RepL g (fz H O) us' (flE (dsto es kd k vd)) → Q () s') : wpAny (model X.prog X.w) X.A (dictSet a u r) Q E s :=
  d4_setM (mp := fun l k' Q hk dd hq hz => wpAny_dictSet_pairs (hsz := hz) hk dd hq) (mh := fun xs b k Q e hk dd hq hz => by subst e; exact wpAny_dictSet_heap (hsz := hz) (room_0 hu) hk dd hq) I d hy ek ry hv rv hl h
end
end Ev

/-! Ev: dicts' rules, methods -/
namespace Ev
open PySem PySem.Spec PyProof.Rows L2

/-! ### k in d, d[k], len(d) -/
def rDIn (X : Cx) (neg : Bool) : R2 := fun y x H Q => ∃ (a : Addr) (t : Bool) (es : List (D × D)) (g : Gh) (O : Addr → Prop) (kd : D) (k : NestedKey), x = .ref a ∧ DAt X g H O a t es ∧ RepB g H O y kd ∧ keyD t kd = some k ∧
  Q (.bl (if neg then !(dlook es k).isSome else (dlook es k).isSome)) H
def rDIx (X : Cx) : R2 := fun x y H Q => ∃ (a : Addr) (t : Bool) (es : List (D × D)) (g : Gh) (O : Addr → Prop) (kd vd : D) (k : NestedKey), x = .ref a ∧ DAt X g H O a t es ∧ RepB g H O y kd ∧ keyD t kd = some k ∧ dlook es k = some vd ∧
  ∀ v, Rep g (fz H O) v vd → Q v H
def rDLen (X : Cx) : List V → Hp → VK → Prop := fun xs H Q => ∃ (a : Addr) (t : Bool) (es : List (D × D)) (g : Gh) (O : Addr → Prop), xs = [.ref a] ∧ DAt X g H O a t es ∧ Q (.int es.length) H
section
variable {X : Cx} {W : WX} {S S' Sl : List Nat} {fr : Bool} {e o a b : Expr} {es : List Expr} {c ca cb cc : Ex} {cs : List Ex} {m m1 m2 : Mode} {F : Cf} {T : Tp} {pins : List (Addr × Obj)} {σ : L2.St} {H : Hp} {O : Addr → Prop} {s : Shared}
theorem op_din (hu : X.A.units + 65 < cLine) : OpR X (compareOp .In) (rDIn X false) := by
  intro pins s σ H x y v u Q I rx ry h
  obtain ⟨a, t, es, g, O, kd, k, rfl, d, hy, ek, q⟩ := h
  cases ry
  exact d4_in (neg := false) hu I d hy ek rx fun s' I' => ⟨.bl _, H, I', rfl, q⟩
theorem op_dnin (hu : X.A.units + 65 < cLine) : OpR X (compareOp .NotIn) (rDIn X true) := by
  intro pins s σ H x y v u Q I rx ry h
  obtain ⟨a, t, es, g, O, kd, k, rfl, d, hy, ek, q⟩ := h
  cases ry
  exact d4_in (neg := true) hu I d hy ek rx fun s' I' => ⟨.bl _, H, I', rfl, q⟩
theorem dat_ty {g : Gh} {a : Addr} {t : Bool} {es : List (D × D)} (I : Inv X pins σ H s) (d : DAt X g H O a t es) : ∃ ar ep, s.heap.DictRaw a ar ep ∧ (a == sysModules) = false ∧ ar.size = es.length ∧ ar.size ≤ sizeLine := by
  obtain ⟨hK, hw, o, us, ho, q, r⟩ := d
  obtain ⟨ar, ep, ks, vs, rfl, rfl, hs, hz, st⟩ := dst_of I hK hw fz_le ho q r
  refine ⟨ar, ep, raw_at I ho, hs, ?_, hz⟩
  cases st with
  | k dd hl e1 _ _ => have := congrArg List.length e1; simp at this; omega
  | n dd hl e1 _ _ _ => have := congrArg List.length e1; simp at this; omega
theorem ix_dct (hu : X.A.units + 65 < cLine) : IxR X (rDIx X) := by
  intro value slice pins s σ H x y v u Q I rx ry h hs
  obtain ⟨a, t, es, g, O, kd, vd, k, rfl, d, hy, ek, ev, q⟩ := h
  cases rx
  obtain ⟨ar, ep, rw_, _⟩ := dat_ty I d
  have hT := rw_.typeIs
  unfold subscriptTail
  refine wpAny_bind ?_
  rw [getitemInPython_of_ne hT.not_modules]
  refine wpAny_bind (wpAny_specialOf hT slot_dict_getitem.lookup ?_)
  have fin : wpAny (model X.prog X.w) X.A (subscripted slice false (.ref a) u) (fun r s3 => wpAny (model X.prog X.w) X.A (letTemporaryGo value (.ref a) r >>= fun _ => pure r) (EP X pins σ Q) X.xe s3) X.xe s := by
    rw [hs]
    exact wpAny_operating (d4_get hu I d hy ek ev ry fun w w' s' I' rw' rp => wpAny_bind (wpAny_letTemporaryGo (wpAny_pure ⟨w, H, I', rw', q w rp⟩)))
  first
    | exact wpAny_pure (wpAny_bind fin)
    | exact wpAny_bind (wpAny_pure (wpAny_bind fin))
    | exact wpAny_bind fin
theorem call_dlen : CallR X (.builtin "len") (rDLen X) := by
  intro pins s σ H xs us Q I r h
  obtain ⟨a, t, es, g, O, rfl, d, q⟩ := h
  obtain ⟨u, rfl, ru⟩ := vals1 r
  cases ru
  obtain ⟨ar, ep, rw_, hs, hl, hz⟩ := dat_ty I d
  have hsl : sizeLine = 16777216 := sizeLine_eq
  refine PyProof.Rows.call_len_slot (n := (ar.size : Nat)) rw_.typeIs F.slot_dict_len (fun Q' hq => call_len_raw hs rw_ hq) (by omega) (by omega) ?_
  rw [hl]
  exact ⟨.int _, H, I.tok _, ⟨_, rfl⟩, q⟩
/-! ### joined with those of lists and tuples -/
def in4D (d e : D) : Option D := match e with
  | .dct t es => match keyD t d with
    | some k => some (.bl (dlook es k).isSome)
    | none => none
  | e => inD d e
def nin4D (d e : D) : Option D := match e with
  | .dct t es => match keyD t d with
    | some k => some (.bl (!(dlook es k).isSome))
    | none => none
  | e => ninD d e
def ix4D (d e : D) : Option D := match d with
  | .dct t es => match keyD t e with
    | some k => dlook es k
    | none => none
  | d => ixD d e
def len4D : List D → Option D
  | [.dct _ es] => some (.int es.length)
  | ds => lenD ds
theorem op_in4 (hu : X.A.units + 65 < cLine) : OpR X (compareOp .In) (fun x y H Q => rIn3 X x y H Q ∨ rDIn X false x y H Q) := opOr (op_in3 hu) (op_din hu)
theorem op_nin4 (hu : X.A.units + 65 < cLine) : OpR X (compareOp .NotIn) (fun x y H Q => rNin3 X x y H Q ∨ rDIn X true x y H Q) := opOr (op_nin3 hu) (op_dnin hu)
theorem o_in4 : Op2S X S (fun x y H Q => rIn3 X x y H Q ∨ rDIn X false x y H Q) in4D .fro := fun F T H O v1 v2 d1 d2 d Q hK hw r q1 q2 e k => by
  unfold in4D at e
  split at e
  · split at e
    · rename_i t es _ kk ek
      cases e
      obtain ⟨a, rfl, da⟩ := rb_dct hK hw q2
      exact .inr ⟨a, t, es, F.g, O, d1, kk, rfl, da, q1, ek, k _ H O r (Le.refl _) (.bl _)⟩
    · cases e
  · exact .inl (o_in F T H O v1 v2 d1 _ d Q hK hw r q1 q2 e k)
theorem o_nin4 : Op2S X S (fun x y H Q => rNin3 X x y H Q ∨ rDIn X true x y H Q) nin4D .fro := fun F T H O v1 v2 d1 d2 d Q hK hw r q1 q2 e k => by
  unfold nin4D at e
  split at e
  · split at e
    · rename_i t es _ kk ek
      cases e
      obtain ⟨a, rfl, da⟩ := rb_dct hK hw q2
      exact .inr ⟨a, t, es, F.g, O, d1, kk, rfl, da, q1, ek, k _ H O r (Le.refl _) (.bl _)⟩
    · cases e
  · exact .inl (o_nin F T H O v1 v2 d1 _ d Q hK hw r q1 q2 e k)
theorem call_len4 : CallR X (.builtin "len") (fun xs H Q => (∃ x n, xs = [x] ∧ LenV X.K x H n ∧ Q (.int n) H) ∨ rDLen X xs H Q) := by
  intro pins s σ H xs us Q I r h
  rcases h with h | h
  · exact call_len pins s σ H xs us Q I r h
  · exact call_dlen pins s σ H xs us Q I r h
theorem o_len4 : OpNS X S (fun xs H Q => (∃ x n, xs = [x] ∧ LenV X.K x H n ∧ Q (.int n) H) ∨ rDLen X xs H Q) len4D .fro := fun F T H O vs ds d Q hK hw r q1 e k => by
  unfold len4D at e
  split at e
  · cases e
    obtain ⟨v, rfl, q⟩ := rbl1 q1
    obtain ⟨a, rfl, da⟩ := rb_dct hK hw q
    exact .inr ⟨a, _, _, F.g, O, rfl, da, k _ H O r (Le.refl _) (.int _)⟩
  · exact .inl (o_len F T H O vs _ d Q hK hw r q1 e k)
theorem ix4 (hu : X.A.units + 65 < cLine) : IxR X (fun x y H Q => rIx3 X x y H Q ∨ rDIx X x y H Q) := ixOr ix3 (ix_dct hu)
theorem o_ix4 : Op2S X S (fun x y H Q => rIx3 X x y H Q ∨ rDIx X x y H Q) ix4D .fro := fun F T H O v1 v2 d1 d2 d Q hK hw r q1 q2 e k => by
  unfold ix4D at e
  split at e
  · split at e
    · rename_i t es _ kk ek
      obtain ⟨a, rfl, da⟩ := rb_dct hK hw q1
      exact .inr ⟨a, t, es, F.g, O, d2, d, kk, rfl, da, q2, ek, e, fun v rv => k v H O r (Le.refl _) rv⟩
    · cases e
  · exact .inl (o_ix F T H O v1 v2 _ d2 d Q hK hw r q1 q2 e k)
/-! ### {} -/
theorem empty_dh {w : World} {a : Addr} {t : Bool} (hs : (a == sysModules) = false) : DH w a t (PinD a #[] 0) [] [] := by
  refine ⟨#[], 0, [], [], rfl, hs, by simp, rfl, ?_⟩
  cases t with
  | false => exact ⟨[], fun P => ⟨fun e he => (by simp at he), .nil⟩, by simp, rfl, rfl, .nil⟩
  | true => exact ⟨[], fun P => rfl, by simp, rfl, rfl, .nil⟩
def tDNew : TE := fun _ H Q => ∀ p, H p = none → (p == sysModules) = false → Q (.ref p) (upd H p (PinD p #[] 0))
theorem pe_dnew {pos : Pos} : PE X (.Dict [] [] pos) tDNew := ⟨fun pins s σ H Q I h => by
  have hp : s.heap.objs.size ≠ sysModules := Nat.ne_of_gt I.big
  have nw : ∀ (H : Hp), ObjOk X.prog X.w H (s.heap.push { cls := .type "dict", data := .dict #[] }) s.heap.objs.size (PinD s.heap.objs.size #[] 0) := fun H =>
    ⟨⟨_, Heap.get?_push_size _ rfl, ⟨rfl, rfl, rfl⟩, rfl⟩, ⟨_, Heap.get?_push_size _ rfl⟩, fun h1 h2 φ k => φ.at k⟩
  exact wpAny_Dict_empty ⟨.ref s.heap.objs.size, _, I.laid (a := s.heap.objs.size) (o := PinD s.heap.objs.size #[] 0) (t' := s.toks) (fun _ _ q => Heap.get?_push_of_some _ q) (Nat.le_refl _) (nw _), rfl,
    h _ (I.hok.fresh (Nat.le_refl _)) (beq_eq_false_iff_ne.mpr hp)⟩⟩
theorem se_dnewO (t : Bool) {pos : Pos} : SE X W S (.Dict [] [] pos) (kE (.dct t [])) .fre := ⟨peMono pe_dnew fun σ H Q ⟨F, T, O, f, r, p⟩ hp hn hs => by
  obtain ⟨a, b⟩ := R.newOwn r (PinD hp #[] 0) hn
  have np := R.npt r hn
  exact p _ _ _ a b ⟨hp, rfl, ⟨.inr rfl, R.h0new r hn np, np, PinD hp #[] 0, [], upd_same, empty_dh hs, .nil⟩, fun i d' hi he => R.slot_ne r hn hi he⟩⟩
/-! ### d[k] = v, xs[k] = v -/
def rSetD (X : Cx) : V → V → V → Hp → (Hp → Prop) → Prop := fun o i v H Q => ∃ (a : Addr) (t : Bool) (es : List (D × D)) (g : Gh) (O : Addr → Prop) (kd vd : D) (k : NestedKey), o = .ref a ∧ DAt X g H O a t es ∧ RepB g H O i kd ∧ keyD t kd = some k ∧ Rep g (fz H O) v vd ∧ es.length < sizeLine ∧
  ∀ o' us', DH g.w a t o' ((dsto es kd k vd).map Prod.fst) us' → RepL g (fz H O) us' (flE (dsto es kd k vd)) → Q (upd H a o')
theorem set_dct (hu : X.A.units + 65 < cLine) : PSet X (rSetD X) := by
  intro pins s σ H o i v ov iv u Q I ro ri rv h
  obtain ⟨a, t, es, g, O, kd, vd, k, rfl, d, hy, ek, hv, hl, q⟩ := h
  cases ro
  exact d4_set hu I d hy ek ri hv rv hl fun s' o' us' I' q1 q2 => ⟨_, I', q o' us' q1 q2⟩
theorem set_or {t1 t2 : V → V → V → Hp → (Hp → Prop) → Prop} (h1 : PSet X t1) (h2 : PSet X t2) : PSet X (fun o i v H Q => t1 o i v H Q ∨ t2 o i v H Q) := by
  intro pins s σ H o i v ov iv u Q I ro ri rv h
  rcases h with h | h
  · exact h1 pins s σ H o i v ov iv u Q I ro ri rv h
  · exact h2 pins s σ H o i v ov iv u Q I ro ri rv h
def stoD (d0 k v : D) : Option D := match d0 with
  | .lst ds => match k with
    | .int i => match setAt ds i v with
      | some ds => some (.lst ds)
      | none => none
    | _ => none
  | .dct t es => match keyD t k with
    | some n => if es.length < sizeLine then some (.dct t (dsto es k n v)) else none
    | none => none
  | _ => none
theorem stoD_some {d0 k v d1 : D} (h : stoD d0 k v = some d1) : (∃ ds i j, d0 = .lst ds ∧ k = .int i ∧ ixN ds.length i = some j ∧ d1 = .lst (ds.set j v)) ∨ ∃ t es n, d0 = .dct t es ∧ keyD t k = some n ∧ es.length < sizeLine ∧ d1 = .dct t (dsto es k n v) := by
  cases d0 with
  | lst ds =>
    cases k with
    | int i =>
      have h : (match setAt ds i v with | some ds => some (D.lst ds) | none => none) = some d1 := h
      unfold setAt at h
      cases e : ixN ds.length i with
      | none => rw [e] at h; cases h
      | some j => rw [e] at h; cases h; exact .inl ⟨ds, i, j, rfl, rfl, e, rfl⟩
    | _ => cases h
  | dct t es =>
    have h : (match keyD t k with | some n => if es.length < sizeLine then some (D.dct t (dsto es k n v)) else none | none => none) = some d1 := h
    cases e : keyD t k with
    | none => rw [e] at h; cases h
    | some n =>
      rw [e] at h
      by_cases hl : es.length < sizeLine
      · have h : (if es.length < sizeLine then some (D.dct t (dsto es k n v)) else none) = some d1 := h
        rw [if_pos hl] at h; cases h; exact .inr ⟨t, es, n, rfl, e, hl, rfl⟩
      · have h : (if es.length < sizeLine then some (D.dct t (dsto es k n v)) else none) = some d1 := h
        rw [if_neg hl] at h; cases h
  | _ => cases h
def slotD (env : Ve) (i : Nat) : Option D := match env[i]? with
  | some (some d) => some d
  | _ => none
theorem slotD_some {env : Ve} {i : Nat} {d : D} (h : slotD env i = some d) : env[i]? = some (some d) := by
  unfold slotD at h
  split at h
  · rename_i q; cases h; exact q
  · cases h
def putG (i : Nat) (ci c : Ex) : Sx := fun env T => exS (c env T) env fun d T => match slotD env i with
  | some d0 => exS (ci env T) env fun k T => match stoD d0 k d with
    | some d1 => .nx (env.set i (some d1)) T
    | none => .no
  | none => .no
theorem ss_putG {x : Str} {i : Nat} {ix : Expr} {ci : Ex} {px p2 pos : Pos} (hu : X.A.units + 65 < cLine) (hi : i ∈ S) (hv : PE X (.Name x px) (tVar i)) (hix : SE X W S ix ci .bor) (he : SE X W S e c .fro) (hs : ∀ j, j ∈ S' → j ∈ S := by decide)
    (h0 : ∀ v, assign (.Subscript (.Name x px) ix p2) X.env v = (do
      let ov ← holding [v] (eval (.Name x px) X.env)
      let iv ← holding [v, ov] (eval ix X.env)
      standAt p2
      holding [v, ov, iv] (setItem ov iv v)
      release [v, ov, iv] []) := by intro _; rfl)
    (h1 : swapsWithSole [.Subscript (.Name x px) ix p2] e pos.line X.env = pure false := by rfl) (h2 : swappedStores [.Subscript (.Name x px) ix p2] e X.env = pure none := by rfl)
    (h3 : (assignEach [.Subscript (.Name x px) ix p2] X.env).map (·.2) = [assign (.Subscript (.Name x px) ix p2) X.env] := by rfl) :
    SS X W S S' Sl fr (.Assign [.Subscript (.Name x px) ix p2] e pos) (putG i ci c) := by
  refine ⟨psMono (ps_asg he.pe (pg_sub hv hix.pe (set_or set_list (set_dct hu)) h0) h1 h2 h3) fun D σ H ⟨F, T, O, f, r, p⟩ => ?_⟩
  refine tE_bindS f r p fun d T1 v H1 O1 r1 qv p1 => ?_
  have keep : Rep F.g (fz H1 O1) v d := qv
  cases el : slotD F.env i with
  | none => rw [el] at p1; exact False.elim p1
  | some d0 =>
    rw [el] at p1
    have e0 := slotD_some el
    obtain ⟨q, b1, b2⟩ := Cf.R.owns r1 f hi e0
    refine ⟨.ref q, b1, ?_⟩
    refine ⟨F, T1, O1, f, r1, ?_⟩
    have p1 : PoS X W S' Sl fr F (exS (ci F.env T1) F.env fun k T => match stoD d0 k d with
      | some d1 => .nx (F.env.set i (some d1)) T
      | none => .no) D := p1
    cases ec : ci F.env T1 with
    | no => rw [ec] at p1; exact False.elim p1
    | ex x T2 =>
      rw [ec] at p1
      intro H2 O2 r2
      obtain ⟨O3, r3, _⟩ := Cf.R.sub r2 (S' := []) (fun i h => by cases h)
      exact p1 F.σ H2 O3 rfl rfl r3
    | ok dk T2 =>
      rw [ec] at p1
      intro vk H2 O2 r2 l2 qk
      have p1 : PoS X W S' Sl fr F (match stoD d0 dk d with
        | some d1 => .nx (F.env.set i (some d1)) T2
        | none => .no) D := p1
      cases es : stoD d0 dk d with
      | none => rw [es] at p1; exact False.elim p1
      | some d1 =>
        rw [es] at p1
        obtain ⟨q', c1, c2⟩ := Cf.R.owns r2 f hi e0
        rw [b1] at c1; cases c1
        have fin : ∀ o', Own1 F.g (upd H2 q o') O2 q d1 → D.nx σ (upd H2 q o') := fun o' q1 => by
          have r3 := Cf.R.mut r2 f hi e0 b1 q1
          obtain ⟨O3, r4, _⟩ := Cf.R.sub r3 hs
          have z := p1 F.σ _ O3 rfl (List.length_set ..) r4
          rw [f.s] at z
          exact z
        rcases stoD_some es with ⟨ds, k, j, rfl, rfl, ej, rfl⟩ | ⟨t, es0, n, rfl, ek, hl, rfl⟩
        · obtain ⟨us, g1, g2⟩ := c2.at_
          refine .inl ⟨q, us, k, j, rfl, rb_int (bOf qk r2), g1, by rw [g2.len]; exact ej, ?_⟩
          exact fin _ ⟨_, upd_same, by
            rw [fz_upd c2.o]
            exact g2.set (Rep.le l2 keep) j⟩
        · obtain ⟨o, us, g1, g2, g3⟩ := c2.at_
          refine .inr ⟨q, t, es0, F.g, O2, dk, d, n, rfl, ⟨f.k, f.w, o, us, g1, g2, g3⟩, bOf qk r2, ek, Rep.le l2 keep, hl, fun o' us' q1 q2 => ?_⟩
          exact fin o' ⟨o', us', upd_same, q1, by rw [fz_upd c2.o]; exact q2⟩
end
end Ev

/-! Ev: data in their order: <, sorted, min, max -/
namespace Ev
open PySem PySem.Spec PyProof.Rows L2

/-! ### data -/
mutual
theorem toP_inj : ∀ {a b : D} {p : PyData}, toP a = some p → toP b = some p → a = b
  | .non, b, p, h1, h2 => by unfold toP at h1; cases h1; cases b <;> unfold toP at h2 <;> first | rfl | (cases h2; done) | (rename_i ds; cases q : toPs ds <;> rw [q] at h2 <;> cases h2)
  | .bl x, b, p, h1, h2 => by unfold toP at h1; cases h1; cases b <;> unfold toP at h2 <;> first | (cases h2; rfl) | (cases h2; done) | (rename_i ds; cases q : toPs ds <;> rw [q] at h2 <;> cases h2)
  | .int x, b, p, h1, h2 => by unfold toP at h1; cases h1; cases b <;> unfold toP at h2 <;> first | (cases h2; rfl) | (cases h2; done) | (rename_i ds; cases q : toPs ds <;> rw [q] at h2 <;> cases h2)
  | .str x, b, p, h1, h2 => by unfold toP at h1; cases h1; cases b <;> unfold toP at h2 <;> first | (cases h2; rfl) | (cases h2; done) | (rename_i ds; cases q : toPs ds <;> rw [q] at h2 <;> cases h2)
  | .tup as, b, p, h1, h2 => by
    unfold toP at h1
    cases q1 : toPs as with
    | none => rw [q1] at h1; cases h1
    | some ps =>
      rw [q1] at h1
      cases h1
      cases b with
      | tup bs =>
        unfold toP at h2
        cases q2 : toPs bs with
        | none => rw [q2] at h2; cases h2
        | some qs => rw [q2] at h2; cases h2; rw [toPs_inj q1 q2]
      | lst bs => unfold toP at h2; cases q2 : toPs bs <;> rw [q2] at h2 <;> cases h2
      | _ => unfold toP at h2; cases h2
  | .lst as, b, p, h1, h2 => by
    unfold toP at h1
    cases q1 : toPs as with
    | none => rw [q1] at h1; cases h1
    | some ps =>
      rw [q1] at h1
      cases h1
      cases b with
      | lst bs =>
        unfold toP at h2
        cases q2 : toPs bs with
        | none => rw [q2] at h2; cases h2
        | some qs => rw [q2] at h2; cases h2; rw [toPs_inj q1 q2]
      | tup bs => unfold toP at h2; cases q2 : toPs bs <;> rw [q2] at h2 <;> cases h2
      | _ => unfold toP at h2; cases h2
  | .scr _, b, p, h1, h2 => by unfold toP at h1; cases h1
  | .dct _ _, b, p, h1, h2 => by unfold toP at h1; cases h1
  | .tape, b, p, h1, h2 => by unfold toP at h1; cases h1
  | .pin _, b, p, h1, h2 => by unfold toP at h1; cases h1
  | .prm _, b, p, h1, h2 => by unfold toP at h1; cases h1
  | .fnc _, b, p, h1, h2 => by unfold toP at h1; cases h1
theorem toPs_inj : ∀ {as bs : List D} {ps : List PyData}, toPs as = some ps → toPs bs = some ps → as = bs
  | [], bs, ps, h1, h2 => by
    unfold toPs at h1; cases h1
    cases bs with
    | nil => rfl
    | cons b bs => unfold toPs at h2; cases q1 : toP b <;> cases q2 : toPs bs <;> rw [q1, q2] at h2 <;> cases h2
  | a :: as, bs, ps, h1, h2 => by
    unfold toPs at h1
    cases q1 : toP a with
    | none => rw [q1] at h1; cases h1
    | some p =>
      cases q2 : toPs as with
      | none => rw [q1, q2] at h1; cases h1
      | some ps' =>
        rw [q1, q2] at h1
        cases h1
        cases bs with
        | nil => unfold toPs at h2; cases h2
        | cons b bs =>
          unfold toPs at h2
          cases q3 : toP b with
          | none => rw [q3] at h2; cases h2
          | some p2 =>
            cases q4 : toPs bs with
            | none => rw [q3, q4] at h2; cases h2
            | some ps2 => rw [q3, q4] at h2; cases h2; rw [toP_inj q1 q3, toPs_inj q2 q4]
end
/-- the datum that a thing is (None for what is none) -/
def pd (d : D) : PyData := (toP d).getD .none
/-- x < y of data -/
def ltP (d e : D) : Bool := PySem.W.dataLt (pd d) (pd e)
def leP (d e : D) : Bool := !ltP e d
/-- comparable data, not too deep -/
def okC (d e : D) : Bool := match toP d, toP e with
  | some p, some q => PySem.W.alike p q && (match p with | .none => false | _ => true) && decide (p.depth ≤ 50)
  | _, _ => false
theorem okC_some {d e : D} (h : okC d e = true) : ∃ p q, toP d = some p ∧ toP e = some q ∧ PySem.W.alike p q = true ∧ p ≠ .none ∧ p.depth ≤ 50 := by
  unfold okC at h
  split at h
  · rename_i p q e1 e2
    rw [Bool.and_eq_true, Bool.and_eq_true, decide_eq_true_eq] at h
    refine ⟨p, q, e1, e2, h.1.1, ?_, h.2⟩
    rintro rfl
    exact absurd h.1.2 (by simp)
  · cases h
def ltG (d e : D) : Option D := match d, e with
  | .int i, .int j => some (.bl (decide (i < j)))
  | d, e => if okC d e then some (.bl (ltP d e)) else none
def gtG (d e : D) : Option D := match d, e with
  | .int i, .int j => some (.bl (decide (j < i)))
  | d, e => if okC d e then some (.bl (ltP e d)) else none
def leG (d e : D) : Option D := match d, e with
  | .int i, .int j => some (.bl (decide (i ≤ j)))
  | d, e => if okC d e then some (.bl (!ltP e d)) else none
def geG (d e : D) : Option D := match d, e with
  | .int i, .int j => some (.bl (decide (j ≤ i)))
  | d, e => if okC d e then some (.bl (!ltP d e)) else none
def rCmp (X : Cx) (f : PyData → PyData → Bool) : R2 := fun x y H Q => ∃ p q, Dp X.K H x p ∧ Dp X.K H y q ∧ PySem.W.alike p q = true ∧ p ≠ .none ∧ p.depth ≤ 50 ∧ Q (.bl (f p q)) H
section
variable {X : Cx} {W : WX} {S S' Sl : List Nat} {fr : Bool} {e o a b : Expr} {es : List Expr} {c ca cb cc : Ex} {cs : List Ex} {m m1 m2 : Mode} {F : Cf} {T : Tp} {pins : List (Addr × Obj)} {σ : L2.St} {H : Hp} {O : Addr → Prop} {s : Shared}
theorem op_ltP (hu : X.A.units + 65 < cLine) : OpR X (compareOp .Lt) (rCmp X PySem.W.dataLt) := by
  intro pins s σ H x y v u Q I rx ry h
  obtain ⟨p, q, h1, h2, ha, hn, hd, k⟩ := h
  obtain ⟨as, r1⟩ := Dp.reads I p x v h1 rx
  obtain ⟨bs, r2⟩ := Dp.reads I q y u h2 ry
  exact PySem.W.lt_data r1 r2 ha hn (by omega) ⟨.bl _, H, I, rfl, k⟩
theorem op_gtP (hu : X.A.units + 65 < cLine) : OpR X (compareOp .Gt) (rCmp X fun p q => PySem.W.dataLt q p) := by
  intro pins s σ H x y v u Q I rx ry h
  obtain ⟨p, q, h1, h2, ha, hn, hd, k⟩ := h
  obtain ⟨as, r1⟩ := Dp.reads I p x v h1 rx
  obtain ⟨bs, r2⟩ := Dp.reads I q y u h2 ry
  exact PySem.W.gt_data r1 r2 ha hn (by omega) ⟨.bl _, H, I, rfl, k⟩
theorem op_leP (hu : X.A.units + 65 < cLine) : OpR X (compareOp .LtE) (rCmp X fun p q => !PySem.W.dataLt q p) := by
  intro pins s σ H x y v u Q I rx ry h
  obtain ⟨p, q, h1, h2, ha, hn, hd, k⟩ := h
  obtain ⟨as, r1⟩ := Dp.reads I p x v h1 rx
  obtain ⟨bs, r2⟩ := Dp.reads I q y u h2 ry
  exact PySem.W.le_data r1 r2 ha hn (by omega) ⟨.bl _, H, I, rfl, k⟩
theorem op_geP (hu : X.A.units + 65 < cLine) : OpR X (compareOp .GtE) (rCmp X fun p q => !PySem.W.dataLt p q) := by
  intro pins s σ H x y v u Q I rx ry h
  obtain ⟨p, q, h1, h2, ha, hn, hd, k⟩ := h
  obtain ⟨as, r1⟩ := Dp.reads I p x v h1 rx
  obtain ⟨bs, r2⟩ := Dp.reads I q y u h2 ry
  exact PySem.W.ge_data r1 r2 ha hn (by omega) ⟨.bl _, H, I, rfl, k⟩
theorem o_cmpP {f : PyData → PyData → Bool} {d1 d2 : D} {v1 v2 : V} {Q : VK} (hK : F.g.K = X.K) (r : F.R S T H O) (q1 : RepB F.g H O v1 d1) (q2 : RepB F.g H O v2 d2) (ok : okC d1 d2 = true)
    (k : ∀ v H' O', F.R S T H' O' → Le (fz H O) (fz H' O') → MOk .fro F S H' O' v (.bl (f (pd d1) (pd d2))) → Q v H') : rCmp X f v1 v2 H Q := by
  obtain ⟨p, q, e1, e2, h1, h2, h3⟩ := okC_some ok
  have a1 := rb_dp q1 e1
  have a2 := rb_dp q2 e2
  rw [hK] at a1 a2
  refine ⟨p, q, a1, a2, h1, h2, h3, ?_⟩
  have z := k _ H O r (Le.refl _) (.bl _)
  unfold pd at z
  rw [e1, e2] at z
  exact z
theorem ltG_some {d1 d2 d : D} {f : D → D → Bool} {fi : Int → Int → Bool} {g : D → D → Option D} (hg : ∀ d e, g d e = match d, e with
  | .int i, .int j => some (.bl (fi i j))
  | d, e => if okC d e then some (.bl (f d e)) else none) (h : g d1 d2 = some d) : (∃ i j, d1 = .int i ∧ d2 = .int j ∧ d = .bl (fi i j)) ∨ (okC d1 d2 = true ∧ d = .bl (f d1 d2)) := by
  rw [hg] at h
  split at h
  · cases h; exact .inl ⟨_, _, rfl, rfl, rfl⟩
  · split at h
    · cases h; exact .inr ⟨‹_›, rfl⟩
    · cases h
theorem op_ltG (hu : X.A.units + 65 < cLine) : OpR X (compareOp .Lt) (fun x y H Q => rI0 (fun i j => .bl (decide (i < j))) x y H Q ∨ rCmp X PySem.W.dataLt x y H Q) := opOr op_lt (op_ltP hu)
theorem op_gtG (hu : X.A.units + 65 < cLine) : OpR X (compareOp .Gt) (fun x y H Q => rI0 (fun i j => .bl (decide (j < i))) x y H Q ∨ rCmp X (fun p q => PySem.W.dataLt q p) x y H Q) := opOr op_gt (op_gtP hu)
theorem op_leG (hu : X.A.units + 65 < cLine) : OpR X (compareOp .LtE) (fun x y H Q => rI0 (fun i j => .bl (decide (i ≤ j))) x y H Q ∨ rCmp X (fun p q => !PySem.W.dataLt q p) x y H Q) := opOr op_le (op_leP hu)
theorem op_geG (hu : X.A.units + 65 < cLine) : OpR X (compareOp .GtE) (fun x y H Q => rI0 (fun i j => .bl (decide (j ≤ i))) x y H Q ∨ rCmp X (fun p q => !PySem.W.dataLt p q) x y H Q) := opOr op_ge (op_geP hu)
theorem o_ltG : Op2S X S (fun x y H Q => rI0 (fun i j => .bl (decide (i < j))) x y H Q ∨ rCmp X PySem.W.dataLt x y H Q) ltG .fro := fun F T H O v1 v2 d1 d2 d Q hK hw r q1 q2 e k => by
  rcases ltG_some (f := ltP) (fi := fun i j => decide (i < j)) (fun d e => by unfold ltG; rfl) e with ⟨i, j, rfl, rfl, rfl⟩ | ⟨ok, rfl⟩
  · exact .inl ⟨_, _, rb_int q1, rb_int q2, k _ H O r (Le.refl _) (.bl _)⟩
  · exact .inr (o_cmpP hK r q1 q2 ok k)
theorem o_gtG : Op2S X S (fun x y H Q => rI0 (fun i j => .bl (decide (j < i))) x y H Q ∨ rCmp X (fun p q => PySem.W.dataLt q p) x y H Q) gtG .fro := fun F T H O v1 v2 d1 d2 d Q hK hw r q1 q2 e k => by
  rcases ltG_some (f := fun d e => ltP e d) (fi := fun i j => decide (j < i)) (fun d e => by unfold gtG; rfl) e with ⟨i, j, rfl, rfl, rfl⟩ | ⟨ok, rfl⟩
  · exact .inl ⟨_, _, rb_int q1, rb_int q2, k _ H O r (Le.refl _) (.bl _)⟩
  · exact .inr (o_cmpP hK r q1 q2 ok k)
theorem o_leG : Op2S X S (fun x y H Q => rI0 (fun i j => .bl (decide (i ≤ j))) x y H Q ∨ rCmp X (fun p q => !PySem.W.dataLt q p) x y H Q) leG .fro := fun F T H O v1 v2 d1 d2 d Q hK hw r q1 q2 e k => by
  rcases ltG_some (f := fun d e => !ltP e d) (fi := fun i j => decide (i ≤ j)) (fun d e => by unfold leG; rfl) e with ⟨i, j, rfl, rfl, rfl⟩ | ⟨ok, rfl⟩
  · exact .inl ⟨_, _, rb_int q1, rb_int q2, k _ H O r (Le.refl _) (.bl _)⟩
  · exact .inr (o_cmpP hK r q1 q2 ok k)
theorem o_geG : Op2S X S (fun x y H Q => rI0 (fun i j => .bl (decide (j ≤ i))) x y H Q ∨ rCmp X (fun p q => !PySem.W.dataLt p q) x y H Q) geG .fro := fun F T H O v1 v2 d1 d2 d Q hK hw r q1 q2 e k => by
  rcases ltG_some (f := fun d e => !ltP d e) (fi := fun i j => decide (j ≤ i)) (fun d e => by unfold geG; rfl) e with ⟨i, j, rfl, rfl, rfl⟩ | ⟨ok, rfl⟩
  · exact .inl ⟨_, _, rb_int q1, rb_int q2, k _ H O r (Le.refl _) (.bl _)⟩
  · exact .inr (o_cmpP hK r q1 q2 ok k)
/-! ### sorted -/
def insG (x : D) : List D → List D
  | [] => [x]
  | y :: r => if leP x y then x :: y :: r else y :: insG x r
def sortG : List D → List D
  | [] => []
  | x :: r => insG x (sortG r)
theorem leP_tot : PySem.W.TotalLe leP := PySem.W.sortLe_total (PyProof.Rows.listOrd PyProof.Rows.itemOrd) false fun d => PySem.W.keyToks (pd d)
theorem sortG_merge : ∀ l : List D, l.mergeSort leP = sortG l
  | [] => by simp [sortG]
  | x :: r => by
    obtain ⟨l1, l2, e1, e2, h⟩ := List.mergeSort_cons (le := leP) (fun a b c => leP_tot.trans a b c) (fun a b => by rcases leP_tot.total a b with z | z <;> simp [z]) x r
    have hs := PySem.W.sort_pairwise leP_tot (x :: r)
    rw [e1] at hs ⊢
    show _ = insG x (sortG r)
    rw [← sortG_merge r, e2]
    clear e1 e2
    induction l1 with
    | nil =>
      cases l2 with
      | nil => rfl
      | cons y l2 =>
        have z := (List.pairwise_cons.mp hs).1 y (by simp)
        show _ = (if leP x y then _ else _)
        rw [if_pos z]
        rfl
    | cons y l1 ih =>
      have z : leP x y = false := by simpa using h y (by simp)
      show y :: (l1 ++ x :: l2) = (if leP x y then _ else y :: insG x (l1 ++ l2))
      rw [if_neg (by rw [z]; simp), ← ih (fun b hb => h b (List.mem_cons_of_mem _ hb)) (List.pairwise_cons.mp hs).2]
def isT1 : D → Bool
  | .tup (_ :: _) => true
  | _ => false
def notT : D → Bool
  | .tup _ => false
  | .non => false
  | _ => true
def okA (ds : List D) : Bool := ds.all fun d => ds.all fun e => okC d e
def okSrt (ds : List D) : Bool := okA ds && (ds.all isT1 || ds.all notT)
theorem okA_mem {ds : List D} (h : okA ds = true) : ∀ d ∈ ds, ∀ e ∈ ds, okC d e = true := fun d hd e he => List.all_eq_true.mp (List.all_eq_true.mp h d hd) e he
theorem okC_pd {d e : D} (h : okC d e = true) : PySem.W.alike (pd d) (pd e) = true ∧ pd d ≠ .none ∧ (pd d).depth ≤ 50 ∧ toP d = some (pd d) := by
  obtain ⟨p, q, e1, e2, a, b, c⟩ := okC_some h
  unfold pd
  rw [e1, e2]
  exact ⟨a, b, c, rfl⟩
theorem isT1_pd {d : D} (h : isT1 d = true) (e : toP d = some (pd d)) : ∃ x r, pd d = .tuple (x :: r) := by
  cases d with
  | tup ds =>
    cases ds with
    | nil => cases h
    | cons a ds =>
      unfold toP at e
      cases q : toPs (a :: ds) with
      | none => rw [q] at e; cases e
      | some ps =>
        rw [q] at e
        cases ps with
        | nil =>
          unfold toPs at q
          cases q1 : toP a with
          | none => rw [q1] at q; cases q
          | some p => cases q2 : toPs ds with
            | none => rw [q1, q2] at q; cases q
            | some ps => rw [q1, q2] at q; cases q
        | cons x r => exact ⟨x, r, (Option.some.inj e).symm⟩
  | _ => cases h
theorem notT_pd {d : D} (h : notT d = true) (e : toP d = some (pd d)) : pd d ≠ .none ∧ ∀ xs, pd d ≠ .tuple xs := by
  cases d with
  | lst ds =>
    unfold toP at e
    cases q : toPs ds with
    | none => rw [q] at e; cases e
    | some ps => rw [q] at e; rw [← Option.some.inj e]; exact ⟨(by intro z; cases z), fun xs z => by cases z⟩
  | bl _ => unfold toP at e; rw [← Option.some.inj e]; exact ⟨(by intro z; cases z), fun xs z => by cases z⟩
  | int _ => unfold toP at e; rw [← Option.some.inj e]; exact ⟨(by intro z; cases z), fun xs z => by cases z⟩
  | str _ => unfold toP at e; rw [← Option.some.inj e]; exact ⟨(by intro z; cases z), fun xs z => by cases z⟩
  | tup _ => cases h
  | non => cases h
  | scr _ => unfold toP at e; cases e
  | dct _ _ => unfold toP at e; cases e
  | tape => unfold toP at e; cases e
  | pin _ => unfold toP at e; cases e
  | prm _ => unfold toP at e; cases e
  | fnc _ => unfold toP at e; cases e
def leV (a b : V × D) : Bool := leP a.2 b.2
def rSortG (X : Cx) : List V → Hp → VK → Prop := fun vs H Q => ∃ (a : Addr) (ps : List (V × D)), vs = [V.ref a] ∧ SqL X.K H a (ps.map Prod.fst) ∧ (∀ p ∈ ps, Dp X.K H p.1 (pd p.2)) ∧ okSrt (ps.map Prod.snd) = true ∧
  ∀ p, H p = none → Q (.ref p) (upd H p (.lst ((ps.mergeSort leV).map Prod.fst)))
theorem each_vals : ∀ {ps : List (V × D)} {us : List Value}, Vals (ps.map Prod.fst) us → PySem.W.EachIs (fun (u : Value) (p : V × D) => RelV p.1 u) us ps
  | [], _, h => by cases h; exact .nil
  | p :: ps, _, h => by
    cases h with
    | cons h1 h2 => exact .cons h1 (each_vals h2)
theorem vals_each : ∀ {ps : List (V × D)} {us : List Value}, PySem.W.EachIs (fun (u : Value) (p : V × D) => RelV p.1 u) us ps → Vals (ps.map Prod.fst) us
  | _, _, .nil => .nil
  | _, _, .cons h t => .cons h (vals_each t)
theorem each_and {R R' : Value → V × D → Prop} : ∀ {us : List Value} {ps : List (V × D)}, PySem.W.EachIs R us ps → (∀ u p, p ∈ ps → R u p → R' u p) → PySem.W.EachIs R' us ps
  | _, _, .nil, _ => .nil
  | _, _, .cons h t, k => .cons (k _ _ (by simp) h) (each_and t fun u p hp => k u p (by simp [hp]))
theorem cr_sortG (hu : X.A.units + 65 < cLine) : CallR X (.builtin "sorted") (rSortG X) := by
  intro pins s σ H vs us Q I r h
  obtain ⟨a, ps, rfl, hs, hd, ok, q⟩ := h
  obtain ⟨its, rv, hl, hz⟩ := I.list hs
  rw [Vals.ref1 r]
  unfold okSrt at ok
  rw [Bool.and_eq_true, Bool.or_eq_true] at ok
  have oa := okA_mem ok.1
  have mm : ∀ p ∈ ps, p.2 ∈ ps.map Prod.snd := fun p hp => List.mem_map.mpr ⟨p, hp, rfl⟩
  have e1 := each_vals rv
  have e2 : PySem.W.EachIs (fun (u : Value) (p : V × D) => ∃ as, Reads s.heap u (pd p.2) as) its ps := each_and e1 fun u p hp hr => Dp.reads I _ _ _ (hd p hp) hr
  refine PySem.W.sorted_data (enc := fun p : V × D => pd p.2) hl.isList e1 e2 ?_ ?_ (by rw [List.length_map] at hz; exact hz) (fun p hp => ?_) fun out ho eo => ?_
  · intro d hd d' hd'
    obtain ⟨p, hp, rfl⟩ := List.mem_map.mp hd
    obtain ⟨p', hp', rfl⟩ := List.mem_map.mp hd'
    exact (okC_pd (oa _ (mm p hp) _ (mm p' hp'))).1
  · rcases ok.2 with z | z
    · refine .inl fun d hd => ?_
      obtain ⟨p, hp, rfl⟩ := List.mem_map.mp hd
      exact isT1_pd (List.all_eq_true.mp z _ (mm p hp)) (okC_pd (oa _ (mm p hp) _ (mm p hp))).2.2.2
    · refine .inr fun d hd => ?_
      obtain ⟨p, hp, rfl⟩ := List.mem_map.mp hd
      exact notT_pd (List.all_eq_true.mp z _ (mm p hp)) (okC_pd (oa _ (mm p hp) _ (mm p hp))).2.2.2
  · have := (okC_pd (oa _ (mm p hp) _ (mm p hp))).2.2.1
    omega
  · have eo : PySem.W.EachIs (fun (u : Value) (p : V × D) => RelV p.1 u) out (ps.mergeSort leV) := eo
    obtain ⟨ep, he'⟩ := PyProof.Rows.sortedAll_at s.heap its (List.toArray out)
    have hlen : ((ps.mergeSort leV).map Prod.fst).length ≤ sizeLine := by
      rw [List.length_map, List.length_mergeSort]
      rw [List.length_map] at hz
      exact hz
    exact ⟨.ref _, upd H (s.heap.objs.size + 1) (.lst ((ps.mergeSort leV).map Prod.fst)), I.laid (t' := s.toks) (fun _ _ => PyProof.Rows.sortedAll_old) (Nat.le_succ _) ⟨hlen, out, ep, vals_each eo, he'⟩, rfl, q _ (I.hok.fresh (Nat.le_succ _))⟩
theorem repL_zip {g : Gh} {H : Hp} : ∀ {vs : List V} {ds : List D}, RepL g H vs ds → (vs.zip ds).map Prod.fst = vs ∧ (vs.zip ds).map Prod.snd = ds ∧ ∀ p ∈ vs.zip ds, Rep g H p.1 p.2
  | _, _, .nil => ⟨rfl, rfl, fun p hp => by cases hp⟩
  | _, _, .cons h r => by
    obtain ⟨a, b, c⟩ := repL_zip r
    refine ⟨by simp [a], by simp [b], fun p hp => ?_⟩
    rcases List.mem_cons.mp hp with rfl | hp
    · exact h
    · exact c p hp
theorem repL_of {g : Gh} {H : Hp} : ∀ {ps : List (V × D)}, (∀ p ∈ ps, Rep g H p.1 p.2) → RepL g H (ps.map Prod.fst) (ps.map Prod.snd)
  | [], _ => .nil
  | p :: ps, h => .cons (h p (by simp)) (repL_of fun q hq => h q (by simp [hq]))
def sorted4D (ds : List D) : Option D := match seqI ds with
  | some ns => some (.lst ((sortI ns).map .int))
  | none => match ds with
    | [.lst l] => if okSrt l then some (.lst (sortG l)) else none
    | _ => none
theorem cr_sorted4 (hu : X.A.units + 65 < cLine) : CallR X (.builtin "sorted") (fun xs H Q => rSortedI X.K xs H Q ∨ rSortG X xs H Q) := by
  intro pins s σ H xs us Q I r h
  rcases h with h | h
  · exact cr_sortedI pins s σ H xs us Q I r h
  · exact cr_sortG hu pins s σ H xs us Q I r h
theorem sort_snd (ps : List (V × D)) : (ps.mergeSort leV).map Prod.snd = sortG (ps.map Prod.snd) := by
  rw [← sortG_merge]
  exact PySem.W.sort_maps (r := leV) (s := leP) Prod.snd fun a _ b _ => rfl
theorem o_sorted4 : OpNS X S (fun xs H Q => rSortedI X.K xs H Q ∨ rSortG X xs H Q) sorted4D .fre := fun F T H O vs ds d Q hK hw r q1 e k => by
  unfold sorted4D at e
  split at e
  · rename_i ns hn
    refine .inl (o_sorted F T H O vs ds d Q hK hw r q1 ?_ k)
    unfold sortedD
    rw [hn]
    exact e
  · split at e
    · split at e
      · rename_i l _ ok
        cases e
        obtain ⟨v, rfl, q⟩ := rbl1 q1
        obtain ⟨p, ws, rfl, a, b⟩ := rb_lst q
        obtain ⟨z1, z2, z3⟩ := repL_zip b
        have oa := ok
        unfold okSrt at oa
        rw [Bool.and_eq_true] at oa
        refine .inr ⟨p, ws.zip l, rfl, by rw [z1]; exact .inl (.inl a), fun pr hp => ?_, by rw [z2]; exact ok, ?_⟩
        · have m : pr.2 ∈ l := by rw [← z2]; exact List.mem_map.mpr ⟨pr, hp, rfl⟩
          have t := (okC_pd (okA_mem oa.1 _ m _ m)).2.2.2
          have := Rep.dp ((z3 pr hp).le fz_le) t
          rw [hK] at this
          exact this
        · have y : RepL F.g (fz H O) (((ws.zip l).mergeSort leV).map Prod.fst) (sortG l) := by
            have w := sort_snd (ws.zip l)
            rw [z2] at w
            rw [← w]
            exact repL_of fun pr hp => z3 pr ((List.mergeSort_perm _ _).mem_iff.mp hp)
          exact new_lstO r y k
      · cases e
    · cases e
/-! ### min, max -/
def bestF (f : D → D → Bool) : D → List D → D
  | m, [] => m
  | m, y :: r => bestF f (if f y m then y else m) r
def minG (ds : List D) : Option D := match ds with
  | [] => none
  | d :: r => if okA ds then some (bestF ltP d r) else none
def maxG (ds : List D) : Option D := match ds with
  | [] => none
  | d :: r => if okA ds then some (bestF (fun y m => ltP m y) d r) else none
theorem best_min : ∀ (r : List D) (d : D), pd (bestF ltP d r) = PySem.W.minD (pd d) (r.map pd)
  | [], d => rfl
  | y :: r, d => by
    show pd (bestF ltP (if ltP y d then y else d) r) = _
    rw [best_min r]
    show _ = List.foldl _ (if PySem.W.dataLt (pd y) (pd d) then pd y else pd d) _
    unfold ltP
    split <;> rfl
theorem best_max : ∀ (r : List D) (d : D), pd (bestF (fun y m => ltP m y) d r) = PySem.W.maxD (pd d) (r.map pd)
  | [], d => rfl
  | y :: r, d => by
    show pd (bestF (fun y m => ltP m y) (if ltP d y then y else d) r) = _
    rw [best_max r]
    show _ = List.foldl _ (if PySem.W.dataLt (pd d) (pd y) then pd y else pd d) _
    unfold ltP
    split <;> rfl
theorem best_mem (f : D → D → Bool) : ∀ (r : List D) (d : D), bestF f d r ∈ d :: r
  | [], d => by simp [bestF]
  | y :: r, d => by
    have := best_mem f r (if f y d then y else d)
    show bestF f (if f y d then y else d) r ∈ _
    rcases List.mem_cons.mp this with h | h
    · rw [h]; split <;> simp
    · simp [h]
end
end Ev

/-! Ev: min, max; methods; repr; some built-ins -/
namespace Ev
open PySem PySem.Spec PyProof.Rows L2
theorem depthAll_le {n : Nat} : ∀ {xs : List PyData}, (∀ x ∈ xs, x.depth ≤ n) → PyData.depthAll xs ≤ n
  | [], _ => by unfold PyData.depthAll; exact Nat.zero_le _
  | x :: xs, h => by
    have a := h x (by simp)
    have b := depthAll_le (xs := xs) fun y hy => h y (by simp [hy])
    unfold PyData.depthAll
    omega
section
variable {X : Cx} {W : WX} {S S' Sl : List Nat} {fr : Bool} {e o a b : Expr} {es : List Expr} {c ca cb cc : Ex} {cs : List Ex} {m m1 m2 : Mode} {F : Cf} {T : Tp} {pins : List (Addr × Obj)} {σ : L2.St} {H : Hp} {O : Addr → Prop} {s : Shared}
def rBest (X : Cx) (f : D → D → Bool) : List V → Hp → VK → Prop := fun vs H Q => ∃ (a : Addr) (t : Bool) (p0 : V × D) (ps : List (V × D)), vs = [V.ref a] ∧ SqK t X.K H a ((p0 :: ps).map Prod.fst) ∧ (∀ p ∈ p0 :: ps, Dp X.K H p.1 (pd p.2)) ∧ okA ((p0 :: ps).map Prod.snd) = true ∧
  ∀ (i : Nat) (p : V × D), (p0 :: ps)[i]? = some p → pd p.2 = pd (bestF f p0.2 (ps.map Prod.snd)) → Q p.1 H
theorem best_reads {t : Bool} {a : Addr} {p0 : V × D} {ps : List (V × D)} (I : Inv X pins σ H s) (hs : SqK t X.K H a ((p0 :: ps).map Prod.fst)) (hd : ∀ p ∈ p0 :: ps, Dp X.K H p.1 (pd p.2)) (ok : okA ((p0 :: ps).map Prod.snd) = true) (hu : X.A.units + 65 < cLine) :
    ∃ (its : List Value) (as : List Addr), Vals ((p0 :: ps).map Prod.fst) its ∧ ArK t s.heap a its.toArray ∧ ReadsAll s.heap its (pd p0.2 :: ps.map fun p => pd p.2) as ∧ PySem.W.AlikeAll (pd p0.2 :: ps.map fun p => pd p.2) ∧
      X.A.units + 1 + PyData.depthAll (pd p0.2 :: ps.map fun p => pd p.2) < cLine := by
  obtain ⟨its, rv, ar, _⟩ := seqK I hs
  have oa := okA_mem ok
  have mm : ∀ p ∈ p0 :: ps, p.2 ∈ (p0 :: ps).map Prod.snd := fun p hp => List.mem_map.mpr ⟨p, hp, rfl⟩
  obtain ⟨as, ra⟩ := PySem.W.each_readsAll (fun p : V × D => pd p.2) (each_and (each_vals rv) fun u p hp hr => Dp.reads I _ _ _ (hd p hp) hr)
  refine ⟨its, as, rv, ar, ra, ⟨fun x hx y hy => ?_, fun x hx => ?_⟩, ?_⟩
  · have hx : x ∈ (p0 :: ps).map fun p => pd p.2 := hx
    have hy : y ∈ (p0 :: ps).map fun p => pd p.2 := hy
    obtain ⟨p, hp, rfl⟩ := List.mem_map.mp hx
    obtain ⟨q, hq, rfl⟩ := List.mem_map.mp hy
    exact (okC_pd (oa _ (mm p hp) _ (mm q hq))).1
  · have hx : x ∈ (p0 :: ps).map fun p => pd p.2 := hx
    obtain ⟨p, hp, rfl⟩ := List.mem_map.mp hx
    exact (okC_pd (oa _ (mm p hp) _ (mm p hp))).2.1
  · have : PyData.depthAll ((p0 :: ps).map fun p => pd p.2) ≤ 50 := depthAll_le fun x hx => by
      obtain ⟨p, hp, rfl⟩ := List.mem_map.mp hx
      exact (okC_pd (oa _ (mm p hp) _ (mm p hp))).2.2.1
    have this : PyData.depthAll (pd p0.2 :: ps.map fun p => pd p.2) ≤ 50 := this
    omega
theorem best_end {t : Bool} {a : Addr} {p0 : V × D} {ps : List (V × D)} {f : D → D → Bool} {Q : VK} {its : List Value} {v : Value} {h' : Heap} {tk i : Nat} {bs : List Addr} {pb : PyData} (I : Inv X pins σ H s) (rv : Vals ((p0 :: ps).map Prod.fst) its) (hd : ∀ p ∈ p0 :: ps, Dp X.K H p.1 (pd p.2))
    (ok : okA ((p0 :: ps).map Prod.snd) = true) (q : ∀ (i : Nat) (p : V × D), (p0 :: ps)[i]? = some p → pd p.2 = pd (bestF f p0.2 (ps.map Prod.snd)) → Q p.1 H) (hv : its.toArray[i]? = some v) (hr : Reads h' v pb bs) (hp : pb = pd (bestF f p0.2 (ps.map Prod.snd)))
    (hk : ∀ b o, s.heap.get? b = some o → h'.get? b = some o) : EP X pins σ Q v { s with heap := h', toks := tk } := by
  have hv : its[i]? = some v := by simpa using hv
  have hl := rv.length
  have hi : i < (p0 :: ps).length := by
    rcases Nat.lt_or_ge i its.length with z | z
    · rw [← hl] at z; simpa using z
    · rw [List.getElem?_eq_none z] at hv; cases hv
  have hp0 : (p0 :: ps)[i]? = some (p0 :: ps)[i] := List.getElem?_eq_getElem hi
  have hx : ((p0 :: ps).map Prod.fst)[i]? = some ((p0 :: ps)[i]).1 := by rw [List.getElem?_map, hp0]; rfl
  obtain ⟨u, hu, ru⟩ := rv.get hx
  rw [hv] at hu
  cases hu
  have hm := List.getElem_mem hi
  obtain ⟨as, r0⟩ := Dp.reads I _ _ _ (hd _ hm) ru
  have r1 := PySem.W.reads_keeps hk r0
  have oa := okA_mem ok
  have m1 : ((p0 :: ps)[i]).2 ∈ (p0 :: ps).map Prod.snd := List.mem_map.mpr ⟨_, hm, rfl⟩
  have m2 : bestF f p0.2 (ps.map Prod.snd) ∈ (p0 :: ps).map Prod.snd := best_mem f _ _
  have al := (okC_pd (oa _ m1 _ m2)).1
  subst hp
  have e := PySem.W.alike_unique _ _ _ _ _ al r1 hr
  exact ⟨_, H, I.kept hk, ru, q i _ hp0 e⟩
theorem cr_minG (hc : X.calm = true) (hu : X.A.units + 65 < cLine) : CallR X (.builtin "min") (rBest X ltP) := by
  intro pins s σ H vs us Q I r h
  obtain ⟨a, t, p0, ps, rfl, hs, hd, ok, q⟩ := h
  rw [Vals.ref1 r]
  obtain ⟨its, as, rv, ar, ra, al, hz⟩ := best_reads I hs hd ok hu
  have fin : ∀ (i : Nat) v h' tk bs, its.toArray[i]? = some v → Reads h' v (PySem.W.minD (pd p0.2) (ps.map fun p => pd p.2)) bs → (∀ b o, s.heap.get? b = some o → h'.get? b = some o) → EP X pins σ Q v { s with heap := h', toks := tk } := fun i v h' tk bs h1 h2 h3 =>
    best_end (t := t) (a := a) I rv hd ok q h1 h2 (by rw [best_min, List.map_map]; rfl) h3
  cases t with
  | true => exact PySem.W.min_tuple_data (I.ok.hd hc) ar (by simpa using ra) al hz fin
  | false => exact PySem.W.min_list_data (I.ok.hd hc) ar (by simpa using ra) al hz fin
theorem cr_maxG (hc : X.calm = true) (hu : X.A.units + 65 < cLine) : CallR X (.builtin "max") (rBest X fun y m => ltP m y) := by
  intro pins s σ H vs us Q I r h
  obtain ⟨a, t, p0, ps, rfl, hs, hd, ok, q⟩ := h
  rw [Vals.ref1 r]
  obtain ⟨its, as, rv, ar, ra, al, hz⟩ := best_reads I hs hd ok hu
  have fin : ∀ (i : Nat) v h' tk bs, its.toArray[i]? = some v → Reads h' v (PySem.W.maxD (pd p0.2) (ps.map fun p => pd p.2)) bs → (∀ b o, s.heap.get? b = some o → h'.get? b = some o) → EP X pins σ Q v { s with heap := h', toks := tk } := fun i v h' tk bs h1 h2 h3 =>
    best_end (t := t) (a := a) I rv hd ok q h1 h2 (by rw [best_max, List.map_map]; rfl) h3
  cases t with
  | true => exact PySem.W.max_tuple_data (I.ok.hd hc) ar (by simpa using ra) al hz fin
  | false => exact PySem.W.max_list_data (I.ok.hd hc) ar (by simpa using ra) al hz fin
def seqD : D → Option (Bool × List D)
  | .lst l => some (false, l)
  | .tup l => some (true, l)
  | _ => none
def bestD (f : D → D → Bool) (ds : List D) : Option D := match ds with
  | [x] => match seqD x with
    | some (_, d :: r) => if okA (d :: r) then some (bestF f d r) else none
    | _ => none
  | _ => none
def min4D (ds : List D) : Option D := match minD ds with
  | some d => some d
  | none => bestD ltP ds
def max4D (ds : List D) : Option D := match maxD ds with
  | some d => some d
  | none => bestD (fun y m => ltP m y) ds
theorem seqD_mk {x : D} {t : Bool} {l : List D} (h : seqD x = some (t, l)) : x = mk t l := by
  cases x <;> cases h <;> rfl
theorem rb_mk {g : Gh} {v : V} {t : Bool} {l : List D} (h : RepB g H O v (mk t l)) : ∃ p ws, v = .ref p ∧ SqK t g.K H p ws ∧ RepL g (fz H O) ws l := by
  cases t with
  | true => obtain ⟨p, ws, e, a, b⟩ := rb_tup (show RepB g H O v (.tup l) from h); exact ⟨p, ws, e, a, b⟩
  | false => obtain ⟨p, ws, e, a, b⟩ := rb_lst (show RepB g H O v (.lst l) from h); exact ⟨p, ws, e, .inl (.inl a), b⟩
theorem o_best {f : D → D → Bool} {vs : List V} {ds : List D} {d : D} {Q : VK} (hK : F.g.K = X.K) (r : F.R S T H O) (q1 : RepBL F.g H O vs ds) (e : bestD f ds = some d)
    (k : ∀ v H' O', F.R S T H' O' → Le (fz H O) (fz H' O') → MOk .fro F S H' O' v d → Q v H') : rBest X f vs H Q := by
  unfold bestD at e
  split at e
  · split at e
    · split at e
      · rename_i x _ t d0 rr hx ok
        cases e
        obtain ⟨v, rfl, q⟩ := rbl1 q1
        rw [seqD_mk hx] at q
        obtain ⟨p, ws, rfl, a, b⟩ := rb_mk q
        obtain ⟨z1, z2, z3⟩ := repL_zip b
        have oa := okA_mem ok
        have kk : ∀ (pr : V × D), pr ∈ ws.zip (d0 :: rr) → pd pr.2 = pd (bestF f d0 rr) → Q pr.1 H := fun pr hp he => by
          have m1 : pr.2 ∈ d0 :: rr := by rw [← z2]; exact List.mem_map.mpr ⟨pr, hp, rfl⟩
          have m2 := best_mem f rr d0
          have t1 := (okC_pd (oa _ m1 _ m1)).2.2.2
          have t2 := (okC_pd (oa _ m2 _ m2)).2.2.2
          rw [he] at t1
          have := toP_inj t1 t2
          have w := z3 pr hp
          rw [this] at w
          exact k _ H O r (Le.refl _) w
        cases b with
        | @cons w ws' _ _ b1 b2 =>
          have zz : (w :: ws').zip (d0 :: rr) = (w, d0) :: ws'.zip rr := rfl
          rw [zz] at z1 z2 z3 kk
          rw [hK] at a
          refine ⟨p, t, (w, d0), ws'.zip rr, rfl, by rw [z1]; exact a, fun pr hp => ?_, by rw [z2]; exact ok, fun i pr hi he => ?_⟩
          · have m : pr.2 ∈ d0 :: rr := by rw [← z2]; exact List.mem_map.mpr ⟨pr, hp, rfl⟩
            have := Rep.dp ((z3 pr hp).le fz_le) (okC_pd (oa _ m _ m)).2.2.2
            rw [hK] at this
            exact this
          · refine kk pr (List.mem_of_getElem? hi) ?_
            rw [he]
            have z2' : (ws'.zip rr).map Prod.snd = rr := by
              have := z2
              rw [List.map_cons] at this
              injection this
            show pd (bestF f d0 _) = _
            rw [z2']
      · cases e
    · cases e
  · cases e
theorem cr_min4 (hc : X.calm = true) (hu : X.A.units + 65 < cLine) : CallR X (.builtin "min") (fun xs H Q => rMin X.K xs H Q ∨ rBest X ltP xs H Q) := by
  intro pins s σ H xs us Q I r h
  rcases h with h | h
  · exact cr_min hc pins s σ H xs us Q I r h
  · exact cr_minG hc hu pins s σ H xs us Q I r h
theorem cr_max4 (hc : X.calm = true) (hu : X.A.units + 65 < cLine) : CallR X (.builtin "max") (fun xs H Q => rMax X.K xs H Q ∨ rBest X (fun y m => ltP m y) xs H Q) := by
  intro pins s σ H xs us Q I r h
  rcases h with h | h
  · exact cr_max hc pins s σ H xs us Q I r h
  · exact cr_maxG hc hu pins s σ H xs us Q I r h
theorem o_min4 : OpNS X S (fun xs H Q => rMin X.K xs H Q ∨ rBest X ltP xs H Q) min4D .fro := fun F T H O vs ds d Q hK hw r q1 e k => by
  unfold min4D at e
  split at e
  · rename_i he; cases e
    exact .inl (o_min F T H O vs ds _ Q hK hw r q1 he k)
  · exact .inr (o_best hK r q1 e k)
theorem o_max4 : OpNS X S (fun xs H Q => rMax X.K xs H Q ∨ rBest X (fun y m => ltP m y) xs H Q) max4D .fro := fun F T H O vs ds d Q hK hw r q1 e k => by
  unfold max4D at e
  split at e
  · rename_i he; cases e
    exact .inl (o_max F T H O vs ds _ Q hK hw r q1 he k)
  · exact .inr (o_best hK r q1 e k)
/-! ### methods of any receiver -/
def tyW (X : Cx) (T : String) (x : V) (H : Hp) : Prop := ∀ (pins : List (Addr × Obj)) (σ : L2.St) (s : Shared) (v : Value), Inv X pins σ H s → RelV x v → s.TypeIs v T ∧ ∀ a, v = .ref a → ∃ ob, s.heap.get? a = some ob ∧ ob.dict = none
structure MAlt (X : Cx) (name : Str) (T id : String) (r : V → List V → Hp → VK → Prop) : Prop where
  pa : PlainAttrs T
  slot : Slot T name id
  ty : typeOf (.builtin id) = pure (.type "method_descriptor")
  run : MtR X id r
def tBW (X : Cx) (name : Str) (to : TE) (t : TA) : TE := fun σ H Q => to σ H fun x H1 => ∃ (T id : String) (r : V → List V → Hp → VK → Prop), MAlt X name T id r ∧ tyW X T x H1 ∧ t σ H1 fun xs H2 => r x xs H2 Q
def tBW0 (X : Cx) (name : Str) (to : TE) : TE := fun σ H Q => to σ H fun x H1 => ∃ (T id : String) (r : V → List V → Hp → VK → Prop), MAlt X name T id r ∧ tyW X T x H1 ∧ r x [] H1 Q
theorem pe_bmW0 {to : TE} {name : Str} {apos cpos : Pos} (ho : PE X o to) (hbase : attributeBase o name X.env (eval o X.env) = eval o X.env := by rfl) (hline : (apos.endLine == cpos.line) = true := by rfl) :
    PE X (.Call (.Attribute o name apos) [] [] cpos) (tBW0 X name to) := ⟨fun pins s σ H Q I h =>
  wpAny_Call_method0_late hbase hline (thn (ho.run pins s σ H _ I h) fun v s1 ⟨x, H1, I1, r1, T, id, r, ma, ty, q1⟩ => by
    obtain ⟨h1, h2⟩ := ty _ _ _ _ I1 r1
    exact ⟨T, id, ma.pa, ma.slot, ma.ty, h1, h2, Calls.callWith_builtin rfl (PySem.evalArgs_none (ma.run pins s1 σ H1 x [] v [] Q I1 r1 .nil q1))⟩)⟩
theorem pe_bmW {to : TE} {t : TA} {name : Str} {apos cpos : Pos} (ho : PE X o to) (ha : PA X (e :: es) t)
    (hbase : attributeBase o name X.env (eval o X.env) = eval o X.env := by rfl)
    (hfew : ((backTo cpos (starEach (e :: es) X.env)).all (fun x => !x.1) && (backToKw cpos (keywordEach [] X.env)).all (fun x => x.1.isSome) && decide ((e :: es).length + ([] : List Keyword).length + (if ([] : List Keyword).isEmpty then 0 else 1) < 30)) = true := by rfl)
    (hline : (apos.endLine == cpos.line) = true := by rfl) (hs : starEach (e :: es) X.env = (false, eval e X.env) :: starEach es X.env := by rfl) (hplain : (backTo cpos (starEach es X.env)).any (·.1) = false := by rfl) :
    PE X (.Call (.Attribute o name apos) (e :: es) [] cpos) (tBW X name to t) := ⟨fun pins s σ H Q I h =>
  wpAny_Call_method_late hbase hfew hline rfl (thn (ho.run pins s σ H _ I h) fun v s1 ⟨x, H1, I1, r1, T, id, r, ma, ty, q1⟩ => by
    obtain ⟨h1, h2⟩ := ty _ _ _ _ I1 r1
    have hA := ha.run cpos pins s1 σ H1 _ I1 q1
    rw [hs] at hA
    refine ⟨T, id, ma.pa, ma.slot, ma.ty, h1, h2, ?_⟩
    rw [hs]
    refine Calls.callWith_builtin ?_ (Calls.evalArgs_plain (thn hA fun us s2 ⟨vs, H2, I2, r2, q2⟩ => ma.run pins s2 σ H2 x vs v us Q I2 r1 r2 q2))
    show (false || (backTo cpos (starEach es X.env)).any (·.1)) = false
    rw [hplain]; rfl)⟩
def mtG (rv : D → Bool) (f : D → List D → Option D) (c : Ex) (cs : List Ex) : Ex := fun env T => (c env T).bind fun d T => if rv d then (esE cs env T).bind fun ds T => ofO (f d ds) T else .no
def MtOk (X : Cx) (S : List Nat) (name : Str) (rv : D → Bool) (f : D → List D → Option D) (md : Mode) : Prop := ∀ d1 : D, rv d1 = true → ∃ (T id : String) (r : V → List V → Hp → VK → Prop), MAlt X name T id r ∧
  (∀ (g : Gh) H O v, g.K = X.K → g.w = X.w → RepB g H O v d1 → tyW X T v H) ∧
  ∀ (F : Cf) T' H O v vs ds d Q, F.g.K = X.K → F.g.w = X.w → F.R S T' H O → RepB F.g H O v d1 → RepBL F.g H O vs ds → f d1 ds = some d → (∀ v H' O', F.R S T' H' O' → Le (fz H O) (fz H' O') → MOk md F S H' O' v d → Q v H') → r v vs H Q
theorem se_mt {name : Str} {rv : D → Bool} {f : D → List D → Option D} {apos cpos : Pos} (hm : MtOk X S name rv f m) (ha : SE X W S o ca .bor) (hs' : SA X W S (e :: es) cs .bor)
    (hbase : attributeBase o name X.env (eval o X.env) = eval o X.env := by rfl)
    (hfew : ((backTo cpos (starEach (e :: es) X.env)).all (fun x => !x.1) && (backToKw cpos (keywordEach [] X.env)).all (fun x => x.1.isSome) && decide ((e :: es).length + ([] : List Keyword).length + (if ([] : List Keyword).isEmpty then 0 else 1) < 30)) = true := by rfl)
    (hline : (apos.endLine == cpos.line) = true := by rfl) (hs : starEach (e :: es) X.env = (false, eval e X.env) :: starEach es X.env := by rfl) (hplain : (backTo cpos (starEach es X.env)).any (·.1) = false := by rfl) :
    SE X W S (.Call (.Attribute o name apos) (e :: es) [] cpos) (mtG rv f ca cs) m :=
  ⟨peMono (pe_bmW ha.pe hs'.pa hbase hfew hline hs hplain) fun σ H Q h => by
    obtain ⟨F, T, O, ft, r, p⟩ := h
    refine tE_bind ft r p fun d1 T1 v1 H1 O1 r1 l1 q1 p1 => ?_
    cases hr : rv d1 with
    | false => rw [hr] at p1; exact False.elim p1
    | true =>
      rw [hr] at p1
      obtain ⟨Ty, id, rr, ma, ty, run⟩ := hm d1 hr
      refine ⟨Ty, id, rr, ma, ty _ _ _ _ ft.k ft.w (bOf q1 r1), ?_⟩
      refine tA_bind ft r1 p1 fun ds T2 vs H2 O2 _ r2 l2 q2 p2 => ?_
      obtain ⟨d, e', k⟩ := po_of p2
      exact run F T2 H2 O2 v1 vs ds d Q ft.k ft.w r2 (q1 H2 O2 T2 r2 l2) (bOfL r2 q2) e' k⟩
theorem se_mt0 {name : Str} {rv : D → Bool} {f : D → List D → Option D} {apos cpos : Pos} (hm : MtOk X S name rv f m) (ha : SE X W S o ca .bor)
    (hbase : attributeBase o name X.env (eval o X.env) = eval o X.env := by rfl) (hline : (apos.endLine == cpos.line) = true := by rfl) :
    SE X W S (.Call (.Attribute o name apos) [] [] cpos) (mtG rv f ca []) m :=
  ⟨peMono (pe_bmW0 ha.pe hbase hline) fun σ H Q h => by
    obtain ⟨F, T, O, ft, r, p⟩ := h
    refine tE_bind ft r p fun d1 T1 v1 H1 O1 r1 l1 q1 p1 => ?_
    cases hr : rv d1 with
    | false => rw [hr] at p1; exact False.elim p1
    | true =>
      rw [hr] at p1
      obtain ⟨Ty, id, rr, ma, ty, run⟩ := hm d1 hr
      have p2 : Po X W S m F H1 O1 (ofO (f d1 []) T1) Q := p1
      obtain ⟨d, e', k⟩ := po_of p2
      exact ⟨Ty, id, rr, ma, ty _ _ _ _ ft.k ft.w (bOf q1 r1), run F T1 H1 O1 v1 [] [] d Q ft.k ft.w r1 (bOf q1 r1) True.intro e' k⟩⟩
end
end Ev

/-! Ev: zip of three, its turns given to one name -/
namespace Ev
open PySem PySem.Spec PyProof.Rows L2
/-- the zip at z: its mark, its flag -/
abbrev Zb (h : Heap) (z ti oo : Addr) (mk fl : Value) : Prop := h.get? z = some { cls := .type "zip", dict := none, data := .fields #[mk, fl, .bool false, .ref ti, .ref oo], slots := #[] }
abbrev T3 (h : Heap) (a : Addr) (x y w : Value) : Prop := h.get? a = some { cls := .type "tuple", data := .seq #[x, y, w] }
section
variable {prog : Program} {w : World} {A : Around} {E : Value → Shared → Prop} {s : Shared} {z ti oo j1 j2 j3 : Addr} {f1 f2 f3 : List Addr} {n1 n2 n3 i : Nat} {P1 P2 P3 : Nat → Value → Prop} {S1 S2 S3 : Nat → Heap → Prop} {b1 b2 b3 mk fl : Value}
/-- what both ways ask -/
structure Zin (prog : Program) (w : World) (A : Around) (s : Shared) (z ti oo j1 j2 j3 : Addr) (f1 f2 f3 : List Addr) (n1 n2 n3 i : Nat) (P1 P2 P3 : Nat → Value → Prop) (S1 S2 S3 : Nat → Heap → Prop) (b1 b2 b3 mk fl : Value) : Prop where
  sep : ZipSep3 z ti oo j1 j2 j3 f1 f2 f3
  d1 : Draws prog w A j1 f1 n1 P1 S1
  d2 : Draws prog w A j2 f2 n2 P2 S2
  d3 : Draws prog w A j3 f3 n3 P3 S3
  zp : Zb s.heap z ti oo mk fl
  tt : T3 s.heap ti (.ref j1) (.ref j2) (.ref j3)
  ow : T3 s.heap oo b1 b2 b3
  a1 : S1 i s.heap
  a2 : S2 i s.heap
  a3 : S3 i s.heap
/-- a turn's outcome -/
def Zout (s : Shared) (z ti oo j1 j2 j3 : Addr) (i : Nat) (P1 P2 P3 : Nat → Value → Prop) (S1 S2 S3 : Nat → Heap → Prop) (Q : Value → Shared → Prop) : Prop :=
  ∀ x1 x2 x3 h' tk mk' fl' c1 c2 c3, P1 i x1 → P2 i x2 → P3 i x3 → Zb h' z ti oo mk' fl' → (∃ a, mk' = rawInt a) → (∃ b, fl' = .bool b) → T3 h' oo c1 c2 c3 → S1 (i + 1) h' → S2 (i + 1) h' → S3 (i + 1) h' → T3 h' s.heap.objs.size x1 x2 x3 →
    (∀ c o, c ≠ z → c ≠ oo → c ≠ j1 → c ≠ j2 → c ≠ j3 → s.heap.get? c = some o → h'.get? c = some o) → Q (.ref s.heap.objs.size) { s with heap := h', toks := tk }
/-- the end's outcome -/
def Zend (s : Shared) (z oo j1 j2 j3 : Addr) (E : Value → Shared → Prop) : Prop :=
  ∀ h' tk e, (∀ c o, c ≠ z → c ≠ oo → c ≠ j1 → c ≠ j2 → c ≠ j3 → s.heap.get? c = some o → h'.get? c = some o) → (∃ o, h'.get? e = some o ∧ o.cls = .type "StopIteration") → E (.ref e) { s with heap := h', toks := tk }
theorem zb_own (h : Zb s.heap z ti oo mk fl) {hh : Heap} {mk' fl' : Value} (e : hh.get? z = some { cls := .type "zip", dict := none, data := .fields #[mk', fl', .bool false, .ref ti, .ref oo], slots := #[] }) : Zb hh z ti oo mk' fl' := e
/-- its own tuple is free: it is filled anew -/
theorem z3_free {Q : Value → Shared → Prop} (I : Zin prog w A s z ti oo j1 j2 j3 f1 f2 f3 n1 n2 n3 i P1 P2 P3 S1 S2 S3 b1 b2 b3 mk fl) (own : ∀ R : Bool → Shared → Prop, R true s → wpAny (model prog w) A (Builtin.SmallTypes.ownedTupleIsFree (.ref z)) R E s)
    (l1 : i < n1) (l2 : i < n2) (l3 : i < n3) (hQ : Zout s z ti oo j1 j2 j3 i P1 P2 P3 S1 S2 S3 Q) :
    wpAny (model prog w) A (Builtin.«zip.__next__» ⟨[.ref z], []⟩) (fun fin s' => ∃ v, fin = .done (.ret v) ∧ Q v s') E s := by
  obtain ⟨sp, d1, d2, d3, zp, tt, ow, a1, a2, a3⟩ := I
  obtain ⟨h0, gg, dd, t0, oss⟩ := s
  change wpAny (model prog w) _ (field (Value.ref z) 2 >>= _) _ _ _
  refine wpAny_bind (wpAny_field zp rfl (x := Value.bool false) rfl ?_)
  change wpAny (model prog w) _ (field (Value.ref z) 3 >>= _) _ _ _
  refine wpAny_bind (wpAny_field zp rfl (x := Value.ref ti) rfl ?_)
  refine wpAny_bind (wpAny_seqItems tt rfl ?_)
  change wpAny (model prog w) _ (Builtin.SmallTypes.ownedTupleIsFree (Value.ref z) >>= _) _ _ _
  refine wpAny_bind (own _ ?_)
  rw [if_pos rfl]
  refine wpAny_bind (wpAny_rule (wpAny_bind (wpAny_field zp rfl (x := Value.ref oo) rfl ?_)))
  refine wpAny_bind (wpAny_setField_rec zp (by simp) fun k0 y0 e0 => ?_)
  have y0 : Zb k0 z ti oo .ellipsis fl := y0
  have e0 : Heap.SameBut z h0 k0 := e0
  refine wpAny_bind ?_
  simp only [List.zipIdx_cons, List.zipIdx_nil, List.forIn_cons, List.forIn_nil]
  -- the first
  refine wpAny_bind (wpAny_bind (wpAny_onRaise ?_))
  change wpAny (model prog w) _ (Builtin.SmallTypes.nextOf (Value.ref j1) >>= _) _ _ _
  refine wpAny_bind (d1.item i (s := ⟨k0, gg, dd, t0, oss⟩) _ _ l1 (d1.over a1 e0 sp.zf1) fun x1 m1 t1 g1 v1 r1 => wpAny_pure ?_)
  have r1 : Heap.SameBut j1 k0 m1 := r1
  have u1 : T3 m1 oo b1 b2 b3 := r1.extBut _ _ sp.Ti1 (e0.extBut _ _ sp.TOz ow)
  refine wpAny_bind (wpAny_seqItems (s := ⟨m1, gg, dd, t1, oss⟩) u1 rfl (wpAny_bind (updateSeq_IsTupOf3 (s := ⟨m1, gg, dd, t1, oss⟩) u1 fun k1 y1 e1 => wpAny_bind (wpAny_letGo (wpAny_pure ?_)))))
  have y1 : T3 k1 oo x1 b2 b3 := y1
  have e1 : Heap.SameBut oo m1 k1 := e1
  -- the second
  have c2 : S2 i k1 := d2.over (d2.over (d2.over a2 e0 sp.zf2) r1 sp.sep1_2) e1 sp.Tf2
  refine wpAny_bind (wpAny_bind (wpAny_onRaise ?_))
  change wpAny (model prog w) _ (Builtin.SmallTypes.nextOf (Value.ref j2) >>= _) _ _ _
  refine wpAny_bind (d2.item i (s := ⟨k1, gg, dd, t1, oss⟩) _ _ l2 c2 fun x2 m2 t2 g2 v2 r2 => wpAny_pure ?_)
  have r2 : Heap.SameBut j2 k1 m2 := r2
  have u2 : T3 m2 oo x1 b2 b3 := r2.extBut _ _ sp.Ti2 y1
  refine wpAny_bind (wpAny_seqItems (s := ⟨m2, gg, dd, t2, oss⟩) u2 rfl (wpAny_bind (updateSeq_IsTupOf3 (s := ⟨m2, gg, dd, t2, oss⟩) u2 fun k2 y2 e2 => wpAny_bind (wpAny_letGo (wpAny_pure ?_)))))
  have y2 : T3 k2 oo x1 x2 b3 := y2
  have e2 : Heap.SameBut oo m2 k2 := e2
  -- the third
  have c3 : S3 i k2 := d3.over (d3.over (d3.over (d3.over (d3.over a3 e0 sp.zf3) r1 sp.sep1_3) e1 sp.Tf3) r2 sp.sep2_3) e2 sp.Tf3
  refine wpAny_bind (wpAny_bind (wpAny_onRaise ?_))
  change wpAny (model prog w) _ (Builtin.SmallTypes.nextOf (Value.ref j3) >>= _) _ _ _
  refine wpAny_bind (d3.item i (s := ⟨k2, gg, dd, t2, oss⟩) _ _ l3 c3 fun x3 m3 t3 g3 v3 r3 => wpAny_pure ?_)
  have r3 : Heap.SameBut j3 k2 m3 := r3
  have u3 : T3 m3 oo x1 x2 b3 := r3.extBut _ _ sp.Ti3 y2
  refine wpAny_bind (wpAny_seqItems (s := ⟨m3, gg, dd, t3, oss⟩) u3 rfl (wpAny_bind (updateSeq_IsTupOf3 (s := ⟨m3, gg, dd, t3, oss⟩) u3 fun k3 y3 e3 => wpAny_bind (wpAny_letGo (wpAny_pure (wpAny_pure ?_))))))
  have y3 : T3 k3 oo x1 x2 x3 := y3
  have e3 : Heap.SameBut oo m3 k3 := e3
  refine wpAny_bind (wpAny_seqItems (s := ⟨k3, gg, dd, t3, oss⟩) y3 rfl (wpAny_bind (wpAny_newTuple ?_)))
  have zz : Zb k3 z ti oo .ellipsis fl := e3.extBut _ _ sp.TOz.symm (r3.extBut _ _ sp.zi3 (e2.extBut _ _ sp.TOz.symm (r2.extBut _ _ sp.zi2 (e1.extBut _ _ sp.TOz.symm (r1.extBut _ _ sp.zi1 y0)))))
  have size : k3.objs.size = h0.objs.size := by rw [e3.1, r3.1, e2.1, r2.1, e1.1, r1.1, e0.1]
  have keep : ∀ c o, c ≠ z → c ≠ oo → c ≠ j1 → c ≠ j2 → c ≠ j3 → h0.get? c = some o → k3.get? c = some o := fun c o q1 q2 q3 q4 q5 q6 =>
    e3.extBut _ _ q2 (r3.extBut _ _ q5 (e2.extBut _ _ q2 (r2.extBut _ _ q4 (e1.extBut _ _ q2 (r1.extBut _ _ q3 (e0.extBut _ _ q1 q6))))))
  have w1 : S1 (i + 1) k3 := d1.over (d1.over (d1.over (d1.over (d1.over v1 e1 sp.Tf1) r2 sp.sep2_1) e2 sp.Tf1) r3 sp.sep3_1) e3 sp.Tf1
  have w2 : S2 (i + 1) k3 := d2.over (d2.over (d2.over v2 e2 sp.Tf2) r3 sp.sep3_2) e3 sp.Tf2
  have w3 : S3 (i + 1) k3 := d3.over v3 e3 sp.Tf3
  have zlt : z < k3.objs.size := Heap.lt_size zz
  change wpAny (model prog w) _ (Builtin.SmallTypes.ownedTupleHandOut (Value.ref z) (Value.ref k3.objs.size) >>= _) _ _ ⟨k3.push { cls := .type "tuple", data := .seq #[x1, x2, x3] }, gg, dd, t3, oss⟩
  refine wpAny_bind ?_
  unfold Builtin.SmallTypes.ownedTupleHandOut
  have zz1 : Zb (k3.push { cls := .type "tuple", data := .seq #[x1, x2, x3] }) z ti oo .ellipsis fl := Heap.get?_push_of_some _ zz
  refine wpAny_bind (wpAny_setField_rec (s := ⟨k3.push { cls := .type "tuple", data := .seq #[x1, x2, x3] }, gg, dd, t3, oss⟩) zz1 (by simp) fun k4 y4 e4 => ?_)
  have y4 : Zb k4 z ti oo (rawInt k3.objs.size) fl := y4
  have e4 : Heap.SameBut z (k3.push { cls := .type "tuple", data := .seq #[x1, x2, x3] }) k4 := e4
  refine wpAny_setField_rec (s := ⟨k4, gg, dd, t3, oss⟩) y4 (by simp) fun k5 y5 e5 => wpAny_pure ⟨_, rfl, ?_⟩
  have y5 : Zb k5 z ti oo (rawInt k3.objs.size) (.bool false) := y5
  have e5 : Heap.SameBut z k4 k5 := e5
  have up : ∀ c o, c ≠ z → k3.get? c = some o → k5.get? c = some o := fun c o q q' => e5.extBut _ _ q (e4.extBut _ _ q (Heap.get?_push_of_some _ q'))
  have tn : T3 k5 k3.objs.size x1 x2 x3 := e5.extBut _ _ (Nat.ne_of_gt zlt) (e4.extBut _ _ (Nat.ne_of_gt zlt) (Heap.get?_push_size _ rfl))
  show Q (.ref k3.objs.size) ⟨k5, gg, dd, t3, oss⟩
  rw [size] at tn ⊢
  exact hQ x1 x2 x3 k5 t3 _ _ _ _ _ g1 g2 g3 y5 ⟨_, rfl⟩ ⟨_, rfl⟩ (up _ _ sp.TOz y3) (d1.frame _ _ _ w1 fun b hb o q => up b o (fun e => sp.zf1 (e ▸ hb)) q) (d2.frame _ _ _ w2 fun b hb o q => up b o (fun e => sp.zf2 (e ▸ hb)) q)
    (d3.frame _ _ _ w3 fun b hb o q => up b o (fun e => sp.zf3 (e ▸ hb)) q) tn fun c o q1 q2 q3 q4 q5 q6 => up c o q1 (keep c o q1 q2 q3 q4 q5 q6)
/-- its own tuple is free, and the third ends -/
theorem z3_freeEnd {Q : PySem.Fin → Shared → Prop} (I : Zin prog w A s z ti oo j1 j2 j3 f1 f2 f3 n1 n2 n3 i P1 P2 P3 S1 S2 S3 b1 b2 b3 mk fl) (own : ∀ R : Bool → Shared → Prop, R true s → wpAny (model prog w) A (Builtin.SmallTypes.ownedTupleIsFree (.ref z)) R E s)
    (l1 : i < n1) (l2 : i < n2) (l3 : i = n3) (hE : Zend s z oo j1 j2 j3 E) : wpAny (model prog w) A (Builtin.«zip.__next__» ⟨[.ref z], []⟩) Q E s := by
  obtain ⟨sp, d1, d2, d3, zp, tt, ow, a1, a2, a3⟩ := I
  obtain ⟨h0, gg, dd, t0, oss⟩ := s
  change wpAny (model prog w) _ (field (Value.ref z) 2 >>= _) _ _ _
  refine wpAny_bind (wpAny_field zp rfl (x := Value.bool false) rfl ?_)
  change wpAny (model prog w) _ (field (Value.ref z) 3 >>= _) _ _ _
  refine wpAny_bind (wpAny_field zp rfl (x := Value.ref ti) rfl ?_)
  refine wpAny_bind (wpAny_seqItems tt rfl ?_)
  change wpAny (model prog w) _ (Builtin.SmallTypes.ownedTupleIsFree (Value.ref z) >>= _) _ _ _
  refine wpAny_bind (own _ ?_)
  rw [if_pos rfl]
  refine wpAny_bind (wpAny_rule (wpAny_bind (wpAny_field zp rfl (x := Value.ref oo) rfl ?_)))
  refine wpAny_bind (wpAny_setField_rec zp (by simp) fun k0 y0 e0 => ?_)
  have y0 : Zb k0 z ti oo .ellipsis fl := y0
  have e0 : Heap.SameBut z h0 k0 := e0
  refine wpAny_bind ?_
  simp only [List.zipIdx_cons, List.zipIdx_nil, List.forIn_cons, List.forIn_nil]
  refine wpAny_bind (wpAny_bind (wpAny_onRaise ?_))
  change wpAny (model prog w) _ (Builtin.SmallTypes.nextOf (Value.ref j1) >>= _) _ _ _
  refine wpAny_bind (d1.item i (s := ⟨k0, gg, dd, t0, oss⟩) _ _ l1 (d1.over a1 e0 sp.zf1) fun x1 m1 t1 g1 v1 r1 => wpAny_pure ?_)
  have r1 : Heap.SameBut j1 k0 m1 := r1
  have u1 : T3 m1 oo b1 b2 b3 := r1.extBut _ _ sp.Ti1 (e0.extBut _ _ sp.TOz ow)
  refine wpAny_bind (wpAny_seqItems (s := ⟨m1, gg, dd, t1, oss⟩) u1 rfl (wpAny_bind (updateSeq_IsTupOf3 (s := ⟨m1, gg, dd, t1, oss⟩) u1 fun k1 y1 e1 => wpAny_bind (wpAny_letGo (wpAny_pure ?_)))))
  have y1 : T3 k1 oo x1 b2 b3 := y1
  have e1 : Heap.SameBut oo m1 k1 := e1
  have c2 : S2 i k1 := d2.over (d2.over (d2.over a2 e0 sp.zf2) r1 sp.sep1_2) e1 sp.Tf2
  refine wpAny_bind (wpAny_bind (wpAny_onRaise ?_))
  change wpAny (model prog w) _ (Builtin.SmallTypes.nextOf (Value.ref j2) >>= _) _ _ _
  refine wpAny_bind (d2.item i (s := ⟨k1, gg, dd, t1, oss⟩) _ _ l2 c2 fun x2 m2 t2 g2 v2 r2 => wpAny_pure ?_)
  have r2 : Heap.SameBut j2 k1 m2 := r2
  have u2 : T3 m2 oo x1 b2 b3 := r2.extBut _ _ sp.Ti2 y1
  refine wpAny_bind (wpAny_seqItems (s := ⟨m2, gg, dd, t2, oss⟩) u2 rfl (wpAny_bind (updateSeq_IsTupOf3 (s := ⟨m2, gg, dd, t2, oss⟩) u2 fun k2 y2 e2 => wpAny_bind (wpAny_letGo (wpAny_pure ?_)))))
  have e2 : Heap.SameBut oo m2 k2 := e2
  have c3 : S3 i k2 := d3.over (d3.over (d3.over (d3.over (d3.over a3 e0 sp.zf3) r1 sp.sep1_3) e1 sp.Tf3) r2 sp.sep2_3) e2 sp.Tf3
  refine wpAny_bind (wpAny_bind (wpAny_onRaise ?_))
  change wpAny (model prog w) _ (Builtin.SmallTypes.nextOf (Value.ref j3) >>= _) _ _ _
  refine wpAny_bind (d3.done ⟨k2, gg, dd, t2, oss⟩ _ _ (by rw [← l3]; exact c3) fun m3 e r3 he => ?_)
  have r3 : Heap.ExtBut j3 k2 m3 := r3
  obtain ⟨oe, ge, ce⟩ := he
  have ge : m3.get? e = some oe := ge
  have zz : Zb m3 z ti oo .ellipsis fl := r3 _ _ sp.zi3 (e2.extBut _ _ sp.TOz.symm (r2.extBut _ _ sp.zi2 (e1.extBut _ _ sp.TOz.symm (r1.extBut _ _ sp.zi1 y0))))
  have ne : e ≠ z := fun q => by
    rw [q, zz] at ge
    cases ge
    simp at ce
  refine wpAny_setField_rec (s := ⟨m3, gg, dd, t2, oss⟩) zz (by simp) fun k4 _ e4 => ?_
  have e4 : Heap.SameBut z m3 k4 := e4
  exact hE k4 t2 e (fun c o q1 q2 q3 q4 q5 q6 => e4.extBut _ _ q1 (r3 _ _ q5 (e2.extBut _ _ q2 (r2.extBut _ _ q4 (e1.extBut _ _ q2 (r1.extBut _ _ q3 (e0.extBut _ _ q1 q6))))))) ⟨oe, e4.extBut _ _ ne ge, ce⟩
/-- its own tuple is held elsewhere: a new one is made -/
theorem z3_held {Q : Value → Shared → Prop} (I : Zin prog w A s z ti oo j1 j2 j3 f1 f2 f3 n1 n2 n3 i P1 P2 P3 S1 S2 S3 b1 b2 b3 mk fl) (hm : ∃ a, mk = rawInt a)
    (own : ∀ R : Bool → Shared → Prop, (∀ h', Zb h' z ti oo mk (.bool true) → Heap.SameBut z s.heap h' → R false { s with heap := h' }) → wpAny (model prog w) A (Builtin.SmallTypes.ownedTupleIsFree (.ref z)) R E s)
    (l1 : i < n1) (l2 : i < n2) (l3 : i < n3) (hQ : Zout s z ti oo j1 j2 j3 i P1 P2 P3 S1 S2 S3 Q) :
    wpAny (model prog w) A (Builtin.«zip.__next__» ⟨[.ref z], []⟩) (fun fin s' => ∃ v, fin = .done (.ret v) ∧ Q v s') E s := by
  obtain ⟨sp, d1, d2, d3, zp, tt, ow, a1, a2, a3⟩ := I
  obtain ⟨h0, gg, dd, t0, oss⟩ := s
  change wpAny (model prog w) _ (field (Value.ref z) 2 >>= _) _ _ _
  refine wpAny_bind (wpAny_field zp rfl (x := Value.bool false) rfl ?_)
  change wpAny (model prog w) _ (field (Value.ref z) 3 >>= _) _ _ _
  refine wpAny_bind (wpAny_field zp rfl (x := Value.ref ti) rfl ?_)
  refine wpAny_bind (wpAny_seqItems tt rfl ?_)
  change wpAny (model prog w) _ (Builtin.SmallTypes.ownedTupleIsFree (Value.ref z) >>= _) _ _ _
  refine wpAny_bind (own _ fun k0 y0 e0 => ?_)
  have y0 : Zb k0 z ti oo mk (.bool true) := y0
  have e0 : Heap.SameBut z h0 k0 := e0
  rw [if_neg Bool.false_ne_true]
  refine wpAny_bind ?_
  rw [← Array.forIn_toList]
  simp only [List.forIn_cons, List.forIn_nil]
  refine wpAny_bind (wpAny_bind (wpAny_holding ?_))
  change wpAny (model prog w) _ (Builtin.SmallTypes.nextOf (Value.ref j1) >>= _) _ _ _
  refine wpAny_bind (d1.item i (s := ⟨k0, gg, dd, t0, oss⟩) _ _ l1 (d1.over a1 e0 sp.zf1) fun x1 m1 t1 g1 v1 r1 => wpAny_pure (wpAny_pure ?_))
  have r1 : Heap.SameBut j1 k0 m1 := r1
  have c2 : S2 i m1 := d2.over (d2.over a2 e0 sp.zf2) r1 sp.sep1_2
  refine wpAny_bind (wpAny_bind (wpAny_holding ?_))
  change wpAny (model prog w) _ (Builtin.SmallTypes.nextOf (Value.ref j2) >>= _) _ _ _
  refine wpAny_bind (d2.item i (s := ⟨m1, gg, dd, t1, oss⟩) _ _ l2 c2 fun x2 m2 t2 g2 v2 r2 => wpAny_pure (wpAny_pure ?_))
  have r2 : Heap.SameBut j2 m1 m2 := r2
  have c3 : S3 i m2 := d3.over (d3.over (d3.over a3 e0 sp.zf3) r1 sp.sep1_3) r2 sp.sep2_3
  refine wpAny_bind (wpAny_bind (wpAny_holding ?_))
  change wpAny (model prog w) _ (Builtin.SmallTypes.nextOf (Value.ref j3) >>= _) _ _ _
  refine wpAny_bind (d3.item i (s := ⟨m2, gg, dd, t2, oss⟩) _ _ l3 c3 fun x3 m3 t3 g3 v3 r3 => wpAny_pure (wpAny_pure (wpAny_pure ?_)))
  have r3 : Heap.SameBut j3 m2 m3 := r3
  change wpAny (model prog w) _ (newTuple [x1, x2, x3] >>= _) _ _ _
  refine wpAny_bind (wpAny_newTuple (wpAny_pure ⟨_, rfl, ?_⟩))
  have size : m3.objs.size = h0.objs.size := by rw [r3.1, r2.1, r1.1, e0.1]
  have zz : Zb m3 z ti oo mk (.bool true) := r3.extBut _ _ sp.zi3 (r2.extBut _ _ sp.zi2 (r1.extBut _ _ sp.zi1 y0))
  have keep : ∀ c o, c ≠ z → c ≠ j1 → c ≠ j2 → c ≠ j3 → h0.get? c = some o → m3.get? c = some o := fun c o q1 q3 q4 q5 q6 => r3.extBut _ _ q5 (r2.extBut _ _ q4 (r1.extBut _ _ q3 (e0.extBut _ _ q1 q6)))
  have up : ∀ c o, m3.get? c = some o → (m3.push { cls := .type "tuple", data := .seq #[x1, x2, x3] }).get? c = some o := fun c o q => Heap.get?_push_of_some _ q
  have tn : T3 (m3.push { cls := .type "tuple", data := .seq #[x1, x2, x3] }) m3.objs.size x1 x2 x3 := Heap.get?_push_size _ rfl
  change Q (.ref m3.objs.size) ⟨m3.push { cls := .type "tuple", data := .seq #[x1, x2, x3] }, gg, dd, t3, oss⟩
  rw [size] at tn ⊢
  have w1 : S1 (i + 1) m3 := d1.over (d1.over v1 r2 sp.sep2_1) r3 sp.sep3_1
  have w2 : S2 (i + 1) m3 := d2.over v2 r3 sp.sep3_2
  exact hQ x1 x2 x3 _ t3 _ _ _ _ _ g1 g2 g3 (up _ _ zz) hm ⟨_, rfl⟩ (up _ _ (keep _ _ sp.TOz sp.Ti1 sp.Ti2 sp.Ti3 ow)) (d1.frame _ _ _ w1 fun b _ o q => up b o q) (d2.frame _ _ _ w2 fun b _ o q => up b o q)
    (d3.frame _ _ _ v3 fun b _ o q => up b o q) tn fun c o q1 _ q3 q4 q5 q6 => up c o (keep c o q1 q3 q4 q5 q6)
theorem z3_heldEnd {Q : PySem.Fin → Shared → Prop} (I : Zin prog w A s z ti oo j1 j2 j3 f1 f2 f3 n1 n2 n3 i P1 P2 P3 S1 S2 S3 b1 b2 b3 mk fl)
    (own : ∀ R : Bool → Shared → Prop, (∀ h', Zb h' z ti oo mk (.bool true) → Heap.SameBut z s.heap h' → R false { s with heap := h' }) → wpAny (model prog w) A (Builtin.SmallTypes.ownedTupleIsFree (.ref z)) R E s)
    (l1 : i < n1) (l2 : i < n2) (l3 : i = n3) (hE : Zend s z oo j1 j2 j3 E) : wpAny (model prog w) A (Builtin.«zip.__next__» ⟨[.ref z], []⟩) Q E s := by
  obtain ⟨sp, d1, d2, d3, zp, tt, ow, a1, a2, a3⟩ := I
  obtain ⟨h0, gg, dd, t0, oss⟩ := s
  change wpAny (model prog w) _ (field (Value.ref z) 2 >>= _) _ _ _
  refine wpAny_bind (wpAny_field zp rfl (x := Value.bool false) rfl ?_)
  change wpAny (model prog w) _ (field (Value.ref z) 3 >>= _) _ _ _
  refine wpAny_bind (wpAny_field zp rfl (x := Value.ref ti) rfl ?_)
  refine wpAny_bind (wpAny_seqItems tt rfl ?_)
  change wpAny (model prog w) _ (Builtin.SmallTypes.ownedTupleIsFree (Value.ref z) >>= _) _ _ _
  refine wpAny_bind (own _ fun k0 y0 e0 => ?_)
  have e0 : Heap.SameBut z h0 k0 := e0
  rw [if_neg Bool.false_ne_true]
  refine wpAny_bind ?_
  rw [← Array.forIn_toList]
  simp only [List.forIn_cons, List.forIn_nil]
  refine wpAny_bind (wpAny_bind (wpAny_holding ?_))
  change wpAny (model prog w) _ (Builtin.SmallTypes.nextOf (Value.ref j1) >>= _) _ _ _
  refine wpAny_bind (d1.item i (s := ⟨k0, gg, dd, t0, oss⟩) _ _ l1 (d1.over a1 e0 sp.zf1) fun x1 m1 t1 g1 v1 r1 => wpAny_pure (wpAny_pure ?_))
  have r1 : Heap.SameBut j1 k0 m1 := r1
  have c2 : S2 i m1 := d2.over (d2.over a2 e0 sp.zf2) r1 sp.sep1_2
  refine wpAny_bind (wpAny_bind (wpAny_holding ?_))
  change wpAny (model prog w) _ (Builtin.SmallTypes.nextOf (Value.ref j2) >>= _) _ _ _
  refine wpAny_bind (d2.item i (s := ⟨m1, gg, dd, t1, oss⟩) _ _ l2 c2 fun x2 m2 t2 g2 v2 r2 => wpAny_pure (wpAny_pure ?_))
  have r2 : Heap.SameBut j2 m1 m2 := r2
  have c3 : S3 i m2 := d3.over (d3.over (d3.over a3 e0 sp.zf3) r1 sp.sep1_3) r2 sp.sep2_3
  refine wpAny_bind (wpAny_bind (wpAny_holding ?_))
  change wpAny (model prog w) _ (Builtin.SmallTypes.nextOf (Value.ref j3) >>= _) _ _ _
  refine wpAny_bind (d3.done ⟨m2, gg, dd, t2, oss⟩ _ _ (by rw [← l3]; exact c3) fun m3 e r3 he => ?_)
  have r3 : Heap.ExtBut j3 m2 m3 := r3
  exact hE m3 t2 e (fun c o q1 _ q3 q4 q5 q6 => r3 _ _ q5 (r2.extBut _ _ q4 (r1.extBut _ _ q3 (e0.extBut _ _ q1 q6)))) he
/-- is it free? -/
theorem z3_own (hz : Zb s.heap z ti oo mk fl) (hm : mk = .none ∨ ∃ a, mk = rawInt a) (hf : ∃ b, fl = .bool b) :
    (∀ (E : Value → Shared → Prop) (R : Bool → Shared → Prop), R true s → wpAny (model prog w) A (Builtin.SmallTypes.ownedTupleIsFree (.ref z)) R E s) ∨
    ((∃ a, mk = rawInt a) ∧ ∀ (E : Value → Shared → Prop) (R : Bool → Shared → Prop), (∀ h', Zb h' z ti oo mk (.bool true) → Heap.SameBut z s.heap h' → R false { s with heap := h' }) → wpAny (model prog w) A (Builtin.SmallTypes.ownedTupleIsFree (.ref z)) R E s) := by
  rcases hm with rfl | ⟨a, rfl⟩
  · refine .inl fun E R h => ?_
    unfold Builtin.SmallTypes.ownedTupleIsFree
    exact wpAny_bind (wpAny_field hz rfl (x := Value.none) rfl (wpAny_pure h))
  · cases ga : s.heap.get? a.toNat with
    | none =>
      refine .inl fun E R h => ?_
      unfold Builtin.SmallTypes.ownedTupleIsFree
      refine wpAny_bind (wpAny_field hz rfl (x := rawInt a) rfl ?_)
      change wpAny (model prog w) _ (loadIfAlive a.toNat >>= _) _ _ _
      refine wpAny_bind ?_
      have q : (fun (o : Option Obj) (s' : Shared) => wpAny (model prog w) A (if o.isNone = true then pure true else do
          if (← field (Value.ref z) 1) != .bool true then setField (Value.ref z) 1 (.bool true)
          return false) R E s') (s.heap.get? a.toNat) s := by
        rw [ga]
        exact wpAny_pure h
      exact fun _ _ _ => q
    | some o =>
      refine .inr ⟨⟨a, rfl⟩, fun E R h => ?_⟩
      obtain ⟨b, rfl⟩ := hf
      unfold Builtin.SmallTypes.ownedTupleIsFree
      refine wpAny_bind (wpAny_field hz rfl (x := rawInt a) rfl ?_)
      change wpAny (model prog w) _ (loadIfAlive a.toNat >>= _) _ _ _
      refine wpAny_bind (PySem.W.kdx_alive ga ?_)
      rw [if_neg (by simp)]
      refine wpAny_bind (wpAny_field hz rfl (x := Value.bool b) rfl ?_)
      cases b with
      | true => exact wpAny_pure (h s.heap hz (Heap.SameBut.refl _ _))
      | false => exact wpAny_bind (wpAny_setField_rec hz (by simp) fun k e r => wpAny_pure (h k e r))
end
end Ev

/-! Ev: zip of three tuples as a walk -/
namespace Ev
open PySem PySem.Spec PyProof.Rows L2
theorem sep3 {N a b c : Addr} (ha : a < N) (hb : b < N) (hc : c < N) : ZipSep3 (N + 5) (N + 3) (N + 4) N (N + 1) (N + 2) [N, a] [N + 1, b] [N + 2, c] where
  TIz := (by have ha : a < N := ha; exact Nat.ne_of_lt (by omega))
  TOz := (by exact Nat.ne_of_lt (by omega))
  TITO := (by exact Nat.ne_of_lt (by omega))
  TIi1 := (by exact Nat.ne_of_gt (by omega))
  mem1 := by simp
  zf1 := by
    intro h
    rcases List.mem_cons.mp h with h | h
    · exact absurd h (Nat.ne_of_gt (by omega))
    · exact absurd (List.mem_singleton.mp h) (Nat.ne_of_gt (Nat.lt_of_lt_of_le ha (by omega)))
  Tf1 := by
    intro h
    rcases List.mem_cons.mp h with h | h
    · exact absurd h (Nat.ne_of_gt (by omega))
    · exact absurd (List.mem_singleton.mp h) (Nat.ne_of_gt (Nat.lt_of_lt_of_le ha (by omega)))
  TIi2 := (by exact Nat.ne_of_gt (by omega))
  mem2 := by simp
  zf2 := by
    intro h
    rcases List.mem_cons.mp h with h | h
    · exact absurd h (Nat.ne_of_gt (by omega))
    · exact absurd (List.mem_singleton.mp h) (Nat.ne_of_gt (Nat.lt_of_lt_of_le hb (by omega)))
  Tf2 := by
    intro h
    rcases List.mem_cons.mp h with h | h
    · exact absurd h (Nat.ne_of_gt (by omega))
    · exact absurd (List.mem_singleton.mp h) (Nat.ne_of_gt (Nat.lt_of_lt_of_le hb (by omega)))
  TIi3 := (by exact Nat.ne_of_gt (by omega))
  mem3 := by simp
  zf3 := by
    intro h
    rcases List.mem_cons.mp h with h | h
    · exact absurd h (Nat.ne_of_gt (by omega))
    · exact absurd (List.mem_singleton.mp h) (Nat.ne_of_gt (Nat.lt_of_lt_of_le hc (by omega)))
  Tf3 := by
    intro h
    rcases List.mem_cons.mp h with h | h
    · exact absurd h (Nat.ne_of_gt (by omega))
    · exact absurd (List.mem_singleton.mp h) (Nat.ne_of_gt (Nat.lt_of_lt_of_le hc (by omega)))
  sep1_2 := by
    intro h
    rcases List.mem_cons.mp h with h | h
    · exact absurd h (Nat.ne_of_lt (by omega))
    · exact absurd (List.mem_singleton.mp h) (Nat.ne_of_gt (Nat.lt_of_lt_of_le hb (by omega)))
  sep1_3 := by
    intro h
    rcases List.mem_cons.mp h with h | h
    · exact absurd h (Nat.ne_of_lt (by omega))
    · exact absurd (List.mem_singleton.mp h) (Nat.ne_of_gt (Nat.lt_of_lt_of_le hc (by omega)))
  sep2_1 := by
    intro h
    rcases List.mem_cons.mp h with h | h
    · exact absurd h (Nat.ne_of_gt (by omega))
    · exact absurd (List.mem_singleton.mp h) (Nat.ne_of_gt (Nat.lt_of_lt_of_le ha (by omega)))
  sep2_3 := by
    intro h
    rcases List.mem_cons.mp h with h | h
    · exact absurd h (Nat.ne_of_lt (by omega))
    · exact absurd (List.mem_singleton.mp h) (Nat.ne_of_gt (Nat.lt_of_lt_of_le hc (by omega)))
  sep3_1 := by
    intro h
    rcases List.mem_cons.mp h with h | h
    · exact absurd h (Nat.ne_of_gt (by omega))
    · exact absurd (List.mem_singleton.mp h) (Nat.ne_of_gt (Nat.lt_of_lt_of_le ha (by omega)))
  sep3_2 := by
    intro h
    rcases List.mem_cons.mp h with h | h
    · exact absurd h (Nat.ne_of_gt (by omega))
    · exact absurd (List.mem_singleton.mp h) (Nat.ne_of_gt (Nat.lt_of_lt_of_le hb (by omega)))
theorem six {c N : Addr} (h : c ∈ [N + 5, N + 3, N + 4, N, N + 1, N + 2]) : c = N + 5 ∨ c = N + 3 ∨ c = N + 4 ∨ c = N ∨ c = N + 1 ∨ c = N + 2 := by simpa using h
def Itz3 (K : PySem.W.Frag) (a b c : Addr) : It :=
  ⟨fun n H => ∃ (xs ys zs : List V) (x y w : V), SqT K H a xs ∧ SqT K H b ys ∧ SqT K H c zs ∧ xs[n]? = some x ∧ ys[n]? = some y ∧ zs[n]? = some w,
    fun n H v H' => ∃ p x y w, v = .ref p ∧ H p = none ∧ H' = upd H p (.tup [x, y, w]) ∧ (∀ xs, SqT K H a xs → xs[n]? = some x) ∧ (∀ ys, SqT K H b ys → ys[n]? = some y) ∧ ∀ zs, SqT K H c zs → zs[n]? = some w,
    fun n H => ∃ xs ys zs : List V, SqT K H a xs ∧ SqT K H b ys ∧ SqT K H c zs ∧ n < xs.length ∧ n < ys.length ∧ n = zs.length⟩
/-- the walk's heap -/
def Tn3 (N a b c : Addr) (n : Nat) (h : Heap) : Prop := ∃ mk fl x y w, Zb h (N + 5) (N + 3) (N + 4) mk fl ∧ (mk = .none ∨ ∃ m, mk = rawInt m) ∧ (∃ f, fl = .bool f) ∧ T3 h (N + 3) (.ref N) (.ref (N + 1)) (.ref (N + 2)) ∧ T3 h (N + 4) x y w ∧
  h.IsTupleIter N a n ∧ h.IsTupleIter (N + 1) b n ∧ h.IsTupleIter (N + 2) c n
section
variable {prog : Program} {w : World} {A : Around} {E : Value → Shared → Prop} {s : Shared} {N a b c : Addr} {n : Nat} {us vs ws : Array Value}
theorem zin3 (hh : A.handled = none) (ha : a < N) (hb : b < N) (hc : c < N) (pa : s.heap.IsTuple a us) (pb : s.heap.IsTuple b vs) (pc : s.heap.IsTuple c ws) {mk fl x y z : Value} (h1 : Zb s.heap (N + 5) (N + 3) (N + 4) mk fl) (h2 : T3 s.heap (N + 3) (.ref N) (.ref (N + 1)) (.ref (N + 2))) (h3 : T3 s.heap (N + 4) x y z)
    (i1 : s.heap.IsTupleIter N a n) (i2 : s.heap.IsTupleIter (N + 1) b n) (i3 : s.heap.IsTupleIter (N + 2) c n) :
    Zin prog w A s (N + 5) (N + 3) (N + 4) N (N + 1) (N + 2) [N, a] [N + 1, b] [N + 2, c] us.size vs.size ws.size n (fun i v => us[i]? = some v) (fun i v => vs[i]? = some v) (fun i v => ws[i]? = some v)
      (fun i h => h.IsTupleIter N a i ∧ h.IsTuple a us) (fun i h => h.IsTupleIter (N + 1) b i ∧ h.IsTuple b vs) (fun i h => h.IsTupleIter (N + 2) c i ∧ h.IsTuple c ws) x y z mk fl :=
  ⟨sep3 ha hb hc, Draws.tuple hh N a (Nat.ne_of_lt ha) us, Draws.tuple hh (N + 1) b (Nat.ne_of_lt (Nat.lt_of_lt_of_le hb (by omega))) vs, Draws.tuple hh (N + 2) c (Nat.ne_of_lt (Nat.lt_of_lt_of_le hc (by omega))) ws, h1, h2, h3, ⟨i1, pa⟩, ⟨i2, pb⟩, ⟨i3, pc⟩⟩
theorem next3 (hh : A.in1.handled = none) (ha : a < N) (hb : b < N) (hc : c < N) (pa : s.heap.IsTuple a us) (pb : s.heap.IsTuple b vs) (pc : s.heap.IsTuple c ws) (t : Tn3 N a b c n s.heap) (l1 : n < us.size) (l2 : n < vs.size) (l3 : n < ws.size) {Q : Option Value → Shared → Prop}
    (hQ : ∀ x1 x2 x3 h' tk, us[n]? = some x1 → vs[n]? = some x2 → ws[n]? = some x3 → Tn3 N a b c (n + 1) h' → T3 h' s.heap.objs.size x1 x2 x3 → (∀ d o, d ∉ [N + 5, N + 3, N + 4, N, N + 1, N + 2] → s.heap.get? d = some o → h'.get? d = some o) →
      (∀ o, s.heap.get? (N + 3) = some o → h'.get? (N + 3) = some o) → Q (some (.ref s.heap.objs.size)) { s with heap := h', toks := tk }) : wpAny (model prog w) A (pyNext (.ref (N + 5))) Q E s := by
  obtain ⟨mk, fl, x, y, z, h1, hm, hf, h2, h3, i1, i2, i3⟩ := t
  have hT : s.TypeIs (.ref (N + 5)) "zip" := ⟨_, h1, rfl⟩
  have I := zin3 (prog := prog) (w := w) (s := s) hh ha hb hc pa pb pc h1 h2 h3 i1 i2 i3
  have sp := I.sep
  have keepTI : ∀ h' : Heap, (∀ c o, c ≠ N + 5 → c ≠ N + 4 → c ≠ N → c ≠ N + 1 → c ≠ N + 2 → s.heap.get? c = some o → h'.get? c = some o) → ∀ o, s.heap.get? (N + 3) = some o → h'.get? (N + 3) = some o := fun h' k o q => k _ _ sp.TIz sp.TITO sp.TIi1 sp.TIi2 sp.TIi3 q
  have outs : ∀ h' : Heap, (∀ c o, c ≠ N + 5 → c ≠ N + 4 → c ≠ N → c ≠ N + 1 → c ≠ N + 2 → s.heap.get? c = some o → h'.get? c = some o) → ∀ d o, d ∉ [N + 5, N + 3, N + 4, N, N + 1, N + 2] → s.heap.get? d = some o → h'.get? d = some o := fun h' k d o hd q => by
    simp only [List.mem_cons, List.not_mem_nil, or_false, not_or] at hd
    exact k d o hd.1 hd.2.2.1 hd.2.2.2.1 hd.2.2.2.2.1 hd.2.2.2.2.2 q
  unfold pyNext
  rcases z3_own (prog := prog) (w := w) (A := A.in1) h1 hm hf with own | ⟨hr, own⟩
  · exact wpAny_bind (wpAny_attempt (wpAny_callSpecial?_slot (name := Str.ofString "__next__") hT F.slot_zip_next (wpAny_call_entry F.slot_zip_next hT F.entry_zip_next
      (z3_free I (own _) l1 l2 l3 fun x1 x2 x3 h' tk mk' fl' c1 c2 c3 p1 p2 p3 y1 y2 y3 y4 s1 s2 s3 tn keep => wpAny_pure (hQ x1 x2 x3 h' tk p1 p2 p3 ⟨mk', fl', c1, c2, c3, y1, .inr y2, y3, keepTI h' keep _ h2, y4, s1.1, s2.1, s3.1⟩ tn (outs h' keep) (keepTI h' keep))) (F.args_zip_next_1 _))))
  · exact wpAny_bind (wpAny_attempt (wpAny_callSpecial?_slot (name := Str.ofString "__next__") hT F.slot_zip_next (wpAny_call_entry F.slot_zip_next hT F.entry_zip_next
      (z3_held I hr (own _) l1 l2 l3 fun x1 x2 x3 h' tk mk' fl' c1 c2 c3 p1 p2 p3 y1 y2 y3 y4 s1 s2 s3 tn keep => wpAny_pure (hQ x1 x2 x3 h' tk p1 p2 p3 ⟨mk', fl', c1, c2, c3, y1, .inr y2, y3, keepTI h' keep _ h2, y4, s1.1, s2.1, s3.1⟩ tn (outs h' keep) (keepTI h' keep))) (F.args_zip_next_1 _))))
theorem next3End (hh : A.in1.handled = none) (ha : a < N) (hb : b < N) (hc : c < N) (pa : s.heap.IsTuple a us) (pb : s.heap.IsTuple b vs) (pc : s.heap.IsTuple c ws) (t : Tn3 N a b c n s.heap) (l1 : n < us.size) (l2 : n < vs.size) (l3 : n = ws.size) {Q : Option Value → Shared → Prop}
    (hQ : ∀ h' tk, (∀ d o, d ∉ [N + 5, N + 3, N + 4, N, N + 1, N + 2] → s.heap.get? d = some o → h'.get? d = some o) → Q none { s with heap := h', toks := tk }) : wpAny (model prog w) A (pyNext (.ref (N + 5))) Q E s := by
  obtain ⟨mk, fl, x, y, z, h1, hm, hf, h2, h3, i1, i2, i3⟩ := t
  have hT : s.TypeIs (.ref (N + 5)) "zip" := ⟨_, h1, rfl⟩
  have I := zin3 (prog := prog) (w := w) (s := s) hh ha hb hc pa pb pc h1 h2 h3 i1 i2 i3
  have outs : ∀ h' : Heap, (∀ c o, c ≠ N + 5 → c ≠ N + 4 → c ≠ N → c ≠ N + 1 → c ≠ N + 2 → s.heap.get? c = some o → h'.get? c = some o) → ∀ d o, d ∉ [N + 5, N + 3, N + 4, N, N + 1, N + 2] → s.heap.get? d = some o → h'.get? d = some o := fun h' k d o hd q => by
    simp only [List.mem_cons, List.not_mem_nil, or_false, not_or] at hd
    exact k d o hd.1 hd.2.2.1 hd.2.2.2.1 hd.2.2.2.2.1 hd.2.2.2.2.2 q
  unfold pyNext
  rcases z3_own (prog := prog) (w := w) (A := A.in1) h1 hm hf with own | ⟨hr, own⟩
  · refine wpAny_bind (wpAny_attempt (wpAny_callSpecial?_slot (name := Str.ofString "__next__") hT F.slot_zip_next (wpAny_call_entry F.slot_zip_next hT F.entry_zip_next (z3_freeEnd I (own _) l1 l2 l3 fun h' tk e k he => ?_) (F.args_zip_next_1 _))))
    obtain ⟨o, ho, hc⟩ := he
    exact wpAny_bind (wpAny_isInstance (T := "StopIteration") (b := true) ⟨o, ho, hc⟩ isSubtype_stop (wpAny_pure (hQ _ _ (outs h' k))))
  · refine wpAny_bind (wpAny_attempt (wpAny_callSpecial?_slot (name := Str.ofString "__next__") hT F.slot_zip_next (wpAny_call_entry F.slot_zip_next hT F.entry_zip_next (z3_heldEnd I (own _) l1 l2 l3 fun h' tk e k he => ?_) (F.args_zip_next_1 _))))
    obtain ⟨o, ho, hc⟩ := he
    exact wpAny_bind (wpAny_isInstance (T := "StopIteration") (b := true) ⟨o, ho, hc⟩ isSubtype_stop (wpAny_pure (hQ _ _ (outs h' k))))
end
theorem turn_zip3 {P : Program} {w : World} {K : PySem.W.Frag} {x : Str} {px : Pos} {N a b c : Addr} (ha : a < N) (hb : b < N) (hc0 : c < N) : Turn P w K (.Name x px) (Itz3 K a b c) [N + 5, N + 3, N + 4, N, N + 1, N + 2] (N + 5) (Tn3 N a b c) where
  mem := by simp
  obj := fun n h st d hd => by
    obtain ⟨mk, fl, x, y, z, h1, _, _, h2, h3, ⟨o1, g1, _, e1⟩, ⟨o2, g2, _, e2⟩, ⟨o3, g3, _, e3⟩⟩ := st
    rcases six hd with e | e | e | e | e | e <;> subst e
    · exact ⟨_, h1, fun v q => nomatch q⟩
    · exact ⟨_, h2, fun v q => nomatch q⟩
    · exact ⟨_, h3, fun v q => nomatch q⟩
    · exact ⟨_, g1, fun v q => by rw [e1] at q; cases q⟩
    · exact ⟨_, g2, fun v q => by rw [e2] at q; cases q⟩
    · exact ⟨_, g3, fun v q => by rw [e3] at q; cases q⟩
  keep := fun n h h' st k => by
    obtain ⟨mk, fl, x, y, z, h1, hm, hf, h2, h3, i1, i2, i3⟩ := st
    exact ⟨mk, fl, x, y, z, k _ (by simp) _ h1, hm, hf, k _ (by simp) _ h2, k _ (by simp) _ h3, i1.at (k _ (by simp)), i2.at (k _ (by simp)), i3.at (k _ (by simp))⟩
  item := by
    intro X hP hw hK hc n pins s σ H E I hf st hg
    subst hP hw hK
    obtain ⟨xs, ys, zs, x, y, z, g1, g2, g3, k1, k2, k3⟩ := hg
    obtain ⟨us, r1, p1, _⟩ := I.tuple g1
    obtain ⟨vs, r2, p2, _⟩ := I.tuple g2
    obtain ⟨ws, r3, p3, _⟩ := I.tuple g3
    obtain ⟨ux, hx, rx⟩ := r1.get k1
    obtain ⟨uy, hy, ry⟩ := r2.get k2
    obtain ⟨uz, hz, rz⟩ := r3.get k3
    have lt : ∀ {us : List Value} {u : Value}, us[n]? = some u → n < us.toArray.size := fun {us u} h => by
      rw [List.size_toArray]
      rcases Nat.lt_or_ge n us.length with q | q
      · exact q
      · rw [List.getElem?_eq_none q] at h; cases h
    refine next3 (I.ok.hd hc) ha hb hc0 p1 p2 p3 st (lt hx) (lt hy) (lt hz) fun x1 x2 x3 h' tk y1 y2 y3 t' tn out kTI => ⟨_, rfl, ?_⟩
    have e1 : x1 = ux := by
      have q : us[n]? = some x1 := by simpa using y1
      rw [hx] at q
      exact (Option.some.inj q).symm
    have e2 : x2 = uy := by
      have q : vs[n]? = some x2 := by simpa using y2
      rw [hy] at q
      exact (Option.some.inj q).symm
    have e3 : x3 = uz := by
      have q : ws[n]? = some x3 := by simpa using y3
      rw [hz] at q
      exact (Option.some.inj q).symm
    subst e1 e2 e3
    have new : ObjOk X.prog X.w (upd H s.heap.objs.size (.tup [x, y, z])) h' s.heap.objs.size (.tup [x, y, z]) := ⟨(show 3 ≤ sizeLine from by decide), [x1, x2, x3], .cons rx (.cons ry (.cons rz .nil)), ⟨_, tn, rfl, _, rfl⟩⟩
    have I1 : Inv X pins σ (upd H s.heap.objs.size (.tup [x, y, z])) { s with heap := h', toks := tk } := I.turnedNew (ch := [N + 5, N + 3, N + 4, N, N + 1, N + 2]) out hf (Nat.le_refl _) new
    refine wpAny_pure ⟨.ref s.heap.objs.size, _, I1, rfl, ⟨_, x, y, z, rfl, I.hok.fresh (Nat.le_refl _), rfl, fun l hl => ?_, fun l hl => ?_, fun l hl => ?_⟩, t', fun d hd => ?_⟩
    · rw [I.tuple_inj hl g1]; exact k1
    · rw [I.tuple_inj hl g2]; exact k2
    · rw [I.tuple_inj hl g3]; exact k3
    · have hlt : d < s.heap.objs.size := by
        obtain ⟨mk, fl, x, y, z, h1, _, _, h2, h3, ⟨o1, g1, _, e1⟩, ⟨o2, g2, _, e2⟩, ⟨o3, g3, _, e3⟩⟩ := st
        rcases six hd with e | e | e | e | e | e
        · rw [e]; exact Heap.lt_size h1
        · rw [e]; exact Heap.lt_size h2
        · rw [e]; exact Heap.lt_size h3
        · rw [e]; exact Heap.lt_size g1
        · rw [e]; exact Heap.lt_size g2
        · rw [e]; exact Heap.lt_size g3
      rw [upd_ne (Nat.ne_of_lt hlt)]
      exact (hf d hd).1
  done := by
    intro X hP hw hK hc n pins s σ H E I hf st hg
    subst hP hw hK
    obtain ⟨xs, ys, zs, g1, g2, g3, k1, k2, k3⟩ := hg
    obtain ⟨us, r1, p1, _⟩ := I.tuple g1
    obtain ⟨vs, r2, p2, _⟩ := I.tuple g2
    obtain ⟨ws, r3, p3, _⟩ := I.tuple g3
    have m1 := r1.length
    have m2 := r2.length
    have m3 := r3.length
    exact next3End (I.ok.hd hc) ha hb hc0 p1 p2 p3 st (by rw [List.size_toArray]; omega) (by rw [List.size_toArray]; omega) (by rw [List.size_toArray]; omega) fun h' tk out => ⟨rfl, I.turnedL (ch := [N + 5, N + 3, N + 4, N, N + 1, N + 2]) out hf⟩
  self := fun A n s Q E st h => by
    obtain ⟨mk, fl, x, y, z, h1, _⟩ := st
    have hT : s.TypeIs (.ref (N + 5)) "zip" := ⟨_, h1, rfl⟩
    refine wpAny_pyIter_slot hT F.slot_zip_iter (wpAny_call_entry F.slot_zip_iter hT F.entry_zip_iter ?_ (F.args_zip_iter_1 _))
    change wpAny _ _ (ret (Value.ref (N + 5))) _ _ s
    exact wpAny_pure ⟨_, rfl, "zip", _, hT, F.slot_zip_next.lookup, h⟩
def iZip3 (K : PySem.W.Frag) (ta : TA) : TI := fun σ H R => ta σ H fun vs H1 => ∃ (a b c : Addr) (xs ys zs : List V), vs = [.ref a, .ref b, .ref c] ∧ SqT K H1 a xs ∧ SqT K H1 b ys ∧ SqT K H1 c zs ∧ R (Itz3 K a b c) H1
theorem pi_zip3 {X : Cx} {e e2 e3 : Expr} {ta : TA} {x : Str} {p pos px : Pos} (hg : Gl X "zip") (hm : X.mg "zip" = none) (ha : PA X [e, e2, e3] ta)
    (hs : starEach [e, e2, e3] X.env = (false, eval e X.env) :: starEach [e2, e3] X.env) (hpl : (backTo pos (starEach [e2, e3] X.env)).any (·.1) = false) : PI X (.Name x px) (.Call (.Name "zip" p) [e, e2, e3] [] pos) (iZip3 X.K ta) := ⟨fun pins s σ H R I h => by
  refine Call_ (ld_blt I hg hm PyProof.Rows.boot_zip (PyProof.Rows.callWith_type1 (thn (ha.run pos pins s σ H _ I h) fun us s1 ⟨vs, H1, I1, r1, q1⟩ => ?_) hs hpl))
  obtain ⟨a, b, c, xs, ys, zs, ev, g1, g2, g3, q⟩ := q1
  subst ev
  cases r1 with
  | cons ra rr =>
    cases rr with
    | cons rb rr =>
      cases rr with
      | cons rc rr =>
        cases rr
        cases ra
        cases rb
        cases rc
        obtain ⟨us1, w1, p1, k1⟩ := seqK (t := true) I1 g1
        obtain ⟨us2, w2, p2, k2⟩ := seqK (t := true) I1 g2
        obtain ⟨us3, w3, p3, k3⟩ := seqK (t := true) I1 g3
        generalize hN : s1.heap.objs.size = N at *
        have fresh : ∀ d, d ∈ [N + 5, N + 3, N + 4, N, N + 1, N + 2] → FpOk X pins H1 d := fun d hd => by
          have hle : s1.heap.objs.size ≤ d := by
            rw [hN]
            rcases six hd with z | z | z | z | z | z <;> rw [z] <;> first | exact Nat.le_refl _ | exact Nat.le_add_right _ _
          exact I1.fpOk hle (I1.hok.fresh hle)
        refine zip_begins3 (beginsK true a us1.toArray) (beginsK true b us2.toArray) (beginsK true c us3.toArray) p1 p2 p3 fun h' hz hTI hTO h1 h2 h3 hsz hk => ?_
        rw [hN] at hz hTI hTO h1 h2 h3
        have I2 : Inv X pins σ H1 { s1 with heap := h' } := I1.kept (t' := s1.toks) hk
        rw [hN]
        have t0 : Tn3 N a b c 0 h' := ⟨.none, .bool false, .none, .none, .none, hz, .inl rfl, ⟨_, rfl⟩, hTI, hTO, ⟨_, h1, rfl, rfl⟩, ⟨_, h2, rfl, rfl⟩, ⟨_, h3, rfl, rfl⟩⟩
        have tr := turn_zip3 (P := X.prog) (w := X.w) (K := X.K) (x := x) (px := px) k1 k2 k3
        exact tr.self _ 0 _ _ _ t0 ⟨N + 5, [N + 5, N + 3, N + 4, N, N + 1, N + 2], _, _, H1, rfl, I2, tr, t0, fresh, q⟩⟩
/-- triples -/
def trs : List D → List D → List D → List D
  | x :: a, y :: b, z :: c => .tup [x, y, z] :: trs a b c
  | _, _, _ => []
theorem trs_get : ∀ (a b c : List D) (i : Nat), i < c.length → c.length < a.length → c.length < b.length → ∃ x y z, a[i]? = some x ∧ b[i]? = some y ∧ c[i]? = some z ∧ (trs a b c)[i]? = some (.tup [x, y, z])
  | x :: a, y :: b, z :: c, 0, _, _, _ => ⟨x, y, z, rfl, rfl, rfl, rfl⟩
  | x :: a, y :: b, z :: c, i + 1, h1, h2, h3 => by
    obtain ⟨p, q, r, e1, e2, e3, e4⟩ := trs_get a b c i (by simpa using h1) (by simpa using h2) (by simpa using h3)
    exact ⟨p, q, r, by simpa using e1, by simpa using e2, by simpa using e3, by simpa [trs] using e4⟩
  | [], _, c, _, h1, h2, _ => by simp at h2
  | _ :: _, [], c, _, h1, _, h3 => by simp at h3
  | _ :: _, _ :: _, [], _, h1, _, _ => by simp at h1
theorem trs_len : ∀ (a b c : List D), c.length < a.length → c.length < b.length → (trs a b c).length = c.length
  | x :: a, y :: b, z :: c, h2, h3 => by simp [trs, trs_len a b c (by simpa using h2) (by simpa using h3)]
  | [], _, c, h2, _ => by simp at h2
  | _ :: _, [], c, _, h3 => by simp at h3
  | _ :: _, _ :: _, [], _, _ => rfl
def zip3D : List D → Option (List D)
  | [.tup a, .tup b, .tup c] => if c.length < a.length ∧ c.length < b.length then some (trs a b c) else none
  | _ => none
theorem new_triple {g : Gh} {H : Hp} {O : Addr → Prop} {p : Addr} {x y z : V} {dx dy dz : D} (hp : H p = none) (hO : ∀ a, O a → H a ≠ none) (hx : Rep g (fz H O) x dx) (hy : Rep g (fz H O) y dy) (hz : Rep g (fz H O) z dz) : Rep g (fz (upd H p (.tup [x, y, z])) O) (.ref p) (.tup [dx, dy, dz]) := by
  have l : Le (fz H O) (fz (upd H p (.tup [x, y, z])) O) := fz_mono fun a o n e => ⟨n, upd_le hp _ _ e⟩
  refine .tup (.inl (.inl ?_)) ((.cons hx (.cons hy (.cons hz .nil)) : RepL g (fz H O) [x, y, z] [dx, dy, dz]).le l)
  rw [fz_out fun q => hO p q hp, upd_same]
theorem rep_tp {g : Gh} {H : Hp} {O : Addr → Prop} {v : V} {a : List D} (h : Rep g (fz H O) v (.tup a)) : ∃ p ws, v = .ref p ∧ SqT g.K H p ws ∧ RepL g (fz H O) ws a := by
  cases h with
  | tup h1 r => exact ⟨_, _, rfl, fz_le.sqT h1, r⟩
theorem sim_zip3 {g : Gh} {p q r : Addr} {a b c : List D} (l1 : c.length < a.length) (l2 : c.length < b.length) : Sim g (Itz3 g.K p q r) (trs a b c) [.ref p, .ref q, .ref r] [.tup a, .tup b, .tup c] := fun H O hO rl i => by
  cases rl with
  | cons q1 rl =>
    cases rl with
    | cons q2 rl =>
      cases rl with
      | cons q3 _ =>
        obtain ⟨_, ws1, e1, s1, r1⟩ := rep_tp q1
        obtain ⟨_, ws2, e2, s2, r2⟩ := rep_tp q2
        obtain ⟨_, ws3, e3, s3, r3⟩ := rep_tp q3
        cases e1; cases e2; cases e3
        rw [trs_len a b c l1 l2]
        refine ⟨fun hi => ?_, fun hi => ⟨ws1, ws2, ws3, s1, s2, s3, by rw [r1.len]; omega, by rw [r2.len]; omega, by rw [r3.len]; omega⟩⟩
        obtain ⟨x, y, z, k1, k2, k3, k4⟩ := trs_get a b c i hi l1 l2
        obtain ⟨v1, u1, m1⟩ := r1.get k1
        obtain ⟨v2, u2, m2⟩ := r2.get k2
        obtain ⟨v3, u3, m3⟩ := r3.get k3
        refine ⟨⟨ws1, ws2, ws3, v1, v2, v3, s1, s2, s3, u1, u2, u3⟩, fun v H' ⟨t, x', y', z', ev, nt, eh, f1, f2, f3⟩ => ⟨_, k4, .inr ⟨t, .tup [x', y', z'], nt, eh, ?_⟩⟩⟩
        have w1 := f1 _ s1
        have w2 := f2 _ s2
        have w3 := f3 _ s3
        rw [u1] at w1; rw [u2] at w2; rw [u3] at w3
        cases w1; cases w2; cases w3
        subst ev
        exact new_triple nt hO m1 m2 m3
theorem mokl3 {F : Cf} {S : List Nat} {m : Mode} {H : Hp} {O : Addr → Prop} {vs : List V} {d d2 d3 : D} (h : MOkL m F S H O vs [d, d2, d3]) : ∃ v u t, vs = [v, u, t] ∧ MOk m F S H O v d ∧ MOk m F S H O u d2 ∧ MOk m F S H O t d3 := by
  cases vs with
  | nil => exact h.elim
  | cons v vs =>
    obtain ⟨u, t, e, a, b⟩ := mokl2 h.2
    exact ⟨v, u, t, by rw [e], h.1, a, b⟩
section
variable {X : Cx} {W : WX} {S : List Nat} {a b c : Expr} {ca cb cc : Ex}
theorem si_zip3 {x : Str} {p pos px : Pos} (hg : Gl X "zip") (hm : X.mg "zip" = none) (ha : SA X W S [a, b, c] [ca, cb, cc] .fro) (hs : starEach [a, b, c] X.env = (false, eval a X.env) :: starEach [b, c] X.env := by rfl) (hpl : (backTo pos (starEach [b, c] X.env)).any (·.1) = false := by rfl) :
    SI X W S (.Name x px) (.Call (.Name "zip" p) [a, b, c] [] pos) (apI zip3D [ca, cb, cc]) := ⟨_, pi_zip3 hg hm ha.pa hs hpl, fun F T H O Rr ft r p => by
  refine tA_bindI ft r p fun ds T1 vs H1 O1 r1 q1 p1 => ?_
  cases hz : zip3D ds with
  | none => rw [hz] at p1; exact False.elim p1
  | some ys =>
    rw [hz] at p1
    unfold zip3D at hz
    split at hz
    · split at hz
      · rename_i da db dc hl
        cases hz
        obtain ⟨v, u, t, rfl, m1, m2, m3⟩ := mokl3 q1
        have m1 : Rep F.g (fz H1 O1) v (.tup da) := m1
        have m2 : Rep F.g (fz H1 O1) u (.tup db) := m2
        have m3 : Rep F.g (fz H1 O1) t (.tup dc) := m3
        obtain ⟨p1', ws1, rfl, s1, _⟩ := rep_tp m1
        obtain ⟨p2', ws2, rfl, s2, _⟩ := rep_tp m2
        obtain ⟨p3', ws3, rfl, s3, _⟩ := rep_tp m3
        have z := p1 _ H1 O1 _ _ r1 (Le.refl _) (.cons m1 (.cons m2 (.cons m3 .nil))) (sim_zip3 hl.1 hl.2)
        rw [ft.k] at z s1 s2 s3
        exact ⟨p1', p2', p3', ws1, ws2, ws3, rfl, s1, s2, s3, z⟩
      · cases hz
    · cases hz⟩
end
end Ev

/-! Ev: index, count, get; list(range(..)) -/
namespace Ev
open PySem PySem.Spec PyProof.Rows L2
section
variable {X : Cx} {W : WX} {S S' Sl : List Nat} {fr : Bool} {e o a b : Expr} {es : List Expr} {c ca cb cc : Ex} {cs : List Ex} {m m1 m2 : Mode} {F : Cf} {T : Tp} {pins : List (Addr × Obj)} {σ : L2.St} {H : Hp} {O : Addr → Prop} {s : Shared}
/-! ### receivers -/
theorem tyw_list {g : Gh} {ds : List D} {v : V} (h : RepB g H O v (.lst ds)) : tyW X "list" v H := fun pins σ s u I r => by
  obtain ⟨p, vs, rfl, a, b⟩ := h
  cases r
  obtain ⟨z, its, n, rv, e⟩ := (show ObjOk X.prog X.w H s.heap p (.lst vs) from I.hok p _ a)
  exact ⟨⟨_, e, rfl⟩, fun q hq => by cases hq; exact ⟨_, e, rfl⟩⟩
theorem tyw_str {g : Gh} {x : Str} {v : V} (h : RepB g H O v (.str x)) : tyW X "str" v H := fun pins σ s u I r => by
  rw [rb_str h] at r
  obtain ⟨t, rfl⟩ := r
  exact ⟨typeIs_str s x t, fun q hq => nomatch hq⟩
theorem tyw_dct {g : Gh} {t : Bool} {es : List (D × D)} {v : V} (hK : g.K = X.K) (hw : g.w = X.w) (h : RepB g H O v (.dct t es)) : tyW X "dict" v H := fun pins σ s u I r => by
  obtain ⟨a, rfl, d⟩ := rb_dct hK hw h
  cases r
  obtain ⟨ar, ep, rw_, _⟩ := dat_ty I d
  obtain ⟨ob, h1, h2, h3⟩ := rw_
  exact ⟨⟨ob, h1, h2.1⟩, fun q hq => by cases hq; exact ⟨ob, h1, h2.2.1⟩⟩
def isLst : D → Bool
  | .lst _ => true
  | _ => false
def isDct : D → Bool
  | .dct _ _ => true
  | _ => false
/-! ### xs.index(x) -/
def idxP (p : PyData) : Nat → List PyData → Option Nat
  | _, [] => none
  | k, z :: r => if PyData.eqv z p then some k else idxP p (k + 1) r
theorem idxP_some {p : PyData} : ∀ {ps : List PyData} {k j : Nat}, idxP p k ps = some j → ∃ i z, j = k + i ∧ ps[i]? = some z ∧ PyData.eqv z p = true ∧ ∀ (n : Nat) (z' : PyData), n < i → ps[n]? = some z' → PyData.eqv z' p = false
  | [], _, _, h => by cases h
  | z :: r, k, j, h => by
    unfold idxP at h
    by_cases e : PyData.eqv z p = true
    · rw [if_pos e] at h
      cases h
      exact ⟨0, z, rfl, rfl, e, fun n z' hn => absurd hn (Nat.not_lt_zero _)⟩
    · rw [if_neg e] at h
      obtain ⟨i, z', rfl, e1, e2, e3⟩ := idxP_some h
      refine ⟨i + 1, z', by omega, by simpa using e1, e2, fun n y hn hy => ?_⟩
      cases n with
      | zero => simp at hy; subst hy; simpa using e
      | succ n => exact e3 n y (by omega) (by simpa using hy)
def idxL (d : D) (ds : List D) : Option D := match d, ds with
  | .lst l, [x] => match toP x, toPs l with
    | some p, some ps => if SeqAt.shaped p && SeqAt.shaped (.list ps) then (match idxP p 0 ps with
      | some j => some (.int (j : Nat))
      | none => none) else none
    | _, _ => none
  | _, _ => none
theorem mt_idx (hu : X.A.units + 65 < cLine) : MtOk X S "index" isLst idxL .fro := fun d1 h1 => by
  cases d1 with
  | lst l =>
    refine ⟨"list", "list.index", rIndexD X.K, ⟨PySem.F.plainAttrs_list, PySem.F.slot_list_index, PySem.F.type_list_index, mt_indexD hu⟩, fun g H O v _ _ h => tyw_list h, fun F T' H O v vs ds d Q hK hw r q1 q2 e k => ?_⟩
    unfold idxL at e
    split at e
    · rename_i l0 x e0
      cases e0
      split at e
      · rename_i p ps ep eps
        split at e
        · rename_i hs
          split at e
          · rename_i j ej
            cases e
            rw [Bool.and_eq_true] at hs
            obtain ⟨i, z, rfl, z1, z2, z3⟩ := idxP_some ej
            obtain ⟨u, rfl, q⟩ := rbl1 q2
            have a1 := rb_dp q ep
            have a2 : Dp F.g.K H v (.list ps) := rb_dp (d := .lst l) q1 (by unfold toP; rw [eps]; rfl)
            rw [hK] at a1 a2
            obtain ⟨pp, ws, rfl, _, _⟩ := rb_lst q1
            refine ⟨pp, u, p, ps, i, z, rfl, rfl, a2, a1, hs.2, hs.1, z1, z2, z3, ?_⟩
            have := k (.int ((0 + i : Nat) : Int)) H O r (Le.refl _) (.int _)
            rw [Nat.zero_add] at this
            exact this
          · cases e
        · cases e
      · cases e
    · cases e
  | _ => cases h1
/-! ### xs.count(x) -/
def rCountL (X : Cx) : V → List V → Hp → VK → Prop := fun x xs H Q => ∃ (a : Addr) (y : V) (d : PyData) (ds : List PyData), x = V.ref a ∧ xs = [y] ∧ Dp X.K H (V.ref a) (.list ds) ∧ Dp X.K H y d ∧ PyData.plainAll ds = true ∧ d.plain = true ∧ d.depth ≤ 50 ∧ Q (.int ((ds.countP fun z => PyData.eqv z d : Nat) : Int)) H
theorem mt_countL (hu : X.A.units + 65 < cLine) : MtR X "list.count" (rCountL X) := by
  intro pins s σ H x xs v us Q I rx rxs h
  obtain ⟨a, y, d, ds, rfl, rfl, hl, hy, pl, pd, hd, q⟩ := h
  cases rx
  obtain ⟨u, rfl, ry⟩ := vals1 rxs
  obtain ⟨bs, r1⟩ := Dp.reads I d y u hy ry
  cases hl with
  | lst hs ha =>
    obtain ⟨its, rv, lp, _⟩ := I.list hs
    obtain ⟨as, r2⟩ := Dp.readsAll I ds _ its ha rv
    exact SeqAt.count_list_data lp.isList (by simpa using r2) r1 pl pd (by omega) ⟨.int _, H, I.tok _, ⟨_, rfl⟩, q⟩
def cntL (d : D) (ds : List D) : Option D := match d, ds with
  | .lst l, [x] => match toP x, toPs l with
    | some p, some ps => if PyData.plainAll ps && p.plain && decide (p.depth ≤ 50) then some (.int ((ps.countP fun z => PyData.eqv z p : Nat) : Int)) else none
    | _, _ => none
  | _, _ => none
theorem mt_cnt (hu : X.A.units + 65 < cLine) : MtOk X S "count" isLst cntL .fro := fun d1 h1 => by
  cases d1 with
  | lst l =>
    refine ⟨"list", "list.count", rCountL X, ⟨PySem.F.plainAttrs_list, PySem.F.slot_list_count, PySem.F.type_list_count, mt_countL hu⟩, fun g H O v _ _ h => tyw_list h, fun F T' H O v vs ds d Q hK hw r q1 q2 e k => ?_⟩
    unfold cntL at e
    split at e
    · rename_i l0 x e0
      cases e0
      split at e
      · rename_i p ps ep eps
        split at e
        · rename_i hs
          cases e
          rw [Bool.and_eq_true, Bool.and_eq_true, decide_eq_true_eq] at hs
          obtain ⟨u, rfl, q⟩ := rbl1 q2
          have a1 := rb_dp q ep
          have a2 : Dp F.g.K H v (.list ps) := rb_dp (d := .lst l) q1 (by unfold toP; rw [eps]; rfl)
          rw [hK] at a1 a2
          obtain ⟨pp, ws, rfl, _, _⟩ := rb_lst q1
          exact ⟨pp, u, p, ps, rfl, rfl, a2, a1, hs.1.1, hs.1.2, hs.2, k _ H O r (Le.refl _) (.int _)⟩
        · cases e
      · cases e
    · cases e
  | _ => cases h1
/-! ### list(range(..)) -/
def rgD (i j : Int) : List D := rngL i (j - i).toNat
theorem rgV_rep {g : Gh} {H : Hp} (i j : Int) : RepL g H (rgV i j) (rgD i j) := by
  unfold rgV rgD rngL
  generalize (j - i).toNat = n
  generalize hl : List.range n = l
  clear hl
  induction l with
  | nil => exact .nil
  | cons x l ih => exact .cons (.int _) ih
def lrgOk (i j : Int) : Bool := decide (-(2 ^ 62) ≤ i) && decide (i < 2 ^ 62) && decide (-(2 ^ 62) ≤ j) && decide (j < 2 ^ 62) && decide ((j - i).toNat ≤ 2 ^ 24)
theorem lrgOk_iff {i j : Int} (h : lrgOk i j = true) : RgOk i j := by
  unfold lrgOk at h
  simp only [Bool.and_eq_true, decide_eq_true_eq] at h
  exact ⟨h.1.1.1.1, h.1.1.1.2, h.1.1.2, h.1.2, h.2⟩
def lrg1D : D → Option D
  | .int j => if lrgOk 0 j then some (.lst (rgD 0 j)) else none
  | _ => none
def lrg2D : D → D → Option D
  | .int i, .int j => if lrgOk i j then some (.lst (rgD i j)) else none
  | _, _ => none
theorem se_lrg1 {p pos p2 pos2 : Pos} (hc : X.calm = true) (hl : Gl X "list") (ml : X.mg "list" = none) (hg : Gl X "range") (mr : X.mg "range" = none) (ha : SE X W S a ca .bor) (na : starEach [a] X.env = (false, eval a X.env) :: starEach [] X.env := by rfl)
    (nb : starEach [Expr.Call (.Name "range" p2) [a] [] pos2] X.env = (false, eval (Expr.Call (.Name "range" p2) [a] [] pos2) X.env) :: starEach [] X.env := by rfl) :
    SE X W S (.Call (.Name "list" p) [.Call (.Name "range" p2) [a] [] pos2] [] pos) (ap1 lrg1D ca) .fre :=
  ⟨peMono (pe_listRg hc hl ml (prg_1 hg mr ha.pe na) nb) fun σ H Q h => by
    obtain ⟨F, T, O, ft, r, p⟩ := h
    refine tE_bind ft r p fun d1 T1 v1 H1 O1 r1 l1 q1 p1 => ?_
    obtain ⟨d, e, k⟩ := po_of p1
    unfold lrg1D at e
    split at e
    · split at e
      · rename_i j ok
        cases e
        exact ⟨j, rb_int (bOf q1 r1), lrgOk_iff ok, new_lstO r1 (rgV_rep 0 j) k⟩
      · cases e
    · cases e⟩
theorem se_lrg2 {p pos p2 pos2 : Pos} (hc : X.calm = true) (hl : Gl X "list") (ml : X.mg "list" = none) (hg : Gl X "range") (mr : X.mg "range" = none) (ha : SE X W S a ca .bor) (hb : SE X W S b cb .bor) (na : starEach [a, b] X.env = (false, eval a X.env) :: starEach [b] X.env := by rfl)
    (nb : starEach [b] X.env = (false, eval b X.env) :: starEach [] X.env := by rfl) (hpl : (backTo pos2 (starEach [b] X.env)).any (·.1) = false := by rfl)
    (nc : starEach [Expr.Call (.Name "range" p2) [a, b] [] pos2] X.env = (false, eval (Expr.Call (.Name "range" p2) [a, b] [] pos2) X.env) :: starEach [] X.env := by rfl) :
    SE X W S (.Call (.Name "list" p) [.Call (.Name "range" p2) [a, b] [] pos2] [] pos) (ap2 lrg2D ca cb) .fre :=
  ⟨peMono (pe_listRg hc hl ml (prg_2 hg mr ha.pe hb.pe na nb hpl) nc) fun σ H Q h => by
    obtain ⟨F, T, O, ft, r, p⟩ := h
    refine tE_bind ft r p fun d1 T1 v1 H1 O1 r1 l1 q1 p1 => ?_
    refine tE_bind ft r1 p1 fun d2 T2 v2 H2 O2 r2 l2 q2 p2 => ?_
    obtain ⟨d, e, k⟩ := po_of p2
    unfold lrg2D at e
    split at e
    · split at e
      · rename_i i j ok
        cases e
        exact ⟨i, j, rb_int (q1 H2 O2 T2 r2 l2), rb_int (bOf q2 r2), lrgOk_iff ok, new_lstO r2 (rgV_rep i j) k⟩
      · cases e
    · cases e⟩
end
end Ev

/-! Ev: the mathematics' tools for data: comparing, keys, dicts -/
namespace Ev
open PySem PyProof
@[simp] theorem ltG_int (i j : Int) : ltG (.int i) (.int j) = some (.bl (decide (i < j))) := (rfl)
@[simp] theorem leG_int (i j : Int) : leG (.int i) (.int j) = some (.bl (decide (i ≤ j))) := (rfl)
@[simp] theorem gtG_int (i j : Int) : gtG (.int i) (.int j) = some (.bl (decide (j < i))) := (rfl)
@[simp] theorem geG_int (i j : Int) : geG (.int i) (.int j) = some (.bl (decide (j ≤ i))) := (rfl)
@[simp] theorem len4D_lst (ds : List D) : len4D [.lst ds] = some (.int ds.length) := (rfl)
@[simp] theorem len4D_tup (ds : List D) : len4D [.tup ds] = some (.int ds.length) := (rfl)
@[simp] theorem len4D_dct (t : Bool) (es : List (D × D)) : len4D [.dct t es] = some (.int es.length) := (rfl)
theorem ix4D_lst {ds : List D} {i : Int} {d : D} (h0 : 0 ≤ i) (h : ds[i.toNat]? = some d) : ix4D (.lst ds) (.int i) = some d := ixD_lst h0 h
theorem ix4D_tup {ds : List D} {i : Int} {d : D} (h0 : 0 ≤ i) (h : ds[i.toNat]? = some d) : ix4D (.tup ds) (.int i) = some d := ixD_tup h0 h
/-- data without truth values, not deep -/
inductive Pln : Nat → D → Prop
  | non {k : Nat} : Pln k .non
  | int {k : Nat} (i : Int) : Pln k (.int i)
  | str {k : Nat} {s : Str} (h : PyData.strOk s = true) : Pln k (.str s)
  | tup {k : Nat} {ds : List D} (h : ∀ d ∈ ds, Pln k d) : Pln (k + 1) (.tup ds)
  | lst {k : Nat} {ds : List D} (h : ∀ d ∈ ds, Pln k d) : Pln (k + 1) (.lst ds)
theorem Pln.up {k : Nat} {d : D} (h : Pln k d) : ∀ {n : Nat}, k ≤ n → Pln n d := by
  induction h with
  | non => exact fun _ => .non
  | int i => exact fun _ => .int i
  | str h => exact fun _ => .str h
  | tup h ih => intro n hn; cases n with
    | zero => omega
    | succ n => exact .tup fun d hd => ih d hd (by omega)
  | lst h ih => intro n hn; cases n with
    | zero => omega
    | succ n => exact .lst fun d hd => ih d hd (by omega)
theorem toPs_of : ∀ {ds : List D} {k : Nat}, (∀ d ∈ ds, ∃ p, toP d = some p ∧ p.canLay0 = true ∧ p.depth ≤ k) → ∃ ps, toPs ds = some ps ∧ PyData.canLayAll0 ps = true ∧ PyData.depthAll ps ≤ k
  | [], k, _ => ⟨[], by unfold toPs; rfl, by unfold PyData.canLayAll0; rfl, by unfold PyData.depthAll; omega⟩
  | d :: ds, k, h => by
    obtain ⟨p, e1, e2, e3⟩ := h d List.mem_cons_self
    obtain ⟨ps, f1, f2, f3⟩ := toPs_of (ds := ds) (k := k) fun d hd => h d (List.mem_cons_of_mem _ hd)
    refine ⟨p :: ps, ?_, ?_, ?_⟩
    · unfold toPs; rw [e1, f1]
    · unfold PyData.canLayAll0; rw [e2, f2]; rfl
    · unfold PyData.depthAll; exact Nat.max_le.mpr ⟨e3, f3⟩
theorem Pln.dat {k : Nat} {d : D} (h : Pln k d) : ∃ p, toP d = some p ∧ p.canLay0 = true ∧ p.depth ≤ k := by
  induction h with
  | non => exact ⟨.none, by unfold Ev.toP; rfl, by unfold PyData.canLay0; rfl, by unfold PyData.depth; omega⟩
  | int i => exact ⟨.int i, by unfold Ev.toP; rfl, by unfold PyData.canLay0; rfl, by unfold PyData.depth; omega⟩
  | str h => exact ⟨.str _, by unfold Ev.toP; rfl, by unfold PyData.canLay0; exact h, by unfold PyData.depth; omega⟩
  | tup h ih =>
    obtain ⟨ps, e1, e2, e3⟩ := toPs_of ih
    exact ⟨.tuple ps, by unfold Ev.toP; rw [e1]; rfl, by unfold PyData.canLay0; exact e2, by unfold PyData.depth; omega⟩
  | lst h ih =>
    obtain ⟨ps, e1, e2, e3⟩ := toPs_of ih
    exact ⟨.list ps, by unfold Ev.toP; rw [e1]; rfl, by unfold PyData.canLay0; exact e2, by unfold PyData.depth; omega⟩
theorem shaped_of {p : PyData} {k : Nat} (h1 : p.canLay0 = true) (h2 : p.depth ≤ k) (hk : k ≤ 64) : SeqAt.shaped p = true := by
  unfold SeqAt.shaped
  rw [h1, Bool.true_and, decide_eq_true_eq]
  omega
theorem toPs_cons {d : D} {ds : List D} {ps : List PyData} (h : toPs (d :: ds) = some ps) : ∃ p r, ps = p :: r ∧ toP d = some p ∧ toPs ds = some r := by
  unfold toPs at h
  split at h
  · cases h; exact ⟨_, _, rfl, ‹_›, ‹_›⟩
  · cases h
theorem toPs_nil {ps : List PyData} (h : toPs [] = some ps) : ps = [] := by unfold toPs at h; cases h; rfl
theorem eqvAll_of : ∀ {ds es : List D} {ps qs : List PyData}, toPs ds = some ps → toPs es = some qs → (∀ d ∈ ds, ∀ e ∈ es, ∀ p q, toP d = some p → toP e = some q → (PyData.eqv p q = true ↔ d = e)) → (PyData.eqvAll ps qs = true ↔ ds = es)
  | [], [], ps, qs, h1, h2, _ => by rw [toPs_nil h1, toPs_nil h2]; unfold PyData.eqvAll; simp
  | [], e :: es, ps, qs, h1, h2, _ => by
    obtain ⟨q, r, rfl, _, _⟩ := toPs_cons h2
    rw [toPs_nil h1]; unfold PyData.eqvAll; simp
  | d :: ds, [], ps, qs, h1, h2, _ => by
    obtain ⟨q, r, rfl, _, _⟩ := toPs_cons h1
    rw [toPs_nil h2]; unfold PyData.eqvAll; simp
  | d :: ds, e :: es, ps, qs, h1, h2, h => by
    obtain ⟨p, r, rfl, e1, e2⟩ := toPs_cons h1
    obtain ⟨q, r', rfl, f1, f2⟩ := toPs_cons h2
    have a1 := h d List.mem_cons_self e List.mem_cons_self p q e1 f1
    have a2 := eqvAll_of e2 f2 fun d hd e he => h d (List.mem_cons_of_mem _ hd) e (List.mem_cons_of_mem _ he)
    unfold PyData.eqvAll
    rw [Bool.and_eq_true, a1, a2, List.cons.injEq]
theorem toP_tup {ds : List D} {p : PyData} (h : toP (.tup ds) = some p) : ∃ ps, p = .tuple ps ∧ toPs ds = some ps := by
  unfold toP at h
  cases e : toPs ds with
  | none => rw [e] at h; cases h
  | some ps => rw [e] at h; cases h; exact ⟨ps, rfl, rfl⟩
theorem toP_lst {ds : List D} {p : PyData} (h : toP (.lst ds) = some p) : ∃ ps, p = .list ps ∧ toPs ds = some ps := by
  unfold toP at h
  cases e : toPs ds with
  | none => rw [e] at h; cases h
  | some ps => rw [e] at h; cases h; exact ⟨ps, rfl, rfl⟩
theorem toP_int {i : Int} {p : PyData} (h : toP (.int i) = some p) : p = .int i := by unfold toP at h; cases h; rfl
theorem toP_str {i : Str} {p : PyData} (h : toP (.str i) = some p) : p = .str i := by unfold toP at h; cases h; rfl
theorem toP_non {p : PyData} (h : toP .non = some p) : p = .none := by unfold toP at h; cases h; rfl
theorem Pln.eqv {k : Nat} {a : D} (h : Pln k a) : ∀ {m : Nat} {b : D} {p q : PyData}, Pln m b → toP a = some p → toP b = some q → (PyData.eqv p q = true ↔ a = b) := by
  induction h with
  | non =>
    intro m b p q hb h1 h2
    rw [toP_non h1]
    cases hb with
    | non => rw [toP_non h2]; unfold PyData.eqv; simp
    | int i => rw [toP_int h2]; unfold PyData.eqv; simp
    | str h => rw [toP_str h2]; unfold PyData.eqv; simp
    | tup h => obtain ⟨ps, rfl, _⟩ := toP_tup h2; unfold PyData.eqv; simp
    | lst h => obtain ⟨ps, rfl, _⟩ := toP_lst h2; unfold PyData.eqv; simp
  | int i =>
    intro m b p q hb h1 h2
    rw [toP_int h1]
    cases hb with
    | non => rw [toP_non h2]; unfold PyData.eqv; simp
    | int i => rw [toP_int h2]; unfold PyData.eqv; simp
    | str h => rw [toP_str h2]; unfold PyData.eqv; simp
    | tup h => obtain ⟨ps, rfl, _⟩ := toP_tup h2; unfold PyData.eqv; simp
    | lst h => obtain ⟨ps, rfl, _⟩ := toP_lst h2; unfold PyData.eqv; simp
  | str hs =>
    intro m b p q hb h1 h2
    rw [toP_str h1]
    cases hb with
    | non => rw [toP_non h2]; unfold PyData.eqv; simp
    | int i => rw [toP_int h2]; unfold PyData.eqv; simp
    | str h => rw [toP_str h2]; unfold PyData.eqv; simp
    | tup h => obtain ⟨ps, rfl, _⟩ := toP_tup h2; unfold PyData.eqv; simp
    | lst h => obtain ⟨ps, rfl, _⟩ := toP_lst h2; unfold PyData.eqv; simp
  | tup hd ih =>
    intro m b p q hb h1 h2
    obtain ⟨ps, rfl, e1⟩ := toP_tup h1
    cases hb with
    | non => rw [toP_non h2]; unfold PyData.eqv; simp
    | int i => rw [toP_int h2]; unfold PyData.eqv; simp
    | str h => rw [toP_str h2]; unfold PyData.eqv; simp
    | tup h =>
      obtain ⟨qs, rfl, e2⟩ := toP_tup h2
      unfold PyData.eqv
      rw [eqvAll_of e1 e2 fun d hd e he p q hp hq => ih d hd (h e he) hp hq, D.tup.injEq]
    | lst h => obtain ⟨ps, rfl, _⟩ := toP_lst h2; unfold PyData.eqv; simp
  | lst hd ih =>
    intro m b p q hb h1 h2
    obtain ⟨ps, rfl, e1⟩ := toP_lst h1
    cases hb with
    | non => rw [toP_non h2]; unfold PyData.eqv; simp
    | int i => rw [toP_int h2]; unfold PyData.eqv; simp
    | str h => rw [toP_str h2]; unfold PyData.eqv; simp
    | tup h => obtain ⟨ps, rfl, _⟩ := toP_tup h2; unfold PyData.eqv; simp
    | lst h =>
      obtain ⟨qs, rfl, e2⟩ := toP_lst h2
      unfold PyData.eqv
      rw [eqvAll_of e1 e2 fun d hd e he p q hp hq => ih d hd (h e he) hp hq, D.lst.injEq]
theorem eqD_of {a b : D} {k m : Nat} (ha : Pln k a) (hb : Pln m b) (hk : k ≤ 64) (hm : m ≤ 64) : ∃ x, eqD a b = some (.bl x) ∧ neD a b = some (.bl (!x)) ∧ (x = true ↔ a = b) := by
  obtain ⟨p, e1, e2, e3⟩ := ha.dat
  obtain ⟨q, f1, f2, f3⟩ := hb.dat
  refine ⟨PyData.eqv p q, ?_, ?_, ha.eqv hb e1 f1⟩
  · unfold eqD; rw [e1, f1]
    show (if (SeqAt.shaped p && SeqAt.shaped q) = true then _ else _) = _
    rw [if_pos (by rw [shaped_of e2 e3 hk, shaped_of f2 f3 hm]; rfl)]
  · unfold neD; rw [e1, f1]
    show (if (SeqAt.shaped p && SeqAt.shaped q) = true then _ else _) = _
    rw [if_pos (by rw [shaped_of e2 e3 hk, shaped_of f2 f3 hm]; rfl)]
theorem eqD_t {a b : D} {k m : Nat} (ha : Pln k a) (hb : Pln m b) (hk : k ≤ 64) (hm : m ≤ 64) (h : a = b) : eqD a b = some (.bl true) := by
  obtain ⟨x, e1, _, e3⟩ := eqD_of ha hb hk hm
  rw [e1, e3.mpr h]
theorem eqD_f {a b : D} {k m : Nat} (ha : Pln k a) (hb : Pln m b) (hk : k ≤ 64) (hm : m ≤ 64) (h : a ≠ b) : eqD a b = some (.bl false) := by
  obtain ⟨x, e1, _, e3⟩ := eqD_of ha hb hk hm
  cases x with
  | false => exact e1
  | true => exact absurd (e3.mp rfl) h
theorem any_of {d : D} {p : PyData} : ∀ {ds : List D} {ps : List PyData}, toPs ds = some ps → (∀ e ∈ ds, ∀ q, toP e = some q → (PyData.eqv q p = true ↔ e = d)) → ((ps.any fun z => PyData.eqv z p) = true ↔ d ∈ ds)
  | [], ps, h, _ => by rw [toPs_nil h]; simp
  | e :: ds, ps, h, g => by
    obtain ⟨q, r, rfl, e1, e2⟩ := toPs_cons h
    rw [List.any_cons, Bool.or_eq_true, g e List.mem_cons_self q e1, any_of e2 fun e he => g e (List.mem_cons_of_mem _ he), List.mem_cons]
    exact ⟨fun h => h.imp Eq.symm id, fun h => h.imp Eq.symm id⟩
theorem inP_of {d : D} {ds : List D} {k m : Nat} (hd : Pln k d) (hs : ∀ e ∈ ds, Pln m e) (hk : k ≤ 64) (hm : m ≤ 63) : ∃ x, inP d ds = some x ∧ (x = true ↔ d ∈ ds) := by
  obtain ⟨p, e1, e2, e3⟩ := hd.dat
  obtain ⟨ps, f1, f2, f3⟩ := toPs_of fun e he => (hs e he).dat
  refine ⟨ps.any fun z => PyData.eqv z p, ?_, any_of f1 fun e he q hq => (hs e he).eqv hd hq e1⟩
  unfold inP
  rw [e1, f1]
  show (if (SeqAt.shaped p && SeqAt.shaped (.list ps)) = true then _ else _) = _
  rw [if_pos]
  rw [shaped_of e2 e3 hk, shaped_of (p := .list ps) (k := m + 1) (by unfold PyData.canLay0; exact f2) (by unfold PyData.depth; omega) (by omega)]
  rfl
theorem idxP_of {d : D} {p : PyData} : ∀ {ds : List D} {ps : List PyData} {k j : Nat}, toPs ds = some ps → (∀ e ∈ ds, ∀ q, toP e = some q → (PyData.eqv q p = true ↔ e = d)) → ds[j]? = some d → (∀ i, i < j → ds[i]? ≠ some d) → idxP p k ps = some (k + j)
  | [], _, _, _, _, _, h, _ => by simp at h
  | e :: ds, ps, k, j, h, g, hj, hn => by
    obtain ⟨q, r, rfl, e1, e2⟩ := toPs_cons h
    unfold idxP
    have ge := g e List.mem_cons_self q e1
    cases j with
    | zero =>
      have hj : some e = some d := by simpa using hj
      cases hj
      rw [if_pos (ge.mpr rfl)]; rfl
    | succ j =>
      have h0 : e ≠ d := fun z => hn 0 (by omega) (by rw [← z]; rfl)
      rw [if_neg fun z => h0 (ge.mp z), idxP_of (j := j) e2 (fun e he => g e (List.mem_cons_of_mem _ he)) (by simpa using hj) fun i hi => by simpa using hn (i + 1) (by omega)]
      congr 1; omega
theorem idxL_of {d : D} {ds : List D} {k m j : Nat} (hd : Pln k d) (hs : ∀ e ∈ ds, Pln m e) (hk : k ≤ 64) (hm : m ≤ 63) (h1 : ds[j]? = some d) (h2 : ∀ i, i < j → ds[i]? ≠ some d) : idxL (.lst ds) [d] = some (.int (j : Nat)) := by
  obtain ⟨p, e1, e2, e3⟩ := hd.dat
  obtain ⟨ps, f1, f2, f3⟩ := toPs_of fun e he => (hs e he).dat
  have hx := idxP_of (k := 0) f1 (fun e he q hq => (hs e he).eqv hd hq e1) h1 h2
  have hsh : (SeqAt.shaped p && SeqAt.shaped (PyData.list ps)) = true := by
    rw [shaped_of e2 e3 hk, shaped_of (p := .list ps) (k := m + 1) (by unfold PyData.canLay0; exact f2) (by unfold PyData.depth; omega) (by omega)]
    rfl
  unfold idxL
  simp only [e1, f1, hsh, if_true, hx, Nat.zero_add]
/-! ### keys -/
theorem nks_of : ∀ {ds : List D} {k : Nat}, (∀ d ∈ ds, ∃ n, nk d = some n ∧ n.depth ≤ k) → ∃ ns, nks ds = some ns ∧ NestedKey.depthAll ns ≤ k
  | [], k, _ => ⟨[], by unfold nks; rfl, by unfold NestedKey.depthAll; omega⟩
  | d :: ds, k, h => by
    obtain ⟨n, e1, e2⟩ := h d List.mem_cons_self
    obtain ⟨ns, f1, f2⟩ := nks_of (ds := ds) (k := k) fun d hd => h d (List.mem_cons_of_mem _ hd)
    refine ⟨n :: ns, ?_, ?_⟩
    · unfold nks; rw [e1]; simp only [f1]
    · unfold NestedKey.depthAll; exact Nat.max_le.mpr ⟨e2, f2⟩
/-- data that can be a key: no lists, no truth values -/
inductive Kd : Nat → D → Prop
  | non {k : Nat} : Kd k .non
  | int {k : Nat} (i : Int) : Kd k (.int i)
  | str {k : Nat} {s : Str} : Kd k (.str s)
  | tup {k : Nat} {ds : List D} (h : ∀ d ∈ ds, Kd k d) : Kd (k + 1) (.tup ds)
theorem Kd.key {k : Nat} {d : D} (h : Kd k d) : ∃ n, Ev.nk d = some n ∧ n.depth ≤ k := by
  induction h with
  | non => exact ⟨.none, by unfold Ev.nk; rfl, by unfold NestedKey.depth; omega⟩
  | int i => exact ⟨.num i, by unfold Ev.nk; rfl, by unfold NestedKey.depth; omega⟩
  | str => exact ⟨.text _, by unfold Ev.nk; rfl, by unfold NestedKey.depth; omega⟩
  | tup h ih =>
    obtain ⟨ns, e1, e2⟩ := nks_of ih
    exact ⟨.tup ns, by unfold Ev.nk; rw [e1], by unfold NestedKey.depth; omega⟩
theorem Kd.keyT {k : Nat} {d : D} (h : Kd k d) (hk : k ≤ 8) : ∃ n, Ev.nkT d = some n ∧ Ev.nk d = some n := by
  obtain ⟨n, e1, e2⟩ := h.key
  exact ⟨n, by unfold Ev.nkT; rw [e1]; show (if n.depth ≤ 8 then some n else none) = _; rw [if_pos (by omega)], e1⟩
theorem nk_tup {ds : List D} {n : NestedKey} (h : nk (.tup ds) = some n) : ∃ ns, n = .tup ns ∧ nks ds = some ns := by
  unfold nk at h
  cases e : nks ds with
  | none => rw [e] at h; cases h
  | some ps => rw [e] at h; cases h; exact ⟨ps, rfl, rfl⟩
theorem nk_int {i : Int} {n : NestedKey} (h : nk (.int i) = some n) : n = .num i := by unfold nk at h; cases h; rfl
theorem nk_str {i : Str} {n : NestedKey} (h : nk (.str i) = some n) : n = .text i := by unfold nk at h; cases h; rfl
theorem nk_non {n : NestedKey} (h : nk .non = some n) : n = .none := by unfold nk at h; cases h; rfl
theorem nks_nil {ns : List NestedKey} (h : nks [] = some ns) : ns = [] := by unfold nks at h; cases h; rfl
theorem nks_cons {d : D} {ds : List D} {ns : List NestedKey} (h : nks (d :: ds) = some ns) : ∃ n r, ns = n :: r ∧ nk d = some n ∧ nks ds = some r := by
  unfold nks at h
  split at h
  · split at h
    · cases h; exact ⟨_, _, rfl, ‹_›, ‹_›⟩
    · cases h
  · cases h
theorem nks_inj : ∀ {ds es : List D} {ns : List NestedKey}, nks ds = some ns → nks es = some ns → (∀ d ∈ ds, ∀ e ∈ es, ∀ n, nk d = some n → nk e = some n → d = e) → ds = es
  | [], [], _, _, _, _ => rfl
  | [], e :: es, ns, h1, h2, _ => by
    obtain ⟨_, _, rfl, _, _⟩ := nks_cons h2
    exact absurd (nks_nil h1) (by simp)
  | d :: ds, [], ns, h1, h2, _ => by
    obtain ⟨_, _, rfl, _, _⟩ := nks_cons h1
    exact absurd (nks_nil h2) (by simp)
  | d :: ds, e :: es, ns, h1, h2, h => by
    obtain ⟨n, r, rfl, e1, e2⟩ := nks_cons h1
    obtain ⟨n', r', q, f1, f2⟩ := nks_cons h2
    cases q
    rw [h d List.mem_cons_self e List.mem_cons_self n e1 f1, nks_inj e2 f2 fun d hd e he => h d (List.mem_cons_of_mem _ hd) e (List.mem_cons_of_mem _ he)]
theorem Kd.inj {k : Nat} {a : D} (h : Kd k a) : ∀ {m : Nat} {b : D} {n : NestedKey}, Kd m b → Ev.nk a = some n → Ev.nk b = some n → a = b := by
  induction h with
  | non =>
    intro m b n hb h1 h2
    cases nk_non h1
    cases hb with
    | non => rfl
    | int i => cases nk_int h2
    | str => cases nk_str h2
    | tup h => obtain ⟨_, q, _⟩ := nk_tup h2; cases q
  | int i =>
    intro m b n hb h1 h2
    cases nk_int h1
    cases hb with
    | non => cases nk_non h2
    | int i => cases nk_int h2; rfl
    | str => cases nk_str h2
    | tup h => obtain ⟨_, q, _⟩ := nk_tup h2; cases q
  | str =>
    intro m b n hb h1 h2
    cases nk_str h1
    cases hb with
    | non => cases nk_non h2
    | int i => cases nk_int h2
    | str => cases nk_str h2; rfl
    | tup h => obtain ⟨_, q, _⟩ := nk_tup h2; cases q
  | tup h ih =>
    intro m b n hb h1 h2
    obtain ⟨ns, rfl, e1⟩ := nk_tup h1
    cases hb with
    | non => cases nk_non h2
    | int i => cases nk_int h2
    | str => cases nk_str h2
    | tup h' =>
      obtain ⟨ns', q, e2⟩ := nk_tup h2
      cases q
      rw [nks_inj e1 e2 fun d hd e he n hn hm => ih d hd (h' e he) hn hm]
theorem Kd.ne {k m : Nat} {a b : D} (ha : Kd k a) (hb : Kd m b) (hk : k ≤ 8) (hm : m ≤ 8) {n : NestedKey} (hn : Ev.nkT b = some n) (h : a ≠ b) : Ev.nkT a ≠ some n := fun q => h (ha.inj hb (nkT_some q).1 (nkT_some hn).1)
/-! ### dicts -/
theorem keyD_tup {k : Nat} {ds : List D} (h : Kd k (.tup ds)) (hk : k ≤ 8) : ∃ n, keyD true (.tup ds) = some n ∧ nkT (.tup ds) = some n := by
  obtain ⟨n, e, _⟩ := h.keyT hk
  exact ⟨n, e, e⟩
theorem keyD_int (i : Int) : keyD false (.int i) = some (.num i) ∧ nkT (.int i) = some (.num i) := ⟨rfl, nkT_kD (.inl i)⟩
theorem keyD_str (i : Str) : keyD false (.str i) = some (.text i) ∧ nkT (.str i) = some (.text i) := ⟨rfl, nkT_kD (.inr i)⟩
theorem dlook_no {n : NestedKey} {d : D} {m : Nat} (hd : Kd m d) (hm : m ≤ 8) (hn : nkT d = some n) : ∀ {es : List (D × D)}, (∀ e ∈ es, (∃ k, k ≤ 8 ∧ Kd k e.1) ∧ e.1 ≠ d) → dlook es n = none
  | [], _ => rfl
  | e :: es, h => by
    obtain ⟨⟨k, hk, h1⟩, h2⟩ := h e List.mem_cons_self
    unfold dlook
    rw [if_neg (h1.ne hd hk hm hn h2)]
    exact dlook_no hd hm hn fun e he => h e (List.mem_cons_of_mem _ he)
theorem dlook_at {n : NestedKey} {d v : D} {m : Nat} (hd : Kd m d) (hm : m ≤ 8) (hn : nkT d = some n) : ∀ {es : List (D × D)} {j : Nat}, (∀ e ∈ es, ∃ k, k ≤ 8 ∧ Kd k e.1) → es[j]? = some (d, v) → (∀ (i : Nat) e, i < j → es[i]? = some e → e.1 ≠ d) → dlook es n = some v
  | [], _, _, h, _ => by simp at h
  | e :: es, j, g, h, hq => by
    unfold dlook
    cases j with
    | zero =>
      have h : some e = some (d, v) := by simpa using h
      cases h
      rw [if_pos hn]
    | succ j =>
      obtain ⟨k, hk, h1⟩ := g e List.mem_cons_self
      rw [if_neg (h1.ne hd hk hm hn (hq 0 e (by omega) rfl))]
      exact dlook_at (j := j) hd hm hn (fun e he => g e (List.mem_cons_of_mem _ he)) (by simpa using h) fun i e' hi he => hq (i + 1) e' (by omega) (by simpa using he)
theorem dsto_no {n : NestedKey} {d v : D} {m : Nat} (hd : Kd m d) (hm : m ≤ 8) (hn : nkT d = some n) {es : List (D × D)} (h : ∀ e ∈ es, (∃ k, k ≤ 8 ∧ Kd k e.1) ∧ e.1 ≠ d) : dsto es d n v = es ++ [(d, v)] := by
  unfold dsto
  have e : dhas es n = false := by rw [dhas_look, dlook_no hd hm hn h]; rfl
  rw [if_neg (by rw [e]; simp)]
theorem pr_mtG {c : Ex} {cs : List Ex} {rv : D → Bool} {f : D → List D → Option D} (h : PurE c) (hs : PurEs cs) : PurE (mtG rv f c cs) := fun env => (h env).then fun d => by
  cases z : rv d with
  | true => exact (pr_es hs env).then fun ds => .of _
  | false => exact .noo
theorem pr_putG {c : Ex} {i : Nat} {ci : Ex} (hi : PurE ci) (h : PurE c) : PurS (putG i ci c) := fun env => .exx (h env) fun d => by
  cases hl : slotD env i with
  | none => exact .noo
  | some d0 =>
    refine .exx (hi env) fun k => ?_
    show PSR fun T => match stoD d0 k d with
      | some d1 => SR.nx (env.set i (some d1)) T
      | none => .no
    cases hs : stoD d0 k d with
    | none => exact .noo
    | some d1 => exact .nxx _
theorem putG_of {i : Nat} {ci c : Ex} {env : Ve} {T : Tp} {d k d0 d1 : D} (hc : c env T = .ok d T) (h0 : slotD env i = some d0) (hi : ci env T = .ok k T) (hs : stoD d0 k d = some d1) : putG i ci c env T = .nx (env.set i (some d1)) T := by
  unfold putG
  rw [hc]
  show (match slotD env i with
    | some d0 => exS (ci env T) env fun k T => match stoD d0 k d with
      | some d1 => SR.nx (env.set i (some d1)) T
      | none => .no
    | none => .no) = _
  rw [h0]
  show (exS (ci env T) env fun k T => match stoD d0 k d with
      | some d1 => SR.nx (env.set i (some d1)) T
      | none => .no) = _
  rw [hi]
  show (match stoD d0 k d with
      | some d1 => SR.nx (env.set i (some d1)) T
      | none => .no) = _
  rw [hs]
theorem stoD_dct {t : Bool} {es : List (D × D)} {k v : D} {n : NestedKey} (hk : keyD t k = some n) (hl : es.length ≤ 16000000) : stoD (.dct t es) k v = some (.dct t (dsto es k n v)) := by
  show (match keyD t k with | some n => if es.length < sizeLine then some (D.dct t (dsto es k n v)) else none | none => none) = _
  rw [hk]
  show (if es.length < sizeLine then some (D.dct t (dsto es k n v)) else none) = _
  rw [if_pos (sizeLine_big hl)]
theorem nin4D_dct {t : Bool} {es : List (D × D)} {k : D} {n : NestedKey} (hk : keyD t k = some n) : nin4D k (.dct t es) = some (.bl (!(dlook es n).isSome)) := by
  show (match keyD t k with | some k => some (D.bl (!(dlook es k).isSome)) | none => none) = _
  rw [hk]
theorem in4D_dct {t : Bool} {es : List (D × D)} {k : D} {n : NestedKey} (hk : keyD t k = some n) : in4D k (.dct t es) = some (.bl (dlook es n).isSome) := by
  show (match keyD t k with | some k => some (D.bl (dlook es k).isSome) | none => none) = _
  rw [hk]
theorem ix4D_dct {t : Bool} {es : List (D × D)} {k : D} {n : NestedKey} (hk : keyD t k = some n) : ix4D (.dct t es) k = dlook es n := by
  show (match keyD t k with | some k => dlook es k | none => none) = _
  rw [hk]
theorem nin4D_lst {d : D} {ds : List D} {k m : Nat} (hd : Pln k d) (hs : ∀ e ∈ ds, Pln m e) (hk : k ≤ 64) (hm : m ≤ 63) : ∃ x, nin4D d (.lst ds) = some (.bl (!x)) ∧ (x = true ↔ d ∈ ds) := by
  obtain ⟨x, e1, e2⟩ := inP_of hd hs hk hm
  exact ⟨x, by show (inP d ds).map (fun b => D.bl (!b)) = _; rw [e1]; rfl, e2⟩
theorem in4D_lst {d : D} {ds : List D} {k m : Nat} (hd : Pln k d) (hs : ∀ e ∈ ds, Pln m e) (hk : k ≤ 64) (hm : m ≤ 63) : ∃ x, in4D d (.lst ds) = some (.bl x) ∧ (x = true ↔ d ∈ ds) := by
  obtain ⟨x, e1, e2⟩ := inP_of hd hs hk hm
  exact ⟨x, by show (inP d ds).map D.bl = _; rw [e1]; rfl, e2⟩
theorem php {α : Type} [DecidableEq α] : ∀ (k : Nat) (f : Nat → α) (m : List α), (∀ i, i < k → f i ∈ m) → (∀ i j, i < j → j < k → f i ≠ f j) → k ≤ m.length
  | 0, _, _, _, _ => Nat.zero_le _
  | k + 1, f, m, h1, h2 => by
    have ih := php k f (m.erase (f k)) (fun i hi => (List.mem_erase_of_ne (h2 i k hi (Nat.lt_succ_self k))).mpr (h1 i (by omega))) fun i j hi hj => h2 i j hi (by omega)
    have hm := h1 k (Nat.lt_succ_self k)
    have hp : 0 < m.length := List.length_pos_of_mem hm
    rw [List.length_erase_of_mem hm] at ih
    omega
end Ev

/-! Ev: repr of data -/
namespace Ev
open PySem PySem.Spec PyProof.Rows L2
def okRepr (p : PyData) : Bool := p.showable && decide (p.depth ≤ 60) && decide (p.shown.length ≤ sizeLine)
theorem toP_nodict : ∀ {d : D} {p : PyData}, toP d = some p → p.hasDict = false := by
  intro d
  exact (D.rec (motive_1 := fun d => ∀ p, toP d = some p → p.hasDict = false) (motive_2 := fun ds => ∀ ps, toPs ds = some ps → PyData.hasDictAll ps = false) (motive_3 := fun _ => True) (motive_4 := fun _ => True)
    (fun p h => by unfold toP at h; cases h; unfold PyData.hasDict; rfl)
    (fun b p h => by unfold toP at h; cases h; unfold PyData.hasDict; rfl)
    (fun b p h => by unfold toP at h; cases h; unfold PyData.hasDict; rfl)
    (fun b p h => by unfold toP at h; cases h; unfold PyData.hasDict; rfl)
    (fun ds ih p h => by obtain ⟨ps, rfl, e⟩ := toP_tup h; unfold PyData.hasDict; exact ih _ e)
    (fun ds ih p h => by obtain ⟨ps, rfl, e⟩ := toP_lst h; unfold PyData.hasDict; exact ih _ e)
    (fun ds ih p h => by unfold toP at h; cases h)
    (fun t es _ p h => by unfold toP at h; cases h)
    (fun p h => by unfold toP at h; cases h)
    (fun o p h => by unfold toP at h; cases h)
    (fun o p h => by unfold toP at h; cases h)
    (fun o p h => by unfold toP at h; cases h)
    (fun ps h => by rw [toPs_nil h]; unfold PyData.hasDictAll; rfl)
    (fun d ds h1 h2 ps h => by
      obtain ⟨p, r, rfl, e1, e2⟩ := toPs_cons h
      unfold PyData.hasDictAll
      rw [h1 _ e1, h2 _ e2]; rfl)
    trivial (fun _ _ _ _ => trivial) (fun _ _ _ _ => trivial) d) _
section
variable {X : Cx} {W : WX} {S : List Nat}
def rRepr (X : Cx) : List V → Hp → VK → Prop := fun xs H Q => ∃ x p, xs = [x] ∧ Dp X.K H x p ∧ p.hasDict = false ∧ okRepr p = true ∧ Q (.str p.shown) H
theorem call_repr4 {k : Nat} (hr : RoomG k X.A) : CallR X (.builtin "repr") (rRepr X) := by
  intro pins s σ H xs us Q I r h
  obtain ⟨x, p, rfl, d, hn, ok, q⟩ := h
  obtain ⟨u, rfl, ru⟩ := vals1 r
  unfold okRepr at ok
  rw [Bool.and_eq_true, Bool.and_eq_true, decide_eq_true_eq, decide_eq_true_eq] at ok
  obtain ⟨⟨o1, o2⟩, o3⟩ := ok
  obtain ⟨as, rd⟩ := Dp.reads I p x u d ru
  have hu : X.A.units + (p.depth + 1) < cLine := by have := hr.un; omega
  cases p with
  | none =>
    cases d
    cases ru
    exact PySem.P.repr_of_none ⟨.str _, H, I.tok _, ⟨s.toks, by simp only [PyData.shown]⟩, q⟩
  | bool b =>
    cases d
    cases ru
    exact PySem.P.repr_of_bool ⟨.str _, H, I.tok _, ⟨s.toks, by simp only [PyData.shown]⟩, q⟩
  | int i =>
    cases d
    obtain ⟨t, rfl⟩ := ru
    refine PySem.P.repr_of_int (by simpa only [PyData.showable, decide_eq_true_eq] using o1) ⟨.str _, H, I.tok _, ⟨s.toks, by simp only [PyData.shown]⟩, q⟩
  | str x =>
    cases d
    obtain ⟨t, rfl⟩ := ru
    simp only [PyData.shown] at o3
    exact PySem.P.repr_of_str ⟨.str _, H, I.tok _, ⟨s.toks, by simp only [PyData.shown]⟩, q⟩ o3
  | list ps =>
    cases d
    cases ru
    exact repr_of_reads' rd o1 (fun e => by rw [hn] at e; cases e) hr.gd hu (fun _ _ e => e) (fun h' u tk hk => ⟨.str _, H, I.kept hk, ⟨_, rfl⟩, q⟩) o3
  | tuple ps =>
    cases d
    cases ru
    exact repr_of_reads' rd o1 (fun e => by rw [hn] at e; cases e) hr.gd hu (fun _ _ e => e) (fun h' u tk hk => ⟨.str _, H, I.kept hk, ⟨_, rfl⟩, q⟩) o3
  | dict kvs => unfold PyData.hasDict at hn; cases hn
def reprD (ds : List D) : Option D := match ds with
  | [d] => match toP d with
    | some p => if okRepr p then some (.str p.shown) else none
    | none => none
  | _ => none
theorem o_repr : OpNS X S (rRepr X) reprD .fro := fun F T H O vs ds d Q hK hw r q1 e k => by
  unfold reprD at e
  split at e
  · rename_i d1
    split at e
    · rename_i p ep
      split at e
      · rename_i ok
        cases e
        obtain ⟨v, rfl, q⟩ := rbl1 q1
        refine ⟨v, p, rfl, ?_, toP_nodict ep, ok, k _ H O r (Le.refl _) (.str _)⟩
        have z := rb_dp q ep
        rw [hK] at z
        exact z
      · cases e
    · cases e
  · cases e
/-! ### == of texts asks nothing of them -/
def eqS (d e : D) : Option D := match d, e with
  | .str i, .str j => some (.bl (decide (i = j)))
  | d, e => eqD d e
def neS (d e : D) : Option D := match d, e with
  | .str i, .str j => some (.bl (!decide (i = j)))
  | d, e => neD d e
theorem op_eqS (hu : X.A.units + 64 < cLine) : OpR X (compareOp .Eq) (fun x y H Q => rEq x y H Q ∨ rEqD X.K x y H Q) := opOr op_eq (op_eqD hu)
theorem op_neS (hu : X.A.units + 64 < cLine) : OpR X (compareOp .NotEq) (fun x y H Q => rNe x y H Q ∨ rNeD X.K x y H Q) := opOr op_ne (op_neD hu)
theorem str_dec (i j : Str) : decide (V.str i = V.str j) = decide (i = j) := by
  by_cases h : i = j
  · rw [decide_eq_true h, decide_eq_true (by rw [h])]
  · rw [decide_eq_false h, decide_eq_false (by intro z; cases z; exact h rfl)]
theorem o_eqS : Op2S X S (fun x y H Q => rEq x y H Q ∨ rEqD X.K x y H Q) eqS .fro := fun F T H O v1 v2 d1 d2 d Q hK hw r q1 q2 e k => by
  unfold eqS at e
  split at e
  · rename_i i j
    cases e
    have a1 : Rep F.g (fz H O) v1 (.str i) := q1
    have a2 : Rep F.g (fz H O) v2 (.str j) := q2
    cases a1
    cases a2
    refine .inl ⟨rfl, ?_⟩
    rw [str_dec]
    exact k _ H O r (Le.refl _) (.bl _)
  · exact .inr (o_eq F T H O v1 v2 d1 d2 d Q hK hw r q1 q2 e k)
theorem o_neS : Op2S X S (fun x y H Q => rNe x y H Q ∨ rNeD X.K x y H Q) neS .fro := fun F T H O v1 v2 d1 d2 d Q hK hw r q1 q2 e k => by
  unfold neS at e
  split at e
  · rename_i i j
    cases e
    have a1 : Rep F.g (fz H O) v1 (.str i) := q1
    have a2 : Rep F.g (fz H O) v2 (.str j) := q2
    cases a1
    cases a2
    refine .inl ⟨rfl, ?_⟩
    rw [str_dec]
    exact k _ H O r (Le.refl _) (.bl _)
  · exact .inr (o_ne F T H O v1 v2 d1 d2 d Q hK hw r q1 q2 e k)
@[simp] theorem eqS_int (i j : Int) : eqS (.int i) (.int j) = some (.bl (decide (i = j))) := eqD_int i j
@[simp] theorem neS_int (i j : Int) : neS (.int i) (.int j) = some (.bl (!decide (i = j))) := neD_int i j
@[simp] theorem eqS_str (i j : Str) : eqS (.str i) (.str j) = some (.bl (decide (i = j))) := (rfl)
@[simp] theorem neS_str (i j : Str) : neS (.str i) (.str j) = some (.bl (!decide (i = j))) := (rfl)
theorem eqS_of {a b : D} {k m : Nat} (ha : Pln k a) (hb : Pln m b) (hk : k ≤ 64) (hm : m ≤ 64) : ∃ x, eqS a b = some (.bl x) ∧ neS a b = some (.bl (!x)) ∧ (x = true ↔ a = b) := by
  have z := eqD_of ha hb hk hm
  unfold eqS neS
  split
  · rename_i i j
    exact ⟨decide (i = j), rfl, rfl, by rw [decide_eq_true_eq, D.str.injEq]⟩
  · exact z
theorem eqS_t {a b : D} {k m : Nat} (ha : Pln k a) (hb : Pln m b) (hk : k ≤ 64) (hm : m ≤ 64) (h : a = b) : eqS a b = some (.bl true) ∧ neS a b = some (.bl false) := by
  obtain ⟨x, e1, e2, e3⟩ := eqS_of ha hb hk hm
  have := e3.mpr h
  subst this
  exact ⟨e1, e2⟩
theorem eqS_f {a b : D} {k m : Nat} (ha : Pln k a) (hb : Pln m b) (hk : k ≤ 64) (hm : m ≤ 64) (h : a ≠ b) : eqS a b = some (.bl false) ∧ neS a b = some (.bl true) := by
  obtain ⟨x, e1, e2, e3⟩ := eqS_of ha hb hk hm
  cases x with
  | false => exact ⟨e1, e2⟩
  | true => exact absurd (e3.mp rfl) h
end
end Ev

/-! Ev: x[::-1] of lists and tuples -/
namespace Ev
open PySem PySem.Spec PyProof.Rows L2
section
variable {prog : Program} {w : World} {A : Around} {E : Value → Shared → Prop} {s : Shared}
theorem sliceApplied_rev {sl : Addr} {u : Tok} {n : Nat} {Q : Int × Int × Nat → Shared → Prop} (hs : s.heap.IsSliceOf sl .none .none (.int (-1) u)) (h : Q ((n : Int) - 1, -1, n) s) :
    wpAny (model prog w) A (Builtin.Slice.sliceApplied (.ref sl) (pure (n : Int))) Q E s := by
  obtain ⟨os, hos, hcs, hds⟩ := id hs
  unfold Builtin.Slice.sliceApplied Builtin.Slice.sliceFields
  refine wpAny_bind (wpAny_bind (wpAny_field hos hds (x := .none) rfl (wpAny_bind (wpAny_field hos hds (x := .none) rfl (wpAny_bind (wpAny_field hos hds (x := .int (-1) u) rfl (wpAny_pure ?_)))))))
  refine wpAny_bind (slicePart_int ?_)
  show wpAny _ _ (if ((-1 : Int) == 0) = true then _ else _) _ _ s
  rw [if_neg (by decide)]
  refine wpAny_bind (slicePart_none (wpAny_bind (slicePart_none (wpAny_bind (wpAny_pure ?_)))))
  show wpAny _ _ (pure ((n : Int) - 1, (-1 : Int), Builtin.Slice.slicePlaces ((n : Int) - 1) (-1) (-1))) _ _ s
  have e : Builtin.Slice.slicePlaces ((n : Int) - 1) (-1) (-1) = n := by
    unfold Builtin.Slice.slicePlaces
    rw [if_neg (by decide)]
    have e1 : (-(-1 : Int)) = 1 := by decide
    rw [e1, Int.ediv_one]
    split <;> omega
  rw [e]
  exact wpAny_pure h
theorem pick_rev (xs : Array Value) : ((List.range xs.size).filterMap fun (m : Nat) => xs[(((xs.size : Nat) : Int) - 1 + (m : Int) * (-1)).toNat]?).toArray = xs.toList.reverse.toArray := by
  have h := PySem.W.krv_pick xs
  unfold slicePick at h
  rw [PySem.W.krv_bounds, PySem.W.krv_sliceRange, List.filterMap_map] at h
  rw [← h]
  have e : (fun (m : Nat) => xs[(((xs.size : Nat) : Int) - 1 + (m : Int) * (-1)).toNat]?) = ((fun x => xs[x]?) ∘ fun k => xs.size - 1 - k) := by
    funext m
    have : (((xs.size : Nat) : Int) - 1 + (m : Int) * (-1)).toNat = xs.size - 1 - m := by omega
    show xs[(((xs.size : Nat) : Int) - 1 + (m : Int) * (-1)).toNat]? = xs[xs.size - 1 - m]?
    rw [this]
  rw [e]
theorem getItem_tuple_rev {t sl : Addr} {items : Array Value} {u : Tok} {Q : Value → Shared → Prop} (ht : IsTup s.heap t items) (hs : s.heap.IsSliceOf sl .none .none (.int (-1) u))
    (h : Q (.ref s.heap.objs.size) { s with heap := s.heap.push { cls := .type "tuple", data := .seq items.toList.reverse.toArray } })
    (hsz : items.size ≤ sizeLine) : wpAny (model prog w) A (getItem (.ref t) (.ref sl)) Q E s := by
  have htake : sizeOk (.seq items.toList.reverse.toArray) := by
    show items.toList.reverse.toArray.size ≤ sizeLine
    rw [List.size_toArray, List.length_reverse, Array.length_toList]
    exact hsz
  obtain ⟨os, hos, hcs, hds⟩ := id hs
  have hTs : s.TypeIs (.ref sl) "slice" := ⟨os, hos, hcs⟩
  unfold getItem
  try with_reducible refine wpAny_holding ?_
  first | refine wpAny_bind (wpAny_pure ?_) | skip
  refine wpAny_bind (wpAny_sequenceKey ht.typeIs (by decide) ?_)
  refine wpAny_bind (wpAny_callSpecial?_slot (name := Str.ofString "__getitem__") ht.typeIs PyProof.Rows.slot_tuple_getitem
    (wpAny_call_entry PyProof.Rows.slot_tuple_getitem ht.typeIs entry_tuple_getitem ?_ (args_tuple_getitem _ _)))
  show wpAny _ _ (Builtin.Tuple.tupleItemsOf (.ref t) >>= _) _ _ s
  refine wpAny_bind (tupleItemsOf_ ht ?_)
  refine wpAny_bind (wpAny_typeOf hTs ?_)
  rw [if_pos (by decide)]
  refine wpAny_bind (sliceApplied_rev hs ?_)
  have hno : ¬ ((((items.size : Nat) : Int) - 1 == 0 && (-1 : Int) == 1 && items.size == items.size) = true) := by
    intro q
    rw [Bool.and_eq_true, Bool.and_eq_true] at q
    exact absurd q.1.2 (by decide)
  show wpAny _ _ (if (((items.size : Nat) : Int) - 1 == 0 && (-1 : Int) == 1 && items.size == items.size) = true then _ else _) _ _ s
  rw [if_neg hno, pick_rev]
  first
    | exact wpAny_bind (m := Builtin.Tuple.tupleExact _) (wpAny_newObj_type (wpAny_pure ⟨_, rfl, wpAny_pure h⟩) htake)
    | exact wpAny_bind (m := Builtin.Tuple.tupleExact _) (wpAny_newObj_type (wpAny_bind (wpAny_pure (wpAny_pure ⟨_, rfl, wpAny_pure h⟩))) htake)
    | exact wpAny_bind (wpAny_bind (m := Builtin.Tuple.tupleExact _) (wpAny_newObj_type (wpAny_pure (wpAny_pure ⟨_, rfl, wpAny_pure h⟩)) htake))
    | exact wpAny_bind (wpAny_bind (m := Builtin.Tuple.tupleExact _) (wpAny_newObj_type (wpAny_pure ⟨_, rfl, wpAny_pure h⟩) htake))
end
section
variable {X : Cx} {W : WX} {S : List Nat} {e : Expr} {c : Ex}
def tRevG (K : PySem.W.Frag) (te : TE) : TE := fun σ H Q => te σ H fun x H1 => ∃ a xs, x = .ref a ∧ ((SqL K H1 a xs ∧ ∀ p, H1 p = none → Q (.ref p) (upd H1 p (.lst xs.reverse))) ∨ (SqT K H1 a xs ∧ ∀ p, H1 p = none → Q (.ref p) (upd H1 p (.tup xs.reverse))))
theorem pe_revG {te : TE} {k : Nat} {p1 p2 p3 pos : Pos} (he : PE X e te) : PE X (.Subscript e (.Slice none none (some (.UnaryOp .USub (.Constant (.int 1) k p1) p2)) p3) pos) (tRevG X.K te) := by
  refine ⟨fun pins s σ H Q I h => ?_⟩
  refine Subscript_ (thn (he.run pins s σ H _ I h) fun v s1 ⟨x, H1, I1, r1, q1⟩ => ?_)
  obtain ⟨a, xs, ex, hx⟩ := q1
  subst ex
  cases r1
  have hst : PO X (some (.UnaryOp .USub (.Constant (.int 1) k p1) p2)) (tPart (tUn (rU fun i => .int (-i)) (tC (.int 1)))) := po_some (pe_un un_neg pe_int)
  refine wpAny_Slice (thn (po_none.run pins s1 σ H1 (fun o H2 => o = none ∧ H2 = H1) I1 ⟨rfl, rfl⟩) fun vl s2 ⟨l, H2, I2, pl, el, e2⟩ => ?_)
  subst el e2
  refine thn (po_none.run pins s2 σ H2 (fun o H3 => o = none ∧ H3 = H2) I2 ⟨rfl, rfl⟩) fun vu s3 ⟨u, H3, I3, pu, eu, e3⟩ => ?_
  subst eu e3
  refine thn (hst.run pins s3 σ H3 (fun o H4 => o = some (-1) ∧ H4 = H3) I3 ⟨1, rfl, -1, rfl, rfl, rfl⟩) fun vs s4 ⟨o, H4, I4, ps, eo, e4⟩ => ?_
  subst eo e4
  have I5 : Inv X pins σ H4 { s4 with heap := s4.heap.push { cls := .type "slice", data := .fields #[vl, vu, vs] } } := I4.kept (t' := s4.toks) fun b ob q => Heap.get?_push_of_some _ q
  show wpAny (model X.prog X.w) X.A (subscriptTail e (.Slice none none (some (.UnaryOp .USub (.Constant (.int 1) k p1) p2)) p3) (.ref a) (.ref s4.heap.objs.size)) (EP X pins σ Q) X.xe { s4 with heap := s4.heap.push { cls := .type "slice", data := .fields #[vl, vu, vs] } }
  rcases hx with ⟨hx, q⟩ | ⟨hx, q⟩
  · obtain ⟨its, r, ht, hz⟩ := I5.list hx
    have hlen := r.length
    refine tail_any (ops := [.ref a, .ref s4.heap.objs.size]) ht.isList.typeIs (PySem.slot_list_getitem.lookup) ?_ (by with_unfolding_all rfl)
    refine wpAny_getItem_list_slice ht.isList (Heap.IsSliceOf.new _ vl vu vs) pl pu ps (by decide) ?_ (by rw [List.size_toArray]; omega)
    rw [PySem.W.krv_pick]
    refine ⟨.ref _, _, I5.laid (t' := s4.toks) (o := .lst xs.reverse) (fun b ob q => Heap.get?_push_of_some _ q) (Nat.le_refl _) ?_, rfl, q _ (I5.hok.fresh (Nat.le_refl _))⟩
    exact ⟨by rw [List.length_reverse]; exact hz, _, 0, r.reverse, Heap.get?_push_size _ rfl⟩
  · obtain ⟨its, r, ht, hz⟩ := I5.tuple hx
    have hlen := r.length
    cases pl
    cases pu
    cases ps
    refine tail_any (ops := [.ref a, .ref s4.heap.objs.size]) ht.typeIs (PyProof.Rows.slot_tuple_getitem.lookup) ?_ (by with_unfolding_all rfl)
    refine getItem_tuple_rev ht (Heap.IsSliceOf.new _ .none .none _) ?_ (by rw [List.size_toArray]; omega)
    refine ⟨.ref _, _, I5.laid (t' := s4.toks) (o := .tup xs.reverse) (fun b ob q => Heap.get?_push_of_some _ q) (Nat.le_refl _) ?_, rfl, q _ (I5.hok.fresh (Nat.le_refl _))⟩
    exact ⟨by rw [List.length_reverse]; exact hz, _, r.reverse, IsTup.new _ _⟩
def revD : D → Option D
  | .lst ds => some (.lst ds.reverse)
  | .scr ds => some (.lst ds.reverse)
  | .tup ds => some (.tup ds.reverse)
  | _ => none
def revLD : D → Option D
  | .lst ds => some (.lst ds.reverse)
  | _ => none
theorem se_rev {k : Nat} {p1 p2 p3 pos : Pos} (ha : SE X W S e c .bor) : SE X W S (.Subscript e (.Slice none none (some (.UnaryOp .USub (.Constant (.int 1) k p1) p2)) p3) pos) (ap1 revD c) .fro :=
  ⟨peMono (pe_revG ha.pe) fun σ H Q h => by
    obtain ⟨F, T, O, ft, r, p⟩ := h
    refine tE_bind ft r p fun d1 T1 v1 H1 O1 r1 l1 q1 p1 => ?_
    obtain ⟨d, e, k⟩ := po_of p1
    have q := bOf q1 r1
    unfold revD at e
    split at e
    · cases e
      obtain ⟨p, ws, rfl, a, b⟩ := rb_lst q
      exact ⟨p, ws, rfl, .inl ⟨.inl (.inl a), new_lst r1 b.reverse k⟩⟩
    · cases e
      obtain ⟨p, ws, rfl, a, b⟩ := rb_scr q
      rw [ft.k] at a
      exact ⟨p, ws, rfl, .inl ⟨a, new_lst r1 b.reverse k⟩⟩
    · cases e
      obtain ⟨p, ws, rfl, a, b⟩ := rb_tup q
      rw [ft.k] at a
      exact ⟨p, ws, rfl, .inr ⟨a, new_tup r1 b.reverse k⟩⟩
    · cases e⟩
theorem se_revO {k : Nat} {p1 p2 p3 pos : Pos} (ha : SE X W S e c .bor) : SE X W S (.Subscript e (.Slice none none (some (.UnaryOp .USub (.Constant (.int 1) k p1) p2)) p3) pos) (ap1 revLD c) .fre :=
  ⟨peMono (pe_revG ha.pe) fun σ H Q h => by
    obtain ⟨F, T, O, ft, r, p⟩ := h
    refine tE_bind ft r p fun d1 T1 v1 H1 O1 r1 l1 q1 p1 => ?_
    obtain ⟨d, e, k⟩ := po_of p1
    have q := bOf q1 r1
    unfold revLD at e
    split at e
    · cases e
      obtain ⟨p, ws, rfl, a, b⟩ := rb_lst q
      exact ⟨p, ws, rfl, .inl ⟨.inl (.inl a), new_lstO r1 b.reverse k⟩⟩
    · cases e⟩
end
end Ev

/-! Ev: dict displays {a: b, ..} -/
namespace Ev
open PySem PySem.Spec PyProof.Rows L2
def stoAll (t : Bool) : List (D × D) → List D → Option (List (D × D))
  | es, [] => some es
  | es, k :: v :: r => match keyD t k with
    | some n => stoAll t (dsto es k n v) r
    | none => none
  | _, _ => none
def dispD (t : Bool) (ds : List D) : Option D := if ds.length ≤ 30 then (stoAll t [] ds).map (.dct t) else none
def flC : List (Ex × Ex) → List Ex
  | [] => []
  | c :: r => c.1 :: c.2 :: flC r
abbrev cp (a b : Ex) (r : List (Ex × Ex)) : List (Ex × Ex) := (a, b) :: r
abbrev c0 : List (Ex × Ex) := []
def flV : List (V × V) → List V
  | [] => []
  | c :: r => c.1 :: c.2 :: flV r
theorem flV_len : ∀ ps : List (V × V), (flV ps).length = 2 * ps.length
  | [] => rfl
  | p :: ps => by show (flV ps).length + 1 + 1 = _; rw [flV_len ps, List.length_cons]; omega
theorem dsto_len (es : List (D × D)) (k : D) (n : NestedKey) (v : D) : (dsto es k n v).length ≤ es.length + 1 := by
  unfold dsto
  split
  · rw [List.length_map]; omega
  · rw [List.length_append]; simp
theorem repl_cons {g : Gh} {H : Hp} {v : V} {vs : List V} {ds : List D} (h : RepL g H (v :: vs) ds) : ∃ d r, ds = d :: r ∧ Rep g H v d ∧ RepL g H vs r := by
  cases h with
  | cons a b => exact ⟨_, _, rfl, a, b⟩
theorem vv_cons {p : V × V} {ps : List (V × V)} {vs : List (Value × Value)} (h : VV (p :: ps) vs) : ∃ u r q, vs = (u, r) :: q ∧ (RelV p.1 u ∧ RelV p.2 r) ∧ VV ps q := by
  cases h with
  | cons a b => exact ⟨_, _, _, rfl, a, b⟩
section
variable {X : Cx} {W : WX} {S : List Nat} {F : Cf} {T : Tp} {σ : L2.St} {pins : List (Addr × Obj)} {H : Hp} {O : Addr → Prop} {s : Shared} {p : Addr} {t : Bool} {g : Gh}
theorem storeAll_walk {Q : PUnit → Shared → Prop} {E : Value → Shared → Prop} (hu : X.A.units + 65 < cLine) (hO : O p) : ∀ (ps : List (V × V)) (vs : List (Value × Value)) (ds : List D) (es es' : List (D × D)) (s : Shared) (H : Hp), Inv X pins σ H s → DAt X g H O p t es → VV ps vs → RepL g (fz H O) (flV ps) ds →
    stoAll t es ds = some es' → es.length + ps.length ≤ 1000 → (∀ s' o us, Inv X pins σ (upd H p o) s' → DH g.w p t o (es'.map Prod.fst) us → RepL g (fz H O) us (flE es') → Q PUnit.unit s') → wpAny (model X.prog X.w) X.A (storeAll p vs) Q E s
  | [], vs, ds, es, es', s, H, I, d, rel, rp, e, _, h => by
    cases rel
    cases rp
    cases (show some es = some es' from e)
    obtain ⟨hK, hw, o, us, ho, q, rr⟩ := d
    unfold storeAll
    rw [List.forIn_nil]
    refine wpAny_pure (h s o us ?_ q rr)
    have e1 : upd H p o = H := by
      funext b
      by_cases z : b = p
      · rw [z, upd_same, ho]
      · rw [upd_ne z]
    rw [e1]; exact I
  | (x, y) :: ps, vs, ds, es, es', s, H, I, d, rel, rp, e, hl, h => by
    obtain ⟨u, r, vs, rfl, r1, r2⟩ := vv_cons rel
    obtain ⟨kd, ds, rfl, hx, rp⟩ := repl_cons rp
    obtain ⟨vd, ds, rfl, hy, rp⟩ := repl_cons rp
    have e : (match keyD t kd with
      | some n => stoAll t (dsto es kd n vd) ds
      | none => none) = some es' := e
    cases ek : keyD t kd with
    | none => rw [ek] at e; cases e
    | some n =>
      rw [ek] at e
      have e : stoAll t (dsto es kd n vd) ds = some es' := e
      rw [List.length_cons] at hl
      unfold storeAll
      rw [List.forIn_cons]
      refine wpAny_bind (wpAny_bind (d4_store hu I d hx.toB ek r1.1 hy r1.2 (sizeLine_big (by omega)) fun s' o' us' I' q' rr' => wpAny_pure ?_))
      have d' : DAt X g (upd H p o') O p t (dsto es kd n vd) := ⟨d.k, d.w, o', us', upd_same, q', by rw [fz_upd hO]; exact rr'⟩
      refine storeAll_walk hu hO ps vs ds _ es' s' _ I' d' r2 (by rw [fz_upd hO]; exact rp) e (by have := dsto_len es kd n vd; omega) fun s2 o2 us2 I2 q2 rr2 => ?_
      rw [upd_upd] at I2
      rw [fz_upd hO] at rr2
      exact h s2 o2 us2 I2 q2 rr2
theorem tP_of : ∀ (cs : List (Ex × Ex)) {T : Tp} {H : Hp} {O : Addr → Prop} {Q : List V → Hp → Prop}, Fit X F σ → F.R S T H O → PoA X W S .fro F H O (esE (flC cs) F.env T) Q → tPairs (cs.map fun c => (tE X W S c.1 .fro, tE X W S c.2 .fro)) σ H fun ps H' => Q (flV ps) H'
  | [], T, H, O, Q, f, r, p => p [] H O r (Le.refl _) trivial
  | c :: cs, T, H, O, Q, f, r, p => by
    show tE X W S c.1 .fro σ H fun x H1 => tE X W S c.2 .fro σ H1 fun y H2 => tPairs (cs.map fun c => (tE X W S c.1 .fro, tE X W S c.2 .fro)) σ H2 fun ps H3 => Q (x :: y :: flV ps) H3
    have p : PoA X W S .fro F H O ((c.1 F.env T).bind fun d1 T => (c.2 F.env T).bind fun d2 T => (esE (flC cs) F.env T).bind fun ds T => .ok (d1 :: d2 :: ds) T) Q := by
      have e : esE (flC (c :: cs)) F.env T = ((c.1 F.env T).bind fun d1 T => (c.2 F.env T).bind fun d2 T => (esE (flC cs) F.env T).bind fun ds T => .ok (d1 :: d2 :: ds) T) := by
        show ((c.1 F.env T).bind fun d1 T => ((c.2 F.env T).bind fun d2 T => (esE (flC cs) F.env T).bind fun ds T => .ok (d2 :: ds) T).bind fun ds T => .ok (d1 :: ds) T) = _
        congr 1
        funext d1 T1
        cases c.2 F.env T1 with
        | ok d2 T2 =>
          show (((esE (flC cs) F.env T2).bind fun ds T => Res.ok (d2 :: ds) T).bind fun ds T => .ok (d1 :: ds) T) = ((esE (flC cs) F.env T2).bind fun ds T => .ok (d1 :: d2 :: ds) T)
          cases esE (flC cs) F.env T2 <;> rfl
        | ex x T2 => rfl
        | no => rfl
      rw [← e]; exact p
    refine tE_bindA f r p fun d1 T1 v1 H1 O1 r1 l1 q1 p1 => ?_
    refine tE_bindA f r1 p1 fun d2 T2 v2 H2 O2 r2 l2 q2 p2 => ?_
    refine tP_of cs (Q := fun vs H3 => Q (v1 :: v2 :: vs) H3) f r2 ?_
    have p2 : PoA X W S .fro F H2 O2 ((esE (flC cs) F.env T2).bind fun ds T => .ok (d1 :: d2 :: ds) T) Q := p2
    cases e : esE (flC cs) F.env T2 with
    | ok ds T3 =>
      rw [e] at p2
      intro vs H3 O3 r3 l3 q3
      exact p2 (v1 :: v2 :: vs) H3 O3 r3 l3 ⟨q1.later (by intro z; cases z) (l2.trans l3), q2.later (by intro z; cases z) l3, q3⟩
    | ex x T3 => rw [e] at p2; exact p2
    | no => rw [e] at p2; exact p2
/-- the pairs of a display -/
structure SP (X : Cx) (W : WX) (S : List Nat) (pos : Pos) (keys : List (Option Expr)) (values : List Expr) (cs : List (Ex × Ex)) : Prop where
  pp : PPs X pos keys values (cs.map fun c => (tE X W S c.1 .fro, tE X W S c.2 .fro))
theorem sp_nil {pos : Pos} : SP X W S pos [] [] [] := ⟨pps_nil⟩
theorem sp_cons {pos : Pos} {k v : Expr} {ks : List (Option Expr)} {vs : List Expr} {ck cv : Ex} {cs : List (Ex × Ex)} (hk : SE X W S k ck .fro) (hv : SE X W S v cv .fro) (hr : SP X W S pos ks vs cs) : SP X W S pos (some k :: ks) (v :: vs) ((ck, cv) :: cs) := ⟨pps_cons hk.pe hv.pe hr.pp⟩
theorem R_unwaitO {v : V} {d : D} (hb : ∀ i, i ∈ S ++ F.xs → i < (F.env ++ F.tms).length) (r : (F.wait .o v d).R S T H O) : F.R S T H O ∧ ∃ p, v = .ref p ∧ OwnAt F.g H O p d ∧ ∀ (i : Nat) d', i ∈ S ++ F.xs → (F.env ++ F.tms)[i]? = some (some d') → (F.σ ++ F.τ)[i]? ≠ some (some (V.ref p)) := by
  have r : Ev.R F.g (S ++ (F.xs ++ [(F.env ++ F.tms).length])) (F.env ++ (F.tms ++ [some d])) T (F.σ ++ (F.τ ++ [some v])) H O := r
  rw [← List.append_assoc, ← List.append_assoc, ← List.append_assoc] at r
  exact R.popO r hb
/-- the thing that waits is changed -/
theorem R_wait_mutD {L : Addr} {d d2 : D} {o : HO} (r : (F.wait .o (.ref L) d).R S T H O) (q : Own1 F.g (upd H L o) O L d2) : (F.wait .o (.ref L) d2).R S T (upd H L o) O := by
  have r : Ev.R F.g (S ++ (F.xs ++ [(F.env ++ F.tms).length])) (F.env ++ (F.tms ++ [some d])) T (F.σ ++ (F.τ ++ [some (.ref L)])) H O := r
  rw [← List.append_assoc, ← List.append_assoc, ← List.append_assoc] at r
  have len0 : (F.env ++ F.tms).length = (F.σ ++ F.τ).length := by
    have := r.len
    rw [List.length_append, List.length_append (as := F.σ ++ F.τ)] at this
    simpa using this
  have ek : ((F.env ++ F.tms) ++ [some d])[(F.env ++ F.tms).length]? = some (some d) := by simp
  have es : ((F.σ ++ F.τ) ++ [some (V.ref L)])[(F.env ++ F.tms).length]? = some (some (V.ref L)) := by rw [len0]; simp
  have mk : (F.env ++ F.tms).length ∈ (S ++ F.xs) ++ [(F.env ++ F.tms).length] := List.mem_append_right _ (List.mem_singleton.mpr rfl)
  have z := Ev.R.mut (o := o) (d := d2) r mk ek es q
  have e2 : ((F.env ++ F.tms) ++ [some d]).set (F.env ++ F.tms).length (some d2) = (F.env ++ F.tms) ++ [some d2] := by simp
  rw [e2, List.append_assoc, List.append_assoc, List.append_assoc] at z
  exact z
theorem se_dispO (t : Bool) (hu : X.A.units + 65 < cLine) {pos : Pos} {keys : List (Option Expr)} {values : List Expr} {cs : List (Ex × Ex)} (hp : SP X W S pos keys values cs) (hall : keys.all (·.isSome) = true) (hl : keys.length = values.length) (h0 : keys ≠ []) (h15 : keys.length ≤ 15) :
    SE X W S (.Dict keys values pos) (apN (dispD t) (flC cs)) .fre := ⟨⟨fun pins s σ H Q I h => by
  obtain ⟨F, T, O, f, r, p⟩ := h
  have hn : H s.heap.objs.size = none := I.hok.fresh (Nat.le_refl _)
  have hs : (s.heap.objs.size == sysModules) = false := beq_eq_false_iff_ne.mpr (Nat.ne_of_gt I.big)
  have nw : ∀ (H : Hp), ObjOk X.prog X.w H (s.heap.push { cls := .type "dict", data := .dict #[] }) s.heap.objs.size (PinD s.heap.objs.size #[] 0) := fun H =>
    ⟨⟨_, Heap.get?_push_size _ rfl, ⟨rfl, rfl, rfl⟩, rfl⟩, ⟨_, Heap.get?_push_size _ rfl⟩, fun h1 h2 φ k => φ.at k⟩
  have I1 := I.laid (a := s.heap.objs.size) (o := PinD s.heap.objs.size #[] 0) (h' := s.heap.push { cls := .type "dict", data := .dict #[] }) (t' := s.toks) (fun _ _ q => Heap.get?_push_of_some _ q) (Nat.le_refl _) (nw _)
  obtain ⟨a, ea⟩ : ∃ a, s.heap.objs.size = a := ⟨_, rfl⟩
  rw [ea] at hn hs I1
  obtain ⟨ra, la⟩ := R.newOwn r (PinD a #[] 0) hn
  have np := R.npt r hn
  have own0 : OwnAt F.g (upd H a (PinD a #[] 0)) (fun b => O b ∨ b = a) a (.dct t []) := ⟨.inr rfl, R.h0new r hn np, np, PinD a #[] 0, [], upd_same, empty_dh hs, .nil⟩
  have rw_ := R_wait (F := F) (o := .o) (v := .ref a) (d := .dct t []) ra ⟨a, rfl, own0, fun i d' hi he => R.slot_ne r hn hi he⟩
  have fw : Fit X (F.wait .o (.ref a) (.dct t [])) σ := f.wait
  have bd := r.bd
  have p : Po X W S .fre F H O ((esE (flC cs) F.env T).bind fun ds T => ofO (dispD t ds) T) Q := p
  have pa : PoA X W S .fro (F.wait .o (.ref a) (.dct t [])) (upd H a (PinD a #[] 0)) (fun b => O b ∨ b = a) (esE (flC cs) F.env T) fun vs H2 => ∃ ds T2 O2, esE (flC cs) F.env T = .ok ds T2 ∧ (F.wait .o (.ref a) (.dct t [])).R S T2 H2 O2 ∧ Le (fz (upd H a (PinD a #[] 0)) (fun b => O b ∨ b = a)) (fz H2 O2) ∧ MOkL .fro (F.wait .o (.ref a) (.dct t [])) S H2 O2 vs ds := by
    cases e : esE (flC cs) F.env T with
    | ok ds T2 => exact fun vs H2 O2 r2 l2 q2 => ⟨ds, T2, O2, rfl, r2, l2, q2⟩
    | ex x T2 =>
      rw [e] at p
      exact fun H2 O2 r2 => p H2 O2 (R_unwaitO bd r2).1
    | no => rw [e] at p; exact p
  refine wpAny_Dict_any hall hl h0 h15 (thn (hp.pp.run pins _ σ _ _ I1 (tP_of cs fw rw_ pa)) fun vs s2 ⟨ps, H2, I2, rel, q⟩ => ?_)
  obtain ⟨ds, T2, O2, e, r2, l2, q2⟩ := q
  rw [e] at p
  obtain ⟨d, ed, k⟩ := po_of (show Po X W S .fre F H O (ofO (dispD t ds) T2) Q from p)
  unfold dispD at ed
  split at ed
  · rename_i hlen
    cases es : stoAll t [] ds with
    | none => rw [es] at ed; cases ed
    | some es' =>
      rw [es] at ed
      cases ed
      obtain ⟨_, p', ep, ow, _⟩ := R_unwaitO bd r2
      cases ep
      obtain ⟨o1, us1, ho1, dh1, rr1⟩ := (show ∃ o vs, H2 a = some o ∧ DH F.g.w a t o (([] : List (D × D)).map Prod.fst) vs ∧ RepL F.g (fz H2 O2) vs (flE []) from ow.at_)
      have rp : RepL F.g (fz H2 O2) (flV ps) ds := q2.rep
      have hl2 : 2 * ps.length ≤ 30 := by rw [← flV_len, rp.len]; exact hlen
      rw [ea]
      refine storeAll_walk hu ow.o ps vs ds [] es' s2 H2 I2 ⟨f.k, f.w, o1, us1, ho1, dh1, rr1⟩ rel rp es (by simp; omega) fun s3 o us I3 q3 rr3 => ?_
      have own3 : Own1 F.g (upd H2 a o) O2 a (.dct t es') := ⟨o, us, upd_same, q3, by rw [fz_upd ow.o]; exact rr3⟩
      obtain ⟨r4, p', ep, ow4, ne4⟩ := R_unwaitO bd (R_wait_mutD r2 own3)
      cases ep
      refine ⟨.ref a, upd H2 a o, I3, rfl, k (.ref a) (upd H2 a o) O2 r4 (la.trans (l2.trans ?_)) ⟨a, rfl, ow4, ne4⟩⟩
      rw [fz_upd ow.o]
      exact Le.refl _
  · cases ed⟩⟩
end
theorem pr_c0 : PurEs (flC c0) := .nil
theorem pr_cp {a b : Ex} {r : List (Ex × Ex)} (ha : PurE a) (hb : PurE b) (hr : PurEs (flC r)) : PurEs (flC (cp a b r)) := .cons ha (.cons hb hr)
end Ev

/-! Ev: sorted(d), list(d) of dicts; dicts of the module -/
namespace Ev
open PySem PySem.Spec PyProof.Rows L2 PySem.W
section
variable {prog : Program} {w : World} {d : Addr} {es : Array DictEntry} {ep : Nat}
theorem kdl_raw (lo : (d == sysModules) = false) : KdlSrc prog w "dict" d d es.size (fun i v => ∃ hi : i < es.size, v = es[i].key) (fun h => h.DictRaw d es ep) where
  type := fun _ hm => hm.typeIs
  there := fun _ hm => let ⟨_, ho, _⟩ := hm; ⟨Heap.lt_size ho, Heap.lt_size ho⟩
  keep := fun _ _ hm hk => hm.at fun o e => hk d (.inl rfl) o e
  notList := by decide
  notTuple := by decide
  hint := fun _ _ _ _ hm hq => kdl_hint_dict hm.typeIs hq
  iter := fun _ _ hh hm => ⟨_, _, (fun _ _ hq => wpAny_pyIter_dict_raw lo hm hq), Walks.rawKeys hh _ d (let ⟨_, ho, _⟩ := hm; Nat.ne_of_lt (Heap.lt_size ho)) es ep, ⟨⟨_, Heap.get?_push_size _ rfl, rfl, rfl⟩, hm.at fun o e => Heap.get?_push_of_some _ e⟩⟩
theorem items_keys {acc : Array Value} (h : ItemsOf (fun i v => ∃ hi : i < es.size, v = es[i].key) acc es.size) : acc.toList = es.toList.map (·.key) := by
  refine List.ext_getElem? fun i => ?_
  rw [Array.getElem?_toList, List.getElem?_map, Array.getElem?_toList]
  cases e : acc[i]? with
  | none =>
    have : acc.size ≤ i := by
      rcases Nat.lt_or_ge i acc.size with z | z
      · rw [Array.getElem?_eq_getElem z] at e; cases e
      · exact z
    rw [h.1] at this
    rw [Array.getElem?_eq_none this]; rfl
  | some v =>
    obtain ⟨hi, rfl⟩ := h.2 i v e
    rw [Array.getElem?_eq_getElem hi]; rfl
variable {A : Around} {E : Value → Shared → Prop} {s : Shared}
/-- the keys gathered; the heap has grown -/
theorem gather {R : List Value → Shared → Prop} (lo : (d == sysModules) = false) (hh : A.handled = none) (hok : s.heap.DictRaw d es ep) (hn : es.size ≤ sizeLine)
    (h : ∀ (h' : Heap) (tk : Nat) (acc : List Value), (∀ b o, s.heap.get? b = some o → h'.get? b = some o) → s.heap.objs.size < h'.objs.size → acc = es.toList.map (·.key) → R acc { s with heap := h', toks := tk }) :
    wpAny (model prog w) A (collect (.ref d)) R E s := by
  have K := kdl_raw (prog := prog) (w := w) (es := es) (ep := ep) lo
  have hlt := (K.there _ hok).1
  unfold collect
  refine wpAny_bind (wpAny_runValue (codeAny_builtin entry_proto_collect' ?_))
  rw [Around.under_plainId PySem.F.plain_proto_collect _]
  show wpAny _ A.in1 (newList [] >>= fun l => again (.builtin "list.__iadd__" ⟨[l, .ref d], []⟩)) _ _ s
  refine wpAny_bind (wpAny_newObj_type (wpAny_pure ⟨plainId_quiet PySem.F.plain_list_iadd _, codeAny_builtin entry_list_iadd' ?_⟩))
  rw [Around.under_plainId PySem.F.plain_list_iadd _]
  have hS₁ : (s.heap.push { cls := .type "list", data := .seq ([] : List Value).toArray }).get? s.heap.objs.size = some { cls := .type "list", data := .seq #[] } := Heap.get?_push_size _ rfl
  show wpAny _ A.in1 (Builtin.List.listExtendWith (.ref s.heap.objs.size) (.ref d) (.ref s.heap.objs.size)) _ _ _
  let Rr : Result → Shared → Prop := fun q s' => ∃ (h' : Heap) (tk : Nat) (acc' : Array Value) (c' : Nat), q = .ok (.ret (.ref s.heap.objs.size)) ∧ s' = { s with heap := h', toks := tk } ∧
    (∀ b o, s.heap.get? b = some o → h'.get? b = some o) ∧ h'.get? s.heap.objs.size = some { cls := .type "list", dict := none, data := .seq acc' c', slots := #[] } ∧ ItemsOf (fun i v => ∃ hi : i < es.size, v = es[i].key) acc' es.size
  have key := kdl_extend (A := A) (s := { s with heap := s.heap.push { cls := .type "list", data := .seq ([] : List Value).toArray } }) (R := Rr)
    K hh (K.keep _ _ hok fun b _ o e => Heap.get?_push_of_some _ e) s.heap.objs.size (Nat.ne_of_gt hlt) (Nat.ne_of_gt hlt) (.ref s.heap.objs.size) 0 hS₁
    (fun h' tk acc' c' hk hS' hacc => ⟨h', tk, acc', c', rfl, rfl, fun b o e => hk b o (Nat.ne_of_lt (Heap.lt_size e)) (Heap.get?_push_of_some _ e), hS', hacc⟩) hn
  refine wpAny_mono key (fun f s' x => ?_) fun e s' x => ?_
  · cases f with
    | done f =>
      obtain ⟨h', tk, acc', c', e, rfl, hk, hS', hacc⟩ := x
      cases e
      exact wpAny_bind (wpAny_load hS' (wpAny_pure (h h' tk acc'.toList hk (Heap.lt_size hS') (items_keys hacc))))
    | again c₁ =>
      refine ⟨x.1, codeAny_mono x.2 fun q s₂ y => ?_⟩
      obtain ⟨h', tk, acc', c', rfl, rfl, hk, hS', hacc⟩ := y
      exact wpAny_bind (wpAny_load hS' (wpAny_pure (h h' tk acc'.toList hk (Heap.lt_size hS') (items_keys hacc))))
  · obtain ⟨_, _, _, _, e', _⟩ := x
    cases e'
/-- the items of a tuple gathered; the heap has grown -/
theorem gather_seq {R : List Value → Shared → Prop} {it : Addr} {o : Obj} {items : Array Value} {n : Nat} (ho : s.heap.get? it = some o) (hc : o.cls = .type "tuple") (hd : o.data = .seq items n) (hsz : items.size ≤ sizeLine)
    (hQ : ∀ h', (∀ b o', s.heap.get? b = some o' → h'.get? b = some o') → s.heap.objs.size ≤ h'.objs.size → R items.toList { s with heap := h' }) :
    wpAny (model prog w) A (collect (.ref it)) R E s := by
  unfold collect
  refine wpAny_bind (wpAny_runValue (codeAny_builtin entry_proto_collect' ?_))
  rw [Around.under_plainId PySem.F.plain_proto_collect _]
  show wpAny _ A.in1 (newList [] >>= fun l => again (.builtin "list.__iadd__" ⟨[l, .ref it], []⟩)) _ _ s
  refine wpAny_bind (wpAny_newObj_type (wpAny_pure ⟨plainId_quiet PySem.F.plain_list_iadd _, codeAny_builtin entry_list_iadd' ?_⟩))
  rw [Around.under_plainId PySem.F.plain_list_iadd _]
  show wpAny _ A.in1 (Builtin.List.listExtendWith (.ref s.heap.objs.size) (.ref it) (.ref s.heap.objs.size)) _ _ _
  have hS : (s.heap.push { cls := .type "list", data := .seq ([] : List Value).toArray }).get? s.heap.objs.size = some { cls := .type "list", data := .seq #[] 0 } := Heap.get?_push_size _ rfl
  have hS₂ := Heap.get?_update_self (Obj.mapSeq (· ++ items)) hS rfl
  have hg := hQ ((s.heap.push { cls := .type "list", data := .seq ([] : List Value).toArray }).update s.heap.objs.size (Obj.mapSeq (· ++ items)))
    (fun b o' hb => (Heap.get?_update_other _ _ (Nat.ne_of_gt (Heap.lt_size hb))).trans (Heap.get?_push_of_some _ hb)) (by rw [Heap.size_update, Heap.size_push]; exact Nat.le_succ _)
  have e : ((#[] : Array Value) ++ items).toList = items.toList := by simp
  have hg' : R ((#[] : Array Value) ++ items).toList { s with heap := (s.heap.push { cls := .type "list", data := .seq ([] : List Value).toArray }).update s.heap.objs.size (Obj.mapSeq (· ++ items)) } := by rw [e]; exact hg
  refine wpAny_mono (wpAny_extend_seq (hsz := hsz) (A := A) (R := fun r s' => r = .ok (.ret (.ref s.heap.objs.size)) ∧ s' = { s with heap := (s.heap.push { cls := .type "list", data := .seq ([] : List Value).toArray }).update s.heap.objs.size (Obj.mapSeq (· ++ items)) })
    (s := { s with heap := s.heap.push { cls := .type "list", data := .seq ([] : List Value).toArray } }) _ it _ 0 (.inr rfl) hS (Heap.get?_push_of_some _ ho) hc hd ⟨rfl, rfl⟩) (fun f s' h => ?_) (fun e s' h => ?_)
  · cases f with
    | done f =>
      obtain ⟨e, rfl⟩ := h
      cases e
      exact wpAny_bind (wpAny_load hS₂ (wpAny_pure hg'))
    | again c₁ =>
      refine ⟨h.1, codeAny_mono h.2 fun q s₂ y => ?_⟩
      obtain ⟨rfl, rfl⟩ := y
      exact wpAny_bind (wpAny_load hS₂ (wpAny_pure hg'))
  · obtain ⟨e', _⟩ := h
    cases e'
end
section
variable {X : Cx} {W : WX} {S : List Nat} {e : Expr} {c : Ex} {pins : List (Addr × Obj)} {σ : L2.St} {H : Hp} {s : Shared} {a : Addr}
/-- a dict's keys, as they stand in the heap -/
def KeysAt (X : Cx) (H : Hp) (a : Addr) (ks : List V) : Prop := (a == sysModules) = false ∧ ks.length ≤ sizeLine ∧ ∀ (pins : List (Addr × Obj)) (σ : L2.St) (s : Shared), Inv X pins σ H s → ∃ es ep, s.heap.DictRaw a es ep ∧ Vals ks (es.toList.map (·.key))
/-- what can be gathered into a list -/
def Gath (X : Cx) (H : Hp) (a : Addr) (ks : List V) : Prop := ∀ (pins : List (Addr × Obj)) (σ : L2.St) (s : Shared), Inv X pins σ H s → ks.length ≤ sizeLine ∧ ∃ us, Vals ks us ∧
  ∀ (A : Around) (E : Value → Shared → Prop) (R : List Value → Shared → Prop), A.handled = none → (∀ (h' : Heap) (tk : Nat), (∀ b o, s.heap.get? b = some o → h'.get? b = some o) → s.heap.objs.size ≤ h'.objs.size → R us { s with heap := h', toks := tk }) → wpAny (model X.prog X.w) A (collect (.ref a)) R E s
def rSortR (X : Cx) : List V → Hp → VK → Prop := fun vs H Q => ∃ (a : Addr) (ps : List (V × D)), vs = [V.ref a] ∧ Gath X H a (ps.map Prod.fst) ∧ (∀ p ∈ ps, Dp X.K H p.1 (pd p.2)) ∧ okSrt (ps.map Prod.snd) = true ∧
  ∀ p, H p = none → Q (.ref p) (upd H p (.lst ((ps.mergeSort leV).map Prod.fst)))
def rListR (X : Cx) : List V → Hp → VK → Prop := fun vs H Q => ∃ (a : Addr) (ks : List V), vs = [V.ref a] ∧ KeysAt X H a ks ∧ ∀ p, H p = none → Q (.ref p) (upd H p (.lst ks))
theorem keys_size {es : Array DictEntry} {ks : List V} (r : Vals ks (es.toList.map (·.key))) : es.size = ks.length := by
  have := r.length
  rw [List.length_map, Array.length_toList] at this
  exact this.symm
theorem KeysAt.gath {ks : List V} (h : KeysAt X H a ks) : Gath X H a ks := fun pins σ s I => by
  obtain ⟨es, ep, hm, rk⟩ := h.2.2 pins σ s I
  exact ⟨h.2.1, _, rk, fun A E R hh hR => gather (ep := ep) h.1 hh hm (by rw [keys_size rk]; exact h.2.1) fun h' tk acc hk hge hal => by rw [hal]; exact hR h' tk hk (Nat.le_of_lt hge)⟩
theorem tup_gath {ks : List V} (h : SqT X.K H a ks) : Gath X H a ks := fun pins σ s I => by
  obtain ⟨its, r, ht, hz⟩ := I.tuple h
  refine ⟨hz, its, r, fun A E R hh hR => ?_⟩
  obtain ⟨o, ho, hc, ⟨n, hd⟩⟩ : ∃ o, s.heap.get? a = some o ∧ o.cls = .type "tuple" ∧ ∃ n, o.data = .seq its.toArray n := by
    obtain ⟨o, h1, h2, h3, h4⟩ := ht
    exact ⟨o, h1, h2, h3, h4⟩
  exact gather_seq ho hc hd (by rw [List.size_toArray, ← r.length]; exact hz) fun h' hk hge => hR h' s.toks hk hge
theorem cr_listR (hc : X.calm = true) : CallR X (.type "list") (rListR X) := by
  intro pins s σ H vs us Q I r h
  obtain ⟨a, ks, rfl, ⟨lo, hz, hk⟩, q⟩ := h
  obtain ⟨es, ep, hm, rk⟩ := hk pins σ s I
  rw [Vals.ref1 r]
  refine kdl_call (kdl_raw (ep := ep) lo) (I.ok.hd hc) hm (by rw [keys_size rk]; exact hz) fun h' tk acc c' hk hS hacc => ?_
  refine ⟨.ref _, upd H s.heap.objs.size (.lst ks), I.laid (t' := tk) hk (Nat.le_refl _) ⟨hz, acc.toList, c', ?_, ?_⟩, rfl, q _ (I.hok.fresh (Nat.le_refl _))⟩
  · rw [items_keys hacc]; exact rk
  · first | exact hS | (rw [Array.toArray_toList]; exact hS)
theorem cr_sortR (hc : X.calm = true) (hu : X.A.units + 65 < cLine) : CallR X (.builtin "sorted") (rSortR X) := by
  intro pins s σ H vs us0 Q I r h
  obtain ⟨a, ps, rfl, hk, hd, ok, q⟩ := h
  obtain ⟨hz, us, rk, gath⟩ := hk pins σ s I
  rw [Vals.ref1 r]
  unfold okSrt at ok
  rw [Bool.and_eq_true, Bool.or_eq_true] at ok
  have oa := okA_mem ok.1
  have mm : ∀ p ∈ ps, p.2 ∈ ps.map Prod.snd := fun p hp => List.mem_map.mpr ⟨p, hp, rfl⟩
  refine Calls.call_function_entry kind_sorted plain_sorted entry_sorted (args_sorted1 _) ?_
  unfold Builtin.«sorted»
  refine wpAny_bind (m := checkCount "sorted" 1 1 _) (wpAny_pure ?_)
  refine wpAny_bind (gath X.A.in1 _ _ (I.ok.hd hc) fun h' tk hk' hge => ?_)
  have rk' : Vals (ps.map Prod.fst) us := rk
  have hln : us.length = ps.length := by have := rk'.length; rw [List.length_map] at this; exact this.symm
  have hz' : ps.length ≤ sizeLine := by rw [List.length_map] at hz; exact hz
  refine wpAny_bind (wpAny_newList ?_ (by rw [hln]; exact hz'))
  have e1 := each_vals rk'
  have hD : (h'.push { cls := .type "list", data := .seq us.toArray }).get? h'.objs.size = some (seqObj "list" us.toArray 0) := Heap.get?_push_size _ rfl
  have kp : ∀ b o, s.heap.get? b = some o → (h'.push { cls := .type "list", data := .seq us.toArray }).get? b = some o := fun b o e => Heap.get?_push_of_some _ (hk' b o e)
  have e2 : PySem.W.EachIs (fun (u : Value) (p : V × D) => ∃ as, Reads (h'.push { cls := .type "list", data := .seq us.toArray }) u (pd p.2) as ∧ h'.objs.size ∉ as) us ps := each_and e1 fun u p hp hr => by
    obtain ⟨as, rd⟩ := Dp.reads I _ _ _ (hd p hp) hr
    refine ⟨as, PyProof.Rows.Reads.keeps kp rd, fun hm => ?_⟩
    obtain ⟨o, ho⟩ := PyProof.On.reads_mem_get rd _ hm
    exact absurd (Heap.lt_size (hk' _ _ ho)) (Nat.lt_irrefl _)
  refine wpAny_bind (wpAny_holding (wpAny_mono (PySem.W.list_sort_data (enc := fun p : V × D => pd p.2) (Q := fun _ s' => EP X pins σ Q (.ref h'.objs.size) s') hD e1 e2 ?_ ?_ hz' (fun p hp => ?_) fun out ho eo => ?_) (fun _ s' x => wpAny_pure ⟨_, rfl, x⟩) fun _ _ e => e))
  · intro d hd d' hd'
    obtain ⟨p, hp, rfl⟩ := List.mem_map.mp hd
    obtain ⟨p', hp', rfl⟩ := List.mem_map.mp hd'
    exact (okC_pd (oa _ (mm p hp) _ (mm p' hp'))).1
  · rcases ok.2 with z | z
    · refine .inl fun d hd => ?_
      obtain ⟨p, hp, rfl⟩ := List.mem_map.mp hd
      exact isT1_pd (List.all_eq_true.mp z _ (mm p hp)) (okC_pd (oa _ (mm p hp) _ (mm p hp))).2.2.2
    · refine .inr fun d hd => ?_
      obtain ⟨p, hp, rfl⟩ := List.mem_map.mp hd
      exact notT_pd (List.all_eq_true.mp z _ (mm p hp)) (okC_pd (oa _ (mm p hp) _ (mm p hp))).2.2.2
  · have := (okC_pd (oa _ (mm p hp) _ (mm p hp))).2.2.1
    show X.A.units + 1 + 1 + (pd p.2).depth < cLine
    omega
  · have eo : PySem.W.EachIs (fun (u : Value) (p : V × D) => RelV p.1 u) out (ps.mergeSort leV) := eo
    obtain ⟨ep', he'⟩ := PyProof.Rows.sortedHeap_at (out := List.toArray out) hD
    have hlen : ((ps.mergeSort leV).map Prod.fst).length ≤ sizeLine := by
      rw [List.length_map, List.length_mergeSort]
      exact hz'
    refine ⟨.ref _, upd H h'.objs.size (.lst ((ps.mergeSort leV).map Prod.fst)), I.laid (t' := tk) (fun b o e => ?_) hge ⟨hlen, out, ep', vals_each eo, he'⟩, rfl, q _ (I.hok.fresh hge)⟩
    have hb := Heap.lt_size e
    rw [PyProof.Rows.sortedHeap_old (Nat.ne_of_lt (Nat.lt_of_lt_of_le hb hge)) (Heap.lt_size (kp b o e))]
    exact kp b o e
end
end Ev
namespace Ev
open PySem PySem.Spec PyProof.Rows L2 PySem.W
/-! ### dicts of the module, with text keys -/
structure KDc (K : PySem.W.Frag) (w : World) (mg : Str → Option Value) (x : Str) (es : List (Str × D)) : Prop where
  ex : ∃ (a : Addr) (arr : Array DictEntry) (n : Nat), mg x = some (.ref a) ∧ L2.KDict K w a arr n ∧ Vals (es.map fun e => V.str e.1) (arr.toList.map (·.key)) ∧
    ∀ e ∈ es, ∃ v u0, PySem.W.nsIn K a e.1 = some (some u0) ∧ RelV v u0 ∧ ∀ (g : Gh) (H : Hp), g.K = K → Rep g H v e.2
def cdGet (es : List (Str × D)) : D → Option D
  | .str z => match es.find? (fun e => decide (e.1 = z)) with
    | some e => some e.2
    | none => none
  | _ => none
def cdHas (es : List (Str × D)) : D → Option D
  | .str z => match es.find? (fun e => decide (e.1 = z)) with
    | some _ => some (.bl true)
    | none => none
  | _ => none
section
variable {X : Cx} {W : WX} {S : List Nat} {e : Expr} {c : Ex} {x : Str} {es : List (Str × D)} {px pos : Pos}
theorem ix_kd {d : Addr} {arr : Array DictEntry} {n : Nat} (D : L2.KDict X.K X.w d arr n) : IxR X (fun x y H Q => ∃ (z : Str) (u0 : Value) (v0 : V), x = .ref d ∧ y = .str z ∧ PySem.W.nsIn X.K d z = some (some u0) ∧ RelV v0 u0 ∧ Q v0 H) := by
  intro value slice pins s σ H x y v u Q I rx ry h hs
  obtain ⟨z, u0, v0, rfl, rfl, e, r, q⟩ := h
  cases rx
  have hT := kd_type D I
  unfold subscriptTail
  refine wpAny_bind ?_
  rw [getitemInPython_of_ne hT.not_modules]
  refine wpAny_bind (wpAny_specialOf hT slot_dict_getitem.lookup ?_)
  have fin : wpAny (model X.prog X.w) X.A (subscripted slice false (.ref d) u) (fun r s3 => wpAny (model X.prog X.w) X.A (letTemporaryGo value (.ref d) r >>= fun _ => pure r) (EP X pins σ Q) X.xe s3) X.xe s := by
    rw [hs]
    refine wpAny_operating (wpAny_mono (op_item_kd D pins s σ H (.ref d) (.str z) (.ref d) u (fun v H' => v = v0 ∧ H' = H) I rfl ry ⟨z, u0, v0, rfl, rfl, e, r, rfl, rfl⟩) (fun w' s' hq => ?_) fun _ _ e => e)
    obtain ⟨v, H', I', rv, rfl, rfl⟩ := hq
    exact wpAny_bind (wpAny_letTemporaryGo (wpAny_pure ⟨v, H', I', rv, q⟩))
  first
    | exact wpAny_pure (wpAny_bind fin)
    | exact wpAny_bind (wpAny_pure (wpAny_bind fin))
    | exact wpAny_bind fin
theorem se_kdIx (hg : Gl X x) (h : KDc X.K X.w X.mg x es) (ha : SE X W S e c .bor) (hs : PlainIx e) (hd : (x == ("__debug__" : Str)) = false := by decide) : SE X W S (.Subscript (.Name x px) e pos) (ap1 (cdGet es) c) .fro := by
  obtain ⟨a, arr, n, hm, D, hv, hk⟩ := h.ex
  refine ⟨peMono (pe_ix (ix_kd D) (pe_glob (v := .ref a) hg hm rfl hd) ha.pe hs) fun σ H Q ⟨F, T, O, ft, r, p⟩ => ?_⟩
  show tE X W S c .bor σ H fun y H2 => ∃ (z : Str) (u0 : Value) (v0 : V), V.ref a = .ref a ∧ y = .str z ∧ PySem.W.nsIn X.K a z = some (some u0) ∧ RelV v0 u0 ∧ Q v0 H2
  refine tE_bind ft r p fun d1 T1 v1 H1 O1 r1 l1 q1 p1 => ?_
  obtain ⟨d, e, k⟩ := po_of p1
  unfold cdGet at e
  split at e
  · rename_i z
    split at e
    · rename_i en he
      cases e
      have q : Rep F.g (fz H1 O1) v1 (.str z) := bOf q1 r1
      cases q
      have hz : en.1 = z := of_decide_eq_true (p := en.1 = z) (List.find?_some (p := fun e : Str × Ev.D => decide (e.1 = z)) he)
      obtain ⟨v0, u0, h1, h2, h3⟩ := hk en (List.mem_of_find?_eq_some he)
      rw [hz] at h1
      exact ⟨z, u0, v0, rfl, rfl, h1, h2, k v0 H1 O1 r1 (Le.refl _) (h3 _ _ ft.k)⟩
    · cases e
  · cases e
theorem se_kdIn (hg : Gl X x) (h : KDc X.K X.w X.mg x es) (ha : SE X W S e c .bor) (hm2 : behindInMarks .In (.Name x px) = false) (hd : (x == ("__debug__" : Str)) = false := by decide) : SE X W S (.Compare e [.In] [.Name x px] pos) (ap1 (cdHas es) c) .fro := by
  obtain ⟨a, arr, n, hm, D, hv, hk⟩ := h.ex
  refine ⟨peMono (pe_cmpR (op_in_kd D) ha.pe (pe_glob (v := .ref a) hg hm rfl hd) hm2) fun σ H Q ⟨F, T, O, ft, r, p⟩ => ?_⟩
  show tE X W S c .bor σ H fun x H2 => ∃ (z : Str) (r : Option Value), x = .str z ∧ V.ref a = .ref a ∧ PySem.W.nsIn X.K a z = some r ∧ Q (.bl r.isSome) H2
  refine tE_bind ft r p fun d1 T1 v1 H1 O1 r1 l1 q1 p1 => ?_
  obtain ⟨d, e, k⟩ := po_of p1
  unfold cdHas at e
  split at e
  · rename_i z
    split at e
    · rename_i en he
      cases e
      have q : Rep F.g (fz H1 O1) v1 (.str z) := bOf q1 r1
      cases q
      have hz : en.1 = z := of_decide_eq_true (p := en.1 = z) (List.find?_some (p := fun e : Str × Ev.D => decide (e.1 = z)) he)
      obtain ⟨v0, u0, h1, h2, h3⟩ := hk en (List.mem_of_find?_eq_some he)
      rw [hz] at h1
      exact ⟨z, some u0, rfl, rfl, h1, k _ H1 O1 r1 (Le.refl _) (.bl _)⟩
    · cases e
  · cases e
theorem strs_dp {K : PySem.W.Frag} {H : Hp} : ∀ {es : List (Str × D)}, ∀ p ∈ (es.map fun e => ((V.str e.1, D.str e.1) : V × D)), Dp K H p.1 (pd p.2) := fun {es} p hp => by
  obtain ⟨e, _, rfl⟩ := List.mem_map.mp hp
  exact .str _
theorem se_kdSorted {f : Str} {pf : Pos} (hc : X.calm = true) (hu : X.A.units + 65 < cLine) (hgf : Gl X f) (hmf : X.mg f = none) (hv : bootBuiltins f = some (.builtin "sorted")) (hg : Gl X x) (h : KDc X.K X.w X.mg x es) (ok : okSrt (es.map fun e => D.str e.1) = true) (hz : es.length ≤ 1000)
    (hn : f ≠ "__name__" := by decide) (hdf : (f == ("__debug__" : Str)) = false := by decide) (hd : (x == ("__debug__" : Str)) = false := by decide) (he : starEach [.Name x px] X.env = (false, eval (.Name x px) X.env) :: starEach [] X.env := by rfl) (hpl : (backTo pos (starEach [] X.env)).any (·.1) = false := by rfl) :
    SE X W S (.Call (.Name f pf) [.Name x px] [] pos) (kE (.lst (sortG (es.map fun e => D.str e.1)))) .fre := by
  obtain ⟨a, arr, n, hm, kdd, hv2, hk⟩ := h.ex
  refine ⟨peMono (pe_callB (cr_sortR hc hu) hgf hmf hv (pa_cons (pe_glob (v := .ref a) hg hm rfl hd) pa_nil he) hn hdf he hpl) fun σ H Q ⟨F, T, O, ft, r, p⟩ => ?_⟩
  have ka : KeysAt X H a ((es.map fun e => ((V.str e.1, D.str e.1) : V × D)).map Prod.fst) := by
    refine ⟨kdd.low, by simp; exact sizeLine_le (by omega), fun pins σ s I => ⟨arr, n, ⟨_, I.kIn _ _ kdd.at_, ⟨rfl, rfl, rfl⟩, rfl⟩, ?_⟩⟩
    rw [List.map_map]
    exact hv2
  have h2 : (es.map fun e => ((V.str e.1, D.str e.1) : V × D)).map Prod.snd = es.map fun e => D.str e.1 := by rw [List.map_map]; rfl
  show rSortR X [V.ref a] H Q
  refine ⟨a, es.map fun e => ((V.str e.1, D.str e.1) : V × D), rfl, ka.gath, strs_dp, by rw [h2]; exact ok, ?_⟩
  have y : RepL F.g (fz H O) (((es.map fun e => ((V.str e.1, D.str e.1) : V × D)).mergeSort leV).map Prod.fst) (sortG (es.map fun e => D.str e.1)) := by
    have w := sort_snd (es.map fun e => ((V.str e.1, D.str e.1) : V × D))
    rw [h2] at w
    rw [← w]
    refine repL_of fun pr hp => ?_
    obtain ⟨e, _, rfl⟩ := List.mem_map.mp ((List.mergeSort_perm _ _).mem_iff.mp hp)
    exact .str _
  have p : Po X W S .fre F H O (.ok (.lst (sortG (es.map fun e => D.str e.1))) T) Q := p
  exact new_lstO r y fun v H' O' r' l' q' => p v H' O' r' l' q'
def sorted6D (ds : List Ev.D) : Option Ev.D := match ds with
  | [.tup l] => match intsOf l with
    | some ns => some (.lst ((sortI ns).map .int))
    | none => if okSrt l then some (.lst (sortG l)) else none
  | ds => sorted4D ds
theorem leP_int (x y : Int) : leP (.int x) (.int y) = decide (x ≤ y) := by
  have e : ltP (.int y) (.int x) = decide (y < x) := by
    unfold ltP pd
    unfold toP
    show PySem.W.dataLt (.int y) (.int x) = _
    exact PySem.W.dataLt_int y x
  unfold leP
  rw [e]
  by_cases h : x ≤ y
  · rw [decide_eq_true h, decide_eq_false (by omega)]; rfl
  · rw [decide_eq_false h, decide_eq_true (by omega)]; rfl
theorem insG_int (x : Int) : ∀ l : List Int, insG (.int x) (l.map .int) = (insI x l).map .int
  | [] => rfl
  | y :: l => by
    show (if leP (.int x) (.int y) = true then _ else _) = _
    rw [leP_int]
    unfold insI
    by_cases h : x ≤ y
    · rw [if_pos (by simpa using h), if_pos h]; rfl
    · rw [if_neg (by simpa using h), if_neg h]
      show D.int y :: insG (.int x) (l.map .int) = _
      rw [insG_int x l]; rfl
theorem sortG_int : ∀ l : List Int, sortG (l.map .int) = (sortI l).map .int
  | [] => rfl
  | x :: l => by
    show insG (.int x) (sortG (l.map .int)) = (insI x (sortI l)).map .int
    rw [sortG_int l, insG_int]
theorem okC_int (x y : Int) : okC (.int x) (.int y) = true := by
  unfold okC
  unfold toP
  rfl
theorem okSrt_int (l : List Int) : okSrt (l.map .int) = true := by
  unfold okSrt okA
  rw [Bool.and_eq_true, Bool.or_eq_true]
  refine ⟨List.all_eq_true.mpr fun d hd => List.all_eq_true.mpr fun e he => ?_, .inr (List.all_eq_true.mpr fun d hd => ?_)⟩
  · obtain ⟨x, _, rfl⟩ := List.mem_map.mp hd
    obtain ⟨y, _, rfl⟩ := List.mem_map.mp he
    exact okC_int x y
  · obtain ⟨x, _, rfl⟩ := List.mem_map.mp hd
    rfl
theorem ints_eq : ∀ {ds : List Ev.D} {ns : List Int}, intsOf ds = some ns → ds = ns.map .int
  | [], ns, h => by cases h; rfl
  | .int i :: ds, ns, h => by
    cases e : intsOf ds with
    | none => have h : (intsOf ds).map (i :: ·) = some ns := h; rw [e] at h; cases h
    | some l =>
      have h : (intsOf ds).map (i :: ·) = some ns := h
      rw [e] at h
      cases h
      rw [ints_eq e]; rfl
  | .non :: _, _, h | .bl _ :: _, _, h | .str _ :: _, _, h | .tup _ :: _, _, h | .lst _ :: _, _, h | .scr _ :: _, _, h | .dct _ _ :: _, _, h | .tape :: _, _, h | .pin _ :: _, _, h | .prm _ :: _, _, h | .fnc _ :: _, _, h => by cases h
theorem o_sorted6 : OpNS X S (fun xs H Q => (rSortedI X.K xs H Q ∨ rSortG X xs H Q) ∨ rSortR X xs H Q) sorted6D .fre := fun F T H O vs ds d Q hK hw r q1 e k => by
  unfold sorted6D at e
  split at e
  · rename_i l
    obtain ⟨v, rfl, q⟩ := rbl1 q1
    obtain ⟨p, ws, rfl, a, b⟩ := rb_tup q
    have core : okSrt l = true → d = .lst (sortG l) → rSortR X [.ref p] H Q := fun ok ed => by
      subst ed
      obtain ⟨z1, z2, z3⟩ := repL_zip b
      have oa := ok
      unfold okSrt at oa
      rw [Bool.and_eq_true] at oa
      rw [hK] at a
      refine ⟨p, ws.zip l, rfl, by rw [z1]; exact tup_gath a, fun pr hp => ?_, by rw [z2]; exact ok, ?_⟩
      · have m : pr.2 ∈ l := by rw [← z2]; exact List.mem_map.mpr ⟨pr, hp, rfl⟩
        have t := (okC_pd (okA_mem oa.1 _ m _ m)).2.2.2
        have := Rep.dp ((z3 pr hp).le fz_le) t
        rw [hK] at this
        exact this
      · have y : RepL F.g (fz H O) (((ws.zip l).mergeSort leV).map Prod.fst) (sortG l) := by
          have w := sort_snd (ws.zip l)
          rw [z2] at w
          rw [← w]
          exact repL_of fun pr hp => z3 pr ((List.mergeSort_perm _ _).mem_iff.mp hp)
        exact new_lstO r y k
    split at e
    · rename_i ns hn
      have el := ints_eq hn
      refine .inr (core (by rw [el]; exact okSrt_int ns) ?_)
      rw [el, sortG_int]
      exact (Option.some.inj e).symm
    · split at e
      · rename_i ok
        exact .inr (core ok (Option.some.inj e).symm)
      · cases e
  · exact .inl (o_sorted4 F T H O vs _ d Q hK hw r q1 e k)
theorem cr_sorted6 (hc : X.calm = true) (hu : X.A.units + 65 < cLine) : CallR X (.builtin "sorted") (fun xs H Q => (rSortedI X.K xs H Q ∨ rSortG X xs H Q) ∨ rSortR X xs H Q) := by
  intro pins s σ H xs us Q I r h
  rcases h with h | h
  · exact cr_sorted4 hu pins s σ H xs us Q I r h
  · exact cr_sortR hc hu pins s σ H xs us Q I r h
theorem _root_.L2.V.rel_int (i : Int) (t : Tok) : RelV (.int i) (.int i t) := ⟨t, rfl⟩
theorem _root_.L2.V.rel_str (i : Str) (t : Tok) : RelV (.str i) (.str i t) := ⟨t, rfl⟩
theorem repT_K {K : PySem.W.Frag} {q : Addr} {o : Obj} {its : Array Value} {n : Nat} {vs : List V} {ds : List Ev.D} (hl : K.lookup q = some o) (hc : o.cls = .type "tuple") (hd : o.data = .seq its n) (hs : its.size ≤ sizeLine) (hv : Vals vs its.toList) (hf : flats vs ds) : ∀ (g : Gh) (H : Hp), g.K = K → Rep g H (.ref q) (.tup ds) :=
  fun g H hK => .tup (.inr ⟨o, its, n, by rw [hK]; exact hl, hc, hd, hs, hv⟩) (flats_rep hf)
end
end Ev

/-! Ev: tuple * int, any int -/
namespace L2
open PySem PySem.Spec PyProof.Rows
theorem tuple_mul_same (l : Addr) (items : Array Value) (n : Nat) (dd : Option Addr) (sl : Array (Option Value)) (x : Int) (u : Tok) (c0 : (decide (x < -(2 ^ 63)) || decide (x ≥ 2 ^ 63)) = false) (c1 : (items.isEmpty || x == 1) = true) :
    Meets (Builtin.«tuple.__mul__» ⟨[.ref l, .int x u], []⟩) (fun _ R s => s.heap.get? l = some { cls := .type "tuple", dict := dd, data := .seq items n, slots := sl } ∧
      R (.ok (.ret (Value.ref l))) s) :=
  .of_wp fun prog w A R s h => by
    obtain ⟨hp, g, d, tk, os⟩ := s
    obtain ⟨hl, h⟩ := h
    have f1 := AutoSeq1.idx_int
    wp_walk using wpAny_loadPart' hl
    repeat (first
      | (refine wpAny_ite_false (decide_eq_false (by rw [c0]; exact Bool.false_ne_true)) ?_; wp_walk using wpAny_loadPart' hl)
      | (refine wpAny_ite_true (decide_eq_true c1) ?_; wp_walk using wpAny_loadPart' hl))
    all_goals first | exact ⟨_, rfl, h⟩ | skip
theorem tuple_mul_none (l : Addr) (items : Array Value) (n : Nat) (dd : Option Addr) (sl : Array (Option Value)) (x : Int) (u : Tok) (c0 : (decide (x < -(2 ^ 63)) || decide (x ≥ 2 ^ 63)) = false) (c1 : (items.isEmpty || x == 1) = false) (c2 : (decide (x ≤ 0) || items.isEmpty) = true) :
    Meets (Builtin.«tuple.__mul__» ⟨[.ref l, .int x u], []⟩) (fun _ R s => s.heap.get? l = some { cls := .type "tuple", dict := dd, data := .seq items n, slots := sl } ∧
      R (.ok (.ret (Value.ref s.heap.objs.size))) { s with heap := s.heap.push { cls := Value.type "tuple", data := Data.seq #[] }, toks := s.toks }) :=
  .of_wp fun prog w A R s h => by
    obtain ⟨hp, g, d, tk, os⟩ := s
    obtain ⟨hl, h⟩ := h
    have f1 := AutoSeq1.idx_int
    wp_walk using wpAny_loadPart' hl
    repeat (first
      | (refine wpAny_ite_false (decide_eq_false (by rw [c0]; exact Bool.false_ne_true)) ?_; wp_walk using wpAny_loadPart' hl)
      | (refine wpAny_ite_false (decide_eq_false (by rw [c1]; exact Bool.false_ne_true)) ?_; wp_walk using wpAny_loadPart' hl)
      | (refine wpAny_ite_true (decide_eq_true c2) ?_; wp_walk using wpAny_loadPart' hl))
    all_goals first | exact ⟨_, rfl, h⟩ | skip
end L2
namespace L2
open PySem PySem.Spec PyProof.Rows
def rRepU (K : PySem.W.Frag) : R2 := fun x y H Q => ∃ l k xs, x = .ref l ∧ y = .int k ∧ SqT K H l xs ∧ -(2 ^ 62) ≤ k ∧ k < 2 ^ 62 ∧ (((xs = [] ∨ k = 1) ∧ Q (.ref l) H) ∨ ((xs ≠ [] ∧ k ≤ 0) ∧ ∀ p, H p = none → Q (.ref p) (upd H p (.tup []))))
section
variable {X : Cx}
theorem op_repU : OpR X (binaryOp .Mult) (rRepU X.K) := by
  intro pins s σ H x y v u Q I rx ry h
  obtain ⟨l, k, xs, rfl, rfl, hT, h1, h2, q⟩ := h
  cases rx
  obtain ⟨t, rfl⟩ := ry
  obtain ⟨its, r, ⟨⟨cls, dd, data, sl⟩, ho, hc, n, hd⟩, hs⟩ := I.tuple hT
  simp only at hc hd
  subst hc hd
  have hle : its.length = xs.length := r.length.symm
  have c0 : (decide (k < -(2 ^ 63)) || decide (k ≥ 2 ^ 63)) = false := by
    rw [decide_eq_false (by omega), decide_eq_false (by omega)] <;> rfl
  have hemp : its.toArray.isEmpty = decide (xs = []) := by
    cases its with
    | nil =>
      have : xs = [] := List.eq_nil_of_length_eq_zero hle.symm
      rw [this]; rfl
    | cons a b =>
      have : xs ≠ [] := fun e => by rw [e] at hle; cases hle
      rw [decide_eq_false this]; rfl
  rcases q with ⟨hq, q⟩ | ⟨⟨hn, hk⟩, q⟩
  · have c1 : (its.toArray.isEmpty || k == 1) = true := by
      rcases hq with z | z
      · rw [hemp, decide_eq_true z]; rfl
      · rw [z]; simp
    refine wpAny_binaryOp_repeat_ref (T := "tuple") (U := "int") (by decide) ⟨_, ho, rfl⟩ (fun s' => typeIs_int s' k t) noFill_tuple_mul PySem.F.fills_int_mul PySem.F.slot_int_rmul repeat_tuple PySem.F.slot_int_index.lookup
      (call_meets PySem.F.slot_int_rmul (typeIs_int s k t) PySem.F.entry_int_rmul (PySem.F.args_int_rmul_2 _ _) (int_rmul_tuple k t l its.toArray n dd sl)
        ⟨ho, rfl, ⟨_, ho, rfl⟩, call_meets PySem.F.slot_tuple_mul ⟨_, ho, rfl⟩ PySem.F.entry_tuple_mul (PySem.F.args_tuple_mul_2 _ _) (tuple_mul_same l its.toArray n dd sl k t c0 c1) ⟨ho, ?_⟩⟩)
    exact ⟨.ref l, H, I, rfl, q⟩
  · have c1 : (its.toArray.isEmpty || k == 1) = false := by
      rw [hemp, decide_eq_false hn, Bool.false_or]
      exact beq_eq_false_iff_ne.mpr (by omega)
    have c2 : (decide (k ≤ 0) || its.toArray.isEmpty) = true := by rw [decide_eq_true hk]; rfl
    refine wpAny_binaryOp_repeat_ref (T := "tuple") (U := "int") (by decide) ⟨_, ho, rfl⟩ (fun s' => typeIs_int s' k t) noFill_tuple_mul PySem.F.fills_int_mul PySem.F.slot_int_rmul repeat_tuple PySem.F.slot_int_index.lookup
      (call_meets PySem.F.slot_int_rmul (typeIs_int s k t) PySem.F.entry_int_rmul (PySem.F.args_int_rmul_2 _ _) (int_rmul_tuple k t l its.toArray n dd sl)
        ⟨ho, rfl, ⟨_, ho, rfl⟩, call_meets PySem.F.slot_tuple_mul ⟨_, ho, rfl⟩ PySem.F.entry_tuple_mul (PySem.F.args_tuple_mul_2 _ _) (tuple_mul_none l its.toArray n dd sl k t c0 c1 c2) ⟨ho, ?_⟩⟩)
    refine ⟨.ref s.heap.objs.size, _, I.laid (t' := s.toks) (o := .tup []) (fun b ob q => Heap.get?_push_of_some _ q) (Nat.le_refl _) ?_, rfl, q _ (I.hok.fresh (Nat.le_refl _))⟩
    exact ⟨Nat.zero_le _, [], .nil, IsTup.new _ _⟩
end
end L2
namespace Ev
open PySem PySem.Spec PyProof.Rows L2
def repTD : D → D → Option D
  | .tup a, .int k => if decide (-(2 ^ 62) ≤ k) && decide (k ≤ 1000) && decide (a.length ≤ 1000) then some (.tup (List.replicate k.toNat a).flatten) else none
  | _, _ => none
section
variable {X : Cx} {S : List Nat}
theorem op_repTA : OpR X (binaryOp .Mult) (fun x y H Q => rRepT X.K x y H Q ∨ rRepU X.K x y H Q) := opOr op_repT op_repU
theorem o_repT : Op2S X S (fun x y H Q => rRepT X.K x y H Q ∨ rRepU X.K x y H Q) repTD .fro := fun F T H O v1 v2 d1 d2 d Q hK _ r q1 q2 e k => by
  unfold repTD at e
  split at e
  · split at e
    · rename_i a i hl
      cases e
      obtain ⟨p, vs, rfl, a1, b1⟩ := rb_tup q1
      have q1' := q1
      rw [hK] at a1
      rw [rb_int q2]
      simp only [Bool.and_eq_true, decide_eq_true_eq] at hl
      obtain ⟨⟨l1, l2⟩, l3⟩ := hl
      have hln := b1.len
      by_cases he : vs = [] ∨ i = 1
      · refine .inr ⟨p, i, vs, rfl, rfl, a1, l1, by omega, .inl ⟨he, ?_⟩⟩
        have ed : (List.replicate i.toNat a).flatten = a := by
          rcases he with z | z
          · have : a = [] := List.eq_nil_of_length_eq_zero (by rw [← hln, z]; rfl)
            rw [this]
            induction i.toNat with
            | zero => rfl
            | succ n ih => rw [List.replicate_succ, List.flatten_cons, ih]; rfl
          · rw [z]
            show (List.replicate 1 a).flatten = a
            simp
        rw [ed] at k
        exact k _ H O r (Le.refl _) q1'
      · have hn : vs ≠ [] := fun z => he (.inl z)
        have h1 : i ≠ 1 := fun z => he (.inr z)
        by_cases hk : i ≤ 0
        · refine .inr ⟨p, i, vs, rfl, rfl, a1, l1, by omega, .inr ⟨⟨hn, hk⟩, ?_⟩⟩
          have ed : i.toNat = 0 := by omega
          rw [ed] at k
          exact new_tup r .nil k
        · exact .inl ⟨p, i, vs, rfl, rfl, a1, hn, by omega, l2, by rw [hln]; exact l3, new_tup r (b1.flatten_rep _) k⟩
    · cases e
  · cases e
end
end Ev

/-! Ev: walks over a dict's keys -/
namespace Ev
open PySem PySem.Spec PyProof.Rows L2
/-- the keys of the dict at a -/
def KeysH (H : Hp) (a : Addr) (ks : List V) : Prop := (a == sysModules) = false ∧ ∃ ar ep, H a = some (PinD a ar ep) ∧ Vals ks (ar.toList.map (·.key))
def ValsH (H : Hp) (a : Addr) (vs : List V) : Prop := (a == sysModules) = false ∧ ∃ ar ep, H a = some (PinD a ar ep) ∧ Vals vs (ar.toList.map (·.val))
theorem pairs_kv {P : Program} {w : World} : ∀ {es : List DictEntry} {l : List (L2.Key × Value)}, Pairs (mixKind P w) es l → Vals (l.map fun p => kV p.1) (es.map (·.key)) ∧ es.map (·.val) = l.map (·.2)
  | _, _, .nil => ⟨.nil, rfl⟩
  | e :: es, kv :: l, .cons h1 h2 h3 => by
    obtain ⟨a, b⟩ := pairs_kv h3
    refine ⟨.cons ?_ a, ?_⟩
    · show RelV (kV kv.1) e.key
      rcases keyIs_shape h1 with ⟨i, t, e1, e2⟩ | ⟨x, t, e1, e2⟩
      · rw [e1, e2]; exact ⟨t, rfl⟩
      · rw [e1, e2]; exact ⟨t, rfl⟩
    · show e.val :: es.map (·.val) = kv.2 :: l.map (·.2)
      rw [h2, b]
theorem core_kv {w : World} {t : Bool} {ar : Array DictEntry} {kds : List D} {ks vs : List V} (P : Program) (h : Core w t ar kds ks vs) : Vals ks (ar.toList.map (·.key)) ∧ Vals vs (ar.toList.map (·.val)) := by
  cases t with
  | false =>
    obtain ⟨l, h1, _, _, rfl, hv⟩ := h
    obtain ⟨a, b⟩ := pairs_kv (h1 P).2
    exact ⟨a, by rw [b]; exact hv⟩
  | true =>
    obtain ⟨xs, h1, _, _, rfl, hv⟩ := h
    rw [h1 P, List.map_map, List.map_map]
    refine ⟨?_, hv⟩
    have : ∀ l : List (NestedKey × Addr × Value), Vals (l.map fun x => V.ref x.2.1) (l.map ((·.key) ∘ entryOfKey (nestedKind P w))) := fun l => by
      induction l with
      | nil => exact .nil
      | cons x l ih => exact .cons rfl ih
    exact this xs
theorem dh_kv {w : World} {a : Addr} {t : Bool} {o : HO} {kds : List D} {us : List V} {H : Hp} (P : Program) (ho : H a = some o) (h : DH w a t o kds us) : ∃ ks vs, us = ks ++ vs ∧ ks.length = kds.length ∧ KeysH H a ks ∧ ValsH H a vs := by
  obtain ⟨ar, ep, ks, vs, rfl, hs, hz, rfl, z⟩ := h
  obtain ⟨a1, a2⟩ := core_kv P z
  have hk : ks.length = kds.length := by
    cases t with
    | false => obtain ⟨l, _, _, rfl, rfl, _⟩ := z; simp
    | true =>
      obtain ⟨xs, _, _, e, rfl, _⟩ := z
      have := congrArg List.length e
      simpa using this.symm
  exact ⟨ks, vs, rfl, hk, ⟨hs, ar, ep, ho, a1⟩, ⟨hs, ar, ep, ho, a2⟩⟩
section
variable {X : Cx} {pins : List (Addr × Obj)} {σ : L2.St} {H : Hp} {s : Shared} {a : Addr} {ks ks' : List V}
theorem raw_inj {h : Heap} {ar ar' : Array DictEntry} {ep ep' : Nat} (x : h.DictRaw a ar ep) (y : h.DictRaw a ar' ep') : ar = ar' := by
  obtain ⟨o, h1, _, h2⟩ := x
  obtain ⟨o', h1', _, h2'⟩ := y
  rw [h1] at h1'
  cases h1'
  rw [h2] at h2'
  injection h2' with e1 _
theorem KeysH.inj (I : Inv X pins σ H s) (h : KeysH H a ks) (h' : KeysH H a ks') : ks = ks' := by
  obtain ⟨_, ar, ep, e, r⟩ := h
  obtain ⟨_, ar', ep', e', r'⟩ := h'
  have := raw_inj (raw_at I e) (raw_at I e')
  subst this
  exact r.inj r'
theorem ValsH.inj (I : Inv X pins σ H s) (h : ValsH H a ks) (h' : ValsH H a ks') : ks = ks' := by
  obtain ⟨_, ar, ep, e, r⟩ := h
  obtain ⟨_, ar', ep', e', r'⟩ := h'
  have := raw_inj (raw_at I e) (raw_at I e')
  subst this
  exact r.inj r'
end
section
variable {X : Cx} {W : WX} {S : List Nat}
theorem KeysH.at_ {H : Hp} {a : Addr} {ks : List V} (h : KeysH H a ks) (hz : ks.length ≤ sizeLine) : KeysAt X H a ks := ⟨h.1, hz, fun pins σ s I => by
  obtain ⟨_, ar, ep, e, r⟩ := h
  exact ⟨ar, ep, raw_at I e, r⟩⟩
/-- a dict that may be read: its keys stand there -/
theorem dct_keys {g : Gh} {H : Hp} {O : Addr → Prop} {v : V} {t : Bool} {es : List (D × D)} (P : Program) (h : RepB g H O v (.dct t es)) : ∃ p ks, v = .ref p ∧ KeysH H p ks ∧ RepL g (fz H O) ks (es.map Prod.fst) ∧ ks.length ≤ sizeLine := by
  obtain ⟨p, o, us, rfl, ho, q, r⟩ := h
  have hz : us.length ≤ 2 * sizeLine ∧ ∃ ar : Array DictEntry, ar.size ≤ sizeLine ∧ es.length = ar.size := by
    obtain ⟨ar, ep, ks, vs, rfl, hs, hz, rfl, z⟩ := id q
    obtain ⟨a1, a2⟩ := core_kv P z
    have l1 : ks.length = ar.size := by simpa using a1.length
    have l2 : vs.length = ar.size := by simpa using a2.length
    refine ⟨by rw [List.length_append]; omega, ar, hz, ?_⟩
    have := r.len
    unfold flE at this
    simp only [List.length_append, List.length_map] at this
    omega
  obtain ⟨_, ar, h1, h2⟩ := hz
  obtain ⟨ks, vs, rfl, hk, kh, _⟩ := dh_kv P ho q
  obtain ⟨r1, _⟩ := RepL.split (as := es.map Prod.fst) (bs := es.map Prod.snd) hk r
  exact ⟨p, ks, rfl, kh, r1, by rw [hk, List.length_map]; omega⟩
def sorted7D (ds : List D) : Option D := match ds with
  | [.dct _ es] => if okSrt (es.map Prod.fst) then some (.lst (sortG (es.map Prod.fst))) else none
  | ds => sorted6D ds
theorem o_sorted7 : OpNS X S (fun xs H Q => (rSortedI X.K xs H Q ∨ rSortG X xs H Q) ∨ rSortR X xs H Q) sorted7D .fre := fun F T H O vs ds d Q hK hw r q1 e k => by
  unfold sorted7D at e
  split at e
  · rename_i t es
    split at e
    · rename_i ok
      cases e
      obtain ⟨v, rfl, q⟩ := rbl1 q1
      obtain ⟨p, ks, rfl, kh, b, hz⟩ := dct_keys X.prog q
      obtain ⟨z1, z2, z3⟩ := repL_zip b
      have oa := ok
      unfold okSrt at oa
      rw [Bool.and_eq_true] at oa
      refine .inr ⟨p, ks.zip (es.map Prod.fst), rfl, by rw [z1]; exact (kh.at_ hz).gath, fun pr hp => ?_, by rw [z2]; exact ok, ?_⟩
      · have m : pr.2 ∈ es.map Prod.fst := by rw [← z2]; exact List.mem_map.mpr ⟨pr, hp, rfl⟩
        have t := (okC_pd (okA_mem oa.1 _ m _ m)).2.2.2
        have := Rep.dp ((z3 pr hp).le fz_le) t
        rw [hK] at this
        exact this
      · have y : RepL F.g (fz H O) (((ks.zip (es.map Prod.fst)).mergeSort leV).map Prod.fst) (sortG (es.map Prod.fst)) := by
          have w := sort_snd (ks.zip (es.map Prod.fst))
          rw [z2] at w
          rw [← w]
          exact repL_of fun pr hp => z3 pr ((List.mergeSort_perm _ _).mem_iff.mp hp)
        exact new_lstO r y k
    · cases e
  · exact o_sorted6 F T H O vs _ d Q hK hw r q1 e k
/-- list(d) -/
def list6D (ds : List D) : Option D := match ds with
  | [.dct _ es] => some (.lst (es.map Prod.fst))
  | ds => listOfD ds
def rList6 (X : Cx) : List V → Hp → VK → Prop := fun xs H Q => (∃ p ys, xs = [.ref p] ∧ (SqL X.K H p ys ∨ SqT X.K H p ys) ∧ ∀ l, H l = none → Q (.ref l) (upd H l (.lst ys))) ∨ rListR X xs H Q
theorem cr_list6 (hc : X.calm = true) : CallR X (.type "list") (rList6 X) := by
  intro pins s σ H xs us Q I r h
  rcases h with h | h
  · exact call_list_of pins s σ H xs us Q I r h
  · exact cr_listR hc pins s σ H xs us Q I r h
theorem o_list6 : OpNS X S (rList6 X) list6D .fre := fun F T H O vs ds d Q hK hw r q1 e k => by
  unfold list6D at e
  split at e
  · rename_i t es
    cases e
    obtain ⟨v, rfl, q⟩ := rbl1 q1
    obtain ⟨p, ks, rfl, kh, b, hz⟩ := dct_keys X.prog q
    exact .inr ⟨p, ks, rfl, kh.at_ hz, new_lstO r b k⟩
  · exact .inl (o_listOf F T H O vs _ d Q hK hw r q1 e k)
/-! ### x is True, x is False: of truth values -/
def is6D (d e : D) : Option D := match d, e with
  | .bl a, .bl b => some (.bl (decide (a = b)))
  | d, e => isD d e
def isn6D (d e : D) : Option D := match d, e with
  | .bl a, .bl b => some (.bl (!decide (a = b)))
  | d, e => isnD d e
theorem op_is6 : OpR X (compareOp .Is) (fun x y H Q => (∃ a b, x = .bl a ∧ y = .bl b ∧ Q (.bl (decide (a = b))) H) ∨ (y = .non ∧ Q (.bl (decide (x = .non))) H)) := opOr op_is_bl op_isN
theorem op_isn6 : OpR X (compareOp .IsNot) (fun x y H Q => (∃ a b, x = .bl a ∧ y = .bl b ∧ Q (.bl (!decide (a = b))) H) ∨ (y = .non ∧ Q (.bl (!decide (x = .non))) H)) := opOr op_isnot_bl op_notN
theorem o_is6 : Op2S X S (fun x y H Q => (∃ a b, x = .bl a ∧ y = .bl b ∧ Q (.bl (decide (a = b))) H) ∨ (y = .non ∧ Q (.bl (decide (x = .non))) H)) is6D .fro := fun F T H O v1 v2 d1 d2 d Q hK hw r q1 q2 e k => by
  unfold is6D at e
  split at e
  · rename_i a b
    cases e
    have a1 : Rep F.g (fz H O) v1 (.bl a) := q1
    have a2 : Rep F.g (fz H O) v2 (.bl b) := q2
    cases a1
    cases a2
    exact .inl ⟨a, b, rfl, rfl, k _ H O r (Le.refl _) (.bl _)⟩
  · exact .inr (o_is F T H O v1 v2 d1 d2 d Q hK hw r q1 q2 e k)
theorem o_isn6 : Op2S X S (fun x y H Q => (∃ a b, x = .bl a ∧ y = .bl b ∧ Q (.bl (!decide (a = b))) H) ∨ (y = .non ∧ Q (.bl (!decide (x = .non))) H)) isn6D .fro := fun F T H O v1 v2 d1 d2 d Q hK hw r q1 q2 e k => by
  unfold isn6D at e
  split at e
  · rename_i a b
    cases e
    have a1 : Rep F.g (fz H O) v1 (.bl a) := q1
    have a2 : Rep F.g (fz H O) v2 (.bl b) := q2
    cases a1
    cases a2
    exact .inl ⟨a, b, rfl, rfl, k _ H O r (Le.refl _) (.bl _)⟩
  · exact .inr (o_isn F T H O v1 v2 d1 d2 d Q hK hw r q1 q2 e k)
end
end Ev

/-! Ev: walks over a dict: its keys, its values, its items -/
namespace Ev
open PySem PySem.Spec PyProof.Rows L2
/-- the dict stands as it stood, ks are its keys (or its values) -/
def Itdk (a : Addr) (ar : Array DictEntry) (ep : Nat) (ks : List V) : It :=
  ⟨fun n H => H a = some (PinD a ar ep) ∧ n < ar.size, fun n H v H' => H' = H ∧ ks[n]? = some v, fun n H => H a = some (PinD a ar ep) ∧ n = ar.size⟩
def Itdi (a : Addr) (ar : Array DictEntry) (ep : Nat) (ks vs : List V) : It :=
  ⟨fun n H => H a = some (PinD a ar ep) ∧ n < ar.size, fun n H v H' => ∃ p x y, v = .ref p ∧ H p = none ∧ H' = upd H p (.tup [x, y]) ∧ ks[n]? = some x ∧ vs[n]? = some y, fun n H => H a = some (PinD a ar ep) ∧ n = ar.size⟩
theorem vals_at {ks : List V} {f : DictEntry → Value} {ar : Array DictEntry} {i : Nat} (h : Vals ks (ar.toList.map f)) (hi : i < ar.size) : ∃ v, ks[i]? = some v ∧ RelV v (f ar[i]) := by
  have hl := h.length
  have hk : i < ks.length := by
    rw [hl, List.length_map]
    simpa using hi
  refine ⟨ks[i], List.getElem?_eq_getElem hk, ?_⟩
  obtain ⟨u, hu, ru⟩ := h.get (List.getElem?_eq_getElem hk)
  rw [List.getElem?_map] at hu
  have : ar.toList[i]? = some ar[i] := by rw [Array.getElem?_toList]; exact Array.getElem?_eq_getElem hi
  rw [this] at hu
  cases hu
  exact ru
section
variable {P : Program} {w : World} {K : PySem.W.Frag} {tg : Expr} {a it : Addr} {ar : Array DictEntry} {ep : Nat} {ks vs : List V}
theorem turn_dkeys (hv : Vals ks (ar.toList.map (·.key))) : Turn P w K tg (Itdk a ar ep ks) [it] it (fun i h => h.IsKeyIter it a i ar.size ep) where
  mem := by simp
  obj := fun i h st b hb => by
    have e : b = it := by simpa using hb
    subst e
    obtain ⟨oi, e, c, dd⟩ := st
    exact ⟨oi, e, fun v z => by rw [dd] at z; cases z⟩
  keep := fun i h h' st k => st.at fun oi e => k it (by simp) oi e
  item := by
    intro X hP hw hK hc i pins s σ H E I hf st hg
    subst hP hw hK
    obtain ⟨hd, hi⟩ := hg
    obtain ⟨f0, f1, f2, f3, f4, f5⟩ := hf it (by simp)
    obtain ⟨x, hx, rx⟩ := vals_at hv hi
    refine wpAny_pyNext_keys_item_raw st (raw_at I hd) hi fun h' st' sb => ?_
    have I1 : Inv X pins σ H { s with heap := h' } := I.turned (t' := s.toks) (fun b ob hb e => (sb.2 b hb).trans e) f0 f1 f3 f4 f5
    obtain ⟨oi, e, c, dd⟩ := id st'
    exact ⟨_, rfl, go_of (s := { s with heap := h' }) e c dd (by decide) ⟨x, H, I1, rx, ⟨rfl, hx⟩, st', fun b hb => (hf b hb).1⟩⟩
  done := by
    intro X hP hw hK hc i pins s σ H E I hf st hg
    subst hP hw hK
    obtain ⟨hd, hi⟩ := hg
    obtain ⟨f0, f1, f2, f3, f4, f5⟩ := hf it (by simp)
    exact wpAny_pyNext_keys_end_raw (I.ok.hd hc) st (raw_at I hd) (Nat.le_of_eq hi.symm) fun h' eb => ⟨rfl, I.turned (t' := s.toks) (fun b ob hb e => eb b ob hb e) f0 f1 f3 f4 f5⟩
  self := fun A i s Q E st h => wpAny_pyIter_keyiter st h
theorem turn_dvals (hv : Vals vs (ar.toList.map (·.val))) : Turn P w K tg (Itdk a ar ep vs) [it] it (fun i h => h.IsValIter it a i ar.size ep) where
  mem := by simp
  obj := fun i h st b hb => by
    have e : b = it := by simpa using hb
    subst e
    obtain ⟨oi, e, c, dd⟩ := st
    exact ⟨oi, e, fun v z => by rw [dd] at z; cases z⟩
  keep := fun i h h' st k => st.at fun oi e => k it (by simp) oi e
  item := by
    intro X hP hw hK hc i pins s σ H E I hf st hg
    subst hP hw hK
    obtain ⟨hd, hi⟩ := hg
    obtain ⟨f0, f1, f2, f3, f4, f5⟩ := hf it (by simp)
    obtain ⟨x, hx, rx⟩ := vals_at hv hi
    refine wpAny_pyNext_values_item_raw st (raw_at I hd) hi fun h' st' sb => ?_
    have I1 : Inv X pins σ H { s with heap := h' } := I.turned (t' := s.toks) (fun b ob hb e => (sb.2 b hb).trans e) f0 f1 f3 f4 f5
    obtain ⟨oi, e, c, dd⟩ := id st'
    exact ⟨_, rfl, go_of (s := { s with heap := h' }) e c dd (by decide) ⟨x, H, I1, rx, ⟨rfl, hx⟩, st', fun b hb => (hf b hb).1⟩⟩
  done := by
    intro X hP hw hK hc i pins s σ H E I hf st hg
    subst hP hw hK
    obtain ⟨hd, hi⟩ := hg
    obtain ⟨f0, f1, f2, f3, f4, f5⟩ := hf it (by simp)
    exact wpAny_pyNext_values_end_raw (I.ok.hd hc) st (raw_at I hd) (Nat.le_of_eq hi.symm) fun h' eb => ⟨rfl, I.turned (t' := s.toks) (fun b ob hb e => eb b ob hb e) f0 f1 f3 f4 f5⟩
  self := fun A i s Q E st h => wpAny_pyIter_valiter st h
theorem turn_ditems {elts : List Expr} {kk : Nat} {tpos : Pos} (hk : Vals ks (ar.toList.map (·.key))) (hv : Vals vs (ar.toList.map (·.val))) :
    Turn P w K (.Tuple elts kk tpos) (Itdi a ar ep ks vs) [it] it (fun i h => ∃ ok ov, IsItemIter h it a i ar.size ep ok ov) where
  mem := by simp
  obj := fun i h st b hb => by
    have e : b = it := by simpa using hb
    subst e
    obtain ⟨ok, ov, e⟩ := st
    exact ⟨_, e, fun v z => nomatch z⟩
  keep := fun i h h' st k => let ⟨ok, ov, e⟩ := st; ⟨ok, ov, k it (by simp) _ e⟩
  item := by
    intro X hP hw hK hc i pins s σ H E I hf st hg
    subst hP hw hK
    obtain ⟨hd, hi⟩ := hg
    obtain ⟨x, hx, rx⟩ := vals_at hk hi
    obtain ⟨y, hy, ry⟩ := vals_at hv hi
    obtain ⟨ok, ov, he⟩ := st
    have hlt : it < s.heap.objs.size := Heap.lt_size he
    refine wpAny_pyNext_items_item_raw he (raw_at I hd) hi fun h' ho hT hz hkp => ?_
    refine ⟨_, rfl, wpAny_letOwnedTupleGo_items (s := { s with heap := h' }) ho fun h'' he' sb => ?_⟩
    have hT2 : h''.get? s.heap.objs.size = some { cls := .type "tuple", data := .seq #[ar[i].key, ar[i].val] } := (sb.2 _ (Nat.ne_of_gt hlt)).trans hT
    have new : ObjOk X.prog X.w (upd H s.heap.objs.size (.tup [x, y])) h'' s.heap.objs.size (.tup [x, y]) :=
      ⟨by show 2 ≤ sizeLine; decide, [ar[i].key, ar[i].val], .cons rx (.cons ry .nil), ⟨_, hT2, rfl, _, rfl⟩⟩
    have I1 : Inv X pins σ (upd H s.heap.objs.size (.tup [x, y])) { s with heap := h'' } :=
      I.turnedNew (t' := s.toks) (ch := [it]) (fun b ob hb e => (sb.2 b (by simpa using hb)).trans (hkp b ob (by simpa using hb) e)) hf (Nat.le_refl _) new
    refine ⟨.ref s.heap.objs.size, _, I1, rfl, ⟨_, x, y, rfl, I.hok.fresh (Nat.le_refl _), rfl, hx, hy⟩, ⟨_, _, he'⟩, fun b hb => ?_⟩
    have e : b = it := by simpa using hb
    rw [e, upd_ne (Nat.ne_of_lt hlt)]
    exact (hf it (by simp)).1
  done := by
    intro X hP hw hK hc i pins s σ H E I hf st hg
    subst hP hw hK
    obtain ⟨hd, hi⟩ := hg
    obtain ⟨f0, f1, f2, f3, f4, f5⟩ := hf it (by simp)
    obtain ⟨ok, ov, he⟩ := st
    exact wpAny_pyNext_items_end_raw (I.ok.hd hc) he (raw_at I hd) (Nat.le_of_eq hi.symm) fun h' eb => ⟨rfl, I.turned (t' := s.toks) (fun b ob hb e => eb b ob hb e) f0 f1 f3 f4 f5⟩
  self := fun A i s Q E st h => let ⟨_, _, e⟩ := st; wpAny_pyIter_itemiter e h
end
/-! ### what is walked -/
/-- a dict that may be walked: a, its entries, its keys' and its values' places -/
def DkH (H : Hp) (a : Addr) (ar : Array DictEntry) (ep : Nat) (ks vs : List V) : Prop :=
  (a == sysModules) = false ∧ H a = some (PinD a ar ep) ∧ Vals ks (ar.toList.map (·.key)) ∧ Vals vs (ar.toList.map (·.val))
def iDk (td : TE) : TI := fun σ H R => td σ H fun x H1 => ∃ a ar ep ks vs, x = .ref a ∧ DkH H1 a ar ep ks vs ∧ R (Itdk a ar ep ks) H1
def iDv (td : TE) : TI := fun σ H R => td σ H fun x H1 => ∃ a ar ep ks vs, x = .ref a ∧ DkH H1 a ar ep ks vs ∧ R (Itdk a ar ep vs) H1
def iDi (td : TE) : TI := fun σ H R => td σ H fun x H1 => ∃ a ar ep ks vs, x = .ref a ∧ DkH H1 a ar ep ks vs ∧ R (Itdi a ar ep ks vs) H1
theorem nodict_raw {h : Heap} {a : Addr} {ar : Array DictEntry} {ep : Nat} (x : h.DictRaw a ar ep) : ∀ b, Value.ref a = .ref b → ∃ ob, h.get? b = some ob ∧ ob.dict = none := fun b e => by
  cases e
  obtain ⟨o, h1, h2, _⟩ := x
  exact ⟨o, h1, h2.2.1⟩
theorem pinD_inj {a : Addr} {ar ar' : Array DictEntry} {ep ep' : Nat} (e : PinD a ar ep = PinD a ar' ep') : ar = ar' := by
  have e : HO.ext (fun h => h.DictRaw a ar ep) = HO.ext (fun h => h.DictRaw a ar' ep') := e
  injection e with e
  have h1 : Heap.DictRaw { objs := Array.replicate (a + 1) { cls := .type "dict", data := .dict ar ep } } a ar ep := by
    refine ⟨{ cls := .type "dict", data := .dict ar ep }, ?_, ⟨rfl, rfl, rfl⟩, rfl⟩
    unfold Heap.get?
    simp
  have h2 := h1
  have e2 := congrFun e { objs := Array.replicate (a + 1) { cls := .type "dict", data := .dict ar ep } }
  exact raw_inj h1 (e2 ▸ h2)
section
variable {X : Cx} {tg e : Expr} {td : TE} {apos cpos : Pos}
theorem pi_dk (he : PE X e td) : PI X tg e (iDk td) := by
  refine ⟨fun pins s σ H R I h => ?_⟩
  refine thn (he.run pins s σ H _ I h) fun u s1 ⟨x, H1, I1, rx, a, ar, ep, ks, vs, ex, ⟨hs, hd, hk, hv⟩, q⟩ => ?_
  subst ex
  obtain rfl : u = Value.ref a := rx
  exact wpAny_pyIter_dict_raw hs (raw_at I1 hd) (pi_one (tk := s1.toks) I1 _ (turn_dkeys hk) ⟨_, Heap.get?_push_size _ rfl, rfl, rfl⟩ q)
theorem pi_dv (he : PE X e td) (hbase : attributeBase e "values" X.env (eval e X.env) = eval e X.env := by rfl) (hline : (apos.endLine == cpos.line) = true := by rfl) : PI X tg (.Call (.Attribute e "values" apos) [] [] cpos) (iDv td) := by
  refine ⟨fun pins s σ H R I h => ?_⟩
  refine wpAny_Call_method (T := "dict") (id := "dict.values") hbase rfl hline F.plainAttrs_dict F.slot_dict_values F.type_dict_values (thn (he.run pins s σ H _ I h) fun u s1 ⟨x, H1, I1, rx, a, ar, ep, ks, vs, ex, ⟨hs, hd, hk, hv⟩, q⟩ => ?_)
  subst ex
  obtain rfl : u = Value.ref a := rx
  have raw := raw_at I1 hd
  refine ⟨raw.typeIs, nodict_raw raw, ?_⟩
  have I2 : Inv X pins σ H1 { s1 with heap := s1.heap.push { cls := .type "dict_values", data := .fields #[.ref a] } } := I1.kept (t' := s1.toks) fun b ob q => Heap.get?_push_of_some _ q
  have fin : wpAny (model X.prog X.w) X.A (pyIter (.ref s1.heap.objs.size)) (PIE X pins σ tg R) X.xe { s1 with heap := s1.heap.push { cls := .type "dict_values", data := .fields #[.ref a] } } :=
    wpAny_pyIter_values_raw (d := a) ⟨_, Heap.get?_push_size _ rfl, rfl, rfl⟩ (raw_at I2 hd) (pi_one (tk := s1.toks) I2 _ (turn_dvals hv) ⟨_, Heap.get?_push_size _ rfl, rfl, rfl⟩ q)
  show wpAny _ _ (callWith cpos (.builtin "dict.values") [.ref a] [] []) _ X.xe s1
  exact method_meetsIn F.slot_dict_values F.entry_dict_values rfl (PySem.evalArgs_none ⟨rfl, raw.typeIs, F.args_dict_values_1 _, _, meets_dict_values_raw a hs, ⟨ar, ep, raw⟩, fin⟩)
theorem pi_di {elts : List Expr} {kk : Nat} {tpos : Pos} (he : PE X e td) (hbase : attributeBase e "items" X.env (eval e X.env) = eval e X.env := by rfl) (hline : (apos.endLine == cpos.line) = true := by rfl) :
    PI X (.Tuple elts kk tpos) (.Call (.Attribute e "items" apos) [] [] cpos) (iDi td) := by
  refine ⟨fun pins s σ H R I h => ?_⟩
  refine wpAny_Call_method (T := "dict") (id := "dict.items") hbase rfl hline F.plainAttrs_dict F.slot_dict_items F.type_dict_items (thn (he.run pins s σ H _ I h) fun u s1 ⟨x, H1, I1, rx, a, ar, ep, ks, vs, ex, ⟨hs, hd, hk, hv⟩, q⟩ => ?_)
  subst ex
  obtain rfl : u = Value.ref a := rx
  have raw := raw_at I1 hd
  refine ⟨raw.typeIs, nodict_raw raw, ?_⟩
  have I2 : Inv X pins σ H1 { s1 with heap := s1.heap.push { cls := .type "dict_items", data := .fields #[.ref a] } } := I1.kept (t' := s1.toks) fun b ob q => Heap.get?_push_of_some _ q
  have fin : wpAny (model X.prog X.w) X.A (pyIter (.ref s1.heap.objs.size)) (PIE X pins σ (.Tuple elts kk tpos) R) X.xe { s1 with heap := s1.heap.push { cls := .type "dict_items", data := .fields #[.ref a] } } :=
    wpAny_pyIter_items_raw (d := a) ⟨_, Heap.get?_push_size _ rfl, rfl, rfl⟩ (raw_at I2 hd) (pi_one (tk := s1.toks) I2 _ (turn_ditems hk hv) ⟨.none, .none, Heap.get?_push_size _ rfl⟩ q)
  show wpAny _ _ (callWith cpos (.builtin "dict.items") [.ref a] [] []) _ X.xe s1
  exact method_meetsIn F.slot_dict_items F.entry_dict_items rfl (PySem.evalArgs_none ⟨rfl, raw.typeIs, F.args_dict_items_1 _, _, meets_dict_items_raw a hs, ⟨ar, ep, raw⟩, fin⟩)
end
/-! ### in D -/
theorem dct_dk {g : Gh} {H : Hp} {O : Addr → Prop} {v : V} {t : Bool} {es : List (D × D)} (P : Program) (h : Rep g (fz H O) v (.dct t es)) : ∃ a ar ep ks vs, v = .ref a ∧ DkH H a ar ep ks vs ∧ fz H O a = some (PinD a ar ep) ∧ ar.size = es.length ∧ RepL g (fz H O) ks (es.map Prod.fst) ∧ RepL g (fz H O) vs (es.map Prod.snd) := by
  cases h with
  | @dct a o us _ _ ho q r =>
    obtain ⟨ar, ep, ks, vs, rfl, hs, hz, rfl, z⟩ := q
    obtain ⟨a1, a2⟩ := core_kv P z
    have l1 : ks.length = ar.size := by simpa using a1.length
    have l2 : vs.length = ar.size := by simpa using a2.length
    have hl := r.len
    unfold flE at hl
    simp only [List.length_append, List.length_map] at hl
    obtain ⟨r1, r2⟩ := RepL.split (as := es.map Prod.fst) (bs := es.map Prod.snd) (by rw [List.length_map]; omega) r
    exact ⟨a, ar, ep, ks, vs, rfl, ⟨hs, fz_le _ _ ho, a1, a2⟩, ho, by omega, r1, r2⟩
theorem pin_in {g : Gh} {H : Hp} {O : Addr → Prop} {a : Addr} {o : HO} {d : D} (r : RepL g (fz H O) [.ref a, .ref a] [d, .pin o]) : Rep g (fz H O) (.ref a) d ∧ fz H O a = some o := by
  cases r with
  | cons q r =>
    cases r with
    | cons q2 _ =>
      cases q2 with
      | pin h => exact ⟨q, h⟩
theorem dk_of {g : Gh} {H : Hp} {O : Addr → Prop} {a : Addr} {ar : Array DictEntry} {ep : Nat} {ks vs : List V} {t : Bool} {es : List (D × D)} (P : Program) (h1 : Vals ks (ar.toList.map (·.key))) (h2 : Vals vs (ar.toList.map (·.val))) (h : Rep g (fz H O) (.ref a) (.dct t es)) (hp : fz H O a = some (PinD a ar ep)) : RepL g (fz H O) ks (es.map Prod.fst) ∧ RepL g (fz H O) vs (es.map Prod.snd) ∧ ar.size = es.length := by
  obtain ⟨a', ar', ep', ks', vs', e, ⟨_, k1, k2, k3⟩, k4, k5, r1, r2⟩ := dct_dk P h
  cases e
  rw [hp] at k4
  have := pinD_inj (Option.some.inj k4)
  subst this
  have e1 := h1.inj k2
  have e2 := h2.inj k3
  subst e1 e2
  exact ⟨r1, r2, k5⟩
theorem sim_dk {g : Gh} {a : Addr} {ar : Array DictEntry} {ep : Nat} {ks vs : List V} {t : Bool} {es : List (D × D)} (P : Program) (k1 : Vals ks (ar.toList.map (·.key))) (k2 : Vals vs (ar.toList.map (·.val))) :
    Sim g (Itdk a ar ep ks) (es.map Prod.fst) [.ref a, .ref a] [.dct t es, .pin (PinD a ar ep)] := fun H O hO r i => by
  obtain ⟨q, hp⟩ := pin_in r
  obtain ⟨r1, r2, hl⟩ := dk_of P k1 k2 q hp
  rw [List.length_map]
  refine ⟨fun hi => ⟨⟨fz_le _ _ hp, by omega⟩, fun x H' ⟨eh, y⟩ => ?_⟩, fun hi => ⟨fz_le _ _ hp, by omega⟩⟩
  have hi2 : i < (es.map Prod.fst).length := by rw [List.length_map]; exact hi
  obtain ⟨v, e1, e2⟩ := r1.get (List.getElem?_eq_getElem hi2)
  rw [y] at e1
  cases e1
  exact ⟨_, List.getElem?_eq_getElem hi2, .inl ⟨eh, e2⟩⟩
theorem sim_dv {g : Gh} {a : Addr} {ar : Array DictEntry} {ep : Nat} {ks vs : List V} {t : Bool} {es : List (D × D)} (P : Program) (k1 : Vals ks (ar.toList.map (·.key))) (k2 : Vals vs (ar.toList.map (·.val))) :
    Sim g (Itdk a ar ep vs) (es.map Prod.snd) [.ref a, .ref a] [.dct t es, .pin (PinD a ar ep)] := fun H O hO r i => by
  obtain ⟨q, hp⟩ := pin_in r
  obtain ⟨r1, r2, hl⟩ := dk_of P k1 k2 q hp
  rw [List.length_map]
  refine ⟨fun hi => ⟨⟨fz_le _ _ hp, by omega⟩, fun x H' ⟨eh, y⟩ => ?_⟩, fun hi => ⟨fz_le _ _ hp, by omega⟩⟩
  have hi2 : i < (es.map Prod.snd).length := by rw [List.length_map]; exact hi
  obtain ⟨v, e1, e2⟩ := r2.get (List.getElem?_eq_getElem hi2)
  rw [y] at e1
  cases e1
  exact ⟨_, List.getElem?_eq_getElem hi2, .inl ⟨eh, e2⟩⟩
def itemL (es : List (D × D)) : List D := es.map fun p => .tup [p.1, p.2]
theorem sim_di {g : Gh} {a : Addr} {ar : Array DictEntry} {ep : Nat} {ks vs : List V} {t : Bool} {es : List (D × D)} (P : Program) (k1 : Vals ks (ar.toList.map (·.key))) (k2 : Vals vs (ar.toList.map (·.val))) :
    Sim g (Itdi a ar ep ks vs) (itemL es) [.ref a, .ref a] [.dct t es, .pin (PinD a ar ep)] := fun H O hO r i => by
  obtain ⟨q, hp⟩ := pin_in r
  obtain ⟨r1, r2, hl⟩ := dk_of P k1 k2 q hp
  unfold itemL
  rw [List.length_map]
  refine ⟨fun hi => ⟨⟨fz_le _ _ hp, by omega⟩, fun x H' ⟨p, x1, y1, ev, np, eh, e3, e4⟩ => ?_⟩, fun hi => ⟨fz_le _ _ hp, by omega⟩⟩
  have hi1 : i < (es.map Prod.fst).length := by rw [List.length_map]; exact hi
  have hi2 : i < (es.map Prod.snd).length := by rw [List.length_map]; exact hi
  obtain ⟨v, e1, q1⟩ := r1.get (List.getElem?_eq_getElem hi1)
  obtain ⟨v2, e2, q2⟩ := r2.get (List.getElem?_eq_getElem hi2)
  rw [e3] at e1
  rw [e4] at e2
  cases e1
  cases e2
  subst ev
  refine ⟨.tup [es[i].1, es[i].2], by rw [List.getElem?_map, List.getElem?_eq_getElem hi]; rfl, .inr ⟨p, .tup [x1, y1], np, eh, ?_⟩⟩
  rw [List.getElem_map] at q1 q2
  exact new_pair np hO q1 q2
/-! ### for x in d, d.values(), d.items() -/
def dvalsD : D → Option (List D)
  | .dct _ es => some (es.map Prod.snd)
  | _ => none
def ditemsD : D → Option (List D)
  | .dct _ es => some (itemL es)
  | _ => none
def items6D : D → Option (List D)
  | .dct _ es => some (es.map Prod.fst)
  | d => itemsD d
def seq6It (c : Ex) : It_ := fun env T => (c env T).bind fun d T => ofO (items6D d) T
def dvalIt (c : Ex) : It_ := fun env T => (c env T).bind fun d T => ofO (dvalsD d) T
def ditemIt (c : Ex) : It_ := fun env T => (c env T).bind fun d T => ofO (ditemsD d) T
section
variable {X : Cx} {W : WX} {S : List Nat} {e tg : Expr} {c : Ex} {apos cpos : Pos}
theorem si_dvals (he : SE X W S e c .fro) (hbase : attributeBase e "values" X.env (eval e X.env) = eval e X.env := by rfl) (hline : (apos.endLine == cpos.line) = true := by rfl) : SI X W S tg (.Call (.Attribute e "values" apos) [] [] cpos) (dvalIt c) := ⟨_, pi_dv he.pe hbase hline, fun F T H O Rr ft r p => by
  refine tE_bindI ft r p fun d T1 v H1 O1 r1 q1 p1 => ?_
  cases hz : dvalsD d with
  | none => rw [hz] at p1; exact False.elim p1
  | some ys =>
    rw [hz] at p1
    cases d with
    | dct t es =>
      cases hz
      have q : Rep F.g (fz H1 O1) v (.dct t es) := q1
      obtain ⟨a, ar, ep, ks, vs, rfl, dk, hp, hl, x1, x2⟩ := dct_dk X.prog q
      refine ⟨a, ar, ep, ks, vs, rfl, dk, ?_⟩
      exact p1 _ H1 O1 [.ref a, .ref a] [.dct t es, .pin (PinD a ar ep)] r1 (Le.refl _) (.cons q (.cons (.pin hp) .nil)) (sim_dv X.prog dk.2.2.1 dk.2.2.2)
    | _ => cases hz⟩
theorem si_ditems {elts : List Expr} {kk : Nat} {tpos : Pos} (he : SE X W S e c .fro) (hbase : attributeBase e "items" X.env (eval e X.env) = eval e X.env := by rfl) (hline : (apos.endLine == cpos.line) = true := by rfl) : SI X W S (.Tuple elts kk tpos) (.Call (.Attribute e "items" apos) [] [] cpos) (ditemIt c) := ⟨_, pi_di he.pe hbase hline, fun F T H O Rr ft r p => by
  refine tE_bindI ft r p fun d T1 v H1 O1 r1 q1 p1 => ?_
  cases hz : ditemsD d with
  | none => rw [hz] at p1; exact False.elim p1
  | some ys =>
    rw [hz] at p1
    cases d with
    | dct t es =>
      cases hz
      have q : Rep F.g (fz H1 O1) v (.dct t es) := q1
      obtain ⟨a, ar, ep, ks, vs, rfl, dk, hp, hl, x1, x2⟩ := dct_dk X.prog q
      refine ⟨a, ar, ep, ks, vs, rfl, dk, ?_⟩
      exact p1 _ H1 O1 [.ref a, .ref a] [.dct t es, .pin (PinD a ar ep)] r1 (Le.refl _) (.cons q (.cons (.pin hp) .nil)) (sim_di X.prog dk.2.2.1 dk.2.2.2)
    | _ => cases hz⟩
theorem si_seq6 (he : SE X W S e c .fro) : SI X W S tg e (seq6It c) := ⟨_, piOr (pi_dk he.pe) (si_seq he).ex.choose_spec.1, fun F T H O Rr ft r p => by
  have side : ∀ (p : PoI X W S F H O (seqIt c F.env T) Rr), (si_seq (tg := tg) he).ex.choose F.σ H Rr := fun p => (si_seq he).ex.choose_spec.2 F T H O Rr ft r p
  cases ec : c F.env T with
  | no =>
    have p : PoI X W S F H O ((c F.env T).bind fun d T => ofO (items6D d) T) Rr := p
    rw [ec] at p; exact False.elim p
  | ex x T1 =>
    have p : PoI X W S F H O ((c F.env T).bind fun d T => ofO (items6D d) T) Rr := p
    rw [ec] at p
    exact .inl ⟨F, T, O, ft, r, by rw [ec]; exact p⟩
  | ok d T1 =>
    have p : PoI X W S F H O ((c F.env T).bind fun d T => ofO (items6D d) T) Rr := p
    rw [ec] at p
    have p : PoI X W S F H O (ofO (items6D d) T1) Rr := p
    have other : items6D d = itemsD d → (iDk (tE X W S c .fro) F.σ H Rr ∨ (si_seq (tg := tg) he).ex.choose F.σ H Rr) := fun e => .inr (side (by
      show PoI X W S F H O ((c F.env T).bind fun d T => ofO (itemsD d) T) Rr
      rw [ec]
      rw [e] at p
      exact p))
    cases d with
    | dct t es =>
      refine .inl ⟨F, T, O, ft, r, ?_⟩
      rw [ec]
      intro v H1 O1 r1 l1 q
      have q : Rep F.g (fz H1 O1) v (.dct t es) := q
      obtain ⟨a, ar, ep, ks, vs, rfl, dk, hp, hl, x1, x2⟩ := dct_dk X.prog q
      refine ⟨a, ar, ep, ks, vs, rfl, dk, ?_⟩
      exact p _ H1 O1 [.ref a, .ref a] [.dct t es, .pin (PinD a ar ep)] r1 l1 (.cons q (.cons (.pin hp) .nil)) (sim_dk X.prog dk.2.2.1 dk.2.2.2)
    | _ => exact other rfl⟩
end
@[simp] theorem items6D_lst (ds : List D) : items6D (.lst ds) = some ds := (rfl)
@[simp] theorem items6D_tup (ds : List D) : items6D (.tup ds) = some ds := (rfl)
@[simp] theorem items6D_dct (t : Bool) (es : List (D × D)) : items6D (.dct t es) = some (es.map Prod.fst) := (rfl)
@[simp] theorem ditemsD_dct (t : Bool) (es : List (D × D)) : ditemsD (.dct t es) = some (itemL es) := (rfl)
@[simp] theorem dvalsD_dct (t : Bool) (es : List (D × D)) : dvalsD (.dct t es) = some (es.map Prod.snd) := (rfl)
@[simp] theorem seq6It_ev (c : Ex) (env : Ve) (T : Tp) : seq6It c env T = (c env T).bind fun d T => ofO (items6D d) T := (rfl)
@[simp] theorem dvalIt_ev (c : Ex) (env : Ve) (T : Tp) : dvalIt c env T = (c env T).bind fun d T => ofO (dvalsD d) T := (rfl)
@[simp] theorem ditemIt_ev (c : Ex) (env : Ve) (T : Tp) : ditemIt c env T = (c env T).bind fun d T => ofO (ditemsD d) T := (rfl)
theorem pr_seq6 {c : Ex} (h : PurE c) : PurL (seq6It c) := fun env => (h env).then fun d => .of _
theorem pr_dval {c : Ex} (h : PurE c) : PurL (dvalIt c) := fun env => (h env).then fun d => .of _
theorem pr_ditem {c : Ex} (h : PurE c) : PurL (ditemIt c) := fun env => (h env).then fun d => .of _
/-- a comprehension in a comprehension -/
theorem lookup_map_cell {c : Str × NameKind → Bool} : ∀ {names : List (Str × NameKind)} {x : Str}, names.lookup x = some .cell ∨ names.lookup x = some .free →
    (names.map fun p => if c p then (p.1, NameKind.cell) else p).lookup x = some .cell ∨ (names.map fun p => if c p then (p.1, NameKind.cell) else p).lookup x = some .free
  | [], x, h => by simp at h
  | (n, k) :: r, x, h => by
    have ih := @lookup_map_cell c r x
    rw [List.map_cons]
    by_cases hx : x = n
    · subst hx
      by_cases hc : c (x, k) = true
      · rw [if_pos hc]
        left
        rw [List.lookup_cons_self]
      · rw [if_neg hc]
        rw [List.lookup_cons_self] at h ⊢
        exact h
    · have hb : (x == n) = false := by simp [hx]
      rw [List.lookup_cons, hb] at h
      by_cases hc : c (n, k) = true
      · rw [if_pos hc, List.lookup_cons, hb]
        exact ih h
      · rw [if_neg hc, List.lookup_cons, hb]
        exact ih h
theorem lookup_relabel {sc : Scope} {env : Env} {x : Str} (h : sc.names.lookup x = some .cell ∨ sc.names.lookup x = some .free) : (relabel sc env).names.lookup x = some .cell ∨ (relabel sc env).names.lookup x = some .free :=
  lookup_map_cell (c := fun p => p.2 == NameKind.free && env.scope.kind == .function && env.kindOf p.1 == some .cell) h
theorem blkOk_in {X : Cx} {s : Shared} {H : Hp} {scope0 scope : Scope} {cl : List (Str × Addr)} {C : Addr} {fp : List Addr} {own : List (Str × Nat)} {N : List Str} (hN : X.N = N) (h : blkC N scope0 scope own = true) :
    BlkOk (X.blk s H scope0 (compEnvC scope0 cl C X.env) fp).N (X.blk s H scope0 (compEnvC scope0 cl C X.env) fp).env.scope scope own := by
  subst hN
  obtain ⟨a, b, c, d, e⟩ := blkOk_by h
  exact ⟨a, b, c, fun y hy z => lookup_relabel (d y hy z), e⟩
end Ev

/-! Ev: repr of the empty dict -/
namespace Ev
open PySem PySem.Spec PyProof.Rows L2
section
variable {X : Cx} {W : WX} {S : List Nat}
def rRepr7 (X : Cx) : List V → Hp → VK → Prop := fun xs H Q => rRepr X xs H Q ∨ ∃ a, xs = [.ref a] ∧ KeysH H a [] ∧ Q (.str (PyData.dict []).shown) H
theorem call_repr7 {k : Nat} (hr : RoomG k X.A) : CallR X (.builtin "repr") (rRepr7 X) := by
  intro pins s σ H xs us Q I r h
  rcases h with h | ⟨a, rfl, ⟨hs, ar, ep, e, hv⟩, q⟩
  · exact call_repr4 hr pins s σ H xs us Q I r h
  · obtain ⟨u, rfl, ru⟩ := vals1 r
    obtain rfl : u = Value.ref a := ru
    have hl := hv.length
    rw [List.length_map] at hl
    have har : ar = #[] := by
      apply Array.eq_empty_of_size_eq_zero
      simpa using hl.symm
    subst har
    obtain ⟨o, h1, h2, h3⟩ := raw_at I e
    have rd : Reads s.heap (.ref a) (.dict []) (a :: [] ++ []) := Reads.dict h1 h2.1 h3 .nil .nil
    have hu : X.A.units + ((PyData.dict []).depth + 1) < cLine := by
      have := hr.un
      have z : (PyData.dict []).depth ≤ 60 := by decide +kernel
      omega
    refine repr_of_reads' rd (by decide +kernel) (fun _ z => ?_) hr.gd hu (fun _ _ e => e) (fun h' u tk hk => ⟨.str _, H, I.kept hk, ⟨_, rfl⟩, q⟩) (by decide +kernel)
    have : sysModules = a := by simpa using z
    rw [this] at hs
    simp at hs
def repr7D (ds : List D) : Option D := match ds with
  | [.dct _ []] => some (.str (PyData.dict []).shown)
  | ds => reprD ds
theorem o_repr7 : OpNS X S (rRepr7 X) repr7D .fro := fun F T H O vs ds d Q hK hw r q1 e k => by
  unfold repr7D at e
  split at e
  · rename_i t
    cases e
    obtain ⟨v, rfl, q⟩ := rbl1 q1
    obtain ⟨p, ks, rfl, kh, b, hz⟩ := dct_keys X.prog q
    cases b
    exact .inr ⟨p, rfl, kh, k _ H O r (Le.refl _) (.str _)⟩
  · exact .inl (o_repr F T H O vs _ d Q hK hw r q1 e k)
end
end Ev

/-! Ev: d.get, tuple(range(..)), several names at once of which some are cells -/
namespace Ev
open PySem PySem.Spec PyProof.Rows L2
section
variable {X : Cx} {W : WX} {S S' Sl : List Nat} {fr : Bool} {e o a b : Expr} {es : List Expr} {c ca cb cc : Ex} {cs : List Ex} {m m1 m2 : Mode} {F : Cf} {T : Tp} {pins : List (Addr × Obj)} {σ : L2.St} {H : Hp} {O : Addr → Prop} {s : Shared}
/-! ### d.get -/
def getD2 (d : D) (ds : List D) : Option D := match d, ds with
  | .dct t es, [k] => match keyD t k with
    | some n => some ((dlook es n).getD .non)
    | none => none
  | .dct t es, [k, x] => match keyD t k with
    | some n => (match dlook es n with
      | some v => some v
      | none => if (flat x).isSome then some x else none)
    | none => none
  | _, _ => none
theorem dlook_isat {k' : L2.Key} {es : List (D × D)} {l : List (L2.Key × Value)} {g : Gh} {Hf : Hp} {vs : List V} (e1 : es.map Prod.fst = l.map (fun p => kD p.1)) (rv : Vals vs (l.map (·.2))) (q2 : RepL g Hf vs (es.map Prod.snd)) :
    (dlook es (kN k') = none ∧ valueAt l k' = none) ∨ ∃ d v u, dlook es (kN k') = some d ∧ valueAt l k' = some u ∧ RelV v u ∧ Rep g Hf v d := kN_look (ds := []) k' e1 rv q2
/-- what d.get(k), d.get(k, x) give, the call -/
theorem d4_dget {Q : Value → Shared → Prop} {E : Value → Shared → Prop} {g : Gh} {t : Bool} {a : Addr} {es : List (D × D)} (hu : X.A.units + 65 < cLine) (I : Inv X pins σ H s) (d : DAt X g H O a t es) {y z : V} {kd zd : D} {u r : Value} {k : NestedKey} (two : Bool) (hy : RepB g H O y kd) (ek : keyD t kd = some k) (ry : RelV y u)
    (rz : RelV z r) (hz : dlook es k = none → Rep g (fz H O) z zd) (h2 : two = false → z = .non ∧ r = .none)
    (h : ∀ v w' s', Inv X pins σ H s' → RelV v w' → Rep g (fz H O) v ((dlook es k).getD zd) → Q w' s') : wpAny (model X.prog X.w) X.A (call (.builtin "dict.get") (if two then [.ref a, u, r] else [.ref a, u])) Q E s := by
  obtain ⟨hK, hw, o, us, ho, q, rp⟩ := d
  obtain ⟨ar, ep, ks, vs, rfl, rfl, hs, hsz, st⟩ := dst_of I hK hw fz_le ho q rp
  have ka := key_at (X := X) I hK hy ek ry
  cases st with
  | @k l _ _ dd _ e1 rv q2 =>
    obtain ⟨k', rfl, _, _, hk⟩ := ka
    have fin : ∀ s', Inv X pins σ H s' → Q ((valueAt l k').getD r) s' := fun s' I' => by
      rcases dlook_isat (k' := k') e1 rv q2 with ⟨z1, z2⟩ | ⟨d, v, u, z1, z2, z3, z4⟩
      · rw [z2]
        have := hz z1
        rw [z1] at h
        exact h z r s' I' rz this
      · rw [z2]
        rw [z1] at h
        exact h v u s' I' z3 z4
    cases two with
    | true => exact call_meetsIn PySem.F.slot_dict_get dd.typeIs PySem.F.entry_dict_get (PySem.F.args_dict_get_3 _ _ _) (meets_dict_get_default (mixKind X.prog X.w) a hk hs r) ⟨_, dd.mapOf, fin _ (I.tok _)⟩
    | false =>
      obtain ⟨_, e⟩ := h2 rfl
      rw [e] at fin
      exact call_meetsIn PySem.F.slot_dict_get dd.typeIs PySem.F.entry_dict_get (PySem.F.args_dict_get_2 _ _) (meets_dict_get (mixKind X.prog X.w) a hk hs) ⟨_, dd.mapOf, fin _ (I.tok _)⟩
  | @n xs _ _ dd _ e1 rv q1 q2 =>
    obtain ⟨b, rfl, rfl, hk, _⟩ := ka
    have fin : ∀ s', Inv X pins σ H s' → Q (((atKey xs k).map (·.2)).getD r) s' := fun s' I' => by
      rcases nk_look k e1 rv q2 with ⟨z1, z2⟩ | ⟨d, v, p, z1, z2, z3, z4⟩
      · rw [z2]
        have := hz z1
        rw [z1] at h
        exact h z r s' I' rz this
      · rw [z2]
        rw [z1] at h
        exact h v p.2 s' I' z3 z4
    cases two with
    | true => exact call_meetsIn PySem.F.slot_dict_get dd.typeIs PySem.F.entry_dict_get (PySem.F.args_dict_get_3 _ _ _) (meetsH_dict_get_default (nestedKind X.prog X.w) a b hs r) ⟨room_n hu, k, xs, hk, dd, fin _ (I.tok _)⟩
    | false =>
      obtain ⟨_, e⟩ := h2 rfl
      rw [e] at fin
      exact call_meetsIn PySem.F.slot_dict_get dd.typeIs PySem.F.entry_dict_get (PySem.F.args_dict_get_2 _ _) (meetsH_dict_get (nestedKind X.prog X.w) a b hs) ⟨room_n hu, k, xs, hk, dd, fin _ (I.tok _)⟩
def rGetD (X : Cx) : V → List V → Hp → VK → Prop := fun x xs H Q => ∃ (g : Gh) (O : Addr → Prop) (a : Addr) (t two : Bool) (es : List (D × D)) (y z : V) (kd zd : D) (k : NestedKey), x = .ref a ∧ xs = (if two then [y, z] else [y]) ∧ DAt X g H O a t es ∧ RepB g H O y kd ∧ keyD t kd = some k ∧
  (dlook es k = none → Rep g (fz H O) z zd) ∧ (two = false → z = .non) ∧ ∀ v, Rep g (fz H O) v ((dlook es k).getD zd) → Q v H
theorem mt_getD (hu : X.A.units + 65 < cLine) : MtR X "dict.get" (rGetD X) := by
  intro pins s σ H x xs v us Q I rx rxs h
  obtain ⟨g, O, a, t, two, es, y, z, kd, zd, k, rfl, rfl, d, hy, ek, hz, h2, q⟩ := h
  cases rx
  cases two with
  | true =>
    obtain ⟨u, r, rfl, ry, rz⟩ : ∃ u r, us = [u, r] ∧ RelV y u ∧ RelV z r := by
      cases rxs with
      | cons r1 r2 => cases r2 with
        | cons r3 r4 => cases r4; exact ⟨_, _, rfl, r1, r3⟩
    exact d4_dget hu I d true hy ek ry rz hz (fun h => by cases h) fun v w' s' I' rv rp => ⟨v, H, I', rv, q v rp⟩
  | false =>
    obtain ⟨u, rfl, ry⟩ := vals1 rxs
    have ez := h2 rfl
    subst ez
    exact d4_dget hu I d false hy ek ry (r := Value.none) (show RelV V.non Value.none from rfl) hz (fun _ => ⟨rfl, rfl⟩) fun v w' s' I' rv rp => ⟨v, H, I', rv, q v rp⟩
theorem flat_isRep {g : Gh} {v : V} {d : D} (h : (flat d).isSome = true) (r : RepB g H O v d) : Rep g (fz H O) v d := by
  cases e : flat d with
  | none => rw [e] at h; cases h
  | some u =>
    rw [rep_flat e r]
    exact flat_rep e
theorem mt_get (hu : X.A.units + 65 < cLine) : MtOk X S "get" isDct getD2 .fro := fun d1 h1 => by
  cases d1 with
  | dct t es =>
    refine ⟨"dict", "dict.get", rGetD X, ⟨PySem.F.plainAttrs_dict, PySem.F.slot_dict_get, PySem.F.type_dict_get, mt_getD hu⟩, fun g H O v hK hw h => tyw_dct hK hw h, fun F T' H O v vs ds d Q hK hw r q1 q2 e k => ?_⟩
    obtain ⟨a, rfl, dat⟩ := rb_dct hK hw q1
    unfold getD2 at e
    split at e
    · rename_i t0 es0 kk e0
      cases e0
      split at e
      · rename_i n en
        cases e
        obtain ⟨u, rfl, q⟩ := rbl1 q2
        exact ⟨F.g, O, a, t, false, es, u, .non, kk, .non, n, rfl, rfl, dat, q, en, fun _ => .non, fun _ => rfl, fun v rv => k v H O r (Le.refl _) rv⟩
      · cases e
    · rename_i t0 es0 kk xx e0
      cases e0
      split at e
      · rename_i n en
        obtain ⟨u, w, rfl, qa, qb⟩ := rbl2 q2
        split at e
        · rename_i v0 ev
          cases e
          refine ⟨F.g, O, a, t, true, es, u, w, kk, xx, n, rfl, rfl, dat, qa, en, fun z => (by rw [ev] at z; cases z), fun z => (by cases z), fun v rv => ?_⟩
          rw [ev] at rv
          exact k v H O r (Le.refl _) rv
        · rename_i ev
          split at e
          · rename_i hf
            cases e
            refine ⟨F.g, O, a, t, true, es, u, w, kk, _, n, rfl, rfl, dat, qa, en, fun _ => flat_isRep hf qb, fun z => (by cases z), fun v rv => ?_⟩
            rw [ev] at rv
            exact k v H O r (Le.refl _) rv
          · cases e
      · cases e
    · cases e
  | _ => cases h1
/-! ### tuple(range(..)) -/
def trg1D : D → Option D
  | .int j => if lrgOk 0 j then some (.tup (rgD 0 j)) else none
  | _ => none
def trg2D : D → D → Option D
  | .int i, .int j => if lrgOk i j then some (.tup (rgD i j)) else none
  | _, _ => none
theorem se_trg1 {p pos p2 pos2 : Pos} (hc : X.calm = true) (hl : Gl X "tuple") (ml : X.mg "tuple" = none) (hg : Gl X "range") (mr : X.mg "range" = none) (ha : SE X W S a ca .bor) (na : starEach [a] X.env = (false, eval a X.env) :: starEach [] X.env := by rfl)
    (nb : starEach [Expr.Call (.Name "range" p2) [a] [] pos2] X.env = (false, eval (Expr.Call (.Name "range" p2) [a] [] pos2) X.env) :: starEach [] X.env := by rfl) :
    SE X W S (.Call (.Name "tuple" p) [.Call (.Name "range" p2) [a] [] pos2] [] pos) (ap1 trg1D ca) .fro :=
  ⟨peMono (pe_tupRg hc hl ml (prg_1 hg mr ha.pe na) nb) fun σ H Q h => by
    obtain ⟨F, T, O, ft, r, p⟩ := h
    refine tE_bind ft r p fun d1 T1 v1 H1 O1 r1 l1 q1 p1 => ?_
    obtain ⟨d, e, k⟩ := po_of p1
    unfold trg1D at e
    split at e
    · split at e
      · rename_i j ok
        cases e
        exact ⟨j, rb_int (bOf q1 r1), lrgOk_iff ok, new_tup r1 (rgV_rep 0 j) k⟩
      · cases e
    · cases e⟩
theorem se_trg2 {p pos p2 pos2 : Pos} (hc : X.calm = true) (hl : Gl X "tuple") (ml : X.mg "tuple" = none) (hg : Gl X "range") (mr : X.mg "range" = none) (ha : SE X W S a ca .bor) (hb : SE X W S b cb .bor) (na : starEach [a, b] X.env = (false, eval a X.env) :: starEach [b] X.env := by rfl)
    (nb : starEach [b] X.env = (false, eval b X.env) :: starEach [] X.env := by rfl) (hpl : (backTo pos2 (starEach [b] X.env)).any (·.1) = false := by rfl)
    (nc : starEach [Expr.Call (.Name "range" p2) [a, b] [] pos2] X.env = (false, eval (Expr.Call (.Name "range" p2) [a, b] [] pos2) X.env) :: starEach [] X.env := by rfl) :
    SE X W S (.Call (.Name "tuple" p) [.Call (.Name "range" p2) [a, b] [] pos2] [] pos) (ap2 trg2D ca cb) .fro :=
  ⟨peMono (pe_tupRg hc hl ml (prg_2 hg mr ha.pe hb.pe na nb hpl) nc) fun σ H Q h => by
    obtain ⟨F, T, O, ft, r, p⟩ := h
    refine tE_bind ft r p fun d1 T1 v1 H1 O1 r1 l1 q1 p1 => ?_
    refine tE_bind ft r1 p1 fun d2 T2 v2 H2 O2 r2 l2 q2 p2 => ?_
    obtain ⟨d, e, k⟩ := po_of p2
    unfold trg2D at e
    split at e
    · split at e
      · rename_i i j ok
        cases e
        exact ⟨i, j, rb_int (q1 H2 O2 T2 r2 l2), rb_int (bOf q2 r2), lrgOk_iff ok, new_tup r2 (rgV_rep i j) k⟩
      · cases e
    · cases e⟩
end
end Ev

/-! Ev: several names at once of which some are cells: the tuple is made, then taken apart -/
namespace Ev
open PySem PySem.Spec PyProof.Rows L2
section
variable {X : Cx} {W : WX} {S S' Sl : List Nat} {fr : Bool} {a b ze : Expr} {c ca cb cc : Ex} {m : Mode} {F : Cf} {T : Tp} {σ : L2.St} {H : Hp} {O : Addr → Prop}
theorem tE.imp {Q Q' : VK} (h : tE X W S c m σ H Q) (i : ∀ v H, Q v H → Q' v H) : tE X W S c m σ H Q' := by
  obtain ⟨F, T, O, ft, r, p⟩ := h
  exact ⟨F, T, O, ft, r, Po.imp p i⟩
/-- what is done behind a new tuple -/
def Ends.tup (D : Ends) (f : L2.St → List (Option V)) : Ends := { D with nx := fun σ' H => ∀ p vs, f σ' = List.map some vs → H p = none → D.nx σ' (upd H p (.tup vs)) }
theorem tS.tup {st : Sx} {D : Ends} {f : L2.St → List (Option V)} (h : tS X W S S' Sl fr st D σ H) : tS X W S S' Sl fr st (Ends.tup D f) σ H := by
  obtain ⟨F, T, O, ft, r, p⟩ := h
  refine ⟨F, T, O, ft, r, ?_⟩
  revert p
  cases st F.env T with
  | nx env T' => exact fun p σ' H' O' l1 l2 r' q vs _ hq => p σ' _ O' l1 l2 (R.new r' (.tup vs) hq).1
  | bk env T' => exact id
  | ct env T' => exact id
  | rt d T' => exact id
  | ex x env T' => exact id
  | no => exact id
def slots2 (i j : Nat) : L2.St → List (Option V) := fun σ => [(σ[i]?).join, (σ[j]?).join]
def slots3 (i j k : Nat) : L2.St → List (Option V) := fun σ => [(σ[i]?).join, (σ[j]?).join, (σ[k]?).join]
theorem ss_parC2 {x y : Str} {i j : Nat} {o1 o2 : Own?} {px py pt pos pt2 : Pos} {kt k2} (hc : X.calm = true) (hN : X.N.Nodup) (hi : X.N[i]? = some x) (hj : X.N[j]? = some y) (hij : i ≠ j) (hx : Loc X.env.scope x) (hy : Loc X.env.scope y)
    (ha : SE X W S a ca o1.m) (hb : SE X W S b cb o2.m) (n2 : o2 = .f → j ∉ S := by decide) (n3 : o1 = .f → i ∉ o2.S j S := by decide) (hs : ∀ k, k ∈ S' → k ∈ o1.S i (o2.S j S) := by decide)
    (hw : swappedStores [.Tuple [.Name x px, .Name y py] kt pt] (.Tuple [a, b] k2 pt2) X.env = pure none := by rfl)
    (hsw : swapsWithSole [.Tuple [.Name x px, .Name y py] kt pt] (.Tuple [a, b] k2 pt2) pos.line X.env = pure false := by rfl)
    (h1 : starEach [a, b] X.env = (false, eval a X.env) :: starEach [b] X.env := by rfl) (h2 : starEach [b] X.env = (false, eval b X.env) :: starEach [] X.env := by rfl)
    (h3 : (assignEach [Expr.Tuple [.Name x px, .Name y py] kt pt] X.env).map (·.2) = [assign (Expr.Tuple [.Name x px, .Name y py] kt pt) X.env] := by rfl)
    (fx : X.fn x = true ∨ X.env.scope.names.lookup x = some .local := by first | exact .inl rfl | exact .inr rfl | assumption) (fy : X.fn y = true ∨ X.env.scope.names.lookup y = some .local := by first | exact .inl rfl | exact .inr rfl | assumption) :
    SS X W S S' Sl fr (.Assign [.Tuple [.Name x px, .Name y py] kt pt] (.Tuple [a, b] k2 pt2) pos) (par2S i j ca cb) :=
  ⟨⟨fun pins s σ H D I h => (ps_asg (pe_tup (pa_cons ha.pe (pa_cons hb.pe pa_nil h2) h1)) (pg_tup hc (pgs_cons (pg_name hN hi hx fx) (pgs_cons (pg_name hN hj hy fy) pgs_nil)) (n := 2)) hsw hw h3).run pins s σ H D I (by
    have hl := I.len
    have li : i < σ.length := by
      rcases Nat.lt_or_ge i X.N.length with z | z
      · omega
      · rw [List.getElem?_eq_none z] at hi; cases hi
    have lj : j < σ.length := by
      rcases Nat.lt_or_ge j X.N.length with z | z
      · omega
      · rw [List.getElem?_eq_none z] at hj; cases hj
    have q := par2_t hi hj hij n2 n3 hs hl (h.tup (f := slots2 i j))
    refine tE.imp q fun v1 H1 q => tE.imp q fun v2 H2 q => ?_
    obtain ⟨v, w, e, q⟩ := q
    cases e
    refine ⟨(show 2 ≤ sizeLine from by decide), fun p hp => ⟨p, [v1, v2], rfl, .inl (.inl upd_same), rfl, v1, [v2], rfl, v2, [], rfl, rfl, ?_⟩⟩
    refine q p [v1, v2] ?_ hp
    unfold slots2
    simp [List.getElem?_set, li, lj, hij, Ne.symm hij])⟩⟩
theorem ss_parC3 {x y z : Str} {i j l : Nat} {o1 o2 o3 : Own?} {px py pz pt pos pt2 : Pos} {kt k2} (hc : X.calm = true) (hN : X.N.Nodup) (hi : X.N[i]? = some x) (hj : X.N[j]? = some y) (hl : X.N[l]? = some z) (hij : i ≠ j) (hil : i ≠ l) (hjl : j ≠ l) (hx : Loc X.env.scope x) (hy : Loc X.env.scope y) (hz : Loc X.env.scope z)
    (ha : SE X W S a ca o1.m) (hb : SE X W S b cb o2.m) (hcc : SE X W S ze cc o3.m) (n1 : o3 = .f → l ∉ S := by decide) (n2 : o2 = .f → j ∉ o3.S l S := by decide) (n3 : o1 = .f → i ∉ o2.S j (o3.S l S) := by decide) (hs : ∀ k, k ∈ S' → k ∈ o1.S i (o2.S j (o3.S l S)) := by decide)
    (hw : swappedStores [.Tuple [.Name x px, .Name y py, .Name z pz] kt pt] (.Tuple [a, b, ze] k2 pt2) X.env = pure none := by rfl)
    (hsw : swapsWithSole [.Tuple [.Name x px, .Name y py, .Name z pz] kt pt] (.Tuple [a, b, ze] k2 pt2) pos.line X.env = pure false := by rfl)
    (h1 : starEach [a, b, ze] X.env = (false, eval a X.env) :: starEach [b, ze] X.env := by rfl) (h2 : starEach [b, ze] X.env = (false, eval b X.env) :: starEach [ze] X.env := by rfl) (h3 : starEach [ze] X.env = (false, eval ze X.env) :: starEach [] X.env := by rfl)
    (h4 : (assignEach [Expr.Tuple [.Name x px, .Name y py, .Name z pz] kt pt] X.env).map (·.2) = [assign (Expr.Tuple [.Name x px, .Name y py, .Name z pz] kt pt) X.env] := by rfl)
    (fx : X.fn x = true ∨ X.env.scope.names.lookup x = some .local := by first | exact .inl rfl | exact .inr rfl | assumption) (fy : X.fn y = true ∨ X.env.scope.names.lookup y = some .local := by first | exact .inl rfl | exact .inr rfl | assumption) (fz' : X.fn z = true ∨ X.env.scope.names.lookup z = some .local := by first | exact .inl rfl | exact .inr rfl | assumption) :
    SS X W S S' Sl fr (.Assign [.Tuple [.Name x px, .Name y py, .Name z pz] kt pt] (.Tuple [a, b, ze] k2 pt2) pos) (par3S i j l ca cb cc) :=
  ⟨⟨fun pins s σ H D I h => (ps_asg (pe_tup (pa_cons ha.pe (pa_cons hb.pe (pa_cons hcc.pe pa_nil h3) h2) h1)) (pg_tup hc (pgs_cons (pg_name hN hi hx fx) (pgs_cons (pg_name hN hj hy fy) (pgs_cons (pg_name hN hl hz fz') pgs_nil))) (n := 3)) hsw hw h4).run pins s σ H D I (by
    have hln := I.len
    have at_ : ∀ {k : Nat} {q : Str}, X.N[k]? = some q → k < σ.length := fun {k q} hk => by
      rcases Nat.lt_or_ge k X.N.length with z | z
      · omega
      · rw [List.getElem?_eq_none z] at hk; cases hk
    have li := at_ hi
    have lj := at_ hj
    have ll := at_ hl
    have q := par3_t hi hj hl hij hil hjl n1 n2 n3 hs hln (h.tup (f := slots3 i j l))
    refine tE.imp q fun v1 H1 q => tE.imp q fun v2 H2 q => tE.imp q fun v3 H3 q => ?_
    obtain ⟨u, v, w, e, q⟩ := q
    cases e
    refine ⟨(show 3 ≤ sizeLine from by decide), fun p hp => ⟨p, [v1, v2, v3], rfl, .inl (.inl upd_same), rfl, v1, [v2, v3], rfl, v2, [v3], rfl, v3, [], rfl, rfl, ?_⟩⟩
    refine q p [v1, v2, v3] ?_ hp
    unfold slots3
    simp [List.getElem?_set, li, lj, ll, hij, hil, hjl, Ne.symm hij, Ne.symm hil, Ne.symm hjl])⟩⟩
end
end Ev

/-! Ev: enumerate of a list or a tuple -/
namespace Ev
open PySem PySem.Spec PyProof.Rows L2
theorem enumNew1 {v : Value} {oi : Obj} {Hs : Heap → Prop} (B : Begins v oi Hs) :
    Meets (Builtin.«enumerate.__new__» ⟨[.type "enumerate", v], []⟩) (fun _ R z => Hs z.heap ∧
      R (.ok (.ret (.ref (z.heap.push oi).objs.size))) { z with heap := (z.heap.push oi).push { cls := .type "enumerate", data := .fields #[.none, .bool false, .ref z.heap.objs.size, rawInt 0, .none, .none] } }) :=
  .of_wp fun pr ww AA RR z h => by
    obtain ⟨zh, zg, zd, zt, zo⟩ := z
    obtain ⟨hb, h⟩ := h
    have hsub := sub_enumerate
    have go : ∀ {A' : Around} {E : Value → Shared → Prop} {Q : Value → Shared → Prop}, Q (.ref zh.objs.size) ⟨zh.push oi, zg, zd, zt, zo⟩ → wpAny (model pr ww) A' (pyIter v) Q E ⟨zh, zg, zd, zt, zo⟩ :=
      fun q => B.iter pr ww _ _ ⟨zh, zg, zd, zt, zo⟩ _ hb q
    wp_walk using go
    refine wpAny_stack_any fun qq => wpAny_pure ?_
    split
    · rename_i c _ _ _ _ _
      cases (c == Value.type "enumerate")
      · wp_walk using go
        exact ⟨_, rfl, h⟩
      · wp_walk using go
        exact ⟨_, rfl, h⟩
    · wp_walk using go
      exact ⟨_, rfl, h⟩
theorem enum_begins1 {pr : Program} {ww : World} {AA : Around} {EE : Value → Shared → Prop} {z : Shared} {v : Value} {oi : Obj} {Hs : Heap → Prop} {Q : Value → Shared → Prop} (B : Begins v oi Hs) (hb : Hs z.heap)
    (h : ∀ h', IsEnum h' (z.heap.objs.size + 1) z.heap.objs.size 0 .none → h'.get? z.heap.objs.size = some oi → (∀ b o, z.heap.get? b = some o → h'.get? b = some o) → Q (.ref (z.heap.objs.size + 1)) { z with heap := h' }) :
    wpAny (model pr ww) AA (call (.type "enumerate") [v]) Q EE z := by
  refine callType_new F.called_enumerate (by decide) (F.typeCall_enumerate_1 _) (F.newCall_enumerate_1 _) (fun ob => F.args_object_init_2 ob _) F.entry_enumerate_new (enumNew1 B) ⟨hb, ?_⟩
  have sz : (z.heap.push oi).objs.size = z.heap.objs.size + 1 := Heap.size_push ..
  show _ ∧ _
  rw [sz]
  have he : IsEnum ((z.heap.push oi).push { cls := .type "enumerate", data := .fields #[.none, .bool false, .ref z.heap.objs.size, rawInt 0, .none, .none] }) (z.heap.objs.size + 1) z.heap.objs.size 0 .none := by
    have q := Heap.get?_push_size (z.heap.push oi) (o := { cls := .type "enumerate", data := .fields #[.none, .bool false, .ref z.heap.objs.size, rawInt 0, .none, .none] }) rfl
    rw [sz] at q
    exact q
  exact ⟨⟨_, he, rfl⟩, h _ he (Heap.get?_push_of_some _ (Heap.get?_push_size _ B.free)) fun b o x => Heap.get?_push_of_some _ (Heap.get?_push_of_some _ x)⟩
def IteK (K : PySem.W.Frag) (t : Bool) (a : Addr) : It :=
  ⟨fun n H => ∃ (xs : List V) (x : V), SqK t K H a xs ∧ xs[n]? = some x,
    fun n H v H' => ∃ p x, v = .ref p ∧ H p = none ∧ H' = upd H p (.tup [.int (n : Nat), x]) ∧ ∀ xs, SqK t K H a xs → xs[n]? = some x,
    fun n H => ∃ xs : List V, SqK t K H a xs ∧ n = xs.length⟩
theorem two_of {c e it : Addr} (h : c ∈ [e, it]) : c = e ∨ c = it := by simpa using h
theorem turn_enumK {P : Program} {w : World} {K : PySem.W.Frag} {elts : List Expr} {kk : Nat} {tpos : Pos} {t : Bool} {a e it : Addr} (h1 : a ≠ it) (h2 : a ≠ e) (h3 : e ≠ it) :
    Turn P w K (.Tuple elts kk tpos) (IteK K t a) [e, it] e fun n h => (∃ old, IsEnum h e it ((n : Nat) : Int) old) ∧ ItK t h it a n where
  mem := by simp
  obj := fun n h st c hc => by
    obtain ⟨⟨old, q1⟩, q2⟩ := st
    rcases two_of hc with z | z <;> subst z
    · exact ⟨_, q1, fun v q => nomatch q⟩
    · exact q2.obj
  keep := fun n h h' st k => by
    obtain ⟨⟨old, q1⟩, q2⟩ := st
    exact ⟨⟨old, k e (by simp) _ q1⟩, q2.at (k it (by simp))⟩
  item := by
    intro X hP hw hK hc n pins s σ H E I hf st hg
    subst hP hw hK
    obtain ⟨⟨old, q1⟩, q2⟩ := st
    obtain ⟨xs, x, g1, g2⟩ := hg
    obtain ⟨us, r1, p1, _⟩ := seqK I g1
    obtain ⟨ux, hx, rx⟩ := r1.get g2
    have hn : n < us.toArray.size := by
      rw [List.size_toArray]
      rcases Nat.lt_or_ge n us.length with z | z
      · exact z
      · rw [List.getElem?_eq_none z] at hx; cases hx
    have hel : e < s.heap.objs.size := Heap.lt_size q1
    have hh : X.A.in1.handled = none := I.ok.hd hc
    refine wpAny_pyNext_enum_itemD (drawsK hh t it a h1 us.toArray) q1 ⟨q2, p1⟩ hn h3 (by simp [h3, Ne.symm h2]) fun v1 h' tk y1 b1 b2 b3 b4 hk => ?_
    have e1 : v1 = ux := by
      have z : us.toArray[n]? = some v1 := y1
      have z2 : us.toArray[n]? = some ux := by simpa using hx
      exact Option.some.inj (z.symm.trans z2)
    subst e1
    refine ⟨_, rfl, wpAny_letOwnedTupleGo_enum (s := { s with heap := h', toks := tk + 1 }) b1 fun hz z2 sb => ?_⟩
    have hT : hz.get? s.heap.objs.size = some { cls := .type "tuple", data := .seq #[.int n tk, v1] } := (sb.2 _ (Nat.ne_of_gt hel)).trans b3
    have new : ObjOk X.prog X.w (upd H s.heap.objs.size (.tup [.int (n : Nat), x])) hz s.heap.objs.size (.tup [.int (n : Nat), x]) :=
      ⟨(show 2 ≤ sizeLine from by decide), [.int n tk, v1], .cons ⟨_, rfl⟩ (.cons rx .nil), ⟨_, hT, rfl, _, rfl⟩⟩
    have I1 : Inv X pins σ (upd H s.heap.objs.size (.tup [.int (n : Nat), x])) { s with heap := hz, toks := tk + 1 } :=
      I.turnedNew (ch := [e, it]) (fun c o hb q => (sb.2 c (fun z => hb (by simp [z]))).trans (hk c o (fun z => hb (by simp [z])) (fun z => hb (by simp [z])) q)) hf (Nat.le_refl _) new
    refine ⟨.ref s.heap.objs.size, _, I1, rfl, ⟨_, x, rfl, I.hok.fresh (Nat.le_refl _), rfl, fun l hl => (by rw [seqK_inj I hl g1]; exact g2)⟩, ⟨⟨v1, ?_⟩, ?_⟩, fun c hcm => ?_⟩
    · have ee : ((n + 1 : Nat) : Int) = (n : Int) + 1 := by omega
      rw [ee]
      exact z2
    · exact b2.1.at fun o q => (sb.2 it (Ne.symm h3)).trans q
    · have hlt : c < s.heap.objs.size := by
        rcases two_of hcm with z | z
        · rw [z]; exact hel
        · rw [z]; obtain ⟨_, q, _⟩ := q2.obj; exact Heap.lt_size q
      rw [upd_ne (Nat.ne_of_lt hlt)]
      exact (hf c hcm).1
  done := by
    intro X hP hw hK hc n pins s σ H E I hf st hg
    subst hP hw hK
    obtain ⟨⟨old, q1⟩, q2⟩ := st
    obtain ⟨xs, g1, g2⟩ := hg
    obtain ⟨us, r1, p1, _⟩ := seqK I g1
    have hn : us.toArray.size = n := by rw [List.size_toArray, ← r1.length, g2]
    have hh : X.A.in1.handled = none := I.ok.hd hc
    obtain ⟨f0, f1, f2, f3, f4, f5⟩ := hf it (by simp)
    refine wpAny_pyNext_enum_endD (drawsK hh t it a h1 us.toArray) q1 (by rw [hn]; exact ⟨q2, p1⟩) fun h' eb => ⟨rfl, I.turned (t' := s.toks) (fun b o hb q => eb b o hb q) f0 f1 f3 f4 f5⟩
  self := fun A n s Q E st h => let ⟨⟨_, q⟩, _⟩ := st; wpAny_pyIter_enum q h
def iEnumK (K : PySem.W.Frag) (ta : TA) : TI := fun σ H R => ta σ H fun vs H1 => ∃ (a : Addr) (xs : List V) (t : Bool), vs = [.ref a] ∧ SqK t K H1 a xs ∧ R (IteK K t a) H1
theorem pi_enumK {X : Cx} {e : Expr} {ta : TA} {p pos tpos : Pos} {elts : List Expr} {kk : Nat} (hg : Gl X "enumerate") (hm : X.mg "enumerate" = none) (ha : PA X [e] ta) (hs : starEach [e] X.env = [(false, eval e X.env)]) :
    PI X (.Tuple elts kk tpos) (.Call (.Name "enumerate" p) [e] [] pos) (iEnumK X.K ta) := by
  refine ⟨fun pins s σ H R I h => ?_⟩
  refine Call_ (ld_blt I hg hm PyProof.Rows.boot_enumerate (PyProof.Rows.callWith_type1 (thn (ha.run pos pins s σ H _ I h) fun us s1 ⟨vs, H1, I1, r1, q1⟩ => ?_) hs rfl))
  obtain ⟨a, xs, t, ev, g1, q⟩ := q1
  subst ev
  cases r1 with
  | cons ra rr =>
    cases rr
    cases ra
    obtain ⟨us1, w1, p1, k1⟩ := seqK I1 g1
    refine enum_begins1 (beginsK t a us1.toArray) p1 fun h' he hi hk => wpAny_pyIter_enum he ?_
    have I2 : Inv X pins σ H1 { s1 with heap := h' } := I1.kept (t' := s1.toks) hk
    refine ⟨s1.heap.objs.size + 1, [s1.heap.objs.size + 1, s1.heap.objs.size], _, _, H1, rfl, I2, turn_enumK (t := t) (a := a) (Nat.ne_of_lt k1) (Nat.ne_of_lt (Nat.lt_succ_of_lt k1)) (Nat.succ_ne_self _), ⟨⟨.none, he⟩, itK_new hi⟩, fun b hb => ?_, q⟩
    have hle : s1.heap.objs.size ≤ b := by
      rcases two_of hb with z | z
      · rw [z]; exact Nat.le_add_right _ _
      · rw [z]; exact Nat.le_refl _
    exact I1.fpOk hle (I1.hok.fresh hle)
def enumK : List D → Option (List D)
  | [.lst a] => some (enumL 0 a)
  | [.tup a] => some (enumL 0 a)
  | _ => none
theorem sim_enumK {g : Gh} {p : Addr} {t : Bool} {a : List D} : Sim g (IteK g.K t p) (enumL 0 a) [.ref p] [mk t a] := fun H O hO r i => by
  obtain ⟨ws1, s1, r1⟩ : ∃ ws, SqK t g.K H p ws ∧ RepL g (fz H O) ws a := by
    cases r with
    | cons q _ =>
      obtain ⟨_, ws, e, s, r⟩ := rep_mk q
      cases e
      exact ⟨ws, s, r⟩
  by_cases hi : i < a.length
  · refine ⟨fun _ => ?_, fun z => ?_⟩
    · have ha : a[i]? = some a[i] := List.getElem?_eq_getElem hi
      obtain ⟨v1, e1, q1⟩ := r1.get ha
      refine ⟨⟨ws1, v1, s1, e1⟩, fun v H' ⟨p', x, ev, nt, eh, f1⟩ => ⟨_, enumL_get 0 a i _ ha, .inr ⟨p', .tup [.int (i : Nat), x], nt, eh, ?_⟩⟩⟩
      have z1 := f1 _ s1
      rw [e1] at z1
      cases z1
      subst ev
      rw [Nat.zero_add]
      exact new_pair nt hO (.int _) q1
    · rw [enumL_len] at z
      omega
  · refine ⟨fun z => ?_, fun z => ⟨ws1, s1, ?_⟩⟩
    · rw [enumL_len] at z
      exact absurd z hi
    · rw [enumL_len] at z
      rw [r1.len]
      exact z
section
variable {X : Cx} {W : WX} {S : List Nat} {a : Expr} {ca : Ex}
theorem si_enumK {elts : List Expr} {kk : Nat} {p pos tpos : Pos} (hg : Gl X "enumerate") (hm : X.mg "enumerate" = none) (ha : SA X W S [a] [ca] .fro) (hs : starEach [a] X.env = [(false, eval a X.env)] := by rfl) :
    SI X W S (.Tuple elts kk tpos) (.Call (.Name "enumerate" p) [a] [] pos) (apI enumK [ca]) := ⟨_, pi_enumK hg hm ha.pa hs, fun F T H O Rr ft r p => by
  refine tA_bindI ft r p fun ds T1 vs H1 O1 r1 q1 p1 => ?_
  obtain ⟨t, da, hz⟩ : ∃ t da, enumK ds = some (enumL 0 da) ∧ ds = [mk t da] ∨ enumK ds = none := by
    unfold enumK
    split
    · exact ⟨false, _, .inl ⟨rfl, rfl⟩⟩
    · exact ⟨true, _, .inl ⟨rfl, rfl⟩⟩
    · exact ⟨false, [], .inr rfl⟩
  rcases hz with ⟨hz, rfl⟩ | hz
  · rw [hz] at p1
    obtain ⟨v, rfl, q⟩ := mokl1 q1
    have q : Rep F.g (fz H1 O1) v (mk t da) := q
    obtain ⟨p1', ws1, rfl, s1, _⟩ := rep_mk q
    have z := p1 _ H1 O1 _ _ r1 (Le.refl _) (.cons q .nil) sim_enumK
    rw [ft.k] at z s1
    exact ⟨p1', ws1, t, rfl, s1, z⟩
  · rw [hz] at p1
    exact False.elim p1⟩
end
end Ev

/-! Ev: the mathematics' tools that no law's words stand in -/
namespace Ev
open PySem
def rowD (xs : List Int) : D := .tup (xs.map .int)
theorem row_pln (xs : List Int) : Pln 1 (rowD xs) := .tup fun d hd => by
  obtain ⟨i, _, rfl⟩ := List.mem_map.mp hd
  exact .int i
theorem row_kd (xs : List Int) : Kd 1 (rowD xs) := .tup fun d hd => by
  obtain ⟨i, _, rfl⟩ := List.mem_map.mp hd
  exact .int i
theorem ints_inj : ∀ {a b : List Int}, a.map D.int = b.map D.int → a = b
  | [], [], _ => rfl
  | [], _ :: _, h => by cases h
  | _ :: _, [], h => by cases h
  | x :: a, y :: b, h => by
    injection h with h1 h2
    injection h1 with h1
    rw [h1, ints_inj h2]
theorem rowD_inj {a b : List Int} (h : rowD a = rowD b) : a = b := by
  injection h with h
  exact ints_inj h
theorem isi_int (i : Int) : isiD ["int"] (.int i) = some (.bl true) := by rfl
theorem isi_int_b (i : Int) : isiD ["bool"] (.int i) = some (.bl false) := by rfl
theorem isi_tup (ds : List D) : isiD ["tuple"] (.tup ds) = some (.bl true) := by rfl
theorem bools_of {α : Type} (p : α → Bool) : ∀ ds : List α, boolsOf (ds.map fun d => D.bl (p d)) = some (ds.map p)
  | [] => rfl
  | d :: ds => by
    show (boolsOf (ds.map fun d => D.bl (p d))).map (p d :: ·) = _
    rw [bools_of p ds]; rfl
theorem all_bl {α : Type} (p : α → Bool) (ds : List α) : allD [.lst (ds.map fun d => D.bl (p d))] = some (.bl (ds.all p)) := by
  show (boolsOf (ds.map fun d => D.bl (p d))).map (fun bs => D.bl (bs.all id)) = _
  rw [bools_of]
  show some (D.bl ((ds.map p).all id)) = _
  rw [List.all_map]; rfl
theorem any_bl {α : Type} (p : α → Bool) (ds : List α) : anyD [.lst (ds.map fun d => D.bl (p d))] = some (.bl (ds.any p)) := by
  show (boolsOf (ds.map fun d => D.bl (p d))).map (fun bs => D.bl (bs.any id)) = _
  rw [bools_of]
  show some (D.bl ((ds.map p).any id)) = _
  rw [List.any_map]; rfl
theorem ints_of : ∀ l : List Int, intsOf (l.map .int) = some l
  | [] => rfl
  | x :: l => by show (intsOf (l.map .int)).map (x :: ·) = _; rw [ints_of l]; rfl
theorem lc_ints {vs : List Nat} {env : Ve} {f : Tf} {it : It_} {ce : Ex} {T : Tp} {l : List Int} (g : Int → D) (hi : it env T = .ok (l.map .int) T) (hl : l.length ≤ 16000000)
    (h : ∀ x ∈ l, ∃ env1, f (.int x) (wipeE env vs) = some env1 ∧ ce env1 T = .ok (g x) T) : lcE vs f it (kE (.bl true)) ce env T = .ok (.lst (l.map g)) T := by
  have z := lcE_map (ce := ce) (fun d => match d with | .int x => g x | d => d) hi (by rw [List.length_map]; exact hl) fun d hd => by
    obtain ⟨x, hx, rfl⟩ := List.mem_map.mp hd
    exact h x hx
  rw [z, List.map_map]
  rfl
theorem prs_ints : ∀ (a b : List Int), prs (a.map .int) (b.map .int) = (a.zip b).map fun q => .tup [.int q.1, .int q.2]
  | [], _ => rfl
  | _ :: _, [] => rfl
  | x :: a, y :: b => by
    show D.tup [.int x, .int y] :: prs (a.map .int) (b.map .int) = _
    rw [prs_ints a b]; rfl
theorem lc_prs {vs : List Nat} {env : Ve} {f : Tf} {it : It_} {ce : Ex} {T : Tp} {a b : List Int} (g : Int → Int → D) (hi : it env T = .ok (prs (a.map .int) (b.map .int)) T) (hl : a.length ≤ 16000000)
    (h : ∀ x y, x ∈ a → y ∈ b → ∃ env1, f (.tup [.int x, .int y]) (wipeE env vs) = some env1 ∧ ce env1 T = .ok (g x y) T) : lcE vs f it (kE (.bl true)) ce env T = .ok (.lst ((a.zip b).map fun q => g q.1 q.2)) T := by
  rw [prs_ints] at hi
  have z := lcE_map (ce := ce) (fun d => match d with | .tup [.int x, .int y] => g x y | d => d) hi (by rw [List.length_map, List.length_zip]; omega) fun d hd => by
    obtain ⟨⟨x, y⟩, hx, rfl⟩ := List.mem_map.mp hd
    exact h x y (List.of_mem_zip hx).1 (List.of_mem_zip hx).2
  rw [z, List.map_map]
  rfl
theorem sum_ints (l : List Int) : sumAD [.lst (l.map .int)] = some (.int l.sum) := by
  show (intsOf (l.map .int)).map (fun ns => D.int ns.sum) = _
  rw [ints_of]; rfl
def unI : D → Int
  | .int i => i
  | _ => 0
def unRow : D → List Int
  | .tup ds => ds.map unI
  | _ => []
theorem unRow_row (x : List Int) : unRow (rowD x) = x := by
  show (x.map D.int).map unI = x
  rw [List.map_map]
  exact (List.map_congr_left fun i _ => rfl).trans (List.map_id x)
theorem lc_rows {vs : List Nat} {env : Ve} {f : Tf} {it : It_} {ce : Ex} {T : Tp} {l : List (List Int)} (g : List Int → D) (hi : it env T = .ok (l.map rowD) T) (hl : l.length ≤ 16000000)
    (h : ∀ x ∈ l, ∃ env1, f (rowD x) (wipeE env vs) = some env1 ∧ ce env1 T = .ok (g x) T) : lcE vs f it (kE (.bl true)) ce env T = .ok (.lst (l.map g)) T := by
  have z := lcE_map (ce := ce) (fun d => g (unRow d)) hi (by rw [List.length_map]; exact hl) fun d hd => by
    obtain ⟨x, hx, rfl⟩ := List.mem_map.mp hd
    rw [unRow_row]
    exact h x hx
  rw [z, List.map_map]
  rw [show ((fun d => g (unRow d)) ∘ rowD) = g from funext fun x => by show g (unRow (rowD x)) = g x; rw [unRow_row]]
theorem len_row (x : List Int) : len4D [rowD x] = some (.int x.length) := by
  show some (D.int ((x.map D.int).length)) = _
  rw [List.length_map]
theorem loop_nx {f : Tf} {b : Sx} {d : D} {ds : List D} {env env1 env2 : Ve} {T T2 : Tp} (e : f d env = some env1) (hb : b env1 T = .nx env2 T2) : loop f b (d :: ds) env T = loop f b ds env2 T2 := by
  have el : loop f b (d :: ds) env T = (match f d env with
      | none => SR.no
      | some env => match b env T with
        | SR.nx env T => loop f b ds env T
        | SR.ct env T => loop f b ds env T
        | SR.bk env T => SR.nx env T
        | r => r) := rfl
  rw [el, e]
  show (match b env1 T with
        | SR.nx env T => loop f b ds env T
        | SR.ct env T => loop f b ds env T
        | SR.bk env T => SR.nx env T
        | r => r) = _
  rw [hb]
theorem extS_of {i : Nat} {c : Ex} {env : Ve} {ds es : List D} {T : Tp} (h : lstAt env i = some ds) (hc : c env T = .ok (.lst es) T) (hl : ds.length + es.length ≤ 16000000) : extS i c env T = .nx (env.set i (some (.lst (ds ++ es)))) T := by
  unfold extS
  rw [h]
  show exS (c env T) env _ = _
  rw [hc, exS_ok]
  show (if ds.length + es.length ≤ sizeLine then _ else _) = _
  rw [if_pos (sizeLine_le hl)]
def okT (r : Res D) : Bool := match r with | .ok (.bl true) none => true | _ => false
theorem okT_eq {r : Res D} (h : okT r = true) : r = .ok (.bl true) none := by
  unfold okT at h
  split at h
  · rfl
  · cases h
def isS : Option D → Bool
  | some (.str _) => true
  | _ => false
theorem isS_eq {o : Option D} (h : isS o = true) : ∃ s, o = some (.str s) := by
  unfold isS at h
  split at h
  · exact ⟨_, rfl⟩
  · cases h
theorem gath {α : Type} {f : α → D} {P : α → Prop} : ∀ {xs : List D}, (∀ x ∈ xs, ∃ a, x = f a ∧ P a) → ∃ l : List α, xs = l.map f ∧ ∀ a ∈ l, P a
  | [], _ => ⟨[], rfl, fun a ha => by cases ha⟩
  | x :: xs, h => by
    obtain ⟨a, rfl, ha⟩ := h x List.mem_cons_self
    obtain ⟨l, rfl, hl⟩ := gath (xs := xs) fun x hx => h x (List.mem_cons_of_mem _ hx)
    refine ⟨a :: l, rfl, fun b hb => ?_⟩
    rcases List.mem_cons.mp hb with rfl | hb
    · exact ha
    · exact hl b hb
theorem er_perm : ∀ (l : List D) (i : Nat) (h : i < l.length), (l[i] :: l.eraseIdx i).Perm l
  | x :: l, 0, _ => List.Perm.refl _
  | x :: l, i + 1, h => by
    have ih := er_perm l i (by simpa using h)
    exact (List.Perm.swap x _ _).trans (ih.cons x)
theorem perm_at {xs : List D} {j : Nat} (h : j < xs.length) (ys : List D) : (xs.eraseIdx j ++ (ys ++ [xs[j]])).Perm (xs ++ ys) := by
  rw [← List.append_assoc]
  exact (List.perm_append_singleton _ _).trans ((er_perm xs j h).append_right ys)
def msr2 (env : Ve) (_ : Tp) : Nat := match (env[2]? : Option (Option D)) with
  | some (some (.lst xs)) => xs.length
  | _ => 0
theorem repD_ev {a : List D} {k : Int} (h0 : 0 ≤ k) (h1 : k ≤ 1000) (h2 : a.length ≤ 1000) : repD (.lst a) (.int k) = some (.lst (List.replicate k.toNat a).flatten) := by
  have hm : a.length * k.toNat ≤ 1000 * 1000 := Nat.mul_le_mul h2 (by omega)
  show (if (decide (-(2 ^ 63) ≤ k) && decide (k < 2 ^ 63) && decide (a.length * k.toNat ≤ PySem.sizeLine)) = true then _ else _) = _
  rw [if_pos]
  rw [Bool.and_eq_true, Bool.and_eq_true, decide_eq_true_eq, decide_eq_true_eq, decide_eq_true_eq]
  refine ⟨⟨?_, ?_⟩, sizeLine_le (by omega)⟩
  · exact Int.le_trans (by decide) h0
  · exact Int.lt_of_le_of_lt h1 (by decide)
theorem rep1 (d : D) (o : Nat) (h : o ≤ 1000) : repD (.lst [d]) (.int (o : Nat)) = some (.lst (List.replicate o d)) := by
  have e : ∀ o : Nat, (List.replicate o [d]).flatten = List.replicate o d := by
    intro o
    induction o with
    | zero => rfl
    | succ k ih => rw [List.replicate_succ, List.flatten_cons, ih, List.replicate_succ]; rfl
  rw [repD_ev (by omega) (by omega) (by simp), Int.toNat_natCast, e]
theorem sum_perm {a b : List Int} (h : a.Perm b) : a.sum = b.sum := by
  induction h with
  | nil => rfl
  | cons x _ ih => rw [List.sum_cons, List.sum_cons, ih]
  | swap x y l => rw [List.sum_cons, List.sum_cons, List.sum_cons, List.sum_cons]; omega
  | trans _ _ i1 i2 => exact i1.trans i2
theorem sum_rep (k : Nat) (x : Int) : (List.replicate k x).sum = k * x := by
  induction k with
  | zero => simp
  | succ k ih => rw [List.replicate_succ, List.sum_cons, ih]; rw [Int.natCast_succ, Int.add_mul]; omega
theorem perm_ints {L : List D} {m : List Int} (h : L.Perm (m.map .int)) : ∃ l : List Int, L = l.map .int ∧ l.Perm m := by
  refine ⟨L.map unI, ?_, ?_⟩
  · rw [List.map_map]
    have : L.map id = L := List.map_id L
    rw [← this]
    rw [List.map_map]
    refine List.map_congr_left fun d hd => ?_
    obtain ⟨i, _, rfl⟩ := List.mem_map.mp (h.mem_iff.mp hd)
    rfl
  · have := h.map unI
    rw [List.map_map] at this
    exact this.trans (by rw [show (unI ∘ D.int) = id from rfl, List.map_id])
theorem all_true {xs : List D} (h : ∀ x ∈ xs, x = .bl true) : allD [.lst xs] = some (.bl true) := by
  have hx : xs = xs.map fun _ => D.bl true := by
    have : xs.map (fun _ => D.bl true) = xs.map id := List.map_congr_left fun d hd => (h d hd).symm
    rw [this, List.map_id]
  rw [hx, all_bl (fun _ => true) xs]
  congr 2
  rw [List.all_eq_true]
  intro _ _
  rfl
theorem rngL_mem {lo : Int} {n : Nat} {d : D} (h : d ∈ rngL lo n) : ∃ i : Nat, i < n ∧ d = .int (lo + (i : Nat)) := by
  obtain ⟨i, hi⟩ := List.mem_iff_getElem?.mp h
  obtain ⟨a, b⟩ := rngL_get hi
  exact ⟨i, a, b⟩
theorem nes (x : PySem.Str) : neS (.str x) (.str x) = some (.bl false) := by rw [neS_str]; simp
def sameR (a b : D) : Bool := match repr7D [a], repr7D [b] with
  | some (.str x), some (.str y) => decide (x = y)
  | _, _ => false
theorem sameR_eq {a b : D} (h : sameR a b = true) : ∃ x, repr7D [a] = some (.str x) ∧ repr7D [b] = some (.str x) := by
  unfold sameR at h
  split at h
  · rename_i x y e1 e2
    have := of_decide_eq_true h
    subst this
    exact ⟨x, e1, e2⟩
  · cases h
def isF (o : Option D) : Bool := match o with
  | some (.bl false) => true
  | _ => false
theorem isF_eq {o : Option D} (h : isF o = true) : o = some (.bl false) := by
  unfold isF at h
  split at h
  · rfl
  · cases h
def okF (r : Res D) : Bool := match r with | .ok (.bl false) none => true | _ => false
theorem okF_eq {r : Res D} (h : okF r = true) : r = .ok (.bl false) none := by
  unfold okF at h
  split at h
  · rfl
  · cases h
/-- what a def gives, by its body -/
def toRes (r : SR) : Res D := match r with
  | .nx _ T => .ok .non T
  | .rt d T => .ok d T
  | .ex x _ T => .ex x T
  | _ => .no
theorem fnD_to {n N : Nat} {b : Sx} {ds : List D} {T : Tp} (hl : ds.length = n) : fnD false n N b ds T = toRes (b (ds.map some ++ List.replicate (N - n) none) T) := by
  unfold fnD
  rw [if_pos hl]
  cases b (ds.map some ++ List.replicate (N - n) none) T <;> rfl
theorem to_exS (r : Res D) (env : Ve) : toRes (exS r env fun d T => .rt d T) = r := by
  cases r <;> rfl
/-- a block that gives True, whatever the tape -/
def rtT (r : SR) : Bool := match r with | .rt (.bl true) none => true | _ => false
theorem rtT_at {c : Sx} {env : Ve} (hp : PurS c) (h : rtT (c env none) = true) (T : Tp) : c env T = .rt (.bl true) T := by
  rcases hp env with ⟨e, q⟩ | ⟨e, q⟩ | ⟨e, q⟩ | ⟨d, q⟩ | q | ⟨x, e, q⟩
  · rw [q] at h; cases h
  · rw [q] at h; cases h
  · rw [q] at h; cases h
  · rw [q] at h
    rw [q]
    cases d <;> first | (cases h; done) | skip
    rename_i b
    cases b
    · cases h
    · rfl
  · rw [q] at h; cases h
  · rw [q] at h; cases h
/-- what r is, where it is told with the tape none -/
def isOk (r : Res D) : Bool := match r with | .ok _ none => true | _ => false
def valOf (r : Res D) : D := match r with | .ok d _ => d | _ => .non
theorem isOk_eq {r : Res D} (h : isOk r = true) : r = .ok (valOf r) none := by
  unfold isOk at h
  split at h
  · rfl
  · cases h
theorem sum_row (l : List Int) : sumAD [rowD l] = some (.int l.sum) := by
  show (intsOf (l.map .int)).map (fun ns => D.int ns.sum) = _
  rw [ints_of]; rfl
theorem list6_lst (ds : List D) : list6D [.lst ds] = some (.lst ds) := rfl
theorem list6_tup (ds : List D) : list6D [.tup ds] = some (.lst ds) := rfl
end Ev

/-! Ev: raise, try .. except C as e, isinstance(e, C) -/
namespace Ev
open PySem PySem.Spec PyProof.Rows L2
section
variable {X : Cx} {W : WX} {S S' Sl : List Nat} {fr : Bool} {c ca cb cc : Ex} {m : Mode} {F : Cf} {T : Tp} {σ : L2.St} {H : Hp} {O : Addr → Prop}
/-! ### raise C() -/
def raS (x : Str) : Sx := fun env T => .ex x env T
/-- what is known of an own class over ValueError -/
structure ExCl (K : PySem.W.Frag) (mg : Str → Option Value) (x : Str) : Prop where
  ex : ∃ C : Addr, mg x = some (.ref C) ∧ PySem.W.excIn K C [.type "ValueError", .type "Exception", .type "BaseException", .type "object"] "ValueError.__new__" = true ∧ PySem.W.keepIn K (.ref C) = true ∧
    PySem.W.subIn K (.ref C) (.type "BaseException") = some true ∧ PySem.W.typeIn K (.ref C) = some (.type "type")
theorem pmk_own0 {C : Addr} {bmB : List Value} {B newId initId : String} {x : Str} {p pos : Pos} (FF : ExcBaseFacts B newId initId bmB) (q : PySem.W.excIn X.K C bmB newId = true) (gC : X.mg x = some (.ref C)) (kC : PySem.W.keepIn X.K (.ref C) = true) (r : Raises X (.ref C)) (hg : Gl X x)
    (hdb : (x == ("__debug__" : Str)) = false) : PMk X (.Call (.Name x p) [] [] pos) (fun _ H Q => Q (.ref C) none H) := fun pins s σ H Q I h => by
  refine wpAny_Call_Name_kw (ld_glob I hg gC (PySem.W.callWith_K0 I.kIn kC ?_) hdb)
  show wpAny _ _ (call (.ref C) []) _ _ _
  obtain ⟨bm, N, nm, qn, bs, hdct, sn, sub, ab, col, dd, k0, k1, k2, k3, k5, mN, hC, hN, hni, TT⟩ := exc_obj I.kIn q
  exact wpAny_call_exc_subT FF TT hC hN hni (fun h' e hm => mk_of I hm r h (I.hok.gone hm.new)) (Nat.zero_le _)
theorem ss_raise {x : Str} {p p2 pos : Pos} (hc : X.calm = true) (tk : Takes X W) (hg : Gl X x) (E : ExCl X.K X.mg x) (hdb : (x == ("__debug__" : Str)) = false := by decide) : SS X W S S' Sl fr (.Raise (some (.Call (.Name x p) [] [] p2)) none pos) (raS x) := by
  obtain ⟨C, gC, q, kC, hb, ht⟩ := E.ex
  refine ⟨psMono (ps_raise hc tk (pmk_own0 PySem.F.excBase_ValueError q gC kC (raises_own hb ht) hg hdb)) fun D σ H h => ?_⟩
  obtain ⟨F, T, O, ft, r, p⟩ := h
  obtain ⟨O', r', _⟩ := Cf.R.sub (S' := []) r (fun i h => by cases h)
  have z := p F.σ H O' rfl rfl (by rw [Cf.same ft]; exact r')
  rw [ft.s] at z
  have e : ec X x = .ref C := by unfold ec; rw [gC]; rfl
  rw [e] at z
  exact z
/-! ### isinstance(e, C), e the exception in hand -/
def exB (x t : Str) : Bool := decide (x = t) || decide (t = ("PuzzleError" : Str)) || decide (t = ("ValueError" : Str))
/-- the thing at a -/
def xa (a : Addr) : V → Hp → Prop := fun v _ => v = .ref a
open Classical in
noncomputable def isXE (a : Addr) (b : Bool) (i : Nat) : Ex := fun env T => match env[i]? with
  | some (some (.prm φ)) => if φ = xa a then .ok (.bl b) T else .no
  | _ => .no
@[simp] theorem isXE_0 (a : Addr) (b : Bool) (r : Ve) (T : Tp) : isXE a b 0 (some (.prm (xa a)) :: r) T = .ok (.bl b) T := by
  unfold isXE
  simp
@[simp] theorem isXE_s (a : Addr) (b : Bool) (i : Nat) (x : Option D) (r : Ve) (T : Tp) : isXE a b (i + 1) (x :: r) T = isXE a b i r T := (rfl)
theorem se_isX {a D : Addr} {oe : Obj} {pn : List (Addr × Obj)} {i : Nat} {e c2 : Expr} {cv : Value} {tv : V} {b : Bool} {p pos : Pos} (hi : i ∉ S) (CC : ExcC X.K D) (hz : Zc (.ref D) none oe) (hf : ∃ vs, oe.data = .fields vs) (hg : Gl (X.suite a ((a, oe) :: pn)) "isinstance") (hm : X.mg "isinstance" = none)
    (hv : PE (X.suite a ((a, oe) :: pn)) e (tVar i)) (ht : PE (X.suite a ((a, oe) :: pn)) c2 (tC tv)) (hcv : ∀ u, RelV tv u → u = cv) (hk : PySem.W.kitOne X.K (.ref D) cv = some b)
    (h1 : starEach [e, c2] X.env = (false, eval e X.env) :: starEach [c2] X.env := by rfl) (h2 : starEach [c2] X.env = (false, eval c2 X.env) :: starEach [] X.env := by rfl) (hpl : (backTo pos (starEach [c2] X.env)).any (·.1) = false := by rfl) :
    SE (X.suite a ((a, oe) :: pn)) W S (.Call (.Name "isinstance" p) [e, c2] [] pos) (isXE a b i) .fro :=
  ⟨peMono (pe_callB (call_isE CC hz hf) hg hm (by decide +kernel) (pa_cons hv (pa_cons ht pa_nil h2) h1) (he := h1) (hpl := hpl)) fun σ H Q h => by
    obtain ⟨F, T, O, ft, r, p⟩ := h
    have p : Po (X.suite a ((a, oe) :: pn)) W S .fro F H O (isXE a b i F.env T) Q := p
    unfold isXE at p
    split at p
    · rename_i φ he
      split at p
      · rename_i ea
        subst ea
        obtain ⟨a1, a2⟩ := ft.at he
        obtain ⟨v, b1, b2⟩ := r.fro i _ (ft.out hi he) a1
        have ev : v = .ref a := by
          cases b2 with
          | prm h => exact h _ fun _ _ e => e
        subst ev
        exact ⟨_, a2 _ b1, tv, cv, b, rfl, hcv, hk, p.now r (.bl _)⟩
      · exact False.elim p
    · exact False.elim p⟩
/-- the exception in hand, whichever it is -/
def isXT (b : Bool) (i : Nat) : Ex := fun env T => match env[i]? with
  | some (some _) => .ok (.bl b) T
  | _ => .no
/-! ### a slot whose thing is not looked into -/
section
variable {i j k : Nat} {φ : V → Hp → Prop} {c d a' b' c' d' : Ex} {a b : Ex} {s t s' t' : Sx} {cs cs' : List Ex}
def CE (i : Nat) (φ : V → Hp → Prop) (c c' : Ex) : Prop := ∀ env T, env[i]? = some (some (.prm φ)) → c env T = c' (env.set i (some .non)) T
def CEs (i : Nat) (φ : V → Hp → Prop) (c c' : List Ex) : Prop := ∀ env T, env[i]? = some (some (.prm φ)) → esE c env T = esE c' (env.set i (some .non)) T
inductive RS (i : Nat) (φ : V → Hp → Prop) : SR → SR → Prop
  | nx {env : Ve} {T : Tp} : env[i]? = some (some (.prm φ)) → RS i φ (.nx env T) (.nx (env.set i (some .non)) T)
  | bk {env : Ve} {T : Tp} : env[i]? = some (some (.prm φ)) → RS i φ (.bk env T) (.bk (env.set i (some .non)) T)
  | ct {env : Ve} {T : Tp} : env[i]? = some (some (.prm φ)) → RS i φ (.ct env T) (.ct (env.set i (some .non)) T)
  | rt {d : D} {T : Tp} : RS i φ (.rt d T) (.rt d T)
  | ex {x : Str} {env : Ve} {T : Tp} : env[i]? = some (some (.prm φ)) → RS i φ (.ex x env T) (.ex x (env.set i (some .non)) T)
  | no : RS i φ .no .no
def CS (i : Nat) (φ : V → Hp → Prop) (c c' : Sx) : Prop := ∀ env T, env[i]? = some (some (.prm φ)) → RS i φ (c env T) (c' (env.set i (some .non)) T)
theorem set_at {env : Ve} {x : Option D} (h : j ≠ i) : (env.set i x)[j]? = env[j]? := List.getElem?_set_ne (Ne.symm h)
theorem ce_k (d : D) : CE i φ (kE d) (kE d) := fun _ _ _ => rfl
theorem ce_v (h : j ≠ i) : CE i φ (vE j) (vE j) := fun env T _ => by
  unfold vE
  rw [set_at h]
theorem ce_isT {b : Bool} (h : j ≠ i) : CE i φ (isXT b j) (isXT b j) := fun env T _ => by
  unfold isXT
  rw [set_at h]
theorem at_set {env : Ve} {x y : Option D} (h : env[i]? = some x) : (env.set i y)[i]? = some y := by
  obtain ⟨hl, _⟩ := List.getElem?_eq_some_iff.mp h
  rw [List.getElem?_set_self hl]
theorem ce_isX {a : Addr} {b : Bool} : CE i (xa a) (isXE a b i) (isXT b i) := fun env T h => by
  unfold isXE isXT
  rw [h, at_set h]
  simp
theorem bind_c {α β : Type} {r r' : Res α} {f f' : α → Tp → Res β} (h : r = r') (g : ∀ x T, f x T = f' x T) : r.bind f = r'.bind f' := by
  rw [h]
  congr 1
  funext x T
  exact g x T
theorem ce_ap1 {f : D → Option D} (h : CE i φ a a') : CE i φ (ap1 f a) (ap1 f a') := fun env T p => bind_c (h env T p) fun _ _ => rfl
theorem ce_ap2 {f : D → D → Option D} (h : CE i φ a a') (g : CE i φ b b') : CE i φ (ap2 f a b) (ap2 f a' b') := fun env T p => bind_c (h env T p) fun _ T => bind_c (g env T p) fun _ _ => rfl
theorem ces_nil : CEs i φ [] [] := fun _ _ _ => rfl
theorem ces_cons (h : CE i φ a a') (g : CEs i φ cs cs') : CEs i φ (a :: cs) (a' :: cs') := fun env T p => bind_c (h env T p) fun _ T => bind_c (g env T p) fun _ _ => rfl
theorem ce_apN {f : List D → Option D} (h : CEs i φ cs cs') : CE i φ (apN f cs) (apN f cs') := fun env T p => bind_c (h env T p) fun _ _ => rfl
theorem ce_lst (h : CEs i φ cs cs') : CE i φ (lstE cs) (lstE cs') := fun env T p => bind_c (h env T p) fun _ _ => rfl
theorem ce_tup (h : CEs i φ cs cs') : CE i φ (tupE cs) (tupE cs') := fun env T p => bind_c (h env T p) fun _ _ => rfl
theorem ce_mt {rv : D → Bool} {f : D → List D → Option D} (h : CE i φ a a') (g : CEs i φ cs cs') : CE i φ (mtG rv f a cs) (mtG rv f a' cs') := fun env T p => bind_c (h env T p) fun d T => by
  show (if _ then _ else _) = (if _ then _ else _)
  rw [g env T p]
theorem ce_and (h : CE i φ a a') (g : CE i φ b b') : CE i φ (andE a b) (andE a' b') := fun env T p => bind_c (h env T p) fun d T => by
  rw [g env T p]
theorem ce_or (h : CE i φ a a') (g : CE i φ b b') : CE i φ (orE a b) (orE a' b') := fun env T p => bind_c (h env T p) fun d T => by
  rw [g env T p]
theorem ce_ite (h : CE i φ c c') (g : CE i φ a a') (k : CE i φ b b') : CE i φ (iteE c a b) (iteE c' a' b') := fun env T p => bind_c (h env T p) fun d T => by
  rw [g env T p, k env T p]
theorem exS_c {α : Type} {r r' : Res α} {env : Ve} {f f' : α → Tp → SR} (p : env[i]? = some (some (.prm φ))) (h : r = r') (g : ∀ x T, RS i φ (f x T) (f' x T)) : RS i φ (exS r env f) (exS r' (env.set i (some .non)) f') := by
  subst h
  cases r with
  | ok x T => exact g x T
  | ex x T => exact .ex p
  | no => exact .no
theorem cs_sq (h : CS i φ s s') (g : CS i φ t t') : CS i φ (sq s t) (sq s' t') := fun env T p => by
  have z := h env T p
  unfold sq
  revert z
  generalize s env T = r
  generalize s' (env.set i (some .non)) T = r'
  intro z
  cases z with
  | nx p => exact g _ _ p
  | bk p => exact .bk p
  | ct p => exact .ct p
  | rt => exact .rt
  | ex p => exact .ex p
  | no => exact .no
theorem cs_sk : CS i φ sk sk := fun env T p => .nx p
theorem cs_rt (h : CE i φ c c') : CS i φ (rtS c) (rtS c') := fun env T p => exS_c p (h env T p) fun _ _ => .rt
theorem cs_dr (h : CE i φ c c') : CS i φ (drS c) (drS c') := fun env T p => exS_c p (h env T p) fun _ _ => .nx p
theorem cs_if (h : CE i φ c c') (g : CS i φ s s') (k : CS i φ t t') : CS i φ (ifS c s t) (ifS c' s' t') := fun env T p => exS_c p (h env T p) fun d T => by
  cases d with
  | bl x => cases x with
    | true => exact g _ _ p
    | false => exact k _ _ p
  | _ => exact .no
theorem nx_set {env : Ve} {T : Tp} {x : Option D} (hj : j ≠ i) (p : env[i]? = some (some (.prm φ))) : RS i φ (.nx (env.set j x) T) (.nx ((env.set i (some .non)).set j x) T) := by
  rw [← List.set_comm _ _ hj]
  exact .nx (by rw [set_at (Ne.symm hj)]; exact p)
theorem cs_as (hj : j ≠ i) (h : CE i φ c c') : CS i φ (asS (tgN j) c) (asS (tgN j) c') := fun env T p => exS_c p (h env T p) fun d T => nx_set hj p
theorem cs_set (hj : j ≠ i) (h : CE i φ c c') : CS i φ (setS j c) (setS j c') := fun env T p => exS_c p (h env T p) fun d T => nx_set hj p
theorem cs_app (hj : j ≠ i) (h : CE i φ c c') : CS i φ (appS j c) (appS j c') := fun env T p => by
  have e : lstAt (env.set i (some .non)) j = lstAt env j := by
    unfold lstAt
    rw [set_at hj]
  unfold appS
  rw [e]
  cases lstAt env j with
  | none => exact .no
  | some ds =>
    refine exS_c p (h env T p) fun d T => ?_
    by_cases q : ds.length < sizeLine
    · rw [if_pos q, if_pos q]
      exact nx_set hj p
    · rw [if_neg q, if_neg q]
      exact .no
end
/-! ### try -/
/-- the suite's end: the exception's name is taken away -/
def offS (i : Nat) (r : SR) : SR := match r with
  | .nx e T => .nx (e.set i none) T
  | .bk e T => .bk (e.set i none) T
  | .ct e T => .ct (e.set i none) T
  | .rt d T => .rt d T
  | _ => .no
/-- the classes that the clause may meet, and what the suite does -/
def tryT (names : List Str) (i : Nat) (cb : Sx) (cs : Str → Sx) : Sx := fun env T => match cb env T with
  | .ex x env' T' => if names.contains x then offS i (cs x (env'.set i (some .non)) T') else .no
  | r => r
theorem cs_try {i k : Nat} {φ : V → Hp → Prop} {names : List Str} {cb cb' : Sx} {cs cs' : Str → Sx} (hk : k ≠ i) (h : CS i φ cb cb') (g : ∀ y, CS i φ (cs y) (cs' y)) : CS i φ (tryT names k cb cs) (tryT names k cb' cs') := fun env T p => by
  have z := h env T p
  unfold tryT
  revert z
  generalize cb env T = r
  generalize cb' (env.set i (some .non)) T = r'
  intro z
  cases z with
  | nx p => exact .nx p
  | bk p => exact .bk p
  | ct p => exact .ct p
  | rt => exact .rt
  | no => exact .no
  | @ex x env T p =>
    show RS i φ (if names.contains x then _ else _) (if names.contains x then _ else _)
    by_cases q : names.contains x = true
    · rw [if_pos q, if_pos q, ← List.set_comm _ _ hk]
      have z := g x (env.set k (some .non)) T (by rw [set_at (Ne.symm hk)]; exact p)
      revert z
      generalize cs x (env.set k (some .non)) T = r
      generalize cs' x ((env.set k (some .non)).set i (some .non)) T = r'
      intro z
      cases z with
      | nx p =>
        show RS i φ (.nx _ _) (.nx _ _)
        rw [← List.set_comm _ _ hk]
        exact .nx (by rw [set_at (Ne.symm hk)]; exact p)
      | bk p =>
        show RS i φ (.bk _ _) (.bk _ _)
        rw [← List.set_comm _ _ hk]
        exact .bk (by rw [set_at (Ne.symm hk)]; exact p)
      | ct p =>
        show RS i φ (.ct _ _) (.ct _ _)
        rw [← List.set_comm _ _ hk]
        exact .ct (by rw [set_at (Ne.symm hk)]; exact p)
      | rt => exact .rt
      | ex p => exact .no
      | no => exact .no
    · rw [if_neg q, if_neg q]
      exact .no
structure ExHd (K : PySem.W.Frag) (mg : Str → Option Value) (P : Addr) (x : Str) : Prop where
  ex : ∃ D : Addr, mg x = some (.ref D) ∧ ExcC K D ∧ PySem.W.exmOne K (.ref D) (.ref P) = some true
theorem Cf.R.wipe {env : Ve} {σ' : L2.St} {i : Nat} (r : (F.to env σ').R S T H O) (hi : i < env.length) (hl : env.length = σ'.length) : (F.to (env.set i none) (σ'.set i none)).R S T H O := by
  have z : Ev.R F.g (S ++ F.xs) ((env ++ F.tms).set i none) T ((σ' ++ F.τ).set i none) H O := R.wipe1 i r
  rw [List.set_append_left _ _ hi, List.set_append_left _ _ (by omega)] at z
  exact z
theorem ss_try {x n : Str} {i : Nat} {P : Addr} {body suite : List Stmt} {b₀ : Stmt} {np pos pos' : Pos} {cb : Sx} {cs : Addr → Str → Sx} {cs' : Str → Sx} {names : List Str} (hst : X.stack = X.env :: X.outer) (hfr : X.env.frame = some X.env.locals) (hN : X.N.Nodup) (hi : X.N[i]? = some n) (hln : X.env.kindOf n = some .local)
    (hg : Gl X x) (gP : X.mg x = some (.ref P)) (hdb : (x == ("__debug__" : Str)) = false) (hx : ∀ y, names.contains y = true → ExHd X.K X.mg P y) (tk : Takes X W)
    (hb : ∀ (W' : WX) (pn : List (Addr × Obj)) (xe : Value → Shared → Prop), Takes (X.tr pn xe) W' → SSs (X.tr pn xe) W' S [] [] fr body cb)
    (hs : ∀ (a : Addr) (oe : Obj) (pn : List (Addr × Obj)) (y : Str) (D : Addr), names.contains y = true → X.mg y = some (.ref D) → ExcC X.K D → Zc (.ref D) none oe → (∃ vs, oe.data = .fields vs) → SSs (X.suite a ((a, oe) :: pn)) W0 [] [] [] fr (b₀ :: suite) (cs a y))
    (hcg : ∀ a y, CS i (xa a) (cs a y) (cs' y)) :
    SS X W S [] [] fr (.Try body [.ExceptHandler (some (.Name x np)) (some n) (b₀ :: suite) pos'] [] [] pos) (tryT names i cb cs') :=
  ⟨⟨fun pins s σ H D I h => (ps_try_as (tb := fun W' => tS X W' S [] [] fr cb) (ts := fun a cls d D σ H => ∃ y D', names.contains y = true ∧ X.mg y = some (.ref D') ∧ cls = .ref D' ∧ d = none ∧ ExcC X.K D' ∧ tS X W0 [] [] [] fr (cs a y) D σ H) hst hfr hN hi hln ⟨hg, hdb, .inl gP⟩ tk
    (fun W' pn xe tk' _ => (hb W' pn xe tk').ps) (fun a oe cls d pn hz hf => ⟨fun pins s σ H D I h => by
      obtain ⟨y, D', h1, h2, h3, h4, h5, h6⟩ := h
      subst h3 h4
      exact ((hs a oe pn y D' h1 h2 h5 hz hf).ps).run pins s σ H D I h6⟩)).run pins s σ H D I (by
    have hNl := I.len
    obtain ⟨F, T, O, ft, r, p⟩ := h
    have hlen : F.env.length = X.N.length := by rw [ft.l, ft.s, hNl]
    have hil : i < F.env.length := by
      rcases Nat.lt_or_ge i X.N.length with z | z
      · omega
      · rw [List.getElem?_eq_none z] at hi; cases hi
    refine ⟨F, T, O, ft, r, ?_⟩
    have p : PoS X W [] [] fr F (tryT names i cb cs' F.env T) D := p
    unfold tryT at p
    cases eb : cb F.env T with
    | nx env T1 => rw [eb] at p; exact p
    | bk env T1 => rw [eb] at p; exact p
    | ct env T1 => rw [eb] at p; exact p
    | rt d T1 => rw [eb] at p; exact p
    | no => rw [eb] at p; exact p
    | ex y env T1 =>
      rw [eb] at p
      intro σ1 H1 O1 l1 l2 r1
      have p : PoS X W [] [] fr F (if names.contains y then offS i (cs' y (env.set i (some .non)) T1) else .no) D := p
      by_cases hc : names.contains y = true
      · rw [if_pos hc] at p
        obtain ⟨D', gD, CC, hm⟩ := (hx y hc).ex
        have eec : ec X y = .ref D' := by unfold ec; rw [gD]; rfl
        rw [eec]
        refine ⟨true, hm, fun _ a ha => ⟨y, D', hc, gD, rfl, rfl, CC, ?_⟩, fun z => by cases z⟩
        have hie : i < env.length := by rw [l2]; exact hil
        have hl := ft.l
        have e := hcg a y (env.set i (some (.prm (xa a)))) T1 (List.getElem?_set_self hie)
        rw [List.set_set] at e
        have r2 : (F.to (env.set i (some (.prm (xa a)))) (σ1.set i (some (.ref a)))).R [] T1 H1 O1 := by
          have z : Ev.R F.g ([] ++ F.xs) ((env ++ F.tms).set i (some (.prm (xa a)))) T1 ((σ1 ++ F.τ).set i (some (V.ref a))) H1 O1 :=
            R.setF r1 (by show i < (env ++ F.tms).length; rw [List.length_append]; omega) (fun z => by
              rcases List.mem_append.mp z with z | z
              · cases z
              · have := ft.x i z; omega) (.prm fun _ _ => rfl)
          rw [List.set_append_left _ _ hie, List.set_append_left _ _ (by omega)] at z
          exact z
        refine ⟨F.to (env.set i (some (.prm (xa a)))) (σ1.set i (some (.ref a))), T1, O1, ?_, r2, ?_⟩
        · have z := ft.to (σ' := σ1.set i (some (V.ref a))) (env := env.set i (some (.prm (xa a)))) (by rw [List.length_set]; exact l1) (by rw [List.length_set]; exact l2)
          exact z
        · show PoS X W0 [] [] fr _ (cs a y (env.set i (some (.prm (xa a)))) T1) _
          have s1l : (σ1.set i (some (V.ref a))).length = F.σ.length := by rw [List.length_set]; exact l1
          have e1l : (env.set i (some (Ev.D.prm (xa a)))).length = F.env.length := by rw [List.length_set]; exact l2
          revert e p
          generalize cs a y (env.set i (some (.prm (xa a)))) T1 = q1
          generalize cs' y (env.set i (some .non)) T1 = q2
          intro p e
          cases e with
          | @nx e2 T2 pe =>
            intro σ2 H2 O2 m1 m2 r3
            have m1 : σ2.length = F.σ.length := m1.trans s1l
            have m2 : e2.length = F.env.length := m2.trans e1l
            have p : PoS X W [] [] fr F (.nx ((e2.set i (some .non)).set i none) T2) D := p
            rw [List.set_set] at p
            exact p (σ2.set i none) H2 O2 (by rw [List.length_set]; exact m1) (by rw [List.length_set]; exact m2) (Cf.R.wipe (F := F) r3 (by omega) (by omega))
          | @bk e2 T2 pe =>
            intro σ2 H2 O2 m1 m2 r3
            have m1 : σ2.length = F.σ.length := m1.trans s1l
            have m2 : e2.length = F.env.length := m2.trans e1l
            have p : PoS X W [] [] fr F (.bk ((e2.set i (some .non)).set i none) T2) D := p
            rw [List.set_set] at p
            exact p (σ2.set i none) H2 O2 (by rw [List.length_set]; exact m1) (by rw [List.length_set]; exact m2) (Cf.R.wipe (F := F) r3 (by omega) (by omega))
          | @ct e2 T2 pe =>
            intro σ2 H2 O2 m1 m2 r3
            have m1 : σ2.length = F.σ.length := m1.trans s1l
            have m2 : e2.length = F.env.length := m2.trans e1l
            have p : PoS X W [] [] fr F (.ct ((e2.set i (some .non)).set i none) T2) D := p
            rw [List.set_set] at p
            exact p (σ2.set i none) H2 O2 (by rw [List.length_set]; exact m1) (by rw [List.length_set]; exact m2) (Cf.R.wipe (F := F) r3 (by omega) (by omega))
          | rt => exact p
          | ex pe => exact False.elim p
          | no => exact False.elim p
      · rw [if_neg hc] at p
        exact False.elim p)⟩⟩
end
end Ev

/-! Ev: f(lambda: e), where f calls what it got -/
namespace Ev
open PySem PySem.Spec PyProof.Rows L2
/-! ### the table grows -/
theorem R.tbl {g : Gh} {S : List Nat} {env : Ve} {T : Tp} {σ : L2.St} {H : Hp} {O : Addr → Prop} (r : Ev.R g S env T σ H O) {P c : Addr} {q : Str} {ps ps' : Array Value} (hm : (P, q) ∈ TBL) (hu : ∀ p ∈ TBL, p.1 = P → p.2 = q) (hP : H P = some (.tbl ps)) (hc : H c = none)
    (hps : TriplesOk ps'.toList) (hin : ∀ (pos : Pos) (cv : Value), codeAmong pos ps'.toList = some cv → cv = .ref c ∨ codeAmong pos ps.toList = some cv) :
    Ev.R g S env T σ (upd (upd H P (.tbl ps')) c (LamX.CodeO c q)) O ∧ Le (fz H O) (fz (upd (upd H P (.tbl ps')) c (LamX.CodeO c q)) O) := by
  obtain ⟨r1, l1, f1⟩ := R.new r (LamX.CodeO c q) hc
  have nPc : P ≠ c := ne_of_none hP hc
  have oP : O P := (r.tape.2 _ hm).1
  have e2 : upd (upd H P (.tbl ps')) c (LamX.CodeO c q) = upd (upd H c (LamX.CodeO c q)) P (.tbl ps') := by
    funext b
    by_cases h1 : b = c
    · rw [h1, upd_same, upd_ne (Ne.symm nPc), upd_same]
    · by_cases h2 : b = P
      · rw [h2, upd_ne nPc, upd_same, upd_same]
      · rw [upd_ne h1, upd_ne h2, upd_ne h2, upd_ne h1]
  have ef : fz (upd (upd H c (LamX.CodeO c q)) P (.tbl ps')) O = fz (upd H c (LamX.CodeO c q)) O := fz_upd oP
  have hP1 : upd H c (LamX.CodeO c q) P = some (.tbl ps) := by rw [upd_ne nPc]; exact hP
  have mP : g.mut P := .inr ⟨q, hm⟩
  rw [e2]
  have lst_ne : ∀ a vs, upd H c (LamX.CodeO c q) a = some (.lst vs) → a ≠ P := fun a vs h z => by rw [z, hP1] at h; cases h
  refine ⟨⟨r1.oh, fun a ha => ?_, r1.o0, r1.o1, fun a u n h => ?_, r1.len, r1.bd, ⟨?_, fun p hp => ?_⟩, fun i d hi h => ?_, fun i d hi h => ?_, r1.inj⟩, by rw [ef]; exact l1⟩
  · by_cases e : a = P
    · rw [e, upd_same]; simp
    · rw [upd_ne e]; exact r1.oin a ha
  · have e : a ≠ P := fun z => n (by rw [z]; exact mP)
    rw [upd_ne e]; exact r1.ext a u n h
  · rcases r1.tape.1 with z | ⟨p, ts, vs, a1, a2, a3, a4, a5⟩
    · exact .inl z
    · exact .inr ⟨p, ts, vs, a1, a2, a3, by rw [upd_ne (lst_ne p vs a4)]; exact a4, by rw [ef]; exact a5⟩
  · obtain ⟨b1, qs, b2, b3⟩ := r1.tape.2 p hp
    refine ⟨b1, ?_⟩
    rw [ef]
    by_cases e : p.1 = P
    · rw [e, upd_same, hu p hp e]
      rw [e, hP1] at b2
      cases b2
      rw [hu p hp e] at b3
      refine ⟨ps', rfl, hps, fun pos cv hcv => ?_⟩
      rcases hin pos cv hcv with z | z
      · exact ⟨c, z, f1⟩
      · exact b3.2 pos cv z
    · rw [upd_ne e]
      exact ⟨qs, b2, b3⟩
  · rw [ef]; exact r1.fro i d hi h
  · obtain ⟨a, a1, a2⟩ := r1.own i d hi h
    have ne : a ≠ P := fun z => a2.npt (by rw [z]; exact mP)
    exact ⟨a, a1, a2.o, a2.new, a2.npt, a2.at_.of (upd_ne ne) (by rw [ef]; exact Le.refl _)⟩
/-! ### the lambda is made -/
/-- what the making leaves of the heap -/
inductive Made (H : Hp) (P : Addr) (q : Str) (c : Addr) : Hp → Prop
  | hit {ps : Array Value} {pos : Pos} : H P = some (.tbl ps) → codeAmong pos ps.toList = some (.ref c) → Made H P q c H
  | new {ps ps' : Array Value} : H P = some (.tbl ps) → H c = none → TriplesOk ps'.toList → (∀ (pos : Pos) (cv : Value), codeAmong pos ps'.toList = some cv → cv = .ref c ∨ codeAmong pos ps.toList = some cv) → Made H P q c (upd (upd H P (.tbl ps')) c (LamX.CodeO c q))
section
variable {X : Cx} {pins : List (Addr × Obj)} {σ : L2.St} {H : Hp} {s : Shared}
theorem lam_new {cc PP : Addr} {ar : Arguments} {bd : Expr} {sc : Scope} {lp : Pos} {EE QQ : Value → Shared → Prop} {tb : Array Value} (J : Inv X pins σ H s) (TB : LamX.TabB X.base X.mg cc PP) (hcode : X.env.code = .ref cc)
    (hP : H PP = some (.tbl tb)) (ht : TriplesOk tb.toList) (hk : ∀ (pos : Pos) (cv : Value), codeAmong pos tb.toList = some cv → ∃ c, cv = .ref c)
    (hdef : defaultsOf ar X.env = ([], [])) (hfree : ∀ y ∈ sc.names, y.2 = .free → ∃ c, X.env.cells.lookup y.1 = some c)
    (fin : ∀ (ff c1 : Addr) (pm ct : Value) (H1 : Hp) (s1 : Shared), Inv X pins σ H1 s1 → Made H PP (X.env.qual ++ "<lambda>") c1 H1 →
      s1.heap.get? ff = some (PySem.W.kla_obj "<lambda>" (X.env.qual ++ "<lambda>") ar bd sc (cloFrom X.env.cells sc.names []) pm c1 ct) → H1 ff = none → ff ∉ frs X.stack → QQ (.ref ff) s1) :
    wpAny (model X.prog X.w) X.A (eval (.Lambda ar bd sc lp) X.env) QQ EE s := by
  refine PySem.W.kla_eval hdef ?_
  have bP := TB.bm.keeps J.bk
  have hP' := J.hok PP _ hP
  have off : ∀ ff, s.heap.objs.size ≤ ff → ff ∉ frs X.stack := fun ff hf z => by
    rcases List.mem_cons.mp (J.stkSub _ z) with e | e
    · have q := J.lt
      rw [← e] at q
      exact absurd q (Nat.not_lt.mpr hf)
    · exact J.nofs hf e
  cases hc : codeAmong lp tb.toList with
  | some cv =>
    obtain ⟨c1, e⟩ := hk lp cv hc
    subst e
    refine PySem.W.kla_makeFunctionHit (mg := X.mg) (c := cc) (P := PP) (ps := tb) (closure_ok hfree) J.ok.glob (J.mod.glob.keeps J.bk) hcode (TB.code.keeps J.bk) hP' ht hc bP fun ct h1 tk hx hsz => ?_
    exact fin h1.objs.size c1 ((X.mg "__name__").getD .none) ct H _ (J.kept fun b o e => Heap.get?_push_of_some _ (hx b o e)) (.hit hP hc) (Heap.get?_push_size _ rfl) (J.hok.fresh hsz) (off _ hsz)
  | none =>
    refine PySem.W.kla_makeFunction (mg := X.mg) (c := cc) (P := PP) (ps := tb) (closure_ok hfree) J.ok.glob (J.mod.glob.keeps J.bk) hcode (TB.code.keeps J.bk) hP' ht hc TB.gP bP fun c1 ct h1 tk hx hge hlt hrec htb => ?_
    obtain ⟨c2, oc, vs, t, e2, hoc, hd, hv⟩ := hrec
    cases e2
    have hsz : s.heap.objs.size ≤ h1.objs.size := Nat.le_trans hge (Nat.le_of_lt hlt)
    have nC : H c1 = none := J.hok.fresh hge
    have J1 := LamX.inv_table (t' := tk) (more := #[rawInt lp.line, rawInt lp.col, .ref c1]) (h' := h1.push (PySem.W.kla_obj "<lambda>" (X.env.qual ++ "<lambda>") ar bd sc (cloFrom X.env.cells sc.names []) ((X.mg "__name__").getD .none) c1 ct)) J hP
      (fun b o nb e => Heap.get?_push_of_some _ (hx b o nb e)) (Heap.get?_push_of_some _ htb) hge ⟨oc, vs, t, Heap.get?_push_of_some _ hoc, hd, hv⟩
    have eL : (tb ++ #[rawInt lp.line, rawInt lp.col, .ref c1]).toList = tb.toList ++ [rawInt lp.line, rawInt lp.col, .ref c1] := by simp
    refine fin h1.objs.size c1 ((X.mg "__name__").getD .none) ct _ _ J1 (.new hP nC (by rw [eL]; exact PySem.TriplesOk_snoc _ _ _ _ ht) fun pos cv hcv => ?_) (Heap.get?_push_size _ rfl) ?_ (off _ hsz)
    · rw [eL] at hcv
      exact (LamX.among_app _ ht hcv).symm
    · rw [upd_ne (Nat.ne_of_gt hlt), upd_ne (Nat.ne_of_gt (Nat.lt_of_lt_of_le (Heap.lt_size hP') hsz))]
      exact J.hok.fresh hsz
end
theorem R.made {g : Gh} {S : List Nat} {env : Ve} {T : Tp} {σ : L2.St} {H H1 : Hp} {O : Addr → Prop} (r : Ev.R g S env T σ H O) {P c : Addr} {q : Str} (hm : (P, q) ∈ TBL) (hu : ∀ p ∈ TBL, p.1 = P → p.2 = q) (m : Made H P q c H1) :
    Ev.R g S env T σ H1 O ∧ Le (fz H O) (fz H1 O) ∧ fz H1 O c = some (LamX.CodeO c q) := by
  obtain ⟨oP, ps0, hP0, ht0⟩ := r.tape.2 _ hm
  cases m with
  | @hit ps pos hP hc =>
    have e : ps0 = ps := by
      have := hP0.symm.trans hP
      cases this; rfl
    subst e
    obtain ⟨c0, e1, e2⟩ := ht0.2 pos _ hc
    cases e1
    exact ⟨r, Le.refl _, e2⟩
  | @new ps ps' hP hc h3 h4 =>
    obtain ⟨r1, l1⟩ := R.tbl r hm hu hP hc h3 h4
    refine ⟨r1, l1, ?_⟩
    rw [fz_out fun q => r.oin c q hc, upd_same]
/-! ### the lambda is called -/
/-- a result, the tape put to it -/
def reT (r : Res D) (T : Tp) : Res D := match r with
  | .ok d _ => .ok d T
  | .ex x _ => .ex x T
  | .no => .no
open Classical in
/-- the thing of slot i is the lambda of which φ speaks: calling it means r -/
noncomputable def callTh (φ : V → Hp → Prop) (r : Res D) (i : Nat) : Ex := fun env T => match env[i]? with
  | some (some (.prm φ')) => if φ' = φ then reT r T else .no
  | _ => .no
@[simp] theorem callTh_0 (φ : V → Hp → Prop) (r : Res D) (env : Ve) (T : Tp) : callTh φ r 0 (some (.prm φ) :: env) T = reT r T := by
  unfold callTh
  simp
theorem callTh_cases (φ : V → Hp → Prop) (r : Res D) (i : Nat) (env : Ve) (T : Tp) : callTh φ r i env T = .no ∨ (env[i]? = some (some (.prm φ)) ∧ callTh φ r i env T = reT r T) := by
  unfold callTh
  split
  · rename_i φ' he
    split
    · rename_i ep
      subst ep
      exact .inr ⟨he, rfl⟩
    · exact .inl rfl
  · exact .inl rfl
/-- whatever stands in slot i, called -/
def callT (r : Res D) (i : Nat) : Ex := fun env T => match env[i]? with
  | some (some _) => reT r T
  | _ => .no
theorem ce_th {φ : V → Hp → Prop} {r : Res D} {i : Nat} : CE i φ (callTh φ r i) (callT r i) := fun env T h => by
  unfold callTh callT
  rw [h, at_set h]
  simp
abbrev zCx (P : Program) (w : World) (K : PySem.W.Frag) (mg : Str → Option Value) (base : Heap) (Ng : List Str) (x : Str) (sg : Scope) (g : Addr) (cdg : Value) (A : Around) (outer : List Env) (s : Shared) (H : Hp) : Cx := cxOf C8.CX0 P w K mg base Ng x sg g cdg A outer s H C8.E0
section
variable {X : Cx} {pins : List (Addr × Obj)} {σ : L2.St} {H : Hp} {s : Shared}
theorem act_g {Ng : List Str} {qg : Str} {sg : Scope} {g f c1 : Addr} {cdg pm ct : Value} {ar : Arguments} {bd : Expr} {sc : Scope} {k i : Nat} {an : Str} {pn : List (Addr × Obj)} {xe : Value → Shared → Prop} {W : WX} {tb : XK → TE} {p1 p2 : Pos}
    (J : Inv X pins σ H s) (L : LamX.LamS X.env.scope sc) (hf : s.heap.get? f = some (PySem.W.kla_obj "<lambda>" (X.env.qual ++ "<lambda>") ar bd sc (cloFrom X.env.cells sc.names []) pm c1 ct)) (hfn : H f = none) (hfr : f ∉ frs X.stack)
    (hbind : bindArgs (PySem.W.kla_fn "<lambda>" (X.env.qual ++ "<lambda>") ar bd sc (cloFrom X.env.cells sc.names []) pm (.ref c1) ct) ⟨[], []⟩ = pure [])
    (tk : Takes ((zCx X.prog X.w X.K X.mg X.base Ng qg sg g cdg X.A X.stack s H).tr pn xe) W) (hr : RoomG (k + 1) (X.A.deeper (envOfC qg sg s.heap.objs.size g cdg)))
    (hbody : ∀ (A : Around) (outer : List Env) (s : Shared) (H : Hp) (E : XK), RoomG k (A.deeper (LamX.lamEnv X sc s.heap.objs.size f c1)) → PE (LamX.lamCx X A outer s H E sc f c1) bd (tb E))
    (hN : Ng[i]? = some an) (hv : Vis sg an) (hd : (an == ("__debug__" : Str)) = false) (hcd : (an == ("__classdict__" : Str)) = false) :
    PE ((zCx X.prog X.w X.K X.mg X.base Ng qg sg g cdg X.A X.stack s H).tr pn xe) (.Call (.Name an p1) [] [] p2)
      (fun σZ HZ Q => σZ[i]? = some (some (.ref f)) ∧ HZ c1 = some (LamX.CodeO c1 (X.env.qual ++ "<lambda>")) ∧ tb (fun cls d H' => W cls d σZ H') σ HZ Q) := ⟨fun pinsZ sZ σZ HZ Q IZ h => by
  obtain ⟨h1, h2, h3⟩ := h
  refine wpAny_Call_Name_kw (thn ((pe_var (pos := p1) (i := i) hN hv hd hcd).run pinsZ sZ σZ HZ (fun v H1 => v = .ref f ∧ H1 = HZ) IZ ⟨.ref f, h1, rfl, rfl⟩) fun u z hu => ?_)
  obtain ⟨v, H1, I1, rv, e1, e2⟩ := hu
  subst e1
  rw [e2] at I1
  have eu : u = Value.ref f := rv
  subst eu
  have fo := I1.base.keep f _ hf hfn hfr (fun q => nomatch (show f ∈ ([] : List Addr) from q))
  refine PySem.W.callWith_F0 ⟨_, _, _, _, fo⟩ ?_
  have un : Un (frs X.stack) [] H HZ s.heap z.heap := I1.base
  obtain ⟨⟨oc, vs, t, o1, o2, o3⟩, _⟩ := I1.hok c1 _ h2
  have hx : PassesAt (L2.CX X.prog X.w) ((zCx X.prog X.w X.K X.mg X.base Ng qg sg g cdg X.A X.stack s H).tr pn xe) σZ (WE W σZ) := passAt tk σZ
  have run : codeAny (model X.prog X.w) (X.A.deeper (envOfC qg sg s.heap.objs.size g cdg)) (.call (.ref f) ⟨[], []⟩) (CR (L2.CX X.prog X.w) (envOfC qg sg s.heap.objs.size g cdg :: X.stack) X.prog X.w HZ z Q (WE W σZ)) z := by
    refine PySem.W.kla_callFunE hr.toRoom.depth fo rfl L.co L.gen rfl ⟨c1, oc, vs, t, rfl, o1, o2, o3⟩ ?_
    rw [hbind]
    refine wpAny_pure (wpAny_newFunctionEnv (fun y hy => (L.own y hy).2) (fun y hy => absurd hy (by simp)) (fun hh n1 n2 => ⟨I1.nolimit.fresh _ n2, ?_⟩) L.kind)
    show codeAny _ _ (.expr bd (LamX.lamEnv X sc z.heap.objs.size f c1)) _ _
    have kp : ∀ b o, z.heap.get? b = some o → hh.get? b = some o := fun b o e => n2.extBut b o (Nat.ne_of_lt (Heap.lt_size e)) (Heap.get?_push_of_some _ e)
    have J2 : Inv (LamX.lamCx X (X.A.deeper (envOfC qg sg s.heap.objs.size g cdg)) (envOfC qg sg s.heap.objs.size g cdg :: X.stack) z HZ (WE W σZ) sc f c1) [] σ HZ { z with heap := hh, toks := z.toks + ([] : List (Str × Value)).length } :=
      LamX.lam_start2 J L I1.env0 hr.hd un n1 kp
    refine PySem.W.kla_codeExpr (wpAny_mono ((hbody _ _ z HZ (WE W σZ) (hr.deeper _)).run [] _ _ HZ Q J2 h3) (fun v s' hq => ?_) fun e s' hq => hq)
    obtain ⟨w', H', J', rv', q⟩ := hq
    exact ⟨w', H', J'.os, J'.bare, J'.base, J'.hok, rv', q⟩
  refine wpAny_call (codeAny_mono run fun r s' hq => ?_)
  match r, hq with
  | .error e, hq => exact hx pinsZ HZ z e s' I1 hq
  | .ok (.ret u), hq => exact I1.after hq
  | .ok .next, hq => exact False.elim hq
  | .ok .brk, hq => exact False.elim hq
  | .ok .cont, hq => exact False.elim hq⟩
end
/-! ### data without the tape -/
mutual
def ntp : D → Bool
  | .tape => false
  | .prm _ => false
  | .tup ds => ntps ds
  | .lst ds => ntps ds
  | .scr ds => ntps ds
  | .dct _ [] => true
  | .dct _ (_ :: _) => false
  | .non => true
  | .bl _ => true
  | .int _ => true
  | .str _ => true
  | .pin _ => true
  | .fnc _ => true
def ntps : List D → Bool
  | [] => true
  | d :: ds => ntp d && ntps ds
end
mutual
theorem Rep.ntp {g g' : Gh} {H : Hp} (h1 : g'.K = g.K) (h2 : g'.w = g.w) : ∀ {v : V} {d : D}, Ev.ntp d = true → Rep g H v d → Rep g' H v d
  | _, .non, _, .non => .non
  | _, .bl _, _, .bl b => .bl b
  | _, .int _, _, .int i => .int i
  | _, .str _, _, .str x => .str x
  | _, .tup ds, n, .tup h r => .tup (by rw [h1]; exact h) (RepL.ntp h1 h2 (by unfold Ev.ntp at n; exact n) r)
  | _, .lst ds, n, .lst h r => .lst h (RepL.ntp h1 h2 (by unfold Ev.ntp at n; exact n) r)
  | _, .scr ds, n, .scr h r => .scr (by rw [h1]; exact h) (RepL.ntp h1 h2 (by unfold Ev.ntp at n; exact n) r)
  | _, .dct t [], _, .dct h q r => .dct h (by rw [h2]; exact q) (by cases r; exact .nil)
  | _, .dct t (_ :: _), n, _ => by unfold Ev.ntp at n; cases n
  | _, .tape, n, _ => by unfold Ev.ntp at n; cases n
  | _, .prm _, n, _ => by unfold Ev.ntp at n; cases n
  | _, .pin _, _, .pin h => .pin h
  | _, .fnc _, _, .fnc h => .fnc (by rw [h1]; exact h)
theorem RepL.ntp {g g' : Gh} {H : Hp} (h1 : g'.K = g.K) (h2 : g'.w = g.w) : ∀ {vs : List V} {ds : List D}, ntps ds = true → RepL g H vs ds → RepL g' H vs ds
  | _, [], _, .nil => .nil
  | _, d :: ds, n, .cons h r => by
    unfold ntps at n
    rw [Bool.and_eq_true] at n
    exact .cons (Rep.ntp h1 h2 n.1 h) (RepL.ntp h1 h2 n.2 r)
end
def cutE (cs : List Nat) : Nat → Ve → Ve
  | _, [] => []
  | k, x :: r => (if cs.contains k then x else none) :: cutE cs (k + 1) r
theorem cutE_len (cs : List Nat) : ∀ (k : Nat) (env : Ve), (cutE cs k env).length = env.length
  | _, [] => rfl
  | k, x :: r => by show (cutE cs (k + 1) r).length + 1 = _; rw [cutE_len cs (k + 1) r]; rfl
theorem cutE_get {cs : List Nat} : ∀ {k i : Nat} {env : Ve} {d : D}, (cutE cs k env)[i]? = some (some d) → (k + i) ∈ cs ∧ env[i]? = some (some d)
  | k, i, [], d, h => by simp [cutE] at h
  | k, 0, x :: r, d, h => by
    have h : (if cs.contains k then x else none) = some d := by simpa [cutE] using h
    split at h
    · rename_i q
      exact ⟨by simpa using q, by rw [h]; rfl⟩
    · cases h
  | k, i + 1, x :: r, d, h => by
    have h : (cutE cs (k + 1) r)[i]? = some (some d) := by simpa [cutE] using h
    obtain ⟨a, b⟩ := cutE_get h
    exact ⟨by rw [show k + (i + 1) = k + 1 + i by omega]; exact a, by simpa using b⟩
def ntpE (cs : List Nat) (env : Ve) : Bool := cs.all fun i => match env[i]? with
  | some (some d) => ntp d
  | _ => true
theorem ntpE_at {cs : List Nat} {env : Ve} (h : ntpE cs env = true) {i : Nat} {d : D} (hi : i ∈ cs) (hd : env[i]? = some (some d)) : ntp d = true := by
  unfold ntpE at h
  rw [List.all_eq_true] at h
  have := h i hi
  rw [hd] at this
  exact this
def noEx (r : Res D) : Res D := match r with
  | .ex _ _ => .no
  | r => r
/-- f(lambda: e) -/
def lamE (cs : List Nat) (cw : Res D → Tp → Res D) (ce : Ex) : Ex := fun env T => if ntpE cs env then noEx (cw (ce (cutE cs 0 env) none) T) else .no
/-- a def's promise that calls what it is handed -/
structure CalW (P : Program) (w : World) (K : PySem.W.Frag) (mg : Str → Option Value) (base : Heap) (x : Str) (cw : Res D → Tp → Res D) (k : Nat) : Prop where
  ex : ∃ g : Addr, mg x = some (.ref g) ∧ PySem.W.keepIn K (.ref g) = true ∧ ∀ (A : Around) (outer : List Env) (s : Shared) (H : Hp) (f : Addr) (Q : VK) (r : Res D) (φ : V → Hp → Prop) (pt : Option Addr) (O : Addr → Prop) (T : Tp), RoomG k A → Env0 P w K mg base A outer s H → K.In s.heap → (∀ a, O a → H a ≠ none) → TapeOk (gOf K w pt H O) T H O →
    (∀ H', (∀ a o, fz H O a = some o → H' a = some o) → φ (.ref f) H') →
    (∀ (Ng : List Str) (qg : Str) (sg : Scope) (g : Addr) (cdg : Value) (an : Str) (i : Nat) (pn : List (Addr × Obj)) (xe : Value → Shared → Prop) (W : WX) (S : List Nat) (p1 p2 : Pos) (j : Nat), j + 2 = k → Ng[i]? = some an → Vis sg an → (an == ("__debug__" : Str)) = false → (an == ("__classdict__" : Str)) = false → RoomG (j + 1) (A.deeper (envOfC qg sg s.heap.objs.size g cdg)) →
      Takes ((zCx P w K mg base Ng qg sg g cdg A outer s H).tr pn xe) W → i ∉ S → SE ((zCx P w K mg base Ng qg sg g cdg A outer s H).tr pn xe) W S (.Call (.Name an p1) [] [] p2) (callTh φ r i) .fro) →
    PoC mg (gOf K w pt H O) false H O (cw r T) Q (fun _ _ _ => False) → codeAny (model P w) A (.call (.ref g) ⟨[.ref f], []⟩) (CR C8.CX0 outer P w H s Q C8.E0) s
section
variable {X : Cx} {W : WX} {S : List Nat} {ce : Ex} {cw : Res D → Tp → Res D} {cs : List Nat}
theorem se_lam {x : Str} {c P : Addr} {k : Nat} {ar : Arguments} {bd : Expr} {sc : Scope} {p lp pos : Pos} (CW : CalW X.prog X.w X.K X.mg X.base x cw (k + 2)) (hr : RoomG (k + 2) X.A) (hg : Gl X x) (TB : LamX.TabB X.base X.mg c P) (hcode : X.env.code = .ref c)
    (hmT : (P, X.env.qual ++ "<lambda>") ∈ TBL) (hu : ∀ p ∈ TBL, p.1 = P → p.2 = X.env.qual ++ "<lambda>") (L : LamX.LamS X.env.scope sc) (hdef : defaultsOf ar X.env = ([], []))
    (hbind : ∀ (q : Str) (cl : List (Str × Addr)) (pm cv ct : Value), bindArgs (PySem.W.kla_fn "<lambda>" q ar bd sc cl pm cv ct) ⟨[], []⟩ = pure []) (hcs : ∀ i, i ∈ cs → i ∉ S)
    (hb : ∀ (A : Around) (outer : List Env) (s : Shared) (H : Hp) (E : XK) (f c1 : Addr), RoomG k (A.deeper (LamX.lamEnv X sc s.heap.objs.size f c1)) → SE (LamX.lamCx X A outer s H E sc f c1) (fun cls d _ H => E cls d H) [] bd ce .fro)
    (hdb : (x == ("__debug__" : Str)) = false := by decide) :
    SE X W S (.Call (.Name x p) [.Lambda ar bd sc lp] [] pos) (lamE cs cw ce) .fro := ⟨⟨fun pins s σ H Q I h => by
  obtain ⟨g, hm, hk, run⟩ := CW.ex
  obtain ⟨F, T, O, ft, r, p⟩ := h
  have p : Po X W S .fro F H O (if ntpE cs F.env then noEx (cw (ce (cutE cs 0 F.env) none) T) else .no) Q := p
  by_cases hn : ntpE cs F.env = true
  · rw [if_pos hn] at p
    obtain ⟨oP, ps, hP, ht⟩ := r.tape.2 _ hmT
    refine wpAny_Call_Name_kw (ld_glob I hg hm (PySem.W.callWith_K (h₀ := X.base) I.ok.mod.kin hk ?_ (by rfl) (by rfl)) hdb)
    show wpAny _ _ (spliced ((false, eval (.Lambda ar bd sc lp) X.env) :: backTo pos (starEach [] X.env))) _ _ s
    refine Calls.spliced_cons (lam_new I TB hcode hP ht.1 (fun pos cv e => let ⟨c, a, _⟩ := ht.2 pos cv e; ⟨c, a⟩) hdef (L.has I.ok) fun f c1 pm ct H1 s1 I1 md hf hfn hfr => Calls.spliced_nil ⟨I1.kIn, ?_⟩)
    obtain ⟨r1, l1, hc1⟩ := R.made r hmT hu md
    generalize hrr : ce (cutE cs 0 F.env) none = rr at p
    have cgK : (gOf X.K X.w F.g.pt H1 O).K = F.g.K := ft.k.symm
    have cgw : (gOf X.K X.w F.g.pt H1 O).w = F.g.w := ft.w.symm
    obtain ⟨φ, hφ⟩ : ∃ φ : V → Hp → Prop, φ = fun v Hf => v = .ref f ∧ Hf c1 = some (LamX.CodeO c1 (X.env.qual ++ "<lambda>")) ∧ ∀ i, i ∈ cs → ∀ d, F.env[i]? = some (some d) → ∃ u, σ[i]? = some (some u) ∧ Rep (gOf X.K X.w none H1 O) Hf u d := ⟨_, rfl⟩
    refine wpAny_call (codeAny_mono (run X.A X.stack s1 H1 f Q rr φ F.g.pt O T hr I1.env0 I1.kIn r1.oin (r1.tape.cg cgK cgw rfl) (fun H' l' => ?_) (fun Ng qg sg g2 cdg an i pn xe W2 S2 p1 p2 j hj hN hv hd hcd hr2 tk hi => ?_) ?_) fun r s2 hq => ?_)
    · rw [hφ]
      refine ⟨rfl, l' _ _ hc1, fun i hi d hd => ?_⟩
      obtain ⟨a1, a2⟩ := ft.at hd
      obtain ⟨u, b1, b2⟩ := r1.fro i d (ft.out (hcs i hi) hd) a1
      exact ⟨u, a2 _ b1, Rep.le (fun a o e => l' a o e) (Rep.ntp ft.k.symm ft.w.symm (ntpE_at hn hi hd) b2)⟩
    · obtain rfl : j = k := by omega
      refine ⟨peMono (act_g (k := j) (tb := fun E => tE X (fun cls d _ H => E cls d H) [] ce .fro) I1 L hf hfn hfr (hbind _ _ _ _ _) tk hr2 (fun A outer s H E hr3 => (hb A outer s H E f c1 hr3).pe) hN hv hd hcd) fun σZ HZ Q2 h2 => ?_⟩
      obtain ⟨F2, T2, O2, ft2, r2, pp⟩ := h2
      have pp : Po X W2 S2 .fro F2 HZ O2 (callTh φ rr i F2.env T2) Q2 := pp
      rcases callTh_cases φ rr i F2.env T2 with ec | ⟨he, ec⟩
      · rw [ec] at pp
        exact False.elim pp
      · rw [ec] at pp
        · obtain ⟨a1, a2⟩ := ft2.at he
          obtain ⟨v, b1, b2⟩ := r2.fro i _ (ft2.out hi he) a1
          have hv : φ v (fz HZ O2) := by
            cases b2 with
            | prm h => exact h _ fun _ _ e => e
          rw [hφ] at hv
          obtain ⟨ev, hcode2, hcap⟩ := hv
          subst ev
          refine ⟨a2 _ b1, fz_le _ _ hcode2, ?_⟩
          have rl : Ev.R (gOf X.K X.w none HZ O2) [] (cutE cs 0 F.env) none σ HZ O2 := by
            refine ⟨r2.oin, r2.oin, fun a h => h, fun a h => .inl h, Ext.refl _ _, ?_, (fun i h => by cases h), ⟨.inl ⟨rfl, rfl⟩, r2.tape.2⟩, fun i d _ h => ?_, (fun i d h => by cases h), (fun i j d d' p h => by cases h)⟩
            · rw [cutE_len, ft.l, ft.s]
            · obtain ⟨m, e⟩ := cutE_get h
              rw [Nat.zero_add] at m
              obtain ⟨u, u1, u2⟩ := hcap i m d e
              exact ⟨u, u1, Rep.pt0 (g := gOf X.K X.w none H1 O) (g' := gOf X.K X.w none HZ O2) rfl rfl rfl u2⟩
          refine ⟨⟨gOf X.K X.w none HZ O2, cutE cs 0 F.env, [], σ, [], []⟩, none, O2, ⟨rfl, rfl, rfl, by show (cutE cs 0 F.env).length = σ.length; rw [cutE_len, ft.l, ft.s], fun i h => by cases h⟩, ?_, ?_⟩
          · show Ev.R _ ([] ++ []) (cutE cs 0 F.env ++ []) none (σ ++ []) HZ O2
            rw [List.append_nil, List.append_nil, List.append_nil]
            exact rl
          · show Po X _ [] .fro _ HZ O2 (ce (cutE cs 0 F.env) none) Q2
            rw [hrr]
            -- what holds behind the lambda's body, for the def that called it
            have back : ∀ (T3 : Tp) (H3 : Hp) (O3 : Addr → Prop), Ev.R (gOf X.K X.w none HZ O2) ([] ++ []) (cutE cs 0 F.env ++ []) T3 (σ ++ []) H3 O3 → F2.R S2 T2 H3 O2 ∧ Le (fz HZ O2) (fz H3 O2) ∧ Le (fz H3 O3) (fz H3 O2) := fun T3 H3 O3 r3 => by
              have sub : ∀ a, O2 a → O3 a := r3.o0
              have l3 : Le (fz H3 O3) (fz H3 O2) := fz_mono fun a o n h => ⟨fun q => n (sub a q), h⟩
              have ex2 : Ext F2.g.mut HZ H3 := fun a o n h => r3.ext a o (fun m => n (m.elim (fun z => by cases z) .inr)) h
              have tab2 : TblOk H3 O2 := fun p hp => by
                obtain ⟨_, qs, t1, t2⟩ := r3.tape.2 p hp
                exact ⟨(r2.tape.2 p hp).1, qs, t1, t2.le l3⟩
              have notT : ∀ p vs, HZ p = some (.lst vs) → ¬ (gOf X.K X.w none HZ O2).mut p := fun p vs e m => by
                rcases m with z | ⟨q, z⟩
                · cases z
                · obtain ⟨_, qs, t1, _⟩ := r2.tape.2 _ z
                  rw [e] at t1; cases t1
              have le2 : Le (fz HZ O2) (fz H3 O2) := fz_mono fun a o n h => ⟨n, r3.ext a o (fun m => n (m.elim (fun z => by cases z) fun ⟨q, z⟩ => (r2.tape.2 _ z).1)) h⟩
              have tap2 : TapeOk F2.g T2 H3 O2 := ⟨by
                rcases r2.tape.1 with z | ⟨p, ts, vs, e1, e2, e3, e4, e5⟩
                · exact .inl z
                · exact .inr ⟨p, ts, vs, e1, e2, e3, r3.ext p _ (notT p vs e4) e4, e5.le le2⟩, tab2⟩
              obtain ⟨r4, l4⟩ := R.call r2 ex2 tap2
              exact ⟨r4, l4, l3⟩
            cases rr with
            | ok d T3 =>
              intro v H3 O3 r3 l3 q3
              obtain ⟨r4, l4, l5⟩ := back T3 H3 O3 r3
              exact pp v H3 O2 r4 l4 (Rep.pt0 (g := gOf X.K X.w none HZ O2) rfl ft2.k ft2.w (Rep.le l5 q3))
            | ex y T3 =>
              intro H3 O3 r3
              obtain ⟨r4, l4, l5⟩ := back T3 H3 O3 r3
              have z := pp H3 O2 r4
              rw [ft2.s] at z
              exact z
            | no => exact False.elim pp
    · cases ecw : cw rr T with
      | ok d T2 =>
        rw [ecw] at p
        intro H2 v x2 rt
        obtain ⟨t2, rt⟩ := rt
        obtain ⟨r2, l2⟩ := R.call r1 x2 (t2.cg cgK.symm cgw.symm rfl)
        exact p v H2 O r2 (l1.trans l2) (Rep.cg cgK.symm cgw.symm rfl rt)
      | ex y T2 => rw [ecw] at p; exact False.elim p
      | no => rw [ecw] at p; exact False.elim p
    · match r, hq with
      | .error e, hq => exact (show False from hq).elim
      | .ok (.ret u), hq => exact I1.after hq
      | .ok .next, hq => exact False.elim hq
      | .ok .brk, hq => exact False.elim hq
      | .ok .cont, hq => exact False.elim hq
  · rw [if_neg hn] at p
    exact False.elim p⟩⟩
end
end Ev

/-! Ev: the def that calls what it got; the defs that make lambdas -/
namespace Ev
open PySem PySem.Spec PyProof.Rows L2
section
variable {P : Program} {w : World} {K : PySem.W.Frag} {mg : Str → Option Value} {base : Heap} {x : Str} {st : Stmt} {ps N : List Str} {fr : Bool} {S' : List Nat} {k : Nat}
/-- from what is asked of the call to what is asked of the body -/
theorem body_start {CX : CXT} {E : XK} {pt : Option Addr} {O : Addr → Prop} {H : Hp} {ds : List D} {vs : List V} {T : Tp} {b : Sx} {f : Addr} {cdv : Value} {A : Around} {outer : List Env} {s : Shared} {Q : VK} {W : WX} {EE : XK} (hps : ps.length ≤ N.length) (hl : ds.length = ps.length) (hE : ∀ y σ H, EE ((mg y).getD .none) none H → W ((mg y).getD .none) none σ H)
    (h1 : ∀ a, O a → H a ≠ none) (h2 : TapeOk (gOf K w pt H O) T H O) (h3 : RepL (gOf K w pt H O) (fz H O) vs ds) (h4 : PoC mg (gOf K w pt H O) fr H O (fnD fr ps.length N.length b ds T) Q EE) :
    tS (cxOf CX P w K mg base N x (defScope st) f cdv A outer s H E) W [] S' [] fr b { nx := fun _ H' => Q .non H', rt := Q } (start N vs) H := by
  refine ⟨⟨gOf K w pt H O, ds.map some ++ List.replicate (N.length - ps.length) none, [], start N vs, [], []⟩, T, O, ⟨rfl, rfl, rfl, ?_, fun i h => by cases h⟩, ?_, ?_⟩
  · show (ds.map some ++ List.replicate (N.length - ps.length) none).length = (start N vs).length
    unfold L2.start
    simp [h3.len, hl]
  · show R (gOf K w pt H O) ([] ++ []) ((ds.map some ++ List.replicate (N.length - ps.length) none) ++ []) T (start N vs ++ []) H O
    rw [List.append_nil, List.append_nil, List.append_nil]
    unfold L2.start
    rw [h3.len, hl]
    exact R_start h1 h2 h3
  · unfold fnD at h4
    rw [if_pos hl] at h4
    show PoS _ _ S' [] fr _ (b (ds.map some ++ List.replicate (N.length - ps.length) none) T) _
    cases eb : b (ds.map some ++ List.replicate (N.length - ps.length) none) T with
    | no => rw [eb] at h4; exact h4
    | bk _ _ => rw [eb] at h4; exact False.elim h4
    | ct _ _ => rw [eb] at h4; exact False.elim h4
    | nx env T2 =>
      rw [eb] at h4
      intro σ2 H2 O2 a1 a2 r
      cases fr with
      | true => exact False.elim h4
      | false => exact h4 H2 .non r.ext ⟨h2.down r.tape r.o0, .non⟩
    | rt d T2 =>
      rw [eb] at h4
      intro v H2 O2 re rt
      have l : Le (fz H2 O2) (fz H2 O) := fz_mono fun a o n h => ⟨fun q => n (re.o0 a q), h⟩
      cases fr with
      | false => exact h4 H2 v re.ext ⟨h2.down re.tape re.o0, Rep.le l rt⟩
      | true =>
        obtain ⟨p, ev, ow⟩ := rt
        have l2 : Le (fz H2 O2) (fz H2 fun a => O a ∨ a = p) := fz_mono fun a o n h => ⟨fun q => by
          rcases q with q | q
          · exact n (re.o0 a q)
          · exact n (by rw [q]; exact ow.o), h⟩
        refine h4 H2 v re.ext ⟨p, ev, ow.new, ?_, ow.at_.of rfl l2⟩
        exact re.tape.of (fun q e o => ⟨.inl (h2.mutO e), rfl⟩) l2
    | ex y env T2 =>
      rw [eb] at h4
      intro σ2 H2 O2 a1 a2 r
      exact hE y _ H2 (h4 H2 r.ext (h2.down r.tape r.o0))
/-- the def that calls what it got -/
def cwD (N : Nat) (b' : Res D → Sx) : Res D → Tp → Res D := fun r T => fnD false 1 N (b' r) [.non] T
theorem cwD_eq {φ : V → Hp → Prop} {N : Nat} {b b' : Sx} (h : CS 0 φ b b') (T : Tp) : fnD false 1 N b [.prm φ] T = fnD false 1 N b' [.non] T := by
  have z := h ([D.prm φ].map some ++ List.replicate (N - 1) none) T rfl
  have z : RS 0 φ (b ([D.prm φ].map some ++ List.replicate (N - 1) none) T) (b' ([D.non].map some ++ List.replicate (N - 1) none) T) := z
  unfold fnD
  rw [if_pos (show [D.prm φ].length = 1 from rfl), if_pos (show [D.non].length = 1 from rfl)]
  revert z
  generalize b ([D.prm φ].map some ++ List.replicate (N - 1) none) T = r
  generalize b' ([D.non].map some ++ List.replicate (N - 1) none) T = r'
  intro z
  cases z <;> rfl
theorem calW_of {a : Str} {b : (V → Hp → Prop) → Res D → Sx} {b' : Res D → Sx} (G : Def0 K mg x st [a]) (Sc : FnScope N [a] (defScope st)) (hv : Vis (defScope st) a) (hd : (a == ("__debug__" : Str)) = false) (hcd : (a == ("__classdict__" : Str)) = false)
    (hpar : ∀ φ r, CS 0 φ (b φ r) (b' r))
    (body : ∀ (f : Addr) (cdv : Value) (A : Around) (outer : List Env) (s : Shared) (H : Hp) (φ : V → Hp → Prop) (r : Res D), RoomG (k + 1) (A.deeper (envOfC x (defScope st) s.heap.objs.size f cdv)) →
      (∀ (pn : List (Addr × Obj)) (xe : Value → Shared → Prop) (W : WX) (S : List Nat) (p1 p2 : Pos), Takes ((zCx P w K mg base N x (defScope st) f cdv A outer s H).tr pn xe) W → 0 ∉ S → SE ((zCx P w K mg base N x (defScope st) f cdv A outer s H).tr pn xe) W S (.Call (.Name a p1) [] [] p2) (callTh φ r 0) .fro) →
      SSs (zCx P w K mg base N x (defScope st) f cdv A outer s H) W0 [] S' [] false (defBody st) (b φ r)) :
    CalW P w K mg base x (cwD N.length b') (k + 2) := by
  obtain ⟨f, fd, FU, hm, hb⟩ := G.ex
  have hkp := FU.kp
  obtain ⟨oc, od, kV, doc, pm, an, cdv, ct, osl, rfl, lk, hcc⟩ := FU.ex
  have hps : [a].length ≤ N.length := by
    have z := congrArg List.length Sc.pre
    rw [List.length_take] at z
    omega
  have hN : N[0]? = some a := by
    have z := congrArg List.head? Sc.pre
    cases N with
    | nil => cases hps
    | cons u r => simpa using z
  refine ⟨f, hm, hkp, fun A outer s H ff Q r φ pt O T hr e0 hK h1 h2 hφ rule h4 => ?_⟩
  have BT := hb s [.ref ff] hK rfl
  refine LamX.run_ofS lk hcc Sc (us := [.ref ff]) (vs := [.ref ff]) hr.toRoom e0 (by simpa using BT) (.cons rfl .nil) rfl fun _ => ?_
  have bs := body f cdv A outer s H φ r (hr.deeper _) (fun pn xe W S p1 p2 tk hi => rule N x (defScope st) f cdv a 0 pn xe W S p1 p2 k rfl hN hv hd hcd (hr.deeper _) tk hi)
  refine ⟨_, bs.ps, ?_⟩
  refine body_start (ps := [a]) (ds := [.prm φ]) (EE := fun _ _ _ => False) hps rfl (fun _ _ _ h => h.elim) h1 h2 (.cons (.prm fun H' l => hφ H' l) .nil) ?_
  show PoC mg (gOf K w pt H O) false H O (fnD false 1 N.length (b φ r) [.prm φ] T) Q _
  rw [cwD_eq (hpar φ r)]
  exact h4
/-- a def of the module whose code object is known: it makes lambdas -/
structure DefC (K : PySem.W.Frag) (mg : Str → Option Value) (x : Str) (st : Stmt) (ps : List Str) (c : Addr) : Prop where
  ex : ∃ (f : Addr) (oc : Value) (od : Option Addr) (kV doc pm : Value) (an : Option Addr) (ct : Value) (osl : Array (Option Value)), K.lookup f = some ⟨oc, od, .func (PySem.W.fnOf x x (defArgs st) (defBody st) (defScope st) .none kV doc pm an (.ref c) ct), osl⟩ ∧ PySem.W.codeIn K (.ref c) x = true ∧
    PySem.W.keepIn K (.ref f) = true ∧ mg x = some (.ref f) ∧ Binds K (PySem.W.fnOf x x (defArgs st) (defBody st) (defScope st) .none kV doc pm an (.ref c) ct) ps []
theorem cal_ofC {c : Addr} {b : Sx} (G : DefC K mg x st ps c) (Sc : FnScope N ps (defScope st))
    (body : ∀ (f : Addr) (A : Around) (outer : List Env) (s : Shared) (H : Hp) (E : XK), RoomG k (A.deeper (envOfC x (defScope st) s.heap.objs.size f (.ref c))) →
      SSs (cxOf (L2.CX P w) P w K mg base N x (defScope st) f (.ref c) A outer s H E) (fun cls d _ H => E cls d H) [] S' [] fr (defBody st) b) :
    Cal P w K mg base x (fnD fr ps.length N.length b) fr (k + 1) := by
  obtain ⟨f, oc, od, kV, doc, pm, an, ct, osl, lk, hcc, hkp, hm, hb⟩ := G.ex
  have hps : ps.length ≤ N.length := by
    have z := congrArg List.length Sc.pre
    rw [List.length_take] at z
    omega
  have hlen : ∀ vs H Q E, spOf K w mg (fnD fr ps.length N.length b) fr vs H Q E → vs.length = ps.length := fun vs H Q E h => by
    obtain ⟨pt, O, ds, T, h1, h2, h3, h4⟩ := h
    rw [h3.len]
    unfold fnD at h4
    by_cases q : ds.length = ps.length
    · exact q
    · rw [if_neg q] at h4; exact False.elim h4
  refine ⟨f, _, ps, ⟨hlen, fun A outer s H args us vs Q E hr e0 hbt hvs h => ?_⟩, hm, hkp, hb⟩
  have hl1 := hlen _ _ _ _ h
  refine LamX.run_ofS lk hcc Sc hr.toRoom e0 hbt hvs hl1 fun _ => ⟨_, (body f A outer s H E (hr.deeper _)).ps, ?_⟩
  obtain ⟨pt, O, ds, T, h1, h2, h3, h4⟩ := h
  exact body_start hps (h3.len.symm.trans hl1) (fun _ _ _ h => h) h1 h2 h3 h4
end
end Ev

/-! Ev: the law's call where tables of code objects are filled -/
namespace Ev
open PySem PySem.Spec PyProof.Rows L2
/-- what the makers of lambdas ask of the heap -/
def Tbs (base : Heap) (mg : Str → Option Value) : Prop := ∀ t ∈ TCS, LamX.TabB base mg t.1 t.2.1
section
variable {P : Program} {w : World} {K : PySem.W.Frag} {mg mb : Str → Option Value} {CX : CXT} {k : Nat} {fa a : Addr} {fd : FuncData} {x : Str} {sp : Sp} {s₁ : Shared} {vs : List Value} {ns : List Int}
def isTb (b : Addr) : Prop := ∃ t ∈ TCS, t.2.1 = b
theorem law_coreT {H : Hp} (KX : K.In s₁.heap) (hns : s₁.heap.Ns mainGlobals mg) (hb : s₁.heap.Ns builtinsNs mb) (hbb : ∀ x : Str, x ≠ "__name__" → mb x = bootBuiltins x) (hlim : s₁.heap.NoLimit) (hg : s₁.gens = #[])
    (tab : ∀ b, isTb b → s₁.heap.get? b = some ⟨.none, none, .fields #[], #[]⟩) (tabK : ∀ b, isTb b → K.lookup b = none) (cod : ∀ t ∈ TCS, PySem.W.codeHdIn K t.1 t.2.1 = true)
    (bmn : ∃ (bm : Addr) (ob : Obj), mg "__builtins__" = some (.ref bm) ∧ bm ≠ builtinsNs ∧ s₁.heap.get? bm = some ob ∧ ob.cls = .type "module" ∧ ob.dict = some builtinsNs ∧ ob.data = .plain)
    (ha : s₁.heap.get? a = some { cls := .type "list", data := .seq vs.toArray }) (hr : Room k callerA)
    (F : ∀ base : Heap, K.In base → base.Ns mainGlobals mg → Tbs base mg → FnG P w K mg base CX k fa fd [x] sp) (hbind : ∀ (s : Shared) (u : Value), BindsTo s fd ⟨[u], []⟩ [(x, u)])
    (hsp : sp [.ref a] H (fun v _ => v = .bl true) fun _ _ _ => False) (hCX : ∀ H e s', CX [] H s₁ (fun _ _ _ => False) e s' → False)
    (hT : Tb0 H) (hO : ∀ b u, H b = some u → isTb b ∨ ∃ o xs, u = .frz o (.lst xs)) (hok : HOk P w H s₁.heap) (hA : ∀ b, H b ≠ none → b = a ∨ isTb b) (hK : H a ≠ none → K.lookup a = none) :
    codeAny (model P w) callerA (.call (.ref fa) ⟨[.ref a], []⟩) (fun r s' => r = .ok (.ret (.bool true)) ∧ OldK s₁.heap s'.heap ∧ s'.os = s₁.os ∧ AllBare s'.gens) s₁ := by
  have un : ∀ {b : Addr} {o : Obj}, s₁.heap.get? b = some o → (∀ q n, o.data ≠ .seq q n) → o.data ≠ .fields #[] → H b = none := fun {b o} e n1 n2 => Classical.byContradiction fun z => by
    rcases hA b z with q | q
    · subst q
      rw [ha] at e
      exact n1 _ _ (congrArg Obj.data (Option.some.inj e)).symm
    · rw [tab b q] at e
      exact n2 (congrArg Obj.data (Option.some.inj e)).symm
  have unD : ∀ {b : Addr} {o : Obj} {es : Array DictEntry} {ep : Nat}, s₁.heap.get? b = some o → o.data = .dict es ep → H b = none := fun {b o es ep} e d => un e (fun q n z => by rw [d] at z; cases z) fun z => by rw [d] at z; cases z
  have nsK : ∀ {b : Addr} {m : Str → Option Value}, s₁.heap.Ns b m → (hidT s₁.heap H).Ns b m := fun {b m} ⟨o, es, ep, e, d, r⟩ => ⟨o, es, ep, hidT_get e (unD e d), d, r⟩
  have KB : K.In (hidT s₁.heap H) := fun b o e => hidT_get (KX b o e) (Classical.byContradiction fun z => by
    rcases hA b z with q | q
    · subst q
      rw [hK z] at e; cases e
    · rw [tabK b q] at e; cases e)
  have MB : Mod K mg (hidT s₁.heap H) := ⟨KB, nsK hns, ⟨mb, nsK hb, hbb⟩, let ⟨mc, h1, h2⟩ := hlim; ⟨mc, nsK h1, h2⟩⟩
  have TB : Tbs (hidT s₁.heap H) mg := fun t ht => by
    have tt := tab t.2.1 ⟨t, ht, rfl⟩
    have nG : mainGlobals ≠ t.2.1 := fun z => by
      obtain ⟨o, es, ep, e, d, _⟩ := hns
      rw [z, tt] at e
      have e := (congrArg Obj.data (Option.some.inj e)).trans d
      cases e
    obtain ⟨bm, ob, m1, m2, m3, m4, m5, m6⟩ := bmn
    refine ⟨PySem.W.codeHd_of_K KB (cod t ht), ⟨bm, ob, m1, m2, fun z => ?_, fun z => ?_, hidT_get m3 (un m3 (fun q n z => by rw [m6] at z; cases z) fun z => by rw [m6] at z; cases z), m4, m5, m6⟩, nG⟩
    · obtain ⟨o, es, ep, e, d, _⟩ := hns
      rw [z, e] at m3
      rw [← Option.some.inj m3, d] at m6
      cases m6
    · rw [z, tt] at m3
      rw [← Option.some.inj m3] at m6
      cases m6
  have E0 : Env0 P w K mg (hidT s₁.heap H) callerA [] s₁ H := ⟨rfl, MB, fun b o e => of_hidT e, Nat.le_of_eq (hidT_size _ _), trivial, fun b hb => absurd (show b ∈ ([] : List Addr) from hb) (by simp), hok, .of_eq hg⟩
  refine codeAny_mono ((F _ KB (nsK hns) TB).run callerA [] s₁ H ⟨[.ref a], []⟩ [.ref a] [.ref a] _ _ ⟨hr, rfl⟩ E0 (hbind s₁ (.ref a)) (.cons rfl .nil) hsp) fun r s2 h => ?_
  match r, h with
  | .error e, h => exact (hCX H e s2 h).elim
  | .ok .next, h => exact False.elim h
  | .ok .brk, h => exact False.elim h
  | .ok .cont, h => exact False.elim h
  | .ok (.ret u), ⟨v, H2, os, bare, U, hok2, rv, q⟩ =>
    obtain rfl : v = V.bl true := q
    obtain rfl : u = Value.bool true := rv
    have grow : ∀ b, isTb b → ∃ m : Array Value, s2.heap.get? b = some ⟨.none, none, .fields m, #[]⟩ := fun b hb => by
      obtain ⟨t, ht, e⟩ := hb
      have z := hT (t.2.1, t.2.2) (List.mem_map.mpr ⟨t, ht, rfl⟩)
      rw [show (t.2.1, t.2.2).1 = b from e] at z
      obtain ⟨m, z2⟩ := U.tbls b #[] z
      exact ⟨_, hok2 b _ z2⟩
    have rest : ∀ b o, ¬ isTb b → s₁.heap.get? b = some o → s2.heap.get? b = some o := fun b o n e => by
      cases q : H b with
      | none => exact U.keep b o e q (by intro z; exact absurd (show b ∈ ([] : List Addr) from z) (by simp)) (by simp)
      | some u =>
        rcases hO b u q with z | ⟨ob, xs, rfl⟩
        · exact absurd z n
        · have e1 := (hok b _ q).1
          have e2 := (hok2 b _ (U.frzs b ob _ q)).1
          rw [e1] at e
          rw [e2]
          exact e
    refine ⟨rfl, ⟨fun b o e => ?_, fun b o e => ?_⟩, os, bare⟩
    · by_cases hb : isTb b
      · obtain ⟨m, hm⟩ := grow b hb
        have e1 := tab b hb
        rw [e1] at e
        obtain ⟨t, ht, et⟩ := hb
        have hd := PySem.W.codeHd_of_K KX (cod t ht)
        have it := (hd.tab (by rw [et]; exact e1)).isCodeTable
        rw [et] at it
        refine .inr (.inl ⟨it, ?_⟩)
        rw [← Option.some.inj e]
        exact ⟨rfl, #[], m, rfl, by rw [Array.empty_append]; exact hm⟩
      · exact .inl (rest b o hb e)
    · by_cases hb : isTb b
      · obtain ⟨m, hm⟩ := grow b hb
        exact ⟨_, hm⟩
      · exact ⟨o, rest b o hb e⟩
theorem law_callTG (KX : K.In s₁.heap) (hns : s₁.heap.Ns mainGlobals mg) (hb : s₁.heap.Ns builtinsNs mb) (hbb : ∀ x : Str, x ≠ "__name__" → mb x = bootBuiltins x) (hlim : s₁.heap.NoLimit) (hg : s₁.gens = #[])
    (tab : ∀ b, isTb b → s₁.heap.get? b = some ⟨.none, none, .fields #[], #[]⟩) (tabK : ∀ b, isTb b → K.lookup b = none) (cod : ∀ t ∈ TCS, PySem.W.codeHdIn K t.1 t.2.1 = true)
    (bmn : ∃ (bm : Addr) (ob : Obj), mg "__builtins__" = some (.ref bm) ∧ bm ≠ builtinsNs ∧ s₁.heap.get? bm = some ob ∧ ob.cls = .type "module" ∧ ob.dict = some builtinsNs ∧ ob.data = .plain)
    (ha : s₁.heap.get? a = some { cls := .type "list", data := .seq vs.toArray }) (hi : IntsAre vs ns) (hl : ns.length ≤ sizeLine) (hr : Room k callerA)
    (F : ∀ base : Heap, K.In base → base.Ns mainGlobals mg → Tbs base mg → FnG P w K mg base CX k fa fd [x] sp) (hbind : ∀ (s : Shared) (u : Value), BindsTo s fd ⟨[u], []⟩ [(x, u)])
    (hsp : ∀ H : Hp, Tb0 H → SqL K H a (ns.map V.int) → sp [.ref a] H (fun v _ => v = .bl true) fun _ _ _ => False)
    (hCX : ∀ H e s', CX [] H s₁ (fun _ _ _ => False) e s' → False) :
    codeAny (model P w) callerA (.call (.ref fa) ⟨[.ref a], []⟩) (fun r s' => r = .ok (.ret (.bool true)) ∧ OldK s₁.heap s'.heap ∧ s'.os = s₁.os ∧ AllBare s'.gens) s₁ := by
  have rv := vals_ints hi
  have lenV := hi.length
  have mT : ∀ p ∈ TBL, isTb p.1 := fun p hp => by
    obtain ⟨t, ht, e⟩ := List.mem_map.mp hp
    exact ⟨t, ht, by rw [← e]⟩
  have aT : ¬ isTb a := fun z => by
    have e := tab a z
    rw [ha] at e
    cases congrArg Obj.data (Option.some.inj e)
  haveI : ∀ b, Decidable (isTb b) := fun _ => Classical.propDecidable _
  let H0 : Hp := fun b => if isTb b then some (.tbl #[]) else none
  have i0 : ∀ {b}, isTb b → H0 b = some (.tbl #[]) := fun h => if_pos h
  have n0 : ∀ {b}, ¬ isTb b → H0 b = none := fun h => if_neg h
  cases hk : K.lookup a with
  | some o =>
    have e := KX a o hk
    rw [ha] at e
    cases e
    refine law_coreT (H := H0) KX hns hb hbb hlim hg tab tabK cod bmn ha hr F hbind (hsp _ (fun p hp => i0 (mT p hp)) (.inr ⟨_, vs.toArray, _, hk, rfl, rfl, rfl, by rw [List.size_toArray, lenV]; exact hl, by simpa using rv⟩)) hCX (fun p hp => i0 (mT p hp)) (fun b u z => ?_) (fun b u z => ?_) (fun b z => ?_) (fun z => absurd (n0 aT) z)
    · by_cases q : isTb b
      · exact .inl q
      · rw [n0 q] at z; cases z
    · by_cases q : isTb b
      · rw [i0 q] at z
        cases z
        exact tab b q
      · rw [n0 q] at z; cases z
    · by_cases q : isTb b
      · exact .inr q
      · exact absurd (n0 q) z
  | none =>
    let H1 : Hp := upd H0 a (.frz { cls := .type "list", data := .seq vs.toArray } (.lst (ns.map V.int)))
    have a1 : H1 a = some (.frz { cls := .type "list", data := .seq vs.toArray } (.lst (ns.map V.int))) := upd_same
    have o1 : ∀ {b}, b ≠ a → H1 b = H0 b := fun h => upd_ne h
    have tb1 : Tb0 H1 := fun p hp => by
      rw [o1 fun z => aT (by rw [← z]; exact mT p hp)]
      exact i0 (mT p hp)
    refine law_coreT (H := H1) KX hns hb hbb hlim hg tab tabK cod bmn ha hr F hbind (hsp _ tb1 (.inl (.inr ⟨_, a1⟩))) hCX tb1 (fun b u z => ?_) (fun b u z => ?_) (fun b z => ?_) (fun _ => hk)
    · by_cases q : b = a
      · subst q
        rw [a1] at z
        exact .inr ⟨_, _, (Option.some.inj z).symm⟩
      · rw [o1 q] at z
        by_cases q2 : isTb b
        · exact .inl q2
        · rw [n0 q2] at z; cases z
    · by_cases q : b = a
      · subst q
        rw [a1] at z
        cases z
        exact ⟨ha, by rw [List.length_map]; exact hl, vs, _, rv, ha⟩
      · rw [o1 q] at z
        by_cases q2 : isTb b
        · rw [i0 q2] at z
          cases z
          exact tab b q2
        · rw [n0 q2] at z; cases z
    · by_cases q : b = a
      · exact .inl q
      · rw [o1 q] at z
        by_cases q2 : isTb b
        · exact .inr q2
        · exact absurd (n0 q2) z
theorem walk_ofTG {l : PySem.W.OpenLaw} {n k : Nat} {q : Program} {loose : List Str} {XP : (Str → Option Value) → Heap → Prop} {YP : World → Heap → Prop} {d : DefRec} {K : Params → PySem.W.Frag} {CX : World → CXT} {sp : World → Sp} {x : Str}
    (hn : l.most = some n) (hn2 : n ≤ sizeLine) (hdf : d.params.defaults = []) (hr : Room k callerA)
    (hY : ∀ (w : World) (h : Heap), YP w h → (K w.params).In h ∧ ∀ b, isTb b → h.get? b = some ⟨.none, none, .fields #[], #[]⟩)
    (tabK : ∀ (w : World) b, isTb b → (K w.params).lookup b = none) (cod : ∀ (w : World), ∀ t ∈ TCS, PySem.W.codeHdIn (K w.params) t.1 t.2.1 = true)
    (F : ∀ (w : World) (mg : Str → Option Value) (fa : Addr) (h : Heap), (K w.params).In h → h.Ns mainGlobals mg → mg d.name = some (.ref fa) →
      ∃ fd : FuncData, (∀ (s : Shared) (u : Value), BindsTo s fd ⟨[u], []⟩ [(x, u)]) ∧
        ∀ base : Heap, (K w.params).In base → base.Ns mainGlobals mg → Tbs base mg → FnG l.prog w (K w.params) mg base (CX w) k fa fd [x] (sp w))
    (hsp : ∀ (w : World) (H : Hp) (a : Addr) (ns : List Int), ns.length ≤ n → Tb0 H → SqL (K w.params) H a (ns.map V.int) → sp w [.ref a] H (fun v _ => v = .bl true) fun _ _ _ => False)
    (hCX : ∀ (w : World) (H : Hp) (s : Shared) (e : Value) (s' : Shared), CX w [] H s (fun _ _ _ => False) e s' → False) :
    PySem.W.WalkO q loose XP YP l.row.toRowW d [] (fun f vs => PySem.call f vs) := by
  refine Att.attach_call hn hdf fun w s₀ s₁ mg mb fa o pm cd doc a vs ns G Y ho hd hcd hmg hobj hints hlen hg => ?_
  obtain ⟨KX, hT⟩ := hY w _ Y
  obtain ⟨fd, hb, hF⟩ := F w mg fa _ KX G.T.g hmg
  exact law_callTG KX G.T.g G.T.b G.T.builtins G.T.nolimit hg hT (tabK w) (cod w) G.T.bmain hobj hints (Nat.le_trans hlen hn2) hr hF hb (fun H hH hS => hsp w H a ns hlen hH hS) fun H e s' => hCX w H s₁ e s'
end
end Ev

/-! Ev: the family of the program's own exceptions; purity -/
namespace Ev
open PySem PySem.Spec PyProof.Rows L2
/-- one class over ValueError, P among its bases -/
def famOne (K : PySem.W.Frag) (P D : Addr) : Bool :=
  (PySem.W.findIn K (.ref D) "__getattribute__" == some (some (.builtin "BaseException.__getattribute__"))) && (PySem.W.findIn K (.ref D) "__getattr__" == some none) &&
  (PySem.W.subIn K (.ref D) (.type "BaseException") == some true) && PySem.W.hasDictIn K D && (PySem.W.findIn K (.ref D) "__class__" == some (some (.builtin "object.__class__"))) &&
  (PySem.W.specialIn K (.builtin "object.__class__") "__get__" == some (some (.builtin "getset_descriptor.__get__"))) && (PySem.W.takesIn K (.builtin "object.__class__") == some true) && (PySem.W.mroIn K D (.type "object") == some true) &&
  (PySem.W.exmOne K (.ref D) (.ref P) == some true) && PySem.W.excIn K D [.type "ValueError", .type "Exception", .type "BaseException", .type "object"] "ValueError.__new__" && PySem.W.keepIn K (.ref D) && (PySem.W.typeIn K (.ref D) == some (.type "type")) &&
  (PySem.W.kitOne K (.ref D) (.ref P) == some true) && (PySem.W.kitOne K (.ref D) (.type "ValueError") == some true)
/-- what else it is -/
def famAll (K : PySem.W.Frag) (P : Addr) (l : List (Str × Addr)) : Bool := l.all fun x => famOne K P x.2 && l.all fun y => PySem.W.kitOne K (.ref x.2) (.ref y.2) == some (x.1 == y.1)
/-- the classes by their names -/
structure Fam (K : PySem.W.Frag) (mg : Str → Option Value) (names : List Str) : Prop where
  ex : ∃ (P : Addr) (l : List (Str × Addr)), mg "PuzzleError" = some (.ref P) ∧ l.map Prod.fst = names ∧ (∀ p ∈ l, mg p.1 = some (.ref p.2)) ∧ famAll K P l = true
section
variable {K : PySem.W.Frag} {mg : Str → Option Value} {names : List Str} {P D : Addr} {x y : Str}
theorem fam_one (h : famOne K P D = true) : ExcC K D ∧ PySem.W.exmOne K (.ref D) (.ref P) = some true ∧ PySem.W.excIn K D [.type "ValueError", .type "Exception", .type "BaseException", .type "object"] "ValueError.__new__" = true ∧ PySem.W.keepIn K (.ref D) = true ∧
    PySem.W.subIn K (.ref D) (.type "BaseException") = some true ∧ PySem.W.typeIn K (.ref D) = some (.type "type") ∧ PySem.W.kitOne K (.ref D) (.ref P) = some true ∧ PySem.W.kitOne K (.ref D) (.type "ValueError") = some true := by
  unfold famOne at h
  simp only [Bool.and_eq_true, beq_iff_eq] at h
  obtain ⟨⟨⟨⟨⟨⟨⟨⟨⟨⟨⟨⟨⟨h1, h2⟩, h3⟩, h4⟩, h5⟩, h6⟩, h7⟩, h8⟩, h9⟩, h10⟩, h11⟩, h12⟩, h13⟩, h14⟩ := h
  exact ⟨⟨h1, h2, h3, h4, h5, h6, h7, h8⟩, h9, h10, h11, h3, h12, h13, h14⟩
theorem Fam.at_ (Φ : Fam K mg names) (hx : names.contains x = true) : ∃ (P D : Addr), mg "PuzzleError" = some (.ref P) ∧ mg x = some (.ref D) ∧ famOne K P D = true ∧ ∀ y, names.contains y = true → ∃ C : Addr, mg y = some (.ref C) ∧ PySem.W.kitOne K (.ref D) (.ref C) = some (x == y) := by
  obtain ⟨P, l, hP, rfl, hl, hf⟩ := Φ.ex
  have get : ∀ z : Str, (l.map Prod.fst).contains z = true → ∃ p ∈ l, p.1 = z := fun z h => by
    rw [List.contains_iff_mem] at h
    exact List.mem_map.mp h
  obtain ⟨p, hp, rfl⟩ := get x hx
  unfold famAll at hf
  rw [List.all_eq_true] at hf
  have z := hf p hp
  rw [Bool.and_eq_true, List.all_eq_true] at z
  refine ⟨P, p.2, hP, hl p hp, z.1, fun y hy => ?_⟩
  obtain ⟨q, hq, rfl⟩ := get y hy
  exact ⟨q.2, hl q hq, by simpa using z.2 q hq⟩
theorem Fam.cl (Φ : Fam K mg names) (hx : names.contains x = true) : ExCl K mg x := by
  obtain ⟨P, D, h1, h2, h3, _⟩ := Φ.at_ hx
  obtain ⟨a1, a2, a3, a4, a5, a6, a7, a8⟩ := fam_one h3
  exact ⟨D, h2, a3, a4, a5, a6⟩
theorem Fam.hd (Φ : Fam K mg names) (hP : mg "PuzzleError" = some (.ref P)) : ∀ y, names.contains y = true → ExHd K mg P y := fun y hy => by
  obtain ⟨P2, D, h1, h2, h3, _⟩ := Φ.at_ hy
  rw [hP] at h1
  cases h1
  obtain ⟨a1, a2, _⟩ := fam_one h3
  exact ⟨D, h2, a1, a2⟩
end
section
variable {X : Cx} {W : WX} {S : List Nat} {names : List Str} {a D : Addr} {oe : Obj} {pn : List (Addr × Obj)} {i : Nat} {n x t : Str} {p p2 p3 pos : Pos}
/-- isinstance(e, C), C an own class -/
theorem se_isF (Φ : Fam X.K X.mg names) (hx : names.contains x = true) (ht : names.contains t = true) (hi : i ∉ S) (gD : X.mg x = some (.ref D)) (CC : ExcC X.K D) (hz : Zc (.ref D) none oe) (hf : ∃ vs, oe.data = .fields vs) (hg : Gl (X.suite a ((a, oe) :: pn)) "isinstance") (hm : X.mg "isinstance" = none)
    (hv : PE (X.suite a ((a, oe) :: pn)) (.Name n p2) (tVar i)) (hgt : Gl (X.suite a ((a, oe) :: pn)) t) (hdb : (t == ("__debug__" : Str)) = false := by decide) :
    SE (X.suite a ((a, oe) :: pn)) W S (.Call (.Name "isinstance" p) [.Name n p2, .Name t p3] [] pos) (isXE a (x == t) i) .fro := by
  obtain ⟨P, D2, h1, h2, h3, h4⟩ := Φ.at_ hx
  rw [gD] at h2
  cases h2
  obtain ⟨C, gC, hk⟩ := h4 t ht
  exact se_isX hi CC hz hf hg hm hv (pe_glob hgt gC (v := .ref C) rfl hdb) (fun u hu => hu) hk
/-- isinstance(e, ValueError) -/
theorem se_isV (Φ : Fam X.K X.mg names) (hx : names.contains x = true) (hi : i ∉ S) (gD : X.mg x = some (.ref D)) (CC : ExcC X.K D) (hz : Zc (.ref D) none oe) (hf : ∃ vs, oe.data = .fields vs) (hg : Gl (X.suite a ((a, oe) :: pn)) "isinstance") (hm : X.mg "isinstance" = none)
    (hv : PE (X.suite a ((a, oe) :: pn)) (.Name n p2) (tVar i)) (hgt : Gl (X.suite a ((a, oe) :: pn)) "ValueError") (hmt : X.mg "ValueError" = none) :
    SE (X.suite a ((a, oe) :: pn)) W S (.Call (.Name "isinstance" p) [.Name n p2, .Name "ValueError" p3] [] pos) (isXE a true i) .fro := by
  obtain ⟨P, D2, h1, h2, h3, h4⟩ := Φ.at_ hx
  rw [gD] at h2
  cases h2
  obtain ⟨a1, a2, a3, a4, a5, a6, a7, a8⟩ := fam_one h3
  exact se_isX hi CC hz hf hg hm hv (pe_bltn (X := X.suite a ((a, oe) :: pn)) (v := .ty "ValueError") (u := .type "ValueError") hgt hmt (by decide +kernel) rfl) (fun u hu => hu) a8
/-- isinstance(e, PuzzleError) -/
theorem se_isP (Φ : Fam X.K X.mg names) (hx : names.contains x = true) (hi : i ∉ S) (gD : X.mg x = some (.ref D)) (CC : ExcC X.K D) (hz : Zc (.ref D) none oe) (hf : ∃ vs, oe.data = .fields vs) (hg : Gl (X.suite a ((a, oe) :: pn)) "isinstance") (hm : X.mg "isinstance" = none)
    (hv : PE (X.suite a ((a, oe) :: pn)) (.Name n p2) (tVar i)) (hgt : Gl (X.suite a ((a, oe) :: pn)) "PuzzleError") :
    SE (X.suite a ((a, oe) :: pn)) W S (.Call (.Name "isinstance" p) [.Name n p2, .Name "PuzzleError" p3] [] pos) (isXE a true i) .fro := by
  obtain ⟨P, D2, h1, h2, h3, h4⟩ := Φ.at_ hx
  rw [gD] at h2
  cases h2
  obtain ⟨a1, a2, a3, a4, a5, a6, a7, a8⟩ := fam_one h3
  exact se_isX hi CC hz hf hg hm hv (pe_glob hgt h1 (v := .ref P) rfl (by decide)) (fun u hu => hu) a7
end
/-! ### purity -/
abbrev PurW (cw : Res D → Tp → Res D) : Prop := ∀ r, PR (cw r)
theorem pr_reT (r : Res D) : PR (reT r) := by
  cases r with
  | ok d _ => exact .okk d
  | ex x _ => exact .inr (.inr ⟨x, fun _ => rfl⟩)
  | no => exact .noo
theorem pr_callT {r : Res D} {i : Nat} : PurE (callT r i) := fun env => by
  unfold callT
  cases env[i]? with
  | none => exact .noo
  | some o => cases o with
    | none => exact .noo
    | some d => exact pr_reT r
theorem pr_isXT {b : Bool} {i : Nat} : PurE (isXT b i) := fun env => by
  unfold isXT
  cases env[i]? with
  | none => exact .noo
  | some o => cases o with
    | none => exact .noo
    | some d => exact .okk _
theorem pr_ra {x : Str} : PurS (raS x) := fun env => .inr (.inr (.inr (.inr (.inr ⟨x, env, fun _ => rfl⟩))))
theorem pr_noEx {r : Tp → Res D} (h : PR r) : PR fun T => noEx (r T) := by
  rcases h with ⟨a, h⟩ | h | ⟨x, h⟩
  · exact .inl ⟨a, fun T => congrArg noEx (h T)⟩
  · exact .inr (.inl fun T => congrArg noEx (h T))
  · exact .inr (.inl fun T => congrArg noEx (h T))
theorem pr_lam {cs : List Nat} {cw : Res D → Tp → Res D} {ce : Ex} (h : PurW cw) : PurE (lamE cs cw ce) := fun env => by
  show PR fun T => if ntpE cs env then noEx (cw (ce (cutE cs 0 env) none) T) else .no
  by_cases q : ntpE cs env = true
  · have z := pr_noEx (h (ce (cutE cs 0 env) none))
    simpa only [if_pos q] using z
  · have e : (fun T => if ntpE cs env = true then noEx (cw (ce (cutE cs 0 env) none) T) else .no) = fun _ => (Res.no : Res D) := by
      funext T
      rw [if_neg q]
    rw [e]
    exact .noo
theorem pr_off {i : Nat} {r : Tp → SR} (h : PSR r) : PSR fun T => offS i (r T) := by
  rcases h with ⟨e, h⟩ | ⟨e, h⟩ | ⟨e, h⟩ | ⟨e, h⟩ | h | ⟨x, e, h⟩
  · exact .inl ⟨e.set i none, fun T => congrArg (offS i) (h T)⟩
  · exact .inr (.inl ⟨e.set i none, fun T => congrArg (offS i) (h T)⟩)
  · exact .inr (.inr (.inl ⟨e.set i none, fun T => congrArg (offS i) (h T)⟩))
  · exact .inr (.inr (.inr (.inl ⟨e, fun T => congrArg (offS i) (h T)⟩)))
  · exact .inr (.inr (.inr (.inr (.inl fun T => congrArg (offS i) (h T)))))
  · exact .inr (.inr (.inr (.inr (.inl fun T => congrArg (offS i) (h T)))))
def tryK (names : List Str) (i : Nat) (cs : Str → Sx) (r : SR) : SR := match r with
  | .ex x env' T' => if names.contains x then offS i (cs x (env'.set i (some .non)) T') else .no
  | r => r
theorem tryT_eq (names : List Str) (i : Nat) (cb : Sx) (cs : Str → Sx) (env : Ve) (T : Tp) : tryT names i cb cs env T = tryK names i cs (cb env T) := by
  unfold tryT tryK
  cases cb env T <;> rfl
theorem pr_try {names : List Str} {i : Nat} {cb : Sx} {cs : Str → Sx} (h : PurS cb) (g : ∀ y, PurS (cs y)) : PurS (tryT names i cb cs) := fun env => by
  have e : tryT names i cb cs env = fun T => tryK names i cs (cb env T) := funext fun T => tryT_eq _ _ _ _ _ _
  rw [e]
  rcases h env with ⟨e, h⟩ | ⟨e, h⟩ | ⟨e, h⟩ | ⟨e, h⟩ | h | ⟨x, e, h⟩
  · exact .inl ⟨e, fun T => congrArg (tryK names i cs) (h T)⟩
  · exact .inr (.inl ⟨e, fun T => congrArg (tryK names i cs) (h T)⟩)
  · exact .inr (.inr (.inl ⟨e, fun T => congrArg (tryK names i cs) (h T)⟩))
  · exact .inr (.inr (.inr (.inl ⟨e, fun T => congrArg (tryK names i cs) (h T)⟩)))
  · exact .inr (.inr (.inr (.inr (.inl fun T => congrArg (tryK names i cs) (h T)))))
  · by_cases q : names.contains x = true
    · have z : (fun T => tryK names i cs (cb env T)) = fun T => offS i (cs x (e.set i (some .non)) T) := by
        funext T
        rw [h T]
        exact if_pos q
      rw [z]
      exact pr_off (g x _)
    · exact .inr (.inr (.inr (.inr (.inl fun T => by
        show tryK names i cs (cb env T) = SR.no
        rw [h T]
        exact if_neg q))))
theorem pr_cwD {N : Nat} {b' : Res D → Sx} (h : ∀ r, PurS (b' r)) : PurW (cwD N b') := fun r => pr_fn (h r) [.non]
end Ev

/-! Ev: what the law never comes to has no meaning -/
namespace Ev
open PySem PySem.Spec PyProof.Rows L2
def noE : Ex := fun _ _ => .no
@[simp] theorem noE_ev (env : Ve) (T : Tp) : noE env T = .no := (rfl)
theorem se_never {X : Cx} {W : WX} {S : List Nat} {e : Expr} {m : Mode} : SE X W S e noE m := ⟨⟨fun pins s σ H Q I h => by
  obtain ⟨F, T, O, ft, r, p⟩ := h
  exact False.elim p⟩⟩
theorem pr_never : PurE noE := fun _ => .noo
end Ev

/-! Ev: defs of the module as values -/
namespace Ev
open PySem PySem.Spec PyProof.Rows L2
structure FnV (K : PySem.W.Frag) (mg : Str → Option Value) (x : Str) : Prop where
  ex : ∃ f : Addr, PySem.W.nsIn K mainGlobals x = some (some (.ref f)) ∧ mg x = some (.ref f)
/-- the def in slot i, called -/
def callV (tab : List (Str × (List D → Tp → Res D))) (i : Nat) (es : List Ex) : Ex := fun env T => match env[i]? with
  | some (some (.fnc x)) => match tab.lookup x with
    | some f => (esE es env T).bind f
    | none => .no
  | _ => .no
section
variable {X : Cx} {W : WX} {S : List Nat} {e : Expr} {es : List Expr} {cs : List Ex} {x n : Str} {p pos : Pos}
theorem se_fnc (hg : Gl X x) (h : FnV X.K X.mg x) (hd : (x == ("__debug__" : Str)) = false := by decide) : SE X W S (.Name x p) (kE (.fnc x)) .fro := by
  obtain ⟨a, h1, h2⟩ := h.ex
  refine ⟨peMono (pe_glob (v := .ref a) hg h2 rfl hd) fun σ H Q ⟨F, T, O, f, r, q⟩ => ?_⟩
  exact q.now r (.fnc (by rw [f.k]; exact h1))
theorem se_callV {tab : List (Str × (List D → Tp → Res D))} {i k : Nat} (hc : ∀ y f, tab.lookup y = some f → Cal X.prog X.w X.K X.mg X.base y f false k) (hr : RoomG k X.A) (tk : Takes X W) (hi : i ∉ S) (hv : PE X (.Name n p) (tVar i)) (ha : SA X W S (e :: es) cs .fro)
    (he : starEach (e :: es) X.env = (false, eval e X.env) :: starEach es X.env := by rfl) (hpl : (backTo pos (starEach es X.env)).any (·.1) = false := by rfl) :
    SE X W S (.Call (.Name n p) (e :: es) [] pos) (callV tab i cs) .fro := ⟨⟨fun pins s σ H Q I h => by
  obtain ⟨F, T, O, ft, r, q⟩ := h
  have q : Po X W S .fro F H O (callV tab i cs F.env T) Q := q
  have key : (∃ y f, F.env[i]? = some (some (.fnc y)) ∧ tab.lookup y = some f ∧ callV tab i cs F.env T = (esE cs F.env T).bind f) ∨ callV tab i cs F.env T = .no := by
    unfold callV
    split
    · rename_i y hy
      split
      · rename_i f hf
        exact .inl ⟨y, f, hy, hf, rfl⟩
      · exact .inr rfl
    · exact .inr rfl
  rcases key with ⟨y, f, hy, ef, ec⟩ | ec
  · rw [ec] at q
    obtain ⟨a1, a2⟩ := ft.at hy
    obtain ⟨v, b1, b2⟩ := r.fro i _ (ft.out hi hy) a1
    obtain ⟨fa, ev, hns⟩ : ∃ fa : Addr, v = .ref fa ∧ PySem.W.nsIn F.g.K mainGlobals y = some (some (.ref fa)) := by
      cases b2 with
      | fnc h => exact ⟨_, rfl, h⟩
    subst ev
    rw [ft.k] at hns
    have hmg : X.mg y = some (.ref fa) := PySem.W.mg_of I.mod.kin I.mod.glob hns
    refine wpAny_Call_Name_kw (thn (hv.run pins s σ H (fun v H1 => v = .ref fa ∧ H1 = H) I ⟨.ref fa, a2 _ b1, rfl, rfl⟩) fun u z hu => ?_)
    obtain ⟨v, H1, I1, rv, e1, e2⟩ := hu
    subst e1
    rw [e2] at I1
    have eu : u = Value.ref fa := rv
    subst eu
    obtain ⟨fa2, fd, ps, FO, hm, hk, hb⟩ := (hc y f ef).ex
    rw [hmg] at hm
    cases hm
    have pre : tA X W S cs .fro σ H (fun vs H1 => spOf X.K X.w X.mg f false vs H1 Q (WE W σ)) := tA_bind ft r q fun ds T1 vs H1 O1 _ r1 l1 q1 p1 => by
      have c1 : (gOf X.K X.w F.g.pt H1 O1).K = F.g.K := ft.k.symm
      have c2 : (gOf X.K X.w F.g.pt H1 O1).w = F.g.w := ft.w.symm
      refine ⟨F.g.pt, O1, ds, T1, r1.oin, r1.tape.cg c1 c2 rfl, q1.rep.cg c1 c2 rfl, ?_⟩
      cases er : f ds T1 with
      | ok d T2 =>
        rw [er] at p1
        intro H2 v x2 rt
        obtain ⟨t2, rt⟩ := rt
        obtain ⟨r2, l2⟩ := R.call r1 x2 (t2.cg c1.symm c2.symm rfl)
        exact p1 v H2 O1 r2 l2 (Rep.cg c1.symm c2.symm rfl rt)
      | ex x T2 =>
        rw [er] at p1
        intro H2 x2 t2
        obtain ⟨r2, l2⟩ := R.call r1 x2 (t2.cg c1.symm c2.symm rfl)
        have z := p1 H2 O1 r2
        rw [ft.s] at z
        exact z
      | no => rw [er] at p1; exact p1
    refine PySem.W.callWith_K (h₀ := X.base) I1.ok.mod.kin hk (thn (ha.pa.run pos pins z σ H _ I1 pre) fun us s1 hu => ?_) he hpl
    obtain ⟨vs, H2, I2, r2, q2⟩ := hu
    refine ⟨I2.kIn, ?_⟩
    have b := hb s1 us I2.kIn (by rw [List.append_nil, ← r2.length]; exact FO.len _ _ _ _ q2)
    rw [List.append_nil] at b
    have hx := passAt (σ := σ) tk
    refine wpAny_call (codeAny_mono (FO.run X.A X.stack s1 H2 ⟨us, []⟩ us vs Q (WE W σ) hr I2.env0 b r2 q2) fun z s' hq => ?_)
    match z, hq with
    | .error e, hq => exact hx pins H2 s1 e s' I2 hq
    | .ok (.ret u), hq => exact I2.after hq
    | .ok .next, hq => exact False.elim hq
    | .ok .brk, hq => exact False.elim hq
    | .ok .cont, hq => exact False.elim hq
  · rw [ec] at q
    exact False.elim q⟩⟩
theorem Cal.up {P : Program} {w : World} {K : PySem.W.Frag} {mg : Str → Option Value} {base : Heap} {x : Str} {c : List D → Tp → Res D} {fr : Bool} {j k : Nat} (h : Cal P w K mg base x c fr j) (hj : j ≤ k) : Cal P w K mg base x c fr k := by
  obtain ⟨f, fd, ps, a, b⟩ := h.ex
  exact ⟨f, fd, ps, a.mono hj, b⟩
theorem calT_nil {P : Program} {w : World} {K : PySem.W.Frag} {mg : Str → Option Value} {base : Heap} {k : Nat} : ∀ y f, ([] : List (Str × (List D → Tp → Res D))).lookup y = some f → Cal P w K mg base y f false k := fun y f h => by cases h
theorem calT_cons {P : Program} {w : World} {K : PySem.W.Frag} {mg : Str → Option Value} {base : Heap} {x : Str} {c : List D → Tp → Res D} {j k : Nat} {tab : List (Str × (List D → Tp → Res D))} (h : Cal P w K mg base x c false j) (hj : j ≤ k) (r : ∀ y f, tab.lookup y = some f → Cal P w K mg base y f false k) :
    ∀ y f, ((x, c) :: tab).lookup y = some f → Cal P w K mg base y f false k := fun y f hy => by
  rw [List.lookup_cons] at hy
  split at hy
  · rename_i e
    have e : y = x := by simpa using e
    subst e
    cases hy
    exact h.up hj
  · exact r y f hy
theorem pr_callV {tab : List (Str × (List D → Tp → Res D))} {i : Nat} (hf : ∀ p ∈ tab, PurF p.2) (h : PurEs cs) : PurE (callV tab i cs) := fun env => by
  have key : (∃ y f, env[i]? = some (some (.fnc y)) ∧ tab.lookup y = some f ∧ callV tab i cs env = fun T => (esE cs env T).bind f) ∨ callV tab i cs env = fun _ => .no := by
    unfold callV
    split
    · rename_i y hy
      split
      · rename_i f hf
        exact .inl ⟨y, f, hy, hf, rfl⟩
      · exact .inr rfl
    · exact .inr rfl
  rcases key with ⟨y, f, hy, ef, ec⟩ | ec
  · rw [ec]
    have m : ∀ (l : List (Str × (List D → Tp → Res D))), l.lookup y = some f → (y, f) ∈ l := fun l h => PySem.mem_of_lookup h
    exact (pr_es h env).then fun ds => hf _ (m tab ef) ds
  · rw [ec]
    exact .noo
end
end Ev

namespace W
open PySem PySem.Spec PyProof.Rows L2 Ev
def topS (i : Nat) : Stmt := PySem.Challenge.pw_puzzlechest_k73_whole_two_heaps_doubled.main.body.getD i (.Pass ⟨0, 0, 0, 0⟩)
abbrev s_is_integer : Stmt := topS 1
theorem sc_is_integer : FnScope ["thing"] ["thing"] (defScope s_is_integer) := ⟨rfl, rfl, rfl, by decide +kernel, rfl, by decide +kernel, by decide +kernel⟩
abbrev s_is_within : Stmt := topS 2
theorem sc_is_within : FnScope ["thing", "least", "most"] ["thing", "least", "most"] (defScope s_is_within) := ⟨rfl, rfl, rfl, by decide +kernel, rfl, by decide +kernel, by decide +kernel⟩
abbrev s_common_part : Stmt := topS 3
theorem sc_common_part : FnScope ["one", "other"] ["one", "other"] (defScope s_common_part) := ⟨rfl, rfl, rfl, by decide +kernel, rfl, by decide +kernel, by decide +kernel⟩
abbrev s_check_heaps : Stmt := topS 11
theorem sc_check_heaps : FnScope ["heaps", "most", "heap"] ["heaps", "most"] (defScope s_check_heaps) := ⟨rfl, rfl, rfl, by decide +kernel, rfl, by decide +kernel, by decide +kernel⟩
abbrev s_rising_pair : Stmt := topS 12
theorem sc_rising_pair : FnScope ["one", "other"] ["one", "other"] (defScope s_rising_pair) := ⟨rfl, rfl, rfl, by decide +kernel, rfl, by decide +kernel, by decide +kernel⟩
abbrev s_raw_doubled : Stmt := topS 13
theorem sc_raw_doubled : FnScope ["pair"] ["pair"] (defScope s_raw_doubled) := ⟨rfl, rfl, rfl, by decide +kernel, rfl, by decide +kernel, by decide +kernel⟩
abbrev s_doubled : Stmt := topS 14
theorem sc_doubled : FnScope ["one", "other"] ["one", "other"] (defScope s_doubled) := ⟨rfl, rfl, rfl, by decide +kernel, rfl, by decide +kernel, by decide +kernel⟩
abbrev s_pairs_met : Stmt := topS 15
theorem sc_pairs_met : FnScope ["one", "other", "here", "found", "known"] ["one", "other"] (defScope s_pairs_met) := ⟨rfl, rfl, rfl, by decide +kernel, rfl, by decide +kernel, by decide +kernel⟩
abbrev s_turns_till_empty : Stmt := topS 16
theorem sc_turns_till_empty : FnScope ["one", "other", "found", "last"] ["one", "other"] (defScope s_turns_till_empty) := ⟨rfl, rfl, rfl, by decide +kernel, rfl, by decide +kernel, by decide +kernel⟩
abbrev s_odd_part : Stmt := topS 17
theorem sc_odd_part : FnScope ["one", "other", "found"] ["one", "other"] (defScope s_odd_part) := ⟨rfl, rfl, rfl, by decide +kernel, rfl, by decide +kernel, by decide +kernel⟩
abbrev s_heap_round : Stmt := topS 18
theorem sc_heap_round : FnScope ["one", "other", "found", "last"] ["one", "other"] (defScope s_heap_round) := ⟨rfl, rfl, rfl, by decide +kernel, rfl, by decide +kernel, by decide +kernel⟩
abbrev s_partners : Stmt := topS 19
theorem sc_partners : FnScope ["sum_of_both", "found", "lesser"] ["sum_of_both"] (defScope s_partners) := ⟨rfl, rfl, rfl, by decide +kernel, rfl, by decide +kernel, by decide +kernel⟩
abbrev s__law_hand : Stmt := topS 21
theorem sc__law_hand : FnScope ["script", "cells", "cell"] ["script"] (defScope s__law_hand) := ⟨rfl, rfl, rfl, by decide +kernel, rfl, by decide +kernel, by decide +kernel⟩
abbrev s__law_draw : Stmt := topS 22
theorem sc__law_draw : FnScope ["hand", "many", "cell", "digit", "number"] ["hand", "many"] (defScope s__law_draw) := ⟨rfl, rfl, rfl, by decide +kernel, rfl, by decide +kernel, by decide +kernel⟩
abbrev s__law_some : Stmt := topS 23
theorem sc__law_some : FnScope ["hand", "things"] ["hand", "things"] (defScope s__law_some) := ⟨rfl, rfl, rfl, by decide +kernel, rfl, by decide +kernel, by decide +kernel⟩
abbrev s__law_is : Stmt := topS 24
theorem sc__law_is : FnScope ["mine", "yours"] ["mine", "yours"] (defScope s__law_is) := ⟨rfl, rfl, rfl, by decide +kernel, rfl, by decide +kernel, by decide +kernel⟩
abbrev s__law_common : Stmt := topS 25
theorem sc__law_common : FnScope ["one", "other"] ["one", "other"] (defScope s__law_common) := ⟨rfl, rfl, rfl, by decide +kernel, rfl, by decide +kernel, by decide +kernel⟩
abbrev s__law_next : Stmt := topS 26
theorem sc__law_next : FnScope ["pair", "low", "high"] ["pair"] (defScope s__law_next) := ⟨rfl, rfl, rfl, by decide +kernel, rfl, by decide +kernel, by decide +kernel⟩
abbrev s__law_gone : Stmt := topS 27
theorem sc__law_gone : FnScope ["one", "other", "found", "met", "later"] ["one", "other"] (defScope s__law_gone) := ⟨rfl, rfl, rfl, by decide +kernel, rfl, by decide +kernel, by decide +kernel⟩
abbrev s__law_odd : Stmt := topS 28
theorem sc__law_odd : FnScope ["one", "other", "part", "number"] ["one", "other"] (defScope s__law_odd) := ⟨rfl, rfl, rfl, by decide +kernel, rfl, by decide +kernel, by decide +kernel⟩
abbrev s__law_is_round : Stmt := topS 30
theorem sc__law_is_round : FnScope ["row", "at"] ["row"] (defScope s__law_is_round) := ⟨rfl, rfl, rfl, by decide +kernel, rfl, by decide +kernel, by decide +kernel⟩
abbrev s__law_case_right : Stmt := topS 29
theorem sc__law_case_right : FnScope ["hand", "one", "other", "row", "at", "due", "said", "round_told", "times"] ["hand", "one", "other"] (defScope s__law_case_right) := ⟨rfl, rfl, rfl, by decide +kernel, rfl, by decide +kernel, by decide +kernel⟩
abbrev s__law_word : Stmt := topS 31
theorem sc__law_word : FnScope ["call", "error", "flags"] ["call"] (defScope s__law_word) := ⟨rfl, rfl, rfl, by decide +kernel, rfl, by decide +kernel, by decide +kernel⟩
abbrev s__law_refused_right : Stmt := topS 32
theorem sc__law_refused_right : FnScope ["hand", "bad", "said", "call"] ["hand"] (defScope s__law_refused_right) := ⟨rfl, rfl, rfl, by decide +kernel, rfl, by decide +kernel, by decide +kernel⟩
abbrev s_law : Stmt := topS 33
theorem sc_law : FnScope ["script", "hand", "go", "high", "part", "power", "low", "whole", "due", "said"] ["script"] (defScope s_law) := ⟨rfl, rfl, rfl, by decide +kernel, rfl, by decide +kernel, by decide +kernel⟩
theorem mem__law_refused_right : ((224, 220, ("_law_refused_right" ++ ".<locals>." ++ "<lambda>")) : Addr × Addr × PySem.Str) ∈ TCS := by decide +kernel
theorem mT__law_refused_right : ((220, ("_law_refused_right" ++ ".<locals>." ++ "<lambda>")) : Addr × PySem.Str) ∈ TBL := by decide +kernel
theorem hu__law_refused_right : ∀ p ∈ TBL, p.1 = 220 → p.2 = ("_law_refused_right" ++ ".<locals>." ++ "<lambda>") := by decide +kernel
structure Facts (w : World) (K : PySem.W.Frag) (mg : Str → Option Value) : Prop where
  n_ValueError : mg "ValueError" = none
  n_abs : mg "abs" = none
  n_all : mg "all" = none
  n_bool : mg "bool" = none
  n_int : mg "int" = none
  n_isinstance : mg "isinstance" = none
  n_len : mg "len" = none
  n_max : mg "max" = none
  n_min : mg "min" = none
  n_range : mg "range" = none
  n_repr : mg "repr" = none
  n_sorted : mg "sorted" = none
  n_tuple : mg "tuple" = none
  g_MOST_HEAP : ∃ t, mg "MOST_HEAP" = some (.int 1000 t)
  d_is_integer : Def0 K mg "is_integer" s_is_integer ["thing"]
  d_is_within : Def0 K mg "is_within" s_is_within ["thing", "least", "most"]
  d_common_part : Def0 K mg "common_part" s_common_part ["one", "other"]
  d_check_heaps : Def0 K mg "check_heaps" s_check_heaps ["heaps", "most"]
  d_rising_pair : Def0 K mg "rising_pair" s_rising_pair ["one", "other"]
  d_raw_doubled : Def0 K mg "raw_doubled" s_raw_doubled ["pair"]
  d_doubled : Def0 K mg "doubled" s_doubled ["one", "other"]
  d_pairs_met : Def0 K mg "pairs_met" s_pairs_met ["one", "other"]
  d_turns_till_empty : Def0 K mg "turns_till_empty" s_turns_till_empty ["one", "other"]
  d_odd_part : Def0 K mg "odd_part" s_odd_part ["one", "other"]
  d_heap_round : Def0 K mg "heap_round" s_heap_round ["one", "other"]
  d_partners : Def0 K mg "partners" s_partners ["sum_of_both"]
  d__law_hand : Def0 K mg "_law_hand" s__law_hand ["script"]
  d__law_draw : Def0 K mg "_law_draw" s__law_draw ["hand", "many"]
  d__law_some : Def0 K mg "_law_some" s__law_some ["hand", "things"]
  d__law_is : Def0 K mg "_law_is" s__law_is ["mine", "yours"]
  d__law_common : Def0 K mg "_law_common" s__law_common ["one", "other"]
  d__law_next : Def0 K mg "_law_next" s__law_next ["pair"]
  d__law_gone : Def0 K mg "_law_gone" s__law_gone ["one", "other"]
  d__law_odd : Def0 K mg "_law_odd" s__law_odd ["one", "other"]
  d__law_is_round : Def0 K mg "_law_is_round" s__law_is_round ["row"]
  d__law_case_right : Def0 K mg "_law_case_right" s__law_case_right ["hand", "one", "other"]
  d__law_word : Def0 K mg "_law_word" s__law_word ["call"]
  d__law_refused_right : DefC K mg "_law_refused_right" s__law_refused_right ["hand"] 224
  v_doubled : FnV K mg "doubled"
  v_heap_round : FnV K mg "heap_round"
  v_odd_part : FnV K mg "odd_part"
  v_turns_till_empty : FnV K mg "turns_till_empty"
  fam : Fam K mg ["NoHeaps", "NoSum", "NoTurn"]
/-! is_integer -/
def b_is_integer : Sx :=
  (rtS (andE (ap1 (isiD ["int"]) (vE 0)) (notE (ap1 (isiD ["bool"]) (vE 0)))))
def c_is_integer : List D → Tp → Res D := fnD false 1 1 b_is_integer
/-! is_within -/
def b_is_within : Sx :=
  (rtS (andE (callE c_is_integer [(vE 0)]) (chE leG leG (vE 1) (vE 0) (vE 2))))
def c_is_within : List D → Tp → Res D := fnD false 3 3 b_is_within
/-! common_part -/
def b_common_part : Sx :=
  (sq (whl 1000000 (ap2 neS (vE 1) (kE (.int 0)))
  (par2S 0 1 (vE 1) (ap2 subD (vE 0) (ap2 mulD (vE 1) (ap2 fdivD (vE 0) (vE 1))))))
  (rtS (apN absD [(vE 0)])))
def c_common_part : List D → Tp → Res D := fnD false 2 2 b_common_part
/-! check_heaps -/
def b_check_heaps : Sx :=
  (ifS (notE (apN allD [(lcE [2] (tgN 2) (seq6It (vE 0)) (kE (.bl true)) (callE c_is_within [(vE 2), (kE (.int 0)), (vE 1)]))]))
  (raS "NoHeaps")
  sk)
def c_check_heaps : List D → Tp → Res D := fnD false 2 3 b_check_heaps
/-! rising_pair -/
def b_rising_pair : Sx :=
  (rtS (iteE (ap2 leG (vE 0) (vE 1)) (tupE [(vE 0), (vE 1)]) (tupE [(vE 1), (vE 0)])))
def c_rising_pair : List D → Tp → Res D := fnD false 2 2 b_rising_pair
/-! raw_doubled -/
def b_raw_doubled : Sx :=
  (rtS (callE c_rising_pair [(ap2 mulD (kE (.int 2)) (ap2 ix4D (vE 0) (kE (.int 0)))), (ap2 subD (ap2 ix4D (vE 0) (kE (.int 1))) (ap2 ix4D (vE 0) (kE (.int 0))))]))
def c_raw_doubled : List D → Tp → Res D := fnD false 1 1 b_raw_doubled
/-! doubled -/
def b_doubled : Sx :=
  (sq (drS (callE c_check_heaps [(tupE [(vE 0), (vE 1)]), (kE (.int 1000))]))
  (sq (ifS (orE (ap2 eqS (vE 0) (kE (.int 0))) (ap2 eqS (vE 1) (kE (.int 0))))
  (raS "NoTurn")
  sk)
  (rtS (callE c_raw_doubled [(callE c_rising_pair [(vE 0), (vE 1)])]))))
def c_doubled : List D → Tp → Res D := fnD false 2 2 b_doubled
/-! pairs_met -/
def b_pairs_met : Sx :=
  (sq (par3S 2 3 4 (callE c_rising_pair [(vE 0), (vE 1)]) (lstE []) (kE (.dct true [])))
  (sq (whl 1000000 (andE (ap2 nin4D (vE 2) (vE 4)) (ap2 gtG (ap2 ix4D (vE 2) (kE (.int 0))) (kE (.int 0))))
  (sq (putG 4 (vE 2) (kE (.bl true)))
  (sq (appS 3 (vE 2))
  (asS (tgN 2) (callE c_raw_doubled [(vE 2)])))))
  (rtS (tupE [(vE 3), (vE 2)]))))
def c_pairs_met : List D → Tp → Res D := fnD false 2 5 b_pairs_met
/-! turns_till_empty -/
def b_turns_till_empty : Sx :=
  (sq (drS (callE c_check_heaps [(tupE [(vE 0), (vE 1)]), (kE (.int 1000))]))
  (sq (asS (tgT (tgsC (tgN 2) (tgsC (tgN 3) tgs0))) (callE c_pairs_met [(vE 0), (vE 1)]))
  (rtS (iteE (ap2 eqS (ap2 ix4D (vE 3) (kE (.int 0))) (kE (.int 0))) (apN len4D [(vE 2)]) (kE .non)))))
def c_turns_till_empty : List D → Tp → Res D := fnD false 2 4 b_turns_till_empty
/-! odd_part -/
def b_odd_part : Sx :=
  (sq (drS (callE c_check_heaps [(tupE [(vE 0), (vE 1)]), (kE (.int 1000))]))
  (sq (ifS (ap2 eqS (ap2 ix4D (ap2 ix4D (callE c_pairs_met [(vE 0), (vE 1)]) (kE (.int 1))) (kE (.int 0))) (kE (.int 0)))
  (rtS (kE .non))
  sk)
  (sq (asS (tgN 2) (ap2 fdivD (ap2 addD (vE 0) (vE 1)) (callE c_common_part [(vE 0), (vE 1)])))
  (sq (whl 1000000 (ap2 eqS (vE 2) (ap2 mulD (kE (.int 2)) (ap2 fdivD (vE 2) (kE (.int 2)))))
  (asS (tgN 2) (ap2 fdivD (vE 2) (kE (.int 2)))))
  (rtS (vE 2))))))
def c_odd_part : List D → Tp → Res D := fnD false 2 3 b_odd_part
/-! heap_round -/
def b_heap_round : Sx :=
  (sq (drS (callE c_check_heaps [(tupE [(vE 0), (vE 1)]), (kE (.int 1000))]))
  (sq (asS (tgT (tgsC (tgN 2) (tgsC (tgN 3) tgs0))) (callE c_pairs_met [(vE 0), (vE 1)]))
  (rtS (iteE (ap2 eqS (ap2 ix4D (vE 3) (kE (.int 0))) (kE (.int 0))) (kE .non) (apN tupOfD [(slE slD (vE 2) (some (mtG isLst idxL (vE 2) [(vE 3)])) none)])))))
def c_heap_round : List D → Tp → Res D := fnD false 2 4 b_heap_round
/-! partners -/
def b_partners : Sx :=
  (sq (ifS (notE (callE c_is_within [(vE 0), (kE (.int 0)), (kE (.int 1000))]))
  (raS "NoSum")
  sk)
  (sq (setS 1 (lstE []))
  (sq (forS (tgN 2) (apI rng1D [(ap2 addD (ap2 fdivD (vE 0) (kE (.int 2))) (kE (.int 1)))])
  (ifS (ap2 eqS (ap2 ix4D (ap2 ix4D (callE c_pairs_met [(vE 2), (ap2 subD (vE 0) (vE 2))]) (kE (.int 1))) (kE (.int 0))) (kE (.int 0)))
  (appS 1 (vE 2))
  sk))
  (rtS (apN tupOfD [(vE 1)])))))
def c_partners : List D → Tp → Res D := fnD false 1 3 b_partners
/-! _law_hand -/
def b__law_hand : Sx :=
  (sq (setS 1 (lcE [2] (tgN 2) (seq6It (slE slD (vE 0) none (some (kE (.int 63))))) (kE (.bl true)) (apN absD [(apN int1D [(vE 2)])])))
  (rtS (lstE [(vE 1), (kE (.int 0)), (kE (.int 0)), (ap2 addD (kE (.int 239)) (ap2 mulD (kE (.int 43)) (apN len4D [(vE 1)]))), (kE (.int 0))])))
def c__law_hand : List D → Tp → Res D := fnD true 1 3 b__law_hand
/-! _law_draw -/
def b__law_draw : Sx :=
  (sq (ifS (andE (ap2 eqS (tgetE (vE 0) (kE (.int 2))) (kE (.int 0))) (ap2 ltG (tgetE (vE 0) (kE (.int 1))) (apN len4D [(tgetE (vE 0) (kE (.int 0)))])))
  (sq (asS (tgN 2) (ap2 ix4D (tgetE (vE 0) (kE (.int 0))) (tgetE (vE 0) (kE (.int 1)))))
  (sq (tputS (vE 0) (kE (.int 1)) (ap2 addD (tgetE (vE 0) (kE (.int 1))) (kE (.int 1))))
  (sq (tputS (vE 0) (kE (.int 3)) (ap2 modD (apN int1D [(ap2 addD (ap2 addD (ap2 mulD (tgetE (vE 0) (kE (.int 3))) (kE (.int 69621))) (ap2 mulD (vE 2) (kE (.int 48271)))) (kE (.int 17)))]) (kE (.int 2147483629))))
  (ifS (ap2 geG (vE 2) (ap2 powD (kE (.int 10)) (kE (.int 18))))
  (tputS (vE 0) (kE (.int 2)) (vE 2))
  sk))))
  sk)
  (sq (ifS (ap2 gtG (tgetE (vE 0) (kE (.int 2))) (kE (.int 0)))
  (sq (asS (tgN 3) (ap2 modD (apN int1D [(tgetE (vE 0) (kE (.int 2)))]) (vE 1)))
  (sq (tputS (vE 0) (kE (.int 2)) (ap2 fdivD (tgetE (vE 0) (kE (.int 2))) (vE 1)))
  (rtS (vE 3))))
  sk)
  (sq (tputS (vE 0) (kE (.int 4)) (ap2 addD (tgetE (vE 0) (kE (.int 4))) (kE (.int 1))))
  (sq (asS (tgN 4) (ap2 modD (apN int1D [(ap2 mulD (apN int1D [(ap2 addD (tgetE (vE 0) (kE (.int 3))) (ap2 mulD (kE (.int 7919)) (tgetE (vE 0) (kE (.int 4)))))]) (kE (.int 40692)))]) (kE (.int 2147483647))))
  (sq (asS (tgN 4) (ap2 modD (apN int1D [(ap2 mulD (vE 4) (ap2 addD (ap2 fdivD (vE 4) (kE (.int 1009))) (kE (.int 69621))))]) (kE (.int 2147483647))))
  (sq (asS (tgN 4) (ap2 modD (apN int1D [(ap2 mulD (vE 4) (ap2 addD (ap2 fdivD (vE 4) (kE (.int 2003))) (kE (.int 40014))))]) (kE (.int 2147483563))))
  (rtS (ap2 modD (apN int1D [(ap2 fdivD (vE 4) (kE (.int 16)))]) (vE 1)))))))))
def c__law_draw : List D → Tp → Res D := fnD false 2 5 b__law_draw
/-! _law_some -/
def b__law_some : Sx :=
  (rtS (ap2 ix4D (vE 1) (callE c__law_draw [(vE 0), (apN len4D [(vE 1)])])))
def c__law_some : List D → Tp → Res D := fnD false 2 2 b__law_some
/-! _law_is -/
def b__law_is : Sx :=
  (rtS (ap2 eqS (apN repr7D [(vE 0)]) (apN repr7D [(vE 1)])))
def c__law_is : List D → Tp → Res D := fnD false 2 2 b__law_is
/-! _law_common -/
def b__law_common : Sx :=
  (sq (whl 1000000 (ap2 gtG (vE 1) (kE (.int 0)))
  (par2S 0 1 (vE 1) (ap2 modD (apN int1D [(vE 0)]) (vE 1))))
  (rtS (vE 0)))
def c__law_common : List D → Tp → Res D := fnD false 2 2 b__law_common
/-! _law_next -/
def b__law_next : Sx :=
  (sq (asS (tgT (tgsC (tgN 1) (tgsC (tgN 2) tgs0))) (vE 0))
  (rtS (tupE [(apN min2D [(ap2 mulD (kE (.int 2)) (vE 1)), (ap2 subD (vE 2) (vE 1))]), (apN max2D [(ap2 mulD (kE (.int 2)) (vE 1)), (ap2 subD (vE 2) (vE 1))])])))
def c__law_next : List D → Tp → Res D := fnD false 1 3 b__law_next
/-! _law_gone -/
def b__law_gone : Sx :=
  (sq (par2S 2 3 (lstE [(tupE [(apN min2D [(vE 0), (vE 1)]), (apN max2D [(vE 0), (vE 1)])])]) (kE (.dct true [])))
  (sq (whl 1000000 (ap2 gtG (ap2 ix4D (ap2 ix4D (vE 2) (ap1 negD (kE (.int 1)))) (kE (.int 0))) (kE (.int 0)))
  (sq (putG 3 (ap2 ix4D (vE 2) (ap1 negD (kE (.int 1)))) (apN len4D [(vE 3)]))
  (sq (asS (tgN 4) (callE c__law_next [(ap2 ix4D (vE 2) (ap1 negD (kE (.int 1))))]))
  (sq (ifS (ap2 in4D (vE 4) (vE 3))
  (rtS (tupE [(vE 2), (ap2 ix4D (vE 3) (vE 4))]))
  sk)
  (appS 2 (vE 4))))))
  (rtS (tupE [(vE 2), (kE .non)]))))
def c__law_gone : List D → Tp → Res D := fnD false 2 5 b__law_gone
/-! _law_odd -/
def b__law_odd : Sx :=
  (sq (asS (tgN 2) (callE c__law_common [(vE 0), (vE 1)]))
  (sq (asS (tgN 3) (iteE (ap2 gtG (vE 2) (kE (.int 0))) (apN int1D [(ap2 fdivD (ap2 addD (vE 0) (vE 1)) (vE 2))]) (kE (.int 1))))
  (sq (whl 1000000 (ap2 eqS (ap2 modD (vE 3) (kE (.int 2))) (kE (.int 0)))
  (asS (tgN 3) (apN int1D [(ap2 fdivD (vE 3) (kE (.int 2)))])))
  (rtS (vE 3)))))
def c__law_odd : List D → Tp → Res D := fnD false 2 4 b__law_odd
/-! _law_is_round -/
def b__law_is_round : Sx :=
  (rtS (apN allD [(lcE [1] (tgN 1) (apI rng1D [(apN len4D [(vE 0)])]) (kE (.bl true)) (ap2 eqS (callE c__law_next [(ap2 ix4D (vE 0) (ap2 subD (vE 1) (kE (.int 1))))]) (ap2 ix4D (vE 0) (vE 1))))]))
def c__law_is_round : List D → Tp → Res D := fnD false 1 2 b__law_is_round
/-! _law_case_right -/
def b__law_case_right : Sx :=
  (sq (asS (tgT (tgsC (tgN 3) (tgsC (tgN 4) tgs0))) (callE c__law_gone [(vE 1), (vE 2)]))
  (sq (asS (tgN 5) (iteE (ap2 isD (vE 4) (kE .non)) (lstE [(ap2 subD (apN len4D [(vE 3)]) (kE (.int 1))), (kE .non), (kE .non)]) (lstE [(kE .non), (callE c__law_odd [(vE 1), (vE 2)]), (kE .non)])))
  (sq (asS (tgN 6) (lstE [(callE c_turns_till_empty [(vE 1), (vE 2)]), (callE c_odd_part [(vE 1), (vE 2)])]))
  (sq (ifS (orE (notE (callE c__law_is [(vE 6), (slE slD (vE 5) none (some (kE (.int 2))))])) (ap2 eqS (ap2 isD (ap2 ix4D (vE 6) (kE (.int 0))) (kE .non)) (ap2 isD (ap2 ix4D (vE 6) (kE (.int 1))) (kE .non))))
  (rtS (kE (.bl false)))
  sk)
  (sq (asS (tgN 7) (callE c_heap_round [(vE 1), (vE 2)]))
  (sq (ifS (ap2 isD (vE 4) (kE .non))
  (ifS (ap2 isnD (vE 7) (kE .non))
  (rtS (kE (.bl false)))
  sk)
  (ifS (orE (ap2 neS (apN sorted7D [(vE 7)]) (apN sorted7D [(slE slD (vE 3) (some (vE 4)) none)])) (notE (callE c__law_is_round [(vE 7)])))
  (rtS (kE (.bl false)))
  sk))
  (sq (ifS (andE (ap2 gtG (apN min2D [(vE 1), (vE 2)]) (kE (.int 0))) (notE (callE c__law_is [(callE c_doubled [(vE 1), (vE 2)]), (callE c__law_next [(ap2 ix4D (vE 3) (kE (.int 0)))])])))
  (rtS (kE (.bl false)))
  sk)
  (sq (ifS (orE (ap2 neS (callE c_turns_till_empty [(vE 2), (vE 1)]) (ap2 ix4D (vE 6) (kE (.int 0)))) (ap2 neS (callE c_odd_part [(vE 2), (vE 1)]) (ap2 ix4D (vE 6) (kE (.int 1)))))
  (rtS (kE (.bl false)))
  sk)
  (sq (asS (tgN 8) (ap2 addD (kE (.int 1)) (callE c__law_draw [(vE 0), (kE (.int 3))])))
  (sq (ifS (ap2 gtG (ap2 mulD (apN max2D [(vE 1), (vE 2)]) (vE 8)) (kE (.int 1000)))
  (rtS (kE (.bl true)))
  sk)
  (sq (par2S 1 2 (ap2 mulD (vE 1) (vE 8)) (ap2 mulD (vE 2) (vE 8)))
  (rtS (callE c__law_is [(lstE [(callE c_turns_till_empty [(vE 1), (vE 2)]), (callE c_odd_part [(vE 1), (vE 2)])]), (vE 6)])))))))))))))
def c__law_case_right : List D → Tp → Res D := fnD false 3 9 b__law_case_right
/-! _law_word -/
def bs__law_word (iX_ : Bool → Ex) (y_ : PySem.Str) : Sx :=
  (sq (setS 2 (lstE [(iX_ (y_ == "NoHeaps")), (iX_ (y_ == "NoTurn"))]))
  (sq (appS 2 (iX_ (y_ == "NoSum")))
  (sq (ifS (orE (ap2 neS (mtG isLst cntL (vE 2) [(kE (.bl true))]) (kE (.int 1))) (notE (iX_ true)))
  (rtS (kE (.str "other")))
  sk)
  (rtS (ap2 ix4D (lstE [(kE (.str "heaps")), (kE (.str "turn")), (kE (.str "sum"))]) (mtG isLst idxL (vE 2) [(kE (.bl true))]))))))
def b__law_word (cT_ : Ex) : Sx :=
  (sq (tryT ["NoHeaps", "NoSum", "NoTurn"] 1 (drS cT_) (fun y => bs__law_word (fun b => isXT b 1) y))
  (rtS (kE (.str "let"))))
def c__law_word : Res D → Tp → Res D := cwD 3 (fun r => b__law_word (callT r 0))
/-! _law_refused_right -/
def b__law_refused_right : Sx :=
  (sq (asS (tgN 1) (callE c__law_some [(vE 0), (lstE [(ap1 negD (kE (.int 1))), (kE (.int 1001)), (kE .non), (kE (.bl true)), (kE (.str "3")), (tupE [(kE (.int 3))]), (lstE [(kE (.int 3))]), (kE (.dct false [])), (ap2 powD (kE (.int 10)) (kE (.int 30)))])]))
  (sq (setS 2 (lstE []))
  (sq (forS (tgN 3) (seq6It (tupE [(kE (.fnc "doubled")), (kE (.fnc "turns_till_empty")), (kE (.fnc "odd_part")), (kE (.fnc "heap_round"))]))
  (sq (appS 2 (lamE [1, 3] c__law_word (callV [("doubled", c_doubled), ("heap_round", c_heap_round), ("odd_part", c_odd_part), ("turns_till_empty", c_turns_till_empty)] 3 [(vE 1), (kE (.int 3))])))
  (appS 2 (lamE [1, 3] c__law_word (callV [("doubled", c_doubled), ("heap_round", c_heap_round), ("odd_part", c_odd_part), ("turns_till_empty", c_turns_till_empty)] 3 [(kE (.int 3)), (vE 1)])))))
  (sq (appS 2 (lamE [] c__law_word (callE c_doubled [(kE (.int 0)), (kE (.int 5))])))
  (sq (appS 2 (lamE [] c__law_word (callE c_doubled [(kE (.int 5)), (kE (.int 0))])))
  (sq (appS 2 (lamE [1] c__law_word (callE c_partners [(vE 1)])))
  (rtS (ap2 eqS (vE 2) (ap2 addD (ap2 repD (lstE [(kE (.str "heaps"))]) (kE (.int 8))) (lstE [(kE (.str "turn")), (kE (.str "turn")), (kE (.str "sum"))]))))))))))
def c__law_refused_right : List D → Tp → Res D := fnD false 1 4 b__law_refused_right
/-! law -/
def b_law : Sx :=
  (sq (forS (tgN 2) (apI rng1D [(kE (.int 4))])
  (sq (asS (tgN 3) (callE c__law_some [(vE 1), (lstE [(kE (.int 10)), (kE (.int 40)), (kE (.int 300)), (kE (.int 1001))])]))
  (sq (ifS (notE (callE c__law_case_right [(vE 1), (callE c__law_draw [(vE 1), (vE 3)]), (callE c__law_draw [(vE 1), (vE 3)])]))
  (rtS (kE (.bl false)))
  sk)
  (sq (par2S 4 5 (ap2 addD (kE (.int 1)) (callE c__law_draw [(vE 1), (kE (.int 30))])) (callE c__law_some [(vE 1), (lstE [(kE (.int 1)), (kE (.int 2)), (kE (.int 4)), (kE (.int 8)), (kE (.int 16)), (kE (.int 32))])]))
  (sq (asS (tgN 6) (callE c__law_draw [(vE 1), (ap2 addD (vE 5) (kE (.int 1)))]))
  (ifS (notE (callE c__law_case_right [(vE 1), (ap2 mulD (vE 4) (vE 6)), (ap2 mulD (vE 4) (ap2 subD (vE 5) (vE 6)))]))
  (rtS (kE (.bl false)))
  sk))))))
  (sq (asS (tgN 7) (callE c__law_draw [(vE 1), (callE c__law_some [(vE 1), (lstE [(kE (.int 9)), (kE (.int 33)), (kE (.int 130))])])]))
  (sq (asS (tgN 8) (apN tupOfD [(lcE [6] (tgN 6) (apI rng1D [(ap2 addD (ap2 fdivD (vE 7) (kE (.int 2))) (kE (.int 1)))]) (ap2 isD (ap2 ix4D (callE c__law_gone [(vE 6), (ap2 subD (vE 7) (vE 6))]) (kE (.int 1))) (kE .non)) (vE 6))]))
  (sq (ifS (orE (notE (callE c__law_is [(callE c_partners [(vE 7)]), (vE 8)])) (notE (callE c__law_refused_right [(vE 1)])))
  (rtS (kE (.bl false)))
  sk)
  (sq (asS (tgN 9) (lstE [(callE c_turns_till_empty [(kE (.int 1)), (kE (.int 3))]), (callE c_odd_part [(kE (.int 1)), (kE (.int 2))]), (callE c_heap_round [(kE (.int 1)), (kE (.int 2))]), (callE c_partners [(kE (.int 8))])]))
  (sq (asS (tgN 9) (ap2 addD (vE 9) (lstE [(callE c_turns_till_empty [(kE (.int 0)), (kE (.int 7))]), (callE c_odd_part [(kE (.int 3)), (kE (.int 9))])])))
  (rtS (callE c__law_is [(vE 9), (lstE [(kE (.int 2)), (kE (.int 3)), (tupE [(tupE [(kE (.int 1)), (kE (.int 2))])]), (tupE [(kE (.int 0)), (kE (.int 1)), (kE (.int 2)), (kE (.int 3)), (kE (.int 4))]), (kE (.int 0)), (kE .non)])]))))))))
end W
namespace W
open PySem PySem.Spec PyProof.Rows L2 Ev
section
variable {P : Program} {w : World} {K : PySem.W.Frag} {mg : Str → Option Value} {base : Heap}
theorem ok_is_integer (Φ : Facts w K mg) (TB : Tbs base mg) : Cal P w K mg base "is_integer" c_is_integer false 1 := by
  have z := cal_of (P := P) (w := w) (K := K) (mg := mg) (base := base) (k := 0) (fr := false) (b := b_is_integer) (S' := []) Φ.d_is_integer sc_is_integer fun f cdv A outer s H E hr => by
    have tk := takes_of (X := cxOf (L2.CX P w) P w K mg base ["thing"] "is_integer" (defScope s_is_integer) f cdv A outer s H E) rfl rfl rfl rfl
    have pw := passes_of (X := cxOf (L2.CX P w) P w K mg base ["thing"] "is_integer" (defScope s_is_integer) f cdv A outer s H E) rfl
    refine ss_one ?_
    refine ss_ret ?_
    refine se_and ?_ ?_
    · refine SE.bor ?_
      refine se_isi (by rfl) Φ.n_isinstance ?_ (by decide +kernel) (pe_bltn rfl Φ.n_int (by decide +kernel) rfl)
      exact se_vb 0 (pv 0)
    · refine se_one ?_
      refine se_not ?_
      refine SE.bor ?_
      refine se_isi (by rfl) Φ.n_isinstance ?_ (by decide +kernel) (pe_bltn rfl Φ.n_bool (by decide +kernel) rfl)
      exact se_vb 0 (pv 0)
  exact z
theorem ok_is_within (Φ : Facts w K mg) (TB : Tbs base mg) : Cal P w K mg base "is_within" c_is_within false 2 := by
  have z := cal_of (P := P) (w := w) (K := K) (mg := mg) (base := base) (k := 1) (fr := false) (b := b_is_within) (S' := []) Φ.d_is_within sc_is_within fun f cdv A outer s H E hr => by
    have tk := takes_of (X := cxOf (L2.CX P w) P w K mg base ["thing", "least", "most"] "is_within" (defScope s_is_within) f cdv A outer s H E) rfl rfl rfl rfl
    have pw := passes_of (X := cxOf (L2.CX P w) P w K mg base ["thing", "least", "most"] "is_within" (defScope s_is_within) f cdv A outer s H E) rfl
    refine ss_one ?_
    refine ss_ret ?_
    refine se_and ?_ ?_
    · refine SE.bor ?_
      refine se_call (ok_is_integer Φ TB) (hr.mono (by first | decide | omega)) tk (by rfl) ?_ (by rfl)
      refine fc ?_ ?_
      · exact se_v 0 (by decide) (pv 0)
      · exact sa_nil
    · refine se_one ?_
      refine se_chain (op_leG (u65 hr)) (op_leG (u65 hr)) o_leG o_leG ?_ ?_ ?_
      · exact se_vb 1 (pv 1)
      · exact se_vb 0 (pv 0)
      · exact se_vb 2 (pv 2)
  exact z
theorem ok_common_part (Φ : Facts w K mg) (TB : Tbs base mg) : Cal P w K mg base "common_part" c_common_part false 1 := by
  have z := cal_of (P := P) (w := w) (K := K) (mg := mg) (base := base) (k := 0) (fr := false) (b := b_common_part) (S' := []) Φ.d_common_part sc_common_part fun f cdv A outer s H E hr => by
    have tk := takes_of (X := cxOf (L2.CX P w) P w K mg base ["one", "other"] "common_part" (defScope s_common_part) f cdv A outer s H E) rfl rfl rfl rfl
    have pw := passes_of (X := cxOf (L2.CX P w) P w K mg base ["one", "other"] "common_part" (defScope s_common_part) f cdv A outer s H E) rfl
    refine ss_cons (S1 := []) ?_ ?_
    · refine ss_while (Si := []) 1000000 pw ?_ ?_
      · refine st_cmp (op_neS hr.units) o_neS ?_ ?_ (by rfl)
        · exact se_vb 1 (pv 1)
        · refine SE.bor ?_
          exact se_k (by rfl) pe_int
      · refine ss_one ?_
        refine ss_par2 (i := 0) (j := 1) (o1 := .f) (o2 := .f) (by rfl) sc_common_part.nd (by rfl) (by rfl) (by decide) (by rfl) (by rfl) ?_ ?_
        · exact se_v 1 (by decide) (pv 1)
        · refine se_op op_sub o_sub ?_ ?_
          · exact se_vb 0 (pv 0)
          · refine SE.bor ?_
            refine se_op op_mul o_mul ?_ ?_
            · exact se_vb 1 (pv 1)
            · refine SE.bor ?_
              refine se_op op_fdivN o_fdiv ?_ ?_
              · exact se_vb 0 (pv 0)
              · exact se_vb 1 (pv 1)
    · refine ss_one ?_
      refine ss_ret ?_
      refine se_bi call_abs o_abs (by rfl) Φ.n_abs (by decide +kernel) ?_
      refine bc ?_ ?_
      · exact se_vb 0 (pv 0)
      · exact sa_nil
  exact z
theorem ok_check_heaps (Φ : Facts w K mg) (TB : Tbs base mg) : Cal P w K mg base "check_heaps" c_check_heaps false 3 := by
  have z := cal_of (P := P) (w := w) (K := K) (mg := mg) (base := base) (k := 2) (fr := false) (b := b_check_heaps) (S' := []) Φ.d_check_heaps sc_check_heaps fun f cdv A outer s H E hr => by
    have tk := takes_of (X := cxOf (L2.CX P w) P w K mg base ["heaps", "most", "heap"] "check_heaps" (defScope s_check_heaps) f cdv A outer s H E) rfl rfl rfl rfl
    have pw := passes_of (X := cxOf (L2.CX P w) P w K mg base ["heaps", "most", "heap"] "check_heaps" (defScope s_check_heaps) f cdv A outer s H E) rfl
    refine ss_one ?_
    refine ss_if ?_ ?_ ?_
    · refine st_not ?_
      refine st_val ?_
      refine se_bi (cr_all rfl) o_all (by rfl) Φ.n_all (by decide +kernel) ?_
      refine bc ?_ ?_
      · refine SE.bor ?_
        refine SE.fz ?_
        refine se_lc (own := [ ("heap" , 2)]) (is := [2]) (gt := (gName 2)) (n := 3) (by rfl) sc_check_heaps.nd ?_ (blkOk_by (N := ["heaps", "most" , "heap" ]) (sc := defScope s_check_heaps) (by decide +kernel)) ?_ ?_ ?_
        · refine si_seq6 ?_
          exact se_v 0 (by decide) (pv 0)
        · intro _ _ _ _ _
          exact sg_name (i := 2) sc_check_heaps.nd (by rfl) (by first | exact .inl rfl | exact .inr rfl)
        · intro _ _ _ _ _
          exact sts_nil
        · intro _ _ _ _ _
          refine se_call (ok_is_within Φ TB) (hr.mono (by first | decide | omega)) takes0 (by rfl) ?_ (by rfl)
          refine fc ?_ ?_
          · exact se_v 2 (by decide) (pv 2)
          · refine fc ?_ ?_
            · exact se_k (by rfl) pe_int
            · refine fc ?_ ?_
              · exact se_v 1 (by decide) (pv 1)
              · exact sa_nil
      · exact sa_nil
    · refine ss_one ?_
      exact ss_raise (by rfl) tk (by rfl) (Φ.fam.cl (by decide))
    · exact ss_nil
  exact z
theorem ok_rising_pair (Φ : Facts w K mg) (TB : Tbs base mg) : Cal P w K mg base "rising_pair" c_rising_pair false 1 := by
  have z := cal_of (P := P) (w := w) (K := K) (mg := mg) (base := base) (k := 0) (fr := false) (b := b_rising_pair) (S' := []) Φ.d_rising_pair sc_rising_pair fun f cdv A outer s H E hr => by
    have tk := takes_of (X := cxOf (L2.CX P w) P w K mg base ["one", "other"] "rising_pair" (defScope s_rising_pair) f cdv A outer s H E) rfl rfl rfl rfl
    have pw := passes_of (X := cxOf (L2.CX P w) P w K mg base ["one", "other"] "rising_pair" (defScope s_rising_pair) f cdv A outer s H E) rfl
    refine ss_one ?_
    refine ss_ret ?_
    refine se_ite ?_ ?_ ?_
    · refine st_cmp (op_leG (u65 hr)) o_leG ?_ ?_ (by rfl)
      · exact se_vb 0 (pv 0)
      · exact se_vb 1 (pv 1)
    · refine se_tup ?_
      refine fc ?_ ?_
      · exact se_v 0 (by decide) (pv 0)
      · refine fc ?_ ?_
        · exact se_v 1 (by decide) (pv 1)
        · exact sa_nil
    · refine se_tup ?_
      refine fc ?_ ?_
      · exact se_v 1 (by decide) (pv 1)
      · refine fc ?_ ?_
        · exact se_v 0 (by decide) (pv 0)
        · exact sa_nil
  exact z
theorem ok_raw_doubled (Φ : Facts w K mg) (TB : Tbs base mg) : Cal P w K mg base "raw_doubled" c_raw_doubled false 2 := by
  have z := cal_of (P := P) (w := w) (K := K) (mg := mg) (base := base) (k := 1) (fr := false) (b := b_raw_doubled) (S' := []) Φ.d_raw_doubled sc_raw_doubled fun f cdv A outer s H E hr => by
    have tk := takes_of (X := cxOf (L2.CX P w) P w K mg base ["pair"] "raw_doubled" (defScope s_raw_doubled) f cdv A outer s H E) rfl rfl rfl rfl
    have pw := passes_of (X := cxOf (L2.CX P w) P w K mg base ["pair"] "raw_doubled" (defScope s_raw_doubled) f cdv A outer s H E) rfl
    refine ss_one ?_
    refine ss_ret ?_
    refine se_call (ok_rising_pair Φ TB) (hr.mono (by first | decide | omega)) tk (by rfl) ?_ (by rfl)
    refine fc ?_ ?_
    · refine se_op op_mul o_mul ?_ ?_
      · refine SE.bor ?_
        exact se_k (by rfl) pe_int
      · refine SE.bor ?_
        refine se_ix (ix4 (u65 hr)) o_ix4 ?_ ?_ (fun _ _ => rfl)
        · exact se_vb 0 (pv 0)
        · refine SE.bor ?_
          exact se_k (by rfl) pe_int
    · refine fc ?_ ?_
      · refine se_op op_sub o_sub ?_ ?_
        · refine SE.bor ?_
          refine se_ix (ix4 (u65 hr)) o_ix4 ?_ ?_ (fun _ _ => rfl)
          · exact se_vb 0 (pv 0)
          · refine SE.bor ?_
            exact se_k (by rfl) pe_int
        · refine SE.bor ?_
          refine se_ix (ix4 (u65 hr)) o_ix4 ?_ ?_ (fun _ _ => rfl)
          · exact se_vb 0 (pv 0)
          · refine SE.bor ?_
            exact se_k (by rfl) pe_int
      · exact sa_nil
  exact z
theorem ok_doubled (Φ : Facts w K mg) (TB : Tbs base mg) : Cal P w K mg base "doubled" c_doubled false 4 := by
  have z := cal_of (P := P) (w := w) (K := K) (mg := mg) (base := base) (k := 3) (fr := false) (b := b_doubled) (S' := []) Φ.d_doubled sc_doubled fun f cdv A outer s H E hr => by
    have tk := takes_of (X := cxOf (L2.CX P w) P w K mg base ["one", "other"] "doubled" (defScope s_doubled) f cdv A outer s H E) rfl rfl rfl rfl
    have pw := passes_of (X := cxOf (L2.CX P w) P w K mg base ["one", "other"] "doubled" (defScope s_doubled) f cdv A outer s H E) rfl
    refine ss_cons (S1 := []) ?_ ?_
    · refine ss_expr ?_
      refine se_call (ok_check_heaps Φ TB) (hr.mono (by first | decide | omega)) tk (by rfl) ?_ (by rfl)
      refine fc ?_ ?_
      · refine se_tup ?_
        refine fc ?_ ?_
        · exact se_v 0 (by decide) (pv 0)
        · refine fc ?_ ?_
          · exact se_v 1 (by decide) (pv 1)
          · exact sa_nil
      · refine fc ?_ ?_
        · exact se_k (by rfl) (pe_glob rfl Φ.g_MOST_HEAP.choose_spec relI)
        · exact sa_nil
    · refine ss_cons (S1 := []) ?_ ?_
      · refine ss_if ?_ ?_ ?_
        · refine SW.st ?_
          refine sw_or ?_ ?_
          · refine st_cmp (op_eqS hr.units) o_eqS ?_ ?_ (by rfl)
            · exact se_vb 0 (pv 0)
            · refine SE.bor ?_
              exact se_k (by rfl) pe_int
          · refine sw_or1 ?_
            refine st_cmp (op_eqS hr.units) o_eqS ?_ ?_ (by rfl)
            · exact se_vb 1 (pv 1)
            · refine SE.bor ?_
              exact se_k (by rfl) pe_int
        · refine ss_one ?_
          exact ss_raise (by rfl) tk (by rfl) (Φ.fam.cl (by decide))
        · exact ss_nil
      · refine ss_one ?_
        refine ss_ret ?_
        refine se_call (ok_raw_doubled Φ TB) (hr.mono (by first | decide | omega)) tk (by rfl) ?_ (by rfl)
        refine fc ?_ ?_
        · refine se_call (ok_rising_pair Φ TB) (hr.mono (by first | decide | omega)) tk (by rfl) ?_ (by rfl)
          refine fc ?_ ?_
          · exact se_v 0 (by decide) (pv 0)
          · refine fc ?_ ?_
            · exact se_v 1 (by decide) (pv 1)
            · exact sa_nil
        · exact sa_nil
  exact z
theorem ok_pairs_met (Φ : Facts w K mg) (TB : Tbs base mg) : Cal P w K mg base "pairs_met" c_pairs_met false 3 := by
  have z := cal_of (P := P) (w := w) (K := K) (mg := mg) (base := base) (k := 2) (fr := false) (b := b_pairs_met) (S' := []) Φ.d_pairs_met sc_pairs_met fun f cdv A outer s H E hr => by
    have tk := takes_of (X := cxOf (L2.CX P w) P w K mg base ["one", "other", "here", "found", "known"] "pairs_met" (defScope s_pairs_met) f cdv A outer s H E) rfl rfl rfl rfl
    have pw := passes_of (X := cxOf (L2.CX P w) P w K mg base ["one", "other", "here", "found", "known"] "pairs_met" (defScope s_pairs_met) f cdv A outer s H E) rfl
    refine ss_cons (S1 := [3, 4]) ?_ ?_
    · refine ss_par3 (i := 2) (j := 3) (l := 4) (o1 := .f) (o2 := .o) (o3 := .o) (by rfl) sc_pairs_met.nd (by rfl) (by rfl) (by rfl) (by decide) (by decide) (by decide) (by rfl) (by rfl) (by rfl) ?_ ?_ ?_
      · refine se_call (ok_rising_pair Φ TB) (hr.mono (by first | decide | omega)) tk (by rfl) ?_ (by rfl)
        refine fc ?_ ?_
        · exact se_v 0 (by decide) (pv 0)
        · refine fc ?_ ?_
          · exact se_v 1 (by decide) (pv 1)
          · exact sa_nil
      · refine se_lstO ?_
        exact sa_nil
      · exact se_dnewO true
    · refine ss_cons (S1 := [3, 4]) ?_ ?_
      · refine ss_while (Si := [3, 4]) 1000000 pw ?_ ?_
        · refine SW.st ?_
          refine sw_and ?_ ?_
          · refine st_cmp (op_nin4 (u65 hr)) o_nin4 ?_ ?_ (by rfl)
            · exact se_vb 2 (pv 2)
            · exact se_vb 4 (pv 4)
          · refine sw_and1 ?_
            refine st_cmp (op_gtG (u65 hr)) o_gtG ?_ ?_ (by rfl)
            · refine SE.bor ?_
              refine se_ix (ix4 (u65 hr)) o_ix4 ?_ ?_ (fun _ _ => rfl)
              · exact se_vb 2 (pv 2)
              · refine SE.bor ?_
                exact se_k (by rfl) pe_int
            · refine SE.bor ?_
              exact se_k (by rfl) pe_int
        · refine ss_cons (S1 := [3, 4]) ?_ ?_
          · refine ss_putG (u65 hr) (by decide) (pv 4) ?_ ?_
            · exact se_vb 2 (pv 2)
            · exact se_k (by rfl) pe_bl
          · refine ss_cons (S1 := [3, 4]) ?_ ?_
            · refine ss_append (by decide) (pv 3) ?_
              exact se_v 2 (by decide) (pv 2)
            · refine ss_one ?_
              refine ss_asg (is := [2]) (gt := (gName 2)) (he := ?_) (hg := ?_)
              · refine se_call (ok_raw_doubled Φ TB) (hr.mono (by first | decide | omega)) tk (by rfl) ?_ (by rfl)
                refine fc ?_ ?_
                · exact se_v 2 (by decide) (pv 2)
                · exact sa_nil
              · exact sg_name (i := 2) sc_pairs_met.nd (by rfl) (by first | exact .inl rfl | exact .inr rfl)
      · refine ss_one ?_
        refine SS.weak (S1 := [4]) ?_ (by decide)
        refine ss_ret ?_
        refine se_tup ?_
        refine fc ?_ ?_
        · exact se_v 3 (by decide) (pv 3)
        · refine fc ?_ ?_
          · exact se_v 2 (by decide) (pv 2)
          · exact sa_nil
  exact z
theorem ok_turns_till_empty (Φ : Facts w K mg) (TB : Tbs base mg) : Cal P w K mg base "turns_till_empty" c_turns_till_empty false 4 := by
  have z := cal_of (P := P) (w := w) (K := K) (mg := mg) (base := base) (k := 3) (fr := false) (b := b_turns_till_empty) (S' := []) Φ.d_turns_till_empty sc_turns_till_empty fun f cdv A outer s H E hr => by
    have tk := takes_of (X := cxOf (L2.CX P w) P w K mg base ["one", "other", "found", "last"] "turns_till_empty" (defScope s_turns_till_empty) f cdv A outer s H E) rfl rfl rfl rfl
    have pw := passes_of (X := cxOf (L2.CX P w) P w K mg base ["one", "other", "found", "last"] "turns_till_empty" (defScope s_turns_till_empty) f cdv A outer s H E) rfl
    refine ss_cons (S1 := []) ?_ ?_
    · refine ss_expr ?_
      refine se_call (ok_check_heaps Φ TB) (hr.mono (by first | decide | omega)) tk (by rfl) ?_ (by rfl)
      refine fc ?_ ?_
      · refine se_tup ?_
        refine fc ?_ ?_
        · exact se_v 0 (by decide) (pv 0)
        · refine fc ?_ ?_
          · exact se_v 1 (by decide) (pv 1)
          · exact sa_nil
      · refine fc ?_ ?_
        · exact se_k (by rfl) (pe_glob rfl Φ.g_MOST_HEAP.choose_spec relI)
        · exact sa_nil
    · refine ss_cons (S1 := []) ?_ ?_
      · refine ss_asg (is := ([2] ++ ([3] ++ []))) (gt := (gTup K 2 (gCons (gName 2) (gCons (gName 3) gNil)))) (he := ?_) (hg := ?_)
        · refine se_call (ok_pairs_met Φ TB) (hr.mono (by first | decide | omega)) tk (by rfl) ?_ (by rfl)
          refine fc ?_ ?_
          · exact se_v 0 (by decide) (pv 0)
          · refine fc ?_ ?_
            · exact se_v 1 (by decide) (pv 1)
            · exact sa_nil
        · refine sg_tup (by rfl) ?_ (tgsC_len (tgsC_len tgs0_len))
          refine sgs_cons ?_ ?_
          · exact sg_name (i := 2) sc_turns_till_empty.nd (by rfl) (by first | exact .inl rfl | exact .inr rfl)
          · refine sgs_cons ?_ ?_
            · exact sg_name (i := 3) sc_turns_till_empty.nd (by rfl) (by first | exact .inl rfl | exact .inr rfl)
            · exact sgs_nil
      · refine ss_one ?_
        refine ss_ret ?_
        refine se_ite ?_ ?_ ?_
        · refine st_cmp (op_eqS hr.units) o_eqS ?_ ?_ (by rfl)
          · refine SE.bor ?_
            refine se_ix (ix4 (u65 hr)) o_ix4 ?_ ?_ (fun _ _ => rfl)
            · exact se_vb 3 (pv 3)
            · refine SE.bor ?_
              exact se_k (by rfl) pe_int
          · refine SE.bor ?_
            exact se_k (by rfl) pe_int
        · refine se_bi call_len4 o_len4 (by rfl) Φ.n_len (by decide +kernel) ?_
          refine bc ?_ ?_
          · exact se_vb 2 (pv 2)
          · exact sa_nil
        · exact se_k (by rfl) pe_non
  exact z
theorem ok_odd_part (Φ : Facts w K mg) (TB : Tbs base mg) : Cal P w K mg base "odd_part" c_odd_part false 4 := by
  have z := cal_of (P := P) (w := w) (K := K) (mg := mg) (base := base) (k := 3) (fr := false) (b := b_odd_part) (S' := []) Φ.d_odd_part sc_odd_part fun f cdv A outer s H E hr => by
    have tk := takes_of (X := cxOf (L2.CX P w) P w K mg base ["one", "other", "found"] "odd_part" (defScope s_odd_part) f cdv A outer s H E) rfl rfl rfl rfl
    have pw := passes_of (X := cxOf (L2.CX P w) P w K mg base ["one", "other", "found"] "odd_part" (defScope s_odd_part) f cdv A outer s H E) rfl
    refine ss_cons (S1 := []) ?_ ?_
    · refine ss_expr ?_
      refine se_call (ok_check_heaps Φ TB) (hr.mono (by first | decide | omega)) tk (by rfl) ?_ (by rfl)
      refine fc ?_ ?_
      · refine se_tup ?_
        refine fc ?_ ?_
        · exact se_v 0 (by decide) (pv 0)
        · refine fc ?_ ?_
          · exact se_v 1 (by decide) (pv 1)
          · exact sa_nil
      · refine fc ?_ ?_
        · exact se_k (by rfl) (pe_glob rfl Φ.g_MOST_HEAP.choose_spec relI)
        · exact sa_nil
    · refine ss_cons (S1 := []) ?_ ?_
      · refine ss_if ?_ ?_ ?_
        · refine st_cmp (op_eqS hr.units) o_eqS ?_ ?_ (by rfl)
          · refine SE.bor ?_
            refine se_ix (ix4 (u65 hr)) o_ix4 ?_ ?_ (fun _ _ => rfl)
            · refine SE.bor ?_
              refine se_ix (ix4 (u65 hr)) o_ix4 ?_ ?_ (fun _ _ => rfl)
              · refine SE.bor ?_
                refine se_call (ok_pairs_met Φ TB) (hr.mono (by first | decide | omega)) tk (by rfl) ?_ (by rfl)
                refine fc ?_ ?_
                · exact se_v 0 (by decide) (pv 0)
                · refine fc ?_ ?_
                  · exact se_v 1 (by decide) (pv 1)
                  · exact sa_nil
              · refine SE.bor ?_
                exact se_k (by rfl) pe_int
            · refine SE.bor ?_
              exact se_k (by rfl) pe_int
          · refine SE.bor ?_
            exact se_k (by rfl) pe_int
        · refine ss_one ?_
          refine ss_ret ?_
          exact se_k (by rfl) pe_non
        · exact ss_nil
      · refine ss_cons (S1 := []) ?_ ?_
        · refine ss_asg (is := [2]) (gt := (gName 2)) (he := ?_) (hg := ?_)
          · refine se_op op_fdivN o_fdiv ?_ ?_
            · refine SE.bor ?_
              refine se_op op_add4 o_add ?_ ?_
              · exact se_vb 0 (pv 0)
              · exact se_vb 1 (pv 1)
            · refine SE.bor ?_
              refine se_call (ok_common_part Φ TB) (hr.mono (by first | decide | omega)) tk (by rfl) ?_ (by rfl)
              refine fc ?_ ?_
              · exact se_v 0 (by decide) (pv 0)
              · refine fc ?_ ?_
                · exact se_v 1 (by decide) (pv 1)
                · exact sa_nil
          · exact sg_name (i := 2) sc_odd_part.nd (by rfl) (by first | exact .inl rfl | exact .inr rfl)
        · refine ss_cons (S1 := []) ?_ ?_
          · refine ss_while (Si := []) 1000000 pw ?_ ?_
            · refine st_cmp (op_eqS hr.units) o_eqS ?_ ?_ (by rfl)
              · exact se_vb 2 (pv 2)
              · refine SE.bor ?_
                refine se_op op_mul o_mul ?_ ?_
                · refine SE.bor ?_
                  exact se_k (by rfl) pe_int
                · refine SE.bor ?_
                  refine se_op op_fdivN o_fdiv ?_ ?_
                  · exact se_vb 2 (pv 2)
                  · refine SE.bor ?_
                    exact se_k (by rfl) pe_int
            · refine ss_one ?_
              refine ss_asg (is := [2]) (gt := (gName 2)) (he := ?_) (hg := ?_)
              · refine se_op op_fdivN o_fdiv ?_ ?_
                · exact se_vb 2 (pv 2)
                · refine SE.bor ?_
                  exact se_k (by rfl) pe_int
              · exact sg_name (i := 2) sc_odd_part.nd (by rfl) (by first | exact .inl rfl | exact .inr rfl)
          · refine ss_one ?_
            refine ss_ret ?_
            exact se_v 2 (by decide) (pv 2)
  exact z
theorem ok_heap_round (Φ : Facts w K mg) (TB : Tbs base mg) : Cal P w K mg base "heap_round" c_heap_round false 4 := by
  have z := cal_of (P := P) (w := w) (K := K) (mg := mg) (base := base) (k := 3) (fr := false) (b := b_heap_round) (S' := []) Φ.d_heap_round sc_heap_round fun f cdv A outer s H E hr => by
    have tk := takes_of (X := cxOf (L2.CX P w) P w K mg base ["one", "other", "found", "last"] "heap_round" (defScope s_heap_round) f cdv A outer s H E) rfl rfl rfl rfl
    have pw := passes_of (X := cxOf (L2.CX P w) P w K mg base ["one", "other", "found", "last"] "heap_round" (defScope s_heap_round) f cdv A outer s H E) rfl
    refine ss_cons (S1 := []) ?_ ?_
    · refine ss_expr ?_
      refine se_call (ok_check_heaps Φ TB) (hr.mono (by first | decide | omega)) tk (by rfl) ?_ (by rfl)
      refine fc ?_ ?_
      · refine se_tup ?_
        refine fc ?_ ?_
        · exact se_v 0 (by decide) (pv 0)
        · refine fc ?_ ?_
          · exact se_v 1 (by decide) (pv 1)
          · exact sa_nil
      · refine fc ?_ ?_
        · exact se_k (by rfl) (pe_glob rfl Φ.g_MOST_HEAP.choose_spec relI)
        · exact sa_nil
    · refine ss_cons (S1 := []) ?_ ?_
      · refine ss_asg (is := ([2] ++ ([3] ++ []))) (gt := (gTup K 2 (gCons (gName 2) (gCons (gName 3) gNil)))) (he := ?_) (hg := ?_)
        · refine se_call (ok_pairs_met Φ TB) (hr.mono (by first | decide | omega)) tk (by rfl) ?_ (by rfl)
          refine fc ?_ ?_
          · exact se_v 0 (by decide) (pv 0)
          · refine fc ?_ ?_
            · exact se_v 1 (by decide) (pv 1)
            · exact sa_nil
        · refine sg_tup (by rfl) ?_ (tgsC_len (tgsC_len tgs0_len))
          refine sgs_cons ?_ ?_
          · exact sg_name (i := 2) sc_heap_round.nd (by rfl) (by first | exact .inl rfl | exact .inr rfl)
          · refine sgs_cons ?_ ?_
            · exact sg_name (i := 3) sc_heap_round.nd (by rfl) (by first | exact .inl rfl | exact .inr rfl)
            · exact sgs_nil
      · refine ss_one ?_
        refine ss_ret ?_
        refine se_ite ?_ ?_ ?_
        · refine st_cmp (op_eqS hr.units) o_eqS ?_ ?_ (by rfl)
          · refine SE.bor ?_
            refine se_ix (ix4 (u65 hr)) o_ix4 ?_ ?_ (fun _ _ => rfl)
            · exact se_vb 3 (pv 3)
            · refine SE.bor ?_
              exact se_k (by rfl) pe_int
          · refine SE.bor ?_
            exact se_k (by rfl) pe_int
        · exact se_k (by rfl) pe_non
        · refine se_bt call_tuple_of o_tupOf (by rfl) Φ.n_tuple (by decide +kernel) ?_
          refine bc ?_ ?_
          · refine SE.bor ?_
            refine se_sl sl2 o_sl ?_ ?_ ?_
            · exact se_vb 2 (pv 2)
            · refine so_some ?_
              refine SE.bor ?_
              refine se_mt (mt_idx (u65 hr)) ?_ ?_
              · exact se_vb 2 (pv 2)
              · refine bc ?_ ?_
                · exact se_vb 3 (pv 3)
                · exact sa_nil
            · exact so_none
          · exact sa_nil
  exact z
theorem ok_partners (Φ : Facts w K mg) (TB : Tbs base mg) : Cal P w K mg base "partners" c_partners false 4 := by
  have z := cal_of (P := P) (w := w) (K := K) (mg := mg) (base := base) (k := 3) (fr := false) (b := b_partners) (S' := []) Φ.d_partners sc_partners fun f cdv A outer s H E hr => by
    have tk := takes_of (X := cxOf (L2.CX P w) P w K mg base ["sum_of_both", "found", "lesser"] "partners" (defScope s_partners) f cdv A outer s H E) rfl rfl rfl rfl
    have pw := passes_of (X := cxOf (L2.CX P w) P w K mg base ["sum_of_both", "found", "lesser"] "partners" (defScope s_partners) f cdv A outer s H E) rfl
    refine ss_cons (S1 := []) ?_ ?_
    · refine ss_if ?_ ?_ ?_
      · refine st_not ?_
        refine st_val ?_
        refine se_call (ok_is_within Φ TB) (hr.mono (by first | decide | omega)) tk (by rfl) ?_ (by rfl)
        refine fc ?_ ?_
        · exact se_v 0 (by decide) (pv 0)
        · refine fc ?_ ?_
          · exact se_k (by rfl) pe_int
          · refine fc ?_ ?_
            · exact se_k (by rfl) (pe_glob rfl Φ.g_MOST_HEAP.choose_spec relI)
            · exact sa_nil
      · refine ss_one ?_
        exact ss_raise (by rfl) tk (by rfl) (Φ.fam.cl (by decide))
      · exact ss_nil
    · refine ss_cons (S1 := [1]) ?_ ?_
      · refine ss_setO (i := 1) sc_partners.nd (by rfl) (by first | exact .inl rfl | exact .inr rfl) ?_
        refine se_lstO ?_
        exact sa_nil
      · refine ss_cons (S1 := [1]) ?_ ?_
        · refine ss_for (Si := [1]) (is := [2]) (gt := (gName 2)) pw (by rfl) ?_ ?_ ?_
          · refine si_rng1 (by rfl) Φ.n_range ?_
            refine bc ?_ ?_
            · refine SE.bor ?_
              refine se_op op_add4 o_add ?_ ?_
              · refine SE.bor ?_
                refine se_op op_fdivN o_fdiv ?_ ?_
                · exact se_vb 0 (pv 0)
                · refine SE.bor ?_
                  exact se_k (by rfl) pe_int
              · refine SE.bor ?_
                exact se_k (by rfl) pe_int
            · exact sa_nil
          · exact sg_name (i := 2) sc_partners.nd (by rfl) (by first | exact .inl rfl | exact .inr rfl)
          · refine ss_one ?_
            refine ss_if ?_ ?_ ?_
            · refine st_cmp (op_eqS hr.units) o_eqS ?_ ?_ (by rfl)
              · refine SE.bor ?_
                refine se_ix (ix4 (u65 hr)) o_ix4 ?_ ?_ (fun _ _ => rfl)
                · refine SE.bor ?_
                  refine se_ix (ix4 (u65 hr)) o_ix4 ?_ ?_ (fun _ _ => rfl)
                  · refine SE.bor ?_
                    refine se_call (ok_pairs_met Φ TB) (hr.mono (by first | decide | omega)) tk (by rfl) ?_ (by rfl)
                    refine fc ?_ ?_
                    · exact se_v 2 (by decide) (pv 2)
                    · refine fc ?_ ?_
                      · refine se_op op_sub o_sub ?_ ?_
                        · exact se_vb 0 (pv 0)
                        · exact se_vb 2 (pv 2)
                      · exact sa_nil
                  · refine SE.bor ?_
                    exact se_k (by rfl) pe_int
                · refine SE.bor ?_
                  exact se_k (by rfl) pe_int
              · refine SE.bor ?_
                exact se_k (by rfl) pe_int
            · refine ss_one ?_
              refine ss_append (by decide) (pv 1) ?_
              exact se_v 2 (by decide) (pv 2)
            · exact ss_nil
        · refine ss_one ?_
          refine ss_ret ?_
          refine se_bt call_tuple_of o_tupOf (by rfl) Φ.n_tuple (by decide +kernel) ?_
          refine bc ?_ ?_
          · exact se_vb 1 (pv 1)
          · exact sa_nil
  exact z
theorem ok__law_hand (Φ : Facts w K mg) (TB : Tbs base mg) : Cal P w K mg base "_law_hand" c__law_hand true 1 := by
  have z := cal_of (P := P) (w := w) (K := K) (mg := mg) (base := base) (k := 0) (fr := true) (b := b__law_hand) (S' := []) Φ.d__law_hand sc__law_hand fun f cdv A outer s H E hr => by
    have tk := takes_of (X := cxOf (L2.CX P w) P w K mg base ["script", "cells", "cell"] "_law_hand" (defScope s__law_hand) f cdv A outer s H E) rfl rfl rfl rfl
    have pw := passes_of (X := cxOf (L2.CX P w) P w K mg base ["script", "cells", "cell"] "_law_hand" (defScope s__law_hand) f cdv A outer s H E) rfl
    refine ss_cons (S1 := []) ?_ ?_
    · refine ss_setLc (i := 1) (by rfl) sc__law_hand.nd (by rfl) (by rfl) ?_ (own := [ ("cell" , 2)]) (is := [2]) (gt := (gName 2)) (n := 3) ?_ (blkOk_by (N := ["script", "cells" , "cell" ]) (sc := defScope s__law_hand) (by decide +kernel)) ?_ ?_ ?_
      · exact sw_true (by rfl) (by rfl) (by rfl) (by decide +kernel)
      · refine si_seq6 ?_
        refine se_sl sl2 o_sl ?_ ?_ ?_
        · exact se_vb 0 (pv 0)
        · exact so_none
        · refine so_some ?_
          refine SE.bor ?_
          exact se_k (by rfl) pe_int
      · intro _ _ _ _ _
        exact sg_name (i := 2) sc__law_hand.nd (by rfl) (by first | exact .inl rfl | exact .inr rfl)
      · intro _ _ _ _ _
        exact sts_nil
      · intro _ _ _ _ _
        refine se_bi call_abs o_abs (by rfl) Φ.n_abs (by decide +kernel) ?_
        refine bc ?_ ?_
        · refine SE.bor ?_
          refine se_bt call_int1 o_int1 (by rfl) Φ.n_int (by decide +kernel) ?_
          refine bc ?_ ?_
          · exact se_vb 2 (pv 2)
          · exact sa_nil
        · exact sa_nil
    · refine ss_one ?_
      refine ss_retO ?_
      refine se_lstO ?_
      refine fc ?_ ?_
      · exact se_v 1 (by decide) (pv 1)
      · refine fc ?_ ?_
        · exact se_k (by rfl) pe_int
        · refine fc ?_ ?_
          · exact se_k (by rfl) pe_int
          · refine fc ?_ ?_
            · refine se_op op_add4 o_add ?_ ?_
              · refine SE.bor ?_
                exact se_k (by rfl) pe_int
              · refine SE.bor ?_
                refine se_op op_mul o_mul ?_ ?_
                · refine SE.bor ?_
                  exact se_k (by rfl) pe_int
                · refine SE.bor ?_
                  refine se_bi call_len4 o_len4 (by rfl) Φ.n_len (by decide +kernel) ?_
                  refine bc ?_ ?_
                  · exact se_vb 1 (pv 1)
                  · exact sa_nil
            · refine fc ?_ ?_
              · exact se_k (by rfl) pe_int
              · exact sa_nil
  exact z
theorem ok__law_draw (Φ : Facts w K mg) (TB : Tbs base mg) : Cal P w K mg base "_law_draw" c__law_draw false 1 := by
  have z := cal_of (P := P) (w := w) (K := K) (mg := mg) (base := base) (k := 0) (fr := false) (b := b__law_draw) (S' := []) Φ.d__law_draw sc__law_draw fun f cdv A outer s H E hr => by
    have tk := takes_of (X := cxOf (L2.CX P w) P w K mg base ["hand", "many", "cell", "digit", "number"] "_law_draw" (defScope s__law_draw) f cdv A outer s H E) rfl rfl rfl rfl
    have pw := passes_of (X := cxOf (L2.CX P w) P w K mg base ["hand", "many", "cell", "digit", "number"] "_law_draw" (defScope s__law_draw) f cdv A outer s H E) rfl
    refine ss_cons (S1 := []) ?_ ?_
    · refine ss_if ?_ ?_ ?_
      · refine SW.st ?_
        refine sw_and ?_ ?_
        · refine st_cmp (op_eqS hr.units) o_eqS ?_ ?_ (by rfl)
          · refine SE.bor ?_
            refine se_tget ?_ ?_ (fun _ _ => rfl)
            · exact se_v 0 (by decide) (pv 0)
            · refine SE.bor ?_
              exact se_k (by rfl) pe_int
          · refine SE.bor ?_
            exact se_k (by rfl) pe_int
        · refine sw_and1 ?_
          refine st_cmp (op_ltG (u65 hr)) o_ltG ?_ ?_ (by rfl)
          · refine SE.bor ?_
            refine se_tget ?_ ?_ (fun _ _ => rfl)
            · exact se_v 0 (by decide) (pv 0)
            · refine SE.bor ?_
              exact se_k (by rfl) pe_int
          · refine SE.bor ?_
            refine se_bi call_len4 o_len4 (by rfl) Φ.n_len (by decide +kernel) ?_
            refine bc ?_ ?_
            · refine SE.bor ?_
              refine se_tget ?_ ?_ (fun _ _ => rfl)
              · exact se_v 0 (by decide) (pv 0)
              · refine SE.bor ?_
                exact se_k (by rfl) pe_int
            · exact sa_nil
      · refine ss_cons (S1 := []) ?_ ?_
        · refine ss_asg (is := [2]) (gt := (gName 2)) (he := ?_) (hg := ?_)
          · refine se_ix (ix4 (u65 hr)) o_ix4 ?_ ?_ (fun _ _ => rfl)
            · refine SE.bor ?_
              refine se_tget ?_ ?_ (fun _ _ => rfl)
              · exact se_v 0 (by decide) (pv 0)
              · refine SE.bor ?_
                exact se_k (by rfl) pe_int
            · refine SE.bor ?_
              refine se_tget ?_ ?_ (fun _ _ => rfl)
              · exact se_v 0 (by decide) (pv 0)
              · refine SE.bor ?_
                exact se_k (by rfl) pe_int
          · exact sg_name (i := 2) sc__law_draw.nd (by rfl) (by first | exact .inl rfl | exact .inr rfl)
        · refine ss_cons (S1 := []) ?_ ?_
          · refine ss_tput ?_ ?_ ?_
            · exact se_v 0 (by decide) (pv 0)
            · refine SE.bor ?_
              exact se_k (by rfl) pe_int
            · refine se_op op_add4 o_add ?_ ?_
              · refine SE.bor ?_
                refine se_tget ?_ ?_ (fun _ _ => rfl)
                · exact se_v 0 (by decide) (pv 0)
                · refine SE.bor ?_
                  exact se_k (by rfl) pe_int
              · refine SE.bor ?_
                exact se_k (by rfl) pe_int
          · refine ss_cons (S1 := []) ?_ ?_
            · refine ss_tput ?_ ?_ ?_
              · exact se_v 0 (by decide) (pv 0)
              · refine SE.bor ?_
                exact se_k (by rfl) pe_int
              · refine se_op op_modN o_mod ?_ ?_
                · refine SE.bor ?_
                  refine se_bt call_int1 o_int1 (by rfl) Φ.n_int (by decide +kernel) ?_
                  refine bc ?_ ?_
                  · refine SE.bor ?_
                    refine se_op op_add4 o_add ?_ ?_
                    · refine SE.bor ?_
                      refine se_op op_add4 o_add ?_ ?_
                      · refine SE.bor ?_
                        refine se_op op_mul o_mul ?_ ?_
                        · refine SE.bor ?_
                          refine se_tget ?_ ?_ (fun _ _ => rfl)
                          · exact se_v 0 (by decide) (pv 0)
                          · refine SE.bor ?_
                            exact se_k (by rfl) pe_int
                        · refine SE.bor ?_
                          exact se_k (by rfl) pe_int
                      · refine SE.bor ?_
                        refine se_op op_mul o_mul ?_ ?_
                        · exact se_vb 2 (pv 2)
                        · refine SE.bor ?_
                          exact se_k (by rfl) pe_int
                    · refine SE.bor ?_
                      exact se_k (by rfl) pe_int
                  · exact sa_nil
                · refine SE.bor ?_
                  exact se_k (by rfl) pe_int
            · refine ss_one ?_
              refine ss_if ?_ ?_ ?_
              · refine st_cmp (op_geG (u65 hr)) o_geG ?_ ?_ (by rfl)
                · exact se_vb 2 (pv 2)
                · refine SE.bor ?_
                  refine se_op op_pow o_pow ?_ ?_
                  · refine SE.bor ?_
                    exact se_k (by rfl) pe_int
                  · refine SE.bor ?_
                    exact se_k (by rfl) pe_int
              · refine ss_one ?_
                refine ss_tput ?_ ?_ ?_
                · exact se_v 0 (by decide) (pv 0)
                · refine SE.bor ?_
                  exact se_k (by rfl) pe_int
                · exact se_v 2 (by decide) (pv 2)
              · exact ss_nil
      · exact ss_nil
    · refine ss_cons (S1 := []) ?_ ?_
      · refine ss_if ?_ ?_ ?_
        · refine st_cmp (op_gtG (u65 hr)) o_gtG ?_ ?_ (by rfl)
          · refine SE.bor ?_
            refine se_tget ?_ ?_ (fun _ _ => rfl)
            · exact se_v 0 (by decide) (pv 0)
            · refine SE.bor ?_
              exact se_k (by rfl) pe_int
          · refine SE.bor ?_
            exact se_k (by rfl) pe_int
        · refine ss_cons (S1 := []) ?_ ?_
          · refine ss_asg (is := [3]) (gt := (gName 3)) (he := ?_) (hg := ?_)
            · refine se_op op_modN o_mod ?_ ?_
              · refine SE.bor ?_
                refine se_bt call_int1 o_int1 (by rfl) Φ.n_int (by decide +kernel) ?_
                refine bc ?_ ?_
                · refine SE.bor ?_
                  refine se_tget ?_ ?_ (fun _ _ => rfl)
                  · exact se_v 0 (by decide) (pv 0)
                  · refine SE.bor ?_
                    exact se_k (by rfl) pe_int
                · exact sa_nil
              · exact se_vb 1 (pv 1)
            · exact sg_name (i := 3) sc__law_draw.nd (by rfl) (by first | exact .inl rfl | exact .inr rfl)
          · refine ss_cons (S1 := []) ?_ ?_
            · refine ss_tput ?_ ?_ ?_
              · exact se_v 0 (by decide) (pv 0)
              · refine SE.bor ?_
                exact se_k (by rfl) pe_int
              · refine se_op op_fdivN o_fdiv ?_ ?_
                · refine SE.bor ?_
                  refine se_tget ?_ ?_ (fun _ _ => rfl)
                  · exact se_v 0 (by decide) (pv 0)
                  · refine SE.bor ?_
                    exact se_k (by rfl) pe_int
                · exact se_vb 1 (pv 1)
            · refine ss_one ?_
              refine ss_ret ?_
              exact se_v 3 (by decide) (pv 3)
        · exact ss_nil
      · refine ss_cons (S1 := []) ?_ ?_
        · refine ss_tput ?_ ?_ ?_
          · exact se_v 0 (by decide) (pv 0)
          · refine SE.bor ?_
            exact se_k (by rfl) pe_int
          · refine se_op op_add4 o_add ?_ ?_
            · refine SE.bor ?_
              refine se_tget ?_ ?_ (fun _ _ => rfl)
              · exact se_v 0 (by decide) (pv 0)
              · refine SE.bor ?_
                exact se_k (by rfl) pe_int
            · refine SE.bor ?_
              exact se_k (by rfl) pe_int
        · refine ss_cons (S1 := []) ?_ ?_
          · refine ss_asg (is := [4]) (gt := (gName 4)) (he := ?_) (hg := ?_)
            · refine se_op op_modN o_mod ?_ ?_
              · refine SE.bor ?_
                refine se_bt call_int1 o_int1 (by rfl) Φ.n_int (by decide +kernel) ?_
                refine bc ?_ ?_
                · refine SE.bor ?_
                  refine se_op op_mul o_mul ?_ ?_
                  · refine SE.bor ?_
                    refine se_bt call_int1 o_int1 (by rfl) Φ.n_int (by decide +kernel) ?_
                    refine bc ?_ ?_
                    · refine SE.bor ?_
                      refine se_op op_add4 o_add ?_ ?_
                      · refine SE.bor ?_
                        refine se_tget ?_ ?_ (fun _ _ => rfl)
                        · exact se_v 0 (by decide) (pv 0)
                        · refine SE.bor ?_
                          exact se_k (by rfl) pe_int
                      · refine SE.bor ?_
                        refine se_op op_mul o_mul ?_ ?_
                        · refine SE.bor ?_
                          exact se_k (by rfl) pe_int
                        · refine SE.bor ?_
                          refine se_tget ?_ ?_ (fun _ _ => rfl)
                          · exact se_v 0 (by decide) (pv 0)
                          · refine SE.bor ?_
                            exact se_k (by rfl) pe_int
                    · exact sa_nil
                  · refine SE.bor ?_
                    exact se_k (by rfl) pe_int
                · exact sa_nil
              · refine SE.bor ?_
                exact se_k (by rfl) pe_int
            · exact sg_name (i := 4) sc__law_draw.nd (by rfl) (by first | exact .inl rfl | exact .inr rfl)
          · refine ss_cons (S1 := []) ?_ ?_
            · refine ss_asg (is := [4]) (gt := (gName 4)) (he := ?_) (hg := ?_)
              · refine se_op op_modN o_mod ?_ ?_
                · refine SE.bor ?_
                  refine se_bt call_int1 o_int1 (by rfl) Φ.n_int (by decide +kernel) ?_
                  refine bc ?_ ?_
                  · refine SE.bor ?_
                    refine se_op op_mul o_mul ?_ ?_
                    · exact se_vb 4 (pv 4)
                    · refine SE.bor ?_
                      refine se_op op_add4 o_add ?_ ?_
                      · refine SE.bor ?_
                        refine se_op op_fdivN o_fdiv ?_ ?_
                        · exact se_vb 4 (pv 4)
                        · refine SE.bor ?_
                          exact se_k (by rfl) pe_int
                      · refine SE.bor ?_
                        exact se_k (by rfl) pe_int
                  · exact sa_nil
                · refine SE.bor ?_
                  exact se_k (by rfl) pe_int
              · exact sg_name (i := 4) sc__law_draw.nd (by rfl) (by first | exact .inl rfl | exact .inr rfl)
            · refine ss_cons (S1 := []) ?_ ?_
              · refine ss_asg (is := [4]) (gt := (gName 4)) (he := ?_) (hg := ?_)
                · refine se_op op_modN o_mod ?_ ?_
                  · refine SE.bor ?_
                    refine se_bt call_int1 o_int1 (by rfl) Φ.n_int (by decide +kernel) ?_
                    refine bc ?_ ?_
                    · refine SE.bor ?_
                      refine se_op op_mul o_mul ?_ ?_
                      · exact se_vb 4 (pv 4)
                      · refine SE.bor ?_
                        refine se_op op_add4 o_add ?_ ?_
                        · refine SE.bor ?_
                          refine se_op op_fdivN o_fdiv ?_ ?_
                          · exact se_vb 4 (pv 4)
                          · refine SE.bor ?_
                            exact se_k (by rfl) pe_int
                        · refine SE.bor ?_
                          exact se_k (by rfl) pe_int
                    · exact sa_nil
                  · refine SE.bor ?_
                    exact se_k (by rfl) pe_int
                · exact sg_name (i := 4) sc__law_draw.nd (by rfl) (by first | exact .inl rfl | exact .inr rfl)
              · refine ss_one ?_
                refine ss_ret ?_
                refine se_op op_modN o_mod ?_ ?_
                · refine SE.bor ?_
                  refine se_bt call_int1 o_int1 (by rfl) Φ.n_int (by decide +kernel) ?_
                  refine bc ?_ ?_
                  · refine SE.bor ?_
                    refine se_op op_fdivN o_fdiv ?_ ?_
                    · exact se_vb 4 (pv 4)
                    · refine SE.bor ?_
                      exact se_k (by rfl) pe_int
                  · exact sa_nil
                · exact se_vb 1 (pv 1)
  exact z
theorem ok__law_some (Φ : Facts w K mg) (TB : Tbs base mg) : Cal P w K mg base "_law_some" c__law_some false 2 := by
  have z := cal_of (P := P) (w := w) (K := K) (mg := mg) (base := base) (k := 1) (fr := false) (b := b__law_some) (S' := []) Φ.d__law_some sc__law_some fun f cdv A outer s H E hr => by
    have tk := takes_of (X := cxOf (L2.CX P w) P w K mg base ["hand", "things"] "_law_some" (defScope s__law_some) f cdv A outer s H E) rfl rfl rfl rfl
    have pw := passes_of (X := cxOf (L2.CX P w) P w K mg base ["hand", "things"] "_law_some" (defScope s__law_some) f cdv A outer s H E) rfl
    refine ss_one ?_
    refine ss_ret ?_
    refine se_ix (ix4 (u65 hr)) o_ix4 ?_ ?_ (fun _ _ => rfl)
    · exact se_vb 1 (pv 1)
    · refine SE.bor ?_
      refine se_call (ok__law_draw Φ TB) (hr.mono (by first | decide | omega)) tk (by rfl) ?_ (by rfl)
      refine fc ?_ ?_
      · exact se_v 0 (by decide) (pv 0)
      · refine fc ?_ ?_
        · refine se_bi call_len4 o_len4 (by rfl) Φ.n_len (by decide +kernel) ?_
          refine bc ?_ ?_
          · exact se_vb 1 (pv 1)
          · exact sa_nil
        · exact sa_nil
  exact z
theorem ok__law_is (Φ : Facts w K mg) (TB : Tbs base mg) : Cal P w K mg base "_law_is" c__law_is false 1 := by
  have z := cal_of (P := P) (w := w) (K := K) (mg := mg) (base := base) (k := 0) (fr := false) (b := b__law_is) (S' := []) Φ.d__law_is sc__law_is fun f cdv A outer s H E hr => by
    have tk := takes_of (X := cxOf (L2.CX P w) P w K mg base ["mine", "yours"] "_law_is" (defScope s__law_is) f cdv A outer s H E) rfl rfl rfl rfl
    have pw := passes_of (X := cxOf (L2.CX P w) P w K mg base ["mine", "yours"] "_law_is" (defScope s__law_is) f cdv A outer s H E) rfl
    refine ss_one ?_
    refine ss_ret ?_
    refine se_cmp (op_eqS hr.units) o_eqS ?_ ?_ (by rfl)
    · refine SE.bor ?_
      refine se_bi (call_repr7 hr) o_repr7 (by rfl) Φ.n_repr (by decide +kernel) ?_
      refine bc ?_ ?_
      · exact se_vb 0 (pv 0)
      · exact sa_nil
    · refine SE.bor ?_
      refine se_bi (call_repr7 hr) o_repr7 (by rfl) Φ.n_repr (by decide +kernel) ?_
      refine bc ?_ ?_
      · exact se_vb 1 (pv 1)
      · exact sa_nil
  exact z
theorem ok__law_common (Φ : Facts w K mg) (TB : Tbs base mg) : Cal P w K mg base "_law_common" c__law_common false 1 := by
  have z := cal_of (P := P) (w := w) (K := K) (mg := mg) (base := base) (k := 0) (fr := false) (b := b__law_common) (S' := []) Φ.d__law_common sc__law_common fun f cdv A outer s H E hr => by
    have tk := takes_of (X := cxOf (L2.CX P w) P w K mg base ["one", "other"] "_law_common" (defScope s__law_common) f cdv A outer s H E) rfl rfl rfl rfl
    have pw := passes_of (X := cxOf (L2.CX P w) P w K mg base ["one", "other"] "_law_common" (defScope s__law_common) f cdv A outer s H E) rfl
    refine ss_cons (S1 := []) ?_ ?_
    · refine ss_while (Si := []) 1000000 pw ?_ ?_
      · refine st_cmp (op_gtG (u65 hr)) o_gtG ?_ ?_ (by rfl)
        · exact se_vb 1 (pv 1)
        · refine SE.bor ?_
          exact se_k (by rfl) pe_int
      · refine ss_one ?_
        refine ss_par2 (i := 0) (j := 1) (o1 := .f) (o2 := .f) (by rfl) sc__law_common.nd (by rfl) (by rfl) (by decide) (by rfl) (by rfl) ?_ ?_
        · exact se_v 1 (by decide) (pv 1)
        · refine se_op op_modN o_mod ?_ ?_
          · refine SE.bor ?_
            refine se_bt call_int1 o_int1 (by rfl) Φ.n_int (by decide +kernel) ?_
            refine bc ?_ ?_
            · exact se_vb 0 (pv 0)
            · exact sa_nil
          · exact se_vb 1 (pv 1)
    · refine ss_one ?_
      refine ss_ret ?_
      exact se_v 0 (by decide) (pv 0)
  exact z
theorem ok__law_next (Φ : Facts w K mg) (TB : Tbs base mg) : Cal P w K mg base "_law_next" c__law_next false 1 := by
  have z := cal_of (P := P) (w := w) (K := K) (mg := mg) (base := base) (k := 0) (fr := false) (b := b__law_next) (S' := []) Φ.d__law_next sc__law_next fun f cdv A outer s H E hr => by
    have tk := takes_of (X := cxOf (L2.CX P w) P w K mg base ["pair", "low", "high"] "_law_next" (defScope s__law_next) f cdv A outer s H E) rfl rfl rfl rfl
    have pw := passes_of (X := cxOf (L2.CX P w) P w K mg base ["pair", "low", "high"] "_law_next" (defScope s__law_next) f cdv A outer s H E) rfl
    refine ss_cons (S1 := []) ?_ ?_
    · refine ss_asg (is := ([1] ++ ([2] ++ []))) (gt := (gTup K 2 (gCons (gName 1) (gCons (gName 2) gNil)))) (he := ?_) (hg := ?_)
      · exact se_v 0 (by decide) (pv 0)
      · refine sg_tup (by rfl) ?_ (tgsC_len (tgsC_len tgs0_len))
        refine sgs_cons ?_ ?_
        · exact sg_name (i := 1) sc__law_next.nd (by rfl) (by first | exact .inl rfl | exact .inr rfl)
        · refine sgs_cons ?_ ?_
          · exact sg_name (i := 2) sc__law_next.nd (by rfl) (by first | exact .inl rfl | exact .inr rfl)
          · exact sgs_nil
    · refine ss_one ?_
      refine ss_ret ?_
      refine se_tup ?_
      refine fc ?_ ?_
      · refine se_bi (call_min2 rfl) o_min2 (by rfl) Φ.n_min (by decide +kernel) ?_
        refine bc ?_ ?_
        · refine SE.bor ?_
          refine se_op op_mul o_mul ?_ ?_
          · refine SE.bor ?_
            exact se_k (by rfl) pe_int
          · exact se_vb 1 (pv 1)
        · refine bc ?_ ?_
          · refine SE.bor ?_
            refine se_op op_sub o_sub ?_ ?_
            · exact se_vb 2 (pv 2)
            · exact se_vb 1 (pv 1)
          · exact sa_nil
      · refine fc ?_ ?_
        · refine se_bi (call_max2 rfl) o_max2 (by rfl) Φ.n_max (by decide +kernel) ?_
          refine bc ?_ ?_
          · refine SE.bor ?_
            refine se_op op_mul o_mul ?_ ?_
            · refine SE.bor ?_
              exact se_k (by rfl) pe_int
            · exact se_vb 1 (pv 1)
          · refine bc ?_ ?_
            · refine SE.bor ?_
              refine se_op op_sub o_sub ?_ ?_
              · exact se_vb 2 (pv 2)
              · exact se_vb 1 (pv 1)
            · exact sa_nil
        · exact sa_nil
  exact z
theorem ok__law_gone (Φ : Facts w K mg) (TB : Tbs base mg) : Cal P w K mg base "_law_gone" c__law_gone false 2 := by
  have z := cal_of (P := P) (w := w) (K := K) (mg := mg) (base := base) (k := 1) (fr := false) (b := b__law_gone) (S' := []) Φ.d__law_gone sc__law_gone fun f cdv A outer s H E hr => by
    have tk := takes_of (X := cxOf (L2.CX P w) P w K mg base ["one", "other", "found", "met", "later"] "_law_gone" (defScope s__law_gone) f cdv A outer s H E) rfl rfl rfl rfl
    have pw := passes_of (X := cxOf (L2.CX P w) P w K mg base ["one", "other", "found", "met", "later"] "_law_gone" (defScope s__law_gone) f cdv A outer s H E) rfl
    refine ss_cons (S1 := [2, 3]) ?_ ?_
    · refine ss_par2 (i := 2) (j := 3) (o1 := .o) (o2 := .o) (by rfl) sc__law_gone.nd (by rfl) (by rfl) (by decide) (by rfl) (by rfl) ?_ ?_
      · refine se_lstO ?_
        refine fc ?_ ?_
        · refine se_tup ?_
          refine fc ?_ ?_
          · refine se_bi (call_min2 rfl) o_min2 (by rfl) Φ.n_min (by decide +kernel) ?_
            refine bc ?_ ?_
            · exact se_vb 0 (pv 0)
            · refine bc ?_ ?_
              · exact se_vb 1 (pv 1)
              · exact sa_nil
          · refine fc ?_ ?_
            · refine se_bi (call_max2 rfl) o_max2 (by rfl) Φ.n_max (by decide +kernel) ?_
              refine bc ?_ ?_
              · exact se_vb 0 (pv 0)
              · refine bc ?_ ?_
                · exact se_vb 1 (pv 1)
                · exact sa_nil
            · exact sa_nil
        · exact sa_nil
      · exact se_dnewO true
    · refine ss_cons (S1 := [2, 3]) ?_ ?_
      · refine ss_while (Si := [2, 3]) 1000000 pw ?_ ?_
        · refine st_cmp (op_gtG (u65 hr)) o_gtG ?_ ?_ (by rfl)
          · refine SE.bor ?_
            refine se_ix (ix4 (u65 hr)) o_ix4 ?_ ?_ (fun _ _ => rfl)
            · refine SE.bor ?_
              refine se_ix (ix4 (u65 hr)) o_ix4 ?_ ?_ (fun _ _ => rfl)
              · exact se_vb 2 (pv 2)
              · refine SE.bor ?_
                refine se_un un_neg o_neg ?_
                refine SE.bor ?_
                exact se_k (by rfl) pe_int
            · refine SE.bor ?_
              exact se_k (by rfl) pe_int
          · refine SE.bor ?_
            exact se_k (by rfl) pe_int
        · refine ss_cons (S1 := [2, 3]) ?_ ?_
          · refine ss_putG (u65 hr) (by decide) (pv 3) ?_ ?_
            · refine SE.bor ?_
              refine se_ix (ix4 (u65 hr)) o_ix4 ?_ ?_ (fun _ _ => rfl)
              · exact se_vb 2 (pv 2)
              · refine SE.bor ?_
                refine se_un un_neg o_neg ?_
                refine SE.bor ?_
                exact se_k (by rfl) pe_int
            · refine se_bi call_len4 o_len4 (by rfl) Φ.n_len (by decide +kernel) ?_
              refine bc ?_ ?_
              · exact se_vb 3 (pv 3)
              · exact sa_nil
          · refine ss_cons (S1 := [2, 3]) ?_ ?_
            · refine ss_asg (is := [4]) (gt := (gName 4)) (he := ?_) (hg := ?_)
              · refine se_call (ok__law_next Φ TB) (hr.mono (by first | decide | omega)) tk (by rfl) ?_ (by rfl)
                refine fc ?_ ?_
                · refine se_ix (ix4 (u65 hr)) o_ix4 ?_ ?_ (fun _ _ => rfl)
                  · exact se_vb 2 (pv 2)
                  · refine SE.bor ?_
                    refine se_un un_neg o_neg ?_
                    refine SE.bor ?_
                    exact se_k (by rfl) pe_int
                · exact sa_nil
              · exact sg_name (i := 4) sc__law_gone.nd (by rfl) (by first | exact .inl rfl | exact .inr rfl)
            · refine ss_cons (S1 := [2, 3]) ?_ ?_
              · refine ss_if ?_ ?_ ?_
                · refine st_cmp (op_in4 (u65 hr)) o_in4 ?_ ?_ (by rfl)
                  · exact se_vb 4 (pv 4)
                  · exact se_vb 3 (pv 3)
                · refine ss_one ?_
                  refine SS.weak (S1 := [3]) ?_ (by decide)
                  refine ss_ret ?_
                  refine se_tup ?_
                  refine fc ?_ ?_
                  · exact se_v 2 (by decide) (pv 2)
                  · refine fc ?_ ?_
                    · refine se_ix (ix4 (u65 hr)) o_ix4 ?_ ?_ (fun _ _ => rfl)
                      · exact se_vb 3 (pv 3)
                      · exact se_vb 4 (pv 4)
                    · exact sa_nil
                · exact ss_nil
              · refine ss_one ?_
                refine ss_append (by decide) (pv 2) ?_
                exact se_v 4 (by decide) (pv 4)
      · refine ss_one ?_
        refine SS.weak (S1 := [3]) ?_ (by decide)
        refine ss_ret ?_
        refine se_tup ?_
        refine fc ?_ ?_
        · exact se_v 2 (by decide) (pv 2)
        · refine fc ?_ ?_
          · exact se_k (by rfl) pe_non
          · exact sa_nil
  exact z
theorem ok__law_odd (Φ : Facts w K mg) (TB : Tbs base mg) : Cal P w K mg base "_law_odd" c__law_odd false 2 := by
  have z := cal_of (P := P) (w := w) (K := K) (mg := mg) (base := base) (k := 1) (fr := false) (b := b__law_odd) (S' := []) Φ.d__law_odd sc__law_odd fun f cdv A outer s H E hr => by
    have tk := takes_of (X := cxOf (L2.CX P w) P w K mg base ["one", "other", "part", "number"] "_law_odd" (defScope s__law_odd) f cdv A outer s H E) rfl rfl rfl rfl
    have pw := passes_of (X := cxOf (L2.CX P w) P w K mg base ["one", "other", "part", "number"] "_law_odd" (defScope s__law_odd) f cdv A outer s H E) rfl
    refine ss_cons (S1 := []) ?_ ?_
    · refine ss_asg (is := [2]) (gt := (gName 2)) (he := ?_) (hg := ?_)
      · refine se_call (ok__law_common Φ TB) (hr.mono (by first | decide | omega)) tk (by rfl) ?_ (by rfl)
        refine fc ?_ ?_
        · exact se_v 0 (by decide) (pv 0)
        · refine fc ?_ ?_
          · exact se_v 1 (by decide) (pv 1)
          · exact sa_nil
      · exact sg_name (i := 2) sc__law_odd.nd (by rfl) (by first | exact .inl rfl | exact .inr rfl)
    · refine ss_cons (S1 := []) ?_ ?_
      · refine ss_asg (is := [3]) (gt := (gName 3)) (he := ?_) (hg := ?_)
        · refine se_ite ?_ ?_ ?_
          · refine st_cmp (op_gtG (u65 hr)) o_gtG ?_ ?_ (by rfl)
            · exact se_vb 2 (pv 2)
            · refine SE.bor ?_
              exact se_k (by rfl) pe_int
          · refine se_bt call_int1 o_int1 (by rfl) Φ.n_int (by decide +kernel) ?_
            refine bc ?_ ?_
            · refine SE.bor ?_
              refine se_op op_fdivN o_fdiv ?_ ?_
              · refine SE.bor ?_
                refine se_op op_add4 o_add ?_ ?_
                · exact se_vb 0 (pv 0)
                · exact se_vb 1 (pv 1)
              · exact se_vb 2 (pv 2)
            · exact sa_nil
          · exact se_k (by rfl) pe_int
        · exact sg_name (i := 3) sc__law_odd.nd (by rfl) (by first | exact .inl rfl | exact .inr rfl)
      · refine ss_cons (S1 := []) ?_ ?_
        · refine ss_while (Si := []) 1000000 pw ?_ ?_
          · refine st_cmp (op_eqS hr.units) o_eqS ?_ ?_ (by rfl)
            · refine SE.bor ?_
              refine se_op op_modN o_mod ?_ ?_
              · exact se_vb 3 (pv 3)
              · refine SE.bor ?_
                exact se_k (by rfl) pe_int
            · refine SE.bor ?_
              exact se_k (by rfl) pe_int
          · refine ss_one ?_
            refine ss_asg (is := [3]) (gt := (gName 3)) (he := ?_) (hg := ?_)
            · refine se_bt call_int1 o_int1 (by rfl) Φ.n_int (by decide +kernel) ?_
              refine bc ?_ ?_
              · refine SE.bor ?_
                refine se_op op_fdivN o_fdiv ?_ ?_
                · exact se_vb 3 (pv 3)
                · refine SE.bor ?_
                  exact se_k (by rfl) pe_int
              · exact sa_nil
            · exact sg_name (i := 3) sc__law_odd.nd (by rfl) (by first | exact .inl rfl | exact .inr rfl)
        · refine ss_one ?_
          refine ss_ret ?_
          exact se_v 3 (by decide) (pv 3)
  exact z
theorem ok__law_is_round (Φ : Facts w K mg) (TB : Tbs base mg) : Cal P w K mg base "_law_is_round" c__law_is_round false 2 := by
  have z := cal_of (P := P) (w := w) (K := K) (mg := mg) (base := base) (k := 1) (fr := false) (b := b__law_is_round) (S' := []) Φ.d__law_is_round sc__law_is_round fun f cdv A outer s H E hr => by
    have tk := takes_of (X := cxOf (L2.CX P w) P w K mg base ["row", "at"] "_law_is_round" (defScope s__law_is_round) f cdv A outer s H E) rfl rfl rfl rfl
    have pw := passes_of (X := cxOf (L2.CX P w) P w K mg base ["row", "at"] "_law_is_round" (defScope s__law_is_round) f cdv A outer s H E) rfl
    refine ss_one ?_
    refine ss_ret ?_
    refine se_bi (cr_all rfl) o_all (by rfl) Φ.n_all (by decide +kernel) ?_
    refine bc ?_ ?_
    · refine SE.bor ?_
      refine SE.fz ?_
      refine se_lc (own := [ ("at" , 1)]) (is := [1]) (gt := (gName 1)) (n := 2) (by rfl) sc__law_is_round.nd ?_ (blkOk_by (N := ["row", "at" ]) (sc := defScope s__law_is_round) (by decide +kernel)) ?_ ?_ ?_
      · refine si_rng1 (by rfl) Φ.n_range ?_
        refine bc ?_ ?_
        · refine SE.bor ?_
          refine se_bi call_len4 o_len4 (by rfl) Φ.n_len (by decide +kernel) ?_
          refine bc ?_ ?_
          · exact se_vb 0 (pv 0)
          · exact sa_nil
        · exact sa_nil
      · intro _ _ _ _ _
        exact sg_name (i := 1) sc__law_is_round.nd (by rfl) (by first | exact .inl rfl | exact .inr rfl)
      · intro _ _ _ _ _
        exact sts_nil
      · intro _ _ _ _ _
        refine se_cmp (op_eqS hr.units) o_eqS ?_ ?_ (by rfl)
        · refine SE.bor ?_
          refine se_call (ok__law_next Φ TB) (hr.mono (by first | decide | omega)) takes0 (by rfl) ?_ (by rfl)
          refine fc ?_ ?_
          · refine se_ix (ix4 (u65 hr)) o_ix4 ?_ ?_ (fun _ _ => rfl)
            · exact se_vb 0 (pv 0)
            · refine SE.bor ?_
              refine se_op op_sub o_sub ?_ ?_
              · exact se_vb 1 (pv 1)
              · refine SE.bor ?_
                exact se_k (by rfl) pe_int
          · exact sa_nil
        · refine SE.bor ?_
          refine se_ix (ix4 (u65 hr)) o_ix4 ?_ ?_ (fun _ _ => rfl)
          · exact se_vb 0 (pv 0)
          · exact se_vb 1 (pv 1)
    · exact sa_nil
  exact z
theorem ok__law_case_right (Φ : Facts w K mg) (TB : Tbs base mg) : Cal P w K mg base "_law_case_right" c__law_case_right false 5 := by
  have z := cal_of (P := P) (w := w) (K := K) (mg := mg) (base := base) (k := 4) (fr := false) (b := b__law_case_right) (S' := []) Φ.d__law_case_right sc__law_case_right fun f cdv A outer s H E hr => by
    have tk := takes_of (X := cxOf (L2.CX P w) P w K mg base ["hand", "one", "other", "row", "at", "due", "said", "round_told", "times"] "_law_case_right" (defScope s__law_case_right) f cdv A outer s H E) rfl rfl rfl rfl
    have pw := passes_of (X := cxOf (L2.CX P w) P w K mg base ["hand", "one", "other", "row", "at", "due", "said", "round_told", "times"] "_law_case_right" (defScope s__law_case_right) f cdv A outer s H E) rfl
    refine ss_cons (S1 := []) ?_ ?_
    · refine ss_asg (is := ([3] ++ ([4] ++ []))) (gt := (gTup K 2 (gCons (gName 3) (gCons (gName 4) gNil)))) (he := ?_) (hg := ?_)
      · refine se_call (ok__law_gone Φ TB) (hr.mono (by first | decide | omega)) tk (by rfl) ?_ (by rfl)
        refine fc ?_ ?_
        · exact se_v 1 (by decide) (pv 1)
        · refine fc ?_ ?_
          · exact se_v 2 (by decide) (pv 2)
          · exact sa_nil
      · refine sg_tup (by rfl) ?_ (tgsC_len (tgsC_len tgs0_len))
        refine sgs_cons ?_ ?_
        · exact sg_name (i := 3) sc__law_case_right.nd (by rfl) (by first | exact .inl rfl | exact .inr rfl)
        · refine sgs_cons ?_ ?_
          · exact sg_name (i := 4) sc__law_case_right.nd (by rfl) (by first | exact .inl rfl | exact .inr rfl)
          · exact sgs_nil
    · refine ss_cons (S1 := []) ?_ ?_
      · refine ss_asg (is := [5]) (gt := (gName 5)) (he := ?_) (hg := ?_)
        · refine se_ite ?_ ?_ ?_
          · refine st_cmp op_isN o_is ?_ ?_ (by rfl)
            · exact se_vb 4 (pv 4)
            · refine SE.bor ?_
              exact se_k (by rfl) pe_non
          · refine se_lst ?_
            refine fc ?_ ?_
            · refine se_op op_sub o_sub ?_ ?_
              · refine SE.bor ?_
                refine se_bi call_len4 o_len4 (by rfl) Φ.n_len (by decide +kernel) ?_
                refine bc ?_ ?_
                · exact se_vb 3 (pv 3)
                · exact sa_nil
              · refine SE.bor ?_
                exact se_k (by rfl) pe_int
            · refine fc ?_ ?_
              · exact se_k (by rfl) pe_non
              · refine fc ?_ ?_
                · exact se_k (by rfl) pe_non
                · exact sa_nil
          · refine se_lst ?_
            refine fc ?_ ?_
            · exact se_k (by rfl) pe_non
            · refine fc ?_ ?_
              · refine se_call (ok__law_odd Φ TB) (hr.mono (by first | decide | omega)) tk (by rfl) ?_ (by rfl)
                refine fc ?_ ?_
                · exact se_v 1 (by decide) (pv 1)
                · refine fc ?_ ?_
                  · exact se_v 2 (by decide) (pv 2)
                  · exact sa_nil
              · refine fc ?_ ?_
                · exact se_k (by rfl) pe_non
                · exact sa_nil
        · exact sg_name (i := 5) sc__law_case_right.nd (by rfl) (by first | exact .inl rfl | exact .inr rfl)
      · refine ss_cons (S1 := []) ?_ ?_
        · refine ss_asg (is := [6]) (gt := (gName 6)) (he := ?_) (hg := ?_)
          · refine se_lst ?_
            refine fc ?_ ?_
            · refine se_call (ok_turns_till_empty Φ TB) (hr.mono (by first | decide | omega)) tk (by rfl) ?_ (by rfl)
              refine fc ?_ ?_
              · exact se_v 1 (by decide) (pv 1)
              · refine fc ?_ ?_
                · exact se_v 2 (by decide) (pv 2)
                · exact sa_nil
            · refine fc ?_ ?_
              · refine se_call (ok_odd_part Φ TB) (hr.mono (by first | decide | omega)) tk (by rfl) ?_ (by rfl)
                refine fc ?_ ?_
                · exact se_v 1 (by decide) (pv 1)
                · refine fc ?_ ?_
                  · exact se_v 2 (by decide) (pv 2)
                  · exact sa_nil
              · exact sa_nil
          · exact sg_name (i := 6) sc__law_case_right.nd (by rfl) (by first | exact .inl rfl | exact .inr rfl)
        · refine ss_cons (S1 := []) ?_ ?_
          · refine ss_if ?_ ?_ ?_
            · refine SW.st ?_
              refine sw_or ?_ ?_
              · refine st_not ?_
                refine st_val ?_
                refine se_call (ok__law_is Φ TB) (hr.mono (by first | decide | omega)) tk (by rfl) ?_ (by rfl)
                refine fc ?_ ?_
                · exact se_v 6 (by decide) (pv 6)
                · refine fc ?_ ?_
                  · refine se_sl sl2 o_sl ?_ ?_ ?_
                    · exact se_vb 5 (pv 5)
                    · exact so_none
                    · refine so_some ?_
                      refine SE.bor ?_
                      exact se_k (by rfl) pe_int
                  · exact sa_nil
              · refine sw_or1 ?_
                refine st_cmp (op_eqS hr.units) o_eqS ?_ ?_ (by rfl)
                · refine SE.bor ?_
                  refine se_cmp op_isN o_is ?_ ?_ (by rfl)
                  · refine SE.bor ?_
                    refine se_ix (ix4 (u65 hr)) o_ix4 ?_ ?_ (fun _ _ => rfl)
                    · exact se_vb 6 (pv 6)
                    · refine SE.bor ?_
                      exact se_k (by rfl) pe_int
                  · refine SE.bor ?_
                    exact se_k (by rfl) pe_non
                · refine SE.bor ?_
                  refine se_cmp op_isN o_is ?_ ?_ (by rfl)
                  · refine SE.bor ?_
                    refine se_ix (ix4 (u65 hr)) o_ix4 ?_ ?_ (fun _ _ => rfl)
                    · exact se_vb 6 (pv 6)
                    · refine SE.bor ?_
                      exact se_k (by rfl) pe_int
                  · refine SE.bor ?_
                    exact se_k (by rfl) pe_non
            · refine ss_one ?_
              refine ss_ret ?_
              exact se_k (by rfl) pe_bl
            · exact ss_nil
          · refine ss_cons (S1 := []) ?_ ?_
            · refine ss_asg (is := [7]) (gt := (gName 7)) (he := ?_) (hg := ?_)
              · refine se_call (ok_heap_round Φ TB) (hr.mono (by first | decide | omega)) tk (by rfl) ?_ (by rfl)
                refine fc ?_ ?_
                · exact se_v 1 (by decide) (pv 1)
                · refine fc ?_ ?_
                  · exact se_v 2 (by decide) (pv 2)
                  · exact sa_nil
              · exact sg_name (i := 7) sc__law_case_right.nd (by rfl) (by first | exact .inl rfl | exact .inr rfl)
            · refine ss_cons (S1 := []) ?_ ?_
              · refine ss_if ?_ ?_ ?_
                · refine st_cmp op_isN o_is ?_ ?_ (by rfl)
                  · exact se_vb 4 (pv 4)
                  · refine SE.bor ?_
                    exact se_k (by rfl) pe_non
                · refine ss_one ?_
                  refine ss_if ?_ ?_ ?_
                  · refine st_cmp op_notN o_isn ?_ ?_ (by rfl)
                    · exact se_vb 7 (pv 7)
                    · refine SE.bor ?_
                      exact se_k (by rfl) pe_non
                  · refine ss_one ?_
                    refine ss_ret ?_
                    exact se_k (by rfl) pe_bl
                  · exact ss_nil
                · refine ss_one ?_
                  refine ss_if ?_ ?_ ?_
                  · refine SW.st ?_
                    refine sw_or ?_ ?_
                    · refine st_cmp (op_neS hr.units) o_neS ?_ ?_ (by rfl)
                      · refine SE.bor ?_
                        refine SE.fz ?_
                        refine se_bi (cr_sorted6 rfl (u65 hr)) o_sorted7 (by rfl) Φ.n_sorted (by decide +kernel) ?_
                        refine bc ?_ ?_
                        · exact se_vb 7 (pv 7)
                        · exact sa_nil
                      · refine SE.bor ?_
                        refine SE.fz ?_
                        refine se_bi (cr_sorted6 rfl (u65 hr)) o_sorted7 (by rfl) Φ.n_sorted (by decide +kernel) ?_
                        refine bc ?_ ?_
                        · refine SE.bor ?_
                          refine se_sl sl2 o_sl ?_ ?_ ?_
                          · exact se_vb 3 (pv 3)
                          · refine so_some ?_
                            exact se_vb 4 (pv 4)
                          · exact so_none
                        · exact sa_nil
                    · refine sw_or1 ?_
                      refine st_not ?_
                      refine st_val ?_
                      refine se_call (ok__law_is_round Φ TB) (hr.mono (by first | decide | omega)) tk (by rfl) ?_ (by rfl)
                      refine fc ?_ ?_
                      · exact se_v 7 (by decide) (pv 7)
                      · exact sa_nil
                  · refine ss_one ?_
                    refine ss_ret ?_
                    exact se_k (by rfl) pe_bl
                  · exact ss_nil
              · refine ss_cons (S1 := []) ?_ ?_
                · refine ss_if ?_ ?_ ?_
                  · refine SW.st ?_
                    refine sw_and ?_ ?_
                    · refine st_cmp (op_gtG (u65 hr)) o_gtG ?_ ?_ (by rfl)
                      · refine SE.bor ?_
                        refine se_bi (call_min2 rfl) o_min2 (by rfl) Φ.n_min (by decide +kernel) ?_
                        refine bc ?_ ?_
                        · exact se_vb 1 (pv 1)
                        · refine bc ?_ ?_
                          · exact se_vb 2 (pv 2)
                          · exact sa_nil
                      · refine SE.bor ?_
                        exact se_k (by rfl) pe_int
                    · refine sw_and1 ?_
                      refine st_not ?_
                      refine st_val ?_
                      refine se_call (ok__law_is Φ TB) (hr.mono (by first | decide | omega)) tk (by rfl) ?_ (by rfl)
                      refine fc ?_ ?_
                      · refine se_call (ok_doubled Φ TB) (hr.mono (by first | decide | omega)) tk (by rfl) ?_ (by rfl)
                        refine fc ?_ ?_
                        · exact se_v 1 (by decide) (pv 1)
                        · refine fc ?_ ?_
                          · exact se_v 2 (by decide) (pv 2)
                          · exact sa_nil
                      · refine fc ?_ ?_
                        · refine se_call (ok__law_next Φ TB) (hr.mono (by first | decide | omega)) tk (by rfl) ?_ (by rfl)
                          refine fc ?_ ?_
                          · refine se_ix (ix4 (u65 hr)) o_ix4 ?_ ?_ (fun _ _ => rfl)
                            · exact se_vb 3 (pv 3)
                            · refine SE.bor ?_
                              exact se_k (by rfl) pe_int
                          · exact sa_nil
                        · exact sa_nil
                  · refine ss_one ?_
                    refine ss_ret ?_
                    exact se_k (by rfl) pe_bl
                  · exact ss_nil
                · refine ss_cons (S1 := []) ?_ ?_
                  · refine ss_if ?_ ?_ ?_
                    · refine SW.st ?_
                      refine sw_or ?_ ?_
                      · refine st_cmp (op_neS hr.units) o_neS ?_ ?_ (by rfl)
                        · refine SE.bor ?_
                          refine se_call (ok_turns_till_empty Φ TB) (hr.mono (by first | decide | omega)) tk (by rfl) ?_ (by rfl)
                          refine fc ?_ ?_
                          · exact se_v 2 (by decide) (pv 2)
                          · refine fc ?_ ?_
                            · exact se_v 1 (by decide) (pv 1)
                            · exact sa_nil
                        · refine SE.bor ?_
                          refine se_ix (ix4 (u65 hr)) o_ix4 ?_ ?_ (fun _ _ => rfl)
                          · exact se_vb 6 (pv 6)
                          · refine SE.bor ?_
                            exact se_k (by rfl) pe_int
                      · refine sw_or1 ?_
                        refine st_cmp (op_neS hr.units) o_neS ?_ ?_ (by rfl)
                        · refine SE.bor ?_
                          refine se_call (ok_odd_part Φ TB) (hr.mono (by first | decide | omega)) tk (by rfl) ?_ (by rfl)
                          refine fc ?_ ?_
                          · exact se_v 2 (by decide) (pv 2)
                          · refine fc ?_ ?_
                            · exact se_v 1 (by decide) (pv 1)
                            · exact sa_nil
                        · refine SE.bor ?_
                          refine se_ix (ix4 (u65 hr)) o_ix4 ?_ ?_ (fun _ _ => rfl)
                          · exact se_vb 6 (pv 6)
                          · refine SE.bor ?_
                            exact se_k (by rfl) pe_int
                    · refine ss_one ?_
                      refine ss_ret ?_
                      exact se_k (by rfl) pe_bl
                    · exact ss_nil
                  · refine ss_cons (S1 := []) ?_ ?_
                    · refine ss_asg (is := [8]) (gt := (gName 8)) (he := ?_) (hg := ?_)
                      · refine se_op op_add4 o_add ?_ ?_
                        · refine SE.bor ?_
                          exact se_k (by rfl) pe_int
                        · refine SE.bor ?_
                          refine se_call (ok__law_draw Φ TB) (hr.mono (by first | decide | omega)) tk (by rfl) ?_ (by rfl)
                          refine fc ?_ ?_
                          · exact se_v 0 (by decide) (pv 0)
                          · refine fc ?_ ?_
                            · exact se_k (by rfl) pe_int
                            · exact sa_nil
                      · exact sg_name (i := 8) sc__law_case_right.nd (by rfl) (by first | exact .inl rfl | exact .inr rfl)
                    · refine ss_cons (S1 := []) ?_ ?_
                      · refine ss_if ?_ ?_ ?_
                        · refine st_cmp (op_gtG (u65 hr)) o_gtG ?_ ?_ (by rfl)
                          · refine SE.bor ?_
                            refine se_op op_mul o_mul ?_ ?_
                            · refine SE.bor ?_
                              refine se_bi (call_max2 rfl) o_max2 (by rfl) Φ.n_max (by decide +kernel) ?_
                              refine bc ?_ ?_
                              · exact se_vb 1 (pv 1)
                              · refine bc ?_ ?_
                                · exact se_vb 2 (pv 2)
                                · exact sa_nil
                            · exact se_vb 8 (pv 8)
                          · refine SE.bor ?_
                            exact se_k (by rfl) pe_int
                        · refine ss_one ?_
                          refine ss_ret ?_
                          exact se_k (by rfl) pe_bl
                        · exact ss_nil
                      · refine ss_cons (S1 := []) ?_ ?_
                        · refine ss_par2 (i := 1) (j := 2) (o1 := .f) (o2 := .f) (by rfl) sc__law_case_right.nd (by rfl) (by rfl) (by decide) (by rfl) (by rfl) ?_ ?_
                          · refine se_op op_mul o_mul ?_ ?_
                            · exact se_vb 1 (pv 1)
                            · exact se_vb 8 (pv 8)
                          · refine se_op op_mul o_mul ?_ ?_
                            · exact se_vb 2 (pv 2)
                            · exact se_vb 8 (pv 8)
                        · refine ss_one ?_
                          refine ss_ret ?_
                          refine se_call (ok__law_is Φ TB) (hr.mono (by first | decide | omega)) tk (by rfl) ?_ (by rfl)
                          refine fc ?_ ?_
                          · refine se_lst ?_
                            refine fc ?_ ?_
                            · refine se_call (ok_turns_till_empty Φ TB) (hr.mono (by first | decide | omega)) tk (by rfl) ?_ (by rfl)
                              refine fc ?_ ?_
                              · exact se_v 1 (by decide) (pv 1)
                              · refine fc ?_ ?_
                                · exact se_v 2 (by decide) (pv 2)
                                · exact sa_nil
                            · refine fc ?_ ?_
                              · refine se_call (ok_odd_part Φ TB) (hr.mono (by first | decide | omega)) tk (by rfl) ?_ (by rfl)
                                refine fc ?_ ?_
                                · exact se_v 1 (by decide) (pv 1)
                                · refine fc ?_ ?_
                                  · exact se_v 2 (by decide) (pv 2)
                                  · exact sa_nil
                              · exact sa_nil
                          · refine fc ?_ ?_
                            · exact se_v 6 (by decide) (pv 6)
                            · exact sa_nil
  exact z
theorem ok__law_word (Φ : Facts w K mg) (TB : Tbs base mg) (k : Nat) : CalW P w K mg base "_law_word" c__law_word (k + 2) := by
  obtain ⟨PE, _, gP, _⟩ := Φ.fam.ex
  refine calW_of (b := fun φ r => b__law_word (callTh φ r 0)) (S' := []) Φ.d__law_word sc__law_word (by first | exact .inl rfl | exact .inr (.inl rfl)) rfl rfl (fun φ r => by unfold b__law_word bs__law_word; (repeat' first | exact ce_k _ | exact ce_v (by decide) | exact ce_isX | exact ce_isT (by decide) | exact ce_th | exact ces_nil | exact cs_sk | refine ces_cons ?_ ?_ | refine ce_ap1 ?_ | refine ce_ap2 ?_ ?_ | refine ce_apN ?_ | refine ce_lst ?_ | refine ce_tup ?_ | refine ce_mt ?_ ?_ | refine ce_and ?_ ?_ | refine ce_or ?_ ?_ | refine ce_ite ?_ ?_ ?_ | refine cs_sq ?_ ?_ | refine cs_rt ?_ | refine cs_dr ?_ | refine cs_if ?_ ?_ ?_ | refine cs_as (by decide) ?_ | refine cs_set (by decide) ?_ | refine cs_app (by decide) ?_ | refine cs_try (by decide) ?_ (fun _ => ?_))) fun f cdv A outer s H φ r hr rule => by
    have tk : Takes (zCx P w K mg base ["call", "error", "flags"] "_law_word" (defScope s__law_word) f cdv A outer s H) W0 := takes0
    refine ss_cons (S1 := []) ?_ ?_
    · refine ss_try (i := 1) (names := ["NoHeaps", "NoSum" , "NoTurn" ]) (cs := fun a y => bs__law_word (fun b => isXE a b 1) y) (cs' := fun y => bs__law_word (fun b => isXT b 1) y) (by rfl) (by rfl) sc__law_word.nd (by rfl) (by rfl) (by rfl) gP (by rfl) (Φ.fam.hd gP) tk ?_ ?_ (fun _ _ => by unfold bs__law_word; (repeat' first | exact ce_k _ | exact ce_v (by decide) | exact ce_isX | exact ce_isT (by decide) | exact ce_th | exact ces_nil | exact cs_sk | refine ces_cons ?_ ?_ | refine ce_ap1 ?_ | refine ce_ap2 ?_ ?_ | refine ce_apN ?_ | refine ce_lst ?_ | refine ce_tup ?_ | refine ce_mt ?_ ?_ | refine ce_and ?_ ?_ | refine ce_or ?_ ?_ | refine ce_ite ?_ ?_ ?_ | refine cs_sq ?_ ?_ | refine cs_rt ?_ | refine cs_dr ?_ | refine cs_if ?_ ?_ ?_ | refine cs_as (by decide) ?_ | refine cs_set (by decide) ?_ | refine cs_app (by decide) ?_ | refine cs_try (by decide) ?_ (fun _ => ?_)))
      · intro _ _ _ tk
        refine ss_one ?_
        exact ss_expr (rule _ _ _ _ _ _ tk (by decide))
      · intro _ _ _ _ _ hy gD CC hz hf
        have hU := u65 hr
        refine ss_cons (S1 := [2]) ?_ ?_
        · refine ss_setO (i := 2) sc__law_word.nd (by rfl) (by first | exact .inl rfl | exact .inr rfl) ?_
          refine se_lstO (hz := (show 2 ≤ sizeLine from by decide)) ?_
          refine fc ?_ ?_
          · exact se_isF Φ.fam hy (by decide) (by decide) gD CC hz hf (by rfl) Φ.n_isinstance (pv 1) (by rfl)
          · refine fc ?_ ?_
            · exact se_isF Φ.fam hy (by decide) (by decide) gD CC hz hf (by rfl) Φ.n_isinstance (pv 1) (by rfl)
            · exact sa_nil
        · refine ss_cons (S1 := [2]) ?_ ?_
          · refine ss_append (by decide) (pv 2) ?_
            exact se_isF Φ.fam hy (by decide) (by decide) gD CC hz hf (by rfl) Φ.n_isinstance (pv 1) (by rfl)
          · refine ss_cons (S1 := [2]) ?_ ?_
            · refine ss_if ?_ ?_ ?_
              · refine SW.st ?_
                refine sw_or ?_ ?_
                · refine st_cmp (op_neS hr.units) o_neS ?_ ?_ (by rfl)
                  · refine SE.bor ?_
                    refine se_mt (mt_cnt hU) ?_ ?_
                    · exact se_vb 2 (pv 2)
                    · refine bc ?_ ?_
                      · refine SE.bor ?_
                        exact se_k (by rfl) pe_bl
                      · exact sa_nil
                  · refine SE.bor ?_
                    exact se_k (by rfl) pe_int
                · refine sw_or1 ?_
                  refine st_not ?_
                  refine st_val ?_
                  exact se_isV Φ.fam hy (by decide) gD CC hz hf (by rfl) Φ.n_isinstance (pv 1) (by rfl) Φ.n_ValueError
              · refine ss_one ?_
                refine ss_ret ?_
                exact se_k (by rfl) pe_str
              · exact ss_nil
            · refine ss_one ?_
              refine ss_ret ?_
              refine se_ix (ix4 hU) o_ix4 ?_ ?_ (fun _ _ => rfl)
              · refine SE.bor ?_
                refine se_lst (hz := (show 3 ≤ sizeLine from by decide)) ?_
                refine fc ?_ ?_
                · exact se_k (by rfl) pe_str
                · refine fc ?_ ?_
                  · exact se_k (by rfl) pe_str
                  · refine fc ?_ ?_
                    · exact se_k (by rfl) pe_str
                    · exact sa_nil
              · refine SE.bor ?_
                refine se_mt (mt_idx hU) ?_ ?_
                · exact se_vb 2 (pv 2)
                · refine bc ?_ ?_
                  · refine SE.bor ?_
                    exact se_k (by rfl) pe_bl
                  · exact sa_nil
    · refine ss_one ?_
      refine ss_ret ?_
      exact se_k (by rfl) pe_str
theorem ok__law_refused_right (Φ : Facts w K mg) (TB : Tbs base mg) : Cal P w K mg base "_law_refused_right" c__law_refused_right false 7 := by
  have z := cal_ofC (P := P) (w := w) (K := K) (mg := mg) (base := base) (k := 6) (fr := false) (b := b__law_refused_right) (S' := []) Φ.d__law_refused_right sc__law_refused_right fun f A outer s H E hr => by
    have tk := takes_of (X := cxOf (L2.CX P w) P w K mg base ["hand", "bad", "said", "call"] "_law_refused_right" (defScope s__law_refused_right) f (.ref 224) A outer s H E) rfl rfl rfl rfl
    have pw := passes_of (X := cxOf (L2.CX P w) P w K mg base ["hand", "bad", "said", "call"] "_law_refused_right" (defScope s__law_refused_right) f (.ref 224) A outer s H E) rfl
    refine ss_cons (S1 := []) ?_ ?_
    · refine ss_asg (is := [1]) (gt := (gName 1)) (he := ?_) (hg := ?_)
      · refine se_call (ok__law_some Φ TB) (hr.mono (by first | decide | omega)) tk (by rfl) ?_ (by rfl)
        refine fc ?_ ?_
        · exact se_v 0 (by decide) (pv 0)
        · refine fc ?_ ?_
          · refine se_lst ?_
            refine fc ?_ ?_
            · refine se_un un_neg o_neg ?_
              refine SE.bor ?_
              exact se_k (by rfl) pe_int
            · refine fc ?_ ?_
              · exact se_k (by rfl) pe_int
              · refine fc ?_ ?_
                · exact se_k (by rfl) pe_non
                · refine fc ?_ ?_
                  · exact se_k (by rfl) pe_bl
                  · refine fc ?_ ?_
                    · exact se_k (by rfl) pe_str
                    · refine fc ?_ ?_
                      · refine se_tup ?_
                        refine fc ?_ ?_
                        · exact se_k (by rfl) pe_int
                        · exact sa_nil
                      · refine fc ?_ ?_
                        · refine se_lst ?_
                          refine fc ?_ ?_
                          · exact se_k (by rfl) pe_int
                          · exact sa_nil
                        · refine fc ?_ ?_
                          · refine SE.fz ?_
                            exact se_dnewO false
                          · refine fc ?_ ?_
                            · refine se_op op_pow o_pow ?_ ?_
                              · refine SE.bor ?_
                                exact se_k (by rfl) pe_int
                              · refine SE.bor ?_
                                exact se_k (by rfl) pe_int
                            · exact sa_nil
          · exact sa_nil
      · exact sg_name (i := 1) sc__law_refused_right.nd (by rfl) (by first | exact .inl rfl | exact .inr rfl)
    · refine ss_cons (S1 := [2]) ?_ ?_
      · refine ss_setO (i := 2) sc__law_refused_right.nd (by rfl) (by first | exact .inl rfl | exact .inr rfl) ?_
        refine se_lstO ?_
        exact sa_nil
      · refine ss_cons (S1 := [2]) ?_ ?_
        · refine ss_for (Si := [2]) (is := [3]) (gt := (gName 3)) pw (by rfl) ?_ ?_ ?_
          · refine si_seq6 ?_
            refine se_tup ?_
            refine fc ?_ ?_
            · exact se_fnc (by rfl) Φ.v_doubled
            · refine fc ?_ ?_
              · exact se_fnc (by rfl) Φ.v_turns_till_empty
              · refine fc ?_ ?_
                · exact se_fnc (by rfl) Φ.v_odd_part
                · refine fc ?_ ?_
                  · exact se_fnc (by rfl) Φ.v_heap_round
                  · exact sa_nil
          · exact sg_name (i := 3) sc__law_refused_right.nd (by rfl) (by first | exact .inl rfl | exact .inr rfl)
          · refine ss_cons (S1 := [2]) ?_ ?_
            · refine ss_append (by decide) (pv 2) ?_
              refine se_lam (cs := [1, 3]) (k := 4) (ok__law_word Φ TB 4) (hr.mono (by first | decide | omega)) (by rfl) (TB _ mem__law_refused_right) (by rfl) mT__law_refused_right hu__law_refused_right (LamX.lamS_by (sc := defScope s__law_refused_right) (by decide +kernel)) (by rfl) (fun _ _ _ _ _ => rfl) (by decide) ?_
              · intro _ _ _ _ _ _ _ hr
                refine se_callV (k := 4) (calT_cons (ok_doubled Φ TB) (by first | decide | omega) (calT_cons (ok_heap_round Φ TB) (by first | decide | omega) (calT_cons (ok_odd_part Φ TB) (by first | decide | omega) (calT_cons (ok_turns_till_empty Φ TB) (by first | decide | omega) calT_nil)))) (hr.mono (by first | decide | omega)) (takes_of rfl rfl rfl rfl) (by decide) (pv 3) ?_
                refine fc ?_ ?_
                · exact se_v 1 (by decide) (pv 1)
                · refine fc ?_ ?_
                  · exact se_k (by rfl) pe_int
                  · exact sa_nil
            · refine ss_one ?_
              refine ss_append (by decide) (pv 2) ?_
              refine se_lam (cs := [1, 3]) (k := 4) (ok__law_word Φ TB 4) (hr.mono (by first | decide | omega)) (by rfl) (TB _ mem__law_refused_right) (by rfl) mT__law_refused_right hu__law_refused_right (LamX.lamS_by (sc := defScope s__law_refused_right) (by decide +kernel)) (by rfl) (fun _ _ _ _ _ => rfl) (by decide) ?_
              · intro _ _ _ _ _ _ _ hr
                refine se_callV (k := 4) (calT_cons (ok_doubled Φ TB) (by first | decide | omega) (calT_cons (ok_heap_round Φ TB) (by first | decide | omega) (calT_cons (ok_odd_part Φ TB) (by first | decide | omega) (calT_cons (ok_turns_till_empty Φ TB) (by first | decide | omega) calT_nil)))) (hr.mono (by first | decide | omega)) (takes_of rfl rfl rfl rfl) (by decide) (pv 3) ?_
                refine fc ?_ ?_
                · exact se_k (by rfl) pe_int
                · refine fc ?_ ?_
                  · exact se_v 1 (by decide) (pv 1)
                  · exact sa_nil
        · refine ss_cons (S1 := [2]) ?_ ?_
          · refine ss_append (by decide) (pv 2) ?_
            refine se_lam (cs := []) (k := 4) (ok__law_word Φ TB 4) (hr.mono (by first | decide | omega)) (by rfl) (TB _ mem__law_refused_right) (by rfl) mT__law_refused_right hu__law_refused_right (LamX.lamS_by (sc := defScope s__law_refused_right) (by decide +kernel)) (by rfl) (fun _ _ _ _ _ => rfl) (by decide) ?_
            · intro _ _ _ _ _ _ _ hr
              refine se_call (ok_doubled Φ TB) (hr.mono (by first | decide | omega)) (takes_of rfl rfl rfl rfl) (by rfl) ?_ (by rfl)
              refine fc ?_ ?_
              · exact se_k (by rfl) pe_int
              · refine fc ?_ ?_
                · exact se_k (by rfl) pe_int
                · exact sa_nil
          · refine ss_cons (S1 := [2]) ?_ ?_
            · refine ss_append (by decide) (pv 2) ?_
              refine se_lam (cs := []) (k := 4) (ok__law_word Φ TB 4) (hr.mono (by first | decide | omega)) (by rfl) (TB _ mem__law_refused_right) (by rfl) mT__law_refused_right hu__law_refused_right (LamX.lamS_by (sc := defScope s__law_refused_right) (by decide +kernel)) (by rfl) (fun _ _ _ _ _ => rfl) (by decide) ?_
              · intro _ _ _ _ _ _ _ hr
                refine se_call (ok_doubled Φ TB) (hr.mono (by first | decide | omega)) (takes_of rfl rfl rfl rfl) (by rfl) ?_ (by rfl)
                refine fc ?_ ?_
                · exact se_k (by rfl) pe_int
                · refine fc ?_ ?_
                  · exact se_k (by rfl) pe_int
                  · exact sa_nil
            · refine ss_cons (S1 := [2]) ?_ ?_
              · refine ss_append (by decide) (pv 2) ?_
                refine se_lam (cs := [1]) (k := 4) (ok__law_word Φ TB 4) (hr.mono (by first | decide | omega)) (by rfl) (TB _ mem__law_refused_right) (by rfl) mT__law_refused_right hu__law_refused_right (LamX.lamS_by (sc := defScope s__law_refused_right) (by decide +kernel)) (by rfl) (fun _ _ _ _ _ => rfl) (by decide) ?_
                · intro _ _ _ _ _ _ _ hr
                  refine se_call (ok_partners Φ TB) (hr.mono (by first | decide | omega)) (takes_of rfl rfl rfl rfl) (by rfl) ?_ (by rfl)
                  refine fc ?_ ?_
                  · exact se_v 1 (by decide) (pv 1)
                  · exact sa_nil
              · refine ss_one ?_
                refine ss_ret ?_
                refine se_cmp (op_eqS hr.units) o_eqS ?_ ?_ (by rfl)
                · exact se_vb 2 (pv 2)
                · refine SE.bor ?_
                  refine se_op op_add4 o_add ?_ ?_
                  · refine SE.bor ?_
                    refine SE.fz ?_
                    refine se_op op_rep o_rep ?_ ?_
                    · refine SE.bor ?_
                      refine se_lst ?_
                      refine fc ?_ ?_
                      · exact se_k (by rfl) pe_str
                      · exact sa_nil
                    · refine SE.bor ?_
                      exact se_k (by rfl) pe_int
                  · refine SE.bor ?_
                    refine se_lst ?_
                    refine fc ?_ ?_
                    · exact se_k (by rfl) pe_str
                    · refine fc ?_ ?_
                      · exact se_k (by rfl) pe_str
                      · refine fc ?_ ?_
                        · exact se_k (by rfl) pe_str
                        · exact sa_nil
  exact z
theorem ok_law (Φ : Facts w K mg) (TB : Tbs base mg) {f : Addr} {fd : FuncData} (FL : Fun K "law" "law" s_law f fd) (hmath : ∀ ns : List Int, ns.length ≤ 63 → ∃ T, lawRun c__law_hand b_law 10 ns = .rt (.bl true) T) : FnG P w K mg base (L2.CX P w) 8 f fd ["script"] (spLaw K) :=
  law_fn (hf := c__law_hand) (b := b_law) (S' := []) (bl := fun _ => True) FL sc_law rfl rfl (by decide) hmath fun cdv A outer s H E hr => by
    have tk : Takes (cxOf (L2.CX P w) P w K mg base ["script", "hand", "go", "high", "part", "power", "low", "whole", "due", "said"] "law" (defScope s_law) f cdv A outer s H E) W0 := takes0
    have pw := passes_of (X := cxOf (L2.CX P w) P w K mg base ["script", "hand", "go", "high", "part", "power", "low", "whole", "due", "said"] "law" (defScope s_law) f cdv A outer s H E) rfl
    constructor
    · skip
      refine ss_cons (S1 := []) ?_ ?_
      · refine ss_for (Si := []) (is := [2]) (gt := (gName 2)) pw (by rfl) ?_ ?_ ?_
        · refine si_rng1 (by rfl) Φ.n_range ?_
          refine bc ?_ ?_
          · refine SE.bor ?_
            exact se_k (by rfl) pe_int
          · exact sa_nil
        · exact sg_name (i := 2) sc_law.nd (by rfl) (by first | exact .inl rfl | exact .inr rfl)
        · refine ss_cons (S1 := []) ?_ ?_
          · refine ss_asg (is := [3]) (gt := (gName 3)) (he := ?_) (hg := ?_)
            · refine se_call (ok__law_some Φ TB) (hr.mono (by first | decide | omega)) tk (by rfl) ?_ (by rfl)
              refine fc ?_ ?_
              · exact se_v 1 (by decide) (pv 1)
              · refine fc ?_ ?_
                · refine se_lst ?_
                  refine fc ?_ ?_
                  · exact se_k (by rfl) pe_int
                  · refine fc ?_ ?_
                    · exact se_k (by rfl) pe_int
                    · refine fc ?_ ?_
                      · exact se_k (by rfl) pe_int
                      · refine fc ?_ ?_
                        · exact se_k (by rfl) pe_int
                        · exact sa_nil
                · exact sa_nil
            · exact sg_name (i := 3) sc_law.nd (by rfl) (by first | exact .inl rfl | exact .inr rfl)
          · refine ss_cons (S1 := []) ?_ ?_
            · refine ss_if ?_ ?_ ?_
              · refine st_not ?_
                refine st_val ?_
                refine se_call (ok__law_case_right Φ TB) (hr.mono (by first | decide | omega)) tk (by rfl) ?_ (by rfl)
                refine fc ?_ ?_
                · exact se_v 1 (by decide) (pv 1)
                · refine fc ?_ ?_
                  · refine se_call (ok__law_draw Φ TB) (hr.mono (by first | decide | omega)) tk (by rfl) ?_ (by rfl)
                    refine fc ?_ ?_
                    · exact se_v 1 (by decide) (pv 1)
                    · refine fc ?_ ?_
                      · exact se_v 3 (by decide) (pv 3)
                      · exact sa_nil
                  · refine fc ?_ ?_
                    · refine se_call (ok__law_draw Φ TB) (hr.mono (by first | decide | omega)) tk (by rfl) ?_ (by rfl)
                      refine fc ?_ ?_
                      · exact se_v 1 (by decide) (pv 1)
                      · refine fc ?_ ?_
                        · exact se_v 3 (by decide) (pv 3)
                        · exact sa_nil
                    · exact sa_nil
              · refine ss_one ?_
                refine ss_ret ?_
                exact se_k (by rfl) pe_bl
              · exact ss_nil
            · refine ss_cons (S1 := []) ?_ ?_
              · refine ss_par2 (i := 4) (j := 5) (o1 := .f) (o2 := .f) (by rfl) sc_law.nd (by rfl) (by rfl) (by decide) (by rfl) (by rfl) ?_ ?_
                · refine se_op op_add4 o_add ?_ ?_
                  · refine SE.bor ?_
                    exact se_k (by rfl) pe_int
                  · refine SE.bor ?_
                    refine se_call (ok__law_draw Φ TB) (hr.mono (by first | decide | omega)) tk (by rfl) ?_ (by rfl)
                    refine fc ?_ ?_
                    · exact se_v 1 (by decide) (pv 1)
                    · refine fc ?_ ?_
                      · exact se_k (by rfl) pe_int
                      · exact sa_nil
                · refine se_call (ok__law_some Φ TB) (hr.mono (by first | decide | omega)) tk (by rfl) ?_ (by rfl)
                  refine fc ?_ ?_
                  · exact se_v 1 (by decide) (pv 1)
                  · refine fc ?_ ?_
                    · refine se_lst ?_
                      refine fc ?_ ?_
                      · exact se_k (by rfl) pe_int
                      · refine fc ?_ ?_
                        · exact se_k (by rfl) pe_int
                        · refine fc ?_ ?_
                          · exact se_k (by rfl) pe_int
                          · refine fc ?_ ?_
                            · exact se_k (by rfl) pe_int
                            · refine fc ?_ ?_
                              · exact se_k (by rfl) pe_int
                              · refine fc ?_ ?_
                                · exact se_k (by rfl) pe_int
                                · exact sa_nil
                    · exact sa_nil
              · refine ss_cons (S1 := []) ?_ ?_
                · refine ss_asg (is := [6]) (gt := (gName 6)) (he := ?_) (hg := ?_)
                  · refine se_call (ok__law_draw Φ TB) (hr.mono (by first | decide | omega)) tk (by rfl) ?_ (by rfl)
                    refine fc ?_ ?_
                    · exact se_v 1 (by decide) (pv 1)
                    · refine fc ?_ ?_
                      · refine se_op op_add4 o_add ?_ ?_
                        · exact se_vb 5 (pv 5)
                        · refine SE.bor ?_
                          exact se_k (by rfl) pe_int
                      · exact sa_nil
                  · exact sg_name (i := 6) sc_law.nd (by rfl) (by first | exact .inl rfl | exact .inr rfl)
                · refine ss_one ?_
                  refine ss_if ?_ ?_ ?_
                  · refine st_not ?_
                    refine st_val ?_
                    refine se_call (ok__law_case_right Φ TB) (hr.mono (by first | decide | omega)) tk (by rfl) ?_ (by rfl)
                    refine fc ?_ ?_
                    · exact se_v 1 (by decide) (pv 1)
                    · refine fc ?_ ?_
                      · refine se_op op_mul o_mul ?_ ?_
                        · exact se_vb 4 (pv 4)
                        · exact se_vb 6 (pv 6)
                      · refine fc ?_ ?_
                        · refine se_op op_mul o_mul ?_ ?_
                          · exact se_vb 4 (pv 4)
                          · refine SE.bor ?_
                            refine se_op op_sub o_sub ?_ ?_
                            · exact se_vb 5 (pv 5)
                            · exact se_vb 6 (pv 6)
                        · exact sa_nil
                  · refine ss_one ?_
                    refine ss_ret ?_
                    exact se_k (by rfl) pe_bl
                  · exact ss_nil
      · refine ss_cons (S1 := []) ?_ ?_
        · refine ss_asg (is := [7]) (gt := (gName 7)) (he := ?_) (hg := ?_)
          · refine se_call (ok__law_draw Φ TB) (hr.mono (by first | decide | omega)) tk (by rfl) ?_ (by rfl)
            refine fc ?_ ?_
            · exact se_v 1 (by decide) (pv 1)
            · refine fc ?_ ?_
              · refine se_call (ok__law_some Φ TB) (hr.mono (by first | decide | omega)) tk (by rfl) ?_ (by rfl)
                refine fc ?_ ?_
                · exact se_v 1 (by decide) (pv 1)
                · refine fc ?_ ?_
                  · refine se_lst ?_
                    refine fc ?_ ?_
                    · exact se_k (by rfl) pe_int
                    · refine fc ?_ ?_
                      · exact se_k (by rfl) pe_int
                      · refine fc ?_ ?_
                        · exact se_k (by rfl) pe_int
                        · exact sa_nil
                  · exact sa_nil
              · exact sa_nil
          · exact sg_name (i := 7) sc_law.nd (by rfl) (by first | exact .inl rfl | exact .inr rfl)
        · refine ss_cons (S1 := []) ?_ ?_
          · refine ss_asg (is := [8]) (gt := (gName 8)) (he := ?_) (hg := ?_)
            · refine se_bt call_tuple_of o_tupOf (by rfl) Φ.n_tuple (by decide +kernel) ?_
              refine bc ?_ ?_
              · refine SE.bor ?_
                refine SE.fz ?_
                refine se_lc (own := [ ("low" , 6)]) (is := [6]) (gt := (gName 6)) (n := 10) (by rfl) sc_law.nd ?_ (blkOk_by (N := ["script", "hand" , "go" , "high" , "part" , "power" , "low" , "whole" , "due" , "said" ]) (sc := defScope s_law) (by decide +kernel)) ?_ ?_ ?_
                · refine si_rng1 (by rfl) Φ.n_range ?_
                  refine bc ?_ ?_
                  · refine SE.bor ?_
                    refine se_op op_add4 o_add ?_ ?_
                    · refine SE.bor ?_
                      refine se_op op_fdivN o_fdiv ?_ ?_
                      · exact se_vb 7 (pv 7)
                      · refine SE.bor ?_
                        exact se_k (by rfl) pe_int
                    · refine SE.bor ?_
                      exact se_k (by rfl) pe_int
                  · exact sa_nil
                · intro _ _ _ _ _
                  exact sg_name (i := 6) sc_law.nd (by rfl) (by first | exact .inl rfl | exact .inr rfl)
                · intro _ _ _ _ _
                  refine sts_one ?_
                  refine st_cmp op_isN o_is ?_ ?_ (by rfl)
                  · refine SE.bor ?_
                    refine se_ix (ix4 (u65 hr)) o_ix4 ?_ ?_ (fun _ _ => rfl)
                    · refine SE.bor ?_
                      refine se_call (ok__law_gone Φ TB) (hr.mono (by first | decide | omega)) takes0 (by rfl) ?_ (by rfl)
                      refine fc ?_ ?_
                      · exact se_v 6 (by decide) (pv 6)
                      · refine fc ?_ ?_
                        · refine se_op op_sub o_sub ?_ ?_
                          · exact se_vb 7 (pv 7)
                          · exact se_vb 6 (pv 6)
                        · exact sa_nil
                    · refine SE.bor ?_
                      exact se_k (by rfl) pe_int
                  · refine SE.bor ?_
                    exact se_k (by rfl) pe_non
                · intro _ _ _ _ _
                  exact se_v 6 (by decide) (pv 6)
              · exact sa_nil
            · exact sg_name (i := 8) sc_law.nd (by rfl) (by first | exact .inl rfl | exact .inr rfl)
          · refine ss_cons (S1 := []) ?_ ?_
            · refine ss_if ?_ ?_ ?_
              · refine SW.st ?_
                refine sw_or ?_ ?_
                · refine st_not ?_
                  refine st_val ?_
                  refine se_call (ok__law_is Φ TB) (hr.mono (by first | decide | omega)) tk (by rfl) ?_ (by rfl)
                  refine fc ?_ ?_
                  · refine se_call (ok_partners Φ TB) (hr.mono (by first | decide | omega)) tk (by rfl) ?_ (by rfl)
                    refine fc ?_ ?_
                    · exact se_v 7 (by decide) (pv 7)
                    · exact sa_nil
                  · refine fc ?_ ?_
                    · exact se_v 8 (by decide) (pv 8)
                    · exact sa_nil
                · refine sw_or1 ?_
                  refine st_not ?_
                  refine st_val ?_
                  refine se_call (ok__law_refused_right Φ TB) (hr.mono (by first | decide | omega)) tk (by rfl) ?_ (by rfl)
                  refine fc ?_ ?_
                  · exact se_v 1 (by decide) (pv 1)
                  · exact sa_nil
              · refine ss_one ?_
                refine ss_ret ?_
                exact se_k (by rfl) pe_bl
              · exact ss_nil
            · refine ss_cons (S1 := []) ?_ ?_
              · refine ss_asg (is := [9]) (gt := (gName 9)) (he := ?_) (hg := ?_)
                · refine se_lst ?_
                  refine fc ?_ ?_
                  · refine se_call (ok_turns_till_empty Φ TB) (hr.mono (by first | decide | omega)) tk (by rfl) ?_ (by rfl)
                    refine fc ?_ ?_
                    · exact se_k (by rfl) pe_int
                    · refine fc ?_ ?_
                      · exact se_k (by rfl) pe_int
                      · exact sa_nil
                  · refine fc ?_ ?_
                    · refine se_call (ok_odd_part Φ TB) (hr.mono (by first | decide | omega)) tk (by rfl) ?_ (by rfl)
                      refine fc ?_ ?_
                      · exact se_k (by rfl) pe_int
                      · refine fc ?_ ?_
                        · exact se_k (by rfl) pe_int
                        · exact sa_nil
                    · refine fc ?_ ?_
                      · refine se_call (ok_heap_round Φ TB) (hr.mono (by first | decide | omega)) tk (by rfl) ?_ (by rfl)
                        refine fc ?_ ?_
                        · exact se_k (by rfl) pe_int
                        · refine fc ?_ ?_
                          · exact se_k (by rfl) pe_int
                          · exact sa_nil
                      · refine fc ?_ ?_
                        · refine se_call (ok_partners Φ TB) (hr.mono (by first | decide | omega)) tk (by rfl) ?_ (by rfl)
                          refine fc ?_ ?_
                          · exact se_k (by rfl) pe_int
                          · exact sa_nil
                        · exact sa_nil
                · exact sg_name (i := 9) sc_law.nd (by rfl) (by first | exact .inl rfl | exact .inr rfl)
              · refine ss_cons (S1 := []) ?_ ?_
                · refine ss_asg (is := [9]) (gt := (gName 9)) (he := ?_) (hg := ?_)
                  · refine se_op op_add4 o_add ?_ ?_
                    · exact se_vb 9 (pv 9)
                    · refine SE.bor ?_
                      refine se_lst ?_
                      refine fc ?_ ?_
                      · refine se_call (ok_turns_till_empty Φ TB) (hr.mono (by first | decide | omega)) tk (by rfl) ?_ (by rfl)
                        refine fc ?_ ?_
                        · exact se_k (by rfl) pe_int
                        · refine fc ?_ ?_
                          · exact se_k (by rfl) pe_int
                          · exact sa_nil
                      · refine fc ?_ ?_
                        · refine se_call (ok_odd_part Φ TB) (hr.mono (by first | decide | omega)) tk (by rfl) ?_ (by rfl)
                          refine fc ?_ ?_
                          · exact se_k (by rfl) pe_int
                          · refine fc ?_ ?_
                            · exact se_k (by rfl) pe_int
                            · exact sa_nil
                        · exact sa_nil
                  · exact sg_name (i := 9) sc_law.nd (by rfl) (by first | exact .inl rfl | exact .inr rfl)
                · refine ss_one ?_
                  refine ss_ret ?_
                  refine se_call (ok__law_is Φ TB) (hr.mono (by first | decide | omega)) tk (by rfl) ?_ (by rfl)
                  refine fc ?_ ?_
                  · exact se_v 9 (by decide) (pv 9)
                  · refine fc ?_ ?_
                    · refine se_lst ?_
                      refine fc ?_ ?_
                      · exact se_k (by rfl) pe_int
                      · refine fc ?_ ?_
                        · exact se_k (by rfl) pe_int
                        · refine fc ?_ ?_
                          · refine se_tup ?_
                            refine fc ?_ ?_
                            · refine se_tup ?_
                              refine fc ?_ ?_
                              · exact se_k (by rfl) pe_int
                              · refine fc ?_ ?_
                                · exact se_k (by rfl) pe_int
                                · exact sa_nil
                            · exact sa_nil
                          · refine fc ?_ ?_
                            · refine se_tup ?_
                              refine fc ?_ ?_
                              · exact se_k (by rfl) pe_int
                              · refine fc ?_ ?_
                                · exact se_k (by rfl) pe_int
                                · refine fc ?_ ?_
                                  · exact se_k (by rfl) pe_int
                                  · refine fc ?_ ?_
                                    · exact se_k (by rfl) pe_int
                                    · refine fc ?_ ?_
                                      · exact se_k (by rfl) pe_int
                                      · exact sa_nil
                            · refine fc ?_ ?_
                              · exact se_k (by rfl) pe_int
                              · refine fc ?_ ?_
                                · exact se_k (by rfl) pe_non
                                · exact sa_nil
                    · exact sa_nil
    · skip
      refine ss_setO (i := 1) sc_law.nd (by rfl) (by first | exact .inl rfl | exact .inr rfl) ?_
      refine se_callO (ok__law_hand Φ TB) (hr.mono (by decide)) tk (by rfl) ?_
      refine fc ?_ ?_
      · exact se_v 0 (by decide) (pv 0)
      · exact sa_nil
end
theorem defC {K : PySem.W.Frag} {h : Heap} {mg : Str → Option Value} (X : K.In h) (G : h.Ns mainGlobals mg) {x : Str} {st : Stmt} {ps : List Str} {f c : Addr} {oc : Value} {od an : Option Addr} {sl : Array (Option Value)} {kV dc pm ct : Value}
    (a : PySem.W.nsIn K mainGlobals x = some (some (.ref f))) (lk : K.lookup f = some ⟨oc, od, .func (PySem.W.fnOf x x (defArgs st) (defBody st) (defScope st) .none kV dc pm an (.ref c) ct), sl⟩) (cc : PySem.W.codeIn K (.ref c) x = true) (k : PySem.W.keepIn K (.ref f) = true)
    (hb : ∀ us : List Value, us.length = ps.length → bindArgs (PySem.W.fnOf x x (defArgs st) (defBody st) (defScope st) .none kV dc pm an (.ref c) ct) ⟨us, []⟩ = pure (ps.zip us)) : DefC K mg x st ps c :=
  ⟨f, oc, od, kV, dc, pm, an, ct, sl, lk, cc, k, PySem.W.mg_of X G a, Binds.all hb⟩
theorem def0 {l : PySem.W.OpenLaw} {K : PySem.W.Frag} {h : Heap} {mg : Str → Option Value} (X : K.In h) (G : h.Ns mainGlobals mg) {x : Str} {st : Stmt} {ps : List Str} {f : Addr} {oc : Value} {od an : Option Addr} {sl : Array (Option Value)} {kV dc pm cd ct : Value}
    (a : PySem.W.nsIn K mainGlobals x = some (some (.ref f))) (lk : K.lookup f = some ⟨oc, od, .func (PySem.W.fnOf x x (defArgs st) (defBody st) (defScope st) .none kV dc pm an cd ct), sl⟩) (c : PySem.W.codeIn K cd x = true) (k : PySem.W.keepIn K (.ref f) = true)
    (hb : ∀ us : List Value, us.length = ps.length → bindArgs (PySem.W.fnOf x x (defArgs st) (defBody st) (defScope st) .none kV dc pm an cd ct) ⟨us, []⟩ = pure (ps.zip us)) : Def0 K mg x st ps :=
  ⟨f, _, fun_mk lk c k, PySem.W.mg_of X G a, Binds.all hb⟩
end W

namespace W
open Ev
theorem pb__law_word (y : PySem.Str) : PurS (bs__law_word (fun b => isXT b 1) y) := (pr_sq (pr_set (pr_lst (.cons pr_isXT (.cons pr_isXT .nil)))) (pr_sq (pr_app pr_isXT) (pr_sq (pr_if (pr_or (pr_ap2 (pr_mtG (pr_v _) (.cons (pr_k _) .nil)) (pr_k _)) (pr_not pr_isXT)) (pr_rt (pr_k _)) pr_sk) (pr_rt (pr_ap2 (pr_lst (.cons (pr_k _) (.cons (pr_k _) (.cons (pr_k _) .nil)))) (pr_mtG (pr_v _) (.cons (pr_k _) .nil)))))))
theorem pw__law_word : PurW c__law_word := pr_cwD fun r => (show PurS (b__law_word (callT r 0)) from (pr_sq (pr_try (pr_dr pr_callT) (fun y => pb__law_word y)) (pr_rt (pr_k _))))
theorem pu_is_integer : PurF c_is_integer := pr_fn (show PurS b_is_integer from (pr_rt (pr_and (pr_ap1 (pr_v _)) (pr_not (pr_ap1 (pr_v _))))))
theorem pu_is_within : PurF c_is_within := pr_fn (show PurS b_is_within from (pr_rt (pr_and (pr_call pu_is_integer (.cons (pr_v _) .nil)) (pr_ch (pr_v _) (pr_v _) (pr_v _)))))
theorem pu_common_part : PurF c_common_part := pr_fn (show PurS b_common_part from (pr_sq (pr_whl (pr_ap2 (pr_v _) (pr_k _)) (pr_par2 (pr_v _) (pr_ap2 (pr_v _) (pr_ap2 (pr_v _) (pr_ap2 (pr_v _) (pr_v _))))) _) (pr_rt (pr_apN (.cons (pr_v _) .nil)))))
theorem pu_check_heaps : PurF c_check_heaps := pr_fn (show PurS b_check_heaps from (pr_if (pr_not (pr_apN (.cons (pr_lc (pr_seq6 (pr_v _)) (pr_k _) (pr_call pu_is_within (.cons (pr_v _) (.cons (pr_k _) (.cons (pr_v _) .nil))))) .nil))) pr_ra pr_sk))
theorem pu_rising_pair : PurF c_rising_pair := pr_fn (show PurS b_rising_pair from (pr_rt (pr_ite (pr_ap2 (pr_v _) (pr_v _)) (pr_tup (.cons (pr_v _) (.cons (pr_v _) .nil))) (pr_tup (.cons (pr_v _) (.cons (pr_v _) .nil))))))
theorem pu_raw_doubled : PurF c_raw_doubled := pr_fn (show PurS b_raw_doubled from (pr_rt (pr_call pu_rising_pair (.cons (pr_ap2 (pr_k _) (pr_ap2 (pr_v _) (pr_k _))) (.cons (pr_ap2 (pr_ap2 (pr_v _) (pr_k _)) (pr_ap2 (pr_v _) (pr_k _))) .nil)))))
theorem pu_doubled : PurF c_doubled := pr_fn (show PurS b_doubled from (pr_sq (pr_dr (pr_call pu_check_heaps (.cons (pr_tup (.cons (pr_v _) (.cons (pr_v _) .nil))) (.cons (pr_k _) .nil)))) (pr_sq (pr_if (pr_or (pr_ap2 (pr_v _) (pr_k _)) (pr_ap2 (pr_v _) (pr_k _))) pr_ra pr_sk) (pr_rt (pr_call pu_raw_doubled (.cons (pr_call pu_rising_pair (.cons (pr_v _) (.cons (pr_v _) .nil))) .nil))))))
theorem pu_pairs_met : PurF c_pairs_met := pr_fn (show PurS b_pairs_met from (pr_sq (pr_par3 (pr_call pu_rising_pair (.cons (pr_v _) (.cons (pr_v _) .nil))) (pr_lst .nil) (pr_k _)) (pr_sq (pr_whl (pr_and (pr_ap2 (pr_v _) (pr_v _)) (pr_ap2 (pr_ap2 (pr_v _) (pr_k _)) (pr_k _))) (pr_sq (pr_putG (pr_v _) (pr_k _)) (pr_sq (pr_app (pr_v _)) (pr_asS (pr_call pu_raw_doubled (.cons (pr_v _) .nil))))) _) (pr_rt (pr_tup (.cons (pr_v _) (.cons (pr_v _) .nil)))))))
theorem pu_turns_till_empty : PurF c_turns_till_empty := pr_fn (show PurS b_turns_till_empty from (pr_sq (pr_dr (pr_call pu_check_heaps (.cons (pr_tup (.cons (pr_v _) (.cons (pr_v _) .nil))) (.cons (pr_k _) .nil)))) (pr_sq (pr_asS (pr_call pu_pairs_met (.cons (pr_v _) (.cons (pr_v _) .nil)))) (pr_rt (pr_ite (pr_ap2 (pr_ap2 (pr_v _) (pr_k _)) (pr_k _)) (pr_apN (.cons (pr_v _) .nil)) (pr_k _))))))
theorem pu_odd_part : PurF c_odd_part := pr_fn (show PurS b_odd_part from (pr_sq (pr_dr (pr_call pu_check_heaps (.cons (pr_tup (.cons (pr_v _) (.cons (pr_v _) .nil))) (.cons (pr_k _) .nil)))) (pr_sq (pr_if (pr_ap2 (pr_ap2 (pr_ap2 (pr_call pu_pairs_met (.cons (pr_v _) (.cons (pr_v _) .nil))) (pr_k _)) (pr_k _)) (pr_k _)) (pr_rt (pr_k _)) pr_sk) (pr_sq (pr_asS (pr_ap2 (pr_ap2 (pr_v _) (pr_v _)) (pr_call pu_common_part (.cons (pr_v _) (.cons (pr_v _) .nil))))) (pr_sq (pr_whl (pr_ap2 (pr_v _) (pr_ap2 (pr_k _) (pr_ap2 (pr_v _) (pr_k _)))) (pr_asS (pr_ap2 (pr_v _) (pr_k _))) _) (pr_rt (pr_v _)))))))
theorem pu_heap_round : PurF c_heap_round := pr_fn (show PurS b_heap_round from (pr_sq (pr_dr (pr_call pu_check_heaps (.cons (pr_tup (.cons (pr_v _) (.cons (pr_v _) .nil))) (.cons (pr_k _) .nil)))) (pr_sq (pr_asS (pr_call pu_pairs_met (.cons (pr_v _) (.cons (pr_v _) .nil)))) (pr_rt (pr_ite (pr_ap2 (pr_ap2 (pr_v _) (pr_k _)) (pr_k _)) (pr_k _) (pr_apN (.cons (pr_sl (pr_v _) (.some (pr_mtG (pr_v _) (.cons (pr_v _) .nil))) .none) .nil)))))))
theorem pu_partners : PurF c_partners := pr_fn (show PurS b_partners from (pr_sq (pr_if (pr_not (pr_call pu_is_within (.cons (pr_v _) (.cons (pr_k _) (.cons (pr_k _) .nil))))) pr_ra pr_sk) (pr_sq (pr_set (pr_lst .nil)) (pr_sq (pr_for (pr_apI (.cons (pr_ap2 (pr_ap2 (pr_v _) (pr_k _)) (pr_k _)) .nil)) (pr_if (pr_ap2 (pr_ap2 (pr_ap2 (pr_call pu_pairs_met (.cons (pr_v _) (.cons (pr_ap2 (pr_v _) (pr_v _)) .nil))) (pr_k _)) (pr_k _)) (pr_k _)) (pr_app (pr_v _)) pr_sk)) (pr_rt (pr_apN (.cons (pr_v _) .nil)))))))
theorem pu__law_hand : PurF c__law_hand := pr_fn (show PurS b__law_hand from (pr_sq (pr_set (pr_lc (pr_seq6 (pr_sl (pr_v _) .none (.some (pr_k _)))) (pr_k _) (pr_apN (.cons (pr_apN (.cons (pr_v _) .nil)) .nil)))) (pr_rt (pr_lst (.cons (pr_v _) (.cons (pr_k _) (.cons (pr_k _) (.cons (pr_ap2 (pr_k _) (pr_ap2 (pr_k _) (pr_apN (.cons (pr_v _) .nil)))) (.cons (pr_k _) .nil)))))))))
theorem pu__law_is : PurF c__law_is := pr_fn (show PurS b__law_is from (pr_rt (pr_ap2 (pr_apN (.cons (pr_v _) .nil)) (pr_apN (.cons (pr_v _) .nil)))))
theorem pu__law_common : PurF c__law_common := pr_fn (show PurS b__law_common from (pr_sq (pr_whl (pr_ap2 (pr_v _) (pr_k _)) (pr_par2 (pr_v _) (pr_ap2 (pr_apN (.cons (pr_v _) .nil)) (pr_v _))) _) (pr_rt (pr_v _))))
theorem pu__law_next : PurF c__law_next := pr_fn (show PurS b__law_next from (pr_sq (pr_asS (pr_v _)) (pr_rt (pr_tup (.cons (pr_apN (.cons (pr_ap2 (pr_k _) (pr_v _)) (.cons (pr_ap2 (pr_v _) (pr_v _)) .nil))) (.cons (pr_apN (.cons (pr_ap2 (pr_k _) (pr_v _)) (.cons (pr_ap2 (pr_v _) (pr_v _)) .nil))) .nil))))))
theorem pu__law_gone : PurF c__law_gone := pr_fn (show PurS b__law_gone from (pr_sq (pr_par2 (pr_lst (.cons (pr_tup (.cons (pr_apN (.cons (pr_v _) (.cons (pr_v _) .nil))) (.cons (pr_apN (.cons (pr_v _) (.cons (pr_v _) .nil))) .nil))) .nil)) (pr_k _)) (pr_sq (pr_whl (pr_ap2 (pr_ap2 (pr_ap2 (pr_v _) (pr_ap1 (pr_k _))) (pr_k _)) (pr_k _)) (pr_sq (pr_putG (pr_ap2 (pr_v _) (pr_ap1 (pr_k _))) (pr_apN (.cons (pr_v _) .nil))) (pr_sq (pr_asS (pr_call pu__law_next (.cons (pr_ap2 (pr_v _) (pr_ap1 (pr_k _))) .nil))) (pr_sq (pr_if (pr_ap2 (pr_v _) (pr_v _)) (pr_rt (pr_tup (.cons (pr_v _) (.cons (pr_ap2 (pr_v _) (pr_v _)) .nil)))) pr_sk) (pr_app (pr_v _))))) _) (pr_rt (pr_tup (.cons (pr_v _) (.cons (pr_k _) .nil)))))))
theorem pu__law_odd : PurF c__law_odd := pr_fn (show PurS b__law_odd from (pr_sq (pr_asS (pr_call pu__law_common (.cons (pr_v _) (.cons (pr_v _) .nil)))) (pr_sq (pr_asS (pr_ite (pr_ap2 (pr_v _) (pr_k _)) (pr_apN (.cons (pr_ap2 (pr_ap2 (pr_v _) (pr_v _)) (pr_v _)) .nil)) (pr_k _))) (pr_sq (pr_whl (pr_ap2 (pr_ap2 (pr_v _) (pr_k _)) (pr_k _)) (pr_asS (pr_apN (.cons (pr_ap2 (pr_v _) (pr_k _)) .nil))) _) (pr_rt (pr_v _))))))
theorem pu__law_is_round : PurF c__law_is_round := pr_fn (show PurS b__law_is_round from (pr_rt (pr_apN (.cons (pr_lc (pr_apI (.cons (pr_apN (.cons (pr_v _) .nil)) .nil)) (pr_k _) (pr_ap2 (pr_call pu__law_next (.cons (pr_ap2 (pr_v _) (pr_ap2 (pr_v _) (pr_k _))) .nil)) (pr_ap2 (pr_v _) (pr_v _)))) .nil))))
end W

namespace W
open Ev
/-- the tape as the hand lays it -/
def TapeP (ts : List D) : Prop := ∃ (ns : List Int) (j h m k : Int), ts = [.lst (ns.map .int), .int j, .int h, .int m, .int k] ∧ 0 ≤ j ∧ (∀ n ∈ ns, 0 ≤ n) ∧ 0 ≤ h ∧ 0 ≤ m ∧ 0 ≤ k
theorem tget0 (a b c d e : D) : tgetD (.int 0) (some [a, b, c, d, e]) = some a := rfl
theorem tget1 (a b c d e : D) : tgetD (.int 1) (some [a, b, c, d, e]) = some b := rfl
theorem tget2 (a b c d e : D) : tgetD (.int 2) (some [a, b, c, d, e]) = some c := rfl
theorem tget3 (a b c d e : D) : tgetD (.int 3) (some [a, b, c, d, e]) = some d := rfl
theorem tget4 (a b c d e : D) : tgetD (.int 4) (some [a, b, c, d, e]) = some e := rfl
theorem tput1 (a b c d e x : D) : tputD (.int 1) x (some [a, b, c, d, e]) = some [a, x, c, d, e] := rfl
theorem tput2 (a b c d e x : D) : tputD (.int 2) x (some [a, b, c, d, e]) = some [a, b, x, d, e] := rfl
theorem tput3 (a b c d e x : D) : tputD (.int 3) x (some [a, b, c, d, e]) = some [a, b, c, x, e] := rfl
theorem tput4 (a b c d e x : D) : tputD (.int 4) x (some [a, b, c, d, e]) = some [a, b, c, d, x] := rfl
theorem int1_ev (i : Int) : int1D [.int i] = some (.int i) := rfl
theorem pow18 : powD (.int 10) (.int 18) = some (.int 1000000000000000000) := by
  show (if (decide ((0 : Int) ≤ 18) && decide ((18 : Int) ≤ 1000000) && decide ((10 : Int).natAbs < 2 ^ 64)) = true then some (D.int ((10 : Int) ^ (18 : Int).toNat)) else none) = _
  rw [if_pos (by decide)]
  rfl
theorem draw_ok {ts : List D} (h : TapeP ts) {lim : Int} (h1 : 0 < lim) (h2 : lim < 1073741824) : ∃ d ts', c__law_draw [.tape, .int lim] (some ts) = .ok (.int d) (some ts') ∧ TapeP ts' ∧ 0 ≤ d ∧ d < lim := by
  obtain ⟨ns, j, h, m, k, rfl, hj, hns, hh, hm, hk⟩ := h
  -- the second half, by itself
  have half : ∀ (j h m : Int) (x : Option D), 0 ≤ j → 0 ≤ h → 0 ≤ m → ∃ d ts', (sq (ifS (ap2 gtG (tgetE (vE 0) (kE (.int 2))) (kE (.int 0)))
  (sq (asS (tgN 3) (ap2 modD (apN int1D [(tgetE (vE 0) (kE (.int 2)))]) (vE 1)))
  (sq (tputS (vE 0) (kE (.int 2)) (ap2 fdivD (tgetE (vE 0) (kE (.int 2))) (vE 1)))
  (rtS (vE 3))))
  sk)
  (sq (tputS (vE 0) (kE (.int 4)) (ap2 addD (tgetE (vE 0) (kE (.int 4))) (kE (.int 1))))
  (sq (asS (tgN 4) (ap2 modD (apN int1D [(ap2 mulD (apN int1D [(ap2 addD (tgetE (vE 0) (kE (.int 3))) (ap2 mulD (kE (.int 7919)) (tgetE (vE 0) (kE (.int 4)))))]) (kE (.int 40692)))]) (kE (.int 2147483647))))
  (sq (asS (tgN 4) (ap2 modD (apN int1D [(ap2 mulD (vE 4) (ap2 addD (ap2 fdivD (vE 4) (kE (.int 1009))) (kE (.int 69621))))]) (kE (.int 2147483647))))
  (sq (asS (tgN 4) (ap2 modD (apN int1D [(ap2 mulD (vE 4) (ap2 addD (ap2 fdivD (vE 4) (kE (.int 2003))) (kE (.int 40014))))]) (kE (.int 2147483563))))
  (rtS (ap2 modD (apN int1D [(ap2 fdivD (vE 4) (kE (.int 16)))]) (vE 1)))))))) [some .tape, some (.int lim), x, none, none] (some [.lst (ns.map .int), .int j, .int h, .int m, .int k]) = .rt (.int d) (some ts') ∧ TapeP ts' ∧ 0 ≤ d ∧ d < lim := by
    intro j h m x hj hh hm
    by_cases hp : 0 < h
    · refine ⟨h % lim, [.lst (ns.map .int), .int j, .int (h / lim), .int m, .int k], ?_, ⟨ns, j, h / lim, m, k, rfl, hj, hns, Int.ediv_nonneg hh (by omega), hm, hk⟩, Int.emod_nonneg _ (by omega), Int.emod_lt_of_pos _ h1⟩
      simp [tget2, tput2, hp, int1_ev, modD_int h1, fdivD_int h1 h2]
    · let n1 : Int := (m + 7919 * (k + 1)) * 40692 % 2147483647
      let n2 : Int := n1 * (n1 / 1009 + 69621) % 2147483647
      let n3 : Int := n2 * (n2 / 2003 + 40014) % 2147483563
      have b1 : 0 ≤ n1 ∧ n1 < 2147483647 := ⟨Int.emod_nonneg _ (by decide), Int.emod_lt_of_pos _ (by decide)⟩
      have b2 : 0 ≤ n2 ∧ n2 < 2147483647 := ⟨Int.emod_nonneg _ (by decide), Int.emod_lt_of_pos _ (by decide)⟩
      have s1 : smI 7919 = true := by decide
      have s2 : smI 40692 = true := by decide
      have s3 : smI n1 = true := smI_of (by omega) (by omega)
      have s4 : smI n2 = true := smI_of (by omega) (by omega)
      have e1 : mulD (.int 7919) (.int (k + 1)) = some (.int (7919 * (k + 1))) := mulD_int (.inl s1)
      have e2 : mulD (.int (m + 7919 * (k + 1))) (.int 40692) = some (.int ((m + 7919 * (k + 1)) * 40692)) := mulD_int (.inr s2)
      have e3 : mulD (.int n1) (.int (n1 / 1009 + 69621)) = some (.int (n1 * (n1 / 1009 + 69621))) := mulD_int (.inl s3)
      have e4 : mulD (.int n2) (.int (n2 / 2003 + 40014)) = some (.int (n2 * (n2 / 2003 + 40014))) := mulD_int (.inl s4)
      refine ⟨n3 / 16 % lim, [.lst (ns.map .int), .int j, .int h, .int m, .int (k + 1)], ?_, ⟨ns, j, h, m, k + 1, rfl, hj, hns, hh, hm, by omega⟩, Int.emod_nonneg _ (by omega), Int.emod_lt_of_pos _ h1⟩
      have m1 : modD (.int ((m + 7919 * (k + 1)) * 40692)) (.int 2147483647) = some (.int n1) := modD_int (by decide)
      have m2 : modD (.int (n1 * (n1 / 1009 + 69621))) (.int 2147483647) = some (.int n2) := modD_int (by decide)
      have m3 : modD (.int (n2 * (n2 / 2003 + 40014))) (.int 2147483563) = some (.int n3) := modD_int (by decide)
      have m4 : modD (.int (n3 / 16)) (.int lim) = some (.int (n3 / 16 % lim)) := modD_int h1
      have f1 : fdivD (.int n1) (.int 1009) = some (.int (n1 / 1009)) := fdivD_int (by decide) (by decide)
      have f2 : fdivD (.int n2) (.int 2003) = some (.int (n2 / 2003)) := fdivD_int (by decide) (by decide)
      have f3 : fdivD (.int n3) (.int 16) = some (.int (n3 / 16)) := fdivD_int (by decide) (by decide)
      clear_value n3 n2 n1
      simp [tget2, tget3, tget4, tput4, hp, int1_ev, e1, e2, e3, e4, m1, m2, m3, m4, f1, f2, f3]
  have key : ∀ {env' T'}, b__law_draw [some .tape, some (.int lim), none, none, none] (some [.lst (ns.map .int), .int j, .int h, .int m, .int k]) = .rt env' T' → c__law_draw [.tape, .int lim] (some [.lst (ns.map .int), .int j, .int h, .int m, .int k]) = .ok env' T' := fun e => fnD_rt rfl e
  have e0 : ∀ e : Int, decide (0 < e) = true → True := fun _ _ => trivial
  by_cases hc : h = 0 ∧ j < ns.length
  · obtain ⟨hc1, hc2⟩ := hc
    have hjl : j.toNat < ns.length := by omega
    have hix : ix4D (.lst (ns.map D.int)) (.int j) = some (.int (ns[j.toNat])) := ix4D_lst hj (by simp [hjl])
    have hcell : 0 ≤ ns[j.toNat] := hns _ (List.getElem_mem _)
    generalize ns[j.toNat] = cell at hix hcell
    have hm1 : mulD (.int m) (.int 69621) = some (.int (m * 69621)) := mulD_int (.inr (by decide))
    have hm0 : mulD (.int cell) (.int 48271) = some (.int (cell * 48271)) := mulD_int (.inr (by decide))
    have hm2 : modD (.int (m * 69621 + cell * 48271 + 17)) (.int 2147483629) = some (.int ((m * 69621 + cell * 48271 + 17) % 2147483629)) := modD_int (by decide)
    have hm3 : 0 ≤ (m * 69621 + cell * 48271 + 17) % 2147483629 := Int.emod_nonneg _ (by decide)
    generalize (m * 69621 + cell * 48271 + 17) % 2147483629 = m' at hm2 hm3
    by_cases hg : 1000000000000000000 ≤ cell
    · obtain ⟨d, ts', e1, e2⟩ := half (j + 1) cell m' (some (.int cell)) (by omega) hcell hm3
      refine ⟨d, ts', key ?_, e2⟩
      unfold b__law_draw
      rw [sq_ev]
      rw [← e1]
      simp only [ifS_ev, andE_ev, ap2_ev, tgetE_ev, vE_0, kE_ev, bind_ok, tget0, tget1, tget2, tget3, tget4, ofO_some, eqS_int, hc1, decide_true, andK_t, ltG_int, apN_ev, esE_cons, esE_nil, len4D_lst, List.length_map, hc2, exS_ok, ifK_t, sq_ev, asS_N, List.set, sqK_nx, hix, tputS_ev, tput1, tput2, tput3, vE_s, hm0, hm1, hm2, addD_int, int1_ev, geG_int, pow18, hg]
    · obtain ⟨d, ts', e1, e2⟩ := half (j + 1) h m' (some (.int cell)) (by omega) hh hm3
      refine ⟨d, ts', key ?_, e2⟩
      unfold b__law_draw
      rw [sq_ev]
      rw [← e1]
      simp only [ifS_ev, andE_ev, ap2_ev, tgetE_ev, vE_0, kE_ev, bind_ok, tget0, tget1, tget2, tget3, tget4, ofO_some, eqS_int, hc1, decide_true, andK_t, ltG_int, apN_ev, esE_cons, esE_nil, len4D_lst, List.length_map, hc2, exS_ok, ifK_t, ifK_f, sq_ev, asS_N, List.set, sqK_nx, hix, tputS_ev, tput1, tput2, tput3, vE_s, hm0, hm1, hm2, addD_int, int1_ev, geG_int, pow18, hg, decide_false, sk_ev]
  · obtain ⟨d, ts', e1, e2⟩ := half j h m none hj hh hm
    refine ⟨d, ts', key ?_, e2⟩
    unfold b__law_draw
    rw [sq_ev]
    rw [← e1]
    by_cases hz : h = 0
    · have hc2 : ¬ j < ns.length := fun z => hc ⟨hz, z⟩
      simp only [ifS_ev, andE_ev, ap2_ev, tgetE_ev, vE_0, kE_ev, bind_ok, tget0, tget1, tget2, tget3, tget4, ofO_some, eqS_int, hz, decide_true, andK_t, ltG_int, apN_ev, esE_cons, esE_nil, len4D_lst, List.length_map, hc2, decide_false, exS_ok, ifK_f, sk_ev, sqK_nx]
    · simp only [ifS_ev, andE_ev, ap2_ev, tgetE_ev, vE_0, kE_ev, bind_ok, tget2, ofO_some, eqS_int, hz, decide_false, andK_f, exS_ok, ifK_f, sk_ev, sqK_nx]
theorem hand_ok (ns : List Int) (h : ns.length ≤ 63) : ∃ ts, c__law_hand [.scr (ns.map .int)] none = .ok (.lst ts) none ∧ TapeP ts := by
  have hs : slE slD (vE 0) none (some (kE (.int 63))) [some (.scr (ns.map .int)), none, none] none = .ok (.lst (ns.map .int)) none := by
    show Res.ok (D.lst (cutD (ns.map D.int) none (some 63))) none = _
    have e : cutD (ns.map D.int) none (some 63) = ns.map D.int := by
      unfold cutD
      have a1 : HT.sIx (ns.map D.int).length 0 none = 0 := rfl
      have a2 : (ns.map D.int).length ≤ HT.sIx (ns.map D.int).length (ns.map D.int).length (some 63) := by
        rw [List.length_map]
        simp [HT.sIx]
        omega
      rw [a1, List.drop_zero, List.take_of_length_le (by omega)]
    rw [e]
  have hl : lcE [2] (tgN 2) (seq6It (slE slD (vE 0) none (some (kE (.int 63))))) (kE (.bl true)) (apN absD [(apN int1D [(vE 2)])]) [some (.scr (ns.map .int)), none, none] none = .ok (.lst ((ns.map D.int).map fun d => match d with | D.int i => D.int (if i < 0 then -i else i) | d => d)) none := by
    refine lcE_map _ (ds := ns.map .int) (by rw [seq6It_ev, hs]; rfl) (by rw [List.length_map]; omega) fun d hd => ?_
    obtain ⟨i, _, rfl⟩ := List.mem_map.mp hd
    exact ⟨_, rfl, rfl⟩
  refine ⟨[.lst ((ns.map fun i => if i < 0 then -i else i).map .int), .int 0, .int 0, .int (239 + 43 * ns.length), .int 0], ?_, ⟨_, 0, 0, _, 0, rfl, by decide, ?_, by decide, by omega, by decide⟩⟩
  · refine fnD_rt rfl ?_
    unfold b__law_hand
    show sq _ _ [some (.scr (ns.map .int)), none, none] none = _
    have hmul : mulD (.int 43) (.int ((ns.length : Nat) : Int)) = some (.int (43 * (ns.length : Nat))) := mulD_int (.inl (by decide))
    simp [hl, Function.comp_def, hmul]
  · intro n hn
    obtain ⟨i, _, rfl⟩ := List.mem_map.mp hn
    split <;> omega
end W

namespace W
open Ev PySem
theorem isint_ok (i : Int) (T : Tp) : c_is_integer [.int i] T = .ok (.bl true) T := by
  refine fnD_rt rfl ?_
  show b_is_integer [some (.int i)] T = _
  unfold b_is_integer notE
  simp only [rtS_ev, andE_ev, ap1_ev, vE_0, bind_ok, isi_int, isi_int_b, ofO_some, andK_t, notD_ev, Bool.not_false, exS_ok]
theorem within_b (i lo hi : Int) (T : Tp) : c_is_within [.int i, .int lo, .int hi] T = .ok (.bl (decide (lo ≤ i) && decide (i ≤ hi))) T := by
  refine fnD_rt rfl ?_
  show b_is_within [some (.int i), some (.int lo), some (.int hi)] T = _
  unfold b_is_within
  simp [isint_ok, chK_b]
  by_cases h : lo ≤ i <;> simp [h]

theorem lcL_draw {env : Ve} {f : Tf} {ce : Ex} (R : D → Prop) : ∀ (ds : List D) (ts : List D), TapeP ts → (∀ d ∈ ds, ∃ env1, f d env = some env1 ∧ ∀ ts, TapeP ts → ∃ x ts', ce env1 (some ts) = .ok x (some ts') ∧ TapeP ts' ∧ R x) →
    ∃ xs ts', lcL env f (kE (.bl true)) ce ds (some ts) = .ok xs (some ts') ∧ TapeP ts' ∧ xs.length = ds.length ∧ ∀ x ∈ xs, R x
  | [], ts, hp, _ => ⟨[], ts, rfl, hp, rfl, fun x hx => by cases hx⟩
  | d :: ds, ts, hp, h => by
    obtain ⟨env1, e0, h0⟩ := h d List.mem_cons_self
    obtain ⟨x, ts1, e1, p1, r1⟩ := h0 ts hp
    obtain ⟨xs, ts2, e2, p2, l2, r2⟩ := lcL_draw R ds ts1 p1 fun d hd => h d (List.mem_cons_of_mem _ hd)
    refine ⟨x :: xs, ts2, ?_, p2, by rw [List.length_cons, List.length_cons, l2], fun y hy => ?_⟩
    · have el : lcL env f (kE (.bl true)) ce (d :: ds) (some ts) = (match f d env with
        | none => .no
        | some env1 => (nxR (ce env1 (some ts))).bind fun x T => (lcL env f (kE (.bl true)) ce ds T).bind fun xs T => .ok (x :: xs) T) := rfl
      rw [el, e0]
      show (nxR (ce env1 (some ts))).bind _ = _
      rw [e1]
      show (Res.ok x (some ts1)).bind _ = _
      rw [bind_ok, e2]
      rfl
    · rcases List.mem_cons.mp hy with rfl | hy
      · exact r1
      · exact r2 y hy
theorem lcE_draw {vs : List Nat} {env : Ve} {f : Tf} {it : It_} {ce : Ex} (R : D → Prop) {ds : List D} {ts : List D} (hp : TapeP ts) (hi : it env (some ts) = .ok ds (some ts)) (hl : ds.length ≤ 1000) (h : ∀ d ∈ ds, ∃ env1, f d (wipeE env vs) = some env1 ∧ ∀ ts, TapeP ts → ∃ x ts', ce env1 (some ts) = .ok x (some ts') ∧ TapeP ts' ∧ R x) :
    ∃ xs ts', lcE vs f it (kE (.bl true)) ce env (some ts) = .ok (.lst xs) (some ts') ∧ TapeP ts' ∧ xs.length = ds.length ∧ ∀ x ∈ xs, R x := by
  obtain ⟨xs, ts', e, p, l, r⟩ := lcL_draw R ds ts hp h
  refine ⟨xs, ts', ?_, p, l, r⟩
  unfold lcE
  rw [hi, bind_ok, e, bind_ok, if_pos (sizeLine_le (by omega))]
theorem some_ok {ts : List D} (h : TapeP ts) {ds : List D} (h1 : 0 < ds.length) (h2 : ds.length ≤ 100000) : ∃ d ts', c__law_some [.tape, .lst ds] (some ts) = .ok d (some ts') ∧ TapeP ts' ∧ d ∈ ds := by
  obtain ⟨d, ts', e, p, g1, g2⟩ := draw_ok h (lim := (ds.length : Nat)) (by omega) (by omega)
  have hd : d.toNat < ds.length := by omega
  refine ⟨ds[d.toNat], ts', fnD_rt rfl ?_, p, List.getElem_mem _⟩
  have hix : ix4D (.lst ds) (.int d) = some ds[d.toNat] := ix4D_lst g1 (List.getElem?_eq_getElem hd)
  show b__law_some [some .tape, some (.lst ds)] (some ts) = _
  unfold b__law_some
  simp only [rtS_ev, ap2_ev, vE_0, vE_s, bind_ok, callE_ev, esE_cons, esE_nil, apN_ev, len4D_lst, ofO_some, e, hix, exS_ok]

end W

namespace W
open Ev PySem
theorem whl_f {c : Ex} {b : Sx} {env : Ve} {T : Tp} {n : Nat} (h : c env T = .ok (.bl false) T) : whl (n + 1) c b env T = .nx env T := by
  show exS (c env T) env _ = _
  rw [h]; rfl
theorem whl_t {c : Ex} {b : Sx} {env env2 : Ve} {T T2 : Tp} {n : Nat} (h : c env T = .ok (.bl true) T) (hb : b env T = .nx env2 T2) : whl (n + 1) c b env T = whl n c b env2 T2 := by
  show exS (c env T) env (fun d T => match d with
    | .bl true => match b env T with
      | .nx env T => whl n c b env T
      | .ct env T => whl n c b env T
      | .bk env T => .nx env T
      | r => r
    | .bl false => .nx env T
    | _ => .no) = _
  rw [h]
  show (match b env T with
      | .nx env T => whl n c b env T
      | .ct env T => whl n c b env T
      | .bk env T => .nx env T
      | r => r) = _
  rw [hb]
theorem whl_r {c : Ex} {b : Sx} {env : Ve} {T T2 : Tp} {d : D} {n : Nat} (h : c env T = .ok (.bl true) T) (hb : b env T = .rt d T2) : whl (n + 1) c b env T = .rt d T2 := by
  show exS (c env T) env (fun d T => match d with
    | .bl true => match b env T with
      | .nx env T => whl n c b env T
      | .ct env T => whl n c b env T
      | .bk env T => .nx env T
      | r => r
    | .bl false => .nx env T
    | _ => .no) = _
  rw [h]
  show (match b env T with
      | .nx env T => whl n c b env T
      | .ct env T => whl n c b env T
      | .bk env T => .nx env T
      | r => r) = _
  rw [hb]
/-! the lesser heap, turn by turn -/
def fl (s l : Nat) : Nat := min (2 * l) (s - 2 * l)
def orb (s l : Nat) : Nat → Nat
  | 0 => l
  | k + 1 => fl s (orb s l k)
theorem orb_le {s l : Nat} (h : 2 * l ≤ s) : ∀ k, 2 * orb s l k ≤ s
  | 0 => h
  | k + 1 => by
    have ih := orb_le h k
    show 2 * min (2 * orb s l k) (s - 2 * orb s l k) ≤ s
    omega
theorem orb_mul {s l t : Nat} : ∀ k, orb (s * t) (l * t) k = orb s l k * t
  | 0 => rfl
  | k + 1 => by
    show min (2 * orb (s * t) (l * t) k) (s * t - 2 * orb (s * t) (l * t) k) = min (2 * orb s l k) (s - 2 * orb s l k) * t
    rw [orb_mul k, ← Nat.mul_assoc, ← Nat.sub_mul, Nat.mul_min_mul_right]
/-- where it ends: empty, or come again -/
structure Stop (s l N : Nat) : Prop where
  pos : ∀ k, k < N → 0 < orb s l k
  new : ∀ i j, i < j → j < N → orb s l i ≠ orb s l j
  fin : orb s l N = 0 ∨ ∃ j, j < N ∧ orb s l N = orb s l j
theorem stop_le {s l N : Nat} (h : 2 * l ≤ s) (S : Stop s l N) : N ≤ s / 2 + 1 := by
  have := php N (orb s l) (List.range (s / 2 + 1)) (fun i _ => List.mem_range.mpr (by have := orb_le h i; omega)) S.new
  rwa [List.length_range] at this
theorem stop_ex {s l : Nat} (h : 2 * l ≤ s) : ∃ N, Stop s l N := by
  have ex : ∃ N, orb s l N = 0 ∨ ∃ j, j < N ∧ orb s l N = orb s l j := Classical.byContradiction fun no => by
    have nw : ∀ i j, i < j → j < s / 2 + 2 → orb s l i ≠ orb s l j := fun i j hi _ e => no ⟨j, .inr ⟨i, hi, e.symm⟩⟩
    have := php (s / 2 + 2) (orb s l) (List.range (s / 2 + 1)) (fun i _ => List.mem_range.mpr (by have := orb_le h i; omega)) nw
    rw [List.length_range] at this
    omega
  obtain ⟨N, hN⟩ := ex
  induction N using Nat.strongRecOn with
  | ind N ih =>
    by_cases q : ∃ k, k < N ∧ (orb s l k = 0 ∨ ∃ j, j < k ∧ orb s l k = orb s l j)
    · obtain ⟨k, hk, hq⟩ := q
      exact ih k hk hq
    · refine ⟨N, fun k hk => ?_, fun i j hi hj e => q ⟨j, hj, .inr ⟨i, hi, e.symm⟩⟩, hN⟩
      exact Nat.pos_of_ne_zero fun z => q ⟨k, hk, .inl z⟩
theorem stop_mul {s l N t : Nat} (ht : 0 < t) (S : Stop s l N) : Stop (s * t) (l * t) N := by
  refine ⟨fun k hk => ?_, fun i j hi hj e => ?_, ?_⟩
  · rw [orb_mul]
    exact Nat.mul_pos (S.pos k hk) ht
  · rw [orb_mul, orb_mul] at e
    exact S.new i j hi hj (Nat.eq_of_mul_eq_mul_right ht e)
  · rcases S.fin with z | ⟨j, hj, e⟩
    · exact .inl (by rw [orb_mul, z, Nat.zero_mul])
    · exact .inr ⟨j, hj, by rw [orb_mul, orb_mul, e]⟩
/-! pairs -/
def pD (s l : Nat) : D := .tup [.int (l : Nat), .int ((s - l : Nat) : Int)]
theorem pD_row (s l : Nat) : pD s l = rowD [(l : Nat), ((s - l : Nat) : Int)] := rfl
theorem pD_kd (s l : Nat) : Kd 1 (pD s l) := by
  rw [pD_row]; exact row_kd _
theorem pD_pln (s l : Nat) : Pln 1 (pD s l) := by
  rw [pD_row]; exact row_pln _
theorem pD_ne {s a b : Nat} (h : a ≠ b) : pD s a ≠ pD s b := fun e => by
  injection e with e
  injection e with e _
  injection e with e
  exact h (by omega)
theorem p0 (s l : Nat) : ix4D (pD s l) (.int 0) = some (.int (l : Nat)) := rfl
theorem p1 (s l : Nat) : ix4D (pD s l) (.int 1) = some (.int ((s - l : Nat) : Int)) := rfl
theorem mul2 (f : Int) : mulD (.int 2) (.int f) = some (.int (2 * f)) := mulD_int (.inl (smI_of (by decide) (by decide)))
theorem rising_ok (a b : Nat) (T : Tp) : c_rising_pair [.int (a : Nat), .int (b : Nat)] T = .ok (pD (a + b) (min a b)) T := by
  refine fnD_rt rfl ?_
  show b_rising_pair [some (.int (a : Nat)), some (.int (b : Nat))] T = _
  unfold b_rising_pair
  by_cases q : a ≤ b
  · have e : decide ((a : Int) ≤ (b : Nat)) = true := by rw [decide_eq_true_eq]; omega
    have e2 : pD (a + b) (min a b) = .tup [.int (a : Nat), .int (b : Nat)] := by
      unfold pD
      rw [Nat.min_eq_left q, Nat.add_sub_cancel_left]
    simp only [rtS_ev, iteE_ev, ap2_ev, vE_0, vE_s, bind_ok, leG_int, e, ofO_some, iteK_t, tupE_ev, esE_cons, esE_nil, exS_ok, e2]
  · have e : decide ((a : Int) ≤ (b : Nat)) = false := by rw [decide_eq_false_iff_not]; omega
    have e2 : pD (a + b) (min a b) = .tup [.int (b : Nat), .int (a : Nat)] := by
      unfold pD
      rw [Nat.min_eq_right (by omega), Nat.add_sub_cancel]
    simp only [rtS_ev, iteE_ev, ap2_ev, vE_0, vE_s, bind_ok, leG_int, e, ofO_some, iteK_f, tupE_ev, esE_cons, esE_nil, exS_ok, e2]
theorem raw_ok {s l : Nat} (h : 2 * l ≤ s) (T : Tp) : c_raw_doubled [pD s l] T = .ok (pD s (fl s l)) T := by
  refine fnD_rt rfl ?_
  show b_raw_doubled [some (pD s l)] T = _
  unfold b_raw_doubled
  have e1 : (2 : Int) * (l : Nat) = ((2 * l : Nat) : Int) := by omega
  have e2 : ((s - l : Nat) : Int) - (l : Nat) = ((s - 2 * l : Nat) : Int) := by omega
  simp only [rtS_ev, callE_ev, esE_cons, esE_nil, ap2_ev, vE_0, kE_ev, bind_ok, p0, p1, ofO_some, mul2, subD_int, e1, e2, rising_ok, exS_ok]
  unfold fl
  rw [show 2 * l + (s - 2 * l) = s by omega]
theorem next_ok {s l : Nat} (h : 2 * l ≤ s) (T : Tp) : c__law_next [pD s l] T = .ok (pD s (fl s l)) T := by
  refine fnD_rt rfl ?_
  show b__law_next [some (pD s l), none, none] T = _
  have e1 : (2 : Int) * (l : Nat) = ((2 * l : Nat) : Int) := by omega
  have e2 : ((s - l : Nat) : Int) - (l : Nat) = ((s - 2 * l : Nat) : Int) := by omega
  have h0 : asS (tgT (tgsC (tgN 1) (tgsC (tgN 2) tgs0))) (vE 0) [some (pD s l), none, none] T = .nx [some (pD s l), some (.int (l : Nat)), some (.int ((s - l : Nat) : Int))] T := rfl
  unfold b__law_next
  rw [sq_ev, h0, sqK_nx]
  simp only [rtS_ev, tupE_ev, esE_cons, esE_nil, apN_ev, ap2_ev, vE_s, vE_0, kE_ev, bind_ok, mul2, subD_int, ofO_some, e1, e2, min2D_ev, max2D_ev, exS_ok]
  have ea : (if ((s - 2 * l : Nat) : Int) < ((2 * l : Nat) : Int) then ((s - 2 * l : Nat) : Int) else ((2 * l : Nat) : Int)) = ((fl s l : Nat) : Int) := by
    unfold fl
    split <;> omega
  have eb : (if ((s - 2 * l : Nat) : Int) > ((2 * l : Nat) : Int) then ((s - 2 * l : Nat) : Int) else ((2 * l : Nat) : Int)) = ((s - fl s l : Nat) : Int) := by
    unfold fl
    split <;> omega
  rw [ea, eb]
  rfl
/-! gone through by the program -/
def ps (s l n : Nat) : List D := (List.range n).map fun k => pD s (orb s l k)
def esK (s l n : Nat) : List (D × D) := (List.range n).map fun k => (pD s (orb s l k), .bl true)
theorem ps_succ (s l n : Nat) : ps s l (n + 1) = ps s l n ++ [pD s (orb s l n)] := by
  unfold ps
  rw [List.range_succ, List.map_append]; rfl
theorem esK_succ (s l n : Nat) : esK s l (n + 1) = esK s l n ++ [(pD s (orb s l n), .bl true)] := by
  unfold esK
  rw [List.range_succ, List.map_append]; rfl
theorem ps_len (s l n : Nat) : (ps s l n).length = n := by unfold ps; simp
theorem key_of (s l : Nat) : ∃ n, keyD true (pD s l) = some n ∧ nkT (pD s l) = some n := keyD_tup (pD_kd s l) (by decide)
theorem look_no {s l k n : Nat} {key : PySem.NestedKey} {g : Nat → D} (hk : nkT (pD s (orb s l k)) = some key) (h : ∀ i, i < n → orb s l i ≠ orb s l k) : dlook ((List.range n).map fun i => (pD s (orb s l i), g i)) key = none := by
  refine dlook_no (pD_kd _ _) (by decide) hk fun e he => ?_
  obtain ⟨i, hi, rfl⟩ := List.mem_map.mp he
  exact ⟨⟨1, by decide, pD_kd _ _⟩, pD_ne (h i (List.mem_range.mp hi))⟩
theorem sto_no {s l n : Nat} {key : PySem.NestedKey} {g : Nat → D} (v : D) (hk : nkT (pD s (orb s l n)) = some key) (h : ∀ i, i < n → orb s l i ≠ orb s l n) : dsto ((List.range n).map fun i => (pD s (orb s l i), g i)) (pD s (orb s l n)) key v = ((List.range n).map fun i => (pD s (orb s l i), g i)) ++ [(pD s (orb s l n), v)] := by
  refine dsto_no (pD_kd _ _) (by decide) hk fun e he => ?_
  obtain ⟨i, hi, rfl⟩ := List.mem_map.mp he
  exact ⟨⟨1, by decide, pD_kd _ _⟩, pD_ne (h i (List.mem_range.mp hi))⟩
theorem look_at {s l k n j : Nat} {key : PySem.NestedKey} {g : Nat → D} (hk : nkT (pD s (orb s l k)) = some key) (hj : j < n) (e : orb s l j = orb s l k) (h : ∀ i, i < j → orb s l i ≠ orb s l k) : dlook ((List.range n).map fun i => (pD s (orb s l i), g i)) key = some (g j) := by
  refine dlook_at (pD_kd _ _) (by decide) hk (j := j) (fun e he => ?_) ?_ fun i e hi he => ?_
  · obtain ⟨i, hi, rfl⟩ := List.mem_map.mp he
    exact ⟨1, by decide, pD_kd _ _⟩
  · rw [List.getElem?_map, List.getElem?_range hj]
    show some (pD s (orb s l j), g j) = _
    rw [e]
  · rw [List.getElem?_map, List.getElem?_range (by omega)] at he
    cases he
    exact pD_ne (h i hi)
abbrev CP : Ex := (andE (ap2 nin4D (vE 2) (vE 4)) (ap2 gtG (ap2 ix4D (vE 2) (kE (.int 0))) (kE (.int 0))))
abbrev BP : Sx := (sq (putG 4 (vE 2) (kE (.bl true)))
  (sq (appS 3 (vE 2))
  (asS (tgN 2) (callE c_raw_doubled [(vE 2)]))))
theorem pm_cond {s l N k : Nat} (S : Stop s l N) (hk : k < N) (d0 d1 : Option D) (T : Tp) : CP [d0, d1, some (pD s (orb s l k)), some (.lst (ps s l k)), some (.dct true (esK s l k))] T = .ok (.bl true) T := by
  obtain ⟨n, k1, k2⟩ := key_of s (orb s l k)
  have nl := look_no (n := k) (g := fun _ => .bl true) k2 fun i hi => S.new i k hi hk
  have e : decide ((0 : Int) < (orb s l k : Nat)) = true := by rw [decide_eq_true_eq]; have := S.pos k hk; omega
  unfold CP
  simp only [andE_ev, ap2_ev, vE_s, vE_0, bind_ok, nin4D_dct k1, kE_ev, p0, ofO_some, gtG_int]
  rw [show dlook (esK s l k) n = none from nl]
  simp only [Option.isSome_none, Bool.not_false, andK_t, e]
theorem pm_end {s l N : Nat} (S : Stop s l N) (d0 d1 : Option D) (T : Tp) : CP [d0, d1, some (pD s (orb s l N)), some (.lst (ps s l N)), some (.dct true (esK s l N))] T = .ok (.bl false) T := by
  obtain ⟨n, k1, k2⟩ := key_of s (orb s l N)
  unfold CP
  simp only [andE_ev, ap2_ev, vE_s, vE_0, bind_ok, nin4D_dct k1, kE_ev, p0, ofO_some, gtG_int]
  by_cases q : ∃ j, j < N ∧ orb s l N = orb s l j
  · obtain ⟨j, hj, e⟩ := q
    have nl := look_at (n := N) (g := fun _ => .bl true) k2 hj e.symm fun i hi => by rw [e]; exact S.new i j hi hj
    rw [show dlook (esK s l N) n = some (.bl true) from nl]
    rfl
  · have z : orb s l N = 0 := S.fin.resolve_right q
    have nl := look_no (n := N) (g := fun _ => .bl true) k2 fun i hi e => q ⟨i, hi, e.symm⟩
    rw [show dlook (esK s l N) n = none from nl, z]
    rfl
theorem pm_body {s l N k : Nat} (h : 2 * l ≤ s) (hs : s ≤ 4000) (S : Stop s l N) (hk : k < N) (d0 d1 : Option D) (T : Tp) : BP [d0, d1, some (pD s (orb s l k)), some (.lst (ps s l k)), some (.dct true (esK s l k))] T = .nx [d0, d1, some (pD s (orb s l (k + 1))), some (.lst (ps s l (k + 1))), some (.dct true (esK s l (k + 1)))] T := by
  obtain ⟨n, k1, k2⟩ := key_of s (orb s l k)
  have hN := stop_le h S
  have lk : (esK s l k).length = k := by unfold esK; simp
  have hst := sto_no (n := k) (g := fun _ => .bl true) (.bl true) k2 fun i hi => S.new i k hi hk
  have hst : stoD (.dct true (esK s l k)) (pD s (orb s l k)) (.bl true) = some (.dct true (esK s l (k + 1))) := by
    rw [stoD_dct k1 (by omega), esK_succ]
    congr 2
  unfold BP
  rw [sq_ev, putG_of (d := .bl true) (k := pD s (orb s l k)) (d0 := .dct true (esK s l k)) rfl rfl rfl hst]
  simp only [List.set, sqK_nx]
  rw [sq_ev, appS_of (ds := ps s l k) rfl]
  simp only [vE_s, vE_0, exS_ok]
  rw [if_pos (sizeLine_big (by rw [ps_len]; omega))]
  simp only [List.set, sqK_nx, asS_N, callE_ev, esE_cons, esE_nil, vE_s, vE_0, bind_ok, raw_ok (orb_le h k), exS_ok, ps_succ]
  rfl
theorem pm_loop {s l N : Nat} (h : 2 * l ≤ s) (hs : s ≤ 4000) (S : Stop s l N) (d0 d1 : Option D) (T : Tp) : ∀ (r k n : Nat), k + r = N → r < n → whl n CP BP [d0, d1, some (pD s (orb s l k)), some (.lst (ps s l k)), some (.dct true (esK s l k))] T = .nx [d0, d1, some (pD s (orb s l N)), some (.lst (ps s l N)), some (.dct true (esK s l N))] T
  | 0, k, n + 1, hk, hn => by
    obtain rfl : k = N := by omega
    exact whl_f (pm_end S d0 d1 T)
  | r + 1, k, n + 1, hk, hn => by
    rw [whl_t (pm_cond S (by omega) d0 d1 T) (pm_body h hs S (by omega) d0 d1 T)]
    exact pm_loop h hs S d0 d1 T r (k + 1) n (by omega) (by omega)
theorem met_ok {a b N : Nat} (hs : a + b ≤ 4000) (S : Stop (a + b) (min a b) N) (T : Tp) : c_pairs_met [.int (a : Nat), .int (b : Nat)] T = .ok (.tup [.lst (ps (a + b) (min a b) N), pD (a + b) (orb (a + b) (min a b) N)]) T := by
  have h : 2 * min a b ≤ a + b := by omega
  have hN := stop_le h S
  refine fnD_rt rfl ?_
  show b_pairs_met [some (.int (a : Nat)), some (.int (b : Nat)), none, none, none] T = _
  unfold b_pairs_met
  rw [sq_ev]
  simp only [par3S_ev, callE_ev, esE_cons, esE_nil, vE_s, vE_0, bind_ok, rising_ok, exS_ok, lstE_ev, kE_ev, List.set, sqK_nx]
  have hl : whl 1000000 CP BP [some (.int (a : Nat)), some (.int (b : Nat)), some (pD (a + b) (min a b)), some (.lst []), some (.dct true [])] T = _ := pm_loop h hs S (some (.int (a : Nat))) (some (.int (b : Nat))) T N 0 1000000 (by omega) (by omega)
  unfold CP BP at hl
  rw [sq_ev, hl]
  rfl
end W

namespace W
open Ev PySem
theorem ix_last {ds : List D} {d : D} {n : Nat} (hl : ds.length = n + 1) (h : ds[n]? = some d) : ix4D (.lst ds) (.int (-1)) = some d := by
  show L2.atI ds (-1) = _
  unfold L2.atI L2.ixN
  rw [if_neg (by decide), if_pos (by omega)]
  have e : ((-1 : Int) + (ds.length : Nat)).toNat = n := by omega
  show ds[((-1 : Int) + (ds.length : Nat)).toNat]? = _
  rw [e]; exact h
def esL (s l n : Nat) : List (D × D) := (List.range n).map fun k => (pD s (orb s l k), .int (k : Nat))
theorem esL_succ (s l n : Nat) : esL s l (n + 1) = esL s l n ++ [(pD s (orb s l n), .int (n : Nat))] := by
  unfold esL
  rw [List.range_succ, List.map_append]; rfl
theorem esL_len (s l n : Nat) : (esL s l n).length = n := by unfold esL; simp
theorem ps_last (s l k : Nat) : ix4D (.lst (ps s l (k + 1))) (.int (-1)) = some (pD s (orb s l k)) := by
  refine ix_last (n := k) (ps_len s l (k + 1)) ?_
  unfold ps
  rw [List.getElem?_map, List.getElem?_range (by omega)]
  rfl
abbrev CG : Ex := (ap2 gtG (ap2 ix4D (ap2 ix4D (vE 2) (ap1 negD (kE (.int 1)))) (kE (.int 0))) (kE (.int 0)))
abbrev BG : Sx := (sq (putG 3 (ap2 ix4D (vE 2) (ap1 negD (kE (.int 1)))) (apN len4D [(vE 3)]))
  (sq (asS (tgN 4) (callE c__law_next [(ap2 ix4D (vE 2) (ap1 negD (kE (.int 1))))]))
  (sq (ifS (ap2 in4D (vE 4) (vE 3))
  (rtS (tupE [(vE 2), (ap2 ix4D (vE 3) (vE 4))]))
  sk)
  (appS 2 (vE 4)))))
theorem cg_ev (s l k : Nat) (d0 d1 d3 e4 : Option D) (T : Tp) : CG [d0, d1, some (.lst (ps s l (k + 1))), d3, e4] T = .ok (.bl (decide ((0 : Int) < (orb s l k : Nat)))) T := by
  unfold CG
  simp only [ap2_ev, ap1_ev, vE_s, vE_0, kE_ev, bind_ok, negD_int, ofO_some, ps_last, p0, gtG_int]
/-- the body up to the question whether it was met -/
theorem bg_head {s l N k : Nat} (h : 2 * l ≤ s) (hs : s ≤ 4000) (S : Stop s l N) (hk : k < N) (d0 d1 e4 : Option D) (T : Tp) {n : PySem.NestedKey} (k1 : keyD true (pD s (orb s l (k + 1))) = some n) :
    BG [d0, d1, some (.lst (ps s l (k + 1))), some (.dct true (esL s l k)), e4] T = sqK ((ifS (ap2 in4D (vE 4) (vE 3)) (rtS (tupE [(vE 2), (ap2 ix4D (vE 3) (vE 4))])) sk) [d0, d1, some (.lst (ps s l (k + 1))), some (.dct true (esL s l (k + 1))), some (pD s (orb s l (k + 1)))] T) (appS 2 (vE 4)) := by
  obtain ⟨n0, j1, j2⟩ := key_of s (orb s l k)
  have hN := stop_le h S
  have hst := sto_no (n := k) (g := fun i => .int (i : Nat)) (.int (k : Nat)) j2 fun i hi => S.new i k hi hk
  have hst : stoD (.dct true (esL s l k)) (pD s (orb s l k)) (.int (k : Nat)) = some (.dct true (esL s l (k + 1))) := by
    rw [stoD_dct j1 (by rw [esL_len]; omega), esL_succ]
    congr 2
  have hlen : (apN len4D [(vE 3)]) [d0, d1, some (.lst (ps s l (k + 1))), some (.dct true (esL s l k)), e4] T = .ok (.int (k : Nat)) T := by
    simp only [apN_ev, esE_cons, esE_nil, vE_s, vE_0, bind_ok, len4D_dct, esL_len, ofO_some]
  have hlast : (ap2 ix4D (vE 2) (ap1 negD (kE (.int 1)))) [d0, d1, some (.lst (ps s l (k + 1))), some (.dct true (esL s l k)), e4] T = .ok (pD s (orb s l k)) T := by
    simp only [ap2_ev, ap1_ev, vE_s, vE_0, kE_ev, bind_ok, negD_int, ofO_some, ps_last]
  unfold BG
  rw [sq_ev, putG_of (d := .int (k : Nat)) (k := pD s (orb s l k)) (d0 := .dct true (esL s l k)) hlen rfl hlast hst]
  simp only [List.set, sqK_nx]
  rw [sq_ev]
  simp only [asS_N, callE_ev, esE_cons, esE_nil, ap2_ev, ap1_ev, vE_s, vE_0, kE_ev, bind_ok, negD_int, ofO_some, ps_last, next_ok (orb_le h k), exS_ok, List.set, sqK_nx]
  rw [sq_ev]
  rfl
theorem bg_step {s l N k : Nat} (h : 2 * l ≤ s) (hs : s ≤ 4000) (S : Stop s l N) (hk : k < N) (hn : ∀ i, i < k + 1 → orb s l i ≠ orb s l (k + 1)) (d0 d1 e4 : Option D) (T : Tp) :
    BG [d0, d1, some (.lst (ps s l (k + 1))), some (.dct true (esL s l k)), e4] T = .nx [d0, d1, some (.lst (ps s l (k + 1 + 1))), some (.dct true (esL s l (k + 1))), some (pD s (orb s l (k + 1)))] T := by
  obtain ⟨n, k1, k2⟩ := key_of s (orb s l (k + 1))
  have hN := stop_le h S
  have nl := look_no (n := k + 1) (k := k + 1) (g := fun i => .int (i : Nat)) k2 hn
  have nl : dlook (esL s l (k + 1)) n = none := nl
  rw [bg_head h hs S hk d0 d1 e4 T k1]
  simp only [ifS_ev, ap2_ev, vE_s, vE_0, bind_ok, in4D_dct k1, nl, Option.isSome_none, ofO_some, exS_ok, ifK_f, sk_ev, sqK_nx]
  rw [appS_of (ds := ps s l (k + 1)) rfl]
  simp only [vE_s, vE_0, exS_ok]
  rw [if_pos (sizeLine_big (by rw [ps_len]; omega)), ps_succ s l (k + 1)]
  rfl
theorem bg_met {s l N k j : Nat} (h : 2 * l ≤ s) (hs : s ≤ 4000) (S : Stop s l N) (hk : k + 1 = N) (hj : j < N) (ej : orb s l N = orb s l j) (d0 d1 e4 : Option D) (T : Tp) :
    BG [d0, d1, some (.lst (ps s l (k + 1))), some (.dct true (esL s l k)), e4] T = .rt (.tup [.lst (ps s l N), .int (j : Nat)]) T := by
  subst hk
  obtain ⟨n, k1, k2⟩ := key_of s (orb s l (k + 1))
  have nl := look_at (n := k + 1) (k := k + 1) (g := fun i => .int (i : Nat)) k2 hj ej.symm fun i hi => by rw [ej]; exact S.new i j hi hj
  have nl : dlook (esL s l (k + 1)) n = some (.int (j : Nat)) := nl
  rw [bg_head h hs S (by omega) d0 d1 e4 T k1]
  simp only [ifS_ev, ap2_ev, vE_s, vE_0, bind_ok, in4D_dct k1, nl, Option.isSome_some, ofO_some, exS_ok, ifK_t, rtS_ev, tupE_ev, esE_cons, esE_nil, ix4D_dct k1, sqK_rt]
theorem gl_z {s l N : Nat} (h : 2 * l ≤ s) (hs : s ≤ 4000) (S : Stop s l N) (z : orb s l N = 0) (d0 d1 : Option D) (T : Tp) : ∀ (r k n : Nat) (e4 : Option D), k + r = N → r < n → ∃ e4', whl n CG BG [d0, d1, some (.lst (ps s l (k + 1))), some (.dct true (esL s l k)), e4] T = .nx [d0, d1, some (.lst (ps s l (N + 1))), some (.dct true (esL s l N)), e4'] T
  | 0, k, n + 1, e4, hk, hn => by
    obtain rfl : k = N := by omega
    exact ⟨e4, whl_f (by rw [cg_ev, z]; rfl)⟩
  | r + 1, k, n + 1, e4, hk, hn => by
    have hp := S.pos k (by omega)
    obtain ⟨e4', ih⟩ := gl_z h hs S z d0 d1 T r (k + 1) n (some (pD s (orb s l (k + 1)))) (by omega) (by omega)
    refine ⟨e4', ?_⟩
    rw [whl_t (by rw [cg_ev, decide_eq_true (by omega)]) (bg_step h hs S (by omega) (fun i hi => ?_) d0 d1 e4 T), ih]
    by_cases q : k + 1 < N
    · exact S.new i (k + 1) hi q
    · have : k + 1 = N := by omega
      rw [this, z]
      exact Nat.ne_of_gt (S.pos i (by omega))
theorem gl_c {s l N j : Nat} (h : 2 * l ≤ s) (hs : s ≤ 4000) (S : Stop s l N) (hj : j < N) (ej : orb s l N = orb s l j) (d0 d1 : Option D) (T : Tp) : ∀ (r k n : Nat) (e4 : Option D), k + 1 + r = N → r < n → whl n CG BG [d0, d1, some (.lst (ps s l (k + 1))), some (.dct true (esL s l k)), e4] T = .rt (.tup [.lst (ps s l N), .int (j : Nat)]) T
  | 0, k, n + 1, e4, hk, hn => by
    have hp := S.pos k (by omega)
    exact whl_r (by rw [cg_ev, decide_eq_true (by omega)]) (bg_met h hs S (by omega) hj ej d0 d1 e4 T)
  | r + 1, k, n + 1, e4, hk, hn => by
    have hp := S.pos k (by omega)
    rw [whl_t (by rw [cg_ev, decide_eq_true (by omega)]) (bg_step h hs S (by omega) (fun i hi => S.new i (k + 1) hi (by omega)) d0 d1 e4 T)]
    exact gl_c h hs S hj ej d0 d1 T r (k + 1) n _ (by omega) (by omega)
theorem first_ok (a b : Nat) (env : Ve) (T : Tp) : (lstE [(tupE [(apN min2D [(vE 0), (vE 1)]), (apN max2D [(vE 0), (vE 1)])])]) (some (.int (a : Nat)) :: some (.int (b : Nat)) :: env) T = .ok (.lst (ps (a + b) (min a b) 1)) T := by
  have ea : (if (b : Int) < (a : Nat) then ((b : Nat) : Int) else ((a : Nat) : Int)) = ((min a b : Nat) : Int) := by split <;> omega
  have eb : (if (b : Int) > (a : Nat) then ((b : Nat) : Int) else ((a : Nat) : Int)) = ((a + b - min a b : Nat) : Int) := by split <;> omega
  simp only [lstE_ev, esE_cons, esE_nil, tupE_ev, apN_ev, vE_0, vE_s, bind_ok, min2D_ev, max2D_ev, ofO_some, ea, eb]
  rfl
theorem gone_z {a b N : Nat} (hs : a + b ≤ 4000) (S : Stop (a + b) (min a b) N) (z : orb (a + b) (min a b) N = 0) (T : Tp) : c__law_gone [.int (a : Nat), .int (b : Nat)] T = .ok (.tup [.lst (ps (a + b) (min a b) (N + 1)), .non]) T := by
  have h : 2 * min a b ≤ a + b := by omega
  have hN := stop_le h S
  refine fnD_rt rfl ?_
  show b__law_gone [some (.int (a : Nat)), some (.int (b : Nat)), none, none, none] T = _
  obtain ⟨e4, hl⟩ := gl_z h hs S z (some (.int (a : Nat))) (some (.int (b : Nat))) T N 0 1000000 none (by omega) (by omega)
  have hl : whl 1000000 CG BG [some (.int (a : Nat)), some (.int (b : Nat)), some (.lst (ps (a + b) (min a b) 1)), some (.dct true []), none] T = _ := hl
  unfold CG BG at hl
  unfold b__law_gone
  rw [sq_ev, par2S_ev, first_ok]
  simp only [exS_ok, kE_ev, List.set, sqK_nx]
  rw [sq_ev, hl]
  rfl
theorem gone_c {a b N j : Nat} (hs : a + b ≤ 4000) (S : Stop (a + b) (min a b) N) (hj : j < N) (ej : orb (a + b) (min a b) N = orb (a + b) (min a b) j) (T : Tp) : c__law_gone [.int (a : Nat), .int (b : Nat)] T = .ok (.tup [.lst (ps (a + b) (min a b) N), .int (j : Nat)]) T := by
  have h : 2 * min a b ≤ a + b := by omega
  have hN := stop_le h S
  refine fnD_rt rfl ?_
  show b__law_gone [some (.int (a : Nat)), some (.int (b : Nat)), none, none, none] T = _
  have hl := gl_c h hs S hj ej (some (.int (a : Nat))) (some (.int (b : Nat))) T (N - 1) 0 1000000 none (by omega) (by omega)
  have hl : whl 1000000 CG BG [some (.int (a : Nat)), some (.int (b : Nat)), some (.lst (ps (a + b) (min a b) 1)), some (.dct true []), none] T = _ := hl
  unfold CG BG at hl
  unfold b__law_gone
  rw [sq_ev, par2S_ev, first_ok]
  simp only [exS_ok, kE_ev, List.set, sqK_nx]
  rw [sq_ev, hl]
  rfl
end W

namespace W
open Ev PySem
/-! the common part -/
theorem mulN {a : Nat} {b : Int} (h : a ≤ 1000000) : mulD (.int (a : Nat)) (.int b) = some (.int ((a : Nat) * b)) := mulD_int (.inl (smI_of (by omega) (by omega)))
theorem fdivN {a b : Nat} (h0 : 0 < b) (h1 : b ≤ 1000000) : fdivD (.int (a : Nat)) (.int (b : Nat)) = some (.int ((a / b : Nat) : Int)) := by
  rw [fdivD_int (by omega) (by omega)]
  rfl
theorem modN {a b : Nat} (h0 : 0 < b) : modD (.int (a : Nat)) (.int (b : Nat)) = some (.int ((a % b : Nat) : Int)) := by
  rw [modD_int (by omega)]
  rfl
theorem rest_eq (a b : Nat) : ((a : Nat) : Int) - (b : Nat) * ((a / b : Nat) : Int) = ((a % b : Nat) : Int) := by
  have h := Nat.div_add_mod a b
  have h2 : ((b * (a / b) + a % b : Nat) : Int) = (a : Nat) := by rw [h]
  rw [Int.natCast_add, Int.natCast_mul] at h2
  omega
theorem cp_loop (T : Tp) : ∀ (m n a b : Nat), b ≤ m → m < n → b ≤ 1000000 → whl n (ap2 neS (vE 1) (kE (.int 0))) (par2S 0 1 (vE 1) (ap2 subD (vE 0) (ap2 mulD (vE 1) (ap2 fdivD (vE 0) (vE 1))))) [some (.int (a : Nat)), some (.int (b : Nat))] T = .nx [some (.int ((Nat.gcd a b : Nat) : Int)), some (.int 0)] T
  | m, n + 1, a, 0, h1, h2, h3 => by
    rw [whl_f (by simp only [ap2_ev, vE_s, vE_0, kE_ev, bind_ok, neS_int, ofO_some]; rfl), Nat.gcd_zero_right]
    rfl
  | 0, n + 1, a, b + 1, h1, h2, h3 => by omega
  | m + 1, n + 1, a, b + 1, h1, h2, h3 => by
    have hd : decide (((b + 1 : Nat) : Int) = 0) = false := decide_eq_false (by omega)
    have hm := Nat.mod_lt a (show 0 < b + 1 by omega)
    have hb : (par2S 0 1 (vE 1) (ap2 subD (vE 0) (ap2 mulD (vE 1) (ap2 fdivD (vE 0) (vE 1))))) [some (.int (a : Nat)), some (.int ((b + 1 : Nat) : Int))] T = .nx [some (.int ((b + 1 : Nat) : Int)), some (.int ((a % (b + 1) : Nat) : Int))] T := by
      simp only [par2S_ev, ap2_ev, vE_s, vE_0, bind_ok, exS_ok, fdivN (show 0 < b + 1 by omega) h3, ofO_some, mulN (show b + 1 ≤ 1000000 by omega), subD_int, rest_eq, List.set]
    rw [whl_t (by simp only [ap2_ev, vE_s, vE_0, kE_ev, bind_ok, neS_int, ofO_some, hd, Bool.not_false]) hb, cp_loop T m n (b + 1) (a % (b + 1)) (by omega) (by omega) (by omega)]
    rw [Nat.gcd_comm (b + 1), ← Nat.gcd_rec (b + 1) a, Nat.gcd_comm]
theorem cp_ok {a b : Nat} (hb : b ≤ 100000) (T : Tp) : c_common_part [.int (a : Nat), .int (b : Nat)] T = .ok (.int ((Nat.gcd a b : Nat) : Int)) T := by
  refine fnD_rt rfl ?_
  show b_common_part [some (.int (a : Nat)), some (.int (b : Nat))] T = _
  unfold b_common_part
  rw [sq_ev, cp_loop T b 1000000 a b (Nat.le_refl _) (by omega) (by omega)]
  have e : absD [.int ((Nat.gcd a b : Nat) : Int)] = some (.int ((Nat.gcd a b : Nat) : Int)) := by
    show some (D.int (if ((Nat.gcd a b : Nat) : Int) < 0 then _ else _)) = _
    rw [if_neg (by omega)]
  simp only [sqK_nx, rtS_ev, apN_ev, esE_cons, esE_nil, vE_0, bind_ok, e, ofO_some, exS_ok]
theorem int1_i (i : Int) : int1D [.int i] = some (.int i) := rfl
theorem cl_loop (T : Tp) : ∀ (m n a b : Nat), b ≤ m → m < n → b ≤ 1000000 → whl n (ap2 gtG (vE 1) (kE (.int 0))) (par2S 0 1 (vE 1) (ap2 modD (apN int1D [(vE 0)]) (vE 1))) [some (.int (a : Nat)), some (.int (b : Nat))] T = .nx [some (.int ((Nat.gcd a b : Nat) : Int)), some (.int 0)] T
  | m, n + 1, a, 0, h1, h2, h3 => by
    rw [whl_f (by simp only [ap2_ev, vE_s, vE_0, kE_ev, bind_ok, gtG_int, ofO_some]; rfl), Nat.gcd_zero_right]
    rfl
  | 0, n + 1, a, b + 1, h1, h2, h3 => by omega
  | m + 1, n + 1, a, b + 1, h1, h2, h3 => by
    have hd : decide ((0 : Int) < ((b + 1 : Nat) : Int)) = true := decide_eq_true (by omega)
    have hm := Nat.mod_lt a (show 0 < b + 1 by omega)
    have hb : (par2S 0 1 (vE 1) (ap2 modD (apN int1D [(vE 0)]) (vE 1))) [some (.int (a : Nat)), some (.int ((b + 1 : Nat) : Int))] T = .nx [some (.int ((b + 1 : Nat) : Int)), some (.int ((a % (b + 1) : Nat) : Int))] T := by
      simp only [par2S_ev, ap2_ev, apN_ev, esE_cons, esE_nil, vE_s, vE_0, bind_ok, exS_ok, int1_i, modN (show 0 < b + 1 by omega), ofO_some, List.set]
    rw [whl_t (by simp only [ap2_ev, vE_s, vE_0, kE_ev, bind_ok, gtG_int, ofO_some, hd]) hb, cl_loop T m n (b + 1) (a % (b + 1)) (by omega) (by omega) (by omega)]
    rw [Nat.gcd_comm (b + 1), ← Nat.gcd_rec (b + 1) a, Nat.gcd_comm]
theorem cl_ok {a b : Nat} (hb : b ≤ 100000) (T : Tp) : c__law_common [.int (a : Nat), .int (b : Nat)] T = .ok (.int ((Nat.gcd a b : Nat) : Int)) T := by
  refine fnD_rt rfl ?_
  show b__law_common [some (.int (a : Nat)), some (.int (b : Nat))] T = _
  unfold b__law_common
  rw [sq_ev, cl_loop T b 1000000 a b (Nat.le_refl _) (by omega) (by omega)]
  rfl
/-! the odd part of a number -/
abbrev CO : Ex := (ap2 eqS (vE 2) (ap2 mulD (kE (.int 2)) (ap2 fdivD (vE 2) (kE (.int 2)))))
abbrev BO : Sx := (asS (tgN 2) (ap2 fdivD (vE 2) (kE (.int 2))))
abbrev CL : Ex := (ap2 eqS (ap2 modD (vE 3) (kE (.int 2))) (kE (.int 0)))
abbrev BL : Sx := (asS (tgN 3) (apN int1D [(ap2 fdivD (vE 3) (kE (.int 2)))]))
structure OddR (m r : Nat) : Prop where
  pos : 0 < r
  le : r ≤ m
  p : ∀ d0 d1 T, whl 1000000 CO BO [d0, d1, some (.int (m : Nat))] T = .nx [d0, d1, some (.int (r : Nat))] T
  l : ∀ d0 d1 d2 T, whl 1000000 CL BL [d0, d1, d2, some (.int (m : Nat))] T = .nx [d0, d1, d2, some (.int (r : Nat))] T
theorem f2 (m : Nat) : fdivD (.int (m : Nat)) (.int 2) = some (.int ((m / 2 : Nat) : Int)) := fdivN (b := 2) (by decide) (by decide)
theorem m2 (m : Nat) : modD (.int (m : Nat)) (.int 2) = some (.int ((m % 2 : Nat) : Int)) := modN (b := 2) (by decide)
theorem co_ev (m : Nat) (d0 d1 : Option D) (T : Tp) : CO [d0, d1, some (.int (m : Nat))] T = .ok (.bl (decide (m % 2 = 0))) T := by
  have e : decide (((m : Nat) : Int) = 2 * ((m / 2 : Nat) : Int)) = decide (m % 2 = 0) := by
    rw [decide_eq_decide]
    omega
  unfold CO
  simp only [ap2_ev, vE_s, vE_0, kE_ev, bind_ok, f2, ofO_some, mul2, eqS_int, e]
theorem cl_ev (m : Nat) (d0 d1 d2 : Option D) (T : Tp) : CL [d0, d1, d2, some (.int (m : Nat))] T = .ok (.bl (decide (m % 2 = 0))) T := by
  have e : decide (((m % 2 : Nat) : Int) = 0) = decide (m % 2 = 0) := by
    rw [decide_eq_decide]
    omega
  unfold CL
  simp only [ap2_ev, vE_s, vE_0, kE_ev, bind_ok, m2, ofO_some, eqS_int, e]
theorem od_ex : ∀ (k m : Nat), 0 < m → m ≤ k → ∃ r : Nat, 0 < r ∧ r ≤ m ∧ (∀ n d0 d1 T, k < n → whl n CO BO [d0, d1, some (.int (m : Nat))] T = .nx [d0, d1, some (.int (r : Nat))] T) ∧ ∀ n d0 d1 d2 T, k < n → whl n CL BL [d0, d1, d2, some (.int (m : Nat))] T = .nx [d0, d1, d2, some (.int (r : Nat))] T
  | 0, m, h1, h2 => by omega
  | k + 1, m, h1, h2 => by
    by_cases q : m % 2 = 0
    · obtain ⟨r, r0, r1, r2, r3⟩ := od_ex k (m / 2) (by omega) (by omega)
      refine ⟨r, r0, by omega, fun n d0 d1 T hn => ?_, fun n d0 d1 d2 T hn => ?_⟩
      · obtain ⟨n, rfl⟩ : ∃ n', n = n' + 1 := ⟨n - 1, by omega⟩
        rw [whl_t (env2 := [d0, d1, some (.int ((m / 2 : Nat) : Int))]) (T2 := T) (by rw [co_ev, decide_eq_true q]) ?_, r2 n d0 d1 T (by omega)]
        unfold BO
        simp only [asS_N, ap2_ev, vE_s, vE_0, kE_ev, bind_ok, f2, ofO_some, exS_ok, List.set]
      · obtain ⟨n, rfl⟩ : ∃ n', n = n' + 1 := ⟨n - 1, by omega⟩
        rw [whl_t (env2 := [d0, d1, d2, some (.int ((m / 2 : Nat) : Int))]) (T2 := T) (by rw [cl_ev, decide_eq_true q]) ?_, r3 n d0 d1 d2 T (by omega)]
        unfold BL
        simp only [asS_N, apN_ev, esE_cons, esE_nil, ap2_ev, vE_s, vE_0, kE_ev, bind_ok, f2, ofO_some, int1_i, exS_ok, List.set]
    · refine ⟨m, h1, Nat.le_refl _, fun n d0 d1 T hn => ?_, fun n d0 d1 d2 T hn => ?_⟩
      · obtain ⟨n, rfl⟩ : ∃ n', n = n' + 1 := ⟨n - 1, by omega⟩
        exact whl_f (by rw [co_ev, decide_eq_false q])
      · obtain ⟨n, rfl⟩ : ∃ n', n = n' + 1 := ⟨n - 1, by omega⟩
        exact whl_f (by rw [cl_ev, decide_eq_false q])
theorem odd_ex {m : Nat} (h : 0 < m) (h2 : m ≤ 100000) : ∃ r, OddR m r := by
  obtain ⟨r, r0, r1, r2, r3⟩ := od_ex m m h (Nat.le_refl _)
  exact ⟨r, r0, r1, fun d0 d1 T => r2 _ d0 d1 T (by omega), fun d0 d1 d2 T => r3 _ d0 d1 d2 T (by omega)⟩
/-! what the program tells of two heaps -/
theorem check_ok {a b : Nat} (ha : a ≤ 1000) (hb : b ≤ 1000) (T : Tp) : c_check_heaps [.tup [.int (a : Nat), .int (b : Nat)], .int 1000] T = .ok .non T := by
  refine fnD_nx (env := [some (.tup [.int (a : Nat), .int (b : Nat)]), some (.int 1000), none]) rfl ?_
  show b_check_heaps [some (.tup [.int (a : Nat), .int (b : Nat)]), some (.int 1000), none] T = _
  have z := lc_ints (vs := [2]) (env := [some (.tup [.int (a : Nat), .int (b : Nat)]), some (.int 1000), none]) (f := tgN 2) (it := seq6It (vE 0)) (ce := callE c_is_within [(vE 2), (kE (.int 0)), (vE 1)]) (T := T) (l := [((a : Nat) : Int), ((b : Nat) : Int)]) (fun x => .bl (decide (0 ≤ x) && decide (x ≤ 1000))) rfl (by simp) fun x _ => ⟨[some (.tup [.int (a : Nat), .int (b : Nat)]), some (.int 1000), some (.int x)], rfl, by
    simp only [callE_ev, esE_cons, esE_nil, vE_s, vE_0, kE_ev, bind_ok, within_b]⟩
  have al := all_bl (fun x : Int => decide (0 ≤ x) && decide (x ≤ 1000)) [((a : Nat) : Int), ((b : Nat) : Int)]
  have e : ([((a : Nat) : Int), ((b : Nat) : Int)].all fun x => decide (0 ≤ x) && decide (x ≤ 1000)) = true := by
    simp only [List.all_cons, List.all_nil, Bool.and_true, Bool.and_eq_true, decide_eq_true_eq]
    omega
  rw [e] at al
  unfold b_check_heaps notE
  rw [ifS_ev]
  simp only [ap1_ev, apN_ev, esE_cons, esE_nil]
  rw [z]
  simp only [bind_ok, al, ofO_some, notD_ev, Bool.not_true, exS_ok, ifK_f, sk_ev]
theorem ix1t (x y : D) : ix4D (.tup [x, y]) (.int 1) = some y := rfl
theorem ix0t (x y : D) : ix4D (.tup [x, y]) (.int 0) = some x := rfl
section
variable {a b N : Nat}
theorem ttv (ha : a ≤ 1000) (hb : b ≤ 1000) (S : Stop (a + b) (min a b) N) (T : Tp) : c_turns_till_empty [.int (a : Nat), .int (b : Nat)] T = .ok (if orb (a + b) (min a b) N = 0 then .int (N : Nat) else .non) T := by
  refine fnD_rt rfl ?_
  show b_turns_till_empty [some (.int (a : Nat)), some (.int (b : Nat)), none, none] T = _
  have m := met_ok (show a + b ≤ 4000 by omega) S
  have e : decide (((orb (a + b) (min a b) N : Nat) : Int) = 0) = decide (orb (a + b) (min a b) N = 0) := by
    rw [decide_eq_decide]; omega
  unfold b_turns_till_empty
  rw [sq_ev]
  simp only [drS_ev, callE_ev, tupE_ev, esE_cons, esE_nil, vE_s, vE_0, kE_ev, bind_ok, check_ok ha hb, exS_ok, sqK_nx]
  rw [sq_ev, asS_ev]
  simp only [callE_ev, esE_cons, esE_nil, vE_s, vE_0, bind_ok, m, exS_ok, tgT_ev, tgsC_ev, tgN_ev, tgs0_ev, Option.bind_some, List.set, sqK_nx]
  simp only [rtS_ev, iteE_ev, ap2_ev, apN_ev, esE_cons, esE_nil, vE_s, vE_0, kE_ev, bind_ok, p0, ofO_some, eqS_int, e, len4D_lst, ps_len]
  by_cases q : orb (a + b) (min a b) N = 0
  · rw [decide_eq_true q, if_pos q]; rfl
  · rw [decide_eq_false q, if_neg q]; rfl
theorem opv_z (ha : a ≤ 1000) (hb : b ≤ 1000) (S : Stop (a + b) (min a b) N) (z : orb (a + b) (min a b) N = 0) (T : Tp) : c_odd_part [.int (a : Nat), .int (b : Nat)] T = .ok .non T := by
  refine fnD_rt rfl ?_
  show b_odd_part [some (.int (a : Nat)), some (.int (b : Nat)), none] T = _
  have m := met_ok (show a + b ≤ 4000 by omega) S
  have e : decide (((orb (a + b) (min a b) N : Nat) : Int) = 0) = true := by rw [z]; rfl
  unfold b_odd_part
  simp only [sq_ev, drS_ev, callE_ev, tupE_ev, esE_cons, esE_nil, vE_s, vE_0, kE_ev, bind_ok, check_ok ha hb, exS_ok, sqK_nx, ifS_ev, ap2_ev, m, ix1t, p0, ofO_some, eqS_int, e, ifK_t, rtS_ev, sqK_rt]
theorem opv_c (ha : a ≤ 1000) (hb : b ≤ 1000) (S : Stop (a + b) (min a b) N) (z : orb (a + b) (min a b) N ≠ 0) (h0 : 0 < b) {r : Nat} (R : OddR ((a + b) / Nat.gcd a b) r) (T : Tp) : c_odd_part [.int (a : Nat), .int (b : Nat)] T = .ok (.int (r : Nat)) T := by
  refine fnD_rt rfl ?_
  show b_odd_part [some (.int (a : Nat)), some (.int (b : Nat)), none] T = _
  have m := met_ok (show a + b ≤ 4000 by omega) S
  have e : decide (((orb (a + b) (min a b) N : Nat) : Int) = 0) = false := decide_eq_false (by omega)
  have g0 : 0 < Nat.gcd a b := Nat.gcd_pos_of_pos_right a h0
  have g1 : Nat.gcd a b ≤ b := Nat.gcd_le_right a h0
  have s1 : ((a : Nat) : Int) + (b : Nat) = ((a + b : Nat) : Int) := by omega
  have rp := R.p (some (.int (a : Nat))) (some (.int (b : Nat))) T
  unfold CO BO at rp
  unfold b_odd_part
  rw [sq_ev]
  simp only [drS_ev, callE_ev, tupE_ev, esE_cons, esE_nil, vE_s, vE_0, kE_ev, bind_ok, check_ok ha hb, exS_ok, sqK_nx]
  rw [sq_ev]
  simp only [callE_ev, esE_cons, esE_nil, vE_s, vE_0, kE_ev, bind_ok, ifS_ev, ap2_ev, m, ix1t, p0, ofO_some, eqS_int, e, exS_ok, ifK_f, sk_ev, sqK_nx]
  rw [sq_ev]
  simp only [asS_N, ap2_ev, callE_ev, esE_cons, esE_nil, vE_s, vE_0, bind_ok, addD_int, ofO_some, cp_ok (show b ≤ 100000 by omega), s1, fdivN g0 (show Nat.gcd a b ≤ 1000000 by omega), exS_ok, List.set, sqK_nx]
  rw [sq_ev, rp]
  rfl
theorem lov_c (hb : b ≤ 1000) (h0 : 0 < b) {r : Nat} (R : OddR ((a + b) / Nat.gcd a b) r) (T : Tp) : c__law_odd [.int (a : Nat), .int (b : Nat)] T = .ok (.int (r : Nat)) T := by
  refine fnD_rt rfl ?_
  show b__law_odd [some (.int (a : Nat)), some (.int (b : Nat)), none, none] T = _
  have g0 : 0 < Nat.gcd a b := Nat.gcd_pos_of_pos_right a h0
  have g1 : Nat.gcd a b ≤ b := Nat.gcd_le_right a h0
  have s1 : ((a : Nat) : Int) + (b : Nat) = ((a + b : Nat) : Int) := by omega
  have e : decide ((0 : Int) < ((Nat.gcd a b : Nat) : Int)) = true := decide_eq_true (by omega)
  have rl := R.l (some (.int (a : Nat))) (some (.int (b : Nat))) (some (.int ((Nat.gcd a b : Nat) : Int))) T
  unfold CL BL at rl
  unfold b__law_odd
  rw [sq_ev]
  simp only [asS_N, callE_ev, esE_cons, esE_nil, vE_s, vE_0, bind_ok, cl_ok (show b ≤ 100000 by omega), exS_ok, List.set, sqK_nx]
  rw [sq_ev]
  simp only [asS_N, iteE_ev, ap2_ev, apN_ev, esE_cons, esE_nil, vE_s, vE_0, kE_ev, bind_ok, gtG_int, e, ofO_some, iteK_t, addD_int, s1, fdivN g0 (show Nat.gcd a b ≤ 1000000 by omega), int1_i, exS_ok, List.set, sqK_nx]
  rw [sq_ev, rl]
  rfl
theorem hrv_z (ha : a ≤ 1000) (hb : b ≤ 1000) (S : Stop (a + b) (min a b) N) (z : orb (a + b) (min a b) N = 0) (T : Tp) : c_heap_round [.int (a : Nat), .int (b : Nat)] T = .ok .non T := by
  refine fnD_rt rfl ?_
  show b_heap_round [some (.int (a : Nat)), some (.int (b : Nat)), none, none] T = _
  have m := met_ok (show a + b ≤ 4000 by omega) S
  have e : decide (((orb (a + b) (min a b) N : Nat) : Int) = 0) = true := by rw [z]; rfl
  unfold b_heap_round
  rw [sq_ev]
  simp only [drS_ev, callE_ev, tupE_ev, esE_cons, esE_nil, vE_s, vE_0, kE_ev, bind_ok, check_ok ha hb, exS_ok, sqK_nx]
  rw [sq_ev, asS_ev]
  simp only [callE_ev, esE_cons, esE_nil, vE_s, vE_0, bind_ok, m, exS_ok, tgT_ev, tgsC_ev, tgN_ev, tgs0_ev, Option.bind_some, List.set, sqK_nx]
  simp only [rtS_ev, iteE_ev, ap2_ev, vE_s, vE_0, kE_ev, bind_ok, p0, ofO_some, eqS_int, e, iteK_t, exS_ok]
theorem slf (ds : List D) {k : Nat} (h : k ≤ ds.length) : slD (.lst ds) (some ((k : Nat) : Int)) none = some (.lst (ds.drop k)) := by
  show some (D.lst (cutD ds (some (k : Nat)) none)) = _
  congr 2
  unfold cutD
  rw [HT.sIx_nat, HT.sIx_none, Nat.min_eq_left h, List.take_of_length_le (by rw [List.length_drop]; omega)]
theorem slE_ev (f : D → Option Int → Option Int → Option D) (c : Ex) (lo hi : Option Ex) (env : Ve) (T : Tp) : slE f c lo hi env T = (c env T).bind fun d T => (poE lo env T).bind fun l T => (poE hi env T).bind fun h T => ofO (f d l h) T := rfl
theorem poE_none (env : Ve) (T : Tp) : poE none env T = .ok none T := rfl
theorem poE_int {c : Ex} {env : Ve} {T : Tp} {i : Int} (h : c env T = .ok (.int i) T) : poE (some c) env T = .ok (some i) T := by
  have e : poE (some c) env T = (c env T).bind fun d T => match d with
    | .int i => .ok (some i) T
    | _ => .no := rfl
  rw [e, h]; rfl
theorem ps_get {s l n i : Nat} (h : i < n) : (ps s l n)[i]? = some (pD s (orb s l i)) := by
  unfold ps
  rw [List.getElem?_map, List.getElem?_range h]; rfl
theorem ps_pln (s l n : Nat) : ∀ e ∈ ps s l n, Pln 1 e := fun e he => by
  obtain ⟨i, _, rfl⟩ := List.mem_map.mp he
  exact pD_pln _ _
theorem idx_ps {s l : Nat} (S : Stop s l N) {j : Nat} (hj : j < N) (ej : orb s l N = orb s l j) : idxL (.lst (ps s l N)) [pD s (orb s l N)] = some (.int (j : Nat)) := by
  refine idxL_of (pD_pln _ _) (ps_pln s l N) (by decide) (by decide) (by rw [ps_get hj, ej]) fun i hi e => ?_
  rw [ps_get (by omega)] at e
  have := Option.some.inj e
  exact pD_ne (by rw [ej]; exact S.new i j hi hj) this
theorem hrv_c (ha : a ≤ 1000) (hb : b ≤ 1000) (S : Stop (a + b) (min a b) N) {j : Nat} (hj : j < N) (ej : orb (a + b) (min a b) N = orb (a + b) (min a b) j) (T : Tp) : c_heap_round [.int (a : Nat), .int (b : Nat)] T = .ok (.tup ((ps (a + b) (min a b) N).drop j)) T := by
  refine fnD_rt rfl ?_
  show b_heap_round [some (.int (a : Nat)), some (.int (b : Nat)), none, none] T = _
  have m := met_ok (show a + b ≤ 4000 by omega) S
  have hp := S.pos j hj
  have e : decide (((orb (a + b) (min a b) N : Nat) : Int) = 0) = false := decide_eq_false (by omega)
  have c1 : ∀ T, poE (some (mtG isLst idxL (vE 2) [(vE 3)])) [some (.int (a : Nat)), some (.int (b : Nat)), some (.lst (ps (a + b) (min a b) N)), some (pD (a + b) (orb (a + b) (min a b) N))] T = .ok (some ((j : Nat) : Int)) T := fun T => poE_int (by
    unfold mtG
    simp only [vE_s, vE_0, bind_ok, esE_cons, esE_nil, idx_ps S hj ej, ofO_some]
    rfl)
  unfold b_heap_round
  rw [sq_ev]
  simp only [drS_ev, callE_ev, tupE_ev, esE_cons, esE_nil, vE_s, vE_0, kE_ev, bind_ok, check_ok ha hb, exS_ok, sqK_nx]
  rw [sq_ev, asS_ev]
  simp only [callE_ev, esE_cons, esE_nil, vE_s, vE_0, bind_ok, m, exS_ok, tgT_ev, tgsC_ev, tgN_ev, tgs0_ev, Option.bind_some, List.set, sqK_nx]
  simp only [rtS_ev, iteE_ev, ap2_ev, vE_s, vE_0, kE_ev, bind_ok, p0, ofO_some, eqS_int, e, iteK_f, apN_ev, esE_cons, esE_nil, slE_ev, c1, poE_none, slf _ (show j ≤ (ps (a + b) (min a b) N).length by rw [ps_len]; omega), tupOfD_lst, exS_ok]
theorem dbl_ok (ha : a ≤ 1000) (hb : b ≤ 1000) (h0 : 0 < a) (h1 : 0 < b) (T : Tp) : c_doubled [.int (a : Nat), .int (b : Nat)] T = .ok (pD (a + b) (fl (a + b) (min a b))) T := by
  refine fnD_rt rfl ?_
  show b_doubled [some (.int (a : Nat)), some (.int (b : Nat))] T = _
  have e1 : decide (((a : Nat) : Int) = 0) = false := decide_eq_false (by omega)
  have e2 : decide (((b : Nat) : Int) = 0) = false := decide_eq_false (by omega)
  unfold b_doubled
  simp only [sq_ev, drS_ev, callE_ev, tupE_ev, esE_cons, esE_nil, vE_s, vE_0, kE_ev, bind_ok, check_ok ha hb, exS_ok, sqK_nx, ifS_ev, orE_ev, ap2_ev, eqS_int, e1, e2, ofO_some, orK_f, ifK_f, sk_ev, rtS_ev, rising_ok, raw_ok (show 2 * min a b ≤ a + b by omega)]
end
end W

namespace W
open Ev PySem
/-! what is shown -/
def leafOk (e : PyData) : Bool := e.showable && e.canLay0 && decide (e.depth = 0) && decide (e.weight ≤ 12) && e.intsShort 13
theorem leafN : ∀ i : Nat, i < 2048 → leafOk (.int (i : Int)) = true := by decide +kernel
theorem leaves : ∀ {es : List PyData}, (∀ e ∈ es, leafOk e = true) → PyData.showableAll es = true ∧ PyData.canLayAll0 es = true ∧ PyData.depthAll es = 0 ∧ PyData.weightAll es ≤ 13 * es.length ∧ PyData.intsShortAll 13 es = true
  | [], _ => ⟨by simp [PyData.showableAll], by simp [PyData.canLayAll0], by simp [PyData.depthAll], by simp [PyData.weightAll], by simp [PyData.intsShortAll]⟩
  | e :: es, h => by
    obtain ⟨a1, a2, a3, a4, a5⟩ := leaves (es := es) fun e he => h e (List.mem_cons_of_mem _ he)
    have z := h e List.mem_cons_self
    unfold leafOk at z
    simp only [Bool.and_eq_true, decide_eq_true_eq] at z
    obtain ⟨⟨⟨⟨b1, b2⟩, b3⟩, b4⟩, b5⟩ := z
    refine ⟨?_, ?_, ?_, ?_, ?_⟩
    · unfold PyData.showableAll; rw [b1, a1]; rfl
    · unfold PyData.canLayAll0; rw [b2, a2]; rfl
    · unfold PyData.depthAll; rw [b3, a3]; rfl
    · unfold PyData.weightAll; rw [List.length_cons]; omega
    · unfold PyData.intsShortAll; rw [b5, a5]; rfl
/-- small leaves -/
def Lf (d : D) : Prop := d = .non ∨ ∃ i : Nat, i < 2048 ∧ d = .int (i : Int)
theorem Lf.to {d : D} (h : Lf d) : ∃ p, toP d = some p ∧ leafOk p = true := by
  rcases h with rfl | ⟨i, hi, rfl⟩
  · exact ⟨.none, by unfold toP; rfl, by decide +kernel⟩
  · exact ⟨.int (i : Int), by unfold toP; rfl, leafN i hi⟩
theorem toPs_lf : ∀ {ds : List D}, (∀ d ∈ ds, Lf d) → ∃ ps, toPs ds = some ps ∧ (∀ p ∈ ps, leafOk p = true) ∧ ps.length = ds.length
  | [], _ => ⟨[], by unfold toPs; rfl, (fun p hp => by cases hp), rfl⟩
  | d :: ds, h => by
    obtain ⟨p, e1, e2⟩ := (h d List.mem_cons_self).to
    obtain ⟨ps, f1, f2, f3⟩ := toPs_lf (ds := ds) fun d hd => h d (List.mem_cons_of_mem _ hd)
    refine ⟨p :: ps, by unfold toPs; rw [e1, f1], fun q hq => ?_, by simp [f3]⟩
    rcases List.mem_cons.mp hq with rfl | hq
    · exact e2
    · exact f2 q hq
theorem rep_lf {ds : List D} (h : ∀ d ∈ ds, Lf d) (hl : ds.length ≤ 1000) : (∃ s, repr7D [.tup ds] = some (.str s)) ∧ ∃ s, repr7D [.lst ds] = some (.str s) := by
  obtain ⟨ps, e1, e2, e3⟩ := toPs_lf h
  obtain ⟨a1, a2, a3, a4, a5⟩ := leaves e2
  have key : ∀ p : PyData, (p = .tuple ps ∨ p = .list ps) → okRepr p = true := fun p hp => by
    have s1 : p.showable = true := by rcases hp with rfl | rfl <;> simp only [PyData.showable, a1]
    have s2 : p.depth ≤ 60 := by rcases hp with rfl | rfl <;> (simp only [PyData.depth, a3]; omega)
    have s3 : p.shown.length ≤ sizeLine := by
      refine Nat.le_trans (PyProof.Rows.shown_le13 (d := p) ?_ ?_) (by rw [sizeLine_eq]; omega)
      · unfold PyData.layable0
        rw [Bool.and_eq_true, Bool.and_eq_true, decide_eq_true_eq, decide_eq_true_eq]
        refine ⟨⟨by rcases hp with rfl | rfl <;> simp only [PyData.canLay0, a2], by omega⟩, ?_⟩
        have : (2 : Nat) ^ 20 = 1048576 := by decide
        rcases hp with rfl | rfl <;> (simp only [PyData.weight]; omega)
      · rcases hp with rfl | rfl <;> simp only [PyData.intsShort, a5]
    unfold okRepr
    rw [s1, decide_eq_true s2, decide_eq_true s3]; rfl
  have t1 : toP (.tup ds) = some (.tuple ps) := by unfold toP; rw [e1]; rfl
  have t2 : toP (.lst ds) = some (.list ps) := by unfold toP; rw [e1]; rfl
  have k1 := key _ (.inl rfl)
  have k2 := key _ (.inr rfl)
  constructor
  · refine ⟨(PyData.tuple ps).shown, ?_⟩
    show reprD [.tup ds] = _
    unfold reprD
    simp only [t1, k1, if_true]
  · refine ⟨(PyData.list ps).shown, ?_⟩
    show reprD [.lst ds] = _
    unfold reprD
    simp only [t2, k2, if_true]
theorem is_same {d : D} (h : ∃ s, repr7D [d] = some (.str s)) (T : Tp) : c__law_is [d, d] T = .ok (.bl true) T := by
  obtain ⟨s, hs⟩ := h
  refine fnD_rt rfl ?_
  show b__law_is [some d, some d] T = _
  unfold b__law_is
  simp only [rtS_ev, ap2_ev, apN_ev, esE_cons, esE_nil, vE_s, vE_0, bind_ok, hs, ofO_some, eqS_str, decide_true, exS_ok]
theorem rep_p {s l : Nat} (h : 2 * l ≤ s) (hs : s < 2048) : ∃ x, repr7D [pD s l] = some (.str x) :=
  (rep_lf (ds := [.int (l : Nat), .int ((s - l : Nat) : Int)]) (fun d hd => by
    rcases List.mem_cons.mp hd with rfl | hd
    · exact .inr ⟨l, by omega, rfl⟩
    · rcases List.mem_cons.mp hd with rfl | hd
      · exact .inr ⟨s - l, by omega, rfl⟩
      · cases hd) (by simp)).1
theorem rep_2 {x y : D} (hx : Lf x) (hy : Lf y) : ∃ s, repr7D [.lst [x, y]] = some (.str s) :=
  (rep_lf (ds := [x, y]) (fun d hd => by
    rcases List.mem_cons.mp hd with rfl | hd
    · exact hx
    · rcases List.mem_cons.mp hd with rfl | hd
      · exact hy
      · cases hd) (by simp)).2
/-! sorted -/
theorem okC_pD (s a b : Nat) : okC (pD s a) (pD s b) = true := by rfl
theorem okSrt_pD {s : Nat} {L : List D} (h : ∀ d ∈ L, ∃ a, d = pD s a) : okSrt L = true := by
  have h1 : okA L = true := by
    unfold okA
    rw [List.all_eq_true]
    intro d hd
    rw [List.all_eq_true]
    intro e he
    obtain ⟨a, rfl⟩ := h d hd
    obtain ⟨b, rfl⟩ := h e he
    exact okC_pD s a b
  have h2 : L.all isT1 = true := by
    rw [List.all_eq_true]
    intro d hd
    obtain ⟨a, rfl⟩ := h d hd
    rfl
  unfold okSrt
  rw [h1, h2]; rfl
theorem mem_insG {x d : D} : ∀ {l : List D}, d ∈ insG x l → d = x ∨ d ∈ l
  | [], h => by
    rcases List.mem_cons.mp h with h | h
    · exact .inl h
    · cases h
  | y :: r, h => by
    unfold insG at h
    split at h
    · rcases List.mem_cons.mp h with h | h
      · exact .inl h
      · exact .inr h
    · rcases List.mem_cons.mp h with h | h
      · exact .inr (by rw [h]; exact List.mem_cons_self)
      · exact (mem_insG h).imp id fun z => List.mem_cons_of_mem _ z
theorem mem_sortG {d : D} : ∀ {l : List D}, d ∈ sortG l → d ∈ l
  | [], h => h
  | x :: r, h => by
    rcases mem_insG h with h | h
    · rw [h]; exact List.mem_cons_self
    · exact List.mem_cons_of_mem _ (mem_sortG h)
theorem srt_tup {s a : Nat} {L : List D} (h : ∀ d ∈ L, ∃ a, d = pD s a) : sorted7D [.tup (pD s a :: L)] = some (.lst (sortG (pD s a :: L))) := by
  have ok := okSrt_pD (s := s) (L := pD s a :: L) fun d hd => by
    rcases List.mem_cons.mp hd with rfl | hd
    · exact ⟨a, rfl⟩
    · exact h d hd
  show (match intsOf (pD s a :: L) with
    | some ns => some (D.lst ((sortI ns).map .int))
    | none => if okSrt (pD s a :: L) then some (.lst (sortG (pD s a :: L))) else none) = _
  rw [show intsOf (pD s a :: L) = none from rfl]
  show (if okSrt (pD s a :: L) then some (D.lst (sortG (pD s a :: L))) else none) = _
  rw [if_pos ok]
theorem srt_lst {s a : Nat} {L : List D} (h : ∀ d ∈ L, ∃ a, d = pD s a) : sorted7D [.lst (pD s a :: L)] = some (.lst (sortG (pD s a :: L))) := by
  have ok := okSrt_pD (s := s) (L := pD s a :: L) fun d hd => by
    rcases List.mem_cons.mp hd with rfl | hd
    · exact ⟨a, rfl⟩
    · exact h d hd
  show sorted4D [.lst (pD s a :: L)] = _
  unfold sorted4D
  rw [show seqI [.lst (pD s a :: L)] = none from rfl]
  show (if okSrt (pD s a :: L) then some (D.lst (sortG (pD s a :: L))) else none) = _
  rw [if_pos ok]
theorem srt_ne {s : Nat} {L : List D} (h : ∀ d ∈ L, ∃ a, d = pD s a) : neS (.lst (sortG L)) (.lst (sortG L)) = some (.bl false) :=
  (eqS_t (k := 2) (m := 2) (.lst fun d hd => by
    obtain ⟨a, rfl⟩ := h d (mem_sortG hd)
    exact pD_pln _ _) (.lst fun d hd => by
    obtain ⟨a, rfl⟩ := h d (mem_sortG hd)
    exact pD_pln _ _) (by decide) (by decide) rfl).2
/-! the round -/
theorem dr_get {s l N j i : Nat} (h : j + i < N) : ((ps s l N).drop j)[i]? = some (pD s (orb s l (j + i))) := by
  rw [List.getElem?_drop, ps_get h]
theorem ix_lastT {ds : List D} {d : D} {n : Nat} (hl : ds.length = n + 1) (h : ds[n]? = some d) : ix4D (.tup ds) (.int (-1)) = some d := by
  show L2.atI ds (-1) = _
  unfold L2.atI L2.ixN
  rw [if_neg (by decide), if_pos (by omega)]
  have e : ((-1 : Int) + (ds.length : Nat)).toNat = n := by omega
  show ds[((-1 : Int) + (ds.length : Nat)).toNat]? = _
  rw [e]; exact h
theorem eq_p (s l : Nat) : eqS (pD s l) (pD s l) = some (.bl true) := (eqS_t (pD_pln s l) (pD_pln s l) (by decide) (by decide) rfl).1
theorem round_ok {s l N j : Nat} (h : 2 * l ≤ s) (hs : s ≤ 4000) (S : Stop s l N) (hj : j < N) (ej : orb s l N = orb s l j) (T : Tp) : c__law_is_round [.tup ((ps s l N).drop j)] T = .ok (.bl true) T := by
  have hN := stop_le h S
  have ln : ((ps s l N).drop j).length = N - j := by rw [List.length_drop, ps_len]
  refine fnD_rt rfl ?_
  show b__law_is_round [some (.tup ((ps s l N).drop j)), none] T = _
  have z := lcE_map (vs := [1]) (env := [some (.tup ((ps s l N).drop j)), none]) (f := tgN 1) (it := apI rng1D [(apN len4D [(vE 0)])]) (ce := ap2 eqS (callE c__law_next [(ap2 ix4D (vE 0) (ap2 subD (vE 1) (kE (.int 1))))]) (ap2 ix4D (vE 0) (vE 1))) (T := T) (ds := rngL 0 (N - j)) (fun _ => .bl true)
    (by
      simp only [apI_ev, esE_cons, esE_nil, apN_ev, vE_0, bind_ok, len4D_tup, ln, ofO_some]
      rw [rng1D_ev (by omega) (by omega), Int.toNat_natCast]
      rfl) (by rw [rngL_len]; omega) fun d hd => by
      obtain ⟨i, hi, rfl⟩ := rngL_mem hd
      rw [Int.zero_add]
      refine ⟨[some (.tup ((ps s l N).drop j)), some (.int (i : Nat))], rfl, ?_⟩
      have here : ix4D (.tup ((ps s l N).drop j)) (.int (i : Nat)) = some (pD s (orb s l (j + i))) := ix4D_tup (by omega) (by rw [Int.toNat_natCast]; exact dr_get (by omega))
      have before : ∃ k, ix4D (.tup ((ps s l N).drop j)) (.int ((i : Nat) - 1)) = some (pD s (orb s l k)) ∧ fl s (orb s l k) = orb s l (j + i) := by
        cases i with
        | zero =>
          refine ⟨N - 1, ?_, ?_⟩
          · exact ix_lastT (n := N - j - 1) (by rw [ln]; omega) (by rw [dr_get (by omega), show j + (N - j - 1) = N - 1 by omega])
          · have : fl s (orb s l (N - 1)) = orb s l (N - 1 + 1) := rfl
            rw [this, show N - 1 + 1 = N by omega, ej]; rfl
        | succ i =>
          refine ⟨j + i, ?_, rfl⟩
          rw [show ((i + 1 : Nat) : Int) - 1 = (i : Nat) by omega]
          exact ix4D_tup (by omega) (by rw [Int.toNat_natCast]; exact dr_get (by omega))
      obtain ⟨k, b1, b2⟩ := before
      simp only [ap2_ev, callE_ev, esE_cons, esE_nil, vE_s, vE_0, kE_ev, bind_ok, subD_int, ofO_some, b1, next_ok (orb_le h k), b2, here, eq_p]
  unfold b__law_is_round
  simp only [rtS_ev, apN_ev, esE_cons, esE_nil]
  rw [show (apN len4D [vE 0]) = (apN len4D [vE 0]) from rfl]
  rw [z]
  simp only [bind_ok]
  rw [all_true (xs := (rngL 0 (N - j)).map fun _ => D.bl true) fun x hx => by
    obtain ⟨_, _, rfl⟩ := List.mem_map.mp hx
    rfl]
  rfl
end W

namespace W
open Ev PySem
/-- what is said of two heaps -/
structure Sd (a b : Nat) (x y : D) : Prop where
  tt : ∀ T, c_turns_till_empty [.int (a : Nat), .int (b : Nat)] T = .ok x T
  op : ∀ T, c_odd_part [.int (a : Nat), .int (b : Nat)] T = .ok y T
theorem sd_z {a b N : Nat} (ha : a ≤ 1000) (hb : b ≤ 1000) (S : Stop (a + b) (min a b) N) (z : orb (a + b) (min a b) N = 0) : Sd a b (.int (N : Nat)) .non :=
  ⟨fun T => by rw [ttv ha hb S, if_pos z], fun T => opv_z ha hb S z T⟩
theorem sd_c {a b N r : Nat} (ha : a ≤ 1000) (hb : b ≤ 1000) (S : Stop (a + b) (min a b) N) (z : orb (a + b) (min a b) N ≠ 0) (h0 : 0 < b) (R : OddR ((a + b) / Nat.gcd a b) r) : Sd a b .non (.int (r : Nat)) :=
  ⟨fun T => by rw [ttv ha hb S, if_neg z], fun T => opv_c ha hb S z h0 R T⟩
abbrev TAIL : Sx := (sq (ifS (orE (ap2 neS (callE c_turns_till_empty [(vE 2), (vE 1)]) (ap2 ix4D (vE 6) (kE (.int 0)))) (ap2 neS (callE c_odd_part [(vE 2), (vE 1)]) (ap2 ix4D (vE 6) (kE (.int 1)))))
  (rtS (kE (.bl false)))
  sk)
  (sq (asS (tgN 8) (ap2 addD (kE (.int 1)) (callE c__law_draw [(vE 0), (kE (.int 3))])))
  (sq (ifS (ap2 gtG (ap2 mulD (apN max2D [(vE 1), (vE 2)]) (vE 8)) (kE (.int 1000)))
  (rtS (kE (.bl true)))
  sk)
  (sq (par2S 1 2 (ap2 mulD (vE 1) (vE 8)) (ap2 mulD (vE 2) (vE 8)))
  (rtS (callE c__law_is [(lstE [(callE c_turns_till_empty [(vE 1), (vE 2)]), (callE c_odd_part [(vE 1), (vE 2)])]), (vE 6)]))))))
theorem ix0l (x y : D) : ix4D (.lst [x, y]) (.int 0) = some x := rfl
theorem ix1l (x y : D) : ix4D (.lst [x, y]) (.int 1) = some y := rfl
theorem tail_ok {a b : Nat} {x y : D} (ha : a ≤ 1000) (hb : b ≤ 1000) (s2 : Sd b a x y) (s3 : ∀ t, 0 < t → a * t ≤ 1000 → b * t ≤ 1000 → Sd (a * t) (b * t) x y) (nx : neS x x = some (.bl false)) (ny : neS y y = some (.bl false)) (rp : ∃ s, repr7D [.lst [x, y]] = some (.str s))
    {ts : List D} (hp : TapeP ts) (d3 d4 d5 d7 : Option D) : ∃ ts', TAIL [some .tape, some (.int (a : Nat)), some (.int (b : Nat)), d3, d4, d5, some (.lst [x, y]), d7, none] (some ts) = .rt (.bl true) (some ts') ∧ TapeP ts' := by
  obtain ⟨d, ts1, e1, p1, q1, q2⟩ := draw_ok hp (lim := 3) (by decide) (by decide)
  obtain ⟨m, rfl⟩ := Int.eq_ofNat_of_zero_le q1
  have hm : (1 : Int) + (m : Nat) = ((m + 1 : Nat) : Int) := by omega
  have mx : max2D [.int (a : Nat), .int (b : Nat)] = some (.int ((max a b : Nat) : Int)) := by
    rw [max2D_ev]
    congr 2
    split <;> omega
  have mm : ∀ c : Nat, c ≤ 1000 → mulD (.int (c : Nat)) (.int ((m + 1 : Nat) : Int)) = some (.int ((c * (m + 1) : Nat) : Int)) := fun c hc => by
    rw [mulN (by omega), ← Int.natCast_mul]
  refine ⟨ts1, ?_, p1⟩
  unfold TAIL
  rw [sq_ev]
  simp only [ifS_ev, orE_ev, ap2_ev, callE_ev, esE_cons, esE_nil, vE_s, vE_0, kE_ev, bind_ok, s2.tt, s2.op, ix0l, ix1l, nx, ny, ofO_some, orK_f, exS_ok, ifK_f, sk_ev, sqK_nx]
  rw [sq_ev]
  simp only [asS_N, ap2_ev, callE_ev, esE_cons, esE_nil, vE_s, vE_0, kE_ev, bind_ok, e1, addD_int, hm, ofO_some, exS_ok, List.set, sqK_nx]
  rw [sq_ev]
  simp only [ifS_ev, ap2_ev, apN_ev, esE_cons, esE_nil, vE_s, vE_0, kE_ev, bind_ok, mx, mm _ (show max a b ≤ 1000 by omega), ofO_some, gtG_int, exS_ok]
  by_cases q : 1000 < max a b * (m + 1)
  · rw [decide_eq_true (show (1000 : Int) < ((max a b * (m + 1) : Nat) : Int) by omega)]
    rfl
  · rw [decide_eq_false (show ¬ (1000 : Int) < ((max a b * (m + 1) : Nat) : Int) by omega)]
    have h1 : a * (m + 1) ≤ max a b * (m + 1) := Nat.mul_le_mul_right _ (Nat.le_max_left a b)
    have h2 : b * (m + 1) ≤ max a b * (m + 1) := Nat.mul_le_mul_right _ (Nat.le_max_right a b)
    have s := s3 (m + 1) (by omega) (by omega) (by omega)
    simp only [ifK_f, sk_ev, sqK_nx]
    rw [sq_ev]
    simp only [par2S_ev, ap2_ev, vE_s, vE_0, bind_ok, mm a ha, mm b hb, ofO_some, exS_ok, List.set, sqK_nx]
    simp only [rtS_ev, callE_ev, lstE_ev, esE_cons, esE_nil, vE_s, vE_0, bind_ok, s.tt, s.op, is_same rp, exS_ok]
theorem ne_non : neS .non .non = some (.bl false) := by rfl
theorem ne_i (i : Int) : neS (.int i) (.int i) = some (.bl false) := by
  rw [neS_int]; simp
theorem case_ok {a b : Nat} (ha : a ≤ 1000) (hb : b ≤ 1000) {ts : List D} (hp : TapeP ts) : ∃ ts', c__law_case_right [.tape, .int (a : Nat), .int (b : Nat)] (some ts) = .ok (.bl true) (some ts') ∧ TapeP ts' := by
  have h : 2 * min a b ≤ a + b := by omega
  obtain ⟨N, S⟩ := stop_ex h
  have hN := stop_le h S
  have S2 : Stop (b + a) (min b a) N := by rw [Nat.add_comm b a, Nat.min_comm b a]; exact S
  have S3 : ∀ t, 0 < t → Stop (a * t + b * t) (min (a * t) (b * t)) N := fun t ht => by
    rw [← Nat.add_mul, Nat.mul_min_mul_right]
    exact stop_mul ht S
  -- the question of the doubled heaps
  have dq : ∀ (L : List D) (d4 d5 d6 d7 d8 : Option D) (T : Tp), ix4D (.lst L) (.int 0) = some (pD (a + b) (min a b)) → (andE (ap2 gtG (apN min2D [(vE 1), (vE 2)]) (kE (.int 0))) (notE (callE c__law_is [(callE c_doubled [(vE 1), (vE 2)]), (callE c__law_next [(ap2 ix4D (vE 3) (kE (.int 0)))])]))) [some .tape, some (.int (a : Nat)), some (.int (b : Nat)), some (.lst L), d4, d5, d6, d7, d8] T = .ok (.bl false) T := fun L d4 d5 d6 d7 d8 T hL => by
    have mn : min2D [.int (a : Nat), .int (b : Nat)] = some (.int ((min a b : Nat) : Int)) := by
      rw [min2D_ev]
      congr 2
      split <;> omega
    have fle : 2 * fl (a + b) (min a b) ≤ a + b := orb_le h 1
    unfold notE
    simp only [andE_ev, ap2_ev, apN_ev, esE_cons, esE_nil, vE_s, vE_0, kE_ev, bind_ok, mn, gtG_int, ofO_some]
    by_cases q : 0 < min a b
    · rw [decide_eq_true (by omega)]
      simp only [andK_t, ap1_ev, callE_ev, esE_cons, esE_nil, ap2_ev, vE_s, vE_0, kE_ev, bind_ok, dbl_ok ha hb (by omega) (by omega), hL, ofO_some, next_ok h, is_same (rep_p fle (by omega)), notD_ev, Bool.not_true]
    · rw [decide_eq_false (by omega)]
      rfl
  by_cases z : orb (a + b) (min a b) N = 0
  · -- it comes to be empty
    have s1 := sd_z ha hb S z
    have s2 : Sd b a (.int (N : Nat)) .non := sd_z hb ha S2 (by rw [Nat.add_comm b a, Nat.min_comm b a]; exact z)
    have s3 : ∀ t, 0 < t → a * t ≤ 1000 → b * t ≤ 1000 → Sd (a * t) (b * t) (.int (N : Nat)) .non := fun t ht h1 h2 => sd_z h1 h2 (S3 t ht) (by rw [← Nat.add_mul, Nat.mul_min_mul_right, orb_mul, z, Nat.zero_mul])
    have rp : ∃ s, repr7D [.lst [.int (N : Nat), .non]] = some (.str s) := rep_2 (.inr ⟨N, by omega, rfl⟩) (.inl rfl)
    obtain ⟨ts', e, p⟩ := tail_ok ha hb s2 s3 (ne_i _) ne_non rp hp (some (.lst (ps (a + b) (min a b) (N + 1)))) (some .non) (some (.lst [.int (N : Nat), .non, .non])) (some .non)
    refine ⟨ts', fnD_rt rfl ?_, p⟩
    show b__law_case_right [some .tape, some (.int (a : Nat)), some (.int (b : Nat)), none, none, none, none, none, none] (some ts) = _
    have n1 : ((N + 1 : Nat) : Int) - 1 = (N : Nat) := by omega
    have sl : slD (.lst [.int (N : Nat), .non, .non]) none (some 2) = some (.lst [.int (N : Nat), .non]) := by rfl
    have po : ∀ env T, poE (some (kE (.int 2))) env T = .ok (some (2 : Int)) T := fun _ _ => rfl
    have i1 : isD (.int (N : Nat)) .non = some (.bl false) := by rfl
    have i2 : isD .non .non = some (.bl true) := by rfl
    have i3 : isnD .non .non = some (.bl false) := by rfl
    have i4 : eqS (.bl false) (.bl true) = some (.bl false) := by rfl
    have dq := dq (ps (a + b) (min a b) (N + 1)) (some .non) (some (.lst [.int (N : Nat), .non, .non])) (some (.lst [.int (N : Nat), .non])) (some .non) none (some ts) (ix4D_lst (by decide) (ps_get (by omega)))
    unfold notE at dq
    unfold TAIL at e
    unfold b__law_case_right notE
    rw [sq_ev, asS_ev]
    simp only [callE_ev, esE_cons, esE_nil, vE_s, vE_0, bind_ok, gone_z (show a + b ≤ 4000 by omega) S z, exS_ok, tgT_ev, tgsC_ev, tgN_ev, tgs0_ev, Option.bind_some, List.set, sqK_nx]
    rw [sq_ev]
    simp only [asS_N, iteE_ev, ap2_ev, vE_s, vE_0, kE_ev, bind_ok, i2, ofO_some, iteK_t, lstE_ev, esE_cons, esE_nil, apN_ev, len4D_lst, ps_len, subD_int, n1, exS_ok, List.set, sqK_nx]
    rw [sq_ev]
    simp only [asS_N, lstE_ev, callE_ev, esE_cons, esE_nil, vE_s, vE_0, bind_ok, s1.tt, s1.op, exS_ok, List.set, sqK_nx]
    rw [sq_ev]
    simp only [ifS_ev, orE_ev, ap1_ev, callE_ev, esE_cons, esE_nil, vE_s, vE_0, bind_ok, slE_ev, poE_none, po, sl, ofO_some, is_same rp, notD_ev, Bool.not_true, orK_f, ap2_ev, kE_ev, ix0l, ix1l, i1, i2, i4, exS_ok, ifK_f, sk_ev, sqK_nx]
    rw [sq_ev]
    simp only [asS_N, callE_ev, esE_cons, esE_nil, vE_s, vE_0, bind_ok, hrv_z ha hb S z, exS_ok, List.set, sqK_nx]
    rw [sq_ev]
    simp only [ifS_ev, ap2_ev, vE_s, vE_0, kE_ev, bind_ok, i2, i3, ofO_some, exS_ok, ifK_t, ifK_f, sk_ev, sqK_nx]
    rw [sq_ev, ifS_ev, dq]
    simp only [exS_ok, ifK_f, sk_ev, sqK_nx]
    exact e
  · obtain ⟨j, hj, ej⟩ := S.fin.resolve_left z
    have hp0 : 0 < min a b := S.pos 0 (by omega)
    have g0 : 0 < Nat.gcd a b := Nat.gcd_pos_of_pos_right a (by omega)
    have gd : Nat.gcd a b ≤ a + b := Nat.le_trans (Nat.gcd_le_right a (by omega)) (by omega)
    obtain ⟨r, R⟩ := odd_ex (m := (a + b) / Nat.gcd a b) (Nat.div_pos gd g0) (Nat.le_trans (Nat.div_le_self _ _) (by omega))
    have hr : r < 2048 := Nat.lt_of_le_of_lt R.le (Nat.lt_of_le_of_lt (Nat.div_le_self _ _) (by omega))
    have s1 := sd_c ha hb S z (by omega) R
    have s2 : Sd b a .non (.int (r : Nat)) := sd_c hb ha S2 (by rw [Nat.add_comm b a, Nat.min_comm b a]; exact z) (by omega) (by rw [Nat.add_comm b a, Nat.gcd_comm b a]; exact R)
    have s3 : ∀ t, 0 < t → a * t ≤ 1000 → b * t ≤ 1000 → Sd (a * t) (b * t) .non (.int (r : Nat)) := fun t ht h1 h2 => by
      refine sd_c h1 h2 (S3 t ht) ?_ (Nat.mul_pos (by omega) ht) ?_
      · rw [← Nat.add_mul, Nat.mul_min_mul_right, orb_mul]
        exact Nat.ne_of_gt (Nat.mul_pos (by omega) ht)
      · rw [← Nat.add_mul, Nat.gcd_mul_right, Nat.mul_div_mul_right _ _ ht]
        exact R
    have rp : ∃ s, repr7D [.lst [.non, .int (r : Nat)]] = some (.str s) := rep_2 (.inl rfl) (.inr ⟨r, hr, rfl⟩)
    obtain ⟨ts', e, p⟩ := tail_ok ha hb s2 s3 ne_non (ne_i _) rp hp (some (.lst (ps (a + b) (min a b) N))) (some (.int (j : Nat))) (some (.lst [.non, .int (r : Nat), .non])) (some (.tup ((ps (a + b) (min a b) N).drop j)))
    refine ⟨ts', fnD_rt rfl ?_, p⟩
    show b__law_case_right [some .tape, some (.int (a : Nat)), some (.int (b : Nat)), none, none, none, none, none, none] (some ts) = _
    have sl : slD (.lst [.non, .int (r : Nat), .non]) none (some 2) = some (.lst [.non, .int (r : Nat)]) := by rfl
    have po : ∀ env T, poE (some (kE (.int 2))) env T = .ok (some (2 : Int)) T := fun _ _ => rfl
    have pj : ∀ env T, poE (some (vE 4)) (some .tape :: some (.int (a : Nat)) :: some (.int (b : Nat)) :: some (.lst (ps (a + b) (min a b) N)) :: some (.int (j : Nat)) :: env) T = .ok (some ((j : Nat) : Int)) T := fun _ _ => rfl
    have i1 : isD (.int (j : Nat)) .non = some (.bl false) := by rfl
    have i2 : isD .non .non = some (.bl true) := by rfl
    have i5 : isD (.int (r : Nat)) .non = some (.bl false) := by rfl
    have i4 : eqS (.bl true) (.bl false) = some (.bl false) := by rfl
    have dq := dq (ps (a + b) (min a b) N) (some (.int (j : Nat))) (some (.lst [.non, .int (r : Nat), .non])) (some (.lst [.non, .int (r : Nat)])) (some (.tup ((ps (a + b) (min a b) N).drop j))) none (some ts) (ix4D_lst (by decide) (ps_get (by omega)))
    obtain ⟨L, hL, hL2⟩ : ∃ L, (ps (a + b) (min a b) N).drop j = pD (a + b) (orb (a + b) (min a b) j) :: L ∧ ∀ d ∈ L, ∃ c, d = pD (a + b) c := by
      have l0 : (ps (a + b) (min a b) N).drop j = pD (a + b) (orb (a + b) (min a b) j) :: (ps (a + b) (min a b) N).drop (j + 1) := by
        rw [List.drop_eq_getElem_cons (by rw [ps_len]; exact hj)]
        congr 1
        have := ps_get (s := a + b) (l := min a b) hj
        rw [List.getElem?_eq_getElem (by rw [ps_len]; exact hj)] at this
        exact Option.some.inj this
      refine ⟨_, l0, fun d hd => ?_⟩
      obtain ⟨i, _, rfl⟩ := List.mem_map.mp (List.mem_of_mem_drop hd)
      exact ⟨_, rfl⟩
    have st := srt_tup (a := orb (a + b) (min a b) j) hL2
    have sn := srt_lst (a := orb (a + b) (min a b) j) hL2
    rw [← hL] at st sn
    have se := srt_ne (s := a + b) (L := (ps (a + b) (min a b) N).drop j) fun d hd => by
      rw [hL] at hd
      rcases List.mem_cons.mp hd with rfl | hd
      · exact ⟨_, rfl⟩
      · exact hL2 d hd
    unfold notE at dq
    unfold TAIL at e
    unfold b__law_case_right notE
    rw [sq_ev, asS_ev]
    simp only [callE_ev, esE_cons, esE_nil, vE_s, vE_0, bind_ok, gone_c (show a + b ≤ 4000 by omega) S hj ej, exS_ok, tgT_ev, tgsC_ev, tgN_ev, tgs0_ev, Option.bind_some, List.set, sqK_nx]
    rw [sq_ev]
    simp only [asS_N, iteE_ev, ap2_ev, vE_s, vE_0, kE_ev, bind_ok, i1, ofO_some, iteK_f, lstE_ev, callE_ev, esE_cons, esE_nil, lov_c hb (show 0 < b by omega) R, exS_ok, List.set, sqK_nx]
    rw [sq_ev]
    simp only [asS_N, lstE_ev, callE_ev, esE_cons, esE_nil, vE_s, vE_0, bind_ok, s1.tt, s1.op, exS_ok, List.set, sqK_nx]
    rw [sq_ev]
    simp only [ifS_ev, orE_ev, ap1_ev, callE_ev, esE_cons, esE_nil, vE_s, vE_0, bind_ok, slE_ev, poE_none, po, sl, ofO_some, is_same rp, notD_ev, Bool.not_true, orK_f, ap2_ev, kE_ev, ix0l, ix1l, i2, i5, i4, exS_ok, ifK_f, sk_ev, sqK_nx]
    rw [sq_ev]
    simp only [asS_N, callE_ev, esE_cons, esE_nil, vE_s, vE_0, bind_ok, hrv_c ha hb S hj ej, exS_ok, List.set, sqK_nx]
    rw [sq_ev]
    simp only [ifS_ev, ap2_ev, vE_s, vE_0, kE_ev, bind_ok, i1, ofO_some, exS_ok, ifK_f, orE_ev, apN_ev, esE_cons, esE_nil, st, slE_ev, poE_none, pj, slf _ (show j ≤ (ps (a + b) (min a b) N).length by rw [ps_len]; omega), sn, se, orK_f, ap1_ev, callE_ev, round_ok h (show a + b ≤ 4000 by omega) S hj ej, notD_ev, Bool.not_true, sk_ev, sqK_nx]
    rw [sq_ev, ifS_ev, dq]
    simp only [exS_ok, ifK_f, sk_ev, sqK_nx]
    exact e
end W

namespace W
open Ev PySem
/-! whose heaps come to be empty -/
noncomputable def Nf (w l : Nat) : Nat := if h : 2 * l ≤ w then Classical.choose (stop_ex h) else 0
theorem Nf_stop {w l : Nat} (h : 2 * l ≤ w) : Stop w l (Nf w l) := by
  unfold Nf
  rw [dif_pos h]
  exact Classical.choose_spec (stop_ex h)
noncomputable def zb (w l : Nat) : Bool := decide (orb w l (Nf w l) = 0)
def nint (l : List Nat) : List Int := l.map fun (n : Nat) => (n : Int)
theorem met_w {w l : Nat} (h : 2 * l ≤ w) (hw : w ≤ 4000) (T : Tp) : c_pairs_met [.int (l : Nat), .int ((w - l : Nat) : Int)] T = .ok (.tup [.lst (ps w l (Nf w l)), pD w (orb w l (Nf w l))]) T := by
  have S := Nf_stop h
  have e1 : l + (w - l) = w := by omega
  have e2 : min l (w - l) = l := by omega
  have z := met_ok (a := l) (b := w - l) (N := Nf w l) (by omega) (by rw [e1, e2]; exact S) T
  rw [e1, e2] at z
  exact z
theorem gone_w {w l : Nat} (h : 2 * l ≤ w) (hw : w ≤ 4000) (T : Tp) : ∃ x y, c__law_gone [.int (l : Nat), .int ((w - l : Nat) : Int)] T = .ok (.tup [x, y]) T ∧ isD y .non = some (.bl (zb w l)) := by
  have S := Nf_stop h
  have e1 : l + (w - l) = w := by omega
  have e2 : min l (w - l) = l := by omega
  by_cases q : orb w l (Nf w l) = 0
  · refine ⟨_, _, gone_z (a := l) (b := w - l) (N := Nf w l) (by omega) (by rw [e1, e2]; exact S) (by rw [e1, e2]; exact q) T, ?_⟩
    unfold zb
    rw [decide_eq_true q]; rfl
  · obtain ⟨j, hj, ej⟩ := S.fin.resolve_left q
    refine ⟨_, _, gone_c (a := l) (b := w - l) (N := Nf w l) (by omega) (by rw [e1, e2]; exact S) hj (by rw [e1, e2]; exact ej) T, ?_⟩
    unfold zb
    rw [decide_eq_false q]; rfl
theorem rngL_cons (lo : Int) (k : Nat) : rngL lo (k + 1) = .int lo :: rngL (lo + 1) k := by
  unfold rngL
  rw [List.range_succ_eq_map, List.map_cons, List.map_map]
  congr 1
  · show D.int (lo + 0) = _
    rw [Int.add_zero]
  · refine List.map_congr_left fun i _ => ?_
    show D.int (lo + ((i + 1 : Nat) : Int)) = D.int (lo + 1 + (i : Nat))
    congr 1; omega
abbrev BPA : Sx := (ifS (ap2 eqS (ap2 ix4D (ap2 ix4D (callE c_pairs_met [(vE 2), (ap2 subD (vE 0) (vE 2))]) (kE (.int 1))) (kE (.int 0))) (kE (.int 0)))
  (appS 1 (vE 2))
  sk)
theorem pa_turn {w l : Nat} (h : 2 * l ≤ w) (hw : w ≤ 4000) (acc : List Int) (ha : acc.length ≤ 10000) (T : Tp) : BPA [some (.int (w : Nat)), some (.lst (acc.map .int)), some (.int (l : Nat))] T = .nx [some (.int (w : Nat)), some (.lst ((acc ++ (if zb w l then [((l : Nat) : Int)] else [])).map .int)), some (.int (l : Nat))] T := by
  have e1 : ((w : Nat) : Int) - (l : Nat) = ((w - l : Nat) : Int) := by omega
  have e : decide (((orb w l (Nf w l) : Nat) : Int) = 0) = zb w l := by
    unfold zb
    rw [decide_eq_decide]; omega
  unfold BPA
  simp only [ifS_ev, ap2_ev, callE_ev, esE_cons, esE_nil, vE_s, vE_0, kE_ev, bind_ok, subD_int, e1, ofO_some, met_w h hw, ix1t, p0, eqS_int, e, exS_ok]
  cases zb w l with
  | false =>
    simp only [ifK_f, sk_ev]
    rw [if_neg (by decide), List.append_nil]
  | true =>
    simp only [ifK_t]
    rw [appS_of (ds := acc.map .int) rfl]
    simp only [vE_s, vE_0, exS_ok]
    rw [if_pos (sizeLine_big (by rw [List.length_map]; omega)), if_pos trivial, List.map_append]
    rfl
theorem pa_loop {w : Nat} (hw : w ≤ 4000) (T : Tp) : ∀ (k s : Nat) (acc : List Int) (e2 : Option D), s + k ≤ w / 2 + 1 → acc.length ≤ s → ∃ e2', loop (tgN 2) BPA (rngL (s : Nat) k) [some (.int (w : Nat)), some (.lst (acc.map .int)), e2] T = .nx [some (.int (w : Nat)), some (.lst ((acc ++ nint ((List.range' s k).filter (zb w))).map .int)), e2'] T
  | 0, s, acc, e2, _, _ => ⟨e2, by
    show SR.nx _ _ = _
    rw [show nint ((List.range' s 0).filter (zb w)) = [] from rfl, List.append_nil]⟩
  | k + 1, s, acc, e2, hk, ha => by
    obtain ⟨e2', ih⟩ := pa_loop hw T k (s + 1) (acc ++ (if zb w s then [((s : Nat) : Int)] else [])) (some (.int (s : Nat))) (by omega) (by split <;> simp <;> omega)
    refine ⟨e2', ?_⟩
    rw [rngL_cons, loop_nx rfl (pa_turn (by omega) hw acc (by omega) T), show ((s : Nat) : Int) + 1 = ((s + 1 : Nat) : Int) by omega, ih, List.append_assoc]
    congr 6
    rw [List.range'_succ]
    by_cases q : zb w s = true
    · rw [if_pos q, List.filter_cons_of_pos q]; rfl
    · rw [if_neg q, List.filter_cons_of_neg q]; rfl
theorem partners_ok {w : Nat} (hw : w ≤ 1000) (T : Tp) : c_partners [.int (w : Nat)] T = .ok (rowD (nint ((List.range (w / 2 + 1)).filter (zb w)))) T := by
  refine fnD_rt rfl ?_
  show b_partners [some (.int (w : Nat)), none, none] T = _
  have e1 : decide ((0 : Int) ≤ (w : Nat)) = true := by rw [decide_eq_true_eq]; omega
  have e2 : decide (((w : Nat) : Int) ≤ 1000) = true := by rw [decide_eq_true_eq]; omega
  have wi := within_b (w : Nat) 0 1000
  simp only [e1, e2, Bool.and_self] at wi
  have s1 : ((w / 2 : Nat) : Int) + 1 = ((w / 2 + 1 : Nat) : Int) := by omega
  have r1 : rng1D [.int ((w / 2 + 1 : Nat) : Int)] = some (rngL ((0 : Nat) : Int) (w / 2 + 1)) := by
    rw [rng1D_ev (by omega) (by omega), Int.toNat_natCast]
    rfl
  obtain ⟨e2', hl⟩ := pa_loop (w := w) (by omega) T (w / 2 + 1) 0 [] none (by omega) (by simp)
  unfold BPA at hl
  unfold b_partners notE
  rw [sq_ev]
  simp only [ifS_ev, ap1_ev, callE_ev, esE_cons, esE_nil, vE_0, kE_ev, bind_ok, wi, notD_ev, Bool.not_true, ofO_some, exS_ok, ifK_f, sk_ev, sqK_nx]
  rw [sq_ev]
  simp only [setS_ev, lstE_ev, esE_nil, bind_ok, exS_ok, List.set, sqK_nx]
  rw [sq_ev, forS_ev]
  simp only [apI_ev, esE_cons, esE_nil, ap2_ev, vE_0, kE_ev, bind_ok, f2, ofO_some, addD_int, s1, r1, exS_ok]
  rw [show ([] : List D) = ([] : List Int).map D.int from rfl, hl, sqK_nx, List.nil_append, ← List.range_eq_range']
  rfl
theorem rngL0 (n : Nat) : rngL 0 n = (List.range n).map fun (i : Nat) => D.int (i : Nat) := by
  unfold rngL
  exact List.map_congr_left fun i _ => by rw [Int.zero_add]
theorem filt {l : List Nat} {p : Nat → Bool} : (((l.map fun (i : Nat) => D.int (i : Nat)).filter fun d => match d with | .int i => p i.toNat | _ => false).map fun d => d) = (nint (l.filter p)).map D.int := by
  unfold nint
  induction l with
  | nil => rfl
  | cons a l ih =>
    rw [List.map_cons]
    have e : (match D.int (a : Nat) with | .int i => p i.toNat | _ => false) = p a := by
      show p ((a : Nat) : Int).toNat = p a
      rw [Int.toNat_natCast]
    by_cases q : p a = true
    · rw [List.filter_cons_of_pos (by rw [e]; exact q), List.filter_cons_of_pos q, List.map_cons, List.map_cons, List.map_cons, ih]
    · rw [List.filter_cons_of_neg (by rw [e]; exact q), List.filter_cons_of_neg q, ih]
abbrev DUE : Ex := (apN tupOfD [(lcE [6] (tgN 6) (apI rng1D [(ap2 addD (ap2 fdivD (vE 7) (kE (.int 2))) (kE (.int 1)))]) (ap2 isD (ap2 ix4D (callE c__law_gone [(vE 6), (ap2 subD (vE 7) (vE 6))]) (kE (.int 1))) (kE .non)) (vE 6))])
theorem due_ok {w : Nat} (hw : w ≤ 1000) (d0 d1 d2 d3 d4 d5 d6 d8 d9 : Option D) (T : Tp) : DUE [d0, d1, d2, d3, d4, d5, d6, some (.int (w : Nat)), d8, d9] T = .ok (rowD (nint ((List.range (w / 2 + 1)).filter (zb w)))) T := by
  have s1 : ((w / 2 : Nat) : Int) + 1 = ((w / 2 + 1 : Nat) : Int) := by omega
  have z := lcE_pure (vs := [6]) (env := [d0, d1, d2, d3, d4, d5, d6, some (.int (w : Nat)), d8, d9]) (f := tgN 6) (it := (apI rng1D [(ap2 addD (ap2 fdivD (vE 7) (kE (.int 2))) (kE (.int 1)))])) (cd := (ap2 isD (ap2 ix4D (callE c__law_gone [(vE 6), (ap2 subD (vE 7) (vE 6))]) (kE (.int 1))) (kE .non))) (ce := vE 6) (T := T) (ds := rngL 0 (w / 2 + 1)) (fun d => match d with | .int i => zb w i.toNat | _ => false) (fun d => d)
    (by
      simp only [apI_ev, esE_cons, esE_nil, ap2_ev, vE_s, vE_0, kE_ev, bind_ok, f2, ofO_some, addD_int, s1]
      rw [rng1D_ev (by omega) (by omega), Int.toNat_natCast]
      rfl) (by rw [rngL_len]; omega) fun d hd => by
      obtain ⟨i, hi, rfl⟩ := rngL_mem hd
      rw [Int.zero_add]
      obtain ⟨x, y, g1, g2⟩ := gone_w (w := w) (l := i) (by omega) (by omega) T
      have e1 : ((w : Nat) : Int) - (i : Nat) = ((w - i : Nat) : Int) := by omega
      refine ⟨[d0, d1, d2, d3, d4, d5, some (.int (i : Nat)), some (.int (w : Nat)), d8, d9], rfl, ?_, fun _ => rfl⟩
      simp only [ap2_ev, callE_ev, esE_cons, esE_nil, vE_s, vE_0, kE_ev, bind_ok, subD_int, e1, ofO_some, g1, ix1t, g2, Int.toNat_natCast]
  rw [rngL0, filt] at z
  unfold DUE
  rw [apN_ev, esE_cons, z]
  rfl
theorem rep_due {w : Nat} (hw : w ≤ 1000) : ∃ s, repr7D [rowD (nint ((List.range (w / 2 + 1)).filter (zb w)))] = some (.str s) :=
  (rep_lf (ds := (nint ((List.range (w / 2 + 1)).filter (zb w))).map D.int) (fun d hd => by
    obtain ⟨x, hx, rfl⟩ := List.mem_map.mp hd
    obtain ⟨i, hi, rfl⟩ := List.mem_map.mp hx
    have := List.mem_range.mp (List.mem_filter.mp hi).1
    exact .inr ⟨i, by omega, rfl⟩) (by
    rw [List.length_map]
    unfold nint
    rw [List.length_map]
    exact Nat.le_trans (List.length_filter_le _ _) (by rw [List.length_range]; omega))).1
/-! what is refused -/
def tl__law_refused_right : Sx :=
  (sq (setS 2 (lstE [])) (sq (forS (tgN 3) (seq6It (tupE [(kE (.fnc "doubled")), (kE (.fnc "turns_till_empty")), (kE (.fnc "odd_part")), (kE (.fnc "heap_round"))])) (sq (appS 2 (lamE [1, 3] c__law_word (callV [("doubled" , c_doubled), ("heap_round" , c_heap_round), ("odd_part" , c_odd_part), ("turns_till_empty" , c_turns_till_empty)] 3 [(vE 1), (kE (.int 3))]))) (appS 2 (lamE [1, 3] c__law_word (callV [("doubled" , c_doubled), ("heap_round" , c_heap_round), ("odd_part" , c_odd_part), ("turns_till_empty" , c_turns_till_empty)] 3 [(kE (.int 3)), (vE 1)]))))) (sq (appS 2 (lamE [] c__law_word (callE c_doubled [(kE (.int 0)), (kE (.int 5))]))) (sq (appS 2 (lamE [] c__law_word (callE c_doubled [(kE (.int 5)), (kE (.int 0))]))) (sq (appS 2 (lamE [1] c__law_word (callE c_partners [(vE 1)]))) (rtS (ap2 eqS (vE 2) (ap2 addD (ap2 repD (lstE [(kE (.str "heaps"))]) (kE (.int 8))) (lstE [(kE (.str "turn")), (kE (.str "turn")), (kE (.str "sum"))])))))))))
theorem ptl__law_refused_right : PurS tl__law_refused_right := (pr_sq (pr_set (pr_lst .nil)) (pr_sq (pr_for (pr_seq6 (pr_tup (.cons (pr_k _) (.cons (pr_k _) (.cons (pr_k _) (.cons (pr_k _) .nil)))))) (pr_sq (pr_app (pr_lam pw__law_word)) (pr_app (pr_lam pw__law_word)))) (pr_sq (pr_app (pr_lam pw__law_word)) (pr_sq (pr_app (pr_lam pw__law_word)) (pr_sq (pr_app (pr_lam pw__law_word)) (pr_rt (pr_ap2 (pr_v _) (pr_ap2 (pr_ap2 (pr_lst (.cons (pr_k _) .nil)) (pr_k _)) (pr_lst (.cons (pr_k _) (.cons (pr_k _) (.cons (pr_k _) .nil))))))))))))

def badL : List D := [.int (-1), .int 1001, .non, .bl true, .str "3", .tup [.int 3], .lst [.int 3], .dct false [], .int 1000000000000000000000000000000]
theorem bad_chk : (badL.all fun d => rtT (tl__law_refused_right [some .tape, some d, none, none] none)) = true := by decide +kernel
theorem pow30 : powD (.int 10) (.int 30) = some (.int 1000000000000000000000000000000) := by
  show (if (decide ((0 : Int) ≤ 30) && decide ((30 : Int) ≤ 1000000) && decide ((10 : Int).natAbs < 2 ^ 64)) = true then some (D.int ((10 : Int) ^ (30 : Int).toNat)) else none) = _
  rw [if_pos (by decide)]
  rfl
theorem refused_ok {ts : List D} (hp : TapeP ts) : ∃ ts', c__law_refused_right [.tape] (some ts) = .ok (.bl true) (some ts') ∧ TapeP ts' := by
  obtain ⟨d, t1, e1, p1, m1⟩ := some_ok hp (ds := badL) (by decide) (by decide)
  have c := bad_chk
  rw [List.all_eq_true] at c
  have r := rtT_at ptl__law_refused_right (c d m1) (some t1)
  refine ⟨t1, fnD_rt rfl ?_, p1⟩
  show b__law_refused_right [some .tape, none, none, none] (some ts) = _
  have lb : (lstE [(ap1 negD (kE (.int 1))), (kE (.int 1001)), (kE .non), (kE (.bl true)), (kE (.str "3")), (tupE [(kE (.int 3))]), (lstE [(kE (.int 3))]), (kE (.dct false [])), (ap2 powD (kE (.int 10)) (kE (.int 30)))]) [some .tape, none, none, none] (some ts) = .ok (.lst badL) (some ts) := by
    simp only [lstE_ev, esE_cons, esE_nil, ap1_ev, ap2_ev, kE_ev, bind_ok, negD_int, tupE_ev, pow30, ofO_some]
    rfl
  have h0 : asS (tgN 1) (callE c__law_some [(vE 0), (lstE [(ap1 negD (kE (.int 1))), (kE (.int 1001)), (kE .non), (kE (.bl true)), (kE (.str "3")), (tupE [(kE (.int 3))]), (lstE [(kE (.int 3))]), (kE (.dct false [])), (ap2 powD (kE (.int 10)) (kE (.int 30)))])]) [some .tape, none, none, none] (some ts) = .nx [some .tape, some d, none, none] (some t1) := by
    rw [asS_N, callE_ev, esE_cons, vE_0, bind_ok, esE_cons, lb]
    simp only [bind_ok, esE_nil, e1, exS_ok, List.set]
  show sq (asS (tgN 1) (callE c__law_some [(vE 0), (lstE [(ap1 negD (kE (.int 1))), (kE (.int 1001)), (kE .non), (kE (.bl true)), (kE (.str "3")), (tupE [(kE (.int 3))]), (lstE [(kE (.int 3))]), (kE (.dct false [])), (ap2 powD (kE (.int 10)) (kE (.int 30)))])])) tl__law_refused_right [some .tape, none, none, none] (some ts) = _
  rw [sq_ev, h0, sqK_nx, r]
end W

namespace W
open Ev PySem
theorem mulNat (a b : Nat) (h : a ≤ 1000000) : mulD (.int (a : Nat)) (.int (b : Nat)) = some (.int ((a * b : Nat) : Int)) := by
  rw [mulN h, ← Int.natCast_mul]
abbrev LB : Sx := (sq (asS (tgN 3) (callE c__law_some [(vE 1), (lstE [(kE (.int 10)), (kE (.int 40)), (kE (.int 300)), (kE (.int 1001))])]))
  (sq (ifS (notE (callE c__law_case_right [(vE 1), (callE c__law_draw [(vE 1), (vE 3)]), (callE c__law_draw [(vE 1), (vE 3)])]))
  (rtS (kE (.bl false)))
  sk)
  (sq (par2S 4 5 (ap2 addD (kE (.int 1)) (callE c__law_draw [(vE 1), (kE (.int 30))])) (callE c__law_some [(vE 1), (lstE [(kE (.int 1)), (kE (.int 2)), (kE (.int 4)), (kE (.int 8)), (kE (.int 16)), (kE (.int 32))])]))
  (sq (asS (tgN 6) (callE c__law_draw [(vE 1), (ap2 addD (vE 5) (kE (.int 1)))]))
  (ifS (notE (callE c__law_case_right [(vE 1), (ap2 mulD (vE 4) (vE 6)), (ap2 mulD (vE 4) (ap2 subD (vE 5) (vE 6)))]))
  (rtS (kE (.bl false)))
  sk)))))
def nat (h : Nat) : D := .int (h : Nat)
theorem hi_of {d : D} (h : d ∈ [D.int 10, .int 40, .int 300, .int 1001]) : ∃ n : Nat, d = .int (n : Nat) ∧ 0 < n ∧ n ≤ 1001 := by
  simp only [List.mem_cons, List.not_mem_nil, or_false] at h
  rcases h with rfl | rfl | rfl | rfl
  · exact ⟨10, rfl, by decide, by decide⟩
  · exact ⟨40, rfl, by decide, by decide⟩
  · exact ⟨300, rfl, by decide, by decide⟩
  · exact ⟨1001, rfl, by decide, by decide⟩
theorem po_of {d : D} (h : d ∈ [D.int 1, .int 2, .int 4, .int 8, .int 16, .int 32]) : ∃ n : Nat, d = .int (n : Nat) ∧ 0 < n ∧ n ≤ 32 := by
  simp only [List.mem_cons, List.not_mem_nil, or_false] at h
  rcases h with rfl | rfl | rfl | rfl | rfl | rfl
  · exact ⟨1, rfl, by decide, by decide⟩
  · exact ⟨2, rfl, by decide, by decide⟩
  · exact ⟨4, rfl, by decide, by decide⟩
  · exact ⟨8, rfl, by decide, by decide⟩
  · exact ⟨16, rfl, by decide, by decide⟩
  · exact ⟨32, rfl, by decide, by decide⟩
theorem wh_of {d : D} (h : d ∈ [D.int 9, .int 33, .int 130]) : ∃ n : Nat, d = .int (n : Nat) ∧ 0 < n ∧ n ≤ 130 := by
  simp only [List.mem_cons, List.not_mem_nil, or_false] at h
  rcases h with rfl | rfl | rfl
  · exact ⟨9, rfl, by decide, by decide⟩
  · exact ⟨33, rfl, by decide, by decide⟩
  · exact ⟨130, rfl, by decide, by decide⟩
theorem lb_ok {ts : List D} (hp : TapeP ts) (x0 x2 x3 x4 x5 x6 : Option D) (rest : Ve) : ∃ y3 y4 y5 y6 ts', LB (x0 :: some .tape :: x2 :: x3 :: x4 :: x5 :: x6 :: rest) (some ts) = .nx (x0 :: some .tape :: x2 :: y3 :: y4 :: y5 :: y6 :: rest) (some ts') ∧ TapeP ts' := by
  obtain ⟨d, t1, e1, p1, m1⟩ := some_ok hp (ds := [D.int 10, .int 40, .int 300, .int 1001]) (by decide) (by decide)
  obtain ⟨n, rfl, n0, n1⟩ := hi_of m1
  obtain ⟨a, t2, e2, p2, a0, a1⟩ := draw_ok p1 (lim := (n : Nat)) (by omega) (by omega)
  obtain ⟨a, rfl⟩ := Int.eq_ofNat_of_zero_le a0
  obtain ⟨b, t3, e3, p3, b0, b1⟩ := draw_ok p2 (lim := (n : Nat)) (by omega) (by omega)
  obtain ⟨b, rfl⟩ := Int.eq_ofNat_of_zero_le b0
  obtain ⟨t4, e4, p4⟩ := case_ok (a := a) (b := b) (by omega) (by omega) p3
  obtain ⟨c, t5, e5, p5, c0, c1⟩ := draw_ok p4 (lim := 30) (by decide) (by decide)
  obtain ⟨c, rfl⟩ := Int.eq_ofNat_of_zero_le c0
  obtain ⟨g, t6, e6, p6, m6⟩ := some_ok p5 (ds := [D.int 1, .int 2, .int 4, .int 8, .int 16, .int 32]) (by decide) (by decide)
  obtain ⟨w, rfl, w0, w1⟩ := po_of m6
  have hw1 : ((w : Nat) : Int) + 1 = ((w + 1 : Nat) : Int) := by omega
  obtain ⟨l, t7, e7, p7, l0, l1⟩ := draw_ok p6 (lim := ((w + 1 : Nat) : Int)) (by omega) (by omega)
  obtain ⟨l, rfl⟩ := Int.eq_ofNat_of_zero_le l0
  have hc : (1 : Int) + (c : Nat) = ((c + 1 : Nat) : Int) := by omega
  have hs : ((w : Nat) : Int) - (l : Nat) = ((w - l : Nat) : Int) := by omega
  have k1 : (c + 1) * l ≤ 1000 := Nat.le_trans (Nat.mul_le_mul (show c + 1 ≤ 30 by omega) (show l ≤ 32 by omega)) (by decide)
  have k2 : (c + 1) * (w - l) ≤ 1000 := Nat.le_trans (Nat.mul_le_mul (show c + 1 ≤ 30 by omega) (show w - l ≤ 32 by omega)) (by decide)
  obtain ⟨t8, e8, p8⟩ := case_ok (a := (c + 1) * l) (b := (c + 1) * (w - l)) k1 k2 p7
  refine ⟨some (.int (n : Nat)), some (.int ((c + 1 : Nat) : Int)), some (.int (w : Nat)), some (.int (l : Nat)), t8, ?_, p8⟩
  unfold LB notE
  rw [sq_ev]
  simp only [asS_N, callE_ev, lstE_ev, esE_cons, esE_nil, vE_s, vE_0, kE_ev, bind_ok, e1, exS_ok, List.set, sqK_nx]
  rw [sq_ev]
  simp only [ifS_ev, ap1_ev, callE_ev, esE_cons, esE_nil, vE_s, vE_0, bind_ok, e2, e3, e4, notD_ev, Bool.not_true, ofO_some, exS_ok, ifK_f, sk_ev, sqK_nx]
  rw [sq_ev]
  simp only [par2S_ev, ap2_ev, callE_ev, lstE_ev, esE_cons, esE_nil, vE_s, vE_0, kE_ev, bind_ok, e5, addD_int, hc, ofO_some, e6, exS_ok, List.set, sqK_nx]
  rw [sq_ev]
  simp only [asS_N, callE_ev, esE_cons, esE_nil, ap2_ev, vE_s, vE_0, kE_ev, bind_ok, addD_int, hw1, ofO_some, e7, exS_ok, List.set, sqK_nx]
  simp only [ifS_ev, ap1_ev, callE_ev, esE_cons, esE_nil, ap2_ev, vE_s, vE_0, bind_ok, mulNat _ _ (show c + 1 ≤ 1000000 by omega), subD_int, hs, ofO_some, e8, notD_ev, Bool.not_true, exS_ok, ifK_f, sk_ev]
theorem ll_ok (x0 : Option D) (rest : Ve) : ∀ (ds : List D) (ts : List D) (x2 x3 x4 x5 x6 : Option D), TapeP ts → ∃ y2 y3 y4 y5 y6 ts', loop (tgN 2) LB ds (x0 :: some .tape :: x2 :: x3 :: x4 :: x5 :: x6 :: rest) (some ts) = .nx (x0 :: some .tape :: y2 :: y3 :: y4 :: y5 :: y6 :: rest) (some ts') ∧ TapeP ts'
  | [], ts, x2, x3, x4, x5, x6, hp => ⟨x2, x3, x4, x5, x6, ts, rfl, hp⟩
  | d :: ds, ts, x2, x3, x4, x5, x6, hp => by
    obtain ⟨y3, y4, y5, y6, t1, e1, p1⟩ := lb_ok hp x0 (some d) x3 x4 x5 x6 rest
    obtain ⟨z2, z3, z4, z5, z6, t2, e2, p2⟩ := ll_ok x0 rest ds t1 (some d) y3 y4 y5 y6 p1
    exact ⟨z2, z3, z4, z5, z6, t2, by rw [loop_nx rfl e1, e2], p2⟩
abbrev X1 : Ex := (lstE [(callE c_turns_till_empty [(kE (.int 1)), (kE (.int 3))]), (callE c_odd_part [(kE (.int 1)), (kE (.int 2))]), (callE c_heap_round [(kE (.int 1)), (kE (.int 2))]), (callE c_partners [(kE (.int 8))])])
abbrev X2 : Ex := (lstE [(callE c_turns_till_empty [(kE (.int 0)), (kE (.int 7))]), (callE c_odd_part [(kE (.int 3)), (kE (.int 9))])])
abbrev X3 : Ex := (lstE [(kE (.int 2)), (kE (.int 3)), (tupE [(tupE [(kE (.int 1)), (kE (.int 2))])]), (tupE [(kE (.int 0)), (kE (.int 1)), (kE (.int 2)), (kE (.int 3)), (kE (.int 4))]), (kE (.int 0)), (kE .non)])
theorem px1 : PurE X1 := pr_lst (.cons (pr_call pu_turns_till_empty (.cons (pr_k _) (.cons (pr_k _) .nil))) (.cons (pr_call pu_odd_part (.cons (pr_k _) (.cons (pr_k _) .nil))) (.cons (pr_call pu_heap_round (.cons (pr_k _) (.cons (pr_k _) .nil))) (.cons (pr_call pu_partners (.cons (pr_k _) .nil)) .nil))))
theorem px2 : PurE X2 := pr_lst (.cons (pr_call pu_turns_till_empty (.cons (pr_k _) (.cons (pr_k _) .nil))) (.cons (pr_call pu_odd_part (.cons (pr_k _) (.cons (pr_k _) .nil))) .nil))
theorem k1 : isOk (X1 [] none) = true := by decide +kernel
theorem k2 : isOk (X2 [] none) = true := by decide +kernel
def V1 : D := valOf (X1 [] none)
def V2 : D := valOf (X2 [] none)
def V3 : D := .lst [.int 2, .int 3, .tup [.tup [.int 1, .int 2]], .tup [.int 0, .int 1, .int 2, .int 3, .int 4], .int 0, .non]
def V12 : D := match addD V1 V2 with
  | some d => d
  | none => .non
def k3B : Bool := (match addD V1 V2 with | some _ => true | none => false) && okT (c__law_is [V12, V3] none)
theorem k3 : k3B = true := by decide +kernel
theorem x1_ok (env : Ve) (T : Tp) : X1 env T = .ok V1 T := by
  have e : X1 env T = X1 [] T := rfl
  rw [e]
  exact (px1 []).at_ (isOk_eq k1) T
theorem x2_ok (env : Ve) (T : Tp) : X2 env T = .ok V2 T := by
  have e : X2 env T = X2 [] T := rfl
  rw [e]
  exact (px2 []).at_ (isOk_eq k2) T
theorem x3_ok (env : Ve) (T : Tp) : X3 env T = .ok V3 T := rfl
theorem v12 : addD V1 V2 = some V12 := by
  have z := k3
  unfold k3B at z
  rw [Bool.and_eq_true] at z
  have z := z.1
  unfold V12
  split at z
  · rename_i d e
    rw [e]
  · cases z
theorem fin_ok (T : Tp) : c__law_is [V12, V3] T = .ok (.bl true) T := by
  have z := k3
  unfold k3B at z
  rw [Bool.and_eq_true] at z
  exact (pu__law_is _).at_ (okT_eq z.2) T
theorem math : ∀ ns : List Int, ns.length ≤ 63 → ∃ T, lawRun c__law_hand b_law 10 ns = .rt (.bl true) T := fun ns hn => by
  obtain ⟨ts, h1, p1⟩ := hand_ok ns hn
  unfold lawRun
  rw [h1]
  show ∃ T, b_law [some (.scr (ns.map .int)), some .tape, none, none, none, none, none, none, none, none] (some ts) = _
  obtain ⟨y2, y3, y4, y5, y6, t1, e1, p2⟩ := ll_ok (some (.scr (ns.map .int))) [none, none, none] (rngL 0 4) ts none none none none none p1
  obtain ⟨d, t2, e2, p3, m2⟩ := some_ok p2 (ds := [D.int 9, .int 33, .int 130]) (by decide) (by decide)
  obtain ⟨n, rfl, n0, n1⟩ := wh_of m2
  obtain ⟨w, t3, e3, p4, w0, w1⟩ := draw_ok p3 (lim := (n : Nat)) (by omega) (by omega)
  obtain ⟨w, rfl⟩ := Int.eq_ofNat_of_zero_le w0
  obtain ⟨t4, e4, p5⟩ := refused_ok p4
  have due := due_ok (w := w) (by omega) (some (.scr (ns.map .int))) (some .tape) y2 y3 y4 y5 y6 none none (some t3)
  unfold DUE at due
  have r4 : rng1D [.int 4] = some (rngL 0 4) := by
    rw [rng1D_ev (by decide) (by decide)]; rfl
  have x1 := x1_ok
  have x2 := x2_ok
  have x3 := x3_ok
  unfold X1 at x1
  unfold X2 at x2
  unfold X3 at x3
  refine ⟨some t4, ?_⟩
  unfold b_law notE
  rw [sq_ev, forS_ev]
  simp only [apI_ev, esE_cons, esE_nil, kE_ev, bind_ok, r4, ofO_some, exS_ok]
  unfold LB notE at e1
  rw [e1, sqK_nx, sq_ev]
  simp only [asS_N, callE_ev, lstE_ev, esE_cons, esE_nil, vE_s, vE_0, kE_ev, bind_ok, e2, e3, exS_ok, List.set, sqK_nx]
  rw [sq_ev, asS_N, due]
  simp only [exS_ok, List.set, sqK_nx]
  rw [sq_ev]
  simp only [ifS_ev, orE_ev, ap1_ev, callE_ev, esE_cons, esE_nil, vE_s, vE_0, bind_ok, partners_ok (show w ≤ 1000 by omega), is_same (rep_due (show w ≤ 1000 by omega)), notD_ev, Bool.not_true, ofO_some, orK_f, e4, exS_ok, ifK_f, sk_ev, sqK_nx]
  rw [sq_ev, asS_N, x1]
  simp only [exS_ok, List.set, sqK_nx]
  rw [sq_ev, asS_N, ap2_ev]
  simp only [vE_s, vE_0, bind_ok]
  rw [x2]
  simp only [bind_ok, v12, ofO_some, exS_ok, List.set, sqK_nx]
  rw [rtS_ev, callE_ev, esE_cons]
  simp only [vE_s, vE_0, bind_ok]
  rw [esE_cons, x3]
  simp only [bind_ok, esE_nil, fin_ok, exS_ok]
end W

namespace W
open PySem PySem.Spec PyProof.Rows L2 Ev
theorem top {w : World} {K : PySem.W.Frag} {h : Heap} {mg : Str → Option Value} {fa : Addr} (X : K.In h) (G : h.Ns mainGlobals mg) (hfa : mg "law" = some (.ref fa))
    (n_ValueError : PySem.W.nsIn K mainGlobals "ValueError" = some none)
    (n_abs : PySem.W.nsIn K mainGlobals "abs" = some none)
    (n_all : PySem.W.nsIn K mainGlobals "all" = some none)
    (n_bool : PySem.W.nsIn K mainGlobals "bool" = some none)
    (n_int : PySem.W.nsIn K mainGlobals "int" = some none)
    (n_isinstance : PySem.W.nsIn K mainGlobals "isinstance" = some none)
    (n_len : PySem.W.nsIn K mainGlobals "len" = some none)
    (n_max : PySem.W.nsIn K mainGlobals "max" = some none)
    (n_min : PySem.W.nsIn K mainGlobals "min" = some none)
    (n_range : PySem.W.nsIn K mainGlobals "range" = some none)
    (n_repr : PySem.W.nsIn K mainGlobals "repr" = some none)
    (n_sorted : PySem.W.nsIn K mainGlobals "sorted" = some none)
    (n_tuple : PySem.W.nsIn K mainGlobals "tuple" = some none)
    {t_MOST_HEAP : Tok} (g_MOST_HEAP : PySem.W.nsIn K mainGlobals "MOST_HEAP" = some (some (.int 1000 t_MOST_HEAP)))
    {f_is_integer : Addr} {oc_is_integer : Value} {od_is_integer an_is_integer : Option Addr} {sl_is_integer : Array (Option Value)} {kV_is_integer dc_is_integer pm_is_integer cd_is_integer ct_is_integer : Value} (a_is_integer : PySem.W.nsIn K mainGlobals "is_integer" = some (some (.ref f_is_integer))) (l_is_integer : K.lookup f_is_integer = some ⟨oc_is_integer, od_is_integer, .func (PySem.W.fnOf "is_integer" "is_integer" (defArgs s_is_integer) (defBody s_is_integer) (defScope s_is_integer) .none kV_is_integer dc_is_integer pm_is_integer an_is_integer cd_is_integer ct_is_integer), sl_is_integer⟩) (c_is_integer : PySem.W.codeIn K cd_is_integer "is_integer" = true) (k_is_integer : PySem.W.keepIn K (.ref f_is_integer) = true)
    {f_is_within : Addr} {oc_is_within : Value} {od_is_within an_is_within : Option Addr} {sl_is_within : Array (Option Value)} {kV_is_within dc_is_within pm_is_within cd_is_within ct_is_within : Value} (a_is_within : PySem.W.nsIn K mainGlobals "is_within" = some (some (.ref f_is_within))) (l_is_within : K.lookup f_is_within = some ⟨oc_is_within, od_is_within, .func (PySem.W.fnOf "is_within" "is_within" (defArgs s_is_within) (defBody s_is_within) (defScope s_is_within) .none kV_is_within dc_is_within pm_is_within an_is_within cd_is_within ct_is_within), sl_is_within⟩) (c_is_within : PySem.W.codeIn K cd_is_within "is_within" = true) (k_is_within : PySem.W.keepIn K (.ref f_is_within) = true)
    {f_common_part : Addr} {oc_common_part : Value} {od_common_part an_common_part : Option Addr} {sl_common_part : Array (Option Value)} {kV_common_part dc_common_part pm_common_part cd_common_part ct_common_part : Value} (a_common_part : PySem.W.nsIn K mainGlobals "common_part" = some (some (.ref f_common_part))) (l_common_part : K.lookup f_common_part = some ⟨oc_common_part, od_common_part, .func (PySem.W.fnOf "common_part" "common_part" (defArgs s_common_part) (defBody s_common_part) (defScope s_common_part) .none kV_common_part dc_common_part pm_common_part an_common_part cd_common_part ct_common_part), sl_common_part⟩) (c_common_part : PySem.W.codeIn K cd_common_part "common_part" = true) (k_common_part : PySem.W.keepIn K (.ref f_common_part) = true)
    {f_check_heaps : Addr} {oc_check_heaps : Value} {od_check_heaps an_check_heaps : Option Addr} {sl_check_heaps : Array (Option Value)} {kV_check_heaps dc_check_heaps pm_check_heaps cd_check_heaps ct_check_heaps : Value} (a_check_heaps : PySem.W.nsIn K mainGlobals "check_heaps" = some (some (.ref f_check_heaps))) (l_check_heaps : K.lookup f_check_heaps = some ⟨oc_check_heaps, od_check_heaps, .func (PySem.W.fnOf "check_heaps" "check_heaps" (defArgs s_check_heaps) (defBody s_check_heaps) (defScope s_check_heaps) .none kV_check_heaps dc_check_heaps pm_check_heaps an_check_heaps cd_check_heaps ct_check_heaps), sl_check_heaps⟩) (c_check_heaps : PySem.W.codeIn K cd_check_heaps "check_heaps" = true) (k_check_heaps : PySem.W.keepIn K (.ref f_check_heaps) = true)
    {f_rising_pair : Addr} {oc_rising_pair : Value} {od_rising_pair an_rising_pair : Option Addr} {sl_rising_pair : Array (Option Value)} {kV_rising_pair dc_rising_pair pm_rising_pair cd_rising_pair ct_rising_pair : Value} (a_rising_pair : PySem.W.nsIn K mainGlobals "rising_pair" = some (some (.ref f_rising_pair))) (l_rising_pair : K.lookup f_rising_pair = some ⟨oc_rising_pair, od_rising_pair, .func (PySem.W.fnOf "rising_pair" "rising_pair" (defArgs s_rising_pair) (defBody s_rising_pair) (defScope s_rising_pair) .none kV_rising_pair dc_rising_pair pm_rising_pair an_rising_pair cd_rising_pair ct_rising_pair), sl_rising_pair⟩) (c_rising_pair : PySem.W.codeIn K cd_rising_pair "rising_pair" = true) (k_rising_pair : PySem.W.keepIn K (.ref f_rising_pair) = true)
    {f_raw_doubled : Addr} {oc_raw_doubled : Value} {od_raw_doubled an_raw_doubled : Option Addr} {sl_raw_doubled : Array (Option Value)} {kV_raw_doubled dc_raw_doubled pm_raw_doubled cd_raw_doubled ct_raw_doubled : Value} (a_raw_doubled : PySem.W.nsIn K mainGlobals "raw_doubled" = some (some (.ref f_raw_doubled))) (l_raw_doubled : K.lookup f_raw_doubled = some ⟨oc_raw_doubled, od_raw_doubled, .func (PySem.W.fnOf "raw_doubled" "raw_doubled" (defArgs s_raw_doubled) (defBody s_raw_doubled) (defScope s_raw_doubled) .none kV_raw_doubled dc_raw_doubled pm_raw_doubled an_raw_doubled cd_raw_doubled ct_raw_doubled), sl_raw_doubled⟩) (c_raw_doubled : PySem.W.codeIn K cd_raw_doubled "raw_doubled" = true) (k_raw_doubled : PySem.W.keepIn K (.ref f_raw_doubled) = true)
    {f_doubled : Addr} {oc_doubled : Value} {od_doubled an_doubled : Option Addr} {sl_doubled : Array (Option Value)} {kV_doubled dc_doubled pm_doubled cd_doubled ct_doubled : Value} (a_doubled : PySem.W.nsIn K mainGlobals "doubled" = some (some (.ref f_doubled))) (l_doubled : K.lookup f_doubled = some ⟨oc_doubled, od_doubled, .func (PySem.W.fnOf "doubled" "doubled" (defArgs s_doubled) (defBody s_doubled) (defScope s_doubled) .none kV_doubled dc_doubled pm_doubled an_doubled cd_doubled ct_doubled), sl_doubled⟩) (c_doubled : PySem.W.codeIn K cd_doubled "doubled" = true) (k_doubled : PySem.W.keepIn K (.ref f_doubled) = true)
    {f_pairs_met : Addr} {oc_pairs_met : Value} {od_pairs_met an_pairs_met : Option Addr} {sl_pairs_met : Array (Option Value)} {kV_pairs_met dc_pairs_met pm_pairs_met cd_pairs_met ct_pairs_met : Value} (a_pairs_met : PySem.W.nsIn K mainGlobals "pairs_met" = some (some (.ref f_pairs_met))) (l_pairs_met : K.lookup f_pairs_met = some ⟨oc_pairs_met, od_pairs_met, .func (PySem.W.fnOf "pairs_met" "pairs_met" (defArgs s_pairs_met) (defBody s_pairs_met) (defScope s_pairs_met) .none kV_pairs_met dc_pairs_met pm_pairs_met an_pairs_met cd_pairs_met ct_pairs_met), sl_pairs_met⟩) (c_pairs_met : PySem.W.codeIn K cd_pairs_met "pairs_met" = true) (k_pairs_met : PySem.W.keepIn K (.ref f_pairs_met) = true)
    {f_turns_till_empty : Addr} {oc_turns_till_empty : Value} {od_turns_till_empty an_turns_till_empty : Option Addr} {sl_turns_till_empty : Array (Option Value)} {kV_turns_till_empty dc_turns_till_empty pm_turns_till_empty cd_turns_till_empty ct_turns_till_empty : Value} (a_turns_till_empty : PySem.W.nsIn K mainGlobals "turns_till_empty" = some (some (.ref f_turns_till_empty))) (l_turns_till_empty : K.lookup f_turns_till_empty = some ⟨oc_turns_till_empty, od_turns_till_empty, .func (PySem.W.fnOf "turns_till_empty" "turns_till_empty" (defArgs s_turns_till_empty) (defBody s_turns_till_empty) (defScope s_turns_till_empty) .none kV_turns_till_empty dc_turns_till_empty pm_turns_till_empty an_turns_till_empty cd_turns_till_empty ct_turns_till_empty), sl_turns_till_empty⟩) (c_turns_till_empty : PySem.W.codeIn K cd_turns_till_empty "turns_till_empty" = true) (k_turns_till_empty : PySem.W.keepIn K (.ref f_turns_till_empty) = true)
    {f_odd_part : Addr} {oc_odd_part : Value} {od_odd_part an_odd_part : Option Addr} {sl_odd_part : Array (Option Value)} {kV_odd_part dc_odd_part pm_odd_part cd_odd_part ct_odd_part : Value} (a_odd_part : PySem.W.nsIn K mainGlobals "odd_part" = some (some (.ref f_odd_part))) (l_odd_part : K.lookup f_odd_part = some ⟨oc_odd_part, od_odd_part, .func (PySem.W.fnOf "odd_part" "odd_part" (defArgs s_odd_part) (defBody s_odd_part) (defScope s_odd_part) .none kV_odd_part dc_odd_part pm_odd_part an_odd_part cd_odd_part ct_odd_part), sl_odd_part⟩) (c_odd_part : PySem.W.codeIn K cd_odd_part "odd_part" = true) (k_odd_part : PySem.W.keepIn K (.ref f_odd_part) = true)
    {f_heap_round : Addr} {oc_heap_round : Value} {od_heap_round an_heap_round : Option Addr} {sl_heap_round : Array (Option Value)} {kV_heap_round dc_heap_round pm_heap_round cd_heap_round ct_heap_round : Value} (a_heap_round : PySem.W.nsIn K mainGlobals "heap_round" = some (some (.ref f_heap_round))) (l_heap_round : K.lookup f_heap_round = some ⟨oc_heap_round, od_heap_round, .func (PySem.W.fnOf "heap_round" "heap_round" (defArgs s_heap_round) (defBody s_heap_round) (defScope s_heap_round) .none kV_heap_round dc_heap_round pm_heap_round an_heap_round cd_heap_round ct_heap_round), sl_heap_round⟩) (c_heap_round : PySem.W.codeIn K cd_heap_round "heap_round" = true) (k_heap_round : PySem.W.keepIn K (.ref f_heap_round) = true)
    {f_partners : Addr} {oc_partners : Value} {od_partners an_partners : Option Addr} {sl_partners : Array (Option Value)} {kV_partners dc_partners pm_partners cd_partners ct_partners : Value} (a_partners : PySem.W.nsIn K mainGlobals "partners" = some (some (.ref f_partners))) (l_partners : K.lookup f_partners = some ⟨oc_partners, od_partners, .func (PySem.W.fnOf "partners" "partners" (defArgs s_partners) (defBody s_partners) (defScope s_partners) .none kV_partners dc_partners pm_partners an_partners cd_partners ct_partners), sl_partners⟩) (c_partners : PySem.W.codeIn K cd_partners "partners" = true) (k_partners : PySem.W.keepIn K (.ref f_partners) = true)
    {f__law_hand : Addr} {oc__law_hand : Value} {od__law_hand an__law_hand : Option Addr} {sl__law_hand : Array (Option Value)} {kV__law_hand dc__law_hand pm__law_hand cd__law_hand ct__law_hand : Value} (a__law_hand : PySem.W.nsIn K mainGlobals "_law_hand" = some (some (.ref f__law_hand))) (l__law_hand : K.lookup f__law_hand = some ⟨oc__law_hand, od__law_hand, .func (PySem.W.fnOf "_law_hand" "_law_hand" (defArgs s__law_hand) (defBody s__law_hand) (defScope s__law_hand) .none kV__law_hand dc__law_hand pm__law_hand an__law_hand cd__law_hand ct__law_hand), sl__law_hand⟩) (c__law_hand : PySem.W.codeIn K cd__law_hand "_law_hand" = true) (k__law_hand : PySem.W.keepIn K (.ref f__law_hand) = true)
    {f__law_draw : Addr} {oc__law_draw : Value} {od__law_draw an__law_draw : Option Addr} {sl__law_draw : Array (Option Value)} {kV__law_draw dc__law_draw pm__law_draw cd__law_draw ct__law_draw : Value} (a__law_draw : PySem.W.nsIn K mainGlobals "_law_draw" = some (some (.ref f__law_draw))) (l__law_draw : K.lookup f__law_draw = some ⟨oc__law_draw, od__law_draw, .func (PySem.W.fnOf "_law_draw" "_law_draw" (defArgs s__law_draw) (defBody s__law_draw) (defScope s__law_draw) .none kV__law_draw dc__law_draw pm__law_draw an__law_draw cd__law_draw ct__law_draw), sl__law_draw⟩) (c__law_draw : PySem.W.codeIn K cd__law_draw "_law_draw" = true) (k__law_draw : PySem.W.keepIn K (.ref f__law_draw) = true)
    {f__law_some : Addr} {oc__law_some : Value} {od__law_some an__law_some : Option Addr} {sl__law_some : Array (Option Value)} {kV__law_some dc__law_some pm__law_some cd__law_some ct__law_some : Value} (a__law_some : PySem.W.nsIn K mainGlobals "_law_some" = some (some (.ref f__law_some))) (l__law_some : K.lookup f__law_some = some ⟨oc__law_some, od__law_some, .func (PySem.W.fnOf "_law_some" "_law_some" (defArgs s__law_some) (defBody s__law_some) (defScope s__law_some) .none kV__law_some dc__law_some pm__law_some an__law_some cd__law_some ct__law_some), sl__law_some⟩) (c__law_some : PySem.W.codeIn K cd__law_some "_law_some" = true) (k__law_some : PySem.W.keepIn K (.ref f__law_some) = true)
    {f__law_is : Addr} {oc__law_is : Value} {od__law_is an__law_is : Option Addr} {sl__law_is : Array (Option Value)} {kV__law_is dc__law_is pm__law_is cd__law_is ct__law_is : Value} (a__law_is : PySem.W.nsIn K mainGlobals "_law_is" = some (some (.ref f__law_is))) (l__law_is : K.lookup f__law_is = some ⟨oc__law_is, od__law_is, .func (PySem.W.fnOf "_law_is" "_law_is" (defArgs s__law_is) (defBody s__law_is) (defScope s__law_is) .none kV__law_is dc__law_is pm__law_is an__law_is cd__law_is ct__law_is), sl__law_is⟩) (c__law_is : PySem.W.codeIn K cd__law_is "_law_is" = true) (k__law_is : PySem.W.keepIn K (.ref f__law_is) = true)
    {f__law_common : Addr} {oc__law_common : Value} {od__law_common an__law_common : Option Addr} {sl__law_common : Array (Option Value)} {kV__law_common dc__law_common pm__law_common cd__law_common ct__law_common : Value} (a__law_common : PySem.W.nsIn K mainGlobals "_law_common" = some (some (.ref f__law_common))) (l__law_common : K.lookup f__law_common = some ⟨oc__law_common, od__law_common, .func (PySem.W.fnOf "_law_common" "_law_common" (defArgs s__law_common) (defBody s__law_common) (defScope s__law_common) .none kV__law_common dc__law_common pm__law_common an__law_common cd__law_common ct__law_common), sl__law_common⟩) (c__law_common : PySem.W.codeIn K cd__law_common "_law_common" = true) (k__law_common : PySem.W.keepIn K (.ref f__law_common) = true)
    {f__law_next : Addr} {oc__law_next : Value} {od__law_next an__law_next : Option Addr} {sl__law_next : Array (Option Value)} {kV__law_next dc__law_next pm__law_next cd__law_next ct__law_next : Value} (a__law_next : PySem.W.nsIn K mainGlobals "_law_next" = some (some (.ref f__law_next))) (l__law_next : K.lookup f__law_next = some ⟨oc__law_next, od__law_next, .func (PySem.W.fnOf "_law_next" "_law_next" (defArgs s__law_next) (defBody s__law_next) (defScope s__law_next) .none kV__law_next dc__law_next pm__law_next an__law_next cd__law_next ct__law_next), sl__law_next⟩) (c__law_next : PySem.W.codeIn K cd__law_next "_law_next" = true) (k__law_next : PySem.W.keepIn K (.ref f__law_next) = true)
    {f__law_gone : Addr} {oc__law_gone : Value} {od__law_gone an__law_gone : Option Addr} {sl__law_gone : Array (Option Value)} {kV__law_gone dc__law_gone pm__law_gone cd__law_gone ct__law_gone : Value} (a__law_gone : PySem.W.nsIn K mainGlobals "_law_gone" = some (some (.ref f__law_gone))) (l__law_gone : K.lookup f__law_gone = some ⟨oc__law_gone, od__law_gone, .func (PySem.W.fnOf "_law_gone" "_law_gone" (defArgs s__law_gone) (defBody s__law_gone) (defScope s__law_gone) .none kV__law_gone dc__law_gone pm__law_gone an__law_gone cd__law_gone ct__law_gone), sl__law_gone⟩) (c__law_gone : PySem.W.codeIn K cd__law_gone "_law_gone" = true) (k__law_gone : PySem.W.keepIn K (.ref f__law_gone) = true)
    {f__law_odd : Addr} {oc__law_odd : Value} {od__law_odd an__law_odd : Option Addr} {sl__law_odd : Array (Option Value)} {kV__law_odd dc__law_odd pm__law_odd cd__law_odd ct__law_odd : Value} (a__law_odd : PySem.W.nsIn K mainGlobals "_law_odd" = some (some (.ref f__law_odd))) (l__law_odd : K.lookup f__law_odd = some ⟨oc__law_odd, od__law_odd, .func (PySem.W.fnOf "_law_odd" "_law_odd" (defArgs s__law_odd) (defBody s__law_odd) (defScope s__law_odd) .none kV__law_odd dc__law_odd pm__law_odd an__law_odd cd__law_odd ct__law_odd), sl__law_odd⟩) (c__law_odd : PySem.W.codeIn K cd__law_odd "_law_odd" = true) (k__law_odd : PySem.W.keepIn K (.ref f__law_odd) = true)
    {f__law_is_round : Addr} {oc__law_is_round : Value} {od__law_is_round an__law_is_round : Option Addr} {sl__law_is_round : Array (Option Value)} {kV__law_is_round dc__law_is_round pm__law_is_round cd__law_is_round ct__law_is_round : Value} (a__law_is_round : PySem.W.nsIn K mainGlobals "_law_is_round" = some (some (.ref f__law_is_round))) (l__law_is_round : K.lookup f__law_is_round = some ⟨oc__law_is_round, od__law_is_round, .func (PySem.W.fnOf "_law_is_round" "_law_is_round" (defArgs s__law_is_round) (defBody s__law_is_round) (defScope s__law_is_round) .none kV__law_is_round dc__law_is_round pm__law_is_round an__law_is_round cd__law_is_round ct__law_is_round), sl__law_is_round⟩) (c__law_is_round : PySem.W.codeIn K cd__law_is_round "_law_is_round" = true) (k__law_is_round : PySem.W.keepIn K (.ref f__law_is_round) = true)
    {f__law_case_right : Addr} {oc__law_case_right : Value} {od__law_case_right an__law_case_right : Option Addr} {sl__law_case_right : Array (Option Value)} {kV__law_case_right dc__law_case_right pm__law_case_right cd__law_case_right ct__law_case_right : Value} (a__law_case_right : PySem.W.nsIn K mainGlobals "_law_case_right" = some (some (.ref f__law_case_right))) (l__law_case_right : K.lookup f__law_case_right = some ⟨oc__law_case_right, od__law_case_right, .func (PySem.W.fnOf "_law_case_right" "_law_case_right" (defArgs s__law_case_right) (defBody s__law_case_right) (defScope s__law_case_right) .none kV__law_case_right dc__law_case_right pm__law_case_right an__law_case_right cd__law_case_right ct__law_case_right), sl__law_case_right⟩) (c__law_case_right : PySem.W.codeIn K cd__law_case_right "_law_case_right" = true) (k__law_case_right : PySem.W.keepIn K (.ref f__law_case_right) = true)
    {f__law_word : Addr} {oc__law_word : Value} {od__law_word an__law_word : Option Addr} {sl__law_word : Array (Option Value)} {kV__law_word dc__law_word pm__law_word cd__law_word ct__law_word : Value} (a__law_word : PySem.W.nsIn K mainGlobals "_law_word" = some (some (.ref f__law_word))) (l__law_word : K.lookup f__law_word = some ⟨oc__law_word, od__law_word, .func (PySem.W.fnOf "_law_word" "_law_word" (defArgs s__law_word) (defBody s__law_word) (defScope s__law_word) .none kV__law_word dc__law_word pm__law_word an__law_word cd__law_word ct__law_word), sl__law_word⟩) (c__law_word : PySem.W.codeIn K cd__law_word "_law_word" = true) (k__law_word : PySem.W.keepIn K (.ref f__law_word) = true)
    {f__law_refused_right : Addr} {oc__law_refused_right : Value} {od__law_refused_right an__law_refused_right : Option Addr} {sl__law_refused_right : Array (Option Value)} {kV__law_refused_right dc__law_refused_right pm__law_refused_right ct__law_refused_right : Value} (a__law_refused_right : PySem.W.nsIn K mainGlobals "_law_refused_right" = some (some (.ref f__law_refused_right))) (l__law_refused_right : K.lookup f__law_refused_right = some ⟨oc__law_refused_right, od__law_refused_right, .func (PySem.W.fnOf "_law_refused_right" "_law_refused_right" (defArgs s__law_refused_right) (defBody s__law_refused_right) (defScope s__law_refused_right) .none kV__law_refused_right dc__law_refused_right pm__law_refused_right an__law_refused_right (.ref 224) ct__law_refused_right), sl__law_refused_right⟩) (c__law_refused_right : PySem.W.codeIn K (.ref 224) "_law_refused_right" = true) (k__law_refused_right : PySem.W.keepIn K (.ref f__law_refused_right) = true)
    {x_PuzzleError : Addr} (x_PuzzleError_a : PySem.W.nsIn K mainGlobals "PuzzleError" = some (some (.ref x_PuzzleError))) {x_NoHeaps : Addr} (x_NoHeaps_a : PySem.W.nsIn K mainGlobals "NoHeaps" = some (some (.ref x_NoHeaps))) {x_NoSum : Addr} (x_NoSum_a : PySem.W.nsIn K mainGlobals "NoSum" = some (some (.ref x_NoSum))) {x_NoTurn : Addr} (x_NoTurn_a : PySem.W.nsIn K mainGlobals "NoTurn" = some (some (.ref x_NoTurn))) (x_fam : famAll K x_PuzzleError [("NoHeaps", x_NoHeaps), ("NoSum", x_NoSum), ("NoTurn", x_NoTurn)] = true)
    {f_law : Addr} {oc_law : Value} {od_law an_law : Option Addr} {sl_law : Array (Option Value)} {kV_law dc_law pm_law cd_law ct_law : Value} (a_law : PySem.W.nsIn K mainGlobals "law" = some (some (.ref f_law))) (l_law : K.lookup f_law = some ⟨oc_law, od_law, .func (PySem.W.fnOf "law" "law" (defArgs s_law) (defBody s_law) (defScope s_law) .none kV_law dc_law pm_law an_law cd_law ct_law), sl_law⟩) (c_law : PySem.W.codeIn K cd_law "law" = true) (k_law : PySem.W.keepIn K (.ref f_law) = true) :
    ∃ fd : FuncData, (∀ (s : Shared) (v : Value), BindsTo s fd ⟨[v], []⟩ [("script", v)]) ∧ ∀ base : Heap, K.In base → base.Ns mainGlobals mg → Tbs base mg → FnG PySem.Challenge.rw_puzzlechest_k73_whole_two_heaps_doubled.prog w K mg base (L2.CX PySem.Challenge.rw_puzzlechest_k73_whole_two_heaps_doubled.prog w) 8 fa fd ["script"] (spLaw K) := by
  let l := PySem.Challenge.rw_puzzlechest_k73_whole_two_heaps_doubled
  have e := hfa.symm.trans (PySem.W.mg_of X G a_law)
  cases e
  have Φ : Facts w K mg := ⟨PySem.W.mg_none_of X G n_ValueError,
    PySem.W.mg_none_of X G n_abs,
    PySem.W.mg_none_of X G n_all,
    PySem.W.mg_none_of X G n_bool,
    PySem.W.mg_none_of X G n_int,
    PySem.W.mg_none_of X G n_isinstance,
    PySem.W.mg_none_of X G n_len,
    PySem.W.mg_none_of X G n_max,
    PySem.W.mg_none_of X G n_min,
    PySem.W.mg_none_of X G n_range,
    PySem.W.mg_none_of X G n_repr,
    PySem.W.mg_none_of X G n_sorted,
    PySem.W.mg_none_of X G n_tuple,
    ⟨_, PySem.W.mg_of X G g_MOST_HEAP⟩,
    def0 (l := l) X G a_is_integer l_is_integer c_is_integer k_is_integer fun us hl => match us, hl with | [_], _ => rfl,
    def0 (l := l) X G a_is_within l_is_within c_is_within k_is_within fun us hl => match us, hl with | [_, _, _], _ => rfl,
    def0 (l := l) X G a_common_part l_common_part c_common_part k_common_part fun us hl => match us, hl with | [_, _], _ => rfl,
    def0 (l := l) X G a_check_heaps l_check_heaps c_check_heaps k_check_heaps fun us hl => match us, hl with | [_, _], _ => rfl,
    def0 (l := l) X G a_rising_pair l_rising_pair c_rising_pair k_rising_pair fun us hl => match us, hl with | [_, _], _ => rfl,
    def0 (l := l) X G a_raw_doubled l_raw_doubled c_raw_doubled k_raw_doubled fun us hl => match us, hl with | [_], _ => rfl,
    def0 (l := l) X G a_doubled l_doubled c_doubled k_doubled fun us hl => match us, hl with | [_, _], _ => rfl,
    def0 (l := l) X G a_pairs_met l_pairs_met c_pairs_met k_pairs_met fun us hl => match us, hl with | [_, _], _ => rfl,
    def0 (l := l) X G a_turns_till_empty l_turns_till_empty c_turns_till_empty k_turns_till_empty fun us hl => match us, hl with | [_, _], _ => rfl,
    def0 (l := l) X G a_odd_part l_odd_part c_odd_part k_odd_part fun us hl => match us, hl with | [_, _], _ => rfl,
    def0 (l := l) X G a_heap_round l_heap_round c_heap_round k_heap_round fun us hl => match us, hl with | [_, _], _ => rfl,
    def0 (l := l) X G a_partners l_partners c_partners k_partners fun us hl => match us, hl with | [_], _ => rfl,
    def0 (l := l) X G a__law_hand l__law_hand c__law_hand k__law_hand fun us hl => match us, hl with | [_], _ => rfl,
    def0 (l := l) X G a__law_draw l__law_draw c__law_draw k__law_draw fun us hl => match us, hl with | [_, _], _ => rfl,
    def0 (l := l) X G a__law_some l__law_some c__law_some k__law_some fun us hl => match us, hl with | [_, _], _ => rfl,
    def0 (l := l) X G a__law_is l__law_is c__law_is k__law_is fun us hl => match us, hl with | [_, _], _ => rfl,
    def0 (l := l) X G a__law_common l__law_common c__law_common k__law_common fun us hl => match us, hl with | [_, _], _ => rfl,
    def0 (l := l) X G a__law_next l__law_next c__law_next k__law_next fun us hl => match us, hl with | [_], _ => rfl,
    def0 (l := l) X G a__law_gone l__law_gone c__law_gone k__law_gone fun us hl => match us, hl with | [_, _], _ => rfl,
    def0 (l := l) X G a__law_odd l__law_odd c__law_odd k__law_odd fun us hl => match us, hl with | [_, _], _ => rfl,
    def0 (l := l) X G a__law_is_round l__law_is_round c__law_is_round k__law_is_round fun us hl => match us, hl with | [_], _ => rfl,
    def0 (l := l) X G a__law_case_right l__law_case_right c__law_case_right k__law_case_right fun us hl => match us, hl with | [_, _, _], _ => rfl,
    def0 (l := l) X G a__law_word l__law_word c__law_word k__law_word fun us hl => match us, hl with | [_], _ => rfl,
    defC X G a__law_refused_right l__law_refused_right c__law_refused_right k__law_refused_right fun us hl => match us, hl with | [_], _ => rfl,
    ⟨⟨_, a_doubled, PySem.W.mg_of X G a_doubled⟩⟩,
    ⟨⟨_, a_heap_round, PySem.W.mg_of X G a_heap_round⟩⟩,
    ⟨⟨_, a_odd_part, PySem.W.mg_of X G a_odd_part⟩⟩,
    ⟨⟨_, a_turns_till_empty, PySem.W.mg_of X G a_turns_till_empty⟩⟩,
    ⟨x_PuzzleError, [("NoHeaps", x_NoHeaps), ("NoSum", x_NoSum), ("NoTurn", x_NoTurn)], PySem.W.mg_of X G x_PuzzleError_a, rfl, (List.forall_mem_cons.mpr ⟨PySem.W.mg_of X G x_NoHeaps_a, (List.forall_mem_cons.mpr ⟨PySem.W.mg_of X G x_NoSum_a, (List.forall_mem_cons.mpr ⟨PySem.W.mg_of X G x_NoTurn_a, (fun _ h => nomatch h)⟩)⟩)⟩), x_fam⟩⟩
  exact ⟨_, fun s v => .of_eq rfl, fun base _ _ TB => ok_law Φ TB (fun_mk (st := s_law) l_law c_law k_law) math⟩
end W
open PySem PySem.W PyProof.Rows
set_option maxHeartbeats 0 in
theorem PySem.Challenge.cw_puzzlechest_k73_whole_two_heaps_doubled_holds : PySem.Challenge.rw_puzzlechest_k73_whole_two_heaps_doubled.Holds := by
  w_on; o_law; k_head; (case hw => w_witness2)
  k_fill
  refine Ev.walk_ofTG (l := PySem.Challenge.rw_puzzlechest_k73_whole_two_heaps_doubled) (n := 63) (k := 8) (x := "script") (CX := fun w => L2.CX PySem.Challenge.rw_puzzlechest_k73_whole_two_heaps_doubled.prog w) (sp := fun w => Ev.spLaw _) rfl (by decide) rfl ⟨rfl, by decide, by decide⟩ (fun w h Y => ⟨PySem.W.km_in_of Y, fun b ⟨t, ht, e⟩ => by rw [← e]; exact PySem.W.km_tabs_of Y _ ((by decide +kernel : ∀ t ∈ Ev.TCS, t.2.1 ∈ [220]) t ht)⟩) ?tabK ?cod ?F (fun _ _ a ns hl hT hS => ⟨a, ns, rfl, hS, hT, hl, fun _ => rfl⟩) (fun _ _ _ _ _ h => Ev.noCX h)
  case tabK =>
    intro w b ⟨t, ht, e⟩
    subst e
    revert t
    exact (List.forall_mem_cons.mpr ⟨(by kernel_rfl), (fun _ h => nomatch h)⟩)
  case cod =>
    intro w
    exact (List.forall_mem_cons.mpr ⟨(by kernel_rfl), (fun _ h => nomatch h)⟩)
  case F =>
    intro w mg fa h KX G hmg
    refine' W.top KX G hmg ?n_ValueError ?n_abs ?n_all ?n_bool ?n_int ?n_isinstance ?n_len ?n_max ?n_min ?n_range ?n_repr ?n_sorted ?n_tuple ?g_MOST_HEAP ?a_is_integer ?l_is_integer ?c_is_integer ?k_is_integer ?a_is_within ?l_is_within ?c_is_within ?k_is_within ?a_common_part ?l_common_part ?c_common_part ?k_common_part ?a_check_heaps ?l_check_heaps ?c_check_heaps ?k_check_heaps ?a_rising_pair ?l_rising_pair ?c_rising_pair ?k_rising_pair ?a_raw_doubled ?l_raw_doubled ?c_raw_doubled ?k_raw_doubled ?a_doubled ?l_doubled ?c_doubled ?k_doubled ?a_pairs_met ?l_pairs_met ?c_pairs_met ?k_pairs_met ?a_turns_till_empty ?l_turns_till_empty ?c_turns_till_empty ?k_turns_till_empty ?a_odd_part ?l_odd_part ?c_odd_part ?k_odd_part ?a_heap_round ?l_heap_round ?c_heap_round ?k_heap_round ?a_partners ?l_partners ?c_partners ?k_partners ?a__law_hand ?l__law_hand ?c__law_hand ?k__law_hand ?a__law_draw ?l__law_draw ?c__law_draw ?k__law_draw ?a__law_some ?l__law_some ?c__law_some ?k__law_some ?a__law_is ?l__law_is ?c__law_is ?k__law_is ?a__law_common ?l__law_common ?c__law_common ?k__law_common ?a__law_next ?l__law_next ?c__law_next ?k__law_next ?a__law_gone ?l__law_gone ?c__law_gone ?k__law_gone ?a__law_odd ?l__law_odd ?c__law_odd ?k__law_odd ?a__law_is_round ?l__law_is_round ?c__law_is_round ?k__law_is_round ?a__law_case_right ?l__law_case_right ?c__law_case_right ?k__law_case_right ?a__law_word ?l__law_word ?c__law_word ?k__law_word ?a__law_refused_right ?l__law_refused_right ?c__law_refused_right ?k__law_refused_right ?x_PuzzleError_a ?x_NoHeaps_a ?x_NoSum_a ?x_NoTurn_a ?x_fam ?a_law ?l_law ?c_law ?k_law
    (case n_ValueError => k_is); (case n_abs => k_is); (case n_all => k_is); (case n_bool => k_is); (case n_int => k_is); (case n_isinstance => k_is); (case n_len => k_is); (case n_max => k_is); (case n_min => k_is); (case n_range => k_is); (case n_repr => k_is); (case n_sorted => k_is); (case n_tuple => k_is); (case g_MOST_HEAP => k_is); (case a_is_integer => k_is); (case l_is_integer => k_is); (case c_is_integer => k_is); (case k_is_integer => k_is); (case a_is_within => k_is); (case l_is_within => k_is); (case c_is_within => k_is); (case k_is_within => k_is); (case a_common_part => k_is); (case l_common_part => k_is); (case c_common_part => k_is); (case k_common_part => k_is); (case a_check_heaps => k_is); (case l_check_heaps => k_is); (case c_check_heaps => k_is); (case k_check_heaps => k_is); (case a_rising_pair => k_is); (case l_rising_pair => k_is); (case c_rising_pair => k_is); (case k_rising_pair => k_is); (case a_raw_doubled => k_is); (case l_raw_doubled => k_is); (case c_raw_doubled => k_is); (case k_raw_doubled => k_is); (case a_doubled => k_is); (case l_doubled => k_is); (case c_doubled => k_is); (case k_doubled => k_is); (case a_pairs_met => k_is); (case l_pairs_met => k_is); (case c_pairs_met => k_is); (case k_pairs_met => k_is); (case a_turns_till_empty => k_is); (case l_turns_till_empty => k_is); (case c_turns_till_empty => k_is); (case k_turns_till_empty => k_is); (case a_odd_part => k_is); (case l_odd_part => k_is); (case c_odd_part => k_is); (case k_odd_part => k_is); (case a_heap_round => k_is); (case l_heap_round => k_is); (case c_heap_round => k_is); (case k_heap_round => k_is); (case a_partners => k_is); (case l_partners => k_is); (case c_partners => k_is); (case k_partners => k_is); (case a__law_hand => k_is); (case l__law_hand => k_is); (case c__law_hand => k_is); (case k__law_hand => k_is); (case a__law_draw => k_is); (case l__law_draw => k_is); (case c__law_draw => k_is); (case k__law_draw => k_is); (case a__law_some => k_is); (case l__law_some => k_is); (case c__law_some => k_is); (case k__law_some => k_is); (case a__law_is => k_is); (case l__law_is => k_is); (case c__law_is => k_is); (case k__law_is => k_is); (case a__law_common => k_is); (case l__law_common => k_is); (case c__law_common => k_is); (case k__law_common => k_is); (case a__law_next => k_is); (case l__law_next => k_is); (case c__law_next => k_is); (case k__law_next => k_is); (case a__law_gone => k_is); (case l__law_gone => k_is); (case c__law_gone => k_is); (case k__law_gone => k_is); (case a__law_odd => k_is); (case l__law_odd => k_is); (case c__law_odd => k_is); (case k__law_odd => k_is); (case a__law_is_round => k_is); (case l__law_is_round => k_is); (case c__law_is_round => k_is); (case k__law_is_round => k_is); (case a__law_case_right => k_is); (case l__law_case_right => k_is); (case c__law_case_right => k_is); (case k__law_case_right => k_is); (case a__law_word => k_is); (case l__law_word => k_is); (case c__law_word => k_is); (case k__law_word => k_is); (case a__law_refused_right => k_is); (case l__law_refused_right => k_is); (case c__law_refused_right => k_is); (case k__law_refused_right => k_is); (case x_PuzzleError_a => k_is); (case x_NoHeaps_a => k_is); (case x_NoSum_a => k_is); (case x_NoTurn_a => k_is); (case x_fam => kernel_rfl); (case a_law => k_is); (case l_law => k_is); (case c_law => k_is); (case k_law => k_is)

