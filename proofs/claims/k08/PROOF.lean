import PyProof.Rows.All
import Wide.All
import OpenK.AllK
import Wide.FinOn
import PyProof.EqAt
import PyProof.EqKinds
import PyProof.TupleCall
import KE.SortData
import KE.KDictDisplayH
import HandS.ForMost
import HandS.Walk
import HandS.Zip
import HandS.Conv
import HandS.TupAny
import HandS.TupLe
import HandS.IsInst
import HandS.Exc
import HandS.ExcOwn
import HandS.TryOnly
import HandS.TryMany
import HandS.WordsExc
import HandS.WordsList
import HandS.Lambda
import HandS.Strs
import HandS.Flow
import HandS.SortInts
import HandS.CallSlots
import HandS.Dict
import HandS.Defaults
import HandS.Head0
import HandS.Head1
import HandS.Head2
import HandS.HeadEnd
import HandS.HeadHook1
import HandS.HeadHook2
import KE.KStateDown
import Lean
import PySem.Challenge.RW_chosenmoves_k08_class_by_two_series
set_option Elab.async false
set_option linter.all false
set_option maxRecDepth 100000
set_option maxHeartbeats 4000000
namespace Ev
open PySem PySem.Spec L2

/-! ## values -/
inductive D where
  | non | bl (b : Bool) | int (i : Int) | str (s : Str)
  | tup (xs : List D) | tpn (xs : List D) | lst (xs : List D)
  | scr (ns : List Int)
  | ins (c : Nat) (fs : List D)
  deriving Inhabited

/-- the text's names as the proof needs them: classes (with their fields), where they stand -/
structure ClsI where
  name : Str
  fields : List Str

/-! ## how a value lies in the abstract heap -/
structure Wd where
  K : PySem.W.Frag
  cls : Nat → Option ClsI
  cad : Nat → Addr
  /-- the tables of the defs that make lambdas -/
  T : List (Addr × Str)
  /-- within __init__: the instance -/
  self : Addr

/-- a tuple that is told whole: it has no dict -/
def TpN (K : PySem.W.Frag) (H : Hp) (a : Addr) (vs : List V) : Prop :=
  (∃ ob, H a = some (.frz ob (.tup vs)) ∧ ob.dict = none) ∨
    ∃ (o : Obj) (its : Array Value) (n : Nat), K.lookup a = some o ∧ o.cls = .type "tuple" ∧ o.dict = none ∧ o.data = .seq its n ∧ its.size ≤ sizeLine ∧ Vals vs its.toList
theorem TpN.sqt {K : PySem.W.Frag} {H : Hp} {a : Addr} {vs : List V} (h : TpN K H a vs) : SqT K H a vs := by
  rcases h with ⟨ob, h, _⟩ | ⟨o, its, n, h1, h2, _, h3⟩
  · exact .inl (.inr ⟨ob, h⟩)
  · exact .inr ⟨o, its, n, h1, h2, h3⟩
/-- the script: a list that nobody changes -/
def ScrAt (K : PySem.W.Frag) (H : Hp) (O : Addr → Prop) (a : Addr) (ns : List Int) : Prop :=
  (Rd H a (.lst (ns.map V.int)) ∧ ¬ O a) ∨ ∃ (o : Obj) (its : Array Value) (n : Nat), K.lookup a = some o ∧ o.cls = .type "list" ∧ o.dict = none ∧ o.data = .seq its n ∧ its.size ≤ sizeLine ∧ Vals (ns.map V.int) its.toList
theorem ScrAt.sql {K : PySem.W.Frag} {H : Hp} {O : Addr → Prop} {a : Addr} {ns : List Int} (h : ScrAt K H O a ns) : SqL K H a (ns.map V.int) := h.imp (·.1) id
variable (W : Wd)
mutual
/-- d lies at v in H; O: the addresses that may still change -/
def Rep (H : Hp) (O : Addr → Prop) : D → V → Prop
  | .non, v => v = .non
  | .bl b, v => v = .bl b
  | .int i, v => v = .int i
  | .str s, v => v = .str s
  | .tup xs, v => ∃ a vs, v = .ref a ∧ H a = some (.tup vs) ∧ Reps H O xs vs
  | .tpn xs, v => ∃ a vs, v = .ref a ∧ TpN W.K H a vs ∧ Reps H O xs vs
  | .lst xs, v => ∃ a vs, v = .ref a ∧ H a = some (.lst vs) ∧ ¬ O a ∧ Reps H O xs vs
  | .scr ns, v => ∃ a, v = .ref a ∧ ScrAt W.K H O a ns
  | .ins c fs, v => ∃ a dx fvs ci, v = .ref a ∧ H a = some (.ins (W.cad c) dx fvs) ∧ ¬ O a ∧ W.cls c = some ci ∧ fvs.map (·.1) = ci.fields ∧ Reps H O fs (fvs.map (·.2))
termination_by structural d => d
def Reps (H : Hp) (O : Addr → Prop) : List D → List V → Prop
  | [], vs => vs = []
  | d :: ds, vs => ∃ v r, vs = v :: r ∧ Rep H O d v ∧ Reps H O ds r
termination_by structural ds => ds
end

/-- what may change: O -/
def Kept (O : Addr → Prop) (H H' : Hp) : Prop := ∀ b o, H b = some o → ¬ O b → (∀ ps, o ≠ .tbl ps) → H' b = some o
/-- the heap has grown -/
structure Ext (T : List (Addr × Str)) (H H' : Hp) : Prop where
  keep : ∀ b o, H b = some o → (∀ ps, o ≠ .tbl ps) → H' b = some o
  tbl : ∀ b ps, H b = some (.tbl ps) → ∃ qs, H' b = some (.tbl qs)
  tabs : LamX.Tabs T H → LamX.Tabs T H'
theorem Ext.refl {T : List (Addr × Str)} (H : Hp) : Ext T H H := ⟨fun _ _ h _ => h, fun _ ps h => ⟨ps, h⟩, id⟩
theorem Ext.trans {T : List (Addr × Str)} {H H1 H2 : Hp} (a : Ext T H H1) (b : Ext T H1 H2) : Ext T H H2 :=
  ⟨fun c o h n => b.keep c o (a.keep c o h n) n, fun c ps h => let ⟨qs, e⟩ := a.tbl c ps h; b.tbl c qs e, fun t => b.tabs (a.tabs t)⟩
theorem Ext.same {T : List (Addr × Str)} {H H1 : Hp} (a : Same H H1) : Ext T H H1 := ⟨fun c o h _ => a c o h, fun c ps h => ⟨ps, a _ _ h⟩, fun t => t.ext a⟩
theorem Ext.upd {T : List (Addr × Str)} {H : Hp} {a : Addr} {o : HO} (h : H a = none) : Ext T H (upd H a o) := Ext.same fun b u e => by rw [upd_ne (ne_of_none e h)]; exact e
theorem Ext.none {T : List (Addr × Str)} {H H' : Hp} (e : Ext T H H') {a : Addr} (h : H' a = none) : H a = none := by
  cases q : H a with
  | none => rfl
  | some o =>
    by_cases t : ∃ ps, o = .tbl ps
    · obtain ⟨ps, rfl⟩ := t
      obtain ⟨qs, z⟩ := e.tbl a ps q
      rw [h] at z; cases z
    · have z := e.keep a o q fun ps z => t ⟨ps, z⟩
      rw [h] at z; cases z
theorem Ext.lst {T : List (Addr × Str)} {H H' : Hp} (e : Ext T H H') {a : Addr} {vs : List V} (h : H a = some (.lst vs)) : H' a = some (.lst vs) := e.keep _ _ h fun ps z => by cases z
theorem Kept.of {T : List (Addr × Str)} {O : Addr → Prop} {H H' : Hp} (e : Ext T H H') : Kept O H H' := fun b o h _ t => e.keep b o h t

/-- a list or a dict stands there -/
def LD (H : Hp) (a : Addr) : Prop := (∃ xs, H a = some (.lst xs)) ∨ (∃ k, H a = some (.dK k)) ∨ ∃ k, H a = some (.dT k)
/-- O tells lists, dicts and instances alone -/
def Own (O : Addr → Prop) (H : Hp) : Prop := ∀ a, O a → LD H a ∨ ∃ C dx fs, H a = some (.ins C dx fs)
theorem Own.some {O : Addr → Prop} {H : Hp} (ow : Own O H) {a : Addr} (h : O a) : ∃ o, H a = some o ∧ (∀ ps, o ≠ .tbl ps) ∧ (∀ xs, o ≠ .tup xs) ∧ ∀ ob u, o ≠ .frz ob u := by
  rcases ow a h with (⟨x, e⟩ | ⟨x, e⟩ | ⟨x, e⟩) | ⟨C, dx, fs, e⟩ <;> exact ⟨_, e, (fun ps z => by cases z), (fun ps z => by cases z), fun ps q z => by cases z⟩
theorem Own.ext {T : List (Addr × Str)} {O : Addr → Prop} {H H' : Hp} (ow : Own O H) (e : Ext T H H') : Own O H' := fun a h => by
  rcases ow a h with (⟨x, q⟩ | ⟨x, q⟩ | ⟨x, q⟩) | ⟨C, dx, fs, q⟩
  · exact .inl (.inl ⟨x, e.keep _ _ q fun ps z => by cases z⟩)
  · exact .inl (.inr (.inl ⟨x, e.keep _ _ q fun ps z => by cases z⟩))
  · exact .inl (.inr (.inr ⟨x, e.keep _ _ q fun ps z => by cases z⟩))
  · exact .inr ⟨C, dx, fs, e.keep _ _ q fun ps z => by cases z⟩

/-- no tuple, nothing frozen is told by O -/
def Soft (O : Addr → Prop) (H : Hp) : Prop := ∀ a, O a → ∀ o, H a = some o → (∀ xs, o ≠ .tup xs) ∧ ∀ ob u, o ≠ .frz ob u
theorem Own.soft {O : Addr → Prop} {H : Hp} (ow : Own O H) : Soft O H := fun a h o e => by
  obtain ⟨u, e', _, h1, h2⟩ := ow.some h
  rw [e] at e'; cases e'
  exact ⟨h1, h2⟩
theorem Soft.add {O : Addr → Prop} {H : Hp} {a : Addr} (s : Soft O H) (h : H a = none) : Soft (fun b => O b ∨ b = a) H := fun b hb o e => by
  rcases hb with hb | rfl
  · exact s b hb o e
  · rw [h] at e; cases e
variable {W}
theorem rd_kept {O : Addr → Prop} {H H' : Hp} {a : Addr} {u : HO} (k : Kept O H H') (ow : Soft O H) (hu : ∀ ps, u ≠ .tbl ps) (h : Rd H a u) (n : ¬ O a) : Rd H' a u := by
  rcases h with h | ⟨o, h⟩
  · exact .inl (k _ _ h n hu)
  · exact .inr ⟨o, k _ _ h n (fun ps z => by cases z)⟩
theorem sqt_kept {O : Addr → Prop} {H H' : Hp} {a : Addr} {xs : List V} (k : Kept O H H') (ow : Soft O H) (h : SqT W.K H a xs) : SqT W.K H' a xs := by
  rcases h with h | h
  · refine .inl (rd_kept k ow (fun ps z => by cases z) h fun o => ?_)
    rcases h with h | ⟨ob, h⟩
    · exact (ow _ o _ h).1 _ rfl
    · exact (ow _ o _ h).2 _ _ rfl
  · exact .inr h
theorem tpn_kept {O : Addr → Prop} {H H' : Hp} {a : Addr} {xs : List V} (k : Kept O H H') (ow : Soft O H) (h : TpN W.K H a xs) : TpN W.K H' a xs := by
  rcases h with ⟨ob, h, n⟩ | h
  · exact .inl ⟨ob, k _ _ h (fun o => (ow _ o _ h).2 _ _ rfl) (fun ps z => by cases z), n⟩
  · exact .inr h
mutual
theorem Rep.kept {O : Addr → Prop} {H H' : Hp} (k : Kept O H H') (ow : Soft O H) : ∀ (d : D) (v : V), Rep W H O d v → Rep W H' O d v
  | .non, v, h => h
  | .bl b, v, h => h
  | .int i, v, h => h
  | .str s, v, h => h
  | .tup xs, v, ⟨a, vs, e, h, r⟩ => ⟨a, vs, e, k _ _ h (fun o => (ow _ o _ h).1 _ rfl) (fun ps z => by cases z), Reps.kept k ow xs vs r⟩
  | .tpn xs, v, ⟨a, vs, e, h, r⟩ => ⟨a, vs, e, tpn_kept k ow h, Reps.kept k ow xs vs r⟩
  | .lst xs, v, ⟨a, vs, e, h, n, r⟩ => ⟨a, vs, e, k _ _ h n (fun ps z => by cases z), n, Reps.kept k ow xs vs r⟩
  | .scr ns, v, ⟨a, e, h⟩ => ⟨a, e, h.imp (fun q => ⟨rd_kept k ow (fun ps z => by cases z) q.1 q.2, q.2⟩) id⟩
  | .ins c fs, v, ⟨a, dx, fvs, ci, e, h, n, hc, hf, r⟩ => ⟨a, dx, fvs, ci, e, k _ _ h n (fun ps z => by cases z), n, hc, hf, Reps.kept k ow fs _ r⟩
termination_by structural d => d
theorem Reps.kept {O : Addr → Prop} {H H' : Hp} (k : Kept O H H') (ow : Soft O H) : ∀ (ds : List D) (vs : List V), Reps W H O ds vs → Reps W H' O ds vs
  | [], vs, h => h
  | d :: ds, vs, ⟨v, r, e, h, t⟩ => ⟨v, r, e, Rep.kept k ow d v h, Reps.kept k ow ds r t⟩
termination_by structural ds => ds
end
mutual
/-- fewer may change -/
theorem Rep.less {O O' : Addr → Prop} {H : Hp} (h : ∀ a, O' a → O a) : ∀ (d : D) (v : V), Rep W H O d v → Rep W H O' d v
  | .non, v, h => h
  | .bl b, v, h => h
  | .int i, v, h => h
  | .str s, v, h => h
  | .tup xs, v, ⟨a, vs, e, h1, r⟩ => ⟨a, vs, e, h1, Reps.less h xs vs r⟩
  | .tpn xs, v, ⟨a, vs, e, h1, r⟩ => ⟨a, vs, e, h1, Reps.less h xs vs r⟩
  | .lst xs, v, ⟨a, vs, e, h1, n, r⟩ => ⟨a, vs, e, h1, fun z => n (h a z), Reps.less h xs vs r⟩
  | .scr ns, v, ⟨a, e, h1⟩ => ⟨a, e, h1.imp (fun q => ⟨q.1, fun z => q.2 (h a z)⟩) id⟩
  | .ins c fs, v, ⟨a, dx, fvs, ci, e, h1, n, hc, hf, r⟩ => ⟨a, dx, fvs, ci, e, h1, fun z => n (h a z), hc, hf, Reps.less h fs _ r⟩
termination_by structural d => d
theorem Reps.less {O O' : Addr → Prop} {H : Hp} (h : ∀ a, O' a → O a) : ∀ (ds : List D) (vs : List V), Reps W H O ds vs → Reps W H O' ds vs
  | [], vs, h => h
  | d :: ds, vs, ⟨v, r, e, h1, t⟩ => ⟨v, r, e, Rep.less h d v h1, Reps.less h ds r t⟩
termination_by structural ds => ds
end
mutual
/-- no list within (nor the script): such a thing cannot change -/
def D.flat : D → Bool
  | .lst _ => false
  | .scr _ => false
  | .tup xs => D.flats xs
  | .tpn xs => D.flats xs
  | .ins _ xs => D.flats xs
  | _ => true
termination_by structural d => d
def D.flats : List D → Bool
  | [] => true
  | x :: xs => x.flat && D.flats xs
termination_by structural d => d
end
mutual
theorem Rep.flat {O O' : Addr → Prop} {H : Hp} (ow : ∀ a, O' a → O a ∨ LD H a) : ∀ (d : D) (v : V), d.flat = true → Rep W H O d v → Rep W H O' d v
  | .non, v, _, h => h
  | .bl b, v, _, h => h
  | .int i, v, _, h => h
  | .str s, v, _, h => h
  | .tup xs, v, f, ⟨a, vs, e, h1, r⟩ => ⟨a, vs, e, h1, Reps.flat ow xs vs f r⟩
  | .tpn xs, v, f, ⟨a, vs, e, h1, r⟩ => ⟨a, vs, e, h1, Reps.flat ow xs vs f r⟩
  | .lst xs, v, f, h => by cases f
  | .scr xs, v, f, h => by cases f
  | .ins c fs, v, f, ⟨a, dx, fvs, ci, e, h1, n, hc, hf, r⟩ => ⟨a, dx, fvs, ci, e, h1, fun z => (by
      rcases ow a z with q | ⟨ys, q⟩ | ⟨ys, q⟩ | ⟨ys, q⟩
      · exact n q
      all_goals (rw [q] at h1; cases h1)), hc, hf, Reps.flat ow fs _ f r⟩
termination_by structural d => d
theorem Reps.flat {O O' : Addr → Prop} {H : Hp} (ow : ∀ a, O' a → O a ∨ LD H a) : ∀ (ds : List D) (vs : List V), D.flats ds = true → Reps W H O ds vs → Reps W H O' ds vs
  | [], vs, _, h => h
  | d :: ds, vs, f, ⟨v, r, e, h, t⟩ => by
    have f' : (d.flat && D.flats ds) = true := f
    rw [Bool.and_eq_true] at f'
    exact ⟨v, r, e, Rep.flat ow d v f'.1 h, Reps.flat ow ds r f'.2 t⟩
termination_by structural ds => ds
end
mutual
/-- an address that was free may change, too -/
theorem Rep.more {O O' : Addr → Prop} {H : Hp} (h : ∀ a, O' a → O a ∨ H a = none) : ∀ (d : D) (v : V), Rep W H O d v → Rep W H O' d v
  | .non, v, h => h
  | .bl b, v, h => h
  | .int i, v, h => h
  | .str s, v, h => h
  | .tup xs, v, ⟨a, vs, e, h1, r⟩ => ⟨a, vs, e, h1, Reps.more h xs vs r⟩
  | .tpn xs, v, ⟨a, vs, e, h1, r⟩ => ⟨a, vs, e, h1, Reps.more h xs vs r⟩
  | .lst xs, v, ⟨a, vs, e, h1, n, r⟩ => ⟨a, vs, e, h1, fun z => (h a z).elim n fun q => (by rw [q] at h1; cases h1), Reps.more h xs vs r⟩
  | .scr ns, v, ⟨a, e, h1⟩ => ⟨a, e, h1.imp (fun w => ⟨w.1, fun z => (h a z).elim w.2 fun q => (by rcases w.1 with h1 | ⟨o, h1⟩ <;> rw [q] at h1 <;> cases h1)⟩) id⟩
  | .ins c fs, v, ⟨a, dx, fvs, ci, e, h1, n, hc, hf, r⟩ => ⟨a, dx, fvs, ci, e, h1, fun z => (h a z).elim n fun q => (by rw [q] at h1; cases h1), hc, hf, Reps.more h fs _ r⟩
termination_by structural d => d
theorem Reps.more {O O' : Addr → Prop} {H : Hp} (h : ∀ a, O' a → O a ∨ H a = none) : ∀ (ds : List D) (vs : List V), Reps W H O ds vs → Reps W H O' ds vs
  | [], vs, h => h
  | d :: ds, vs, ⟨v, r, e, h1, t⟩ => ⟨v, r, e, Rep.more h d v h1, Reps.more h ds r t⟩
termination_by structural ds => ds
end
theorem Reps.length {O : Addr → Prop} {H : Hp} : ∀ {ds : List D} {vs : List V}, Reps W H O ds vs → vs.length = ds.length
  | [], vs, h => by rw [show vs = [] from h]; rfl
  | d :: ds, vs, ⟨v, r, e, h, t⟩ => by rw [e]; simp [Reps.length t]
theorem Reps.get {O : Addr → Prop} {H : Hp} : ∀ {ds : List D} {vs : List V} {i : Nat} {d : D}, Reps W H O ds vs → ds[i]? = some d → ∃ v, vs[i]? = some v ∧ Rep W H O d v
  | [], vs, i, d, h, e => by simp at e
  | x :: ds, vs, 0, d, ⟨v, r, e, h, t⟩, q => by simp at q; subst q; exact ⟨v, by rw [e]; rfl, h⟩
  | x :: ds, vs, i + 1, d, ⟨v, r, e, h, t⟩, q => by
    obtain ⟨u, h1, h2⟩ := Reps.get (i := i) t (by simpa using q)
    exact ⟨u, by rw [e]; simpa using h1, h2⟩
theorem Reps.append {O : Addr → Prop} {H : Hp} : ∀ {ds es : List D} {vs us : List V}, Reps W H O ds vs → Reps W H O es us → Reps W H O (ds ++ es) (vs ++ us)
  | [], es, vs, us, h, k => by rw [show vs = [] from h]; exact k
  | x :: ds, es, vs, us, ⟨v, r, e, h, t⟩, k => by rw [e]; exact ⟨v, r ++ us, rfl, h, Reps.append t k⟩
theorem Reps.take {O : Addr → Prop} {H : Hp} : ∀ {ds : List D} {vs : List V} (n : Nat), Reps W H O ds vs → Reps W H O (ds.take n) (vs.take n)
  | _, _, 0, _ => by simp [Reps]
  | [], vs, n + 1, h => by rw [show vs = [] from h]; rfl
  | x :: ds, vs, n + 1, ⟨v, r, e, h, t⟩ => by rw [e]; exact ⟨v, r.take n, rfl, h, Reps.take n t⟩
theorem Reps.drop {O : Addr → Prop} {H : Hp} : ∀ {ds : List D} {vs : List V} (n : Nat), Reps W H O ds vs → Reps W H O (ds.drop n) (vs.drop n)
  | _, _, 0, h => by simpa using h
  | [], vs, n + 1, h => by rw [show vs = [] from h]; rfl
  | x :: ds, vs, n + 1, ⟨v, r, e, h, t⟩ => by rw [e]; exact Reps.drop n t
theorem Reps.set {O : Addr → Prop} {H : Hp} {x : D} {u : V} (hx : Rep W H O x u) : ∀ {ds : List D} {vs : List V} (n : Nat), Reps W H O ds vs → Reps W H O (ds.set n x) (vs.set n u)
  | [], vs, n, h => by rw [show vs = [] from h]; simp [Reps]
  | y :: ds, vs, 0, ⟨v, r, e, h, t⟩ => by rw [e]; exact ⟨u, r, rfl, hx, t⟩
  | y :: ds, vs, n + 1, ⟨v, r, e, h, t⟩ => by rw [e]; exact ⟨v, r.set n u, rfl, h, Reps.set hx n t⟩
theorem Reps.erase {O : Addr → Prop} {H : Hp} : ∀ {ds : List D} {vs : List V} (n : Nat), Reps W H O ds vs → Reps W H O (ds.eraseIdx n) (vs.eraseIdx n)
  | [], vs, n, h => by rw [show vs = [] from h]; simp [Reps]
  | y :: ds, vs, 0, ⟨v, r, e, h, t⟩ => by rw [e]; exact t
  | y :: ds, vs, n + 1, ⟨v, r, e, h, t⟩ => by rw [e]; exact ⟨v, r.eraseIdx n, rfl, h, Reps.erase n t⟩
theorem Reps.reverse {O : Addr → Prop} {H : Hp} : ∀ {ds : List D} {vs : List V}, Reps W H O ds vs → Reps W H O ds.reverse vs.reverse
  | [], vs, h => by rw [show vs = [] from h]; simp [Reps]
  | y :: ds, vs, ⟨v, r, e, h, t⟩ => by
    rw [e, List.reverse_cons, List.reverse_cons]
    exact Reps.append (Reps.reverse t) ⟨v, [], rfl, h, rfl⟩
theorem Reps.one {O : Addr → Prop} {H : Hp} {d : D} {v : V} (h : Rep W H O d v) : Reps W H O [d] [v] := ⟨v, [], rfl, h, rfl⟩
theorem Reps.ints {O : Addr → Prop} {H : Hp} : ∀ (ns : List Int), Reps W H O (ns.map D.int) (ns.map V.int)
  | [] => rfl
  | n :: ns => ⟨_, _, rfl, rfl, Reps.ints ns⟩
theorem Reps.ints_eq {O : Addr → Prop} {H : Hp} : ∀ {ns : List Int} {vs : List V}, Reps W H O (ns.map D.int) vs → vs = ns.map V.int
  | [], vs, h => h
  | n :: ns, vs, ⟨v, r, e, h, t⟩ => by rw [e, show v = V.int n from h, Reps.ints_eq t]; rfl
end Ev


set_option Elab.async false
set_option linter.all false
set_option maxRecDepth 100000
set_option maxHeartbeats 4000000
namespace Ev
open PySem PySem.Spec L2
/-- what a name of the def holds: nothing that is known; a value; a list, a dict (keys: tuples of ints; ints and texts) of the def's own that may still change; an instance that is being made -/
inductive Sl where
  | u | d (d : D) | l (xs : List D) | t (kvs : List (List Int × D)) | k (kvs : List (Key × D)) | o (c : Nat) (fs : List D) | x (c : Nat) (fs : List D)
  deriving Inhabited
def Sl.own : Sl → Bool
  | .l _ => true
  | .t _ => true
  | .k _ => true
  | .o _ _ => true
  | _ => false
variable {W : Wd}
def OwnS (σd : List Sl) (σ : L2.St) (a : Addr) : Prop := ∃ (i : Nat) (sl : Sl), σd[i]? = some sl ∧ sl.own = true ∧ σ[i]? = some (some (V.ref a))
abbrev OT (Oc : Addr → Prop) (σd : List Sl) (σ : L2.St) : Addr → Prop := fun a => Oc a ∨ OwnS σd σ a
/-- what stands at the address of an own slot -/
def HoOk (W : Wd) (H : Hp) (O : Addr → Prop) (a : Addr) : Sl → Prop
  | .l xs => ∃ vs, H a = some (.lst vs) ∧ Reps W H O xs vs
  | .t kvs => ∃ ws, H a = some (.dT ws) ∧ ws.map (·.1) = kvs.map (fun p => p.1.map Sum.inl) ∧ Reps W H O (kvs.map (·.2)) (ws.map (·.2))
  | .k kvs => ∃ ws, H a = some (.dK ws) ∧ ws.map (·.1) = kvs.map (·.1) ∧ Reps W H O (kvs.map (·.2)) (ws.map (·.2))
  | .o c fs => a = W.self ∧ ∃ dx fvs ci, H a = some (.ins (W.cad c) dx fvs) ∧ W.cls c = some ci ∧ fvs.map (·.1) = ci.fields.take fs.length ∧ fs.length ≤ ci.fields.length ∧ Reps W H O fs (fvs.map (·.2))
  | _ => False
def SlOk (W : Wd) (H0 H : Hp) (O : Addr → Prop) (σ : L2.St) (i : Nat) : Sl → Prop
  | .u => True
  | .x _ _ => True
  | .d d => ∃ v, σ[i]? = some (some v) ∧ Rep W H O d v
  | sl => ∃ a, σ[i]? = some (some (V.ref a)) ∧ H0 a = none ∧ HoOk W H O a sl
structure RelS (W : Wd) (Oc : Addr → Prop) (H0 : Hp) (σd : List Sl) (σ : L2.St) (H : Hp) : Prop where
  len : σ.length = σd.length
  ext : Ext W.T H0 H
  oc : Own Oc H0
  slots : ∀ i sl, σd[i]? = some sl → SlOk W H0 H (OT Oc σd σ) σ i sl
  uniq : ∀ (i j : Nat) (sl sl' : Sl) (a : Addr), σd[i]? = some sl → σd[j]? = some sl' → sl.own = true → sl'.own = true → σ[i]? = some (some (V.ref a)) → σ[j]? = some (some (V.ref a)) → i = j
  tabs : LamX.Tabs W.T H
variable {Oc : Addr → Prop} {H0 H H' : Hp} {σd : List Sl} {σ : L2.St}
theorem HoOk.there {O : Addr → Prop} {a : Addr} {sl : Sl} (h : HoOk W H O a sl) : LD H a ∨ ∃ C dx fs, H a = some (.ins C dx fs) := by
  cases sl with
  | l xs => obtain ⟨vs, e, _⟩ := h; exact .inl (.inl ⟨vs, e⟩)
  | t kvs => obtain ⟨vs, e, _⟩ := h; exact .inl (.inr (.inr ⟨vs, e⟩))
  | k kvs => obtain ⟨vs, e, _⟩ := h; exact .inl (.inr (.inl ⟨vs, e⟩))
  | o c fs => obtain ⟨_, dx, fvs, ci, e, _⟩ := h; exact .inr ⟨_, _, _, e⟩
  | u => exact h.elim
  | x _ _ => exact h.elim
  | d _ => exact h.elim
theorem SlOk.own {i : Nat} {sl : Sl} {O : Addr → Prop} (h : SlOk W H0 H O σ i sl) (ow : sl.own = true) : ∃ a, σ[i]? = some (some (V.ref a)) ∧ H0 a = none ∧ HoOk W H O a sl := by
  cases sl <;> first | exact h | cases ow
theorem RelS.ownS (R : RelS W Oc H0 σd σ H) {a : Addr} (h : OwnS σd σ a) : H0 a = none ∧ (LD H a ∨ ∃ C dx fs, H a = some (.ins C dx fs)) := by
  obtain ⟨i, sl, h1, h2, h3⟩ := h
  obtain ⟨b, e, n, o⟩ := (R.slots i sl h1).own h2
  rw [h3] at e
  cases e
  exact ⟨n, o.there⟩
theorem RelS.own (R : RelS W Oc H0 σd σ H) : Own (OT Oc σd σ) H := fun a h => by
  rcases h with h | h
  · exact (R.oc.ext R.ext) a h
  · exact (R.ownS h).2
theorem HoOk.kept {O : Addr → Prop} {a : Addr} {sl : Sl} (h : HoOk W H O a sl) (k : Kept O H H') (ow : Soft O H) (e : H' a = H a) : HoOk W H' O a sl := by
  cases sl with
  | l xs => obtain ⟨vs, q, r⟩ := h; exact ⟨vs, e.trans q, r.kept k ow⟩
  | t kvs => obtain ⟨vs, q, q2, r⟩ := h; exact ⟨vs, e.trans q, q2, r.kept k ow⟩
  | k kvs => obtain ⟨vs, q, q2, r⟩ := h; exact ⟨vs, e.trans q, q2, r.kept k ow⟩
  | o c fs => obtain ⟨qs, dx, fvs, ci, q, q2, q3, q4, r⟩ := h; exact ⟨qs, dx, fvs, ci, e.trans q, q2, q3, q4, r.kept k ow⟩
  | u => exact h.elim
  | x _ _ => exact h.elim
  | d _ => exact h.elim
theorem HoOk.imp {O O' : Addr → Prop} {a : Addr} {sl : Sl} (h : HoOk W H O a sl) (f : ∀ ds vs, Reps W H O ds vs → Reps W H O' ds vs) : HoOk W H O' a sl := by
  cases sl with
  | l xs => obtain ⟨vs, q, r⟩ := h; exact ⟨vs, q, f _ _ r⟩
  | t kvs => obtain ⟨vs, q, q2, r⟩ := h; exact ⟨vs, q, q2, f _ _ r⟩
  | k kvs => obtain ⟨vs, q, q2, r⟩ := h; exact ⟨vs, q, q2, f _ _ r⟩
  | o c fs => obtain ⟨qs, dx, fvs, ci, q, q2, q3, q4, r⟩ := h; exact ⟨qs, dx, fvs, ci, q, q2, q3, q4, f _ _ r⟩
  | u => exact h.elim
  | x _ _ => exact h.elim
  | d _ => exact h.elim
theorem SlOk.of {O : Addr → Prop} {i : Nat} {sl : Sl} (h : sl.own = true) (q : ∃ a, σ[i]? = some (some (V.ref a)) ∧ H0 a = none ∧ HoOk W H O a sl) : SlOk W H0 H O σ i sl := by
  cases sl <;> first | exact q | cases h
/-- the heap grows -/
theorem RelS.grow (R : RelS W Oc H0 σd σ H) (e : Ext W.T H H') : RelS W Oc H0 σd σ H' where
  len := R.len
  ext := R.ext.trans e
  oc := R.oc
  uniq := R.uniq
  tabs := e.tabs R.tabs
  slots := fun i sl hi => by
    have h := R.slots i sl hi
    by_cases ho : sl.own = true
    · obtain ⟨a, e1, n, o⟩ := h.own ho
      refine .of ho ⟨a, e1, n, o.kept (Kept.of e) R.own.soft ?_⟩
      rcases o.there with (⟨x, q⟩ | ⟨x, q⟩ | ⟨x, q⟩) | ⟨C, dx, fs, q⟩ <;> rw [q] <;> exact e.keep _ _ q fun ps z => by cases z
    · cases sl with
      | u => trivial
      | x _ _ => trivial
      | d d => obtain ⟨v, e1, r⟩ := h; exact ⟨v, e1, r.kept (Kept.of e) R.own.soft⟩
      | _ => exact (ho rfl).elim
theorem OT.set_sub {i : Nat} {sl : Sl} {v : Option V} (h : sl.own = false) : ∀ a, OT Oc (σd.set i sl) (σ.set i v) a → OT Oc σd σ a := by
  rintro a (h' | ⟨j, sl', h1, h2, h3⟩)
  · exact .inl h'
  · by_cases hj : i = j
    · subst hj
      rw [List.getElem?_set] at h1
      simp only [if_true] at h1
      split at h1
      · cases h1; rw [h] at h2; cases h2
      · cases h1
    · rw [List.getElem?_set_ne hj] at h1 h3
      exact .inr ⟨j, sl', h1, h2, h3⟩
/-- a slot is given a value -/
theorem RelS.put (R : RelS W Oc H0 σd σ H) {i : Nat} {d : D} {v : V} (hv : Rep W H (OT Oc σd σ) d v) : RelS W Oc H0 (σd.set i (.d d)) (σ.set i (some v)) H where
  len := by simp [R.len]
  ext := R.ext
  oc := R.oc
  tabs := R.tabs
  uniq := fun j k sl sl' a h1 h2 h3 h4 h5 h6 => by
    by_cases hj : i = j
    · subst hj
      rw [List.getElem?_set] at h1; simp only [if_true] at h1; split at h1
      · cases h1; cases h3
      · cases h1
    · by_cases hk : i = k
      · subst hk
        rw [List.getElem?_set] at h2; simp only [if_true] at h2; split at h2
        · cases h2; cases h4
        · cases h2
      · rw [List.getElem?_set_ne hj] at h1 h5
        rw [List.getElem?_set_ne hk] at h2 h6
        exact R.uniq j k sl sl' a h1 h2 h3 h4 h5 h6
  slots := fun j sl hj => by
    have sub := OT.set_sub (Oc := Oc) (σd := σd) (σ := σ) (i := i) (sl := .d d) (v := some v) rfl
    by_cases h : i = j
    · subst h
      have hl : i < σd.length := by
        have := (List.getElem?_eq_some_iff.mp hj).1
        simpa using this
      rw [List.getElem?_set_self hl] at hj
      cases hj
      exact ⟨v, by rw [List.getElem?_set_self (by rw [R.len]; exact hl)], hv.less sub⟩
    · rw [List.getElem?_set_ne h] at hj
      have q := R.slots j sl hj
      by_cases ho : sl.own = true
      · obtain ⟨a, e1, n, o⟩ := q.own ho
        exact .of ho ⟨a, by rw [List.getElem?_set_ne h]; exact e1, n, o.imp fun ds vs r => r.less sub⟩
      · cases sl with
        | u => trivial
        | x _ _ => trivial
        | d d => obtain ⟨u, e1, r⟩ := q; exact ⟨u, by rw [List.getElem?_set_ne h]; exact e1, r.less sub⟩
        | _ => exact (ho rfl).elim
/-- a slot is forgotten -/
theorem RelS.forget (R : RelS W Oc H0 σd σ H) {i : Nat} {v : Option V} : RelS W Oc H0 (σd.set i .u) (σ.set i v) H where
  len := by simp [R.len]
  ext := R.ext
  oc := R.oc
  tabs := R.tabs
  uniq := fun j k sl sl' a h1 h2 h3 h4 h5 h6 => by
    by_cases hj : i = j
    · subst hj
      rw [List.getElem?_set] at h1; simp only [if_true] at h1; split at h1
      · cases h1; cases h3
      · cases h1
    · by_cases hk : i = k
      · subst hk
        rw [List.getElem?_set] at h2; simp only [if_true] at h2; split at h2
        · cases h2; cases h4
        · cases h2
      · rw [List.getElem?_set_ne hj] at h1 h5
        rw [List.getElem?_set_ne hk] at h2 h6
        exact R.uniq j k sl sl' a h1 h2 h3 h4 h5 h6
  slots := fun j sl hj => by
    have sub := OT.set_sub (Oc := Oc) (σd := σd) (σ := σ) (i := i) (sl := .u) (v := v) rfl
    by_cases h : i = j
    · subst h
      have hl : i < σd.length := by
        have := (List.getElem?_eq_some_iff.mp hj).1
        simpa using this
      rw [List.getElem?_set_self hl] at hj
      cases hj
      trivial
    · rw [List.getElem?_set_ne h] at hj
      have q := R.slots j sl hj
      by_cases ho : sl.own = true
      · obtain ⟨a, e1, n, o⟩ := q.own ho
        exact .of ho ⟨a, by rw [List.getElem?_set_ne h]; exact e1, n, o.imp fun ds vs r => r.less sub⟩
      · cases sl with
        | u => trivial
        | x _ _ => trivial
        | d d => obtain ⟨u, e1, r⟩ := q; exact ⟨u, by rw [List.getElem?_set_ne h]; exact e1, r.less sub⟩
        | _ => exact (ho rfl).elim
/-- a slot is given a new object of its own. H: ahead of its making -/
theorem RelS.putOwn (R : RelS W Oc H0 σd σ H) (e : Ext W.T H H') {i : Nat} {sl : Sl} {a : Addr} (ho : sl.own = true) (hn : H a = none) (hv : HoOk W H' (fun b => OT Oc σd σ b ∨ b = a) a sl) : RelS W Oc H0 (σd.set i sl) (σ.set i (some (V.ref a))) H' := by
  have R' := R.grow e
  have sub : ∀ b, OT Oc (σd.set i sl) (σ.set i (some (V.ref a))) b → OT Oc σd σ b ∨ b = a := by
    rintro b (h | ⟨j, sl', h1, h2, h3⟩)
    · exact .inl (.inl h)
    · by_cases hj : i = j
      · subst hj
        have hl : i < σ.length := by
          have h4 := (List.getElem?_eq_some_iff.mp h3).1
          simpa using h4
        rw [List.getElem?_set_self hl] at h3
        cases h3
        exact .inr rfl
      · rw [List.getElem?_set_ne hj] at h1 h3
        exact .inl (.inr ⟨j, sl', h1, h2, h3⟩)
  have nown : ∀ (j : Nat) (sl' : Sl), σd[j]? = some sl' → sl'.own = true → σ[j]? ≠ some (some (V.ref a)) := fun j sl' h1 h2 h3 => by
    rcases (R.ownS ⟨j, sl', h1, h2, h3⟩).2 with (⟨x, q⟩ | ⟨x, q⟩ | ⟨x, q⟩) | ⟨C, dx, fs, q⟩ <;> (rw [hn] at q; cases q)
  have so := R.own.soft.add hn
  have up : ∀ (d : D) (v : V), Rep W H (OT Oc σd σ) d v → Rep W H' (OT Oc (σd.set i sl) (σ.set i (some (V.ref a)))) d v := fun d v r =>
    ((r.more (O' := fun b => OT Oc σd σ b ∨ b = a) (fun b hb => hb.elim .inl fun q => .inr (by rw [q]; exact hn))).kept (Kept.of e) so).less sub
  have ups : ∀ (d : List D) (v : List V), Reps W H (OT Oc σd σ) d v → Reps W H' (OT Oc (σd.set i sl) (σ.set i (some (V.ref a)))) d v := fun d v r =>
    ((r.more (O' := fun b => OT Oc σd σ b ∨ b = a) (fun b hb => hb.elim .inl fun q => .inr (by rw [q]; exact hn))).kept (Kept.of e) so).less sub
  refine ⟨by simp [R.len], R'.ext, R.oc, fun j s2 hj => ?_, fun j k s1 s2 b h1 h2 h3 h4 h5 h6 => ?_, R'.tabs⟩
  · by_cases h : i = j
    · subst h
      have hl : i < σd.length := by
        have := (List.getElem?_eq_some_iff.mp hj).1
        simpa using this
      rw [List.getElem?_set_self hl] at hj
      cases hj
      exact .of ho ⟨a, by rw [List.getElem?_set_self (by rw [R.len]; exact hl)], R.ext.none hn, hv.imp fun ds vs r => r.less sub⟩
    · rw [List.getElem?_set_ne h] at hj
      have q := R.slots j s2 hj
      by_cases ho2 : s2.own = true
      · obtain ⟨b, e1, n, o⟩ := q.own ho2
        have eb : H' b = H b := by
          rcases o.there with (⟨x, q⟩ | ⟨x, q⟩ | ⟨x, q⟩) | ⟨C, dx, fs, q⟩ <;> rw [q] <;> exact e.keep _ _ q fun ps z => by cases z
        refine .of ho2 ⟨b, by rw [List.getElem?_set_ne h]; exact e1, n, ?_⟩
        have o2 := o.imp (O' := fun b => OT Oc σd σ b ∨ b = a) fun ds vs r => r.more (fun b hb => hb.elim .inl fun q => .inr (by rw [q]; exact hn))
        exact (o2.kept (Kept.of e) so eb).imp fun ds vs r => r.less sub
      · cases s2 with
        | u => trivial
        | x _ _ => trivial
        | d d => obtain ⟨u, e1, r⟩ := q; exact ⟨u, by rw [List.getElem?_set_ne h]; exact e1, up _ _ r⟩
        | _ => exact (ho2 rfl).elim
  · by_cases hj : i = j
    · by_cases hk : i = k
      · exact hj.symm.trans hk
      · subst hj
        rw [List.getElem?_set_ne hk] at h2 h6
        have hl : i < σ.length := by
          have h4 := (List.getElem?_eq_some_iff.mp h5).1
          simpa using h4
        rw [List.getElem?_set_self hl] at h5
        cases h5
        exact (nown k s2 h2 h4 h6).elim
    · rw [List.getElem?_set_ne hj] at h1 h5
      by_cases hk : i = k
      · subst hk
        have hl : i < σ.length := by
          have h4 := (List.getElem?_eq_some_iff.mp h6).1
          simpa using h4
        rw [List.getElem?_set_self hl] at h6
        cases h6
        exact (nown j s1 h1 h3 h5).elim
      · rw [List.getElem?_set_ne hk] at h2 h6
        exact R.uniq j k s1 s2 b h1 h2 h3 h4 h5 h6
/-- an own object is changed -/
theorem RelS.change (R : RelS W Oc H0 σd σ H) {i : Nat} {sl sl' : Sl} {a : Addr} {o : HO} (hi : σd[i]? = some sl) (ho : sl.own = true) (ho' : sl'.own = true) (ha : σ[i]? = some (some (V.ref a))) (hot : ∀ ps, o ≠ .tbl ps)
    (hv : HoOk W (upd H a o) (OT Oc σd σ) a sl') : RelS W Oc H0 (σd.set i sl') σ (upd H a o) := by
  obtain ⟨b, e1, n0, ok⟩ := (R.slots i sl hi).own ho
  rw [ha] at e1
  cases e1
  have oa : OT Oc σd σ a := .inr ⟨i, sl, hi, ho, ha⟩
  have kp : Kept (OT Oc σd σ) H (upd H a o) := fun b u e nb _ => by
    rw [upd_ne (fun z => nb (by rw [z]; exact oa))]
    exact e
  have hl : i < σd.length := (List.getElem?_eq_some_iff.mp hi).1
  have sub : ∀ b, OT Oc (σd.set i sl') σ b → OT Oc σd σ b := by
    rintro b (h | ⟨j, s2, h1, h2, h3⟩)
    · exact .inl h
    · by_cases hj : i = j
      · subst hj
        rw [ha] at h3
        cases h3
        exact oa
      · rw [List.getElem?_set_ne hj] at h1
        exact .inr ⟨j, s2, h1, h2, h3⟩
  have tabs : LamX.Tabs W.T (upd H a o) := fun p hp => by
    obtain ⟨ps, h1, h2, h3⟩ := R.tabs p hp
    have na : ∀ c q, H c = some (LamX.CodeO c q) → c ≠ a := fun c q e z => by
      rw [z] at e
      rcases ok.there with (⟨x, r⟩ | ⟨x, r⟩ | ⟨x, r⟩) | ⟨C, dx, fs, r⟩ <;> (rw [r] at e; unfold LamX.CodeO at e; cases e)
    have np : p.1 ≠ a := fun z => by
      rw [z] at h1
      rcases ok.there with (⟨x, r⟩ | ⟨x, r⟩ | ⟨x, r⟩) | ⟨C, dx, fs, r⟩ <;> (rw [r] at h1; cases h1)
    refine ⟨ps, by rw [upd_ne np]; exact h1, h2, fun pos cv hc => ?_⟩
    obtain ⟨c, e2, e3⟩ := h3 pos cv hc
    exact ⟨c, e2, by rw [upd_ne (na c _ e3)]; exact e3⟩
  have ext : Ext W.T H0 (upd H a o) := by
    refine ⟨fun b u e t => ?_, fun b ps e => ?_, fun _ => tabs⟩
    · have hb : b ≠ a := fun z => by rw [z, n0] at e; cases e
      rw [upd_ne hb]
      exact R.ext.keep b u e t
    · have hb : b ≠ a := fun z => by rw [z, n0] at e; cases e
      rw [upd_ne hb]
      exact R.ext.tbl b ps e
  refine ⟨by simp [R.len], ext, R.oc, fun j s2 hj => ?_, fun j k s1 s2 b h1 h2 h3 h4 h5 h6 => ?_, tabs⟩
  · by_cases h : i = j
    · subst h
      rw [List.getElem?_set_self hl] at hj
      cases hj
      exact .of ho' ⟨a, ha, n0, hv.imp fun ds vs r => r.less sub⟩
    · rw [List.getElem?_set_ne h] at hj
      have q := R.slots j s2 hj
      by_cases ho2 : s2.own = true
      · obtain ⟨b, e1, n, o2⟩ := q.own ho2
        have hb : b ≠ a := fun z => h (R.uniq i j sl s2 a hi hj ho ho2 ha (by rw [e1, z]))
        exact .of ho2 ⟨b, e1, n, (o2.kept kp R.own.soft (upd_ne hb)).imp fun ds vs r => r.less sub⟩
      · cases s2 with
        | u => trivial
        | x _ _ => trivial
        | d d => obtain ⟨u, e1, r⟩ := q; exact ⟨u, e1, (r.kept kp R.own.soft).less sub⟩
        | _ => exact (ho2 rfl).elim
  · have low : ∀ (j : Nat) (s1 : Sl), (σd.set i sl')[j]? = some s1 → s1.own = true → ∃ s0 : Sl, σd[j]? = some s0 ∧ s0.own = true := fun j s1 h1 h3 => by
      by_cases hj : i = j
      · subst hj; exact ⟨sl, hi, ho⟩
      · rw [List.getElem?_set_ne hj] at h1; exact ⟨s1, h1, h3⟩
    obtain ⟨t1, g1, g2⟩ := low j s1 h1 h3
    obtain ⟨t2, g3, g4⟩ := low k s2 h2 h4
    exact R.uniq j k t1 t2 b g1 g3 g2 g4 h5 h6
/-- an own list becomes a value for ever -/
theorem RelS.freeze (R : RelS W Oc H0 σd σ H) {i : Nat} {xs : List D} (hi : σd[i]? = some (.l xs)) : RelS W Oc H0 (σd.set i (.d (.lst xs))) σ H := by
  obtain ⟨a, ha, n0, vs, hv, hr⟩ := R.slots i _ hi
  have hl : i < σd.length := (List.getElem?_eq_some_iff.mp hi).1
  have sub : ∀ b, OT Oc (σd.set i (.d (.lst xs))) σ b → OT Oc σd σ b := by
    rintro b (h | ⟨j, s2, h1, h2, h3⟩)
    · exact .inl h
    · by_cases hj : i = j
      · subst hj
        rw [List.getElem?_set_self hl] at h1
        cases h1; cases h2
      · rw [List.getElem?_set_ne hj] at h1
        exact .inr ⟨j, s2, h1, h2, h3⟩
  have nO : ¬ OT Oc (σd.set i (.d (.lst xs))) σ a := by
    rintro (h | ⟨j, s2, h1, h2, h3⟩)
    · obtain ⟨u, e, _⟩ := R.oc.some h
      rw [n0] at e; cases e
    · by_cases hj : i = j
      · subst hj
        rw [List.getElem?_set_self hl] at h1
        cases h1; cases h2
      · rw [List.getElem?_set_ne hj] at h1
        exact hj (R.uniq i j (.l xs) s2 a hi h1 rfl h2 ha h3)
  refine ⟨by simp [R.len], R.ext, R.oc, fun j s2 hj => ?_, fun j k s1 s2 b h1 h2 h3 h4 h5 h6 => ?_, R.tabs⟩
  · by_cases h : i = j
    · subst h
      rw [List.getElem?_set_self hl] at hj
      cases hj
      exact ⟨V.ref a, ha, a, vs, rfl, hv, nO, hr.less sub⟩
    · rw [List.getElem?_set_ne h] at hj
      have q := R.slots j s2 hj
      by_cases ho2 : s2.own = true
      · obtain ⟨b, e1, n, o2⟩ := q.own ho2
        exact .of ho2 ⟨b, e1, n, o2.imp fun ds vs r => r.less sub⟩
      · cases s2 with
        | u => trivial
        | x _ _ => trivial
        | d d => obtain ⟨u, e1, r⟩ := q; exact ⟨u, e1, r.less sub⟩
        | _ => exact (ho2 rfl).elim
  · have low : ∀ (j : Nat) (s1 : Sl), (σd.set i (.d (.lst xs)))[j]? = some s1 → s1.own = true → σd[j]? = some s1 := fun j s1 h1 h3 => by
      by_cases hj : i = j
      · subst hj; rw [List.getElem?_set_self hl] at h1; cases h1; cases h3
      · rw [List.getElem?_set_ne hj] at h1; exact h1
    exact R.uniq j k s1 s2 b (low j s1 h1 h3) (low k s2 h2 h4) h3 h4 h5 h6
open Classical in
/-- the heap without what may change: the place from which a loop starts -/
noncomputable def firm (σd : List Sl) (σ : L2.St) (H : Hp) : Hp := fun a => if OwnS σd σ a then none else H a
theorem firm_own {a : Addr} (h : OwnS σd σ a) : firm σd σ H a = none := by unfold firm; rw [if_pos h]
theorem firm_ne {a : Addr} (h : ¬ OwnS σd σ a) : firm σd σ H a = H a := by unfold firm; rw [if_neg h]
theorem RelS.tabsF (R : RelS W Oc H0 σd σ H) : LamX.Tabs W.T (firm σd σ H) := fun p hp => by
  obtain ⟨ps, h1, h2, h3⟩ := R.tabs p hp
  have no : ∀ b o, H b = some o → (∀ xs, o ≠ .lst xs) → (∀ xs, o ≠ .dK xs) → (∀ xs, o ≠ .dT xs) → (∀ C dx fs, o ≠ .ins C dx fs) → ¬ OwnS σd σ b := fun b o e a1 a2 a3 a4 z => by
    rcases (R.ownS z).2 with (⟨x, r⟩ | ⟨x, r⟩ | ⟨x, r⟩) | ⟨C, dx, fs, r⟩ <;> (rw [e] at r; cases r)
    · exact a1 _ rfl
    · exact a2 _ rfl
    · exact a3 _ rfl
    · exact a4 _ _ _ rfl
  refine ⟨ps, (firm_ne (no _ _ h1 (fun _ z => by cases z) (fun _ z => by cases z) (fun _ z => by cases z) fun _ _ _ z => by cases z)).trans h1, h2, fun pos cv hc => ?_⟩
  obtain ⟨c, e2, e3⟩ := h3 pos cv hc
  exact ⟨c, e2, (firm_ne (no _ _ e3 (fun _ z => by unfold LamX.CodeO at z; cases z) (fun _ z => by unfold LamX.CodeO at z; cases z) (fun _ z => by unfold LamX.CodeO at z; cases z) fun _ _ _ z => by unfold LamX.CodeO at z; cases z)).trans e3⟩
theorem RelS.below (R : RelS W Oc H0 σd σ H) : Ext W.T H0 (firm σd σ H) := by
  refine ⟨fun b o e t => ?_, fun b ps e => ?_, fun _ => R.tabsF⟩
  · rw [firm_ne (fun z => by rw [(R.ownS z).1] at e; cases e)]
    exact R.ext.keep b o e t
  · obtain ⟨qs, q⟩ := R.ext.tbl b ps e
    exact ⟨qs, by rw [firm_ne (fun z => by rw [(R.ownS z).1] at e; cases e)]; exact q⟩
/-- the same state, told from here on -/
theorem RelS.base (R : RelS W Oc H0 σd σ H) : RelS W Oc (firm σd σ H) σd σ H where
  len := R.len
  ext := ⟨fun b o e t => by
      by_cases h : OwnS σd σ b
      · rw [firm_own h] at e; cases e
      · rw [firm_ne h] at e; exact e, fun b ps e => by
      by_cases h : OwnS σd σ b
      · rw [firm_own h] at e; cases e
      · rw [firm_ne h] at e; exact ⟨ps, e⟩, fun _ => R.tabs⟩
  oc := fun a h => by
    have n : ¬ OwnS σd σ a := fun z => by
      obtain ⟨u, e, _⟩ := R.oc.some h
      rw [(R.ownS z).1] at e; cases e
    unfold LD
    rw [firm_ne n]
    exact (R.oc.ext R.ext) a h
  slots := fun i sl hi => by
    have q := R.slots i sl hi
    by_cases ho : sl.own = true
    · obtain ⟨a, e1, n, o⟩ := q.own ho
      exact .of ho ⟨a, e1, firm_own ⟨i, sl, hi, ho, e1⟩, o⟩
    · cases sl with
      | u => trivial
      | x _ _ => trivial
      | d d => exact q
      | _ => exact (ho rfl).elim
  uniq := R.uniq
  tabs := R.tabs
/-- .. and from there again -/
theorem RelS.unbase {Hf : Hp} (R : RelS W Oc Hf σd σ H) (e : Ext W.T H0 Hf) (oc : Own Oc H0) : RelS W Oc H0 σd σ H where
  len := R.len
  ext := e.trans R.ext
  oc := oc
  slots := fun i sl hi => by
    have q := R.slots i sl hi
    by_cases ho : sl.own = true
    · obtain ⟨a, e1, n, o⟩ := q.own ho
      exact .of ho ⟨a, e1, e.none n, o⟩
    · cases sl with
      | u => trivial
      | x _ _ => trivial
      | d d => exact q
      | _ => exact (ho rfl).elim
  uniq := R.uniq
  tabs := R.tabs
/-- a def begins -/
theorem RelS.start {N : List Str} {ds : List D} {vs : List V} (oc : Own Oc H) (tabs : LamX.Tabs W.T H) (r : Reps W H Oc ds vs) (hl : ds.length ≤ N.length) :
    RelS W Oc H (ds.map Sl.d ++ List.replicate (N.length - ds.length) .u) (L2.start N vs) H := by
  have hlen := r.length
  have no : ∀ (i : Nat) (sl : Sl), (ds.map Sl.d ++ List.replicate (N.length - ds.length) .u)[i]? = some sl → (∃ d, ds[i]? = some d ∧ sl = .d d) ∨ sl = .u := fun i sl h => by
    by_cases hi : i < ds.length
    · rw [List.getElem?_append_left (by simpa using hi), List.getElem?_map] at h
      cases q : ds[i]? with
      | none => rw [q] at h; cases h
      | some d => rw [q] at h; cases h; exact .inl ⟨d, rfl, rfl⟩
    · rw [List.getElem?_append_right (by simpa using hi), List.getElem?_replicate] at h
      split at h
      · cases h; exact .inr rfl
      · cases h
  have nown : ∀ a, ¬ OwnS (ds.map Sl.d ++ List.replicate (N.length - ds.length) .u) (L2.start N vs) a := fun a ⟨i, sl, h1, h2, h3⟩ => by
    rcases no i sl h1 with ⟨d, _, e⟩ | e <;> (rw [e] at h2; cases h2)
  refine ⟨?_, Ext.refl H, oc, fun i sl hi => ?_, fun i j sl sl' a h1 h2 h3 h4 h5 h6 => ?_, tabs⟩
  · unfold L2.start
    simp [hlen]
  · rcases no i sl hi with ⟨d, hd, e⟩ | e
    · subst e
      obtain ⟨v, hv, q⟩ := r.get hd
      refine ⟨v, ?_, q.more fun b hb => hb.elim .inl fun z => (nown b z).elim⟩
      unfold L2.start
      have hi' : i < vs.length := (List.getElem?_eq_some_iff.mp hv).1
      rw [List.getElem?_append_left (by simpa using hi'), List.getElem?_map, hv]
      rfl
    · subst e; trivial
  · rcases no i sl h1 with ⟨d, _, e⟩ | e <;> (rw [e] at h3; cases h3)
end Ev


set_option Elab.async false
set_option linter.all false
set_option maxRecDepth 100000
set_option maxHeartbeats 4000000
namespace Ev
open PySem PySem.Spec L2
/-! ## what an expression gives, what a statement does -/
inductive Res (α : Type) where
  | ok (a : α) | exc (c : Nat) (fs : List D) | stuck
def Res.bind {α β : Type} (r : Res α) (f : α → Res β) : Res β := match r with
  | .ok a => f a
  | .exc c fs => .exc c fs
  | .stuck => .stuck
instance : Monad Res where
  pure := .ok
  bind := Res.bind
theorem ok_bind {α β : Type} (a : α) (f : α → Res β) : (Res.ok a >>= f) = f a := rfl
theorem exc_bind {α β : Type} (c : Nat) (fs : List D) (f : α → Res β) : (Res.exc c fs >>= f) = Res.exc c fs := rfl
theorem stuck_bind {α β : Type} (f : α → Res β) : (Res.stuck >>= f) = Res.stuck := rfl
theorem pure_ok {α : Type} (a : α) : (pure a : Res α) = .ok a := rfl
def ofOpt {α : Type} : Option α → Res α
  | some a => .ok a
  | none => .stuck
/-- v: a value; f: a new list; b, o: what slot i holds, still its own; t, k: a new dict -/
inductive RV where
  | v (d : D) | f (xs : List D) | b (i : Nat) (xs : List D) | o (i c : Nat) (fs : List D) | t (kvs : List (List Int × D)) | k (kvs : List (Key × D))
inductive Out where
  | nx (σ : List Sl) | ret (r : RV) | bk (σ : List Sl) | ct (σ : List Sl) | ex (c : Nat) (fs : List D) (σ : List Sl)

/-- as a list that is read -/
def RV.asL : RV → Option (List D)
  | .v (.lst xs) => some xs
  | .v (.scr ns) => some (ns.map .int)
  | .f xs => some xs
  | .b _ xs => some xs
  | _ => none
def RV.asT : RV → Option (List D)
  | .v (.tup xs) => some xs
  | .v (.tpn xs) => some xs
  | _ => none
/-- a tuple of this run -/
def RV.asP : RV → Option (List D)
  | .v (.tup xs) => some xs
  | _ => none
/-- a list or a tuple that is read -/
def RV.asS : RV → Option (List D)
  | .v (.tup xs) => some xs
  | .v (.tpn xs) => some xs
  | r => r.asL
/-- to be kept elsewhere -/
def RV.asV : RV → Option D
  | .v d => some d
  | .f xs => some (.lst xs)
  | _ => none
/-- its data -/
def RV.asD : RV → Option D
  | .v d => some d
  | .f xs => some (.lst xs)
  | .b _ xs => some (.lst xs)
  | _ => none
def RV.lent : RV → Bool
  | .b _ _ => true
  | _ => false
def RV.flat : RV → Bool
  | .v d => d.flat
  | .f xs => D.flats xs
  | _ => false

/-! ## operations -/
inductive BO where | add | sub | mul | mod | fdiv | pow
  deriving DecidableEq
inductive CO where | eq | ne | lt | le | gt | ge | isn | notn | inn | ni
  deriving DecidableEq
inductive Ty where | int | bool | str | tup | lst | cls (c : Nat)
  deriving DecidableEq
inductive P1 where | len | int | abs | list | tuple | tupN | sorted | sum | all | any | lenset
  deriving DecidableEq
inductive P2 where | min | max
  deriving DecidableEq
/-- methods of a sequence that change nothing -/
inductive SM where | index | count
  deriving DecidableEq
/-- methods of a list that change it -/
inductive LM where | append | extend | pop | popAt | reverse | clear | insert
  deriving DecidableEq
def cap : Nat := 1000000
mutual
def toP : D → PyData
  | .non => .none
  | .bl b => .bool b
  | .int i => .int i
  | .str s => .str s
  | .tup xs => .tuple (toPs xs)
  | .tpn xs => .tuple (toPs xs)
  | .lst xs => .list (toPs xs)
  | .scr _ => .dict []
  | .ins _ _ => .dict []
termination_by structural d => d
def toPs : List D → List PyData
  | [] => []
  | x :: xs => toP x :: toPs xs
termination_by structural d => d
end
def deq (d e : D) : Option Bool := if SeqAt.shaped (toP d) && SeqAt.shaped (toP e) then some (PyData.eqv (toP d) (toP e)) else none
def scalar : D → Bool
  | .non => true
  | .bl _ => true
  | .int _ => true
  | .str _ => true
  | _ => false
def eqS : D → D → Bool
  | .non, .non => true
  | .bl a, .bl b => a == b
  | .bl a, .int b => (if a then 1 else 0) == b
  | .int a, .bl b => a == (if b then 1 else 0)
  | .int a, .int b => a == b
  | .str a, .str b => a == b
  | _, _ => false
def mulOk (i j : Int) : Bool := (decide (-(2 ^ 64) < i) && decide (i < 2 ^ 64)) || (decide (-(2 ^ 64) < j) && decide (j < 2 ^ 64))
def binI (o : BO) (i j : Int) : Res RV := match o with
  | .add => .ok (.v (.int (i + j)))
  | .sub => .ok (.v (.int (i - j)))
  | .mul => if mulOk i j then .ok (.v (.int (i * j))) else .stuck
  | .mod => if 0 < j then .ok (.v (.int (i % j))) else .stuck
  | .fdiv => if 0 < j ∧ j < 1073741824 then .ok (.v (.int (i / j))) else .stuck
  | .pow => if 0 ≤ j ∧ j ≤ 1000000 ∧ i.natAbs < 2 ^ 64 then .ok (.v (.int (i ^ j.toNat))) else .stuck
def asInt : RV → Option Int
  | .v (.int i) => some i
  | _ => none
def asStr : RV → Option Str
  | .v (.str s) => some s
  | _ => none
/-- a list that may stand in + and * (not the script) -/
def RV.asLst : RV → Option (List D)
  | .v (.lst xs) => some xs
  | .f xs => some xs
  | .b _ xs => some xs
  | _ => none
def binD (o : BO) (x y : RV) : Res RV := match asInt x, asInt y with
  | some i, some j => binI o i j
  | none, some j => match o, x.asLst with
    | .mul, some xs => if xs.length * j.toNat ≤ cap ∧ -(2 ^ 63) ≤ j ∧ j < 2 ^ 63 then .ok (.f (List.replicate j.toNat xs).flatten) else .stuck
    | _, _ => .stuck
  | none, none => match o, x.asLst, y.asLst with
    | .add, some xs, some ys => if xs.length + ys.length ≤ cap then .ok (.f (xs ++ ys)) else .stuck
    | .add, _, _ => match x.asP, y.asP with
      | some xs, some ys => if xs.length + ys.length ≤ cap then .ok (.v (.tup (xs ++ ys))) else .stuck
      | _, _ => match asStr x, asStr y with
        | some s, some t => if s.length + t.length ≤ cap then .ok (.v (.str (s ++ t))) else .stuck
        | _, _ => .stuck
    | _, _, _ => .stuck
  | _, _ => .stuck
def ofB (o : Option Bool) : Res RV := match o with
  | some b => .ok (.v (.bl b))
  | none => .stuck
def cmpI (o : CO) (i j : Int) : Res RV := match o with
  | .lt => .ok (.v (.bl (decide (i < j))))
  | .le => .ok (.v (.bl (decide (i ≤ j))))
  | .gt => .ok (.v (.bl (decide (j < i))))
  | .ge => .ok (.v (.bl (decide (j ≤ i))))
  | .eq => .ok (.v (.bl (decide (i = j))))
  | .ne => .ok (.v (.bl (!decide (i = j))))
  | _ => .stuck
def isNone : RV → Option Bool
  | .v .non => some true
  | .v _ => some false
  | .f _ => some false
  | .b _ _ => some false
  | _ => none
def hasD (x y : RV) : Option Bool := match x, y.asS with
  | .v d, some ys => if scalar d && ys.all scalar then some (ys.any fun e => eqS e d) else none
  | _, _ => none
def deq2 (x y : RV) : Option Bool := match x.asD, y.asD with
  | some d, some e => deq d e
  | _, _ => none
def cmpX (o : CO) (x y : RV) : Res RV := match o with
  | .eq => ofB (deq2 x y)
  | .ne => ofB ((deq2 x y).map (!·))
  | .inn => ofB (hasD x y)
  | .ni => ofB ((hasD x y).map (!·))
  | _ => .stuck
def cmpD (o : CO) (x y : RV) : Res RV := match asInt x, asInt y with
  | some i, some j => cmpI o i j
  | _, _ => cmpX o x y
def ixN (n : Nat) (i : Int) : Option Nat := L2.ixN n i
def idxD (x i : RV) : Res RV := match asInt i, x.asS with
  | some k, some xs => ofOpt (((L2.ixN xs.length k).bind fun j => xs[j]?).map .v)
  | _, _ => .stuck
def sliceL (xs : List D) (lo hi : Option Int) : List D := (xs.drop (HT.sIx xs.length 0 lo)).take (HT.sIx xs.length xs.length hi - HT.sIx xs.length 0 lo)
def sliceD (x : RV) (lo hi : Option Int) : Res RV := match x.asP with
  | some xs => .ok (.v (.tup (sliceL xs lo hi)))
  | none => match x.asL with
    | some xs => .ok (.f (sliceL xs lo hi))
    | none => .stuck
def intsOf : List D → Option (List Int)
  | [] => some []
  | .int i :: r => (intsOf r).map (i :: ·)
  | _ :: _ => none
def blsOf : List D → Option (List Bool)
  | [] => some []
  | .bl i :: r => (blsOf r).map (i :: ·)
  | _ :: _ => none
def insI (x : Int) : List Int → List Int
  | [] => [x]
  | y :: ys => if x ≤ y then x :: y :: ys else y :: insI x ys
def sortI : List Int → List Int
  | [] => []
  | x :: xs => insI x (sortI xs)
/-- items of one shape: tuples (not empty) of ints of one length -/
def tupsOf : List D → Option (List (List Int))
  | [] => some []
  | .tup xs :: r => match intsOf xs, tupsOf r with
    | some ns, some rs => some (ns :: rs)
    | _, _ => none
  | _ :: _ => none
def leL : List Int → List Int → Bool
  | [], _ => true
  | _ :: _, [] => false
  | x :: xs, y :: ys => if x = y then leL xs ys else decide (x < y)
def insT (x : List Int) : List (List Int) → List (List Int)
  | [] => [x]
  | y :: ys => if leL x y then x :: y :: ys else y :: insT x ys
def sortT : List (List Int) → List (List Int)
  | [] => []
  | x :: xs => insT x (sortT xs)
def alikeT (rs : List (List Int)) : Bool := rs.all fun r => !r.isEmpty
theorem alikeT_ne {rs : List (List Int)} (h : alikeT rs = true) : ∀ r ∈ rs, r ≠ [] := fun r hr e => by
  have := List.all_eq_true.mp h r hr
  rw [e] at this
  cases this
def p1 (p : P1) (x : RV) : Res RV := match p with
  | .len => match x.asS with
    | some xs => .ok (.v (.int xs.length))
    | none => match asStr x with
      | some s => if s.length ≤ cap then .ok (.v (.int s.length)) else .stuck
      | none => .stuck
  | .int => match x with
    | .v (.int i) => .ok (.v (.int i))
    | .v (.bl b) => .ok (.v (.int (if b then 1 else 0)))
    | _ => .stuck
  | .abs => match asInt x with
    | some i => .ok (.v (.int (if i < 0 then -i else i)))
    | none => .stuck
  | .list => match x.asS with
    | some xs => .ok (.f xs)
    | none => .stuck
  | .tuple => match x with
    | .v (.tup xs) => .ok (.v (.tup xs))
    | .v (.tpn xs) => .ok (.v (.tpn xs))
    | x => match x.asL with
      | some xs => .ok (.v (.tup xs))
      | none => .stuck
  | .tupN => match x.asL with
    | some xs => .ok (.v (.tpn xs))
    | none => .stuck
  | .sorted => match x.asL with
    | some xs => match intsOf xs with
      | some ns => .ok (.f ((sortI ns).map .int))
      | none => match tupsOf xs with
        | some rs => if alikeT rs then .ok (.f ((sortT rs).map fun r => .tup (r.map .int))) else .stuck
        | none => .stuck
    | none => .stuck
  | .sum => match x.asL with
    | some xs => match intsOf xs with
      | some ns => .ok (.v (.int ns.sum))
      | none => .stuck
    | none => .stuck
  | .all => match x.asL with
    | some xs => match blsOf xs with
      | some bs => .ok (.v (.bl (bs.all id)))
      | none => .stuck
    | none => .stuck
  | .any => match x.asL with
    | some xs => match blsOf xs with
      | some bs => .ok (.v (.bl (bs.any id)))
      | none => .stuck
    | none => .stuck
  | .lenset => match x.asL with
    | some xs => match intsOf xs with
      | some ns => if ns.Nodup ∧ ns.length ≤ 4000 then .ok (.v (.int ns.length)) else .stuck
      | none => .stuck
    | none => .stuck
def p2 (p : P2) (x y : RV) : Res RV := match asInt x, asInt y with
  | some i, some j => .ok (.v (.int (match p with
    | .max => if j > i then j else i
    | .min => if j < i then j else i)))
  | _, _ => .stuck
def findS (d : D) : List D → Option Nat
  | [] => none
  | e :: r => if eqS e d then some 0 else (findS d r).map (· + 1)
def RV.asX : RV → Option (List D)
  | .v (.tpn xs) => some xs
  | r => r.asL
def sm (m : SM) (x y : RV) : Res RV := match m, x.asX, y with
  | .index, some xs, .v d => if scalar d && xs.all scalar then ofOpt ((findS d xs).map fun j => .v (.int j)) else .stuck
  | _, _, _ => .stuck
def isiB (x : RV) (t : Ty) : Option Bool := match x with
  | .v .non => some false
  | .v (.bl _) => some (match t with | .bool => true | .int => true | _ => false)
  | .v (.int _) => some (match t with | .int => true | _ => false)
  | .v (.str _) => some (match t with | .str => true | _ => false)
  | .v (.tup _) => some (match t with | .tup => true | _ => false)
  | .v (.tpn _) => some (match t with | .tup => true | _ => false)
  | .v (.lst _) => some (match t with | .lst => true | _ => false)
  | .f _ => some (match t with | .lst => true | _ => false)
  | .b _ _ => some (match t with | .lst => true | _ => false)
  | _ => none
def isi (x : RV) (t : Ty) : Option Bool := match t with
  | .cls _ => none
  | t => isiB x t
/-- one of the types; all must be told -/
def isis (x : RV) : List Ty → Option Bool
  | [] => some false
  | t :: ts => match isi x t, isis x ts with
    | some a, some b => some (a || b)
    | _, _ => none

/-! ## the text -/
mutual
inductive Ex where
  | var (i : Nat) | con (k : Nat) | int (n : Int) | bl (b : Bool) | str (s : Str) | non
  | bin (o : BO) (a b : Ex) | neg (a : Ex) | not (a : Ex) | and (a b : Ex) | or (a b : Ex) | ite (c a b : Ex)
  | cmp (o : CO) (a b : Ex) | chain (o p : CO) (a b c : Ex)
  | tup (xs : Exs) | lst (xs : Exs)
  | idx (a i : Ex) | slice (a : Ex) (lo hi : Exo)
  | fld (a : Ex) (cs : List Nat) (k : Nat)
  | call (g : Nat) (xs : Exs) | meth (a : Ex) (ms : List (Nat × Nat)) (xs : Exs) | make (c : Nat) (xs : Exs)
  | p1 (p : P1) (a : Ex) | p2 (p : P2) (a b : Ex) | sm (m : SM) (a b : Ex) | isi (a : Ex) (ts : List Ty)
  | rng (tup : Bool) (it : It)
  | comp (e : Ex) (tg vs : List Nat) (it : It) (c : Exo)
  | comp2 (e : Ex) (tg tg2 vs : List Nat) (it it2 : It) (c : Exo)
  | bad | dnewT | dnewK | dispT (k v : Ex) | din (i : Nat) (neg : Bool) (k : Ex) | dget (i : Nat) (k : Ex)
inductive Exs where
  | nil | cons (e : Ex) (es : Exs)
inductive Exo where
  | no | some (e : Ex)
/-- what is walked -/
inductive It where
  | seq (e : Ex) | r1 (a : Ex) | r2 (a b : Ex) | enum (e : Ex) | zip (a b : Ex)
end
mutual
inductive Stm where
  | set (i : Nat) (e : Ex) | unp (is : List Nat) (e : Ex) | par (i j : Nat) (a b : Ex)
  | setIdx (i : Nat) (k e : Ex) | dput (i : Nat) (k e : Ex) | lm (i : Nat) (m : LM) (xs : Exs) | popS (j i : Nat) (xs : Exs)
  | fset (c k : Nat) (e : Ex) | aug (i : Nat) (o : BO) (e : Ex) | expr (e : Ex)
  | ret (e : Ex) | retN | ifs (c : Ex) (a b : Stms) | forS (tg : List Nat) (it : It) (b : Stms) | whileS (c : Ex) (b : Stms)
  | raise (c : Nat) (xs : Exs) | tryS (b : Stms) (hs : Hds)
  | brk | cont | pass | bad | frz (i : Nat)
inductive Stms where
  | nil | cons (s : Stm) (ss : Stms)
/-- except clauses: the classes that it takes, the name's slot, the suite -/
inductive Hds where
  | nil | cons (cs : List Nat) (i : Nat) (b : Stms) (hs : Hds)
end
structure Rt where
  call : Nat → List D → Res RV
  new : Nat → List D → Res D
  con : Nat → Option D
/-- what a comprehension's part gives; it may not raise -/
def mapR {α β : Type} (f : α → Res β) : List α → Res (List β)
  | [] => .ok []
  | x :: xs => match f x with
    | .ok y => match mapR f xs with
      | .ok ys => .ok (y :: ys)
      | _ => .stuck
    | _ => .stuck
/-- .. where some are left out -/
def mapF {α β : Type} (f : α → Res (Option β)) : List α → Res (List β)
  | [] => .ok []
  | x :: xs => match f x with
    | .ok y => match mapF f xs with
      | .ok ys => .ok (match y with | some y => y :: ys | none => ys)
      | _ => .stuck
    | _ => .stuck
def wipeD (σ : List Sl) : List Nat → List Sl
  | [] => σ
  | v :: vs => (wipeD σ vs).set v .u
/-- none of these slots holds what is the def's own -/
def bareD (σ : List Sl) : List Nat → Bool
  | [] => true
  | v :: vs => (match σ[v]? with | some sl => !sl.own | none => true) && bareD σ vs
def bindL : List Nat → List D → List Sl → Option (List Sl)
  | [], [], σ => some σ
  | i :: is, d :: ds, σ => bindL is ds (σ.set i (.d d))
  | _, _, _ => none
/-- the target takes an item -/
def bindT (tg : List Nat) (d : D) (σ : List Sl) : Option (List Sl) := match tg with
  | [i] => some (σ.set i (.d d))
  | is => match d with
    | .tup ds => bindL is ds σ
    | _ => none
def rangeD (a b : Int) : List D := (List.range (b - a).toNat).map fun i => .int (a + (i : Nat))
def rangeOk (a b : Int) : Bool := decide (-1000000000 ≤ a) && decide (a ≤ 1000000000) && decide (-1000000000 ≤ b) && decide (b ≤ 1000000000)
def enumD (n : Nat) : List D → List D
  | [] => []
  | x :: xs => .tup [.int n, x] :: enumD (n + 1) xs
def zipD : List D → List D → List D
  | x :: xs, y :: ys => .tup [x, y] :: zipD xs ys
  | _, _ => []
/-- the key as it is put into a dict -/
def keyT : RV → Option (List Int)
  | .v (.tup xs) => intsOf xs
  | _ => none
def keyK : RV → Option Key
  | .v (.int i) => some (.inl i)
  | .v (.str s) => some (.inr s)
  | _ => none
def lookT (k : List Int) : List (List Int × D) → Option D
  | [] => none
  | (j, d) :: r => if j = k then some d else lookT k r
def lookK (k : Key) : List (Key × D) → Option D
  | [] => none
  | (j, d) :: r => if j = k then some d else lookK k r
def putT (k : List Int) (v : D) (kvs : List (List Int × D)) : List (List Int × D) :=
  if (kvs.any fun kv => decide (kv.1 = k)) = true then kvs.map (fun kv => if kv.1 = k then (kv.1, v) else kv) else kvs ++ [(k, v)]
def putK (k : Key) (v : D) (kvs : List (Key × D)) : List (Key × D) :=
  if (kvs.any fun kv => decide (kv.1 = k)) = true then kvs.map (fun kv => if kv.1 = k then (kv.1, v) else kv) else kvs ++ [(k, v)]
def allV : List RV → Option (List D)
  | [] => some []
  | r :: rs => match r.asV, allV rs with
    | some d, some ds => some (d :: ds)
    | _, _ => none
def allD : List RV → Option (List D)
  | [] => some []
  | r :: rs => match r.asD, allD rs with
    | some d, some ds => some (d :: ds)
    | _, _ => none
def dispD (o : Option (List Int)) (y : RV) : Res RV := match o, y with
  | some ns, .v d => if scalar d then .ok (.t [(ns, d)]) else .stuck
  | _, _ => .stuck
/-- what comes back of a call: where a list of the caller's was lent, no list may be in it -/
def guardC (lent : Bool) (r : Res RV) : Res RV := match r with
  | .ok r => if lent && !r.flat then .stuck else .ok r
  | .exc c fs => if lent && !D.flats fs then .stuck else .exc c fs
  | .stuck => .stuck
mutual
def evalE (R : Rt) : Ex → List Sl → Res RV
  | .var i, σ => match σ[i]? with
    | some (.d d) => .ok (.v d)
    | some (.l xs) => .ok (.b i xs)
    | some (.o c fs) => .ok (.o i c fs)
    | _ => .stuck
  | .con k, _ => ofOpt ((R.con k).map .v)
  | .int n, _ => .ok (.v (.int n))
  | .bl b, _ => .ok (.v (.bl b))
  | .str s, _ => .ok (.v (.str s))
  | .non, _ => .ok (.v .non)
  | .bin o a b, σ => (evalE R a σ).bind fun x => (evalE R b σ).bind fun y => binD o x y
  | .neg a, σ => (evalE R a σ).bind fun x => match asInt x with
    | some i => .ok (.v (.int (-i)))
    | none => .stuck
  | .not a, σ => (evalE R a σ).bind fun x => match x with
    | .v (.bl b) => .ok (.v (.bl (!b)))
    | _ => .stuck
  | .and a b, σ => (evalE R a σ).bind fun x => match x with
    | .v (.bl true) => evalE R b σ
    | .v (.bl false) => .ok (.v (.bl false))
    | _ => .stuck
  | .or a b, σ => (evalE R a σ).bind fun x => match x with
    | .v (.bl true) => .ok (.v (.bl true))
    | .v (.bl false) => evalE R b σ
    | _ => .stuck
  | .ite c a b, σ => (evalE R c σ).bind fun x => match x with
    | .v (.bl true) => evalE R a σ
    | .v (.bl false) => evalE R b σ
    | _ => .stuck
  | .cmp o a b, σ => match o with
    | .isn => (evalE R a σ).bind fun x => ofB (isNone x)
    | .notn => (evalE R a σ).bind fun x => ofB ((isNone x).map (!·))
    | o => (evalE R a σ).bind fun x => (evalE R b σ).bind fun y => cmpD o x y
  | .chain o p a b c, σ => (evalE R a σ).bind fun x => (evalE R b σ).bind fun y => match asInt x, asInt y with
    | some i, some j => (cmpI o i j).bind fun t => match t with
      | .v (.bl true) => (evalE R c σ).bind fun z => match asInt z with
        | some k => cmpI p j k
        | none => .stuck
      | .v (.bl false) => .ok (.v (.bl false))
      | _ => .stuck
    | _, _ => .stuck
  | .tup xs, σ => (evalL R xs σ).bind fun rs => match allV rs with
    | some ds => if ds.length ≤ cap then .ok (.v (.tup ds)) else .stuck
    | none => .stuck
  | .lst xs, σ => (evalL R xs σ).bind fun rs => match allV rs with
    | some ds => if ds.length ≤ cap then .ok (.f ds) else .stuck
    | none => .stuck
  | .idx a i, σ => (evalE R a σ).bind fun x => (evalE R i σ).bind fun y => idxD x y
  | .slice a lo hi, σ => (evalE R a σ).bind fun x => (evalO R lo σ).bind fun l => (evalO R hi σ).bind fun h => sliceD x l h
  | .fld a cs k, σ => (evalE R a σ).bind fun x => match x with
    | .v (.ins c fs) => if cs.contains c then ofOpt ((fs[k]?).map .v) else .stuck
    | .o _ c fs => if cs.contains c then ofOpt ((fs[k]?).map .v) else .stuck
    | _ => .stuck
  | .call g xs, σ => (evalL R xs σ).bind fun rs => match allD rs with
    | some ds => guardC (rs.any RV.lent) (R.call g ds)
    | none => .stuck
  | .meth a ms xs, σ => (evalE R a σ).bind fun x => match x with
    | .v (.ins c fs) => match ms.lookup c with
      | some g => (evalL R xs σ).bind fun rs => match allD rs with
        | some ds => guardC (rs.any RV.lent) (R.call g (.ins c fs :: ds))
        | none => .stuck
      | none => .stuck
    | _ => .stuck
  | .make c xs, σ => (evalL R xs σ).bind fun rs => match allD rs with
    | some ds => guardC (rs.any RV.lent) ((R.new c ds).bind fun d => .ok (.v d))
    | none => .stuck
  | .p1 p a, σ => (evalE R a σ).bind fun x => p1 p x
  | .p2 p a b, σ => (evalE R a σ).bind fun x => (evalE R b σ).bind fun y => p2 p x y
  | .sm m a b, σ => (evalE R a σ).bind fun x => (ofOpt x.asX).bind fun _ => (evalE R b σ).bind fun y => sm m x y
  | .isi a ts, σ => (evalE R a σ).bind fun x => ofB (isis x ts)
  | .rng tup it, σ => match it with
    | .r1 a => (evalE R a σ).bind fun x => match asInt x with
      | some n => if n ≤ cap ∧ rangeOk 0 n then .ok (if tup then .v (.tup (rangeD 0 n)) else .f (rangeD 0 n)) else .stuck
      | none => .stuck
    | .r2 a b => (evalE R a σ).bind fun x => (evalE R b σ).bind fun y => match asInt x, asInt y with
      | some m, some n => if n - m ≤ cap ∧ rangeOk m n then .ok (if tup then .v (.tup (rangeD m n)) else .f (rangeD m n)) else .stuck
      | _, _ => .stuck
    | _ => .stuck
  | .comp e tg vs it c, σ => (evalI R it σ).bind fun items => if cap < items.1.length || !bareD σ vs then .stuck else match c with
    | .no => (mapR (fun d => (ofOpt (bindT tg d (wipeD σ vs))).bind fun σ' => (evalE R e σ').bind fun r => ofOpt r.asV) items.1).bind fun ds => .ok (.f ds)
    | .some t => (mapF (fun d => (ofOpt (bindT tg d (wipeD σ vs))).bind fun σ' => (evalE R t σ').bind fun b => match b with
      | .v (.bl true) => (evalE R e σ').bind fun r => (ofOpt r.asV).bind fun d => .ok (some d)
      | .v (.bl false) => .ok none
      | _ => .stuck) items.1).bind fun ds => .ok (.f ds)
  | .comp2 e tg tg2 vs it it2 c, σ => (evalI R it σ).bind fun items => if !bareD σ vs then .stuck else (mapR (fun d => (ofOpt (bindT tg d (wipeD σ vs))).bind fun σ' =>
      (evalI R it2 σ').bind fun items2 => match c with
      | .no => mapR (fun d2 => (ofOpt (bindT tg2 d2 (wipeD σ' tg2))).bind fun σ2 => (evalE R e σ2).bind fun r => ofOpt r.asV) items2.1
      | .some t => mapF (fun d2 => (ofOpt (bindT tg2 d2 (wipeD σ' tg2))).bind fun σ2 => (evalE R t σ2).bind fun b => match b with
        | .v (.bl true) => (evalE R e σ2).bind fun r => (ofOpt r.asV).bind fun d => .ok (some d)
        | .v (.bl false) => .ok none
        | _ => .stuck) items2.1) items.1).bind fun dss => if dss.flatten.length ≤ cap then .ok (.f dss.flatten) else .stuck
  | .bad, _ => .stuck
  | .dnewT, _ => .ok (.t [])
  | .dnewK, _ => .ok (.k [])
  | .dispT k v, σ => (evalE R k σ).bind fun x => (evalE R v σ).bind fun y => dispD (keyT x) y
  | .din i neg k, σ => (evalE R k σ).bind fun x => match σ[i]? with
    | some (.t kvs) => match keyT x with
      | some ns => .ok (.v (.bl (xor neg (lookT ns kvs).isSome)))
      | none => .stuck
    | some (.k kvs) => match keyK x with
      | some ns => .ok (.v (.bl (xor neg (lookK ns kvs).isSome)))
      | none => .stuck
    | _ => .stuck
  | .dget i k, σ => match σ[i]? with
    | some (.t kvs) => (evalE R k σ).bind fun x => match keyT x with
      | some ns => ofOpt ((lookT ns kvs).map .v)
      | none => .stuck
    | some (.k kvs) => (evalE R k σ).bind fun x => match keyK x with
      | some ns => ofOpt ((lookK ns kvs).map .v)
      | none => .stuck
    | _ => .stuck
termination_by structural e => e
def evalL (R : Rt) : Exs → List Sl → Res (List RV)
  | .nil, _ => .ok []
  | .cons e es, σ => (evalE R e σ).bind fun x => (evalL R es σ).bind fun xs => .ok (x :: xs)
termination_by structural e => e
def evalO (R : Rt) : Exo → List Sl → Res (Option Int)
  | .no, _ => .ok none
  | .some e, σ => (evalE R e σ).bind fun x => match asInt x with
    | some i => .ok (some i)
    | none => .stuck
termination_by structural e => e
def evalI (R : Rt) : It → List Sl → Res (List D × Bool)
  | .seq e, σ => (evalE R e σ).bind fun x => ofOpt (x.asS.map fun xs => (xs, x.lent))
  | .r1 a, σ => (evalE R a σ).bind fun x => match asInt x with
    | some n => if n ≤ cap ∧ rangeOk 0 n then .ok (rangeD 0 n, false) else .stuck
    | none => .stuck
  | .r2 a b, σ => (evalE R a σ).bind fun x => (evalE R b σ).bind fun y => match asInt x, asInt y with
    | some m, some n => if n - m ≤ cap ∧ rangeOk m n then .ok (rangeD m n, false) else .stuck
    | _, _ => .stuck
  | .enum e, σ => (evalE R e σ).bind fun x => match x.asL with
    | some xs => .ok (enumD 0 xs, x.lent)
    | none => .stuck
  | .zip a b, σ => (evalE R a σ).bind fun x => (evalE R b σ).bind fun y => match x.asL, y.asL with
    | some xs, some ys => .ok (zipD xs ys, x.lent || y.lent)
    | _, _ => match x.asT, y.asT with
      | some xs, some ys => .ok (zipD xs ys, false)
      | _, _ => .stuck
termination_by structural e => e
end
end Ev


set_option Elab.async false
set_option linter.all false
set_option maxRecDepth 100000
set_option maxHeartbeats 4000000
namespace Ev
open PySem PySem.Spec L2
/-- an expression within a statement -/
def lift {α : Type} (r : Res α) (σ : List Sl) (k : α → Res Out) : Res Out := match r with
  | .ok a => k a
  | .exc c fs => .ok (.ex c fs σ)
  | .stuck => .stuck
def forR (body : D → List Sl → Res Out) : List D → List Sl → Res Out
  | [], σ => .ok (.nx σ)
  | x :: xs, σ => match body x σ with
    | .ok (.nx σ') => forR body xs σ'
    | .ok (.ct σ') => forR body xs σ'
    | .ok (.bk σ') => .ok (.nx σ')
    | r => r
def whileR (c : List Sl → Res RV) (body : List Sl → Res Out) : Nat → List Sl → Res Out
  | 0, _ => .stuck
  | n + 1, σ => lift (c σ) σ fun x => match x with
    | .v (.bl true) => match body σ with
      | .ok (.nx σ') => whileR c body n σ'
      | .ok (.ct σ') => whileR c body n σ'
      | .ok (.bk σ') => .ok (.nx σ')
      | r => r
    | .v (.bl false) => .ok (.nx σ)
    | _ => .stuck
def fuel : Nat := 100000
/-- what a def hands back -/
def RV.back : RV → Option RV
  | .v d => some (.v d)
  | .f xs => some (.f xs)
  | .b _ xs => some (.f xs)
  | _ => none
def storeR (i : Nat) (x : RV) (σ : List Sl) : Option (List Sl) := match x with
  | .v d => some (σ.set i (.d d))
  | .f xs => some (σ.set i (.l xs))
  | .t kvs => some (σ.set i (.t kvs))
  | .k kvs => some (σ.set i (.k kvs))
  | _ => none
def ownL (σ : List Sl) (i : Nat) : Option (List D) := match σ[i]? with
  | some (.l xs) => some xs
  | _ => none
def lmD (m : LM) (xs : List D) (as : List D) : Option (List D) := match m, as with
  | .append, [d] => if xs.length < cap then some (xs ++ [d]) else none
  | .extend, [.lst ys] => if xs.length + ys.length ≤ cap then some (xs ++ ys) else none
  | .pop, [] => if xs.isEmpty then none else some xs.dropLast
  | .reverse, [] => some xs.reverse
  | .clear, [] => some []
  | _, _ => none
def ownThen (σ : List Sl) (i : Nat) (k : List D → Res Out) : Res Out := match ownL σ i with
  | some xs => k xs
  | none => .stuck
def setD (σ : List Sl) (i : Nat) (xs : List D) (x y : RV) : Res Out := match asInt y, x.asV with
  | some n, some d => match L2.ixN xs.length n with
    | some j => .ok (.nx (σ.set i (.l (xs.set j d))))
    | none => .stuck
  | _, _ => .stuck
def putTD (σ : List Sl) (i : Nat) (kvs : List (List Int × D)) (x y : RV) : Res Out := match keyT y, x.asV with
  | some ns, some d => if kvs.length < cap then .ok (.nx (σ.set i (.t (putT ns d kvs)))) else .stuck
  | _, _ => .stuck
def putKD (σ : List Sl) (i : Nat) (kvs : List (Key × D)) (x y : RV) : Res Out := match keyK y, x.asV with
  | some ns, some d => if kvs.length < cap then .ok (.nx (σ.set i (.k (putK ns d kvs)))) else .stuck
  | _, _ => .stuck
def lmX (σ : List Sl) (i : Nat) (m : LM) (ys : List D) (rs : List RV) : Res Out := match allV rs with
  | some as => (ofOpt (lmD m ys as)).bind fun zs => .ok (.nx (σ.set i (.l zs)))
  | none => .stuck
variable (sub : Nat → List Nat → Option Bool)
mutual
def execS (R : Rt) : Stm → List Sl → Res Out
  | .set i e, σ => lift (evalE R e σ) σ fun x => (ofOpt (storeR i x σ)).bind fun σ' => .ok (.nx σ')
  | .unp is e, σ => lift (evalE R e σ) σ fun x => (ofOpt (x.asT.bind fun ds => bindL is ds σ)).bind fun σ' => .ok (.nx σ')
  | .par i j a b, σ => lift (evalE R a σ) σ fun x => lift (evalE R b σ) σ fun y => match x.asV, y.asV with
    | some d, some e => .ok (.nx ((σ.set i (.d d)).set j (.d e)))
    | _, _ => .stuck
  | .setIdx i k e, σ => lift (evalE R e σ) σ fun x => ownThen σ i fun xs => lift (evalE R k σ) σ fun y => setD σ i xs x y
  | .dput i k e, σ => lift (evalE R e σ) σ fun x => match σ[i]? with
    | some (.t kvs) => lift (evalE R k σ) σ fun y => putTD σ i kvs x y
    | some (.k kvs) => lift (evalE R k σ) σ fun y => putKD σ i kvs x y
    | _ => .stuck
  | .lm i m xs, σ => ownThen σ i fun ys => lift (evalL R xs σ) σ fun rs => lmX σ i m ys rs
  | .popS j i xs, σ => match ownL σ i, xs with
    | some ys, .nil => match ys.getLast? with
      | some d => .ok (.nx ((σ.set i (.l ys.dropLast)).set j (.d d)))
      | none => .stuck
    | _, _ => .stuck
  | .fset c k e, σ => lift (evalE R e σ) σ fun x => match σ[(0 : Nat)]?, x.asV with
    | some (.o c' fs), some d => if c' = c ∧ fs.length = k then .ok (.nx (σ.set 0 (.o c (fs ++ [d])))) else .stuck
    | _, _ => .stuck
  | .aug i o e, σ => match σ[i]? with
    | some (.d (.int m)) => lift (evalE R e σ) σ fun x => match asInt x with
      | some n => lift (binI o m n) σ fun z => (ofOpt (storeR i z σ)).bind fun σ' => .ok (.nx σ')
      | none => .stuck
    | _ => .stuck
  | .expr e, σ => lift (evalE R e σ) σ fun _ => .ok (.nx σ)
  | .ret e, σ => lift (evalE R e σ) σ fun x => (ofOpt x.back).bind fun r => .ok (.ret r)
  | .retN, _ => .ok (.ret (.v .non))
  | .ifs c a b, σ => lift (evalE R c σ) σ fun x => match x with
    | .v (.bl true) => execB R a σ
    | .v (.bl false) => execB R b σ
    | _ => .stuck
  | .forS tg it b, σ => lift (evalI R it σ) σ fun items => if items.2 then .stuck else forR (fun d σ' => (ofOpt (bindT tg d σ')).bind fun σ2 => execB R b σ2) items.1 σ
  | .whileS c b, σ => whileR (fun σ' => evalE R c σ') (fun σ' => execB R b σ') fuel σ
  | .raise c xs, σ => lift (evalL R xs σ) σ fun rs => match allV rs with
    | some ds => .ok (.ex c ds σ)
    | none => .stuck
  | .tryS b hs, σ => match execB R b σ with
    | .ok (.ex c fs σ') => execH R hs c fs σ'
    | r => r
  | .brk, σ => .ok (.bk σ)
  | .cont, σ => .ok (.ct σ)
  | .pass, σ => .ok (.nx σ)
  | .bad, _ => .stuck
  | .frz i, σ => match ownL σ i with
    | some xs => .ok (.nx (σ.set i (.d (.lst xs))))
    | none => .ok (.nx σ)
termination_by structural s => s
def execB (R : Rt) : Stms → List Sl → Res Out
  | .nil, σ => .ok (.nx σ)
  | .cons s ss, σ => match execS R s σ with
    | .ok (.nx σ') => execB R ss σ'
    | r => r
termination_by structural s => s
def execH (R : Rt) : Hds → Nat → List D → List Sl → Res Out
  | .nil, c, fs, σ => .ok (.ex c fs σ)
  | .cons cs i b hs, c, fs, σ => match sub c cs with
    | some true => match execB R b (σ.set i (.x c fs)) with
      | .ok (.nx σ') => .ok (.nx (σ'.set i .u))
      | r => r
    | some false => execH R hs c fs σ
    | none => .stuck
termination_by structural s => s
end
structure Fn where
  np : Nat
  ns : Nat
  body : Stms
/-- the text: defs; each class's __init__ (its number among the defs, how many fields); constants; which classes are below which -/
structure Text where
  fn : Nat → Option Fn
  init : Nat → Option (Nat × Nat)
  con : Nat → Option D
  sub : Nat → List Nat → Option Bool
def callF (P : Text) (R : Rt) (g : Nat) (ds : List D) : Res RV := match P.fn g with
  | none => .stuck
  | some f => if ds.length = f.np ∧ f.np ≤ f.ns then match execB P.sub R f.body (ds.map Sl.d ++ List.replicate (f.ns - ds.length) .u) with
      | .ok (.ret r) => .ok r
      | .ok (.nx _) => .ok (.v .non)
      | .ok (.ex c fs _) => .exc c fs
      | _ => .stuck
    else .stuck
def doneO (c n : Nat) (σ : List Sl) : Res D := match σ[(0 : Nat)]? with
  | some (.o c' fs) => if c' = c ∧ fs.length = n then .ok (.ins c fs) else .stuck
  | _ => .stuck
def makeF (P : Text) (R : Rt) (c : Nat) (ds : List D) : Res D := match P.init c with
  | none => .stuck
  | some (g, n) => match P.fn g with
    | none => .stuck
    | some f => if ds.length + 1 = f.np ∧ f.np ≤ f.ns then match execB P.sub R f.body (.o c [] :: (ds.map Sl.d ++ List.replicate (f.ns - (ds.length + 1)) .u)) with
        | .ok (.nx σ) => doneO c n σ
        | .ok (.ex c fs _) => .exc c fs
        | _ => .stuck
      else .stuck
def rt (P : Text) : Nat → Rt
  | 0 => ⟨fun _ _ => .stuck, fun _ _ => .stuck, P.con⟩
  | n + 1 => ⟨callF P (rt P n), makeF P (rt P n), P.con⟩
end Ev


set_option Elab.async false
set_option linter.all false
set_option maxRecDepth 100000
set_option maxHeartbeats 4000000
namespace Ev
open PySem PySem.Spec L2
/-! ## what it means that an expression is read rightly -/
structure Zd where
  cls : Nat → Option ClsI
  cad : Nat → Addr
  T : List (Addr × Str)
  self : Addr
abbrev wd (X : Cx) (Z : Zd) : Wd := ⟨X.K, Z.cls, Z.cad, Z.T, Z.self⟩
variable {W : Wd}
/-- how a new object at a free place is told -/
def NewOk (W : Wd) (O : Addr → Prop) (H H' : Hp) (sl : Sl) (v : V) : Prop := ∃ a, v = .ref a ∧ H a = none ∧ HoOk W H' (fun b => O b ∨ b = a) a sl
def RVOk (W : Wd) (O : Addr → Prop) (σd : List Sl) (σ : L2.St) (H H' : Hp) : RV → V → Prop
  | .v d, v => Rep W H' O d v
  | .f xs, v => NewOk W O H H' (.l xs) v
  | .t kvs, v => NewOk W O H H' (.t kvs) v
  | .k kvs, v => NewOk W O H H' (.k kvs) v
  | .b i xs, v => σd[i]? = some (.l xs) ∧ σ[i]? = some (some v)
  | .o i c fs, v => σd[i]? = some (.o c fs) ∧ σ[i]? = some (some v)
/-- a raised error -/
def ExOk (W : Wd) (O : Addr → Prop) (H' : Hp) (c : Nat) (fs : List D) (cls : Value) (dx : Option Addr) : Prop :=
  cls = .ref (W.cad c) ∧ match fs with
    | [] => dx = none
    | [d] => ∃ a v nm, dx = some a ∧ H' a = some (.xd [(nm, v)]) ∧ (∃ ci, W.cls c = some ci ∧ ci.fields = [nm]) ∧ Rep W H' O d v
    | _ => False
def Post (W : Wd) (O : Addr → Prop) (σd : List Sl) (σ : L2.St) (H : Hp) (r : Res RV) (Q : VK) (Ew : XK) : Prop := match r with
  | .ok rv => ∀ v H', Ext W.T H H' → RVOk W O σd σ H H' rv v → Q v H'
  | .exc c fs => ∀ cls dx H', Ext W.T H H' → ExOk W O H' c fs cls dx → Ew cls dx H'
  | .stuck => False
variable {O : Addr → Prop} {σd : List Sl} {σ : L2.St} {H H1 H2 H' : Hp} {Q : VK} {Ew : XK} {Oc : Addr → Prop} {H0 : Hp}
theorem NewOk.from {sl : Sl} {v : V} (h : NewOk W O H1 H' sl v) (e : Ext W.T H H1) : NewOk W O H H' sl v := let ⟨a, e1, n, q⟩ := h; ⟨a, e1, e.none n, q⟩
theorem HoOk.eq {a : Addr} {sl : Sl} (h : HoOk W H O a sl) (e : Ext W.T H H') : H' a = H a := by
  rcases h.there with (⟨x, q⟩ | ⟨x, q⟩ | ⟨x, q⟩) | ⟨C, dx, fs, q⟩ <;> rw [q] <;> exact e.keep _ _ q fun ps z => by cases z
theorem HoOk.softA {a : Addr} {sl : Sl} {O' : Addr → Prop} (h : HoOk W H O' a sl) (so : Soft O H) : Soft (fun b => O b ∨ b = a) H := fun b hb o e => by
  rcases hb with hb | rfl
  · exact so b hb o e
  · rcases h.there with (⟨x, q⟩ | ⟨x, q⟩ | ⟨x, q⟩) | ⟨C, dx, fs, q⟩ <;> (rw [q] at e; cases e; exact ⟨fun _ z => (by cases z), fun _ _ z => (by cases z)⟩)
theorem NewOk.grow {sl : Sl} {v : V} (h : NewOk W O H H1 sl v) (e : Ext W.T H1 H2) (so : Soft O H1) : NewOk W O H H2 sl v :=
  let ⟨a, e1, n, q⟩ := h; ⟨a, e1, n, q.kept (Kept.of e) (q.softA so) (q.eq e)⟩
theorem RVOk.from {rv : RV} {v : V} (h : RVOk W O σd σ H1 H' rv v) (e : Ext W.T H H1) : RVOk W O σd σ H H' rv v := by
  cases rv with
  | v d => exact h
  | f xs => exact NewOk.from h e
  | t xs => exact NewOk.from h e
  | k xs => exact NewOk.from h e
  | b i xs => exact h
  | o i c fs => exact h
theorem RVOk.grow {rv : RV} {v : V} (h : RVOk W O σd σ H H1 rv v) (e : Ext W.T H1 H2) (so : Soft O H1) : RVOk W O σd σ H H2 rv v := by
  cases rv with
  | v d => exact Rep.kept (Kept.of e) so _ _ h
  | f xs => exact NewOk.grow h e so
  | t xs => exact NewOk.grow h e so
  | k xs => exact NewOk.grow h e so
  | b i xs => exact h
  | o i c fs => exact h
theorem Post.later {r : Res RV} (h : Post W O σd σ H r Q Ew) (e : Ext W.T H H1) : Post W O σd σ H1 r Q Ew := by
  cases r with
  | ok rv => exact fun v H' e' q => h v H' (e.trans e') (q.from e)
  | exc c fs => exact fun cls dx H' e' q => h cls dx H' (e.trans e') q
  | stuck => exact h
theorem Post.bind {r : Res RV} {f : RV → Res RV} {P : VK} (h : Post W O σd σ H (r.bind f) Q Ew)
    (k : ∀ rv v H1, r = .ok rv → Ext W.T H H1 → RVOk W O σd σ H H1 rv v → Post W O σd σ H1 (f rv) Q Ew → P v H1) : Post W O σd σ H r P Ew := by
  cases r with
  | ok rv => exact fun v H1 e q => k rv v H1 rfl e q (Post.later (r := f rv) h e)
  | exc c fs => exact h
  | stuck => exact h
theorem Post.ok {rv : RV} {v : V} (h : Post W O σd σ H (.ok rv) Q Ew) (e : Ext W.T H H') (q : RVOk W O σd σ H H' rv v) : Q v H' := h v H' e q
theorem Post.here {d : D} {v : V} (h : Post W O σd σ H (.ok (.v d)) Q Ew) (q : Rep W H O d v) : Q v H := h v H (Ext.refl H) q
/-- the weakest reading -/
def wE (X : Cx) (e : Expr) : TE := fun σ H Q => ∀ pins s, Inv X pins σ H s → wpAny (model X.prog X.w) X.A (eval e X.env) (EP X pins σ Q) X.xe s
theorem pw {X : Cx} (e : Expr) : PE X e (wE X e) := ⟨fun pins s σ H Q I h => h pins s I⟩
def SE (X : Cx) (Z : Zd) (R : Rt) (Wx : WX) (e : Expr) (x : Ex) : Prop :=
  ∀ (Oc : Addr → Prop) (H0 : Hp) (σd : List Sl) (σ : L2.St) (H : Hp) (Q : VK), RelS (wd X Z) Oc H0 σd σ H →
    Post (wd X Z) (OT Oc σd σ) σd σ H (evalE R x σd) Q (fun c d H' => Wx c d σ H') → wE X e σ H Q
theorem SE.of {X : Cx} {Z : Zd} {R : Rt} {Wx : WX} {e : Expr} {x : Ex} {t : TE} (p : PE X e t)
    (h : ∀ (Oc : Addr → Prop) (H0 : Hp) (σd : List Sl) (σ : L2.St) (H : Hp) (Q : VK), RelS (wd X Z) Oc H0 σd σ H →
      Post (wd X Z) (OT Oc σd σ) σd σ H (evalE R x σd) Q (fun c d H' => Wx c d σ H') → t σ H Q) : SE X Z R Wx e x :=
  fun Oc H0 σd σ H Q rel post pins s I => p.run pins s σ H Q I (h Oc H0 σd σ H Q rel post)

/-! ### how a value is read -/
/-- a list that is read: at a, the items at vs -/
def LsOk (W : Wd) (O : Addr → Prop) (H : Hp) (xs : List D) (v : V) : Prop := ∃ a vs, v = .ref a ∧ SqL W.K H a vs ∧ Reps W H O xs vs
def TsOk (W : Wd) (O : Addr → Prop) (H : Hp) (xs : List D) (v : V) : Prop := ∃ a vs, v = .ref a ∧ SqT W.K H a vs ∧ Reps W H O xs vs
theorem RVOk.lst {rv : RV} {v : V} {xs : List D} (R : RelS W Oc H0 σd σ H) (e : Ext W.T H H') (h : RVOk W (OT Oc σd σ) σd σ H H' rv v) (a : rv.asLst = some xs) :
    ∃ p vs, v = .ref p ∧ H' p = some (.lst vs) ∧ Reps W H' (OT Oc σd σ) xs vs := by
  cases rv with
  | v d =>
    cases d <;> cases a
    obtain ⟨p, vs, e1, e2, n, r⟩ := h
    exact ⟨p, vs, e1, e2, r⟩
  | f ys =>
    cases a
    obtain ⟨p, e1, n, vs, e2, r⟩ := h
    exact ⟨p, vs, e1, e2, r.less fun b hb => .inl hb⟩
  | b i ys =>
    cases a
    obtain ⟨h1, h2⟩ := h
    obtain ⟨p, e1, n, vs, e2, r⟩ := (R.grow e).slots i _ h1
    rw [h2] at e1
    cases e1
    exact ⟨p, vs, rfl, e2, r⟩
  | _ => cases a
theorem RVOk.ls {rv : RV} {v : V} {xs : List D} (R : RelS W Oc H0 σd σ H) (e : Ext W.T H H') (h : RVOk W (OT Oc σd σ) σd σ H H' rv v) (a : rv.asL = some xs) : LsOk W (OT Oc σd σ) H' xs v := by
  by_cases q : rv.asLst = some xs
  · obtain ⟨p, vs, e1, e2, r⟩ := h.lst R e q
    exact ⟨p, vs, e1, SqL.of e2, r⟩
  · cases rv with
    | v d =>
      cases d with
      | scr ns =>
        cases a
        obtain ⟨p, e1, e2⟩ := h
        exact ⟨p, _, e1, e2.sql, Reps.ints ns⟩
      | lst ys => exact (q a).elim
      | _ => cases a
    | f ys => exact (q a).elim
    | b i ys => exact (q a).elim
    | _ => cases a
theorem RVOk.ts {rv : RV} {v : V} {xs : List D} (h : RVOk W O σd σ H H' rv v) (a : rv.asT = some xs) : TsOk W O H' xs v := by
  cases rv with
  | v d =>
    cases d <;> cases a
    · obtain ⟨p, vs, e1, e2, r⟩ := h
      exact ⟨p, vs, e1, .inl (.inl e2), r⟩
    · obtain ⟨p, vs, e1, e2, r⟩ := h
      exact ⟨p, vs, e1, e2.sqt, r⟩
  | _ => cases a
theorem RVOk.ps {rv : RV} {v : V} {xs : List D} (h : RVOk W O σd σ H H' rv v) (a : rv.asP = some xs) : ∃ p vs, v = .ref p ∧ H' p = some (.tup vs) ∧ Reps W H' O xs vs := by
  cases rv with
  | v d =>
    cases d <;> cases a
    obtain ⟨p, vs, e1, e2, r⟩ := h
    exact ⟨p, vs, e1, e2, r⟩
  | _ => cases a
theorem RVOk.ss {rv : RV} {v : V} {xs : List D} (R : RelS W Oc H0 σd σ H) (e : Ext W.T H H') (h : RVOk W (OT Oc σd σ) σd σ H H' rv v) (a : rv.asS = some xs) : LsOk W (OT Oc σd σ) H' xs v ∨ TsOk W (OT Oc σd σ) H' xs v := by
  cases rv with
  | v d =>
    cases d with
    | tup ys => exact .inr (h.ts a)
    | tpn ys => exact .inr (h.ts a)
    | _ => exact .inl (h.ls R e a)
  | _ => exact .inl (h.ls R e a)
theorem RVOk.int {rv : RV} {v : V} {i : Int} (h : RVOk W O σd σ H H' rv v) (a : asInt rv = some i) : v = .int i := by
  cases rv with
  | v d => cases d <;> cases a; exact h
  | _ => cases a
theorem RVOk.str {rv : RV} {v : V} {s : Str} (h : RVOk W O σd σ H H' rv v) (a : asStr rv = some s) : v = .str s := by
  cases rv with
  | v d => cases d <;> cases a; exact h
  | _ => cases a
/-- .. to be kept: no place of the def's own is in it -/
theorem RVOk.rep {rv : RV} {v : V} {d : D} (R : RelS W Oc H0 σd σ H) (e : Ext W.T H H') (h : RVOk W (OT Oc σd σ) σd σ H H' rv v) (a : rv.asV = some d) : Rep W H' (OT Oc σd σ) d v := by
  cases rv with
  | v d => cases a; exact h
  | f ys =>
    cases a
    obtain ⟨p, e1, n, vs, e2, r⟩ := h
    refine ⟨p, vs, e1, e2, fun z => ?_, r.less fun b hb => .inl hb⟩
    obtain ⟨o, q, _⟩ := R.own.some z
    rw [n] at q; cases q
  | _ => cases a
end Ev


set_option Elab.async false
set_option linter.all false
set_option maxRecDepth 100000
set_option maxHeartbeats 4000000
namespace Ev
open PySem PySem.Spec L2
variable {W : Wd} {O : Addr → Prop} {σd : List Sl} {σ : L2.St} {H H1 H2 H' : Hp} {Q : VK} {Ew : XK} {Oc : Addr → Prop} {H0 : Hp}
theorem cap_line {n : Nat} (h : n ≤ cap) : n ≤ sizeLine := by
  have e : cap = 1000000 := rfl
  rw [PySem.sizeLine_eq]
  omega
theorem new_lst {p : Addr} {xs : List D} {vs : List V} (hp : H p = none) (so : Soft O H) (r : Reps W H O xs vs) : NewOk W O H (upd H p (.lst vs)) (.l xs) (.ref p) :=
  ⟨p, rfl, hp, vs, upd_same, (r.more (O' := fun b => O b ∨ b = p) fun b hb => hb.elim .inl fun z => .inr (by rw [z]; exact hp)).kept (Kept.of (Ext.upd (T := W.T) hp)) (so.add hp)⟩
theorem new_tup {p : Addr} {xs : List D} {vs : List V} (hp : H p = none) (so : Soft O H) (r : Reps W H O xs vs) : Rep W (upd H p (.tup vs)) O (.tup xs) (.ref p) :=
  ⟨p, vs, rfl, upd_same, r.kept (Kept.of (Ext.upd (T := W.T) hp)) so⟩
theorem mulOk_c {i j : Int} (h : mulOk i j = true) : CMul i j := by
  unfold mulOk at h
  simp only [Bool.or_eq_true, Bool.and_eq_true, decide_eq_true_eq] at h
  exact h
section
variable {X : Cx} {Z : Zd}
/-- the weakest reading of a two-place operation -/
def rW (X : Cx) (f : Value → Value → Sem Value) : R2 := fun x y H Q => ∀ (pins : List (Addr × Obj)) (s : Shared) (σ : L2.St) (v u : Value), Inv X pins σ H s → RelV x v → RelV y u → wpAny (model X.prog X.w) X.A (f v u) (EP X pins σ Q) X.xe s
theorem opW {f : Value → Value → Sem Value} : OpR X f (rW X f) := fun pins s σ H x y v u Q I rx ry h => h pins s σ v u I rx ry
theorem OpR.w {f : Value → Value → Sem Value} {r : R2} (h : OpR X f r) {x y : V} {H : Hp} {Q : VK} (q : r x y H Q) : rW X f x y H Q := fun pins s σ v u I rx ry => h pins s σ H x y v u Q I rx ry q
def uW (X : Cx) (f : Value → Sem Value) : V → Hp → VK → Prop := fun x H Q => ∀ (pins : List (Addr × Obj)) (s : Shared) (σ : L2.St) (v : Value), Inv X pins σ H s → RelV x v → wpAny (model X.prog X.w) X.A (f v) (EP X pins σ Q) X.xe s
def cW (X : Cx) (f : Value) : List V → Hp → VK → Prop := fun xs H Q => ∀ (pins : List (Addr × Obj)) (s : Shared) (σ : L2.St) (us : List Value), Inv X pins σ H s → Vals xs us → wpAny (model X.prog X.w) X.A (call f us) (EP X pins σ Q) X.xe s
theorem callW {f : Value} : CallR X f (cW X f) := fun pins s σ H xs us Q I r h => h pins s σ us I r
theorem CallR.w {f : Value} {r : List V → Hp → VK → Prop} (h : CallR X f r) {xs : List V} {H : Hp} {Q : VK} (q : r xs H Q) : cW X f xs H Q := fun pins s σ us I rv => h pins s σ H xs us Q I rv q

def opOf : BO → Operator
  | .add => .Add | .sub => .Sub | .mul => .Mult | .mod => .Mod | .fdiv => .FloorDiv | .pow => .Pow
theorem binI_w {o : BO} {i j : Int} (p : Post W O σd σ H (binI o i j) Q Ew) : rW X (binaryOp (opOf o)) (.int i) (.int j) H Q := by
  cases o with
  | add => exact OpR.w op_add ⟨i, j, rfl, rfl, Post.here (d := .int (i + j)) p rfl⟩
  | sub => exact OpR.w op_sub ⟨i, j, rfl, rfl, Post.here (d := .int (i - j)) p rfl⟩
  | mul =>
    unfold binI at p
    dsimp only at p
    split at p
    · rename_i h
      exact OpR.w op_mul ⟨i, j, rfl, rfl, mulOk_c h, Post.here (d := .int (i * j)) p rfl⟩
    · exact p.elim
  | mod =>
    unfold binI at p
    dsimp only at p
    split at p
    · rename_i h
      exact OpR.w op_mod ⟨i, j, rfl, rfl, h, Post.here (d := .int (i % j)) p rfl⟩
    · exact p.elim
  | fdiv =>
    unfold binI at p
    dsimp only at p
    split at p
    · rename_i h
      exact OpR.w op_fdiv ⟨i, j, rfl, rfl, h, Post.here (d := .int (i / j)) p rfl⟩
    · exact p.elim
  | pow =>
    unfold binI at p
    dsimp only at p
    split at p
    · rename_i h
      exact OpR.w op_pow ⟨i, j, rfl, rfl, h, Post.here (d := .int (i ^ j.toNat)) p rfl⟩
    · exact p.elim
theorem bin_w {o : BO} {rx ry : RV} {x y : V} (R : RelS (wd X Z) Oc H0 σd σ H) (e : Ext Z.T H H2) (hx : RVOk (wd X Z) (OT Oc σd σ) σd σ H H2 rx x) (hy : RVOk (wd X Z) (OT Oc σd σ) σd σ H H2 ry y)
    (p : Post (wd X Z) (OT Oc σd σ) σd σ H2 (binD o rx ry) Q Ew) : rW X (binaryOp (opOf o)) x y H2 Q := by
  have so := (R.grow e).own.soft
  unfold binD at p
  cases ex : asInt rx with
  | some i =>
    cases ey : asInt ry with
    | some j =>
      rw [ex, ey] at p
      rw [hx.int ex, hy.int ey]
      exact binI_w p
    | none => rw [ex, ey] at p; exact p.elim
  | none =>
    cases ey : asInt ry with
    | some j =>
      rw [ex, ey] at p
      dsimp only at p
      cases o <;> try exact p.elim
      cases el : rx.asLst with
      | none => rw [el] at p; exact p.elim
      | some xs =>
        rw [el] at p
        dsimp only at p
        split at p
        · rename_i hc
          obtain ⟨l, vs, e1, e2, r⟩ := hx.lst R e el
          rw [e1, hy.int ey]
          have hl := r.length
          have rr : ∀ k : Nat, Reps (wd X Z) H2 (OT Oc σd σ) (List.replicate k xs).flatten (List.replicate k vs).flatten := fun k => by
            induction k with
            | zero => simp [Reps]
            | succ k ih => rw [List.replicate_succ, List.replicate_succ, List.flatten_cons, List.flatten_cons]; exact Reps.append r ih
          exact OpR.w op_rep ⟨l, j, vs, rfl, rfl, e2, hc.2.1, hc.2.2, by rw [hl]; exact cap_line hc.1, fun q hq => p.ok (Ext.upd hq) (new_lst hq so (rr _))⟩
        · exact p.elim
    | none =>
      rw [ex, ey] at p
      dsimp only at p
      cases o <;> try exact p.elim
      cases el : rx.asLst with
      | some xs =>
        cases el2 : ry.asLst with
        | some ys =>
          rw [el, el2] at p
          dsimp only at p
          split at p
          · rename_i hc
            obtain ⟨l, vs, e1, e2, r⟩ := hx.lst R e el
            obtain ⟨l2, ws, e3, e4, r2⟩ := hy.lst R e el2
            rw [e1, e3]
            have h1 := r.length
            have h2 := r2.length
            exact OpR.w op_cat ⟨l, l2, vs, ws, rfl, rfl, e2, e4, by rw [h1, h2]; exact cap_line hc, fun q hq => p.ok (Ext.upd hq) (new_lst hq so (Reps.append r r2))⟩
          · exact p.elim
        | none =>
          have z : rx.asP = none := by
            cases rx with
            | v d => cases d <;> first | rfl | cases el
            | _ => rfl
          have z2 : asStr rx = none := by
            cases rx with
            | v d => cases d <;> first | rfl | cases el
            | _ => rfl
          rw [el, el2, z, z2] at p
          exact p.elim
      | none =>
        have p' : Post (wd X Z) (OT Oc σd σ) σd σ H2 (match rx.asP, ry.asP with
          | some xs, some ys => if xs.length + ys.length ≤ cap then .ok (.v (.tup (xs ++ ys))) else .stuck
          | _, _ => match asStr rx, asStr ry with
            | some s, some t => if s.length + t.length ≤ cap then .ok (.v (.str (s ++ t))) else .stuck
            | _, _ => .stuck) Q Ew := by
          rw [el] at p
          cases ry.asLst <;> exact p
        clear p
        cases et : rx.asP with
        | some xs =>
          cases et2 : ry.asP with
          | some ys =>
            rw [et, et2] at p'
            dsimp only at p'
            split at p'
            · rename_i hc
              obtain ⟨a, vs, e1, e2, r⟩ := hx.ps et
              obtain ⟨b, ws, e3, e4, r2⟩ := hy.ps et2
              rw [e1, e3]
              have h1 := r.length
              have h2 := r2.length
              refine OpR.w op_catA ⟨a, b, vs, ws, rfl, rfl, .inl (.inl e2), .inl (.inl e4), by rw [h1, h2]; exact cap_line hc, fun z => ?_, fun _ z => ?_, fun _ _ q hq => p'.ok (Ext.upd hq) (new_tup hq so (Reps.append r r2))⟩
              · subst z
                have zx : xs = [] := List.length_eq_zero_iff.mp (by simpa using h1.symm)
                subst zx
                exact Post.here (d := .tup ys) p' ⟨b, ws, rfl, e4, r2⟩
              · subst z
                have zx : ys = [] := List.length_eq_zero_iff.mp (by simpa using h2.symm)
                subst zx
                rw [List.append_nil] at p'
                exact Post.here (d := .tup xs) p' ⟨a, vs, rfl, e2, r⟩
            · exact p'.elim
          | none =>
            have z2 : asStr rx = none := by
              cases rx with
              | v d => cases d <;> first | rfl | cases et
              | _ => rfl
            rw [et, et2, z2] at p'
            exact p'.elim
        | none =>
          cases es : asStr rx with
          | none => rw [et, es] at p'; exact p'.elim
          | some a =>
            cases es2 : asStr ry with
            | none => rw [et, es, es2] at p'; exact p'.elim
            | some b =>
              rw [et, es, es2] at p'
              dsimp only at p'
              split at p'
              · rename_i hc
                rw [hx.str es, hy.str es2]
                exact OpR.w op_add_str ⟨a, b, rfl, rfl, cap_line hc, Post.here (d := .str (a ++ b)) p' rfl⟩
              · exact p'.elim
end
end Ev


set_option Elab.async false
set_option linter.all false
set_option maxRecDepth 100000
set_option maxHeartbeats 4000000
namespace Ev
open PySem PySem.Spec L2
variable {W : Wd} {O : Addr → Prop} {σd : List Sl} {σ : L2.St} {H H1 H2 H' : Hp} {Q : VK} {Ew : XK} {Oc : Addr → Prop} {H0 : Hp}
/-! ### == of data -/
mutual
theorem Rep.dp : ∀ (d : D) (v : V), (toP d).canLay0 = true → Rep W H O d v → Dp W.K H v (toP d)
  | .non, v, _, h => by rw [show v = V.non from h]; exact .non
  | .bl b, v, _, h => by rw [show v = V.bl b from h]; exact .bl b
  | .int i, v, _, h => by rw [show v = V.int i from h]; exact .int i
  | .str s, v, _, h => by rw [show v = V.str s from h]; exact .str s
  | .tup xs, v, c, ⟨a, vs, e, h, r⟩ => by
    rw [e]
    exact .tup (.inl (.inl h)) (Reps.dp xs vs (by simpa [toP, PyData.canLay0] using c) r)
  | .tpn xs, v, c, ⟨a, vs, e, h, r⟩ => by
    rw [e]
    exact .tup h.sqt (Reps.dp xs vs (by simpa [toP, PyData.canLay0] using c) r)
  | .lst xs, v, c, ⟨a, vs, e, h, n, r⟩ => by
    rw [e]
    exact .lst (SqL.of h) (Reps.dp xs vs (by simpa [toP, PyData.canLay0] using c) r)
  | .scr ns, v, c, _ => by simp [toP, PyData.canLay0] at c
  | .ins k fs, v, c, _ => by simp [toP, PyData.canLay0] at c
theorem Reps.dp : ∀ (ds : List D) (vs : List V), PyData.canLayAll0 (toPs ds) = true → Reps W H O ds vs → DpAll W.K H vs (toPs ds)
  | [], vs, _, h => by rw [show vs = [] from h]; exact .nil
  | d :: ds, vs, c, ⟨v, r, e, h, t⟩ => by
    have c' : ((toP d).canLay0 && PyData.canLayAll0 (toPs ds)) = true := by simpa [toPs, PyData.canLayAll0] using c
    rw [Bool.and_eq_true] at c'
    rw [e]
    exact .cons (Rep.dp d v c'.1 h) (Reps.dp ds r c'.2 t)
end
theorem RVOk.dp {rv : RV} {v : V} {d : D} (R : RelS W Oc H0 σd σ H) (e : Ext W.T H H') (h : RVOk W (OT Oc σd σ) σd σ H H' rv v) (a : rv.asD = some d) (c : SeqAt.shaped (toP d) = true) : Dp W.K H' v (toP d) := by
  have c' := SeqAt.canLay_of_shaped c
  cases rv with
  | v d => cases a; exact Rep.dp _ _ c' h
  | f ys =>
    cases a
    obtain ⟨p, vs, e1, e2, r⟩ := h.lst R e rfl
    rw [e1]
    exact .lst (SqL.of e2) (Reps.dp ys vs (by simpa [toP, PyData.canLay0] using c') r)
  | b i ys =>
    cases a
    obtain ⟨p, vs, e1, e2, r⟩ := h.lst R e rfl
    rw [e1]
    exact .lst (SqL.of e2) (Reps.dp ys vs (by simpa [toP, PyData.canLay0] using c') r)
  | _ => cases a
theorem deq_some {d e : D} {b : Bool} (h : deq d e = some b) : SeqAt.shaped (toP d) = true ∧ SeqAt.shaped (toP e) = true ∧ b = PyData.eqv (toP d) (toP e) := by
  unfold deq at h
  split at h
  · rename_i c
    rw [Bool.and_eq_true] at c
    exact ⟨c.1, c.2, (Option.some.inj h).symm⟩
  · cases h
theorem scalar_flat {d : D} {v : V} (h : Rep W H O d v) (s : scalar d = true) : flatV v = true := by
  cases d with
  | non => rw [show v = V.non from h]; rfl
  | bl b => rw [show v = V.bl b from h]; rfl
  | int i => rw [show v = V.int i from h]; rfl
  | str x => rw [show v = V.str x from h]; rfl
  | _ => cases s
theorem eqS_V {d e : D} {v u : V} (h : Rep W H O d v) (k : Rep W H O e u) (s : scalar d = true) (t : scalar e = true) : eqS d e = eqV v u := by
  cases d with
  | non => rw [show v = V.non from h]; cases e with
    | non => rw [show u = V.non from k]; rfl
    | bl b => rw [show u = V.bl b from k]; rfl
    | int i => rw [show u = V.int i from k]; rfl
    | str x => rw [show u = V.str x from k]; rfl
    | _ => cases t
  | bl b => rw [show v = V.bl b from h]; cases e with
    | non => rw [show u = V.non from k]; rfl
    | bl b => rw [show u = V.bl b from k]; rfl
    | int i => rw [show u = V.int i from k]; rfl
    | str x => rw [show u = V.str x from k]; rfl
    | _ => cases t
  | int i => rw [show v = V.int i from h]; cases e with
    | non => rw [show u = V.non from k]; rfl
    | bl b => rw [show u = V.bl b from k]; rfl
    | int i => rw [show u = V.int i from k]; rfl
    | str x => rw [show u = V.str x from k]; rfl
    | _ => cases t
  | str x => rw [show v = V.str x from h]; cases e with
    | non => rw [show u = V.non from k]; rfl
    | bl b => rw [show u = V.bl b from k]; rfl
    | int i => rw [show u = V.int i from k]; rfl
    | str x => rw [show u = V.str x from k]; rfl
    | _ => cases t
  | _ => cases s
theorem flats_V : ∀ {ds : List D} {vs : List V}, Reps W H O ds vs → ds.all scalar = true → vs.all flatV = true
  | [], vs, h, _ => by rw [show vs = [] from h]; rfl
  | d :: ds, vs, ⟨v, r, e, h, t⟩, s => by
    rw [List.all_cons, Bool.and_eq_true] at s
    rw [e, List.all_cons, scalar_flat h s.1, flats_V t s.2]
    rfl
theorem any_V {x : D} {u : V} (hx : Rep W H O x u) (sx : scalar x = true) : ∀ {ds : List D} {vs : List V}, Reps W H O ds vs → ds.all scalar = true → (ds.any fun e => eqS e x) = inV u vs
  | [], vs, h, _ => by rw [show vs = [] from h]; rfl
  | d :: ds, vs, ⟨v, r, e, h, t⟩, s => by
    rw [List.all_cons, Bool.and_eq_true] at s
    have ih := any_V hx sx t s.2
    unfold inV at ih ⊢
    rw [e, List.any_cons, List.any_cons, eqS_V h hx s.1 sx, ih]
theorem deci (i j : Int) : decide (V.int i = V.int j) = decide (i = j) := by
  by_cases h : i = j
  · subst h; simp
  · have h' : ¬ V.int i = V.int j := fun z => h (by cases z; rfl)
    simp [h]
section
variable {X : Cx} {Z : Zd}
def cmpOf : CO → CmpOp
  | .eq => .Eq | .ne => .NotEq | .lt => .Lt | .le => .LtE | .gt => .Gt | .ge => .GtE | .isn => .Is | .notn => .IsNot | .inn => .In | .ni => .NotIn
theorem cmpI_w {o : CO} {i j : Int} (p : Post W O σd σ H (cmpI o i j) Q Ew) : rW X (compareOp (cmpOf o)) (.int i) (.int j) H Q := by
  cases o with
  | lt => exact OpR.w op_lt ⟨i, j, rfl, rfl, Post.here (d := .bl (decide (i < j))) p rfl⟩
  | le => exact OpR.w op_le ⟨i, j, rfl, rfl, Post.here (d := .bl (decide (i ≤ j))) p rfl⟩
  | gt => exact OpR.w op_gt ⟨i, j, rfl, rfl, Post.here (d := .bl (decide (j < i))) p rfl⟩
  | ge => exact OpR.w op_ge ⟨i, j, rfl, rfl, Post.here (d := .bl (decide (j ≤ i))) p rfl⟩
  | eq => exact OpR.w op_eq ⟨rfl, by rw [deci]; exact Post.here (d := .bl (decide (i = j))) p rfl⟩
  | ne => exact OpR.w op_ne ⟨rfl, by rw [deci]; exact Post.here (d := .bl (!decide (i = j))) p rfl⟩
  | _ => exact p.elim
theorem cmp_w {o : CO} {rx ry : RV} {x y : V} (R : RelS (wd X Z) Oc H0 σd σ H) (hu : X.A.units + 64 < cLine) (e : Ext Z.T H H2) (hx : RVOk (wd X Z) (OT Oc σd σ) σd σ H H2 rx x) (hy : RVOk (wd X Z) (OT Oc σd σ) σd σ H H2 ry y)
    (p : Post (wd X Z) (OT Oc σd σ) σd σ H2 (cmpD o rx ry) Q Ew) : rW X (compareOp (cmpOf o)) x y H2 Q := by
  unfold cmpD at p
  by_cases hi : ∃ i j, asInt rx = some i ∧ asInt ry = some j
  · obtain ⟨i, j, h1, h2⟩ := hi
    rw [h1, h2] at p
    rw [hx.int h1, hy.int h2]
    exact cmpI_w p
  · have p' : Post (wd X Z) (OT Oc σd σ) σd σ H2 (cmpX o rx ry) Q Ew := by
      cases h1 : asInt rx with
      | none => rw [h1] at p; exact p
      | some i =>
        cases h2 : asInt ry with
        | none => rw [h1, h2] at p; exact p
        | some j => exact (hi ⟨i, j, h1, h2⟩).elim
    clear p
    have eqs : ∀ b, deq2 rx ry = some b → ∃ d f, Dp X.K H2 x d ∧ Dp X.K H2 y f ∧ SeqAt.shaped d = true ∧ SeqAt.shaped f = true ∧ b = PyData.eqv d f := fun b hb => by
      unfold deq2 at hb
      cases ed : rx.asD with
      | none => rw [ed] at hb; cases hb
      | some d =>
        cases ee : ry.asD with
        | none => rw [ed, ee] at hb; cases hb
        | some f =>
          rw [ed, ee] at hb
          obtain ⟨s1, s2, e3⟩ := deq_some hb
          exact ⟨_, _, hx.dp R e ed s1, hy.dp R e ee s2, s1, s2, e3⟩
    have has : ∀ b, hasD rx ry = some b → ∃ q xs, y = .ref q ∧ (SqL X.K H2 q xs ∨ SqT X.K H2 q xs) ∧ flatV x = true ∧ xs.all flatV = true ∧ b = inV x xs := fun b hb => by
      unfold hasD at hb
      cases rx with
      | v d =>
        try dsimp only at hb
        cases es : ry.asS with
        | none => rw [es] at hb; cases hb
        | some ys =>
          rw [es] at hb
          dsimp only at hb
          split at hb
          · rename_i c
            rw [Bool.and_eq_true] at c
            cases hb
            rcases hy.ss R e es with ⟨q, vs, e1, e2, r⟩ | ⟨q, vs, e1, e2, r⟩
            · exact ⟨q, vs, e1, .inl e2, scalar_flat hx c.1, flats_V r c.2, any_V hx c.1 r c.2⟩
            · exact ⟨q, vs, e1, .inr e2, scalar_flat hx c.1, flats_V r c.2, any_V hx c.1 r c.2⟩
          · cases hb
      | _ => cases hb
    cases o with
    | eq =>
      unfold cmpX at p'
      try dsimp only at p'
      cases q : deq2 rx ry with
      | none => rw [q] at p'; exact p'.elim
      | some b =>
        rw [q] at p'
        obtain ⟨d, f, d1, d2, s1, s2, e3⟩ := eqs b q
        exact OpR.w (op_eqD hu) ⟨_, _, d1, d2, s1, s2, by rw [← e3]; exact Post.here (d := .bl b) p' rfl⟩
    | ne =>
      unfold cmpX at p'
      try dsimp only at p'
      cases q : deq2 rx ry with
      | none => rw [q] at p'; exact p'.elim
      | some b =>
        rw [q] at p'
        obtain ⟨d, f, d1, d2, s1, s2, e3⟩ := eqs b q
        exact OpR.w (op_neD hu) ⟨_, _, d1, d2, s1, s2, by rw [← e3]; exact Post.here (d := .bl (!b)) p' rfl⟩
    | inn =>
      unfold cmpX at p'
      try dsimp only at p'
      cases q : hasD rx ry with
      | none => rw [q] at p'; exact p'.elim
      | some b =>
        rw [q] at p'
        obtain ⟨a, xs, e1, e2, f1, f2, e3⟩ := has b q
        exact OpR.w op_in_seq ⟨a, xs, e1, e2, f1, f2, by rw [if_neg Bool.false_ne_true, ← e3]; exact Post.here (d := .bl b) p' rfl⟩
    | ni =>
      unfold cmpX at p'
      try dsimp only at p'
      cases q : hasD rx ry with
      | none => rw [q] at p'; exact p'.elim
      | some b =>
        rw [q] at p'
        obtain ⟨a, xs, e1, e2, f1, f2, e3⟩ := has b q
        exact OpR.w op_notIn_seq ⟨a, xs, e1, e2, f1, f2, by rw [if_pos rfl, ← e3]; exact Post.here (d := .bl (!b)) p' rfl⟩
    | _ => exact p'.elim
/-- x is None -/
theorem isNone_V {rx : RV} {x : V} {b : Bool} (R : RelS (wd X Z) Oc H0 σd σ H) (e : Ext Z.T H H2) (hx : RVOk (wd X Z) (OT Oc σd σ) σd σ H H2 rx x) (h : isNone rx = some b) : decide (x = .non) = b := by
  cases rx with
  | v d =>
    cases d with
    | non => cases h; rw [show x = V.non from hx]; rfl
    | bl b => cases h; rw [show x = V.bl b from hx]; rfl
    | int i => cases h; rw [show x = V.int i from hx]; rfl
    | str s => cases h; rw [show x = V.str s from hx]; rfl
    | tup xs => cases h; obtain ⟨a, vs, e1, _⟩ := hx; rw [e1]; rfl
    | tpn xs => cases h; obtain ⟨a, vs, e1, _⟩ := hx; rw [e1]; rfl
    | lst xs => cases h; obtain ⟨a, vs, e1, _⟩ := hx; rw [e1]; rfl
    | scr xs => cases h; obtain ⟨a, e1, _⟩ := hx; rw [e1]; rfl
    | ins c fs => cases h; obtain ⟨a, _, _, _, e1, _⟩ := hx; rw [e1]; rfl
  | f xs => cases h; obtain ⟨a, e1, _⟩ := hx; rw [e1]; rfl
  | b i xs =>
    cases h
    obtain ⟨p, vs, e1, _⟩ := hx.lst R e rfl
    rw [e1]; rfl
  | _ => cases h
theorem atI_reps {xs : List D} {vs : List V} {i : Int} {d : D} (r : Reps W H O xs vs) (h : ((L2.ixN xs.length i).bind fun j => xs[j]?) = some d) : ∃ v, atI vs i = some v ∧ Rep W H O d v := by
  obtain ⟨j, h1, h2⟩ := Option.bind_eq_some_iff.mp h
  obtain ⟨v, h3, h4⟩ := r.get h2
  refine ⟨v, ?_, h4⟩
  unfold atI
  rw [r.length, h1]
  exact h3
def iW (X : Cx) : R2 := fun x y H Q => ∀ (value slice : Expr) (pins : List (Addr × Obj)) (s : Shared) (σ : L2.St) (v u : Value), Inv X pins σ H s → RelV x v → RelV y u →
    subscripted slice false v u = operate [v, u] (getItem v u) → wpAny (model X.prog X.w) X.A (PyProof.Rows.subscriptTail value slice v u) (EP X pins σ Q) X.xe s
theorem ixW : IxR X (iW X) := fun value slice pins s σ H x y v u Q I rx ry h hs => h value slice pins s σ v u I rx ry hs
theorem idx_w {rx ry : RV} {x y : V} (R : RelS (wd X Z) Oc H0 σd σ H) (e : Ext Z.T H H2) (hx : RVOk (wd X Z) (OT Oc σd σ) σd σ H H2 rx x) (hy : RVOk (wd X Z) (OT Oc σd σ) σd σ H H2 ry y)
    (p : Post (wd X Z) (OT Oc σd σ) σd σ H2 (idxD rx ry) Q Ew) : iW X x y H2 Q := by
  intro value slice pins s σ' v u I rx' ry' hs
  unfold idxD at p
  cases e1 : asInt ry with
  | none => rw [e1] at p; exact p.elim
  | some k =>
    cases e2 : rx.asS with
    | none => rw [e1, e2] at p; exact p.elim
    | some xs =>
      rw [e1, e2] at p
      dsimp only at p
      cases e3 : ((L2.ixN xs.length k).bind fun j => xs[j]?) with
      | none => rw [e3] at p; exact p.elim
      | some d =>
        rw [e3] at p
        have hk := hy.int e1
        rcases hx.ss R e e2 with ⟨a, vs, h1, h2, r⟩ | ⟨a, vs, h1, h2, r⟩
        · obtain ⟨w, h3, h4⟩ := atI_reps r e3
          exact ix_list value slice pins s σ' H2 x y v u Q I rx' ry' ⟨a, vs, k, w, h1, hk, h2, h3, Post.here p h4⟩ hs
        · obtain ⟨w, h3, h4⟩ := atI_reps r e3
          exact ix_tup value slice pins s σ' H2 x y v u Q I rx' ry' ⟨a, vs, k, w, h1, hk, h2, h3, Post.here p h4⟩ hs
theorem cut_reps {xs : List D} {vs : List V} (r : Reps W H O xs vs) (lo hi : Option Int) : Reps W H O (sliceL xs lo hi) (cutV vs lo hi) := by
  unfold sliceL cutV
  rw [r.length]
  exact (r.drop _).take _
def slW (X : Cx) : V → Option Int → Option Int → Hp → VK → Prop := fun x lo hi H Q => ∀ (pins : List (Addr × Obj)) (s : Shared) (σ : L2.St) (v vl vu : Value) (sl : Addr), Inv X pins σ H s → RelV x v → s.heap.IsSliceOf sl vl vu .none → PySem.IsPart vl lo → PySem.IsPart vu hi →
    ∃ T id, typeLookup (.type T) "__getitem__" = pure (some (.builtin id)) ∧ s.TypeIs v T ∧ wpAny (model X.prog X.w) X.A (getItem v (.ref sl)) (EP X pins σ Q) X.xe s
theorem slR : SlR X (slW X) := fun pins s σ H x v vl vu lo hi sl Q I rx hs pl pu h => h pins s σ v vl vu sl I rx hs pl pu
theorem slice_w {rx : RV} {x : V} {lo hi : Option Int} (R : RelS (wd X Z) Oc H0 σd σ H) (e : Ext Z.T H H2) (hx : RVOk (wd X Z) (OT Oc σd σ) σd σ H H2 rx x)
    (p : Post (wd X Z) (OT Oc σd σ) σd σ H2 (sliceD rx lo hi) Q Ew) : slW X x lo hi H2 Q := by
  intro pins s σ' v vl vu sl I rx' hs pl pu
  have so := (R.grow e).own.soft
  unfold sliceD at p
  cases et : rx.asP with
  | some xs =>
    rw [et] at p
    dsimp only at p
    obtain ⟨a, vs, h1, h2, r⟩ := hx.ps et
    refine sl_tupA pins s σ' H2 x v vl vu lo hi sl Q I rx' hs pl pu ⟨a, vs, h1, .inl (.inl h2), fun c => ?_, fun _ q hq => Post.ok p (Ext.upd hq) (new_tup hq so (cut_reps r lo hi))⟩
    have e3 : sliceL xs lo hi = xs := by
      unfold sliceL
      rw [r.length] at c
      rw [c.1, c.2]
      simp
    rw [e3] at p
    exact Post.here (d := .tup xs) p ⟨a, vs, rfl, h2, r⟩
  | none =>
    rw [et] at p
    dsimp only at p
    cases el : rx.asL with
    | none => rw [el] at p; exact p.elim
    | some xs =>
      rw [el] at p
      obtain ⟨a, vs, h1, h2, r⟩ := hx.ls R e el
      exact sl_list pins s σ' H2 x v vl vu lo hi sl Q I rx' hs pl pu ⟨a, vs, h1, h2, fun q hq => Post.ok p (Ext.upd hq) (new_lst hq so (cut_reps r lo hi))⟩
end
end Ev


set_option Elab.async false
set_option linter.all false
set_option maxRecDepth 100000
set_option maxHeartbeats 4000000
namespace Ev
open PySem PySem.Spec L2
variable {W : Wd} {O : Addr → Prop} {σd : List Sl} {σ : L2.St} {H H1 H2 H' : Hp} {Q : VK} {Ew : XK} {Oc : Addr → Prop} {H0 : Hp}
/-! ### sorting -/
theorem insI_perm (x : Int) : ∀ l, (insI x l).Perm (x :: l)
  | [] => List.Perm.refl _
  | y :: ys => by
    unfold insI
    split
    · exact List.Perm.refl _
    · exact ((insI_perm x ys).cons y).trans (List.Perm.swap x y ys)
theorem sortI_perm : ∀ l, (sortI l).Perm l
  | [] => List.Perm.refl _
  | x :: xs => (insI_perm x _).trans ((sortI_perm xs).cons x)
theorem insI_sorted (x : Int) : ∀ l, l.Pairwise (· ≤ ·) → (insI x l).Pairwise (· ≤ ·)
  | [], _ => by simp [insI]
  | y :: ys, h => by
    unfold insI
    rw [List.pairwise_cons] at h
    split
    · rename_i c
      refine List.pairwise_cons.mpr ⟨fun z hz => ?_, List.pairwise_cons.mpr h⟩
      rcases List.mem_cons.mp hz with e | hz
      · rw [e]; exact c
      · exact Int.le_trans c (h.1 z hz)
    · rename_i c
      refine List.pairwise_cons.mpr ⟨fun z hz => ?_, insI_sorted x ys h.2⟩
      rcases List.mem_cons.mp ((insI_perm x ys).mem_iff.mp hz) with e | hz
      · rw [e]; omega
      · exact h.1 z hz
theorem sortI_sorted : ∀ l, (sortI l).Pairwise (· ≤ ·)
  | [] => List.Pairwise.nil
  | x :: xs => insI_sorted x _ (sortI_sorted xs)
theorem sortI_eq {l m : List Int} (p : m.Perm l) (s : m.Pairwise (· ≤ ·)) : m = sortI l :=
  List.Perm.eq_of_pairwise (le := (· ≤ ·)) (fun a b _ _ h k => Int.le_antisymm h k) s (sortI_sorted l) (p.trans (sortI_perm l).symm)
theorem leL_le : ∀ x y : List Int, leL x y = decide (x ≤ y)
  | [], y => by simp [leL]
  | _ :: _, [] => by simp [leL]
  | a :: x, b :: y => by
    unfold leL
    by_cases h : a = b
    · subst h
      rw [if_pos rfl, leL_le x y]
      by_cases q : x ≤ y
      · simp [q, List.cons_le_cons_iff]
      · simp [q, List.cons_le_cons_iff]
    · rw [if_neg h]
      by_cases q : a < b
      · have : a :: x ≤ b :: y := List.cons_le_cons_iff.mpr (.inl q)
        simp [q, this]
      · have : ¬ a :: x ≤ b :: y := fun z => (List.cons_le_cons_iff.mp z).elim q fun w => h w.1
        simp [q, this]
theorem insT_perm (x : List Int) : ∀ l, (insT x l).Perm (x :: l)
  | [] => List.Perm.refl _
  | y :: ys => by
    unfold insT
    split
    · exact List.Perm.refl _
    · exact ((insT_perm x ys).cons y).trans (List.Perm.swap x y ys)
theorem sortT_perm : ∀ l, (sortT l).Perm l
  | [] => List.Perm.refl _
  | x :: xs => (insT_perm x _).trans ((sortT_perm xs).cons x)
theorem insT_sorted (x : List Int) : ∀ l : List (List Int), l.Pairwise (· ≤ ·) → (insT x l).Pairwise (· ≤ ·)
  | [], _ => by simp [insT]
  | y :: ys, h => by
    unfold insT
    rw [List.pairwise_cons] at h
    rw [leL_le]
    split
    · rename_i c
      have c := of_decide_eq_true c
      refine List.pairwise_cons.mpr ⟨fun z hz => ?_, List.pairwise_cons.mpr h⟩
      rcases List.mem_cons.mp hz with e | hz
      · rw [e]; exact c
      · exact List.le_trans c (h.1 z hz)
    · rename_i c
      have c : ¬ x ≤ y := fun z => c (decide_eq_true z)
      refine List.pairwise_cons.mpr ⟨fun z hz => ?_, insT_sorted x ys h.2⟩
      rcases List.mem_cons.mp ((insT_perm x ys).mem_iff.mp hz) with e | hz
      · rw [e]; exact (List.le_total y x).resolve_right c
      · exact h.1 z hz
theorem sortT_sorted : ∀ l : List (List Int), (sortT l).Pairwise (· ≤ ·)
  | [] => List.Pairwise.nil
  | x :: xs => insT_sorted x _ (sortT_sorted xs)
theorem sortT_eq {l m : List (List Int)} (p : m.Perm l) (s : m.Pairwise (· ≤ ·)) : m = sortT l :=
  List.Perm.eq_of_pairwise (le := (· ≤ ·)) (fun a b _ _ h k => List.le_antisymm h k) s (sortT_sorted l) (p.trans (sortT_perm l).symm)
theorem intsOf_eq : ∀ {xs : List D} {ns : List Int}, intsOf xs = some ns → xs = ns.map .int
  | [], ns, h => by cases h; rfl
  | .int i :: r, ns, h => by
    have h' : (intsOf r).map (i :: ·) = some ns := h
    cases q : intsOf r with
    | none => rw [q] at h'; cases h'
    | some ms => rw [q] at h'; cases h'; rw [intsOf_eq q]; rfl
  | .non :: r, ns, h => by cases h
  | .bl _ :: r, ns, h => by cases h
  | .str _ :: r, ns, h => by cases h
  | .tup _ :: r, ns, h => by cases h
  | .lst _ :: r, ns, h => by cases h
  | .scr _ :: r, ns, h => by cases h
  | .ins _ _ :: r, ns, h => by cases h
theorem blsOf_eq : ∀ {xs : List D} {ns : List Bool}, blsOf xs = some ns → xs = ns.map .bl
  | [], ns, h => by cases h; rfl
  | .bl i :: r, ns, h => by
    have h' : (blsOf r).map (i :: ·) = some ns := h
    cases q : blsOf r with
    | none => rw [q] at h'; cases h'
    | some ms => rw [q] at h'; cases h'; rw [blsOf_eq q]; rfl
  | .non :: r, ns, h => by cases h
  | .int _ :: r, ns, h => by cases h
  | .str _ :: r, ns, h => by cases h
  | .tup _ :: r, ns, h => by cases h
  | .lst _ :: r, ns, h => by cases h
  | .scr _ :: r, ns, h => by cases h
  | .ins _ _ :: r, ns, h => by cases h
theorem tupsOf_eq : ∀ {xs : List D} {rs : List (List Int)}, tupsOf xs = some rs → xs = rs.map fun r => .tup (r.map .int)
  | [], ns, h => by cases h; rfl
  | .tup ys :: r, rs, h => by
    unfold tupsOf at h
    cases q : intsOf ys with
    | none => rw [q] at h; cases h
    | some ns =>
      cases q2 : tupsOf r with
      | none => rw [q, q2] at h; cases h
      | some ss => rw [q, q2] at h; cases h; rw [tupsOf_eq q2, intsOf_eq q]; rfl
  | .non :: r, ns, h => by cases h
  | .bl _ :: r, ns, h => by cases h
  | .int _ :: r, ns, h => by cases h
  | .str _ :: r, ns, h => by cases h
  | .lst _ :: r, ns, h => by cases h
  | .scr _ :: r, ns, h => by cases h
  | .ins _ _ :: r, ns, h => by cases h
theorem Reps.bls : ∀ {ns : List Bool} {vs : List V}, Reps W H O (ns.map D.bl) vs → vs = ns.map V.bl
  | [], vs, h => h
  | n :: ns, vs, ⟨v, r, e, h, t⟩ => by rw [e, show v = V.bl n from h, Reps.bls t]; rfl
theorem Reps.of_get : ∀ {ds : List D} {vs : List V}, ds.length = vs.length → (∀ (i : Nat) d v, ds[i]? = some d → vs[i]? = some v → Rep W H O d v) → Reps W H O ds vs
  | [], [], _, _ => rfl
  | [], _ :: _, h, _ => by cases h
  | _ :: _, [], h, _ => by cases h
  | d :: ds, v :: vs, h, k => ⟨v, vs, rfl, k 0 d v rfl rfl, Reps.of_get (by simpa using h) fun i d v h1 h2 => k (i + 1) d v h1 h2⟩
section
variable {X : Cx} {Z : Zd}
theorem sortT_w {v : V} {rs : List (List Int)} (hu : X.A.units + 64 < cLine) (so : Soft O H) (hl : LsOk ⟨X.K, Z.cls, Z.cad, Z.T, Z.self⟩ O H (rs.map fun r => .tup (r.map .int)) v) (hne : ∀ r ∈ rs, r ≠ [])
    (p : Post ⟨X.K, Z.cls, Z.cad, Z.T, Z.self⟩ O σd σ H (.ok (.f ((sortT rs).map fun r => .tup (r.map .int)))) Q Ew) : cW X (.builtin "sorted") [v] H Q := by
  intro pins s σ' us I rv
  obtain ⟨a, vs, rfl, hs, r⟩ := hl
  obtain ⟨its, rr, hp, hz⟩ := I.list hs
  rw [Vals.ref1 rv]
  have hlen : rs.length = vs.length := by have := r.length; simpa using this.symm
  have hlen2 : vs.length = its.length := rr.length
  -- each item
  have item : ∀ (i : Nat) (x : List Int) (u : V), rs[i]? = some x → vs[i]? = some u → Rep ⟨X.K, Z.cls, Z.cad, Z.T, Z.self⟩ H O (.tup (x.map .int)) u := fun i x u h1 h2 => by
    obtain ⟨u', h3, h4⟩ := r.get (i := i) (d := .tup (x.map .int)) (by rw [List.getElem?_map, h1]; rfl)
    rw [h2] at h3
    cases h3
    exact h4
  have toPi : ∀ x : List Int, toPs (x.map D.int) = x.map PyData.int := fun x => by
    induction x with
    | nil => rfl
    | cons n x ih => rw [List.map_cons, List.map_cons, toPs, ih]; rfl
  have can : ∀ x : List Int, PyData.canLayAll0 (x.map PyData.int) = true := fun x => by
    induction x with
    | nil => rfl
    | cons n x ih => rw [List.map_cons]; simp [PyData.canLayAll0, PyData.canLay0, ih]
  let enc : List Int × V → PyData := fun b => .tuple (b.1.map .int)
  have e : PySem.W.EachIs (fun (u : Value) (b : List Int × V) => RelV b.2 u) its (rs.zip vs) := by
    refine PySem.W.EachIs.of_zip (by simp [hlen, hlen2]) fun q hq => ?_
    obtain ⟨i, hi⟩ := List.mem_iff_getElem?.mp hq
    rw [List.getElem?_zip_eq_some] at hi
    obtain ⟨h1, h2⟩ := hi
    have h3 := (List.getElem?_zip_eq_some.mp h2).2
    obtain ⟨u, h4, h5⟩ := rr.get h3
    rw [h1] at h4
    cases h4
    exact h5
  have er : PySem.W.EachIs (fun (u : Value) (b : List Int × V) => ∃ as, PySem.Reads s.heap u (enc b) as) its (rs.zip vs) := by
    refine PySem.W.EachIs.of_zip (by simp [hlen, hlen2]) fun q hq => ?_
    obtain ⟨i, hi⟩ := List.mem_iff_getElem?.mp hq
    rw [List.getElem?_zip_eq_some] at hi
    obtain ⟨h1, h2⟩ := hi
    obtain ⟨h6, h3⟩ := List.getElem?_zip_eq_some.mp h2
    obtain ⟨u, h4, h5⟩ := rr.get h3
    rw [h1] at h4
    cases h4
    have hd := Rep.dp (.tup (q.2.1.map .int)) q.2.2 (by rw [toP, toPi]; simp [PyData.canLay0, can]) (item i _ _ h6 h3)
    rw [toP, toPi] at hd
    exact Dp.reads I _ _ _ hd h5
  have hal : PySem.W.AllAlike ((rs.zip vs).map enc) := PySem.W.AllAlike.of fun b b' => by
    show PySem.W.alike (.tuple _) (.tuple _) = true
    simp only [PySem.W.alike]
    exact PySem.W.alike_ints _ _
  have hk : PySem.W.Sortable ((rs.zip vs).map enc) := .inl fun d hd => by
    obtain ⟨b, hb, rfl⟩ := List.mem_map.mp hd
    have hm : b.1 ∈ rs := (List.of_mem_zip hb).1
    cases hx : b.1 with
    | nil => exact (hne _ hm hx).elim
    | cons n x => exact ⟨.int n, x.map .int, by show PyData.tuple (b.1.map .int) = _; rw [hx]; rfl⟩
  refine PySem.W.sorted_data (enc := enc) hp.isList e er hal hk (by rw [List.length_zip]; omega) (fun b _ => ?_) fun out ho he => ?_
  · show X.A.units + 2 + PyData.depth (.tuple (b.1.map .int)) < cLine
    have : PyData.depth (.tuple (b.1.map .int)) = 1 := by
      simp only [PyData.depth]
      rw [PySem.W.depth_ints]
    omega
  · obtain ⟨ep, he'⟩ := PyProof.Rows.sortedAll_at s.heap its out.toArray
    have perm := List.mergeSort_perm (rs.zip vs) (PySem.W.dataLe false enc)
    generalize hbs : (rs.zip vs).mergeSort (PySem.W.dataLe false enc) = bs' at he perm
    have hv : Vals (bs'.map (·.2)) out := by
      clear perm hbs ho he'
      induction he with
      | nil => exact .nil
      | cons h _ ih => exact .cons h ih
    have hlen3 : (bs'.map (·.2)).length ≤ sizeLine := by
      rw [List.length_map, perm.length_eq, List.length_zip]
      omega
    have hfst : bs'.map (·.1) = sortT rs := by
      refine sortT_eq ?_ ?_
      · have h1 := perm.map (·.1)
        rw [List.map_fst_zip (by omega)] at h1
        exact h1
      · have tr : ∀ a b : List Int × V, PySem.W.dataLe false enc a b = decide (a.1 ≤ b.1) := fun a b => by
          show (!PySem.W.dataLt (.tuple (b.1.map .int)) (.tuple (a.1.map .int))) = _
          have h1 : PySem.W.dataLt (.tuple (b.1.map .int)) (.tuple (a.1.map .int)) = PySem.W.rowLt (b.1.map .int) (a.1.map .int) := by
            unfold PySem.W.dataLt PySem.W.rowLt
            simp only [PySem.W.keyToks]
          rw [h1, PySem.W.dataLt_ints]
          by_cases h : b.1 < a.1
          · have h' : ¬ a.1 ≤ b.1 := fun r => List.not_lt.mpr r h
            simp [h, h']
          · have h' : a.1 ≤ b.1 := List.not_lt.mp h
            simp [h, h']
        have h2 := List.pairwise_mergeSort (le := PySem.W.dataLe false enc) (fun a b c h k => by
          rw [tr] at *
          exact decide_eq_true (List.le_trans (of_decide_eq_true h) (of_decide_eq_true k))) (fun a b => by
          rw [tr, tr]
          rcases List.le_total a.1 b.1 with h | h <;> simp [h]) (rs.zip vs)
        rw [hbs] at h2
        refine (h2.imp (S := fun a b : List Int × V => a.1 ≤ b.1) fun {a b} h => ?_).map _ fun a b h => h
        rw [tr] at h
        exact of_decide_eq_true h
    have hr : Reps ⟨X.K, Z.cls, Z.cad, Z.T, Z.self⟩ H O ((sortT rs).map fun r => .tup (r.map .int)) (bs'.map (·.2)) := by
      rw [← hfst, List.map_map]
      refine Reps.of_get (by simp) fun i d u h1 h2 => ?_
      rw [List.getElem?_map] at h1 h2
      cases hb : bs'[i]? with
      | none => rw [hb] at h1; cases h1
      | some b =>
        rw [hb] at h1 h2
        cases h1
        cases h2
        have hm : b ∈ rs.zip vs := perm.mem_iff.mp (List.mem_of_getElem? hb)
        obtain ⟨j, hj⟩ := List.mem_iff_getElem?.mp hm
        obtain ⟨h6, h3⟩ := List.getElem?_zip_eq_some.mp hj
        exact item j _ _ h6 h3
    have hn := I.hok.fresh (Nat.le_succ s.heap.objs.size)
    exact ⟨.ref _, upd H (s.heap.objs.size + 1) (.lst (bs'.map (·.2))), I.laid (t' := s.toks) (fun _ _ => PyProof.Rows.sortedAll_old) (Nat.le_succ _) ⟨hlen3, out, ep, hv, he'⟩, rfl, Post.ok p (Ext.upd hn) (new_lst hn so hr)⟩
end
end Ev


set_option Elab.async false
set_option linter.all false
set_option maxRecDepth 100000
set_option maxHeartbeats 4000000
namespace Ev
open PySem PySem.Spec L2
variable {W : Wd} {O : Addr → Prop} {σd : List Sl} {σ : L2.St} {H H1 H2 H' : Hp} {Q : VK} {Ew : XK} {Oc : Addr → Prop} {H0 : Hp}
section
variable {X : Cx} {Z : Zd}
/-- what a built-in of one argument is -/
def fnOf : P1 → Value
  | .len => .builtin "len" | .int => .type "int" | .abs => .builtin "abs" | .list => .type "list" | .tuple => .type "tuple" | .tupN => .type "tuple"
  | .sorted => .builtin "sorted" | .sum => .builtin "sum" | .all => .builtin "all" | .any => .builtin "any" | .lenset => .none
theorem call_tupN : CallR X (.type "tuple") (fun xs H Q => ∃ p ys, xs = [.ref p] ∧ SqL X.K H p ys ∧ ∀ l ob, H l = none → ob.dict = none → Q (.ref l) (upd H l (.frz ob (.tup ys)))) := by
  intro pins s σ H xs us Q I r h
  obtain ⟨p, ys, rfl, hq, q⟩ := h
  obtain ⟨u, rfl, rx⟩ := vals1 r
  cases rx
  obtain ⟨its, r', pl, hz⟩ := I.list hq
  have hlen := r'.length
  refine call_tuple_list pl.isList (fun h' kp => ?_) (by simp only [List.size_toArray] <;> omega)
  have I1 : Inv X pins σ H { s with heap := h' } := I.kept (t' := s.toks) kp
  have I2 : Inv X pins σ (upd H h'.objs.size (.frz { cls := .type "tuple", data := .seq its.toArray } (.tup ys))) { s with heap := h'.push { cls := .type "tuple", data := .seq its.toArray } } :=
    I1.laid (t' := s.toks) (fun b o e => Heap.get?_push_of_some _ e) (Nat.le_refl _) (show ObjOk X.prog X.w _ _ _ (.frz { cls := .type "tuple", data := .seq its.toArray } (.tup ys)) from ⟨Heap.get?_push_size _ rfl, hz, its, r', PyProof.Rows.IsTup.new _ _⟩)
  exact ⟨.ref h'.objs.size, _, I2, rfl, q _ _ (I1.hok.fresh (Nat.le_refl _)) rfl⟩
theorem new_tpn {W : Wd} {p : Addr} {xs : List D} {vs : List V} {ob : Obj} (hp : H p = none) (hd : ob.dict = none) (so : Soft O H) (r : Reps W H O xs vs) : Rep W (upd H p (.frz ob (.tup vs))) O (.tpn xs) (.ref p) :=
  ⟨p, vs, rfl, .inl ⟨ob, upd_same, hd⟩, r.kept (Kept.of (Ext.upd (T := []) hp)) so⟩
theorem p1_w {q : P1} {rx : RV} {x : V} (hq : q ≠ .lenset) (hc : X.calm = true) (hu : X.A.units + 64 < cLine) (R : RelS (wd X Z) Oc H0 σd σ H) (e : Ext Z.T H H2) (hx : RVOk (wd X Z) (OT Oc σd σ) σd σ H H2 rx x)
    (p : Post (wd X Z) (OT Oc σd σ) σd σ H2 (p1 q rx) Q Ew) : cW X (fnOf q) [x] H2 Q := by
  have so := (R.grow e).own.soft
  cases q with
  | lenset => exact (hq rfl).elim
  | len =>
    unfold p1 at p
    dsimp only at p
    cases es : rx.asS with
    | some xs =>
      rw [es] at p
      dsimp only at p
      have hlen : ∀ {vs : List V}, Reps (wd X Z) H2 (OT Oc σd σ) xs vs → xs.length = vs.length := fun r => r.length.symm
      rcases hx.ss R e es with ⟨a, vs, h1, h2, r⟩ | ⟨a, vs, h1, h2, r⟩
      · subst h1
        exact CallR.w call_len ⟨_, xs.length, rfl, .inl ⟨vs, h2, hlen r⟩, Post.here (d := .int xs.length) p rfl⟩
      · subst h1
        exact CallR.w call_len ⟨_, xs.length, rfl, .inr ⟨vs, h2, hlen r⟩, Post.here (d := .int xs.length) p rfl⟩
    | none =>
      rw [es] at p
      dsimp only at p
      cases est : asStr rx with
      | none => rw [est] at p; exact p.elim
      | some s =>
        rw [est] at p
        dsimp only at p
        split at p
        · rename_i c
          rw [hx.str est]
          exact CallR.w call_len ⟨_, s.length, rfl, ⟨cap_line c, rfl⟩, Post.here (d := .int s.length) p rfl⟩
        · exact p.elim
  | int =>
    unfold p1 at p
    dsimp only at p
    cases rx with
    | v d =>
      cases d with
      | int i => rw [show x = V.int i from hx]; exact CallR.w call_int1 (.inl ⟨i, rfl, Post.here (d := .int i) p rfl⟩)
      | bl b => rw [show x = V.bl b from hx]; exact CallR.w call_int1 (.inr ⟨b, rfl, Post.here (d := .int (if b then 1 else 0)) p rfl⟩)
      | _ => exact p.elim
    | _ => exact p.elim
  | abs =>
    unfold p1 at p
    dsimp only at p
    cases ei : asInt rx with
    | none => rw [ei] at p; exact p.elim
    | some i =>
      rw [ei] at p
      rw [hx.int ei]
      exact CallR.w call_abs ⟨i, rfl, Post.here (d := .int (if i < 0 then -i else i)) p rfl⟩
  | list =>
    unfold p1 at p
    dsimp only at p
    cases es : rx.asS with
    | none => rw [es] at p; exact p.elim
    | some xs =>
      rw [es] at p
      dsimp only at p
      rcases hx.ss R e es with ⟨a, vs, h1, h2, r⟩ | ⟨a, vs, h1, h2, r⟩
      · subst h1
        exact CallR.w call_list_of ⟨a, vs, rfl, .inl h2, fun q hq => Post.ok p (Ext.upd hq) (new_lst hq so r)⟩
      · subst h1
        exact CallR.w call_list_of ⟨a, vs, rfl, .inr h2, fun q hq => Post.ok p (Ext.upd hq) (new_lst hq so r)⟩
  | tuple =>
    unfold p1 at p
    dsimp only at p
    have hl : ∀ xs, rx.asL = some xs → Post (wd X Z) (OT Oc σd σ) σd σ H2 (.ok (.v (.tup xs))) Q Ew → cW X (fnOf .tuple) [x] H2 Q := fun xs el p => by
      obtain ⟨a, vs, h1, h2, r⟩ := hx.ls R e el
      subst h1
      exact CallR.w call_tuple_of ⟨a, vs, rfl, .inl ⟨h2, fun q hq => Post.ok p (Ext.upd hq) (new_tup hq so r)⟩⟩
    cases rx with
    | v d =>
      cases d with
      | tup xs =>
        obtain ⟨a, vs, h1, h2, r⟩ := hx
        subst h1
        exact CallR.w call_tuple_of ⟨a, vs, rfl, .inr ⟨.inl (.inl h2), Post.here (d := .tup xs) p ⟨a, vs, rfl, h2, r⟩⟩⟩
      | tpn xs =>
        obtain ⟨a, vs, h1, h2, r⟩ := hx
        subst h1
        exact CallR.w call_tuple_of ⟨a, vs, rfl, .inr ⟨h2.sqt, Post.here (d := .tpn xs) p ⟨a, vs, rfl, h2, r⟩⟩⟩
      | lst xs => exact hl xs rfl p
      | scr xs => exact hl _ rfl p
      | _ => exact p.elim
    | f xs => exact hl xs rfl p
    | b i xs => exact hl xs rfl p
    | _ => exact p.elim
  | tupN =>
    unfold p1 at p
    dsimp only at p
    cases es : rx.asL with
    | none => rw [es] at p; exact p.elim
    | some xs =>
      rw [es] at p
      dsimp only at p
      obtain ⟨a, vs, h1, h2, r⟩ := hx.ls R e es
      subst h1
      exact CallR.w call_tupN ⟨a, vs, rfl, h2, fun q ob hq hd => Post.ok (rv := .v (.tpn xs)) p (Ext.upd hq) (new_tpn hq hd so r)⟩
  | sorted =>
    unfold p1 at p
    dsimp only at p
    cases el : rx.asL with
    | none => rw [el] at p; exact p.elim
    | some xs =>
      rw [el] at p
      dsimp only at p
      obtain ⟨a, vs, h1, h2, r⟩ := hx.ls R e el
      cases ei : intsOf xs with
      | some ns =>
        rw [ei] at p
        have ex := intsOf_eq ei
        subst ex
        have ev := Reps.ints_eq r
        subst ev
        subst h1
        refine CallR.w cr_sortedI ⟨a, ns, rfl, h2, fun ns' q hp hs hn => ?_⟩
        rw [sortI_eq hp hs]
        exact Post.ok p (Ext.upd hn) (new_lst hn so (Reps.ints _))
      | none =>
        rw [ei] at p
        dsimp only at p
        cases et : tupsOf xs with
        | none => rw [et] at p; exact p.elim
        | some rs =>
          rw [et] at p
          dsimp only at p
          split at p
          · rename_i c
            have ex := tupsOf_eq et
            subst ex
            exact sortT_w hu so ⟨a, vs, h1, h2, r⟩ (alikeT_ne c) p
          · exact p.elim
  | sum =>
    unfold p1 at p
    dsimp only at p
    cases el : rx.asL with
    | none => rw [el] at p; exact p.elim
    | some xs =>
      rw [el] at p
      dsimp only at p
      obtain ⟨a, vs, h1, h2, r⟩ := hx.ls R e el
      cases ei : intsOf xs with
      | none => rw [ei] at p; exact p.elim
      | some ns =>
        rw [ei] at p
        have ex := intsOf_eq ei
        subst ex
        have ev := Reps.ints_eq r
        subst ev
        subst h1
        exact CallR.w (cr_sum hc) ⟨a, ns, rfl, h2, Post.here (d := .int ns.sum) p rfl⟩
  | all =>
    unfold p1 at p
    dsimp only at p
    cases el : rx.asL with
    | none => rw [el] at p; exact p.elim
    | some xs =>
      rw [el] at p
      dsimp only at p
      obtain ⟨a, vs, h1, h2, r⟩ := hx.ls R e el
      cases ei : blsOf xs with
      | none => rw [ei] at p; exact p.elim
      | some ns =>
        rw [ei] at p
        have ex := blsOf_eq ei
        subst ex
        have ev := Reps.bls r
        subst ev
        subst h1
        exact CallR.w (cr_all hc) ⟨a, ns, rfl, h2, Post.here (d := .bl (ns.all id)) p rfl⟩
  | any =>
    unfold p1 at p
    dsimp only at p
    cases el : rx.asL with
    | none => rw [el] at p; exact p.elim
    | some xs =>
      rw [el] at p
      dsimp only at p
      obtain ⟨a, vs, h1, h2, r⟩ := hx.ls R e el
      cases ei : blsOf xs with
      | none => rw [ei] at p; exact p.elim
      | some ns =>
        rw [ei] at p
        have ex := blsOf_eq ei
        subst ex
        have ev := Reps.bls r
        subst ev
        subst h1
        exact CallR.w (cr_any hc) ⟨a, ns, rfl, h2, Post.here (d := .bl (ns.any id)) p rfl⟩
def fn2Of : P2 → Value
  | .min => .builtin "min" | .max => .builtin "max"
theorem p2_w {q : P2} {rx ry : RV} {x y : V} (hc : X.calm = true) (hx : RVOk (wd X Z) (OT Oc σd σ) σd σ H H2 rx x) (hy : RVOk (wd X Z) (OT Oc σd σ) σd σ H H2 ry y)
    (p : Post (wd X Z) (OT Oc σd σ) σd σ H2 (p2 q rx ry) Q Ew) : cW X (fn2Of q) [x, y] H2 Q := by
  unfold p2 at p
  cases e1 : asInt rx with
  | none => rw [e1] at p; exact p.elim
  | some i =>
    cases e2 : asInt ry with
    | none => rw [e1, e2] at p; exact p.elim
    | some j =>
      rw [e1, e2] at p
      rw [hx.int e1, hy.int e2]
      cases q with
      | max => exact CallR.w (call_max2 hc) ⟨i, j, rfl, Post.here (d := .int (if j > i then j else i)) p rfl⟩
      | min => exact CallR.w (call_min2 hc) ⟨i, j, rfl, Post.here (d := .int (if j < i then j else i)) p rfl⟩
/-- the first place of a flat value in a tuple -/
theorem mt_tindex : MtR X "tuple.index" (fun x xs H Q => ∃ (a : Addr) (ys : List V) (y : V) (j : Nat) (z : V), x = V.ref a ∧ xs = [y] ∧ SqT X.K H a ys ∧ flatV y = true ∧ ys.all flatV = true ∧ ys[j]? = some z ∧ eqV z y = true ∧
    (∀ (m : Nat) (z' : V), m < j → ys[m]? = some z' → eqV z' y = false) ∧ Q (.int (j : Nat)) H) := by
  intro pins s σ H x xs v us Q I rx rs h
  obtain ⟨a, ys, y, j, z, rfl, rfl, hs, fy, fys, hz, hzj, hno, q⟩ := h
  cases rx
  obtain ⟨uy, rfl, ry⟩ := vals1 rs
  obtain ⟨its, rv, pl, hlen⟩ := I.tuple hs
  obtain ⟨⟨cls, dd, dt, sl⟩, ho, hc, n, hd⟩ := pl
  simp only at hc hd
  subst hc
  subst hd
  obtain ⟨u, hu, ru⟩ := rv.get hz
  obtain ⟨hjl, hje⟩ := List.getElem?_eq_some_iff.mp hu
  have hvl := rv.length
  have hj : j < its.toArray.size := by simpa using hjl
  refine call_meets PySem.F.slot_tuple_index ⟨_, ho, rfl⟩ PySem.F.entry_tuple_index (PySem.F.args_tuple_index_2 _ _) (TI.tuple_indexAt a its.toArray n dd sl uy (eqU y) j hj ?_ ?_)
    ⟨ho, fun u' hu' => mem_eqAt ry fy rv fys u' (by simpa using hu'), ?_⟩
  · have e1 : its.toArray[j] = u := by simpa using hje
    rw [e1, eqU_of ru (flat_at fys hz)]
    exact hzj
  · intro m hm hmj
    have hml : m < its.length := by simpa using hm
    have hmy : m < ys.length := by omega
    have hy' : ys[m]? = some ys[m] := List.getElem?_eq_getElem hmy
    obtain ⟨u2, hu2, ru2⟩ := rv.get hy'
    obtain ⟨_, hme⟩ := List.getElem?_eq_some_iff.mp hu2
    have e1 : its.toArray[m] = u2 := by simpa using hme
    rw [e1, eqU_of ru2 (flat_at fys hy')]
    exact hno m _ hmj hy'
  · exact ⟨.int (j : Nat), H, I.tok _, ⟨_, rfl⟩, q⟩
theorem findS_V {d : D} {y : V} (hd : Rep W H O d y) (sd : scalar d = true) : ∀ {xs : List D} {vs : List V} {j : Nat}, Reps W H O xs vs → xs.all scalar = true → findS d xs = some j →
    ∃ z, vs[j]? = some z ∧ eqV z y = true ∧ ∀ (m : Nat) (z' : V), m < j → vs[m]? = some z' → eqV z' y = false
  | [], vs, j, _, _, h => by cases h
  | x :: xs, vs, j, ⟨v, r, e, hx, t⟩, s, h => by
    rw [List.all_cons, Bool.and_eq_true] at s
    unfold findS at h
    by_cases q : eqS x d = true
    · rw [if_pos q] at h
      cases h
      exact ⟨v, by rw [e]; rfl, by rw [← eqS_V hx hd s.1 sd]; exact q, fun m z' hm => absurd hm (Nat.not_lt_zero m)⟩
    · rw [if_neg q] at h
      cases h2 : findS d xs with
      | none => rw [h2] at h; cases h
      | some k =>
        rw [h2] at h
        cases h
        obtain ⟨z, h3, h4, h5⟩ := findS_V hd sd t s.2 h2
        refine ⟨z, by rw [e]; simpa using h3, h4, fun m z' hm hz => ?_⟩
        cases m with
        | zero =>
          rw [e] at hz
          cases hz
          rw [← eqS_V hx hd s.1 sd]
          simpa using q
        | succ m => exact h5 m z' (Nat.lt_of_succ_lt_succ hm) (by rw [e] at hz; simpa using hz)
end
end Ev


set_option Elab.async false
set_option linter.all false
set_option maxRecDepth 100000
set_option maxHeartbeats 4000000
namespace Ev
open PySem PySem.Spec L2
/-- the built-in names that are read as such -/
def bltNames : List Str := ["len", "int", "abs", "list", "tuple", "sorted", "sum", "all", "any", "set", "min", "max", "isinstance", "range", "enumerate", "zip"]
structure Cn (X : Cx) (Wx : WX) (N : List Str) (sc : Scope) (fc : Str → Bool) : Prop where
  hN : X.N = N
  nd : X.N.Nodup
  hsc : X.env.scope = sc
  calm : X.calm = true
  tk : Takes X Wx
  hu : X.A.units + 64 < cLine
  blt : ∀ x ∈ bltNames, X.mg x = none
  fn : ∀ x, fc x = true → X.fn x = true
variable {O : Addr → Prop} {σd : List Sl} {σ : L2.St} {H H1 H2 H' : Hp} {Q : VK} {Ew : XK} {Oc : Addr → Prop} {H0 : Hp}
variable {X : Cx} {Z : Zd} {R : Rt} {Wx : WX} {N : List Str} {sc : Scope} {fc : Str → Bool}
theorem Post.bind2 {W : Wd} {x y : Res RV} {f : RV → RV → Res RV} (h : Post W O σd σ H (x.bind fun a => y.bind fun b => f a b) Q Ew) {P : VK}
    (k : ∀ ra va H1, x = .ok ra → Ext W.T H H1 → RVOk W O σd σ H H1 ra va → Post W O σd σ H1 (y.bind fun b => f ra b) Q Ew → P va H1) : Post W O σd σ H x P Ew := Post.bind h k
/-- two parts in a row -/
theorem SE.two {a b : Expr} {x y : Ex} {f : RV → RV → Res RV} (A : SE X Z R Wx a x) (B : SE X Z R Wx b y) (rel : RelS (wd X Z) Oc H0 σd σ H)
    (h : Post (wd X Z) (OT Oc σd σ) σd σ H ((evalE R x σd).bind fun rx => (evalE R y σd).bind fun ry => f rx ry) Q fun c d H' => Wx c d σ H') {P : V → V → Hp → Prop}
    (k : ∀ rx ry v u H2, Ext Z.T H H2 → RVOk (wd X Z) (OT Oc σd σ) σd σ H H2 rx v → RVOk (wd X Z) (OT Oc σd σ) σd σ H H2 ry u → Post (wd X Z) (OT Oc σd σ) σd σ H2 (f rx ry) Q (fun c d H' => Wx c d σ H') → P v u H2) :
    wE X a σ H fun v H1 => wE X b σ H1 fun u H2 => P v u H2 :=
  A Oc H0 σd σ H _ rel (Post.bind h fun rx v H1 _ e1 o1 h1 => B Oc H0 σd σ H1 _ (rel.grow e1) (Post.bind h1 fun ry u H2 _ e2 o2 h2 =>
    k rx ry v u H2 (e1.trans e2) (o1.grow e2 (rel.grow e1).own.soft) (o2.from e1) h2))
theorem SE.one {a : Expr} {x : Ex} {f : RV → Res RV} (A : SE X Z R Wx a x) (rel : RelS (wd X Z) Oc H0 σd σ H)
    (h : Post (wd X Z) (OT Oc σd σ) σd σ H ((evalE R x σd).bind fun rx => f rx) Q fun c d H' => Wx c d σ H') {P : V → Hp → Prop}
    (k : ∀ rx v H1, Ext Z.T H H1 → RVOk (wd X Z) (OT Oc σd σ) σd σ H H1 rx v → Post (wd X Z) (OT Oc σd σ) σd σ H1 (f rx) Q (fun c d H' => Wx c d σ H') → P v H1) :
    wE X a σ H fun v H1 => P v H1 :=
  A Oc H0 σd σ H _ rel (Post.bind h fun rx v H1 _ e1 o1 h1 => k rx v H1 e1 o1 h1)
/-! ### names, constants -/
theorem se_var {i : Nat} {x : Str} {pos : Pos} (hN : X.N[i]? = some x) (hv : Vis X.env.scope x) (hd : (x == ("__debug__" : Str)) = false) (hcd : (x == ("__classdict__" : Str)) = false) : SE X Z R Wx (.Name x pos) (.var i) :=
  SE.of (pe_var hN hv hd hcd) fun Oc H0 σd σ H Q rel p => by
    unfold evalE at p
    cases e : σd[i]? with
    | none => rw [e] at p; exact p.elim
    | some sl =>
      rw [e] at p
      have q := rel.slots i sl e
      cases sl with
      | d d =>
        obtain ⟨v, e1, r⟩ := q
        exact ⟨v, e1, Post.here p r⟩
      | l xs =>
        obtain ⟨a, e1, n, o⟩ := q
        exact ⟨_, e1, Post.ok p (Ext.refl H) ⟨e, e1⟩⟩
      | o c fs =>
        obtain ⟨a, e1, n, o⟩ := q
        exact ⟨_, e1, Post.ok p (Ext.refl H) ⟨e, e1⟩⟩
      | _ => exact p.elim
theorem se_int {n : Int} {j : Nat} {pos : Pos} : SE X Z R Wx (.Constant (.int n) j pos) (.int n) := SE.of pe_int fun _ _ _ _ _ _ _ p => Post.here (d := .int n) p rfl
theorem se_bl {n : Bool} {j : Nat} {pos : Pos} : SE X Z R Wx (.Constant (.bool n) j pos) (.bl n) := SE.of pe_bl fun _ _ _ _ _ _ _ p => Post.here (d := .bl n) p rfl
theorem se_str {n : Str} {j : Nat} {pos : Pos} : SE X Z R Wx (.Constant (.str n) j pos) (.str n) := SE.of pe_str fun _ _ _ _ _ _ _ p => Post.here (d := .str n) p rfl
theorem se_non {j : Nat} {pos : Pos} : SE X Z R Wx (.Constant .none j pos) .non := SE.of pe_non fun _ _ _ _ _ _ _ p => Post.here (d := .non) p rfl
/-- a module's constant -/
theorem se_con {k : Nat} {x : Str} {pos : Pos} {u : Value} {v : V} {d : D} (hk : R.con k = some d) (hg : Gl X x) (hm : X.mg x = some u) (r : RelV v u) (hr : ∀ H O, Rep (wd X Z) H O d v) (hd : (x == ("__debug__" : Str)) = false) :
    SE X Z R Wx (.Name x pos) (.con k) := SE.of (pe_glob hg hm r hd) fun Oc H0 σd σ H Q rel p => by
  unfold evalE at p
  rw [hk] at p
  exact Post.here (d := d) p (hr H _)
/-! ### operators -/
theorem se_bin {a b : Expr} {x y : Ex} {o : BO} {pos : Pos} (A : SE X Z R Wx a x) (B : SE X Z R Wx b y) : SE X Z R Wx (.BinOp a (opOf o) b pos) (.bin o x y) :=
  SE.of (pe_op opW (pw a) (pw b)) fun Oc H0 σd σ H Q rel p => by
    unfold evalE at p
    exact SE.two A B rel p fun rx ry v u H2 e o1 o2 h => bin_w rel e o1 o2 h
theorem se_neg {a : Expr} {x : Ex} {pos : Pos} (A : SE X Z R Wx a x) : SE X Z R Wx (.UnaryOp .USub a pos) (.neg x) :=
  SE.of (pe_un un_neg (pw a)) fun Oc H0 σd σ H Q rel p => by
    unfold evalE at p
    exact SE.one A rel p fun rx v H1 e o1 h => by
      cases q : asInt rx with
      | none => rw [q] at h; exact h.elim
      | some i => rw [q] at h; rw [o1.int q]; exact ⟨i, rfl, Post.here (d := .int (-i)) h rfl⟩
theorem se_not {a : Expr} {x : Ex} {pos : Pos} (A : SE X Z R Wx a x) : SE X Z R Wx (.UnaryOp .Not a pos) (.not x) :=
  SE.of (pe_not (pw a)) fun Oc H0 σd σ H Q rel p => by
    unfold evalE at p
    exact SE.one A rel p fun rx v H1 e o1 h => by
      cases rx with
      | v d =>
        cases d with
        | bl b => rw [show v = V.bl b from o1]; exact ⟨b, rfl, Post.here (d := .bl (!b)) h rfl⟩
        | _ => exact h.elim
      | _ => exact h.elim
theorem se_and {a b : Expr} {rest : List Expr} {x y : Ex} {pos : Pos} (A : SE X Z R Wx a x) (B : SE X Z R Wx (.BoolOp .And (b :: rest) pos) y) : SE X Z R Wx (.BoolOp .And (a :: b :: rest) pos) (.and x y) :=
  SE.of (pe_and (pw a) (pw _)) fun Oc H0 σd σ H Q rel p => by
    unfold evalE at p
    exact SE.one A rel p fun rx v H1 e o1 h => by
      cases rx with
      | v d =>
        cases d with
        | bl b =>
          rw [show v = V.bl b from o1]
          refine ⟨b, rfl, ?_⟩
          cases b with
          | true => rw [if_pos rfl]; exact B Oc H0 σd σ H1 Q (rel.grow e) h
          | false => rw [if_neg Bool.false_ne_true]; exact Post.here (d := .bl false) h rfl
        | _ => exact h.elim
      | _ => exact h.elim
theorem se_or {a b : Expr} {rest : List Expr} {x y : Ex} {pos : Pos} (A : SE X Z R Wx a x) (B : SE X Z R Wx (.BoolOp .Or (b :: rest) pos) y) : SE X Z R Wx (.BoolOp .Or (a :: b :: rest) pos) (.or x y) :=
  SE.of (pe_or (pw a) (pw _)) fun Oc H0 σd σ H Q rel p => by
    unfold evalE at p
    exact SE.one A rel p fun rx v H1 e o1 h => by
      cases rx with
      | v d =>
        cases d with
        | bl b =>
          rw [show v = V.bl b from o1]
          refine ⟨b, rfl, ?_⟩
          cases b with
          | true => rw [if_pos rfl]; exact Post.here (d := .bl true) h rfl
          | false => rw [if_neg Bool.false_ne_true]; exact B Oc H0 σd σ H1 Q (rel.grow e) h
        | _ => exact h.elim
      | _ => exact h.elim
theorem se_bone {op : BoolOp} {a : Expr} {x : Ex} {pos : Pos} (A : SE X Z R Wx a x) : SE X Z R Wx (.BoolOp op [a] pos) x :=
  SE.of (pe_one (pw a)) fun Oc H0 σd σ H Q rel p => A Oc H0 σd σ H Q rel p
/-! ### tests -/
def PostT (W : Wd) (H : Hp) (r : Res RV) (O : Addr → Prop) (Q : Bool → Hp → Prop) (Ew : XK) : Prop := match r with
  | .ok (.v (.bl b)) => ∀ H', Ext W.T H H' → Q b H'
  | .exc c fs => ∀ cls dx H', Ext W.T H H' → ExOk W O H' c fs cls dx → Ew cls dx H'
  | _ => False
def wT (X : Cx) (e : Expr) : TT := fun σ H Q => ∀ pins s, Inv X pins σ H s → wpAny (model X.prog X.w) X.A (isTrue e X.env (eval e X.env)) (TP X pins σ Q) X.xe s
theorem pwT {X : Cx} (e : Expr) : PT X e (wT X e) := ⟨fun pins s σ H Q I h => h pins s I⟩
def ST (X : Cx) (Z : Zd) (R : Rt) (Wx : WX) (e : Expr) (x : Ex) : Prop :=
  ∀ (Oc : Addr → Prop) (H0 : Hp) (σd : List Sl) (σ : L2.St) (H : Hp) (Q : Bool → Hp → Prop), RelS (wd X Z) Oc H0 σd σ H →
    PostT (wd X Z) H (evalE R x σd) (OT Oc σd σ) Q (fun c d H' => Wx c d σ H') → wT X e σ H Q
theorem ST.of {e : Expr} {x : Ex} {t : TT} (p : PT X e t)
    (h : ∀ (Oc : Addr → Prop) (H0 : Hp) (σd : List Sl) (σ : L2.St) (H : Hp) (Q : Bool → Hp → Prop), RelS (wd X Z) Oc H0 σd σ H →
      PostT (wd X Z) H (evalE R x σd) (OT Oc σd σ) Q (fun c d H' => Wx c d σ H') → t σ H Q) : ST X Z R Wx e x :=
  fun Oc H0 σd σ H Q rel post pins s I => p.run pins s σ H Q I (h Oc H0 σd σ H Q rel post)
theorem PostT.later {W : Wd} {r : Res RV} {Q : Bool → Hp → Prop} (h : PostT W H r O Q Ew) (e : Ext W.T H H1) : PostT W H1 r O Q Ew := by
  cases r with
  | ok rv =>
    cases rv with
    | v d =>
      cases d with
      | bl b => exact fun H' e' => h H' (e.trans e')
      | _ => exact h
    | _ => exact h
  | exc c fs => exact fun cls dx H' e' q => h cls dx H' (e.trans e') q
  | stuck => exact h
/-- the value's answer -/
theorem PostT.post {W : Wd} {r : Res RV} {Q : Bool → Hp → Prop} (h : PostT W H r O Q Ew) : Post W O σd σ H r (fun v H1 => ∃ c, v = .bl c ∧ Q c H1) Ew := by
  cases r with
  | ok rv =>
    cases rv with
    | v d =>
      cases d with
      | bl b => exact fun v H' e' q => ⟨b, q, h H' e'⟩
      | _ => exact h.elim
    | _ => exact h.elim
  | exc c fs => exact h
  | stuck => exact h
theorem PostT.bind {W : Wd} {r : Res RV} {f : RV → Res RV} {Q P : Bool → Hp → Prop} (h : PostT W H (r.bind f) O Q Ew) (g : ∀ rv, (∀ b, rv ≠ .v (.bl b)) → ∀ H1, ¬ PostT W H1 (f rv) O Q Ew)
    (k : ∀ b H1, r = .ok (.v (.bl b)) → Ext W.T H H1 → PostT W H1 (f (.v (.bl b))) O Q Ew → P b H1) : PostT W H r O P Ew := by
  cases r with
  | ok rv =>
    cases rv with
    | v d =>
      cases d with
      | bl b => exact fun H1 e => k b H1 rfl e (PostT.later (r := f (.v (.bl b))) h e)
      | _ => exact g _ (fun b z => by cases z) H h
    | _ => exact g _ (fun b z => by cases z) H h
  | exc c fs => exact h
  | stuck => exact h
theorem st_val {e : Expr} {x : Ex} (A : SE X Z R Wx e x) (he : ∀ whole, isTrue e X.env whole = (do let v ← whole; standAt e.pos; holding [v] (truthy v))) : ST X Z R Wx e x :=
  ST.of (pt_val (pw e) he) fun Oc H0 σd σ H Q rel p => A Oc H0 σd σ H _ rel p.post
theorem st_not {a : Expr} {x : Ex} {pos : Pos} (A : ST X Z R Wx a x) : ST X Z R Wx (.UnaryOp .Not a pos) (.not x) :=
  ST.of (pt_not (pwT a)) fun Oc H0 σd σ H Q rel p => by
    unfold evalE at p
    exact A Oc H0 σd σ H _ rel (PostT.bind p (fun rv hn H1 q => by
      cases rv with
      | v d => cases d <;> first | exact q | exact hn _ rfl
      | _ => exact q) fun b H1 _ e h => h H1 (Ext.refl H1))
/-- a test of several parts -/
def SW (X : Cx) (Z : Zd) (R : Rt) (Wx : WX) (e : Expr) (x : Ex) : Prop :=
  ∀ (whole : Sem Value) (Oc : Addr → Prop) (H0 : Hp) (σd : List Sl) (σ : L2.St) (H : Hp) (Q : Bool → Hp → Prop), RelS (wd X Z) Oc H0 σd σ H →
    PostT (wd X Z) H (evalE R x σd) (OT Oc σd σ) Q (fun c d H' => Wx c d σ H') → ∀ pins s, Inv X pins σ H s → wpAny (model X.prog X.w) X.A (isTrue e X.env whole) (TP X pins σ Q) X.xe s
def wW (X : Cx) (e : Expr) : TT := fun σ H Q => ∀ whole pins s, Inv X pins σ H s → wpAny (model X.prog X.w) X.A (isTrue e X.env whole) (TP X pins σ Q) X.xe s
theorem pwW {X : Cx} (e : Expr) : PW X e (wW X e) := ⟨fun whole pins s σ H Q I h => h whole pins s I⟩
theorem SW.of {e : Expr} {x : Ex} {t : TT} (p : PW X e t)
    (h : ∀ (Oc : Addr → Prop) (H0 : Hp) (σd : List Sl) (σ : L2.St) (H : Hp) (Q : Bool → Hp → Prop), RelS (wd X Z) Oc H0 σd σ H →
      PostT (wd X Z) H (evalE R x σd) (OT Oc σd σ) Q (fun c d H' => Wx c d σ H') → t σ H Q) : SW X Z R Wx e x :=
  fun whole Oc H0 σd σ H Q rel post pins s I => p.run whole pins s σ H Q I (h Oc H0 σd σ H Q rel post)
theorem SW.st {e : Expr} {x : Ex} (A : SW X Z R Wx e x) : ST X Z R Wx e x := fun Oc H0 σd σ H Q rel p pins s I => A _ Oc H0 σd σ H Q rel p pins s I
theorem sw_one {op : BoolOp} {a : Expr} {x : Ex} {pos : Pos} (A : ST X Z R Wx a x) : SW X Z R Wx (.BoolOp op [a] pos) x := by
  cases op with
  | And => exact SW.of (pw_and1 (pwT a)) fun Oc H0 σd σ H Q rel p => A Oc H0 σd σ H Q rel p
  | Or => exact SW.of (pw_or1 (pwT a)) fun Oc H0 σd σ H Q rel p => A Oc H0 σd σ H Q rel p
theorem sw_and {a b : Expr} {rest : List Expr} {x y : Ex} {pos : Pos} (A : ST X Z R Wx a x) (B : SW X Z R Wx (.BoolOp .And (b :: rest) pos) y) : SW X Z R Wx (.BoolOp .And (a :: b :: rest) pos) (.and x y) :=
  SW.of (pw_and (pwT a) (pwW _)) fun Oc H0 σd σ H Q rel p => by
    unfold evalE at p
    exact A Oc H0 σd σ H _ rel (PostT.bind p (fun rv hn H1 q => by
      cases rv with
      | v d => cases d <;> first | exact q | exact hn _ rfl
      | _ => exact q) fun b H1 _ e h => by
      cases b with
      | true => rw [if_pos rfl]; exact fun whole => B whole Oc H0 σd σ H1 Q (rel.grow e) h
      | false => rw [if_neg Bool.false_ne_true]; exact h H1 (Ext.refl H1))
theorem sw_or {a b : Expr} {rest : List Expr} {x y : Ex} {pos : Pos} (A : ST X Z R Wx a x) (B : SW X Z R Wx (.BoolOp .Or (b :: rest) pos) y) : SW X Z R Wx (.BoolOp .Or (a :: b :: rest) pos) (.or x y) :=
  SW.of (pw_or (pwT a) (pwW _)) fun Oc H0 σd σ H Q rel p => by
    unfold evalE at p
    exact A Oc H0 σd σ H _ rel (PostT.bind p (fun rv hn H1 q => by
      cases rv with
      | v d => cases d <;> first | exact q | exact hn _ rfl
      | _ => exact q) fun b H1 _ e h => by
      cases b with
      | true => rw [if_pos rfl]; exact h H1 (Ext.refl H1)
      | false => rw [if_neg Bool.false_ne_true]; exact fun whole => B whole Oc H0 σd σ H1 Q (rel.grow e) h)
theorem se_ite {c a b : Expr} {x y z : Ex} {pos : Pos} (C : ST X Z R Wx c x) (A : SE X Z R Wx a y) (B : SE X Z R Wx b z) : SE X Z R Wx (.IfExp c a b pos) (.ite x y z) :=
  SE.of (pe_ifExp (pwT c) (pw a) (pw b)) fun Oc H0 σd σ H Q rel p => by
    unfold evalE at p
    have p' : PostT (wd X Z) H (evalE R x σd) (OT Oc σd σ) (fun c H1 => if c = true then wE X a σ H1 Q else wE X b σ H1 Q) (fun c d H' => Wx c d σ H') := by
      cases q : evalE R x σd with
      | ok rv =>
        rw [q] at p
        cases rv with
        | v d =>
          cases d with
          | bl t =>
            intro H1 e
            cases t with
            | true => rw [if_pos rfl]; exact A Oc H0 σd σ H1 Q (rel.grow e) (Post.later p e)
            | false => rw [if_neg Bool.false_ne_true]; exact B Oc H0 σd σ H1 Q (rel.grow e) (Post.later p e)
          | _ => exact p.elim
        | _ => exact p.elim
      | exc c fs => rw [q] at p; exact p
      | stuck => rw [q] at p; exact p.elim
    exact C Oc H0 σd σ H _ rel p'
/-! ### comparisons -/
theorem se_cmp {a b : Expr} {x y : Ex} {o : CO} {pos : Pos} (hu : X.A.units + 64 < cLine) (A : SE X Z R Wx a x) (B : SE X Z R Wx b y) (ho : o ≠ .isn) (ho2 : o ≠ .notn) (hm : behindInMarks (cmpOf o) b = false) : SE X Z R Wx (.Compare a [cmpOf o] [b] pos) (.cmp o x y) :=
  SE.of (pe_cmpR opW (pw a) (pw b) hm) fun Oc H0 σd σ H Q rel p => by
    have p' : Post (wd X Z) (OT Oc σd σ) σd σ H ((evalE R x σd).bind fun rx => (evalE R y σd).bind fun ry => cmpD o rx ry) Q (fun c d H' => Wx c d σ H') := by
      unfold evalE at p
      cases o <;> first | exact p | exact (ho rfl).elim | exact (ho2 rfl).elim
    exact SE.two A B rel p' fun rx ry v u H2 e o1 o2 h => cmp_w rel hu e o1 o2 h
theorem st_cmp {a b : Expr} {x y : Ex} {o : CO} {pos : Pos} (hu : X.A.units + 64 < cLine) (A : SE X Z R Wx a x) (B : SE X Z R Wx b y) (ho : o ≠ .isn) (ho2 : o ≠ .notn) (hm : behindInMarks (cmpOf o) b = false) : ST X Z R Wx (.Compare a [cmpOf o] [b] pos) (.cmp o x y) :=
  ST.of (pt_cmpR opW (pw a) (pw b) hm) fun Oc H0 σd σ H Q rel p => by
    have p' : Post (wd X Z) (OT Oc σd σ) σd σ H ((evalE R x σd).bind fun rx => (evalE R y σd).bind fun ry => cmpD o rx ry) (fun v H1 => ∃ k, v = .bl k ∧ Q k H1) (fun c d H' => Wx c d σ H') := by
      unfold evalE at p
      cases o <;> first | exact p.post | exact (ho rfl).elim | exact (ho2 rfl).elim
    exact SE.two A B rel p' fun rx ry v u H2 e o1 o2 h => cmp_w rel hu e o1 o2 h
theorem se_isn {a : Expr} {x y : Ex} {j : Nat} {pos pos' : Pos} (A : SE X Z R Wx a x) : SE X Z R Wx (.Compare a [.Is] [.Constant .none j pos'] pos) (.cmp .isn x y) :=
  SE.of (pe_cmp (pc_isN (pw a))) fun Oc H0 σd σ H Q rel p => by
    unfold evalE at p
    exact SE.one A rel p fun rx v H1 e o1 h => by
      cases q : isNone rx with
      | none => rw [q] at h; exact h.elim
      | some b =>
        rw [q] at h
        show Q (.bl (decide (v = .non))) H1
        rw [isNone_V rel e o1 q]
        exact Post.here (d := .bl b) h rfl
theorem se_notn {a : Expr} {x y : Ex} {j : Nat} {pos pos' : Pos} (A : SE X Z R Wx a x) : SE X Z R Wx (.Compare a [.IsNot] [.Constant .none j pos'] pos) (.cmp .notn x y) :=
  SE.of (pe_cmp (pc_notN (pw a))) fun Oc H0 σd σ H Q rel p => by
    unfold evalE at p
    exact SE.one A rel p fun rx v H1 e o1 h => by
      cases q : isNone rx with
      | none => rw [q] at h; exact h.elim
      | some b =>
        rw [q] at h
        show Q (.bl (!decide (v = .non))) H1
        rw [isNone_V rel e o1 q]
        exact Post.here (d := .bl (!b)) h rfl
theorem st_isn {a : Expr} {x y : Ex} {j : Nat} {pos pos' : Pos} (A : SE X Z R Wx a x) : ST X Z R Wx (.Compare a [.Is] [.Constant .none j pos'] pos) (.cmp .isn x y) :=
  ST.of (pt_cmp (pc_isN (pw a))) fun Oc H0 σd σ H Q rel p => by
    unfold evalE at p
    exact SE.one A rel p.post fun rx v H1 e o1 h => by
      cases q : isNone rx with
      | none => rw [q] at h; exact h.elim
      | some b =>
        rw [q] at h
        rw [isNone_V rel e o1 q]
        exact Post.here (d := .bl b) h rfl
theorem st_notn {a : Expr} {x y : Ex} {j : Nat} {pos pos' : Pos} (A : SE X Z R Wx a x) : ST X Z R Wx (.Compare a [.IsNot] [.Constant .none j pos'] pos) (.cmp .notn x y) :=
  ST.of (pt_cmp (pc_notN (pw a))) fun Oc H0 σd σ H Q rel p => by
    unfold evalE at p
    exact SE.one A rel p.post fun rx v H1 e o1 h => by
      cases q : isNone rx with
      | none => rw [q] at h; exact h.elim
      | some b =>
        rw [q] at h
        rw [isNone_V rel e o1 q]
        exact Post.here (d := .bl (!b)) h rfl
theorem cmpI_bl {o : CO} {i j : Int} : (∃ b, cmpI o i j = .ok (.v (.bl b))) ∨ cmpI o i j = .stuck := by
  cases o <;> first | exact .inl ⟨_, rfl⟩ | exact .inr rfl
theorem chain_red {a b c : Expr} {x y z : Ex} {o q : CO} (A : SE X Z R Wx a x) (B : SE X Z R Wx b y) (C : SE X Z R Wx c z) (rel : RelS (wd X Z) Oc H0 σd σ H)
    (p : Post (wd X Z) (OT Oc σd σ) σd σ H (evalE R (.chain o q x y z) σd) Q fun c d H' => Wx c d σ H') :
    tChain (rW X (compareOp (cmpOf o))) (rW X (compareOp (cmpOf q))) (wE X a) (wE X b) (wE X c) σ H Q := by
  unfold evalE at p
  exact SE.two A B rel p fun rx ry v u H2 e o1 o2 h => by
    cases e1 : asInt rx with
    | none => rw [e1] at h; exact h.elim
    | some i =>
      cases e2 : asInt ry with
      | none => rw [e1, e2] at h; exact h.elim
      | some j =>
        rw [e1, e2] at h
        dsimp only at h
        rw [o1.int e1, o2.int e2]
        rcases cmpI_bl (o := o) (i := i) (j := j) with ⟨t, et⟩ | et
        · rw [et] at h
          have h' : Post (wd X Z) (OT Oc σd σ) σd σ H2 (cmpI o i j) (fun z H3 => ∃ k, z = .bl k ∧ if k = true then wE X c σ H3 (fun w' H4 => rW X (compareOp (cmpOf q)) (.int j) w' H4 Q) else Q (.bl false) H3) (fun c d H' => Wx c d σ H') := by
            rw [et]
            intro w H3 e3 hw
            refine ⟨t, hw, ?_⟩
            cases t with
            | false => rw [if_neg Bool.false_ne_true]; exact Post.here (d := .bl false) (Post.later h e3) rfl
            | true =>
              rw [if_pos rfl]
              exact SE.one C (rel.grow (e.trans e3)) (Post.later h e3) fun rz w' H4 e4 o4 h4 => by
                cases e5 : asInt rz with
                | none => rw [e5] at h4; exact h4.elim
                | some k =>
                  rw [e5] at h4
                  rw [o4.int e5]
                  exact cmpI_w h4
          exact cmpI_w h'
        · rw [et] at h; exact h.elim
theorem se_chain {a b c : Expr} {x y z : Ex} {o q : CO} {pos : Pos} (A : SE X Z R Wx a x) (B : SE X Z R Wx b y) (C : SE X Z R Wx c z) (hm : lastMarks [cmpOf o, cmpOf q] [b, c] = false) :
    SE X Z R Wx (.Compare a [cmpOf o, cmpOf q] [b, c] pos) (.chain o q x y z) :=
  SE.of (pe_chain opW opW (pw a) (pw b) (pw c) hm) fun Oc H0 σd σ H Q rel p => chain_red A B C rel p
theorem st_chain {a b c : Expr} {x y z : Ex} {o q : CO} {pos : Pos} (A : SE X Z R Wx a x) (B : SE X Z R Wx b y) (C : SE X Z R Wx c z) (hm : lastMarks [cmpOf o, cmpOf q] [b, c] = false) :
    ST X Z R Wx (.Compare a [cmpOf o, cmpOf q] [b, c] pos) (.chain o q x y z) :=
  ST.of (pt_chain opW opW (pw a) (pw b) (pw c) hm) fun Oc H0 σd σ H Q rel p => chain_red A B C rel p.post
/-! ### subscripts, slices -/
theorem se_idx {a b : Expr} {x y : Ex} {pos : Pos} (A : SE X Z R Wx a x) (B : SE X Z R Wx b y) (hs : PlainIx b) : SE X Z R Wx (.Subscript a b pos) (.idx x y) :=
  SE.of (pe_ix ixW (pw a) (pw b) hs) fun Oc H0 σd σ H Q rel p => by
    unfold evalE at p
    exact SE.two A B rel p fun rx ry v u H2 e o1 o2 h => idx_w rel e o1 o2 h
/-- a slice's part -/
def PostO (W : Wd) (O : Addr → Prop) (H : Hp) (r : Res (Option Int)) (Q : Option Int → Hp → Prop) (Ew : XK) : Prop := match r with
  | .ok o => ∀ H', Ext W.T H H' → Q o H'
  | .exc c fs => ∀ cls dx H', Ext W.T H H' → ExOk W O H' c fs cls dx → Ew cls dx H'
  | .stuck => False
def SO (X : Cx) (Z : Zd) (R : Rt) (Wx : WX) (e : Option Expr) (x : Exo) : Prop := ∃ t : TO, PO X e t ∧
  ∀ (Oc : Addr → Prop) (H0 : Hp) (σd : List Sl) (σ : L2.St) (H : Hp) (Q : Option Int → Hp → Prop), RelS (wd X Z) Oc H0 σd σ H → PostO (wd X Z) (OT Oc σd σ) H (evalO R x σd) Q (fun c d H' => Wx c d σ H') → t σ H Q
theorem so_no : SO X Z R Wx none .no := ⟨_, po_none, fun Oc H0 σd σ H Q rel p => p H (Ext.refl H)⟩
theorem so_some {e : Expr} {x : Ex} (A : SE X Z R Wx e x) : SO X Z R Wx (some e) (.some x) := ⟨_, po_some (pw e), fun Oc H0 σd σ H Q rel p => by
  refine A Oc H0 σd σ H _ rel ?_
  unfold evalO at p
  cases q : evalE R x σd with
  | ok rv =>
    rw [q] at p
    intro v H' e' o
    have p2 : PostO (wd X Z) (OT Oc σd σ) H (match asInt rv with | some i => .ok (some i) | none => .stuck) Q (fun c d H' => Wx c d σ H') := p
    cases ei : asInt rv with
    | none => rw [ei] at p2; exact p2.elim
    | some i => rw [ei] at p2; exact ⟨i, o.int ei, p2 H' e'⟩
  | exc c fs => rw [q] at p; exact p
  | stuck => rw [q] at p; exact p.elim⟩
theorem PostO.bind {W : Wd} {r : Res (Option Int)} {f : Option Int → Res RV} {P : Option Int → Hp → Prop} (h : Post W O σd σ H (r.bind f) Q Ew)
    (k : ∀ o H1, Ext W.T H H1 → Post W O σd σ H1 (f o) Q Ew → P o H1) : PostO W O H r P Ew := by
  cases r with
  | ok o => exact fun H1 e => k o H1 e (Post.later (r := f o) h e)
  | exc c fs => exact h
  | stuck => exact h
theorem se_slice {a : Expr} {lo hi : Option Expr} {x : Ex} {l h : Exo} {pos p2 : Pos} (A : SE X Z R Wx a x) (L : SO X Z R Wx lo l) (U : SO X Z R Wx hi h) : SE X Z R Wx (.Subscript a (.Slice lo hi none p2) pos) (.slice x l h) := by
  obtain ⟨tl, pl, hl⟩ := L
  obtain ⟨tu, pu, hu⟩ := U
  exact SE.of (pe_slice slR (pw a) pl pu) fun Oc H0 σd σ H Q rel p => by
    unfold evalE at p
    exact SE.one A rel p fun rx v H1 e1 o1 h1 => hl Oc H0 σd σ H1 _ (rel.grow e1) (PostO.bind h1 fun o H2 e2 h2 => hu Oc H0 σd σ H2 _ (rel.grow (e1.trans e2)) (PostO.bind h2 fun o' H3 e3 h3 =>
      slice_w rel (e1.trans (e2.trans e3)) (o1.grow (e2.trans e3) (rel.grow e1).own.soft) h3))
end Ev


set_option Elab.async false
set_option linter.all false
set_option maxRecDepth 100000
set_option maxHeartbeats 4000000
namespace Ev
open PySem PySem.Spec L2
variable {O : Addr → Prop} {σd : List Sl} {σ : L2.St} {H H1 H2 H' : Hp} {Q : VK} {Ew : XK} {Oc : Addr → Prop} {H0 : Hp}
variable {X : Cx} {Z : Zd} {R : Rt} {Wx : WX} {N : List Str} {sc : Scope} {fc : Str → Bool}
/-! ### what stands in a list of arguments -/
def noStar : Expr → Bool
  | .Starred _ _ => false
  | _ => true
def noCall : Expr → Bool
  | .Call _ _ _ _ => false
  | _ => true
theorem star_cons {e : Expr} {es : List Expr} {env : Env} (h : noStar e = true) : starEach (e :: es) env = (false, eval e env) :: starEach es env := by
  cases e <;> first | rfl | cases h
theorem star_any : ∀ {es : List Expr} {pos : Pos} {env : Env}, es.all noStar = true → (backTo pos (starEach es env)).any (·.1) = false
  | [], _, _, _ => rfl
  | e :: es, pos, env, h => by
    rw [List.all_cons, Bool.and_eq_true] at h
    rw [star_cons h.1]
    show (false || (backTo pos (starEach es env)).any (·.1)) = false
    rw [star_any h.2]; rfl
theorem star_all : ∀ {es : List Expr} {pos : Pos} {env : Env}, es.all noStar = true → (backTo pos (starEach es env)).all (fun x => !x.1) = true
  | [], _, _, _ => rfl
  | e :: es, pos, env, h => by
    rw [List.all_cons, Bool.and_eq_true] at h
    rw [star_cons h.1]
    show (true && (backTo pos (starEach es env)).all (fun x => !x.1)) = true
    rw [star_all h.2]; rfl
theorem attr_plain {o : Expr} {f : Str} {env : Env} {w : Sem Value} (h : noCall o = true) : attributeBase o f env w = w := by
  cases o <;> first | rfl | cases h
/-! ### arguments -/
def RVsOk (W : Wd) (O : Addr → Prop) (σd : List Sl) (σ : L2.St) (H H' : Hp) : List RV → List V → Prop
  | [], vs => vs = []
  | r :: rs, vs => ∃ v t, vs = v :: t ∧ RVOk W O σd σ H H' r v ∧ RVsOk W O σd σ H H' rs t
def PostA (W : Wd) (O : Addr → Prop) (σd : List Sl) (σ : L2.St) (H : Hp) (r : Res (List RV)) (Q : List V → Hp → Prop) (Ew : XK) : Prop := match r with
  | .ok rs => ∀ vs H', Ext W.T H H' → RVsOk W O σd σ H H' rs vs → Q vs H'
  | .exc c fs => ∀ cls dx H', Ext W.T H H' → ExOk W O H' c fs cls dx → Ew cls dx H'
  | .stuck => False
theorem RVsOk.from {W : Wd} : ∀ {rs : List RV} {vs : List V}, RVsOk W O σd σ H1 H' rs vs → Ext W.T H H1 → RVsOk W O σd σ H H' rs vs
  | [], vs, h, _ => h
  | r :: rs, vs, ⟨v, t, e, h, k⟩, x => ⟨v, t, e, h.from x, RVsOk.from k x⟩
def wA (X : Cx) (es : List Expr) : TA := fun σ H Q => ∀ pos pins s, Inv X pins σ H s → wpAny (model X.prog X.w) X.A (spliced (backTo pos (starEach es X.env))) (AP X pins σ Q) X.xe s
theorem pwA {X : Cx} (es : List Expr) : PA X es (wA X es) := ⟨fun pos pins s σ H Q I h => h pos pins s I⟩
def SA (X : Cx) (Z : Zd) (R : Rt) (Wx : WX) (es : List Expr) (xs : Exs) : Prop :=
  ∀ (Oc : Addr → Prop) (H0 : Hp) (σd : List Sl) (σ : L2.St) (H : Hp) (Q : List V → Hp → Prop), RelS (wd X Z) Oc H0 σd σ H →
    PostA (wd X Z) (OT Oc σd σ) σd σ H (evalL R xs σd) Q (fun c d H' => Wx c d σ H') → wA X es σ H Q
theorem PostA.bind {W : Wd} {r : Res (List RV)} {f : List RV → Res RV} {P : List V → Hp → Prop} (h : Post W O σd σ H (r.bind f) Q Ew)
    (k : ∀ rs vs H1, r = .ok rs → Ext W.T H H1 → RVsOk W O σd σ H H1 rs vs → Post W O σd σ H1 (f rs) Q Ew → P vs H1) : PostA W O σd σ H r P Ew := by
  cases r with
  | ok rs => exact fun vs H1 e q => k rs vs H1 rfl e q (Post.later (r := f rs) h e)
  | exc c fs => exact h
  | stuck => exact h
theorem sa_nil : SA X Z R Wx [] .nil := fun Oc H0 σd σ H Q rel p => fun pos pins s I => pa_nil.run pos pins s σ H Q I (by
  unfold evalL at p
  exact p [] H (Ext.refl H) rfl)
theorem sa_cons {e : Expr} {es : List Expr} {x : Ex} {xs : Exs} (hs : noStar e = true) (A : SE X Z R Wx e x) (B : SA X Z R Wx es xs) : SA X Z R Wx (e :: es) (.cons x xs) := fun Oc H0 σd σ H Q rel p =>
  fun pos pins s I => (pa_cons (pw e) (pwA es) (star_cons hs)).run pos pins s σ H Q I (by
    unfold evalL at p
    refine A Oc H0 σd σ H _ rel ?_
    cases q : evalE R x σd with
    | exc c fs => rw [q] at p; exact p
    | stuck => rw [q] at p; exact p.elim
    | ok rv =>
      rw [q] at p
      intro v H1 e1 o1
      refine B Oc H0 σd σ H1 _ (rel.grow e1) ?_
      have p' : PostA (wd X Z) (OT Oc σd σ) σd σ H ((evalL R xs σd).bind fun ys => .ok (rv :: ys)) Q fun c d H' => Wx c d σ H' := p
      cases q2 : evalL R xs σd with
      | exc c fs => rw [q2] at p'; exact fun cls dx H' e' h => p' cls dx H' (Ext.trans (T := Z.T) e1 e') h
      | stuck => rw [q2] at p'; exact p'.elim
      | ok rs =>
        rw [q2] at p'
        intro vs H2 e2 o2
        exact p' (v :: vs) H2 (Ext.trans (T := Z.T) e1 e2) ⟨v, vs, rfl, o1.grow e2 (rel.grow e1).own.soft, o2.from e1⟩)
theorem RVOk.keep {W : Wd} {rv : RV} {v : V} {d : D} (Rl : RelS W Oc H0 σd σ H) (e : Ext W.T H H') (h : RVOk W (OT Oc σd σ) σd σ H H' rv v) (a : rv.asV = some d) : Rep W H' (OT Oc σd σ) d v := h.rep Rl e a
theorem RVsOk.reps {W : Wd} (Rl : RelS W Oc H0 σd σ H) (e : Ext W.T H H') : ∀ {rs : List RV} {vs : List V} {ds : List D}, RVsOk W (OT Oc σd σ) σd σ H H' rs vs → allV rs = some ds → Reps W H' (OT Oc σd σ) ds vs
  | [], vs, ds, h, q => by cases q; exact h
  | r :: rs, vs, ds, ⟨v, t, e1, h, k⟩, q => by
    unfold allV at q
    cases q1 : r.asV with
    | none => rw [q1] at q; cases q
    | some d =>
      cases q2 : allV rs with
      | none => rw [q1, q2] at q; cases q
      | some es =>
        rw [q1, q2] at q
        cases q
        rw [e1]
        exact ⟨v, t, rfl, h.rep Rl e q1, RVsOk.reps Rl e k q2⟩
theorem allV_len : ∀ {rs : List RV} {ds : List D}, allV rs = some ds → ds.length = rs.length
  | [], ds, q => by cases q; rfl
  | r :: rs, ds, q => by
    unfold allV at q
    cases q1 : r.asV with
    | none => rw [q1] at q; cases q
    | some d =>
      cases q2 : allV rs with
      | none => rw [q1, q2] at q; cases q
      | some es => rw [q1, q2] at q; cases q; simp [allV_len q2]
/-! ### displays -/
theorem se_tup {es : List Expr} {xs : Exs} {k : Nat} {pos : Pos} (A : SA X Z R Wx es xs) : SE X Z R Wx (.Tuple es k pos) (.tup xs) :=
  SE.of (pe_tup (pwA es)) fun Oc H0 σd σ H Q rel p => by
    unfold evalE at p
    refine A Oc H0 σd σ H _ rel (PostA.bind p fun rs vs H1 _ e o h => ?_)
    cases q : allV rs with
    | none => rw [q] at h; exact h.elim
    | some ds =>
      rw [q] at h
      dsimp only at h
      split at h
      · rename_i hl
        have r := o.reps rel e q
        refine ⟨by rw [r.length]; exact cap_line hl, fun a ha => ?_⟩
        exact Post.ok (rv := .v (.tup ds)) h (Ext.upd ha) (new_tup ha (rel.grow e).own.soft r)
      · exact h.elim
theorem se_lst {es : List Expr} {xs : Exs} {pos : Pos} (A : SA X Z R Wx es xs) : SE X Z R Wx (.List es pos) (.lst xs) :=
  SE.of (pe_lst (pwA es)) fun Oc H0 σd σ H Q rel p => by
    unfold evalE at p
    refine A Oc H0 σd σ H _ rel (PostA.bind p fun rs vs H1 _ e o h => ?_)
    cases q : allV rs with
    | none => rw [q] at h; exact h.elim
    | some ds =>
      rw [q] at h
      dsimp only at h
      split at h
      · rename_i hl
        have r := o.reps rel e q
        refine ⟨by rw [r.length]; exact cap_line hl, fun a ha => ?_⟩
        exact Post.ok (rv := .f ds) h (Ext.upd ha) (new_lst ha (rel.grow e).own.soft r)
      · exact h.elim
/-! ### fields -/
theorem lookup_at {f : Str} : ∀ {fs : List Str} {ps : List (Str × V)} {k : Nat}, fs[k]? = some f → fs.Nodup → ps.map (·.1) = fs.take ps.length → k < ps.length → ∃ v, ps.lookup f = some v ∧ (ps.map (·.2))[k]? = some v
  | _, [], k, _, _, _, h => by simp at h
  | [], (x, v) :: ps, k, e, _, _, _ => by simp at e
  | g :: fs, (x, v) :: ps, 0, e, nd, h, _ => by
    simp at e h
    refine ⟨v, ?_, rfl⟩
    rw [List.lookup_cons, h.1, e]
    simp
  | g :: fs, (x, v) :: ps, k + 1, e, nd, h, l => by
    simp at e h l
    have hne : (f == x) = false := by
      rw [beq_eq_false_iff_ne, h.1]
      intro z
      subst z
      exact (List.nodup_cons.mp nd).1 (List.mem_of_getElem? e)
    obtain ⟨w, h1, h2⟩ := lookup_at (k := k) e (List.nodup_cons.mp nd).2 h.2 l
    exact ⟨w, by rw [List.lookup_cons, hne]; exact h1, by simpa using h2⟩
/-- what is known of a class -/
structure ClsOk (X : Cx) (Z : Zd) (c : Nat) (ci : ClsI) : Prop where
  at_ : Z.cls c = some ci
  cls : Cls X.K (Z.cad c)
  noat : ∀ f ∈ ci.fields, NoAttr X.K (Z.cad c) f
  nd : ci.fields.Nodup
  few : ci.fields.length < 1000
theorem se_fld {a : Expr} {x : Ex} {f : Str} {cs : List Nat} {k : Nat} {pos : Pos} (A : SE X Z R Wx a x) (ha : noCall a = true) (hc : ∀ c ∈ cs, ∃ ci, ClsOk X Z c ci ∧ ci.fields[k]? = some f) : SE X Z R Wx (.Attribute a f pos) (.fld x cs k) :=
  SE.of (pe_fld (pw a) (attr_plain ha)) fun Oc H0 σd σ H Q rel p => by
    unfold evalE at p
    exact SE.one A rel p fun rx v H1 e o h => by
      cases rx with
      | v d =>
        cases d with
        | ins c fs =>
          dsimp only at h
          split at h
          · rename_i hm
            obtain ⟨ci, ck, hf⟩ := hc c (by simpa using hm)
            obtain ⟨p, dx, fvs, ci', e1, e2, n, hci, hfs, r⟩ := o
            have : ci' = ci := by have := ck.at_; rw [show Z.cls c = some ci' from hci] at this; exact Option.some.inj this
            subst this
            cases q : fs[k]? with
            | none => rw [q] at h; exact h.elim
            | some d =>
              rw [q] at h
              have kl : k < fs.length := (List.getElem?_eq_some_iff.mp q).1
              have hl := r.length
              simp at hl
              obtain ⟨w, l1, l2⟩ := lookup_at (ps := fvs) hf ck.nd (by rw [hfs, ← hfs, List.take_of_length_le (by simp)]) (by omega)
              obtain ⟨w', l3, l4⟩ := r.get q
              rw [l2] at l3
              cases l3
              exact ⟨p, _, dx, fvs, w, e1, e2, ck.cls, ck.noat f (List.mem_of_getElem? hf), l1, Post.here (d := d) h l4⟩
          · exact h.elim
        | _ => exact h.elim
      | o i c fs =>
        dsimp only at h
        split at h
        · rename_i hm
          obtain ⟨ci, ck, hf⟩ := hc c (by simpa using hm)
          obtain ⟨h1, h2⟩ := o
          obtain ⟨p, e1, n, _, dx, fvs, ci', e2, hci, hfs, hle, r⟩ := (rel.grow e).slots i _ h1
          rw [h2] at e1
          cases e1
          have : ci' = ci := by have := ck.at_; rw [show Z.cls c = some ci' from hci] at this; exact Option.some.inj this
          subst this
          cases q : fs[k]? with
          | none => rw [q] at h; exact h.elim
          | some d =>
            rw [q] at h
            have kl : k < fs.length := (List.getElem?_eq_some_iff.mp q).1
            have hl := r.length
            simp at hl
            obtain ⟨w, l1, l2⟩ := lookup_at (ps := fvs) hf ck.nd (by rw [hfs, hl]) (by omega)
            obtain ⟨w', l3, l4⟩ := r.get q
            rw [l2] at l3
            cases l3
            exact ⟨p, _, dx, fvs, w, rfl, e2, ck.cls, ck.noat f (List.mem_of_getElem? hf), l1, Post.here (d := d) h l4⟩
        · exact h.elim
      | _ => exact h.elim
end Ev


set_option Elab.async false
set_option linter.all false
set_option maxRecDepth 100000
set_option maxHeartbeats 4000000
namespace Ev
open PySem PySem.Spec L2
variable {O : Addr → Prop} {σd : List Sl} {σ : L2.St} {H H1 H2 H' : Hp} {Q : VK} {Ew : XK} {Oc : Addr → Prop} {H0 : Hp}
variable {X : Cx} {Z : Zd} {R : Rt} {Wx : WX} {N : List Str} {sc : Scope} {fc : Str → Bool}
/-! ### built-in functions -/
def nmOf : P1 → Str
  | .len => "len" | .int => "int" | .abs => "abs" | .list => "list" | .tuple => "tuple" | .tupN => "tuple" | .sorted => "sorted" | .sum => "sum" | .all => "all" | .any => "any" | .lenset => "len"
def nm2Of : P2 → Str
  | .min => "min" | .max => "max"
theorem boot_len : bootBuiltins "len" = some (.builtin "len") := by decide +kernel
theorem boot_abs : bootBuiltins "abs" = some (.builtin "abs") := by decide +kernel
theorem boot_sorted : bootBuiltins "sorted" = some (.builtin "sorted") := by decide +kernel
theorem boot_sum : bootBuiltins "sum" = some (.builtin "sum") := by decide +kernel
theorem boot_all : bootBuiltins "all" = some (.builtin "all") := by decide +kernel
theorem boot_any : bootBuiltins "any" = some (.builtin "any") := by decide +kernel
theorem boot_min : bootBuiltins "min" = some (.builtin "min") := by decide +kernel
theorem boot_max : bootBuiltins "max" = some (.builtin "max") := by decide +kernel
theorem bt_int : bootBuiltins "int" = some (.type "int") := by decide +kernel
theorem bt_list : bootBuiltins "list" = some (.type "list") := by decide +kernel
theorem bt_tuple : bootBuiltins "tuple" = some (.type "tuple") := by decide +kernel
theorem boot_isi : bootBuiltins "isinstance" = some (.builtin "isinstance") := by decide +kernel
theorem Cn.no (C : Cn X Wx N sc fc) {x : Str} (h : x ∈ bltNames) : X.mg x = none := C.blt x h
theorem Cn.gl (C : Cn X Wx N sc fc) {x : Str} (h : sc.names.lookup x = some .globalImplicit) : Gl X x := by
  unfold Gl Env.kindOf
  rw [C.hsc]; exact h
theorem SE.args1 {a : Expr} {x : Ex} {f : RV → Res RV} (A : SE X Z R Wx a x) (na : noStar a = true) (rel : RelS (wd X Z) Oc H0 σd σ H)
    (h : Post (wd X Z) (OT Oc σd σ) σd σ H ((evalE R x σd).bind fun rx => f rx) Q fun c d H' => Wx c d σ H') {P : List V → Hp → Prop}
    (k : ∀ rx v H1, Ext Z.T H H1 → RVOk (wd X Z) (OT Oc σd σ) σd σ H H1 rx v → Post (wd X Z) (OT Oc σd σ) σd σ H1 (f rx) Q (fun c d H' => Wx c d σ H') → P [v] H1) :
    wA X [a] σ H P := fun pos pins s I => (pa_cons (pw a) pa_nil (star_cons na)).run pos pins s σ H P I (SE.one A rel h fun rx v H1 e o h => k rx v H1 e o h)
theorem SE.args2 {a b : Expr} {x y : Ex} {f : RV → RV → Res RV} (A : SE X Z R Wx a x) (B : SE X Z R Wx b y) (na : noStar a = true) (nb : noStar b = true) (rel : RelS (wd X Z) Oc H0 σd σ H)
    (h : Post (wd X Z) (OT Oc σd σ) σd σ H ((evalE R x σd).bind fun rx => (evalE R y σd).bind fun ry => f rx ry) Q fun c d H' => Wx c d σ H') {P : List V → Hp → Prop}
    (k : ∀ rx ry v u H2, Ext Z.T H H2 → RVOk (wd X Z) (OT Oc σd σ) σd σ H H2 rx v → RVOk (wd X Z) (OT Oc σd σ) σd σ H H2 ry u → Post (wd X Z) (OT Oc σd σ) σd σ H2 (f rx ry) Q (fun c d H' => Wx c d σ H') → P [v, u] H2) :
    wA X [a, b] σ H P := fun pos pins s I => (pa_cons (pw a) (pa_cons (pw b) pa_nil (star_cons nb)) (star_cons na)).run pos pins s σ H P I (SE.two A B rel h fun rx ry v u H2 e o1 o2 h => k rx ry v u H2 e o1 o2 h)
theorem p1_run {q : P1} {a : Expr} {x : Ex} (C : Cn X Wx N sc fc) (hq : q ≠ .lenset) (A : SE X Z R Wx a x) (na : noStar a = true) (rel : RelS (wd X Z) Oc H0 σd σ H) (p : Post (wd X Z) (OT Oc σd σ) σd σ H (evalE R (.p1 q x) σd) Q fun c d H' => Wx c d σ H') :
    wA X [a] σ H fun xs H1 => cW X (fnOf q) xs H1 Q := by
  unfold evalE at p
  exact SE.args1 A na rel p fun rx v H1 e o h => p1_w hq C.calm C.hu rel e o h
theorem se_p1 {q : P1} {a : Expr} {x : Ex} {p pos : Pos} (C : Cn X Wx N sc fc) (hq : q ≠ .lenset) (hg : sc.names.lookup (nmOf q) = some .globalImplicit) (A : SE X Z R Wx a x) (na : noStar a = true) : SE X Z R Wx (.Call (.Name (nmOf q) p) [a] [] pos) (.p1 q x) := by
  have g := C.gl hg
  cases q with
  | lenset => exact (hq rfl).elim
  | len => exact SE.of (pe_callB (id := "len") callW g (C.no (by decide)) boot_len (pwA [a]) (by decide) (by decide) (star_cons na)) fun Oc H0 σd σ H Q rel p => p1_run C hq A na rel p
  | abs => exact SE.of (pe_callB (id := "abs") callW g (C.no (by decide)) boot_abs (pwA [a]) (by decide) (by decide) (star_cons na)) fun Oc H0 σd σ H Q rel p => p1_run C hq A na rel p
  | sorted => exact SE.of (pe_callB (id := "sorted") callW g (C.no (by decide)) boot_sorted (pwA [a]) (by decide) (by decide) (star_cons na)) fun Oc H0 σd σ H Q rel p => p1_run C hq A na rel p
  | sum => exact SE.of (pe_callB (id := "sum") callW g (C.no (by decide)) boot_sum (pwA [a]) (by decide) (by decide) (star_cons na)) fun Oc H0 σd σ H Q rel p => p1_run C hq A na rel p
  | all => exact SE.of (pe_callB (id := "all") callW g (C.no (by decide)) boot_all (pwA [a]) (by decide) (by decide) (star_cons na)) fun Oc H0 σd σ H Q rel p => p1_run C hq A na rel p
  | any => exact SE.of (pe_callB (id := "any") callW g (C.no (by decide)) boot_any (pwA [a]) (by decide) (by decide) (star_cons na)) fun Oc H0 σd σ H Q rel p => p1_run C hq A na rel p
  | int => exact SE.of (pe_callTy (T := "int") callW g (C.no (by decide)) bt_int (pwA [a]) (by decide) (by decide) (star_cons na)) fun Oc H0 σd σ H Q rel p => p1_run C hq A na rel p
  | list => exact SE.of (pe_callTy (T := "list") callW g (C.no (by decide)) bt_list (pwA [a]) (by decide) (by decide) (star_cons na)) fun Oc H0 σd σ H Q rel p => p1_run C hq A na rel p
  | tuple => exact SE.of (pe_callTy (T := "tuple") callW g (C.no (by decide)) bt_tuple (pwA [a]) (by decide) (by decide) (star_cons na)) fun Oc H0 σd σ H Q rel p => p1_run C hq A na rel p
  | tupN => exact SE.of (pe_callTy (T := "tuple") callW g (C.no (by decide)) bt_tuple (pwA [a]) (by decide) (by decide) (star_cons na)) fun Oc H0 σd σ H Q rel p => p1_run C hq A na rel p
theorem se_p2 {q : P2} {a b : Expr} {x y : Ex} {p pos : Pos} (C : Cn X Wx N sc fc) (hg : sc.names.lookup (nm2Of q) = some .globalImplicit) (A : SE X Z R Wx a x) (B : SE X Z R Wx b y) (na : noStar a = true) (nb : noStar b = true) : SE X Z R Wx (.Call (.Name (nm2Of q) p) [a, b] [] pos) (.p2 q x y) := by
  have g := C.gl hg
  have hpl : (backTo pos (starEach [b] X.env)).any (·.1) = false := star_any (by simp [nb])
  cases q with
  | min =>
    exact SE.of (pe_callB (id := "min") callW g (C.no (by decide)) boot_min (pwA [a, b]) (by decide) (by decide) (star_cons na) hpl) fun Oc H0 σd σ H Q rel p => by
      unfold evalE at p
      exact SE.args2 A B na nb rel p fun rx ry v u H2 e o1 o2 h => p2_w C.calm o1 o2 h
  | max =>
    exact SE.of (pe_callB (id := "max") callW g (C.no (by decide)) boot_max (pwA [a, b]) (by decide) (by decide) (star_cons na) hpl) fun Oc H0 σd σ H Q rel p => by
      unfold evalE at p
      exact SE.args2 A B na nb rel p fun rx ry v u H2 e o1 o2 h => p2_w C.calm o1 o2 h
theorem se_lenset {a : Expr} {x : Ex} {p p2 q pos : Pos} (C : Cn X Wx N sc fc) (hg : sc.names.lookup ("len" : Str) = some .globalImplicit) (hg2 : sc.names.lookup ("set" : Str) = some .globalImplicit) (A : SE X Z R Wx a x) (na : noStar a = true) :
    SE X Z R Wx (.Call (.Name "len" p) [.Call (.Name "set" p2) [a] [] q] [] pos) (.p1 .lenset x) :=
  SE.of (RZ.pe_lenSetI (C.gl hg) (C.no (by decide)) (C.gl hg2) (C.no (by decide)) (pw a) C.calm (star_cons na)) fun Oc H0 σd σ H Q rel p => by
    unfold evalE at p
    exact SE.one A rel p fun rx v H1 e o h => by
      unfold p1 at h
      dsimp only at h
      cases el : rx.asL with
      | none => rw [el] at h; exact h.elim
      | some xs =>
        rw [el] at h
        dsimp only at h
        cases ei : intsOf xs with
        | none => rw [ei] at h; exact h.elim
        | some ns =>
          rw [ei] at h
          dsimp only at h
          split at h
          · rename_i hc
            obtain ⟨a, vs, h1, h2, r⟩ := o.ls rel e el
            have ex := intsOf_eq ei
            subst ex
            have ev := Reps.ints_eq r
            subst ev
            exact ⟨a, ns, h1, h2, hc.1, hc.2, Post.here (d := .int ns.length) h rfl⟩
          · exact h.elim
/-! ### methods of built-in values -/
def recvW (X : Cx) (T : String) (x : V) (H : Hp) : Prop := ∀ (pins : List (Addr × Obj)) (s : Shared) (σ : L2.St) (v : Value), Inv X pins σ H s → RelV x v → s.TypeIs v T ∧ ∀ a, v = .ref a → ∃ ob, s.heap.get? a = some ob ∧ ob.dict = none
theorem recv_ty {T : String} {x : V} (h : tyV X.K T x H) : recvW X T x H := fun pins s σ v I r => tyV_is I r h
theorem recv_lst {a : Addr} {vs : List V} (h : SqL X.K H a vs) : recvW X "list" (.ref a) H := recv_ty (.inl ⟨rfl, vs, h⟩)
theorem recv_tpn {a : Addr} {vs : List V} (h : TpN X.K H a vs) : recvW X "tuple" (.ref a) H := by
  rcases h with ⟨ob, h, n⟩ | ⟨o, its, k, h1, h2, h3, _⟩
  rotate_left
  · exact recv_ty (.inr (.inl ⟨rfl, o, h1, h2, h3⟩))
  intro pins s σ v I r
  cases (show v = Value.ref a from r)
  obtain ⟨e, _, its, rv, o, h1, h2, k, h3⟩ := (show ObjOk X.prog X.w H s.heap a (.frz ob (.tup vs)) from I.hok a _ h)
  have : o = ob := by rw [e] at h1; exact (Option.some.inj h1).symm
  subst this
  exact ⟨⟨o, h1, h2⟩, fun b hb => by cases hb; exact ⟨o, h1, n⟩⟩
def mW (X : Cx) (id : String) : V → List V → Hp → VK → Prop := fun x xs H Q => ∀ (pins : List (Addr × Obj)) (s : Shared) (σ : L2.St) (v : Value) (us : List Value), Inv X pins σ H s → RelV x v → Vals xs us → wpAny (model X.prog X.w) X.A (call (.builtin id) (v :: us)) (EP X pins σ Q) X.xe s
theorem MtR.w {id : String} {r : V → List V → Hp → VK → Prop} (h : MtR X id r) {x : V} {xs : List V} {H : Hp} {Q : VK} (q : r x xs H Q) : mW X id x xs H Q := fun pins s σ v us I rx rv => h pins s σ H x xs v us Q I rx rv q
def tBW (X : Cx) (name : Str) (to : TE) (t : TA) : TE := fun σ H Q => to σ H fun x H1 => ∃ T id, PlainAttrs T ∧ Slot T name id ∧ typeOf (.builtin id) = pure (.type "method_descriptor") ∧ recvW X T x H1 ∧ t σ H1 fun xs H2 => mW X id x xs H2 Q
theorem few_ok {es : List Expr} {env : Env} {pos : Pos} (h : es.all noStar = true) (hl : es.length < 30) : ((backTo pos (starEach es env)).all (fun x => !x.1) && (backToKw pos (keywordEach [] env)).all (fun x => x.1.isSome)
      && decide (es.length + ([] : List Keyword).length + (if ([] : List Keyword).isEmpty then 0 else 1) < 30)) = true := by
  rw [star_all h]
  simp [keywordEach, backToKw]
  omega
theorem pe_bmW {o e : Expr} {es : List Expr} {to : TE} {t : TA} {name : Str} {apos cpos : Pos} (ho : PE X o to) (ha : PA X (e :: es) t) (hc : noCall o = true) (hs : (e :: es).all noStar = true) (hl : (e :: es).length < 30) (hline : (apos.endLine == cpos.line) = true) :
    PE X (.Call (.Attribute o name apos) (e :: es) [] cpos) (tBW X name to t) := by
  have hs' := hs
  rw [List.all_cons, Bool.and_eq_true] at hs'
  refine ⟨fun pins s σ H Q I h => ?_⟩
  refine wpAny_Call_method_late (attr_plain hc) (few_ok hs hl) hline rfl (thn (ho.run pins s σ H _ I h) fun v s1 ⟨x, H1, I1, r1, T, id, pa, slot, hty, rc, q1⟩ => ?_)
  obtain ⟨h1, h2⟩ := rc pins s1 σ v I1 r1
  refine ⟨T, id, pa, slot, hty, h1, h2, ?_⟩
  have hA := ha.run cpos pins s1 σ H1 _ I1 q1
  rw [star_cons hs'.1] at hA ⊢
  refine Calls.callWith_builtin (by show (false || (backTo cpos (starEach es X.env)).any (·.1)) = false; rw [star_any hs'.2]; rfl) (Calls.evalArgs_plain ?_)
  exact thn hA fun us s2 ⟨vs, H2, I2, r2, q2⟩ => q2 pins s2 σ v us I2 r1 r2
theorem pe_bmW0 {o : Expr} {to : TE} {name : Str} {apos cpos : Pos} (ho : PE X o to) (hc : noCall o = true) (hline : (apos.endLine == cpos.line) = true) :
    PE X (.Call (.Attribute o name apos) [] [] cpos) (tBW X name to tNil) := by
  refine ⟨fun pins s σ H Q I h => ?_⟩
  refine wpAny_Call_method0_late (attr_plain hc) hline (thn (ho.run pins s σ H _ I h) fun v s1 ⟨x, H1, I1, r1, T, id, pa, slot, hty, rc, q1⟩ => ?_)
  obtain ⟨h1, h2⟩ := rc pins s1 σ v I1 r1
  exact ⟨T, id, pa, slot, hty, h1, h2, Calls.callWith_builtin rfl (PySem.evalArgs_none (q1 pins s1 σ v [] I1 r1 .nil))⟩
theorem se_index {a b : Expr} {x y : Ex} {apos cpos : Pos} (A : SE X Z R Wx a x) (B : SE X Z R Wx b y) (nc : noCall a = true) (nb : noStar b = true) (hline : (apos.endLine == cpos.line) = true) :
    SE X Z R Wx (.Call (.Attribute a "index" apos) [b] [] cpos) (.sm .index x y) :=
  SE.of (pe_bmW (pw a) (pwA [b]) nc (by simp [nb]) (by simp) hline) fun Oc H0 σd σ H Q rel p => by
    unfold evalE at p
    refine A Oc H0 σd σ H _ rel (Post.bind p fun rx v H1 er e o h0 => ?_)
    cases ez : rx.asX with
    | none => rw [ez] at h0; exact h0.elim
    | some zs =>
    rw [ez] at h0
    have h : Post (wd X Z) (OT Oc σd σ) σd σ H1 ((evalE R y σd).bind fun ry => sm .index rx ry) Q (fun c d H' => Wx c d σ H') := h0
    clear h0 p
    have key : ∀ ry u H2, Ext Z.T H1 H2 → RVOk (wd X Z) (OT Oc σd σ) σd σ H H2 ry u → Post (wd X Z) (OT Oc σd σ) σd σ H2 (sm .index rx ry) Q (fun c d H' => Wx c d σ H') →
        ∃ xs dd, rx.asX = some xs ∧ ry = .v dd ∧ scalar dd = true ∧ xs.all scalar = true ∧ ∃ j, findS dd xs = some j ∧ Q (.int (j : Nat)) H2 := fun ry u H2 e2 o2 h2 => by
      unfold sm at h2
      cases ex : rx.asX with
      | none => rw [ex] at h2; exact h2.elim
      | some xs =>
        rw [ex] at h2
        cases ry with
        | v dd =>
          dsimp only at h2
          split at h2
          · rename_i hs
            rw [Bool.and_eq_true] at hs
            cases ej : findS dd xs with
            | none => rw [ej] at h2; exact h2.elim
            | some j =>
              rw [ej] at h2
              exact ⟨xs, dd, rfl, rfl, hs.1, hs.2, j, ej, Post.here (d := .int j) h2 rfl⟩
          · exact h2.elim
        | _ => exact h2.elim
    have fin : ∀ {vs : List V} {xs : List D}, rx.asX = some xs → Reps (wd X Z) H1 (OT Oc σd σ) xs vs → ∀ ry u H2, Ext Z.T H1 H2 → RVOk (wd X Z) (OT Oc σd σ) σd σ H H2 ry u → Post (wd X Z) (OT Oc σd σ) σd σ H2 (sm .index rx ry) Q (fun c d H' => Wx c d σ H') →
        ∃ (y : V) (j : Nat) (z : V), [u] = [y] ∧ flatV y = true ∧ vs.all flatV = true ∧ vs[j]? = some z ∧ eqV z y = true ∧ (∀ (m : Nat) (z' : V), m < j → vs[m]? = some z' → eqV z' y = false) ∧ Q (.int (j : Nat)) H2 := fun {vs xs} ex r ry u H2 e2 o2 h2 => by
      obtain ⟨xs', dd, ex', rfl, s1, s2, j, fj, q⟩ := key ry u H2 e2 o2 h2
      rw [ex] at ex'
      cases ex'
      have r2 := r.kept (Kept.of e2) (rel.grow e).own.soft
      obtain ⟨z, hz, h3, h4⟩ := findS_V o2 s1 r2 s2 fj
      exact ⟨u, j, z, rfl, scalar_flat o2 s1, flats_V r2 s2, hz, h3, h4, q⟩
    have run : ∀ (id : String) (w : V), (∀ ry u H2, Ext Z.T H1 H2 → RVOk (wd X Z) (OT Oc σd σ) σd σ H H2 ry u → Post (wd X Z) (OT Oc σd σ) σd σ H2 (sm .index rx ry) Q (fun c d H' => Wx c d σ H') → mW X id w [u] H2 Q) → wA X [b] σ H1 fun xs H2 => mW X id w xs H2 Q := fun id w k =>
      SE.args1 (f := fun ry => sm .index rx ry) B nb (rel.grow e) h fun ry u H2 e2 o2 h2 => k ry u H2 e2 (o2.from e) h2
    have hl : ∀ xs, rx.asL = some xs → rx.asX = some xs → ∃ T id, PlainAttrs T ∧ Slot T "index" id ∧ typeOf (.builtin id) = pure (.type "method_descriptor") ∧ recvW X T v H1 ∧ wA X [b] σ H1 fun xs H2 => mW X id v xs H2 Q := fun xs el ex => by
      obtain ⟨p, vs, rfl, h2, r⟩ := o.ls rel e el
      refine ⟨"list", "list.index", PySem.F.plainAttrs_list, PySem.F.slot_list_index, PySem.F.type_list_index, recv_lst h2, run _ _ fun ry u H2 e2 o2 h3 => ?_⟩
      obtain ⟨y, j, z, q1, q2, q3, q4, q5, q6, q7⟩ := fin ex r ry u H2 e2 o2 h3
      have o' : LsOk (wd X Z) (OT Oc σd σ) H2 xs (.ref p) := by
        have := (o.grow e2 (rel.grow e).own.soft).ls rel (e.trans e2) el
        exact this
      obtain ⟨p', vs', e', h2', r'⟩ := o'
      cases e'
      obtain ⟨y, j, z, q1, q2, q3, q4, q5, q6, q7⟩ : ∃ (y : V) (j : Nat) (z : V), [u] = [y] ∧ flatV y = true ∧ vs'.all flatV = true ∧ vs'[j]? = some z ∧ eqV z y = true ∧ (∀ (m : Nat) (z' : V), m < j → vs'[m]? = some z' → eqV z' y = false) ∧ Q (.int (j : Nat)) H2 := by
        obtain ⟨xs', dd, ex', rfl, s1, s2, j, fj, q⟩ := key ry u H2 e2 o2 h3
        rw [ex] at ex'
        cases ex'
        obtain ⟨z, hz, h3, h4⟩ := findS_V o2 s1 r' s2 fj
        exact ⟨u, j, z, rfl, scalar_flat o2 s1, flats_V r' s2, hz, h3, h4, q⟩
      exact MtR.w mt_index ⟨p, vs', y, j, z, rfl, q1, h2', q2, q3, q4, q5, q6, q7⟩
    cases rx with
    | v d =>
      cases d with
      | tpn xs =>
        obtain ⟨p, vs, rfl, h2, r⟩ := o
        refine ⟨"tuple", "tuple.index", PySem.F.plainAttrs_tuple, PySem.F.slot_tuple_index, PySem.F.type_tuple_index, recv_tpn h2, run _ _ fun ry u H2 e2 o2 h3 => ?_⟩
        obtain ⟨y, j, z, q1, q2, q3, q4, q5, q6, q7⟩ := fin rfl r ry u H2 e2 o2 h3
        have h2' : TpN X.K H2 p vs := tpn_kept (W := wd X Z) (Kept.of e2) (rel.grow e).own.soft h2
        exact MtR.w mt_tindex ⟨p, vs, y, j, z, rfl, q1, h2'.sqt, q2, q3, q4, q5, q6, q7⟩
      | lst xs => exact hl xs rfl rfl
      | scr ns => exact hl _ rfl rfl
      | _ => cases ez
    | f xs => exact hl xs rfl rfl
    | b i xs => exact hl xs rfl rfl
    | _ => cases ez
end Ev


set_option Elab.async false
set_option linter.all false
set_option maxRecDepth 100000
set_option maxHeartbeats 4000000
namespace Ev
open PySem PySem.Spec L2
variable {O : Addr → Prop} {σd : List Sl} {σ : L2.St} {H H1 H2 H' : Hp} {Q : VK} {Ew : XK} {Oc : Addr → Prop} {H0 : Hp}
variable {X : Cx} {Z : Zd} {R : Rt} {Wx : WX} {N : List Str} {sc : Scope} {fc : Str → Bool} {W : Wd}
/-! ### what is walked -/
structure KeepL (W : Wd) (lent : Bool) (S O : Addr → Prop) (H1 H' : Hp) : Prop where
  kept : Kept O H1 H'
  soft1 : Soft O H1
  ext : lent = true → ∀ a o, S a → H1 a = some o → H' a = some o
def WkOk (W : Wd) (O S : Addr → Prop) (H1 : Hp) (J : L2.It) (items : List D) (lent : Bool) : Prop :=
  ∃ (n : Nat) (G : Hp → Prop) (Y : Nat → Hp → V → Hp → Prop), Walk J n G Y ∧ n = items.length ∧ ∀ O' : Addr → Prop, (∀ a, O' a → O a ∨ H1 a = none) → (∀ H', KeepL W lent S O' H1 H' → G H') ∧
    ∀ (i : Nat) (d : D) (H' : Hp) (x : V) (H'' : Hp) (O2 : Addr → Prop), (∀ a, O2 a → O' a) → Soft O2 H' → items[i]? = some d → KeepL W lent S O' H1 H' → Y i H' x H'' → Ext W.T H' H'' ∧ Rep W H'' O2 d x
def PostI (W : Wd) (O S : Addr → Prop) (H : Hp) (r : Res (List D × Bool)) (Q : L2.It → Hp → Prop) (Ew : XK) : Prop := match r with
  | .ok p => ∀ J H', Ext W.T H H' → WkOk W O S H' J p.1 p.2 → Q J H'
  | .exc c fs => ∀ cls dx H', Ext W.T H H' → ExOk W O H' c fs cls dx → Ew cls dx H'
  | .stuck => False
def wI (X : Cx) (tg iter : Expr) : TI := fun σ H R => ∀ pins s, Inv X pins σ H s → wpAny (model X.prog X.w) X.A (eval iter X.env) (fun v s1 => wpAny (model X.prog X.w) X.A (pyIter v) (PIE X pins σ tg R) X.xe s1) X.xe s
theorem pwI {X : Cx} (tg e : Expr) : PI X tg e (wI X tg e) := ⟨fun pins s σ H R I h => h pins s I⟩
def SI (X : Cx) (Z : Zd) (R : Rt) (Wx : WX) (tg e : Expr) (x : It) : Prop :=
  ∀ (Oc : Addr → Prop) (H0 : Hp) (σd : List Sl) (σ : L2.St) (H : Hp) (Q : L2.It → Hp → Prop), RelS (wd X Z) Oc H0 σd σ H →
    PostI (wd X Z) (OT Oc σd σ) (OwnS σd σ) H (evalI R x σd) Q (fun c d H' => Wx c d σ H') → wI X tg e σ H Q
theorem SI.of {tg e : Expr} {x : It} {t : TI} (p : PI X tg e t)
    (h : ∀ (Oc : Addr → Prop) (H0 : Hp) (σd : List Sl) (σ : L2.St) (H : Hp) (Q : L2.It → Hp → Prop), RelS (wd X Z) Oc H0 σd σ H →
      PostI (wd X Z) (OT Oc σd σ) (OwnS σd σ) H (evalI R x σd) Q (fun c d H' => Wx c d σ H') → t σ H Q) : SI X Z R Wx tg e x :=
  fun Oc H0 σd σ H Q rel post pins s I => p.run pins s σ H Q I (h Oc H0 σd σ H Q rel post)
theorem PostI.later {r : Res (List D × Bool)} {Q : L2.It → Hp → Prop} {S : Addr → Prop} (h : PostI W O S H r Q Ew) (e : Ext W.T H H1) : PostI W O S H1 r Q Ew := by
  cases r with
  | ok p => exact fun J H' e' q => h J H' (e.trans e') q
  | exc c fs => exact fun cls dx H' e' q => h cls dx H' (e.trans e') q
  | stuck => exact h
theorem PostI.bind {r : Res RV} {f : RV → Res (List D × Bool)} {Q : L2.It → Hp → Prop} {P : VK} {S : Addr → Prop} (h : PostI W O S H (r.bind f) Q Ew)
    (k : ∀ rv v H1, r = .ok rv → Ext W.T H H1 → RVOk W O σd σ H H1 rv v → PostI W O S H1 (f rv) Q Ew → P v H1) : Post W O σd σ H r P Ew := by
  cases r with
  | ok rv => exact fun v H1 e q => k rv v H1 rfl e q (PostI.later (r := f rv) h e)
  | exc c fs => exact h
  | stuck => exact h
theorem getN {α β : Type} {F : α → β → Prop} : True := trivial
/-- a list that may be walked: at a the items, and they stay -/
theorem RVOk.stay {rv : RV} {v : V} {xs : List D} (Rl : RelS W Oc H0 σd σ H) (e : Ext W.T H H1) (h : RVOk W (OT Oc σd σ) σd σ H H1 rv v) (a : rv.asL = some xs) :
    ∃ p vs, v = .ref p ∧ SqL W.K H1 p vs ∧ Reps W H1 (OT Oc σd σ) xs vs ∧ ∀ O' : Addr → Prop, (∀ a, O' a → OT Oc σd σ a ∨ H1 a = none) → ∀ H', KeepL W rv.lent (OwnS σd σ) O' H1 H' → SqL W.K H' p vs := by
  by_cases hs : ∃ ns, rv = .v (.scr ns)
  · obtain ⟨ns, rfl⟩ := hs
    cases a
    obtain ⟨p, e2, e3⟩ := h
    refine ⟨p, _, e2, e3.sql, Reps.ints ns, fun O' ho H' k => ?_⟩
    rcases e3 with ⟨e3, n⟩ | e3
    · exact .inl (rd_kept k.kept k.soft1 (fun ps z => by cases z) e3 fun z => (ho _ z).elim n fun q => by rcases e3 with e3 | ⟨o, e3⟩ <;> rw [q] at e3 <;> cases e3)
    · exact .inr e3
  obtain ⟨p, vs, e1, h2, r⟩ := h.ls Rl e a
  refine ⟨p, vs, e1, h2, r, fun O' ho H' k => ?_⟩
  subst e1
  cases rv with
  | b i ys =>
    obtain ⟨p', vs', e2, e3, _⟩ := h.lst Rl e rfl
    cases e2
    have os : OwnS σd σ p := ⟨i, .l ys, h.1, rfl, h.2⟩
    rcases h2 with h2 | h2
    · rcases h2 with h2 | ⟨o, h2⟩
      · exact .inl (.inl (k.ext rfl _ _ os h2))
      · exact .inl (.inr ⟨o, k.ext rfl _ _ os h2⟩)
    · exact .inr h2
  | v d =>
    cases d <;> cases a
    · obtain ⟨p', vs', e2, e3, n, _⟩ := h
      cases e2
      rcases h2 with h2 | h2
      · exact .inl (rd_kept k.kept k.soft1 (fun ps z => by cases z) h2 fun z => (ho _ z).elim n fun q => by rw [e3] at q; cases q)
      · exact .inr h2
    · exact (hs ⟨_, rfl⟩).elim
  | f ys =>
    cases a
    obtain ⟨p', e2, n, ws, e3, _⟩ := h
    cases e2
    have no : ¬ OT Oc σd σ p := fun z => by
      obtain ⟨o, q, _⟩ := Rl.own.some z
      rw [n] at q; cases q
    rcases h2 with h2 | h2
    · exact .inl (rd_kept k.kept k.soft1 (fun ps z => by cases z) h2 fun z => (ho _ z).elim no fun q => by rw [e3] at q; cases q)
    · exact .inr h2
  | _ => cases a
theorem Reps.stay {S : Addr → Prop} {xs : List D} {vs : List V} {O' : Addr → Prop} {lent : Bool} (r : Reps W H1 O xs vs) (ho : ∀ a, O' a → O a ∨ H1 a = none) (k : KeepL W lent S O' H1 H') : Reps W H' O' xs vs :=
  (r.more ho).kept k.kept k.soft1
theorem TsOk.stay {S : Addr → Prop} {p : Addr} {vs : List V} {O' : Addr → Prop} {lent : Bool} (h : SqT W.K H1 p vs) (k : KeepL W lent S O' H1 H') : SqT W.K H' p vs := sqt_kept k.kept k.soft1 h
theorem pi_seq {tg l : Expr} {tl : TE} (hl : PE X l tl) : PI X tg l (fun σ H R => tl σ H fun x H1 => ∃ a, x = .ref a ∧ (((∃ xs, SqL X.K H1 a xs) ∧ R (Itl X.K a) H1) ∨ ((∃ xs, SqT X.K H1 a xs) ∧ R (Itt X.K a) H1))) := by
  refine ⟨fun pins s σ H R I h => ?_⟩
  refine thn (hl.run pins s σ H _ I h) fun v s1 ⟨x, H1, I1, r1, q1⟩ => ?_
  obtain ⟨a, e, ⟨⟨xs, hq⟩, q⟩ | ⟨⟨xs, hq⟩, q⟩⟩ := q1
  · subst e
    cases r1
    obtain ⟨its, rv, p, hz⟩ := I1.list hq
    refine wpAny_pyIter_list p.isList ?_
    refine ⟨s1.heap.objs.size, [s1.heap.objs.size], _, _, H1, rfl, I1.kept (t' := s1.toks) fun b o e => Heap.get?_push_of_some _ e, turn_list a _, ⟨_, Heap.get?_push_size _ rfl, rfl, rfl⟩, fun b hb => ?_, q⟩
    have e : b = s1.heap.objs.size := by simpa using hb
    subst e
    exact I1.fpOk (Nat.le_refl _) (I1.hok.fresh (Nat.le_refl _))
  · subst e
    cases r1
    obtain ⟨its, rv, p, hz⟩ := I1.tuple hq
    refine wpAny_pyIter_tuple (show s1.heap.IsTuple a its.toArray from p) ?_
    refine ⟨s1.heap.objs.size, [s1.heap.objs.size], _, _, H1, rfl, I1.kept (t' := s1.toks) fun b o e => Heap.get?_push_of_some _ e, turn_tuple a _, ⟨_, Heap.get?_push_size _ rfl, rfl, rfl⟩, fun b hb => ?_, q⟩
    have e : b = s1.heap.objs.size := by simpa using hb
    subst e
    exact I1.fpOk (Nat.le_refl _) (I1.hok.fresh (Nat.le_refl _))
/-- items of a sequence, one by one -/
theorem wk_at {S : Addr → Prop} {J : L2.It} {G : Hp → Prop} {vs : List V} {xs : List D} {lent : Bool} (w : Walk J vs.length G (YAt vs)) (r : Reps W H1 O xs vs)
    (g : ∀ O' : Addr → Prop, (∀ a, O' a → O a ∨ H1 a = none) → ∀ H', KeepL W lent S O' H1 H' → G H') : WkOk W O S H1 J xs lent :=
  ⟨vs.length, G, _, w, r.length, fun O' ho => ⟨g O' ho, fun i d H' x H'' O2 sub so hi k y => by
    obtain ⟨e, hx⟩ := y
    subst e
    obtain ⟨v, hv, q⟩ := (r.stay ho k).get hi
    rw [hx] at hv
    cases hv
    exact ⟨Ext.refl _, q.less sub⟩⟩⟩
theorem si_seq {tg e : Expr} {x : Ex} (A : SE X Z R Wx e x) : SI X Z R Wx tg e (.seq x) :=
  SI.of (pi_seq (pw e)) fun Oc H0 σd σ H Q rel p => by
    have p' : PostI (wd X Z) (OT Oc σd σ) (OwnS σd σ) H ((evalE R x σd).bind fun rx => ofOpt (rx.asS.map fun xs => (xs, rx.lent))) Q fun c d H' => Wx c d σ H' := by
      unfold evalI at p; exact p
    refine A Oc H0 σd σ H _ rel (PostI.bind p' fun rx v H1 er e1 o h => ?_)
    cases es : rx.asS with
    | none => rw [es] at h; exact h.elim
    | some xs =>
      rw [es] at h
      by_cases el : rx.asL = some xs
      · obtain ⟨a, vs, rfl, h2, r, st⟩ := o.stay rel e1 el
        exact ⟨a, rfl, .inl ⟨⟨vs, h2⟩, h _ _ (Ext.refl _) (wk_at walk_list r st)⟩⟩
      · have et : rx.asT = some xs := by
          cases rx with
          | v d => cases d <;> first | exact es | exact (el es).elim
          | _ => exact (el es).elim
        obtain ⟨a, vs, rfl, h2, r⟩ := o.ts et
        exact ⟨a, rfl, .inr ⟨⟨vs, h2⟩, h _ _ (Ext.refl _) (wk_at walk_tup r fun O' ho H' k => TsOk.stay h2 k)⟩⟩
/-! ### ranges -/
theorem rangeOk_b {a b : Int} (h : rangeOk a b = true) : -(2 ^ 62) ≤ a ∧ a < 2 ^ 62 ∧ -(2 ^ 62) ≤ b ∧ b < 2 ^ 62 := by
  unfold rangeOk at h
  simp only [Bool.and_eq_true, decide_eq_true_eq] at h
  omega
theorem rangeD_len (a b : Int) : (rangeD a b).length = (b - a).toNat := by unfold rangeD; rw [List.length_map, List.length_range]
theorem wk_rng {S : Addr → Prop} {a b : Int} : WkOk W O S H1 (Itr a (b - a).toNat) (rangeD a b) false :=
  ⟨_, _, _, walk_range, (rangeD_len a b).symm, fun O' ho => ⟨fun _ _ => trivial, fun i d H' x H'' O2 sub so hi k y => by
    obtain ⟨e, hx⟩ := y
    subst e hx
    unfold rangeD at hi
    rw [List.getElem?_map] at hi
    cases hr : (List.range (b - a).toNat)[i]? with
    | none => rw [hr] at hi; cases hi
    | some j =>
      rw [hr] at hi
      cases hi
      obtain ⟨hl, hj⟩ := List.getElem?_eq_some_iff.mp hr
      rw [List.getElem_range] at hj
      subst hj
      exact ⟨Ext.refl _, rfl⟩⟩⟩
theorem si_r1 {tg a : Expr} {x : Ex} {p pos : Pos} (C : Cn X Wx N sc fc) (hg : sc.names.lookup ("range" : Str) = some .globalImplicit) (A : SE X Z R Wx a x) (na : noStar a = true) : SI X Z R Wx tg (.Call (.Name "range" p) [a] [] pos) (.r1 x) :=
  SI.of (pi_range1 (C.gl hg) (C.no (by decide)) (pwA [a]) (star_cons na)) fun Oc H0 σd σ H Q rel p => by
    unfold evalI at p
    intro ps pins s I
    refine (pa_cons (pw a) pa_nil (star_cons na)).run ps pins s σ H _ I (A Oc H0 σd σ H _ rel (PostI.bind p fun rx v H1 er e1 o h => ?_))
    cases e2 : asInt rx with
    | none => rw [e2] at h; exact h.elim
    | some n =>
      rw [e2] at h
      dsimp only at h
      split at h
      · rename_i hc
        obtain ⟨b1, b2, b3, b4⟩ := rangeOk_b hc.2
        refine ⟨n, by rw [o.int e2], b3, b4, h _ _ (Ext.refl _) ?_⟩
        have := wk_rng (W := wd X Z) (O := OT Oc σd σ) (S := OwnS σd σ) (H1 := H1) (a := 0) (b := n)
        rw [Int.sub_zero] at this
        exact this
      · exact h.elim
theorem si_r2 {tg a b : Expr} {x y : Ex} {p pos : Pos} (C : Cn X Wx N sc fc) (hg : sc.names.lookup ("range" : Str) = some .globalImplicit) (A : SE X Z R Wx a x) (B : SE X Z R Wx b y) (na : noStar a = true) (nb : noStar b = true) : SI X Z R Wx tg (.Call (.Name "range" p) [a, b] [] pos) (.r2 x y) :=
  SI.of (pi_range2 (C.gl hg) (C.no (by decide)) (pwA [a, b]) (by rw [star_cons na, star_cons nb]; rfl) (star_cons nb)) fun Oc H0 σd σ H Q rel p => by
    unfold evalI at p
    intro ps pins s I
    refine (pa_cons (pw a) (pa_cons (pw b) pa_nil (star_cons nb)) (star_cons na)).run ps pins s σ H _ I (A Oc H0 σd σ H _ rel (PostI.bind p fun rx v H1 er e1 o h => ?_))
    refine B Oc H0 σd σ H1 _ (rel.grow e1) (PostI.bind h fun ry u H2 er2 e2 o2 h2 => ?_)
    cases q1 : asInt rx with
    | none => rw [q1] at h2; exact h2.elim
    | some m =>
      cases q2 : asInt ry with
      | none => rw [q1, q2] at h2; exact h2.elim
      | some n =>
        rw [q1, q2] at h2
        dsimp only at h2
        split at h2
        · rename_i hc
          exact ⟨m, n, by rw [o.int q1, o2.int q2], rangeOk_b hc.2, h2 _ _ (Ext.refl _) wk_rng⟩
        · exact h2.elim
/-! ### pairs -/
theorem wk_pair {S : Addr → Prop} {J : L2.It} {G : Hp → Prop} {n : Nat} {fx fy : Nat → Option V} {items : List D} {lent : Bool} (w : Walk J n G (YPair fx fy)) (hn : n = items.length)
    (g : ∀ O' : Addr → Prop, (∀ a, O' a → O a ∨ H1 a = none) → (∀ H', KeepL W lent S O' H1 H' → G H') ∧ ∀ (i : Nat) (d : D) (H' : Hp), items[i]? = some d → KeepL W lent S O' H1 H' → ∀ x y, fx i = some x → fy i = some y → ∃ d1 d2, d = .tup [d1, d2] ∧ Rep W H' O' d1 x ∧ Rep W H' O' d2 y) :
    WkOk W O S H1 J items lent :=
  ⟨n, G, _, w, hn, fun O' ho => ⟨(g O' ho).1, fun i d H' x H'' O2 sub so hi k y => by
    obtain ⟨T, a, b, rfl, ht, rfl, ha, hb⟩ := y
    obtain ⟨d1, d2, rfl, r1, r2⟩ := (g O' ho).2 i d H' hi k a b ha hb
    exact ⟨Ext.upd ht, new_tup ht so ⟨a, [b], rfl, r1.less sub, b, [], rfl, r2.less sub, rfl⟩⟩⟩⟩
theorem enumD_len : ∀ (n : Nat) (xs : List D), (enumD n xs).length = xs.length
  | _, [] => rfl
  | n, x :: xs => by unfold enumD; simp [enumD_len (n + 1) xs]
theorem enumD_at : ∀ {n : Nat} {xs : List D} {i : Nat} {d : D}, (enumD n xs)[i]? = some d → ∃ x, xs[i]? = some x ∧ d = .tup [.int (n + i : Nat), x]
  | n, [], i, d, h => by simp [enumD] at h
  | n, x :: xs, 0, d, h => by simp [enumD] at h; exact ⟨x, rfl, by rw [← h]; simp⟩
  | n, x :: xs, i + 1, d, h => by
    have h' : (enumD (n + 1) xs)[i]? = some d := by simpa [enumD] using h
    obtain ⟨y, h1, h2⟩ := enumD_at h'
    exact ⟨y, by simpa using h1, by rw [h2, show n + 1 + i = n + (i + 1) from by omega]⟩
theorem zipD_len : ∀ (xs ys : List D), (zipD xs ys).length = min xs.length ys.length
  | [], ys => by simp [zipD]
  | x :: xs, [] => by simp [zipD]
  | x :: xs, y :: ys => by simp [zipD, zipD_len xs ys]
theorem zipD_at : ∀ {xs ys : List D} {i : Nat} {d : D}, (zipD xs ys)[i]? = some d → ∃ x y, xs[i]? = some x ∧ ys[i]? = some y ∧ d = .tup [x, y]
  | [], ys, i, d, h => by simp [zipD] at h
  | x :: xs, [], i, d, h => by simp [zipD] at h
  | x :: xs, y :: ys, 0, d, h => by simp [zipD] at h; exact ⟨x, y, rfl, rfl, h.symm⟩
  | x :: xs, y :: ys, i + 1, d, h => by
    obtain ⟨a, b, h1, h2, h3⟩ := zipD_at (show (zipD xs ys)[i]? = some d by simpa [zipD] using h)
    exact ⟨a, b, by simpa using h1, by simpa using h2, h3⟩
theorem si_enum {elts : List Expr} {kk : Nat} {a : Expr} {x : Ex} {p pos tpos : Pos} (C : Cn X Wx N sc fc) (hg : sc.names.lookup ("enumerate" : Str) = some .globalImplicit) (A : SE X Z R Wx a x) (na : noStar a = true) :
    SI X Z R Wx (.Tuple elts kk tpos) (.Call (.Name "enumerate" p) [a] [] pos) (.enum x) :=
  SI.of (pi_enum (C.gl hg) (C.no (by decide)) (pwA [a]) (star_cons na)) fun Oc H0 σd σ H Q rel p => by
    unfold evalI at p
    intro ps pins s I
    refine (pa_cons (pw a) pa_nil (star_cons na)).run ps pins s σ H _ I (A Oc H0 σd σ H _ rel (PostI.bind p fun rx v H1 er e1 o h => ?_))
    cases es : rx.asL with
    | none => rw [es] at h; exact h.elim
    | some xs =>
      rw [es] at h
      obtain ⟨a, vs, rfl, h2, r, st⟩ := o.stay rel e1 es
      refine ⟨a, vs, rfl, h2, h _ _ (Ext.refl _) (wk_pair walk_enum (by rw [enumD_len]; exact r.length) fun O' ho => ⟨st O' ho, fun i d H' hi k u w hu hw => ?_⟩)⟩
      obtain ⟨y, hy, rfl⟩ := enumD_at hi
      cases hu
      obtain ⟨v', hv, q⟩ := (r.stay ho k).get hy
      rw [hw] at hv
      cases hv
      refine ⟨_, y, rfl, ?_, q⟩
      show V.int _ = V.int _
      simp
theorem walk_zipT {K : PySem.W.Frag} {a b : Addr} {xs ys : List V} {n : Nat} (hn : n = min xs.length ys.length) : Walk (RZ.ItzT K a b) n (fun H => SqT K H a xs ∧ SqT K H b ys) (YPair (fun i => xs[i]?) (fun i => ys[i]?)) := by
  subst hn
  refine ⟨fun i _ hi q => ?_, fun _ q => ⟨xs, ys, q.1, q.2, by omega⟩, fun i H v H' _ q y => ?_⟩
  · have h1 : i < xs.length := by omega
    have h2 : i < ys.length := by omega
    exact ⟨xs, ys, xs[i], ys[i], q.1, q.2, by simp [h1], by simp [h2]⟩
  · obtain ⟨T, x, z, h1, h2, h3, h4, h5⟩ := y
    exact ⟨T, x, z, h1, h2, h3, h4 xs q.1, h5 ys q.2⟩
theorem KeepL.or1 {S : Addr → Prop} {a b : Bool} (k : KeepL W (a || b) S O H1 H') : KeepL W a S O H1 H' := ⟨k.kept, k.soft1, fun h => k.ext (by rw [h]; rfl)⟩
theorem KeepL.or2 {S : Addr → Prop} {a b : Bool} (k : KeepL W (a || b) S O H1 H') : KeepL W b S O H1 H' := ⟨k.kept, k.soft1, fun h => k.ext (by rw [h, Bool.or_true])⟩
theorem si_zip {elts : List Expr} {kk : Nat} {a b : Expr} {x y : Ex} {p pos tpos : Pos} (C : Cn X Wx N sc fc) (hg : sc.names.lookup ("zip" : Str) = some .globalImplicit) (A : SE X Z R Wx a x) (B : SE X Z R Wx b y) (na : noStar a = true) (nb : noStar b = true) :
    SI X Z R Wx (.Tuple elts kk tpos) (.Call (.Name "zip" p) [a, b] [] pos) (.zip x y) :=
  SI.of (RZ.pi_zipA (C.gl hg) (C.no (by decide)) (pwA [a, b]) (star_cons na) (star_any (by simp [nb]))) fun Oc H0 σd σ H Q rel p => by
    unfold evalI at p
    intro ps pins s I
    refine (pa_cons (pw a) (pa_cons (pw b) pa_nil (star_cons nb)) (star_cons na)).run ps pins s σ H _ I (A Oc H0 σd σ H _ rel (PostI.bind p fun rx v H1 er e1 o1 h => ?_))
    refine B Oc H0 σd σ H1 _ (rel.grow e1) (PostI.bind h fun ry u H2 er2 e2 o2 h2 => ?_)
    have o1' := o1.grow e2 (rel.grow e1).own.soft
    have o2' := o2.from e1
    have e12 : Ext (wd X Z).T H H2 := Ext.trans e1 e2
    have hT : ∀ xs ys, rx.asT = some xs → ry.asT = some ys → rx.asL = none ∨ ry.asL = none → ∃ a b ws zs, [v, u] = [.ref a, .ref b] ∧ ((SqL X.K H2 a ws ∧ SqL X.K H2 b zs ∧ Q (Itz X.K a b) H2) ∨ (SqT X.K H2 a ws ∧ SqT X.K H2 b zs ∧ Q (RZ.ItzT X.K a b) H2)) := fun xs ys t1 t2 hn => by
      have h3 : PostI (wd X Z) (OT Oc σd σ) (OwnS σd σ) H2 (.ok (zipD xs ys, false)) Q (fun c d H' => Wx c d σ H') := by
        rw [t1, t2] at h2
        rcases hn with q | q
        · rw [q] at h2; exact h2
        · cases q2 : rx.asL with
          | none => rw [q2] at h2; exact h2
          | some zs => rw [q2, q] at h2; exact h2
      obtain ⟨a, vs, rfl, k1, r1⟩ := o1'.ts t1
      obtain ⟨b, us, rfl, k2, r2⟩ := o2'.ts t2
      refine ⟨a, b, vs, us, rfl, .inr ⟨k1, k2, h3 _ _ (Ext.refl _) (wk_pair (walk_zipT rfl) (by rw [zipD_len, r1.length, r2.length]) fun O' ho => ⟨fun H' k => ⟨TsOk.stay k1 k, TsOk.stay k2 k⟩, fun i d H' hi k w z hw hz => ?_⟩)⟩⟩
      obtain ⟨d1, d2, g1, g2, rfl⟩ := zipD_at hi
      obtain ⟨w', q1, q2⟩ := (r1.stay ho k).get g1
      obtain ⟨z', q3, q4⟩ := (r2.stay ho k).get g2
      rw [hw] at q1; cases q1
      rw [hz] at q3; cases q3
      exact ⟨d1, d2, rfl, q2, q4⟩
    cases t1 : rx.asL with
    | some xs =>
      cases t2 : ry.asL with
      | some ys =>
        rw [t1, t2] at h2
        obtain ⟨a, vs, rfl, k1, r1, st1⟩ := o1'.stay rel e12 t1
        obtain ⟨b, us, rfl, k2, r2, st2⟩ := o2'.stay rel e12 t2
        refine ⟨a, b, vs, us, rfl, .inl ⟨k1, k2, h2 _ _ (Ext.refl _) (wk_pair (walk_zip rfl) (by rw [zipD_len, r1.length, r2.length]) fun O' ho => ⟨fun H' k => ⟨st1 O' ho H' k.or1, st2 O' ho H' k.or2⟩, fun i d H' hi k w z hw hz => ?_⟩)⟩⟩
        obtain ⟨d1, d2, g1, g2, rfl⟩ := zipD_at hi
        obtain ⟨w', q1, q2⟩ := (r1.stay ho k).get g1
        obtain ⟨z', q3, q4⟩ := (r2.stay ho k).get g2
        rw [hw] at q1; cases q1
        rw [hz] at q3; cases q3
        exact ⟨d1, d2, rfl, q2, q4⟩
      | none =>
        cases t3 : rx.asT with
        | none => rw [t1, t2, t3] at h2; exact h2.elim
        | some xs => cases t4 : ry.asT with
          | none => rw [t1, t2, t3, t4] at h2; exact h2.elim
          | some ys => exact hT xs ys t3 t4 (.inr t2)
    | none =>
      cases t3 : rx.asT with
      | none => rw [t1, t3] at h2; exact h2.elim
      | some xs => cases t4 : ry.asT with
        | none => rw [t1, t3, t4] at h2; exact h2.elim
        | some ys => exact hT xs ys t3 t4 (.inl t1)
end Ev


set_option Elab.async false
set_option linter.all false
set_option maxRecDepth 100000
set_option maxHeartbeats 4000000
namespace Ev
open PySem PySem.Spec L2
variable {O : Addr → Prop} {σd : List Sl} {σ : L2.St} {H H1 H2 H' : Hp} {Q : VK} {Ew : XK} {Oc : Addr → Prop} {H0 : Hp}
variable {X : Cx} {Z : Zd} {R : Rt} {Wx : WX} {N : List Str} {sc : Scope} {fc : Str → Bool} {W : Wd}
/-! ### targets -/
def gIs : List Nat → TGs
  | [] => gNil
  | i :: is => gCons (gName i) (gIs is)
def gT (K : PySem.W.Frag) : List Nat → TG
  | [i] => gName i
  | is => gTup K is.length (gIs is)
/-- the same, but for these slots -/
structure Near (tg : List Nat) (σd σd' : List Sl) (σ σ' : L2.St) : Prop where
  len : σ'.length = σ.length
  lend : σd'.length = σd.length
  at_ : ∀ j, j ∉ tg → σ'[j]? = σ[j]?
  atd : ∀ j, j ∉ tg → σd'[j]? = σd[j]?
theorem Near.refl {tg : List Nat} : Near tg σd σd σ σ := ⟨rfl, rfl, fun _ _ => rfl, fun _ _ => rfl⟩
theorem Near.set {tg : List Nat} {i : Nat} {sl : Sl} {v : Option V} {σd' : List Sl} {σ' : L2.St} (n : Near tg (σd.set i sl) σd' (σ.set i v) σ') : Near (i :: tg) σd σd' σ σ' where
  len := by rw [n.len]; simp
  lend := by rw [n.lend]; simp
  at_ := fun j hj => by
    rw [List.mem_cons, not_or] at hj
    rw [n.at_ j hj.2, List.getElem?_set_ne (Ne.symm hj.1)]
  atd := fun j hj => by
    rw [List.mem_cons, not_or] at hj
    rw [n.atd j hj.2, List.getElem?_set_ne (Ne.symm hj.1)]
theorem gIs_ok : ∀ {tg : List Nat} {ds : List D} {vs : List V} {σd : List Sl} {σ : L2.St} {H : Hp} {σd' : List Sl} {Q : L2.St → Hp → Prop}, RelS W Oc H0 σd σ H → Reps W H (OT Oc σd σ) ds vs → bindL tg ds σd = some σd' →
    (∀ σ', RelS W Oc H0 σd' σ' H → Near tg σd σd' σ σ' → Q σ' H) → gIs tg vs σ H Q
  | [], [], vs, σd, σ, H, σd', Q, rel, r, b, q => by
    cases b
    exact ⟨r, q σ rel Near.refl⟩
  | [], d :: ds, vs, σd, σ, H, σd', Q, rel, r, b, q => by cases b
  | i :: is, [], vs, σd, σ, H, σd', Q, rel, r, b, q => by cases b
  | i :: is, d :: ds, vs, σd, σ, H, σd', Q, rel, ⟨v, t, e, h, r⟩, b, q => by
    refine ⟨v, t, e, ?_⟩
    have sub : ∀ a, OT Oc (σd.set i (.d d)) (σ.set i (some v)) a → OT Oc σd σ a := OT.set_sub rfl
    exact gIs_ok (tg := is) (ds := ds) (rel.put h) (r.less sub) b fun σ' rel' n => q σ' rel' n.set
theorem gT_ok {tg : List Nat} {d : D} {v : V} {σd' : List Sl} {Q : L2.St → Hp → Prop} (rel : RelS W Oc H0 σd σ H) (r : Rep W H (OT Oc σd σ) d v) (b : bindT tg d σd = some σd')
    (q : ∀ σ', RelS W Oc H0 σd' σ' H → Near tg σd σd' σ σ' → Q σ' H) : gT W.K tg v σ H Q := by
  have many : ∀ ds : List D, (∃ a vs, v = .ref a ∧ SqT W.K H a vs ∧ Reps W H (OT Oc σd σ) ds vs) → bindL tg ds σd = some σd' → gTup W.K tg.length (gIs tg) v σ H Q := fun ds ⟨a, vs, e, h, r⟩ b => by
    refine ⟨a, vs, e, h, ?_, gIs_ok rel r b q⟩
    have bl : ∀ (tg : List Nat) (ds : List D) (σd : List Sl), bindL tg ds σd = some σd' → tg.length = ds.length := by
      intro tg
      induction tg with
      | nil => intro ds σd h; cases ds with
        | nil => rfl
        | cons _ _ => cases h
      | cons i is ih => intro ds σd h; cases ds with
        | nil => cases h
        | cons d ds => simp [ih ds _ h]
    rw [r.length, bl tg ds σd b]
  have tup : ∀ h : tg.length ≠ 1, gTup W.K tg.length (gIs tg) v σ H Q := fun h => by
    cases d with
    | tup ds =>
      obtain ⟨a, vs, r1, r2, r3⟩ := r
      refine many ds ⟨a, vs, r1, .inl (.inl r2), r3⟩ ?_
      cases tg with
      | nil => exact b
      | cons i is => cases is with
        | nil => exact (h rfl).elim
        | cons j js => exact b
    | _ =>
      cases tg with
      | nil => cases b
      | cons i is => cases is with
        | nil => exact (h rfl).elim
        | cons j js => cases b
  cases tg with
  | nil => exact tup (by decide)
  | cons i is => cases is with
    | nil =>
      have b' : some (σd.set i (.d d)) = some σd' := b
      cases b'
      exact q _ (rel.put r) (Near.set Near.refl)
    | cons j js => exact tup (by simp)
theorem wipe_at (σ : L2.St) : ∀ (vs : List Nat) (j : Nat), (wipe σ vs)[j]? = if j ∈ vs then σ[j]?.map fun _ => none else σ[j]?
  | [], j => by simp [wipe]
  | v :: vs, j => by
    have ih := wipe_at σ vs j
    unfold wipe
    rw [List.getElem?_set]
    by_cases h : v = j
    · subst h
      simp only [if_true, List.mem_cons, true_or]
      have hl := wipe_length σ vs
      by_cases hv : v < σ.length
      · rw [if_pos (by rw [hl]; exact hv), List.getElem?_eq_getElem hv]; rfl
      · rw [if_neg (by rw [hl]; exact hv), List.getElem?_eq_none (by omega)]; rfl
    · rw [if_neg h, ih]
      have : (j ∈ v :: vs) ↔ j ∈ vs := by
        rw [List.mem_cons]
        exact ⟨fun z => z.resolve_left fun z => h z.symm, .inr⟩
      simp only [this]
theorem wipe_near {vs : List Nat} {σ' : L2.St} (hl : σ'.length = σ.length) (h : ∀ j, j ∉ vs → σ'[j]? = σ[j]?) : wipe σ' vs = wipe σ vs := by
  apply List.ext_getElem?
  intro j
  rw [wipe_at, wipe_at]
  by_cases hj : j ∈ vs
  · rw [if_pos hj, if_pos hj]
    by_cases hv : j < σ.length
    · rw [List.getElem?_eq_getElem hv, List.getElem?_eq_getElem (by rw [hl]; exact hv)]; rfl
    · rw [List.getElem?_eq_none (by rw [hl]; omega), List.getElem?_eq_none (by omega)]
  · rw [if_neg hj, if_neg hj]; exact h j hj
theorem wipe_none {vs : List Nat} {j : Nat} (h : j ∉ vs) : (wipe σ vs)[j]? = σ[j]? := by rw [wipe_at, if_neg h]
theorem wipeD_len : ∀ (vs : List Nat), (wipeD σd vs).length = σd.length
  | [] => rfl
  | v :: vs => by unfold wipeD; rw [List.length_set, wipeD_len vs]
theorem wipeD_none : ∀ {vs : List Nat} {j : Nat}, j ∉ vs → (wipeD σd vs)[j]? = σd[j]?
  | [], j, _ => rfl
  | v :: vs, j, h => by
    rw [List.mem_cons, not_or] at h
    unfold wipeD
    rw [List.getElem?_set_ne (Ne.symm h.1), wipeD_none h.2]
theorem RelS.wipe (rel : RelS W Oc H0 σd σ H) : ∀ vs : List Nat, RelS W Oc H0 (wipeD σd vs) (L2.wipe σ vs) H
  | [] => rel
  | v :: vs => by
    unfold wipeD L2.wipe
    exact (RelS.wipe rel vs).forget
theorem bare_at : ∀ {vs : List Nat} {j : Nat} {sl : Sl}, bareD σd vs = true → j ∈ vs → σd[j]? = some sl → sl.own = false
  | [], _, _, _, h, _ => by cases h
  | v :: vs, j, sl, b, h, e => by
    unfold bareD at b
    rw [Bool.and_eq_true] at b
    rcases List.mem_cons.mp h with h | h
    · subst h
      have b1 := b.1
      rw [e] at b1
      simpa using b1
    · exact bare_at b.2 h e
/-- what is the def's own stays so -/
theorem own_near {tg : List Nat} {σd' : List Sl} {σ' : L2.St} (hb : ∀ (j : Nat) (sl : Sl), j ∈ tg → σd[j]? = some sl → sl.own = false) (n : Near tg σd σd' σ σ') {a : Addr} (h : OT Oc σd σ a) : OT Oc σd' σ' a := by
  rcases h with h | ⟨i, sl, h1, h2, h3⟩
  · exact .inl h
  · have hi : i ∉ tg := fun z => by rw [hb i sl z h1] at h2; cases h2
    exact .inr ⟨i, sl, by rw [n.atd i hi]; exact h1, h2, by rw [n.at_ i hi]; exact h3⟩
/-- a new list that is being filled is taken as one that others own -/
theorem RelS.admit {D0 : Addr} {acc : List V} (rel : RelS W Oc H0 σd σ H1) (hn : H1 D0 = none) (e : Ext W.T H1 H) (hD : H D0 = some (.lst acc)) :
    ∃ Hg : Hp, RelS W (fun b => Oc b ∨ b = D0) Hg σd σ H := by
  have B := rel.base
  have hno : ¬ OwnS σd σ D0 := fun z => by
    rcases (rel.ownS z).2 with (⟨x, q⟩ | ⟨x, q⟩ | ⟨x, q⟩) | ⟨C, dx, fs, q⟩ <;> (rw [hn] at q; cases q)
  have sub : ∀ b, OT (fun b => Oc b ∨ b = D0) σd σ b → OT Oc σd σ b ∨ H1 b = none := fun b hb => by
    rcases hb with (h | h) | h
    · exact .inl (.inl h)
    · exact .inr (by rw [h]; exact hn)
    · exact .inl (.inr h)
  have so : Soft (OT (fun b => Oc b ∨ b = D0) σd σ) H1 := fun b hb o ho => by
    rcases sub b hb with q | q
    · exact rel.own.soft b q o ho
    · rw [q] at ho; cases ho
  refine ⟨fun a => if a = D0 then H D0 else firm σd σ H1 a, rel.len, ⟨fun b o eb t => ?_, fun b ps eb => ?_, fun _ => e.tabs rel.tabs⟩, fun a ha => ?_, fun i sl hi => ?_, rel.uniq, e.tabs rel.tabs⟩
  · by_cases hb : b = D0
    · subst hb; rw [if_pos rfl] at eb; exact eb
    · rw [if_neg hb] at eb; exact e.keep b o (B.ext.keep b o eb t) t
  · by_cases hb : b = D0
    · subst hb; rw [if_pos rfl, hD] at eb; cases eb
    · rw [if_neg hb] at eb
      obtain ⟨qs, q⟩ := B.ext.tbl b ps eb
      exact e.tbl b qs q
  · rcases ha with ha | ha
    · have hne : a ≠ D0 := fun z => by
        obtain ⟨o, q, _⟩ := rel.own.some (Or.inl ha : OT Oc σd σ a)
        rw [z, hn] at q; cases q
      have q := B.oc a ha
      unfold LD at q ⊢
      simp only [if_neg hne]; exact q
    · subst ha
      exact .inl (.inl ⟨acc, by simp only [if_true]; exact hD⟩)
  · have q := rel.slots i sl hi
    by_cases ho : sl.own = true
    · obtain ⟨a, e1, n, o⟩ := q.own ho
      have oa : OwnS σd σ a := ⟨i, sl, hi, ho, e1⟩
      have hne : a ≠ D0 := fun z => hno (z ▸ oa)
      exact .of ho ⟨a, e1, by rw [if_neg hne]; exact firm_own oa, (o.imp fun ds vs r => r.more sub).kept (Kept.of e) so (o.eq e)⟩
    · cases sl with
      | u => trivial
      | x _ _ => trivial
      | d d => obtain ⟨u, e1, r⟩ := q; exact ⟨u, e1, (r.more sub).kept (Kept.of e) so⟩
      | _ => exact (ho rfl).elim
end Ev


set_option Elab.async false
set_option linter.all false
set_option maxRecDepth 100000
set_option maxHeartbeats 4000000
namespace Ev
open PySem PySem.Spec L2
variable {O : Addr → Prop} {σd : List Sl} {σ : L2.St} {H H1 H2 H' : Hp} {Q : VK} {Ew : XK} {Oc : Addr → Prop} {H0 : Hp}
variable {X : Cx} {Z : Zd} {R : Rt} {Wx : WX} {N : List Str} {sc : Scope} {fc : Str → Bool} {W : Wd}
/-! ### comprehensions -/
def compF (R : Rt) (e : Ex) (c : Exo) (σ' : List Sl) : Res (Option D) := match c with
  | .no => (evalE R e σ').bind fun r => (ofOpt r.asV).bind fun d => .ok (some d)
  | .some t => (evalE R t σ').bind fun b => match b with
    | .v (.bl true) => (evalE R e σ').bind fun r => (ofOpt r.asV).bind fun d => .ok (some d)
    | .v (.bl false) => .ok none
    | _ => .stuck
def compG (R : Rt) (e : Ex) (tg : List Nat) (base : List Sl) (c : Exo) (d : D) : Res (Option D) := (ofOpt (bindT tg d base)).bind fun σ' => compF R e c σ'
theorem mapR_F {α β : Type} {f : α → Res β} {g : α → Res (Option β)} (h : ∀ d, g d = (f d).bind fun y => .ok (some y)) : ∀ l, mapR f l = mapF g l
  | [] => rfl
  | x :: xs => by
    unfold mapR mapF
    rw [h x, mapR_F h xs]
    cases f x with
    | ok y => rfl
    | exc c fs => rfl
    | stuck => rfl
theorem bind_assoc {α β γ : Type} (r : Res α) (f : α → Res β) (g : β → Res γ) : (r.bind f).bind g = r.bind fun x => (f x).bind g := by cases r <;> rfl
theorem mapF_ok {α β : Type} {f : α → Res (Option β)} : ∀ l, (∃ ys, mapF f l = .ok ys) ∨ mapF f l = .stuck
  | [] => .inl ⟨_, rfl⟩
  | x :: xs => by
    unfold mapF
    cases f x with
    | ok y => rcases mapF_ok xs with ⟨ys, e⟩ | e <;> rw [e]
              · exact .inl ⟨_, rfl⟩
              · exact .inr rfl
    | exc c fs => exact .inr rfl
    | stuck => exact .inr rfl
theorem mapR_ok {α β : Type} {f : α → Res β} : ∀ l, (∃ ys, mapR f l = .ok ys) ∨ mapR f l = .stuck
  | [] => .inl ⟨_, rfl⟩
  | x :: xs => by
    unfold mapR
    cases f x with
    | ok y => rcases mapR_ok xs with ⟨ys, e⟩ | e <;> rw [e]
              · exact .inl ⟨_, rfl⟩
              · exact .inr rfl
    | exc c fs => exact .inr rfl
    | stuck => exact .inr rfl
def opL {α : Type} : Option α → List α
  | some y => [y]
  | none => []
theorem mapF_cons {α β : Type} {f : α → Res (Option β)} {x : α} {xs : List α} {ys : List β} (h : mapF f (x :: xs) = .ok ys) : ∃ o zs, f x = .ok o ∧ mapF f xs = .ok zs ∧ ys = opL o ++ zs := by
  unfold mapF at h
  cases e : f x with
  | ok y =>
    rw [e] at h
    rcases mapF_ok (f := f) xs with ⟨zs, e2⟩ | e2 <;> rw [e2] at h
    · cases h
      refine ⟨y, zs, rfl, e2, ?_⟩
      cases y <;> rfl
    · cases h
  | exc c fs => rw [e] at h; cases h
  | stuck => rw [e] at h; cases h
theorem mapR_cons {α β : Type} {f : α → Res β} {x : α} {xs : List α} {ys : List β} (h : mapR f (x :: xs) = .ok ys) : ∃ o zs, f x = .ok o ∧ mapR f xs = .ok zs ∧ ys = o :: zs := by
  unfold mapR at h
  cases e : f x with
  | ok y =>
    rw [e] at h
    rcases mapR_ok (f := f) xs with ⟨zs, e2⟩ | e2 <;> rw [e2] at h
    · cases h
      exact ⟨y, zs, rfl, e2, rfl⟩
    · cases h
  | exc c fs => rw [e] at h; cases h
  | stuck => rw [e] at h; cases h
theorem comp_eq (e : Ex) (tg : List Nat) (base : List Sl) (c : Exo) (items : List D) : (match c with
    | .no => (mapR (fun d => (ofOpt (bindT tg d base)).bind fun σ' => (evalE R e σ').bind fun r => ofOpt r.asV) items).bind fun ds => .ok (.f ds)
    | .some t => (mapF (fun d => (ofOpt (bindT tg d base)).bind fun σ' => (evalE R t σ').bind fun b => match b with
      | .v (.bl true) => (evalE R e σ').bind fun r => (ofOpt r.asV).bind fun d => .ok (some d)
      | .v (.bl false) => .ok none
      | _ => .stuck) items).bind fun ds => (.ok (.f ds) : Res RV)) = (mapF (compG R e tg base c) items).bind fun ds => .ok (.f ds) := by
  cases c with
  | no =>
    dsimp only
    rw [mapR_F (g := compG R e tg base .no) fun d => by unfold compG compF; rw [bind_assoc]; congr 1; funext σ'; rw [bind_assoc]]
  | some t => rfl
/-- the readings of the block's parts: they hold whatever the block's context is -/
def TEok (W : Wd) (R : Rt) (te : TE) (x : Ex) : Prop := ∀ (Oc : Addr → Prop) (H0 : Hp) (σd : List Sl) (σ : L2.St) (H : Hp) (Q : VK), RelS W Oc H0 σd σ H →
  Post W (OT Oc σd σ) σd σ H (evalE R x σd) Q (fun _ _ _ => False) → te σ H Q
def TTok (W : Wd) (R : Rt) (tt : TT) (x : Exo) : Prop := match x with
  | .no => tt = tYes
  | .some x => ∀ (Oc : Addr → Prop) (H0 : Hp) (σd : List Sl) (σ : L2.St) (H : Hp) (Q : Bool → Hp → Prop), RelS W Oc H0 σd σ H →
      PostT W H (evalE R x σd) (OT Oc σd σ) Q (fun _ _ _ => False) → tt σ H Q
def TIok (W : Wd) (R : Rt) (wi : TI) (x : It) : Prop := ∀ (Oc : Addr → Prop) (H0 : Hp) (σd : List Sl) (σ : L2.St) (H : Hp) (Q : L2.It → Hp → Prop), RelS W Oc H0 σd σ H →
  PostI W (OT Oc σd σ) (OwnS σd σ) H (evalI R x σd) Q (fun _ _ _ => False) → wi σ H Q
theorem compF_run {te : TE} {tt : TT} {e : Ex} {c : Exo} (hE : TEok W R te e) (hT : TTok W R tt c) (rel : RelS W Oc H0 σd σ H) {o : Option D} (hf : compF R e c σd = .ok o) {K1 : V → Hp → Prop} {K0 : Hp → Prop}
    (k1 : ∀ y H4 d, o = some d → Ext W.T H H4 → Rep W H4 (OT Oc σd σ) d y → K1 y H4) (k0 : ∀ H3, o = none → Ext W.T H H3 → K0 H3) :
    tt σ H fun b H3 => if b = true then te σ H3 fun y H4 => K1 y H4 else K0 H3 := by
  have elt : ∀ H3, Ext W.T H H3 → ((evalE R e σd).bind fun r => (ofOpt r.asV).bind fun d => Res.ok (some d)) = .ok o → te σ H3 fun y H4 => K1 y H4 := fun H3 e3 he => by
    refine hE Oc H0 σd σ H3 _ (rel.grow e3) ?_
    cases q : evalE R e σd with
    | exc c fs => rw [q] at he; cases he
    | stuck => rw [q] at he; cases he
    | ok rv =>
      rw [q] at he
      intro v H4 e4 o4
      cases qa : rv.asV with
      | none => have he' : ((ofOpt rv.asV).bind fun d => Res.ok (some d)) = .ok o := he; rw [qa] at he'; cases he'
      | some d =>
        have he' : ((ofOpt rv.asV).bind fun d => Res.ok (some d)) = .ok o := he
        rw [qa] at he'
        cases he'
        exact k1 v H4 d rfl (e3.trans e4) (o4.rep (rel.grow e3) e4 qa)
  cases c with
  | no =>
    rw [show tt = tYes from hT]
    show (if true = true then (te σ H fun y H4 => K1 y H4) else K0 H)
    rw [if_pos rfl]
    exact elt H (Ext.refl H) hf
  | some t =>
    have hT' : ∀ (Oc : Addr → Prop) (H0 : Hp) (σd : List Sl) (σ : L2.St) (H : Hp) (Q : Bool → Hp → Prop), RelS W Oc H0 σd σ H → PostT W H (evalE R t σd) (OT Oc σd σ) Q (fun _ _ _ => False) → tt σ H Q := hT
    refine hT' Oc H0 σd σ H _ rel ?_
    unfold compF at hf
    dsimp only at hf
    cases q : evalE R t σd with
    | exc c fs => rw [q] at hf; cases hf
    | stuck => rw [q] at hf; cases hf
    | ok rv =>
      rw [q] at hf
      cases rv with
      | v d =>
        cases d with
        | bl b =>
          intro H3 e3
          cases b with
          | true => rw [if_pos rfl]; exact elt H3 e3 hf
          | false => rw [if_neg Bool.false_ne_true]; cases hf; exact k0 H3 rfl e3
        | _ => cases hf
      | _ => cases hf
/-- one turn -/
theorem compG_run {te : TE} {tt : TT} {e : Ex} {c : Exo} {tg vs : List Nat} {d : D} {x : V} (hE : TEok W R te e) (hT : TTok W R tt c) (hv : ∀ i ∈ tg, i ∈ vs) (bare : bareD σd vs = true) (rel : RelS W Oc H0 σd σ H) (hx : Rep W H (OT Oc σd σ) d x)
    {o : Option D} (hf : compG R e tg (wipeD σd vs) c d = .ok o) {K1 : V → Hp → Prop} {K0 : Hp → Prop}
    (k1 : ∀ y H4 d, o = some d → Ext W.T H H4 → Rep W H4 (OT Oc σd σ) d y → K1 y H4) (k0 : ∀ H3, o = none → Ext W.T H H3 → K0 H3) :
    gT W.K tg x (wipe σ vs) H fun σ2 H2 => wipe σ2 vs = wipe σ vs ∧ tt σ2 H2 fun b H3 => if b = true then te σ2 H3 fun y H4 => K1 y H4 else K0 H3 := by
  unfold compG at hf
  cases hb : bindT tg d (wipeD σd vs) with
  | none => rw [hb] at hf; cases hf
  | some σd' =>
    rw [hb] at hf
    have hf' : compF R e c σd' = .ok o := hf
    have nw : Near vs σd (wipeD σd vs) σ (wipe σ vs) := ⟨wipe_length σ vs, wipeD_len vs, fun j hj => wipe_none hj, fun j hj => wipeD_none hj⟩
    have subW : ∀ a, OT Oc (wipeD σd vs) (wipe σ vs) a → OT Oc σd σ a := fun a h => by
      rcases h with h | ⟨i, sl, h1, h2, h3⟩
      · exact .inl h
      · by_cases hi : i ∈ vs
        · rw [wipe_at, if_pos hi] at h3
          cases q : σ[i]? with
          | none => rw [q] at h3; cases h3
          | some z => rw [q] at h3; cases h3
        · exact .inr ⟨i, sl, by rw [← nw.atd i hi]; exact h1, h2, by rw [← nw.at_ i hi]; exact h3⟩
    have xw := hx.less subW
    refine gT_ok (rel.wipe vs) xw hb fun σ2 rel2 n2 => ⟨?_, ?_⟩
    · refine wipe_near (n2.len.trans (wipe_length σ vs)) fun j hj => ?_
      rw [n2.at_ j (fun z => hj (hv j z)), wipe_none hj]
    · have n3 : Near vs σd σd' σ σ2 := ⟨n2.len.trans nw.len, n2.lend.trans nw.lend, fun j hj => (n2.at_ j fun z => hj (hv j z)).trans (nw.at_ j hj), fun j hj => (n2.atd j fun z => hj (hv j z)).trans (nw.atd j hj)⟩
      have up : ∀ a, OT Oc σd σ a → OT Oc σd' σ2 a := fun a h => own_near (fun j sl hj hs => bare_at bare hj hs) n3 h
      exact compF_run hE hT rel2 hf' (fun y H4 d ho e4 r => k1 y H4 d ho e4 (r.less up)) k0
theorem own_stay (rel : RelS W Oc H0 σd σ H) (e : Ext W.T H H') {a : Addr} {o : HO} (hs : OwnS σd σ a) (ho : H a = some o) : H' a = some o := e.keep _ _ ho fun ps z => by
  subst z
  rcases (rel.ownS hs).2 with (⟨x, q⟩ | ⟨x, q⟩ | ⟨x, q⟩) | ⟨C, dx, fs, q⟩ <;> (rw [ho] at q; cases q)
theorem comp_sound {wi : TI} {te : TE} {tt : TT} {e : Ex} {c : Exo} {tg vs : List Nat} {it : It}
    (hI : ∀ (Q : L2.It → Hp → Prop), PostI W (OT Oc σd σ) (OwnS σd σ) H (evalI R it σd) Q Ew → wi σ H Q) (hE : TEok W R te e) (hT : TTok W R tt c) (hv : ∀ i ∈ tg, i ∈ vs) (rel : RelS W Oc H0 σd σ H)
    (p : Post W (OT Oc σd σ) σd σ H (evalE R (.comp e tg vs it c) σd) Q Ew) : tLc wi (gT W.K tg) tt te vs σ H Q := by
  unfold evalE at p
  refine hI _ ?_
  cases qi : evalI R it σd with
  | exc c fs => rw [qi] at p; exact p
  | stuck => rw [qi] at p; exact p.elim
  | ok it1 =>
    obtain ⟨items, lent⟩ := it1
    rw [qi] at p
    have p' : Post W (OT Oc σd σ) σd σ H (if cap < items.length || !bareD σd vs then .stuck else (mapF (compG R e tg (wipeD σd vs) c) items).bind fun ds => .ok (.f ds)) Q Ew := by
      rw [← comp_eq]; exact p
    clear p
    intro J H1 e1 wk D hD
    by_cases hc : (decide (cap < items.length) || !bareD σd vs) = true
    · rw [if_pos hc] at p'; exact p'.elim
    · rw [if_neg hc] at p'
      simp only [Bool.or_eq_true, decide_eq_true_eq, not_or, Bool.not_eq_true', Bool.not_eq_false] at hc
      obtain ⟨hcap, bare⟩ := hc
      rcases mapF_ok (f := compG R e tg (wipeD σd vs) c) items with ⟨ds, em⟩ | em
      · rw [em] at p'
        have p2 : Post W (OT Oc σd σ) σd σ H (.ok (.f ds)) Q Ew := p'
        have rel1 := rel.grow e1
        obtain ⟨n, G, Y, w, hn, wk'⟩ := wk
        have hDO : ¬ OT Oc σd σ D := fun z => by
          obtain ⟨o, q, _⟩ := rel1.own.some z
          rw [hD] at q; cases q
        obtain ⟨wg, wy⟩ := wk' (fun b => OT Oc σd σ b ∨ b = D) fun a ha => ha.elim .inl fun q => .inr (by rw [q]; exact hD)
        have so1 : Soft (fun b => OT Oc σd σ b ∨ b = D) H1 := rel1.own.soft.add hD
        have keepL : ∀ {acc : List V} {H' : Hp}, Ext W.T H1 H' → H' D = some (.lst acc) → KeepL W lent (OwnS σd σ) (fun b => OT Oc σd σ b ∨ b = D) H1 H' := fun {acc H'} e' hd => ⟨Kept.of e', so1, fun _ a o hs ho => own_stay rel1 e' hs ho⟩
        have soft2 : ∀ {acc : List V} {H' : Hp}, Ext W.T H1 H' → H' D = some (.lst acc) → Soft (fun b => OT Oc σd σ b ∨ b = D) H' := fun {acc H'} e' hd => fun b hb o ho => by
            rcases hb with hb | rfl
            · exact (rel1.grow e').own.soft b hb o ho
            · rw [hd] at ho; cases ho; exact ⟨fun _ z => (by cases z), fun _ _ z => (by cases z)⟩
        refine lc_it w (fun i H' => Ext W.T H1 H' ∧ ∃ acc done rest, H' D = some (.lst acc) ∧ Reps W H' (fun b => OT Oc σd σ b ∨ b = D) done acc ∧ mapF (compG R e tg (wipeD σd vs) c) (items.drop i) = .ok rest ∧ done ++ rest = ds ∧ done.length ≤ i)
          ⟨Ext.upd hD, [], [], ds, upd_same, rfl, em, rfl, Nat.le_refl _⟩ (fun i H' _ pv => ?_) (fun i x H' H'' hi pv y => ?_) fun H' pv => ?_
        · obtain ⟨e', acc, done, rest, h1, _⟩ := pv
          exact wg H' (keepL e' h1)
        · obtain ⟨e', acc, done, rest, h1, h2, h3, h4, h5⟩ := pv
          have hil : i < items.length := by rw [← hn]; exact hi
          have hit : items[i]? = some items[i] := List.getElem?_eq_getElem hil
          obtain ⟨e2, rx⟩ := wy i items[i] H' x H'' _ (fun a h => h) (soft2 e' h1) hit (keepL e' h1) y
          rw [List.drop_eq_getElem_cons hil] at h3
          obtain ⟨o, zs, f1, f2, f3⟩ := mapF_cons h3
          have e12 := e'.trans e2
          have h1' : H'' D = some (.lst acc) := e2.lst h1
          obtain ⟨Hg, relD⟩ := rel1.admit hD e12 h1'
          have subO : ∀ a, OT (fun b => Oc b ∨ b = D) σd σ a → (OT Oc σd σ a ∨ a = D) := fun a ha => by
            rcases ha with (h | h) | h
            · exact .inl (.inl h)
            · exact .inr h
            · exact .inl (.inr h)
          have supO : ∀ a, (OT Oc σd σ a ∨ a = D) → OT (fun b => Oc b ∨ b = D) σd σ a := fun a ha => by
            rcases ha with (h | h) | h
            · exact .inl (.inl h)
            · exact .inr h
            · exact .inl (.inr h)
          have soD : ∀ {H4 : Hp}, Ext W.T H'' H4 → Soft (fun b => OT Oc σd σ b ∨ b = D) H4 := fun {H4} e4 => soft2 (e12.trans e4) (e4.lst h1')
          refine compG_run hE hT hv bare relD (rx.less subO) f1 (fun y H4 d ho e4 r => ?_) fun H3 ho e3 => ?_
          · subst ho
            have h4' : H4 D = some (.lst acc) := e4.lst h1'
            refine ⟨acc, h4', ?_, ?_⟩
            · have q1 : cap = 1000000 := rfl
              rw [PySem.sizeLine_eq, h2.length]
              omega
            · have eU : Ext W.T H1 (upd H4 D (.lst (acc ++ [y]))) := by
                have e14 := e12.trans e4
                refine ⟨fun b o eb t => ?_, fun b ps eb => ?_, fun t => ?_⟩
                · rw [upd_ne (fun z => by rw [z, hD] at eb; cases eb)]; exact e14.keep b o eb t
                · obtain ⟨qs, q⟩ := e14.tbl b ps eb
                  exact ⟨qs, by rw [upd_ne (fun z => by rw [z, hD] at eb; cases eb)]; exact q⟩
                · have t4 := e14.tabs t
                  intro p hp
                  obtain ⟨ps, t1, t2, t3⟩ := t4 p hp
                  refine ⟨ps, by rw [upd_ne (fun z => by rw [z, h4'] at t1; cases t1)]; exact t1, t2, fun pos cv hc => ?_⟩
                  obtain ⟨cc, t5, t6⟩ := t3 pos cv hc
                  exact ⟨cc, t5, by rw [upd_ne (fun z => by rw [z, h4'] at t6; unfold LamX.CodeO at t6; cases t6)]; exact t6⟩
              have kU : Kept (fun b => OT Oc σd σ b ∨ b = D) H4 (upd H4 D (.lst (acc ++ [y]))) := fun b o eb nb _ => by
                rw [upd_ne (fun z => nb (.inr z))]; exact eb
              refine ⟨eU, acc ++ [y], done ++ [d], zs, upd_same, ?_, f2, ?_, ?_⟩
              · exact Reps.append (((h2.kept (Kept.of (e2.trans e4)) (soft2 e' h1))).kept kU (soD e4)) ⟨y, [], rfl, (r.less supO).kept kU (soD e4), rfl⟩
              · rw [List.append_assoc, ← h4, f3]; rfl
              · simp; omega
          · subst ho
            refine ⟨e12.trans e3, acc, done, zs, e3.lst h1', h2.kept (Kept.of (e2.trans e3)) (soft2 e' h1), f2, ?_, by omega⟩
            rw [← h4, f3]; rfl
        · obtain ⟨e', acc, done, rest, h1, h2, h3, h4, h5⟩ := pv
          rw [hn, List.drop_length] at h3
          cases h3
          rw [List.append_nil] at h4
          subst h4
          exact Post.ok p2 (e1.trans e') ⟨D, rfl, e1.none hD, acc, h1, h2⟩
      · rw [em] at p'; exact p'.elim
end Ev


set_option Elab.async false
set_option linter.all false
set_option maxRecDepth 100000
set_option maxHeartbeats 4000000
namespace Ev
open PySem PySem.Spec L2
variable {O : Addr → Prop} {σd : List Sl} {σ : L2.St} {H H1 H2 H' : Hp} {Q : VK} {Ew : XK} {Oc : Addr → Prop} {H0 : Hp}
variable {X : Cx} {Z : Zd} {R : Rt} {Wx : WX} {N : List Str} {sc : Scope} {fc : Str → Bool} {W : Wd}
theorem tabs_lst {T : List (Addr × Str)} {D0 : Addr} {acc acc' : List V} (t : LamX.Tabs T H) (hD : H D0 = some (.lst acc)) : LamX.Tabs T (upd H D0 (.lst acc')) := fun p hp => by
  obtain ⟨ps, t1, t2, t3⟩ := t p hp
  refine ⟨ps, by rw [upd_ne (fun z => by rw [z, hD] at t1; cases t1)]; exact t1, t2, fun pos cv hc => ?_⟩
  obtain ⟨cc, t5, t6⟩ := t3 pos cv hc
  exact ⟨cc, t5, by rw [upd_ne (fun z => by rw [z, hD] at t6; unfold LamX.CodeO at t6; cases t6)]; exact t6⟩
/-- a list that others own is changed -/
theorem RelS.lent {D0 : Addr} {acc acc' : List V} (rel : RelS W Oc H0 σd σ H) (ho : Oc D0) (hD : H D0 = some (.lst acc)) : RelS W Oc (upd H0 D0 (.lst acc')) σd σ (upd H D0 (.lst acc')) := by
  have tabs := tabs_lst (acc' := acc') rel.tabs hD
  have so := rel.own.soft
  have kp : Kept (OT Oc σd σ) H (upd H D0 (.lst acc')) := fun b o e nb _ => by rw [upd_ne (fun z => nb (.inl (by rw [z]; exact ho)))]; exact e
  have h0 : ∀ b, H0 b = none → b ≠ D0 := fun b e z => by
    obtain ⟨o, q, _⟩ := rel.oc.some ho
    rw [← z, e] at q; cases q
  refine ⟨rel.len, ⟨fun b o e t => ?_, fun b ps e => ?_, fun _ => tabs⟩, fun a ha => ?_, fun i sl hi => ?_, rel.uniq, tabs⟩
  · by_cases hb : b = D0
    · subst hb; rw [upd_same] at e ⊢; exact e
    · rw [upd_ne hb] at e ⊢; exact rel.ext.keep b o e t
  · by_cases hb : b = D0
    · subst hb; rw [upd_same] at e; cases e
    · rw [upd_ne hb] at e
      obtain ⟨qs, q⟩ := rel.ext.tbl b ps e
      exact ⟨qs, by rw [upd_ne hb]; exact q⟩
  · by_cases hb : a = D0
    · subst hb; exact .inl (.inl ⟨acc', upd_same⟩)
    · have q := rel.oc a ha
      unfold LD at q ⊢
      rw [upd_ne hb]; exact q
  · have q := rel.slots i sl hi
    by_cases hs : sl.own = true
    · obtain ⟨a, e1, n, o⟩ := q.own hs
      have hne := h0 a n
      exact .of hs ⟨a, e1, by rw [upd_ne hne]; exact n, o.kept kp so (upd_ne hne)⟩
    · cases sl with
      | u => trivial
      | x _ _ => trivial
      | d d => obtain ⟨u, e1, r⟩ := q; exact ⟨u, e1, r.kept kp so⟩
      | _ => exact (hs rfl).elim
theorem bindL_own : ∀ {tg : List Nat} {ds : List D} {σd σd' : List Sl}, bindL tg ds σd = some σd' → ∀ (j : Nat) (sl : Sl), σd'[j]? = some sl → sl.own = true → σd[j]? = some sl
  | [], [], σd, σd', h, j, sl, e, o => by cases h; exact e
  | [], _ :: _, _, _, h, _, _, _, _ => by cases h
  | _ :: _, [], _, _, h, _, _, _, _ => by cases h
  | i :: is, d :: ds, σd, σd', h, j, sl, e, o => by
    have q := bindL_own (tg := is) (ds := ds) (σd := σd.set i (.d d)) h j sl e o
    rw [List.getElem?_set] at q
    split at q
    · split at q
      · cases q; cases o
      · cases q
    · exact q
theorem bindT_own {tg : List Nat} {d : D} {σd' : List Sl} (h : bindT tg d σd = some σd') : ∀ (j : Nat) (sl : Sl), σd'[j]? = some sl → sl.own = true → σd[j]? = some sl := by
  have m : ∀ ds, bindL tg ds σd = some σd' → ∀ (j : Nat) (sl : Sl), σd'[j]? = some sl → sl.own = true → σd[j]? = some sl := fun ds h => bindL_own h
  cases tg with
  | nil => cases d with
    | tup ds => exact m ds h
    | _ => cases h
  | cons i is => cases is with
    | nil =>
      intro j sl e o
      cases (show some (σd.set i (.d d)) = some σd' from h)
      rw [List.getElem?_set] at e
      split at e
      · split at e
        · cases e; cases o
        · cases e
      · exact e
    | cons k ks => cases d with
      | tup ds => exact m ds h
      | _ => cases h
theorem wipeD_u : ∀ {vs : List Nat} {j : Nat} {sl : Sl}, j ∈ vs → (wipeD σd vs)[j]? = some sl → sl = .u
  | v :: vs, j, sl, h, e => by
    unfold wipeD at e
    rw [List.getElem?_set] at e
    split at e
    · split at e
      · cases e; rfl
      · cases e
    · rename_i hne
      rcases List.mem_cons.mp h with z | z
      · exact (hne z.symm).elim
      · exact wipeD_u z e
theorem bare_of : ∀ {tg : List Nat}, (∀ j ∈ tg, ∀ sl, σd[j]? = some sl → sl.own = false) → bareD σd tg = true
  | [], _ => rfl
  | j :: tg, h => by
    unfold bareD
    rw [Bool.and_eq_true]
    refine ⟨?_, bare_of fun k hk => h k (List.mem_cons_of_mem _ hk)⟩
    cases e : σd[j]? with
    | none => rfl
    | some sl => simp [h j List.mem_cons_self sl e]
def comp2G (R : Rt) (e : Ex) (tg tg2 : List Nat) (base : List Sl) (it2 : It) (c : Exo) (d : D) : Res (List D) := (ofOpt (bindT tg d base)).bind fun σ' =>
  (evalI R it2 σ').bind fun items2 => mapF (compG R e tg2 (wipeD σ' tg2) c) items2.1
theorem comp2_eq (e : Ex) (tg tg2 : List Nat) (base : List Sl) (it2 : It) (c : Exo) (d : D) : ((ofOpt (bindT tg d base)).bind fun σ' =>
      (evalI R it2 σ').bind fun items2 => match c with
      | .no => mapR (fun d2 => (ofOpt (bindT tg2 d2 (wipeD σ' tg2))).bind fun σ2 => (evalE R e σ2).bind fun r => ofOpt r.asV) items2.1
      | .some t => mapF (fun d2 => (ofOpt (bindT tg2 d2 (wipeD σ' tg2))).bind fun σ2 => (evalE R t σ2).bind fun b => match b with
        | .v (.bl true) => (evalE R e σ2).bind fun r => (ofOpt r.asV).bind fun d => .ok (some d)
        | .v (.bl false) => .ok none
        | _ => .stuck) items2.1) = comp2G R e tg tg2 base it2 c d := by
  unfold comp2G
  cases c with
  | no =>
    congr 1; funext σ'; congr 1; funext items2
    exact mapR_F (fun d => by unfold compG compF; rw [bind_assoc]; congr 1; funext σ'; rw [bind_assoc]) _
  | some t => rfl
theorem comp2_sound {wi wi1 : TI} {te : TE} {tt : TT} {e : Ex} {c : Exo} {tg tg2 vs : List Nat} {it it2 : It}
    (hI : ∀ (Q : L2.It → Hp → Prop), PostI W (OT Oc σd σ) (OwnS σd σ) H (evalI R it σd) Q Ew → wi σ H Q) (hI1 : TIok W R wi1 it2) (hE : TEok W R te e) (hT : TTok W R tt c) (hv : ∀ i ∈ tg, i ∈ vs) (hv2 : ∀ i ∈ tg2, i ∈ vs) (rel : RelS W Oc H0 σd σ H)
    (p : Post W (OT Oc σd σ) σd σ H (evalE R (.comp2 e tg tg2 vs it it2 c) σd) Q Ew) : tLc2 wi (gT W.K tg) tYes wi1 (gT W.K tg2) tt te vs tg2 σ H Q := by
  unfold evalE at p
  refine hI _ ?_
  cases qi : evalI R it σd with
  | exc c fs => rw [qi] at p; exact p
  | stuck => rw [qi] at p; exact p.elim
  | ok it1 =>
    obtain ⟨items, lent⟩ := it1
    rw [qi] at p
    have p' : Post W (OT Oc σd σ) σd σ H (if !bareD σd vs then .stuck else (mapR (comp2G R e tg tg2 (wipeD σd vs) it2 c) items).bind fun dss => if dss.flatten.length ≤ cap then .ok (.f dss.flatten) else .stuck) Q Ew := by
      have q : comp2G R e tg tg2 (wipeD σd vs) it2 c = _ := funext fun d => (comp2_eq e tg tg2 (wipeD σd vs) it2 c d).symm
      rw [q]; exact p
    clear p
    intro J H1 e1 wk D hD
    cases bare : bareD σd vs with
    | false => rw [bare] at p'; exact p'.elim
    | true =>
    rw [bare] at p'
    rcases mapR_ok (f := comp2G R e tg tg2 (wipeD σd vs) it2 c) items with ⟨dss, em⟩ | em
    · rw [em] at p'
      have p1 : Post W (OT Oc σd σ) σd σ H (if dss.flatten.length ≤ cap then .ok (.f dss.flatten) else .stuck) Q Ew := p'
      by_cases hcap : dss.flatten.length ≤ cap
      · rw [if_pos hcap] at p1
        have rel1 := rel.grow e1
        obtain ⟨n, G, Y, w, hn, wk'⟩ := wk
        obtain ⟨wg, wy⟩ := wk' (fun b => OT Oc σd σ b ∨ b = D) fun a ha => ha.elim .inl fun q => .inr (by rw [q]; exact hD)
        have so1 : Soft (fun b => OT Oc σd σ b ∨ b = D) H1 := rel1.own.soft.add hD
        have keepL : ∀ {lent : Bool} {acc : List V} {H' : Hp}, Ext W.T H1 H' → H' D = some (.lst acc) → KeepL W lent (OwnS σd σ) (fun b => OT Oc σd σ b ∨ b = D) H1 H' := fun {lent acc H'} e' hd => ⟨Kept.of e', so1, fun _ a o hs ho => own_stay rel1 e' hs ho⟩
        have soft2 : ∀ {acc : List V} {H' : Hp}, Ext W.T H1 H' → H' D = some (.lst acc) → Soft (fun b => OT Oc σd σ b ∨ b = D) H' := fun {acc H'} e' hd => fun b hb o ho => by
            rcases hb with hb | rfl
            · exact (rel1.grow e').own.soft b hb o ho
            · rw [hd] at ho; cases ho; exact ⟨fun _ z => (by cases z), fun _ _ z => (by cases z)⟩
        have subO : ∀ a, OT (fun b => Oc b ∨ b = D) σd σ a → (OT Oc σd σ a ∨ a = D) := fun a ha => by
          rcases ha with (h | h) | h
          · exact .inl (.inl h)
          · exact .inr h
          · exact .inl (.inr h)
        have supO : ∀ a, (OT Oc σd σ a ∨ a = D) → OT (fun b => Oc b ∨ b = D) σd σ a := fun a ha => by
          rcases ha with (h | h) | h
          · exact .inl (.inl h)
          · exact .inr h
          · exact .inl (.inr h)
        refine ⟨fun i m H' => m = n - i ∧ i ≤ n ∧ Ext W.T H1 H' ∧ ∃ acc done rest, H' D = some (.lst acc) ∧ Reps W H' (fun b => OT Oc σd σ b ∨ b = D) done acc ∧ mapR (comp2G R e tg tg2 (wipeD σd vs) it2 c) (items.drop i) = .ok rest ∧ done ++ rest.flatten = dss.flatten,
          ⟨n, by simp, Nat.zero_le _, Ext.upd hD, [], [], dss, upd_same, rfl, em, rfl⟩, ?_⟩
        rintro i m H' ⟨rfl, hi, e', acc, done, rest, h1, h2, h3, h4⟩
        have hg := wg H' (keepL e' h1)
        by_cases hlt : i < n
        · refine .inr ⟨w.goes i H' hlt hg, fun H' => i < n ∧ Ext W.T H1 H' ∧ ∃ acc done rest, H' D = some (.lst acc) ∧ Reps W H' (fun b => OT Oc σd σ b ∨ b = D) done acc ∧ mapR (comp2G R e tg tg2 (wipeD σd vs) it2 c) (items.drop (i + 1)) = .ok rest ∧ done ++ rest.flatten = dss.flatten,
            fun H' q => ⟨n - (i + 1), by omega, rfl, hlt, q.2⟩, fun x H'' y => ?_⟩
          have hil : i < items.length := by rw [← hn]; exact hlt
          have hit : items[i]? = some items[i] := List.getElem?_eq_getElem hil
          obtain ⟨e2, rx⟩ := wy i items[i] H' x H'' _ (fun a h => h) (soft2 e' h1) hit (keepL e' h1) (w.yields i H' x H'' hlt hg y)
          rw [List.drop_eq_getElem_cons hil] at h3
          obtain ⟨o, zs, f1, f2, f3⟩ := mapR_cons h3
          have e12 := e'.trans e2
          have h1' : H'' D = some (.lst acc) := e2.lst h1
          obtain ⟨Hg, relD⟩ := rel1.admit hD e12 h1'
          have h2' : Reps W H'' (fun b => OT Oc σd σ b ∨ b = D) done acc := h2.kept (Kept.of e2) (soft2 e' h1)
          unfold comp2G at f1
          cases hb : bindT tg items[i] (wipeD σd vs) with
          | none => rw [hb] at f1; cases f1
          | some σd' =>
          rw [hb] at f1
          have f1' : ((evalI R it2 σd').bind fun items2 => mapF (compG R e tg2 (wipeD σd' tg2) c) items2.1) = .ok o := f1
          have nw : Near vs σd (wipeD σd vs) σ (wipe σ vs) := ⟨wipe_length σ vs, wipeD_len vs, fun j hj => wipe_none hj, fun j hj => wipeD_none hj⟩
          have subW : ∀ a, OT (fun b => Oc b ∨ b = D) (wipeD σd vs) (wipe σ vs) a → OT (fun b => Oc b ∨ b = D) σd σ a := fun a h => by
            rcases h with h | ⟨i, sl, h1, h2, h3⟩
            · exact .inl h
            · by_cases hi : i ∈ vs
              · rw [wipe_at, if_pos hi] at h3
                cases q : σ[i]? with
                | none => rw [q] at h3; cases h3
                | some z => rw [q] at h3; cases h3
              · exact .inr ⟨i, sl, by rw [← nw.atd i hi]; exact h1, h2, by rw [← nw.at_ i hi]; exact h3⟩
          refine gT_ok (relD.wipe vs) ((rx.less subO).less subW) hb fun σ2 rel2 n2 => ⟨?_, ?_⟩
          · refine wipe_near (n2.len.trans (wipe_length σ vs)) fun j hj => ?_
            rw [n2.at_ j (fun z => hj (hv j z)), wipe_none hj]
          · simp only [tYes, if_true]
            refine hI1 _ _ _ _ _ _ rel2 ?_
            cases q1 : evalI R it2 σd' with
            | exc c fs => rw [q1] at f1'; cases f1'
            | stuck => rw [q1] at f1'; cases f1'
            | ok p2 =>
            obtain ⟨items2, lent2⟩ := p2
            rw [q1] at f1'
            have f1'' : mapF (compG R e tg2 (wipeD σd' tg2) c) items2 = .ok o := f1'
            intro J1 H4 e4 wk1
            obtain ⟨n1, G1, Y1, w1, hn1, wk1'⟩ := wk1
            have rel4 := rel2.grow e4
            have hD4 : H4 D = some (.lst acc) := e4.lst h1'
            have own4 : ∀ a, OwnS σd' σ2 a → a ≠ D := fun a ha z => by
              obtain ⟨o', q, _⟩ := rel2.oc.some (Or.inr rfl : (fun b => Oc b ∨ b = D) D)
              have q' := (rel2.ownS ha).1
              rw [z, q] at q'; cases q'
            have bare2 : bareD σd' tg2 = true := bare_of fun j hj sl hs => by
              cases ho : sl.own with
              | false => rfl
              | true =>
                have q := bindT_own hb j sl hs ho
                have := wipeD_u (hv2 j hj) q
                subst this; cases ho
            obtain ⟨wg1, wy1⟩ := wk1' (OT (fun b => Oc b ∨ b = D) σd' σ2) fun a ha => .inl ha
            have nb : Near vs σd σd' σ σ2 := ⟨n2.len.trans nw.len, n2.lend.trans nw.lend, fun j hj => (n2.at_ j fun z => hj (hv j z)).trans (nw.at_ j hj), fun j hj => (n2.atd j fun z => hj (hv j z)).trans (nw.atd j hj)⟩
            have up2 : ∀ a, (OT Oc σd σ a ∨ a = D) → OT (fun b => Oc b ∨ b = D) σd' σ2 a := fun a h => own_near (fun j sl hj hs => bare_at bare hj hs) nb (supO a h)
            refine ⟨fun j k H' => k = n1 - j ∧ j ≤ n1 ∧ Ext W.T H1 H' ∧ (∃ Hg, RelS W (fun b => Oc b ∨ b = D) Hg σd' σ2 H') ∧ KeepL W lent2 (OwnS σd' σ2) (OT (fun b => Oc b ∨ b = D) σd' σ2) H4 H' ∧
              ∃ acc done rest, H' D = some (.lst acc) ∧ Reps W H' (fun b => OT Oc σd σ b ∨ b = D) done acc ∧ mapF (compG R e tg2 (wipeD σd' tg2) c) (items2.drop j) = .ok rest ∧ done ++ (rest ++ zs.flatten) = dss.flatten,
              ⟨n1, by simp, Nat.zero_le _, e12.trans e4, ⟨Hg, rel4⟩, ⟨fun _ _ h _ _ => h, rel4.own.soft, fun _ _ _ _ h => h⟩, acc, done, o, hD4, h2'.kept (Kept.of e4) (soft2 e12 h1'), f1'', by rw [← h4, f3]; simp⟩, ?_⟩
            rintro j k H5 ⟨rfl, hj, e15, ⟨Hg5, rel5⟩, kl5, acc5, done5, rest5, d1, d2, d3, d4⟩
            have hg5 := wg1 H5 kl5
            by_cases hlt1 : j < n1
            · refine .inr ⟨w1.goes j H5 hlt1 hg5, fun H' => j < n1 ∧ Ext W.T H1 H' ∧ (∃ Hg, RelS W (fun b => Oc b ∨ b = D) Hg σd' σ2 H') ∧ KeepL W lent2 (OwnS σd' σ2) (OT (fun b => Oc b ∨ b = D) σd' σ2) H4 H' ∧
                ∃ acc done rest, H' D = some (.lst acc) ∧ Reps W H' (fun b => OT Oc σd σ b ∨ b = D) done acc ∧ mapF (compG R e tg2 (wipeD σd' tg2) c) (items2.drop (j + 1)) = .ok rest ∧ done ++ (rest ++ zs.flatten) = dss.flatten,
                fun H' q => ⟨n1 - (j + 1), by omega, rfl, hlt1, q.2⟩, fun x2 H6 y2 => ?_⟩
              have hil2 : j < items2.length := by rw [← hn1]; exact hlt1
              have hit2 : items2[j]? = some items2[j] := List.getElem?_eq_getElem hil2
              obtain ⟨e6, rx2⟩ := wy1 j items2[j] H5 x2 H6 _ (fun a h => h) rel5.own.soft hit2 kl5 (w1.yields j H5 x2 H6 hlt1 hg5 y2)
              rw [List.drop_eq_getElem_cons hil2] at d3
              obtain ⟨o2, zs2, g1, g2, g3⟩ := mapF_cons d3
              have hD6 : H6 D = some (.lst acc5) := e6.lst d1
              have so5 := (soft2 e15 d1)
              have e16 := e15.trans e6
              have soD : ∀ {H7 : Hp}, Ext W.T H6 H7 → Soft (fun b => OT Oc σd σ b ∨ b = D) H7 := fun {H7} e7 => soft2 (e16.trans e7) (e7.lst hD6)
              have kl : ∀ {H7 : Hp} {acc' : List V}, Ext W.T H5 H7 → H7 D = some (.lst acc5) → KeepL W lent2 (OwnS σd' σ2) (OT (fun b => Oc b ∨ b = D) σd' σ2) H4 (upd H7 D (.lst acc')) := fun {H7 acc'} e7 h7 => by
                have rl := (rel5.grow e7).lent (acc' := acc') (.inr rfl) h7
                refine ⟨fun b o' hb nb t => ?_, kl5.soft1, fun hl a o' hs ho => ?_⟩
                · rw [upd_ne (fun z => nb (.inl (.inr z)))]
                  exact e7.keep _ _ (kl5.kept b o' hb nb t) t
                · rw [upd_ne (own4 a hs)]
                  exact own_stay rel5 e7 hs (kl5.ext hl a o' hs ho)
              refine compG_run hE hT (fun i h => h) bare2 (rel5.grow e6) rx2 g1 (fun y H7 d ho e7 r => ?_) fun H7 ho e7 => ?_
              · subst ho
                have h7 : H7 D = some (.lst acc5) := e7.lst hD6
                refine ⟨acc5, h7, ?_, ?_⟩
                · have q1 : cap = 1000000 := rfl
                  have q2 := congrArg List.length d4
                  rw [g3] at q2
                  simp only [opL, List.length_append, List.length_cons, List.length_nil] at q2
                  rw [PySem.sizeLine_eq, d2.length]
                  omega
                · have e17 := e16.trans e7
                  have eU : Ext W.T H1 (upd H7 D (.lst (acc5 ++ [y]))) := by
                    refine ⟨fun b o eb t => ?_, fun b ps eb => ?_, fun t => tabs_lst (e17.tabs t) h7⟩
                    · rw [upd_ne (fun z => by rw [z, hD] at eb; cases eb)]; exact e17.keep b o eb t
                    · obtain ⟨qs, q⟩ := e17.tbl b ps eb
                      exact ⟨qs, by rw [upd_ne (fun z => by rw [z, hD] at eb; cases eb)]; exact q⟩
                  have kU : Kept (fun b => OT Oc σd σ b ∨ b = D) H7 (upd H7 D (.lst (acc5 ++ [y]))) := fun b o eb nb _ => by
                    rw [upd_ne (fun z => nb (.inr z))]; exact eb
                  refine ⟨hlt1, eU, ⟨_, (rel5.grow (e6.trans e7)).lent (.inr rfl) h7⟩, kl (e6.trans e7) h7, acc5 ++ [y], done5 ++ [d], zs2, upd_same, ?_, g2, ?_⟩
                  · exact Reps.append ((d2.kept (Kept.of (e6.trans e7)) so5).kept kU (soD e7)) ⟨y, [], rfl, (r.less up2).kept kU (soD e7), rfl⟩
                  · rw [← d4, g3]; simp [opL]
              · subst ho
                have h7 : H7 D = some (.lst acc5) := e7.lst hD6
                have e57 := e6.trans e7
                have same : upd H7 D (.lst acc5) = H7 := by
                  funext b
                  by_cases hb : b = D
                  · subst hb; rw [upd_same]; exact h7.symm
                  · rw [upd_ne hb]
                have kl7 := kl (acc' := acc5) e57 h7
                rw [same] at kl7
                refine ⟨hlt1, e15.trans e57, ⟨Hg5, rel5.grow e57⟩, kl7, acc5, done5, zs2, h7, d2.kept (Kept.of e57) so5, g2, ?_⟩
                rw [← d4, g3]; rfl
            · have ej : j = n1 := by omega
              subst ej
              rw [hn1, List.drop_length] at d3
              cases d3
              exact .inl ⟨w1.stops H5 hg5, hlt, e15, acc5, done5, zs, d1, d2, f2, d4⟩
        · have ei : i = n := by omega
          subst ei
          rw [hn, List.drop_length] at h3
          cases h3
          rw [List.flatten_nil, List.append_nil] at h4
          subst h4
          exact .inl ⟨w.stops H' hg, Post.ok (rv := .f dss.flatten) p1 (e1.trans e') ⟨D, rfl, e1.none hD, acc, h1, h2⟩⟩
      · rw [if_neg hcap] at p1; exact p1.elim
    · rw [em] at p'; exact p'.elim
end Ev


set_option Elab.async false
set_option linter.all false
set_option maxRecDepth 100000
set_option maxHeartbeats 4000000
namespace Ev
open PySem PySem.Spec L2
variable {O : Addr → Prop} {σd : List Sl} {σ : L2.St} {H H1 H2 H' : Hp} {Q : VK} {Ew : XK} {Oc : Addr → Prop} {H0 : Hp}
variable {X : Cx} {Z : Zd} {R : Rt} {Wx : WX} {N : List Str} {sc : Scope} {fc : Str → Bool} {W : Wd}
/-! ### comprehensions as expressions -/
def noW : WX := fun _ _ _ _ => False
def blkT (X : Cx) (scope : Scope) (f : Cx → Prop) : Prop := ∀ (s : Shared) (H : Hp) (C : Addr) (cl : List (Str × Addr)) (fp : List Addr), f (X.blk s H scope (compEnvC scope cl C X.env) fp)
def teB (X : Cx) (scope : Scope) (e : Expr) : TE := fun σ H Q => blkT X scope fun Y => wE Y e σ H Q
def ttB (X : Cx) (scope : Scope) (e : Expr) : TT := fun σ H Q => blkT X scope fun Y => wT Y e σ H Q
def tiB (X : Cx) (scope : Scope) (tg e : Expr) : TI := fun σ H Q => blkT X scope fun Y => wI Y tg e σ H Q
theorem teB_ok {scope : Scope} {e : Expr} {x : Ex} (h : blkT X scope fun Y => SE Y Z R noW e x) : TEok (wd X Z) R (teB X scope e) x := fun Oc H0 σd σ H Q rel p s H1 C cl fp => h s H1 C cl fp Oc H0 σd σ H Q rel p
theorem ttB_ok {scope : Scope} {e : Expr} {x : Ex} (h : blkT X scope fun Y => ST Y Z R noW e x) : TTok (wd X Z) R (ttB X scope e) (.some x) := fun Oc H0 σd σ H Q rel p s H1 C cl fp => h s H1 C cl fp Oc H0 σd σ H Q rel p
theorem tiB_ok {scope : Scope} {tg e : Expr} {x : It} (h : blkT X scope fun Y => SI Y Z R noW tg e x) : TIok (wd X Z) R (tiB X scope tg e) x := fun Oc H0 σd σ H Q rel p s H1 C cl fp => h s H1 C cl fp Oc H0 σd σ H Q rel p
def noSet : Expr → Bool
  | .Set _ _ _ => false
  | _ => true
theorem fold_ok {e : Expr} {env : Env} (h : noSet e = true) (x : Value) : foldedSetIterable e env x = pure x := by
  cases e <;> first | rfl | cases h
/-- the tests of a clause -/
inductive IfsOk (X : Cx) (Z : Zd) (R : Rt) (scope : Scope) : List Expr → Exo → Prop where
  | no : IfsOk X Z R scope [] .no
  | one {t : Expr} {x : Ex} (h : blkT X scope fun Y => ST Y Z R noW t x) : IfsOk X Z R scope [t] (.some x)
theorem IfsOk.run {scope : Scope} {ifs : List Expr} {c : Exo} (h : IfsOk X Z R scope ifs c) : ∃ tt, TTok (wd X Z) R tt c ∧ blkT X scope fun Y => PTs Y ifs tt := by
  cases h with
  | no => exact ⟨tYes, rfl, fun _ _ _ _ _ => pts_nil⟩
  | one h => exact ⟨_, ttB_ok h, fun s H C cl fp => pts_one ⟨fun pins s' σ H' Q I q => q s H C cl fp pins s' I⟩⟩
structure LcOk (X : Cx) (Z : Zd) (R : Rt) (Wx : WX) (elt tg iter : Expr) (ifs : List Expr) (scope : Scope) (own : List (Str × Nat)) (e : Ex) (tgn : List Nat) (it : It) (c : Exo) : Prop where
  hi : SI X Z R Wx tg iter it
  ok : BlkOk X.N X.env.scope scope own
  hg : blkT X scope fun Y => PG Y tg (gT X.K tgn)
  ht : IfsOk X Z R scope ifs c
  he : blkT X scope fun Y => SE Y Z R noW elt e
  sub : ∀ i ∈ tgn, i ∈ own.map (·.2)
  hs : noSet iter = true
theorem se_lc {elt tg iter : Expr} {ifs : List Expr} {scope : Scope} {own : List (Str × Nat)} {e : Ex} {tgn : List Nat} {it : It} {c : Exo} {pos : Pos} (C : Cn X Wx N sc fc) (L : LcOk X Z R Wx elt tg iter ifs scope own e tgn it c) :
    SE X Z R Wx (.ListComp elt [⟨tg, iter, ifs, 0⟩] scope pos) (.comp e tgn (own.map (·.2)) it c) := by
  obtain ⟨tt, h1, h2⟩ := L.ht.run
  refine SE.of (pe_lc C.calm C.nd (pwI tg iter) L.ok L.hg h2 (te := teB X scope elt) (fun s H C cl fp => ⟨fun pins s' σ H' Q I q => q s H C cl fp pins s' I⟩) (fold_ok L.hs)) fun Oc H0 σd σ H Q rel p => ?_
  exact comp_sound (W := wd X Z) (fun Q q => L.hi Oc H0 σd σ H Q rel q) (teB_ok L.he) h1 L.sub rel p
structure Lc2Ok (X : Cx) (Z : Zd) (R : Rt) (Wx : WX) (elt tg iter tg1 iter1 : Expr) (ifs1 : List Expr) (scope : Scope) (own : List (Str × Nat)) (e : Ex) (tgn tgn1 : List Nat) (it it1 : It) (c : Exo) : Prop where
  hi : SI X Z R Wx tg iter it
  ok : BlkOk X.N X.env.scope scope own
  hg : blkT X scope fun Y => PG Y tg (gT X.K tgn)
  hi1 : blkT X scope fun Y => SI Y Z R noW tg1 iter1 it1
  hg1 : blkT X scope fun Y => PG Y tg1 (gT X.K tgn1)
  ht : IfsOk X Z R scope ifs1 c
  he : blkT X scope fun Y => SE Y Z R noW elt e
  sub : ∀ i ∈ tgn, i ∈ own.map (·.2)
  sub1 : ∀ i ∈ tgn1, i ∈ own.map (·.2)
  hs : noSet iter = true
  hs1 : noSet iter1 = true
theorem se_lc2 {elt tg iter tg1 iter1 : Expr} {ifs1 : List Expr} {scope : Scope} {own : List (Str × Nat)} {e : Ex} {tgn tgn1 : List Nat} {it it1 : It} {c : Exo} {pos : Pos} (C : Cn X Wx N sc fc) (L : Lc2Ok X Z R Wx elt tg iter tg1 iter1 ifs1 scope own e tgn tgn1 it it1 c) :
    SE X Z R Wx (.ListComp elt [⟨tg, iter, [], 0⟩, ⟨tg1, iter1, ifs1, 0⟩] scope pos) (.comp2 e tgn tgn1 (own.map (·.2)) it it1 c) := by
  obtain ⟨tt, h1, h2⟩ := L.ht.run
  refine SE.of (pe_lc2 C.calm C.nd (pwI tg iter) L.ok L.sub1 L.hg (fun _ _ _ _ _ => pts_nil) (wi1 := tiB X scope tg1 iter1) (fun s H C cl fp => ⟨fun pins s' σ H' Q I q => q s H C cl fp pins s' I⟩) L.hg1 h2 (te := teB X scope elt)
    (fun s H C cl fp => ⟨fun pins s' σ H' Q I q => q s H C cl fp pins s' I⟩) (fold_ok L.hs) fun env x => fold_ok L.hs1 x) fun Oc H0 σd σ H Q rel p => ?_
  exact comp2_sound (W := wd X Z) (fun Q q => L.hi Oc H0 σd σ H Q rel q) (tiB_ok L.hi1) (teB_ok L.he) h1 L.sub L.sub1 rel p
/-! ### list(range(..)), tuple(range(..)) -/
theorem rgV_reps {a b : Int} : Reps W H O (rangeD a b) (rgV a b) := by
  have e1 : rangeD a b = ((List.range (b - a).toNat).map fun (i : Nat) => a + (i : Nat)).map D.int := by unfold rangeD; rw [List.map_map]; rfl
  have e2 : rgV a b = ((List.range (b - a).toNat).map fun (i : Nat) => a + (i : Nat)).map V.int := by unfold rgV; rw [List.map_map]; rfl
  rw [e1, e2]
  exact Reps.ints _
theorem rgOk_of {a b : Int} (h : rangeOk a b = true) (hc : b - a ≤ cap) : RgOk a b := by
  obtain ⟨h1, h2, h3, h4⟩ := rangeOk_b h
  have : cap = 1000000 := rfl
  exact ⟨h1, h2, h3, h4, by omega⟩
theorem se_rng {tup : Bool} {e : Expr} {it : It} {te : L2.St → Hp → (Int → Int → Hp → Prop) → Prop} {p pos : Pos} (C : Cn X Wx N sc fc) (hg : sc.names.lookup (if tup then "tuple" else "list" : Str) = some .globalImplicit) (ne : noStar e = true) (he : PRg X e te)
    (h : ∀ (Oc : Addr → Prop) (H0 : Hp) (σd : List Sl) (σ : L2.St) (H : Hp) (Q : VK), RelS (wd X Z) Oc H0 σd σ H → Post (wd X Z) (OT Oc σd σ) σd σ H (evalE R (.rng tup it) σd) Q (fun c d H' => Wx c d σ H') →
      te σ H fun a b H1 => Ext Z.T H H1 ∧ RgOk a b ∧ Post (wd X Z) (OT Oc σd σ) σd σ H1 (.ok (if tup then .v (.tup (rangeD a b)) else .f (rangeD a b))) Q (fun c d H' => Wx c d σ H'))
    (mono : ∀ σ H (P P' : Int → Int → Hp → Prop), (∀ a b H, P a b H → P' a b H) → te σ H P → te σ H P') :
    SE X Z R Wx (.Call (.Name (if tup then "tuple" else "list" : Str) p) [e] [] pos) (.rng tup it) := by
  cases tup with
  | true =>
    refine SE.of (pe_tupRg C.calm (C.gl hg) (C.no (by decide)) he (star_cons ne)) fun Oc H0 σd σ H Q rel p => ?_
    refine mono σ H _ _ (fun a b H1 q => ?_) (h Oc H0 σd σ H Q rel p)
    exact ⟨q.2.1, fun r hr => Post.ok (rv := .v (.tup (rangeD a b))) q.2.2 (Ext.upd hr) (new_tup hr (rel.grow q.1).own.soft rgV_reps)⟩
  | false =>
    refine SE.of (pe_listRg C.calm (C.gl hg) (C.no (by decide)) he (star_cons ne)) fun Oc H0 σd σ H Q rel p => ?_
    refine mono σ H _ _ (fun a b H1 q => ?_) (h Oc H0 σd σ H Q rel p)
    exact ⟨q.2.1, fun r hr => Post.ok (rv := .f (rangeD a b)) q.2.2 (Ext.upd hr) (new_lst hr (rel.grow q.1).own.soft rgV_reps)⟩
theorem wE_mono {e : Expr} {σ : L2.St} {P P' : VK} (h : ∀ v H, P v H → P' v H) (q : wE X e σ H P) : wE X e σ H P' := fun pins s I =>
  thn (q pins s I) fun u s' ⟨v, H', I', r, z⟩ => ⟨v, H', I', r, h v H' z⟩
theorem se_rng1 {tup : Bool} {a : Expr} {x : Ex} {p p2 q pos : Pos} (C : Cn X Wx N sc fc) (hg : sc.names.lookup (if tup then "tuple" else "list" : Str) = some .globalImplicit) (hg2 : sc.names.lookup ("range" : Str) = some .globalImplicit) (A : SE X Z R Wx a x) (na : noStar a = true) :
    SE X Z R Wx (.Call (.Name (if tup then "tuple" else "list" : Str) p) [.Call (.Name "range" p2) [a] [] q] [] pos) (.rng tup (.r1 x)) := by
  refine se_rng C hg rfl (prg_1 (C.gl hg2) (C.no (by decide)) (pw a) (star_cons na)) (fun Oc H0 σd σ H Q rel p => ?_) (fun σ H P P' h q => wE_mono (fun v H ⟨n, e, z⟩ => ⟨n, e, h _ _ _ z⟩) q)
  unfold evalE at p
  refine SE.one A rel p fun rx v H1 e o h => ?_
  cases ei : asInt rx with
  | none => rw [ei] at h; exact h.elim
  | some n =>
    rw [ei] at h
    dsimp only at h
    split at h
    · rename_i hc
      exact ⟨n, o.int ei, e, rgOk_of hc.2 (by omega), h⟩
    · exact h.elim
theorem se_rng2 {tup : Bool} {a b : Expr} {x y : Ex} {p p2 q pos : Pos} (C : Cn X Wx N sc fc) (hg : sc.names.lookup (if tup then "tuple" else "list" : Str) = some .globalImplicit) (hg2 : sc.names.lookup ("range" : Str) = some .globalImplicit) (A : SE X Z R Wx a x) (B : SE X Z R Wx b y) (na : noStar a = true) (nb : noStar b = true) :
    SE X Z R Wx (.Call (.Name (if tup then "tuple" else "list" : Str) p) [.Call (.Name "range" p2) [a, b] [] q] [] pos) (.rng tup (.r2 x y)) := by
  refine se_rng C hg rfl (prg_2 (C.gl hg2) (C.no (by decide)) (pw a) (pw b) (star_cons na) (star_cons nb) (star_any (by simp [nb]))) (fun Oc H0 σd σ H Q rel p => ?_)
    (fun σ H P P' h q => wE_mono (fun v H q => wE_mono (fun u H ⟨i, j, e, e2, z⟩ => ⟨i, j, e, e2, h _ _ _ z⟩) q) q)
  unfold evalE at p
  refine SE.two A B rel p fun rx ry v u H2 e o1 o2 h => ?_
  cases e1 : asInt rx with
  | none => rw [e1] at h; exact h.elim
  | some m =>
    cases e2 : asInt ry with
    | none => rw [e1, e2] at h; exact h.elim
    | some n =>
      rw [e1, e2] at h
      dsimp only at h
      split at h
      · rename_i hc
        exact ⟨m, n, o1.int e1, o2.int e2, e, rgOk_of hc.2 hc.1, h⟩
      · exact h.elim
end Ev


set_option Elab.async false
set_option linter.all false
set_option maxRecDepth 100000
set_option maxHeartbeats 4000000
namespace Ev
open PySem PySem.Spec L2
variable {O : Addr → Prop} {σd : List Sl} {σ : L2.St} {H H1 H2 H' : Hp} {Q : VK} {Ew : XK} {Oc : Addr → Prop} {H0 : Hp}
variable {X : Cx} {Z : Zd} {R : Rt} {Wx : WX} {N : List Str} {sc : Scope} {fc : Str → Bool} {W : Wd}
/-! ### isinstance -/
def tyS : Ty → String
  | .int => "int" | .bool => "bool" | .str => "str" | .tup => "tuple" | .lst => "list" | .cls _ => ""
def tyN : Ty → Str
  | .int => "int" | .bool => "bool" | .str => "str" | .tup => "tuple" | .lst => "list" | .cls _ => ""
def tyB : Ty → Bool
  | .cls _ => false
  | _ => true
theorem bt_ty {t : Ty} (h : tyB t = true) : bootBuiltins (tyN t) = some (.type (tyS t)) := by
  cases t <;> first | decide +kernel | cases h
/-- the type of what is read -/
def vTy : RV → String
  | .v .non => "NoneType" | .v (.bl _) => "bool" | .v (.int _) => "int" | .v (.str _) => "str" | .v (.tup _) => "tuple" | .v (.tpn _) => "tuple"
  | _ => "list"
theorem isiB_kit {rv : RV} {t : Ty} {b : Bool} (h : isi rv t = some b) : kitB (vTy rv) (tyS t) = some b := by
  unfold isi at h
  cases t <;> first
    | cases h
    | (unfold isiB at h
       cases rv with
       | v d => cases d <;> first | (cases h; done) | (cases h; dsimp only [vTy, tyS]; decide +kernel)
       | f xs => cases h; dsimp only [vTy, tyS]; decide +kernel
       | b i xs => cases h; dsimp only [vTy, tyS]; decide +kernel
       | _ => cases h)
theorem isi_ty {rv : RV} {v : V} {t : Ty} {b : Bool} (rel : RelS (wd X Z) Oc H0 σd σ H) (e : Ext Z.T H H1) (o : RVOk (wd X Z) (OT Oc σd σ) σd σ H H1 rv v) (h : isi rv t = some b) : TyX X.K H1 v (.type (vTy rv)) := by
  have hb : isiB rv t = some b := by unfold isi at h; cases t <;> first | exact h | cases h
  cases rv with
  | v d =>
    cases d with
    | non => rw [show v = V.non from o]; exact .base .non
    | bl c => rw [show v = V.bl c from o]; exact .base (.bl c)
    | int c => rw [show v = V.int c from o]; exact .base (.int c)
    | str c => rw [show v = V.str c from o]; exact .base (.str c)
    | tup xs => obtain ⟨a, vs, rfl, h2, _⟩ := o; exact .base (.tup h2)
    | tpn xs =>
      obtain ⟨a, vs, rfl, h2, _⟩ := o
      rcases h2 with ⟨ob, h2, _⟩ | ⟨ob, its, n, h2, h3, _⟩
      · exact .fTuple h2
      · exact .kTuple h2 h3
    | lst xs => obtain ⟨a, vs, rfl, h2, _⟩ := o; exact .base (.lst h2)
    | _ => cases hb
  | f xs => obtain ⟨a, vs, rfl, h2, _⟩ := o.lst rel e rfl; exact .base (.lst h2)
  | b i xs => obtain ⟨a, vs, rfl, h2, _⟩ := o.lst rel e rfl; exact .base (.lst h2)
  | _ => cases hb
theorem bmg {t : Ty} (C : Cn X Wx N sc fc) (hm : ∀ x ∈ (["bool", "str"] : List Str), X.mg x = none) (h : tyB t = true) : X.mg (tyN t) = none := by
  cases t with
  | int => exact C.no (by decide)
  | bool => exact hm _ (by decide)
  | str => exact hm _ (by decide)
  | tup => exact C.no (by decide)
  | lst => exact C.no (by decide)
  | cls _ => cases h
theorem pe_ty {t : Ty} {pos : Pos} (C : Cn X Wx N sc fc) (hm : X.mg (tyN t) = none) (hg : sc.names.lookup (tyN t) = some .globalImplicit) (hb : tyB t = true) : PE X (.Name (tyN t) pos) (tC (.ty (tyS t))) := by
  have g := C.gl hg
  have b := bt_ty hb
  cases t with
  | cls _ => cases hb
  | _ => exact pe_bltn g hm b rfl (by decide) (by decide)
theorem se_isi1 {t : Ty} {a : Expr} {x : Ex} {p p2 pos : Pos} (C : Cn X Wx N sc fc) (hm : X.mg (tyN t) = none) (hg : sc.names.lookup ("isinstance" : Str) = some .globalImplicit) (hg2 : sc.names.lookup (tyN t) = some .globalImplicit) (hb : tyB t = true) (A : SE X Z R Wx a x) (na : noStar a = true) :
    SE X Z R Wx (.Call (.Name "isinstance" p) [a, .Name (tyN t) p2] [] pos) (.isi x [t]) :=
  SE.of (pe_callB (id := "isinstance") call_isi (C.gl hg) (C.no (by decide)) boot_isi (pa_cons (pw a) (pa_cons (pe_ty C hm hg2 hb) pa_nil rfl) (star_cons na)) (by decide) (by decide) (star_cons na) rfl) fun Oc H0 σd σ H Q rel p => by
    unfold evalE at p
    exact SE.one A rel p fun rx v H1 e o h => by
      unfold isis at h
      cases q : isi rx t with
      | none => rw [q] at h; exact h.elim
      | some b =>
        rw [q] at h
        have h' : Post (wd X Z) (OT Oc σd σ) σd σ H1 (.ok (.v (.bl (b || false)))) Q (fun c d H' => Wx c d σ H') := h
        rw [Bool.or_false] at h'
        exact ⟨v, .ty (tyS t), .type (vTy rx), .type (tyS t), b, rfl, .ty _, isi_ty rel e o q, kit_ty (isiB_kit q), Post.here (d := .bl b) h' rfl⟩
/-! ### dicts -/
theorem kvD {ns : List Int} : (ns.map Sum.inl).map kV = ns.map V.int := by rw [List.map_map]; rfl
theorem keyT_at {rv : RV} {v : V} {ns : List Int} (o : RVOk W O σd σ H H1 rv v) (k : keyT rv = some ns) : ∃ b, v = .ref b ∧ H1 b = some (.tup ((ns.map Sum.inl).map kV)) := by
  cases rv with
  | v d => cases d with
    | tup xs =>
      obtain ⟨a, vs, rfl, h2, r⟩ := o
      have e := intsOf_eq (show intsOf xs = some ns from k)
      subst e
      rw [Reps.ints_eq r] at h2
      exact ⟨a, rfl, by rw [kvD]; exact h2⟩
    | _ => cases k
  | _ => cases k
theorem keyK_at {rv : RV} {v : V} {k : Key} (o : RVOk W O σd σ H H1 rv v) (h : keyK rv = some k) : v = kV k := by
  cases rv with
  | v d => cases d with
    | int i => cases h; exact o
    | str s => cases h; exact o
    | _ => cases h
  | _ => cases h
theorem inl_inj : ∀ {a b : List Int}, (a.map Sum.inl : List Key) = b.map Sum.inl → a = b
  | [], [], _ => rfl
  | [], _ :: _, h => by cases h
  | _ :: _, [], h => by cases h
  | x :: a, y :: b, h => by
    simp only [List.map_cons, List.cons.injEq, Sum.inl.injEq] at h
    rw [h.1, inl_inj h.2]
theorem lookT_val : ∀ {kvs : List (List Int × D)} {ws : List (List Key × V)} {ns : List Int}, ws.map (·.1) = kvs.map (fun p => p.1.map Sum.inl) → Reps W H O (kvs.map (·.2)) (ws.map (·.2)) →
    match lookT ns kvs with | none => valV ws (ns.map Sum.inl) = none | some d => ∃ v, valV ws (ns.map Sum.inl) = some v ∧ Rep W H O d v
  | [], ws, ns, h, r => by
    have : ws = [] := by cases ws with | nil => rfl | cons _ _ => cases h
    subst this; rfl
  | (k, d) :: kvs, [], ns, h, r => by cases h
  | (k, d) :: kvs, (q, w) :: ws, ns, h, r => by
    simp only [List.map_cons, List.cons.injEq] at h
    obtain ⟨v, t, e, h1, h2⟩ := r
    simp only [List.map_cons, List.cons.injEq] at e
    unfold lookT
    by_cases hk : k = ns
    · rw [if_pos hk]
      refine ⟨w, valV_pos (by rw [h.1, hk]), ?_⟩
      rw [e.1]; exact h1
    · rw [if_neg hk]
      have ne : q ≠ ns.map Sum.inl := fun z => hk (inl_inj (by rw [← h.1, z]))
      have ih := lookT_val (ns := ns) h.2 (e.2 ▸ h2)
      have ev : valV ((q, w) :: ws) (ns.map Sum.inl) = valV ws (ns.map Sum.inl) := by simp [valV, List.find?_cons, ne]
      rw [ev]; exact ih
theorem lookK_val : ∀ {kvs : List (Key × D)} {ws : List (Key × V)} {k : Key}, ws.map (·.1) = kvs.map (·.1) → Reps W H O (kvs.map (·.2)) (ws.map (·.2)) →
    match lookK k kvs with | none => valV ws k = none | some d => ∃ v, valV ws k = some v ∧ Rep W H O d v
  | [], ws, ns, h, r => by
    have : ws = [] := by cases ws with | nil => rfl | cons _ _ => cases h
    subst this; rfl
  | (k, d) :: kvs, [], ns, h, r => by cases h
  | (k, d) :: kvs, (q, w) :: ws, ns, h, r => by
    simp only [List.map_cons, List.cons.injEq] at h
    obtain ⟨v, t, e, h1, h2⟩ := r
    simp only [List.map_cons, List.cons.injEq] at e
    unfold lookK
    by_cases hk : k = ns
    · rw [if_pos hk]
      refine ⟨w, valV_pos (by rw [h.1, hk]), ?_⟩
      rw [e.1]; exact h1
    · rw [if_neg hk]
      have ne : q ≠ ns := fun z => hk (by rw [← h.1, z])
      have ih := lookK_val (k := ns) h.2 (e.2 ▸ h2)
      have ev : valV ((q, w) :: ws) ns = valV ws ns := by simp [valV, List.find?_cons, ne]
      rw [ev]; exact ih
theorem se_dnewT {pos : Pos} : SE X Z R Wx (.Dict [] [] pos) .dnewT := SE.of pe_dnewT fun Oc H0 σd σ H Q rel p => by
  unfold evalE at p
  exact fun a ha => Post.ok (rv := .t []) p (Ext.upd ha) ⟨a, rfl, ha, [], upd_same, rfl, rfl⟩
theorem se_dnewK {pos : Pos} : SE X Z R Wx (.Dict [] [] pos) .dnewK := SE.of pe_dnewK fun Oc H0 σd σ H Q rel p => by
  unfold evalE at p
  exact fun a ha => Post.ok (rv := .k []) p (Ext.upd ha) ⟨a, rfl, ha, [], upd_same, rfl, rfl⟩
/-- what is told of a dict's key -/
theorem dict_at {rv : RV} {v : V} {i : Nat} {g : Option D → Res RV} (rel : RelS (wd X Z) Oc H0 σd σ H) (e : Ext Z.T H H1) (o : RVOk (wd X Z) (OT Oc σd σ) σd σ H H1 rv v)
    (h : Post (wd X Z) (OT Oc σd σ) σd σ H1 (match σd[i]? with
    | some (.t kvs) => match keyT rv with
      | some ns => g (lookT ns kvs)
      | none => .stuck
    | some (.k kvs) => match keyK rv with
      | some ns => g (lookK ns kvs)
      | none => .stuck
    | _ => .stuck) Q Ew) : ∃ (u : V) (a : Addr) (r : Option V) (d : Option D), σ[i]? = some (some u) ∧ u = .ref a ∧ DGet H1 a v r ∧ (match d with | none => r = none | some d => ∃ v, r = some v ∧ Rep (wd X Z) H1 (OT Oc σd σ) d v) ∧ Post (wd X Z) (OT Oc σd σ) σd σ H1 (g d) Q Ew := by
  cases q : σd[i]? with
  | none => rw [q] at h; exact h.elim
  | some sl =>
    rw [q] at h
    cases sl with
    | t kvs =>
      dsimp only at h
      cases k : keyT rv with
      | none => rw [k] at h; exact h.elim
      | some ns =>
        rw [k] at h
        obtain ⟨a, e1, n, ws, h1, h2, h3⟩ := (rel.grow e).slots i _ q
        obtain ⟨b, e2, h4⟩ := keyT_at o k
        subst e2
        exact ⟨_, a, _, lookT ns kvs, e1, rfl, DGet.t h1 h4, lookT_val h2 h3, h⟩
    | k kvs =>
      dsimp only at h
      cases k : keyK rv with
      | none => rw [k] at h; exact h.elim
      | some ns =>
        rw [k] at h
        obtain ⟨a, e1, n, ws, h1, h2, h3⟩ := (rel.grow e).slots i _ q
        have e2 := keyK_at o k
        subst e2
        exact ⟨_, a, _, lookK ns kvs, e1, rfl, DGet.k h1, lookK_val h2 h3, h⟩
    | _ => exact h.elim
theorem din_run {a : Expr} {x : Ex} {i : Nat} {neg : Bool} (A : SE X Z R Wx a x) (rel : RelS (wd X Z) Oc H0 σd σ H) (p : Post (wd X Z) (OT Oc σd σ) σd σ H (evalE R (.din i neg x) σd) Q fun c d H' => Wx c d σ H') :
    wE X a σ H fun y H1 => ∃ u, σ[i]? = some (some u) ∧ ∃ a o, u = .ref a ∧ DGet H1 a y o ∧ Q (.bl (xor neg o.isSome)) H1 := by
  unfold evalE at p
  exact SE.one A rel p fun rx v H1 e o h => by
    obtain ⟨u, a, r, d, h1, h2, h3, h4, h5⟩ := dict_at (g := fun d => .ok (.v (.bl (xor neg d.isSome)))) rel e o h
    refine ⟨u, h1, a, r, h2, h3, Post.here (d := .bl (xor neg d.isSome)) h5 ?_⟩
    cases d with
    | none => rw [show r = none from h4]; rfl
    | some d => obtain ⟨v, q, _⟩ := h4; rw [q]; rfl
theorem se_din {a : Expr} {x : Ex} {i : Nat} {y : Str} {p pos : Pos} (C : Cn X Wx N sc fc) (hN : X.N[i]? = some y) (hv : Vis X.env.scope y) (hd : (y == ("__debug__" : Str)) = false) (hcd : (y == ("__classdict__" : Str)) = false) (A : SE X Z R Wx a x) :
    SE X Z R Wx (.Compare a [.In] [.Name y p] pos) (.din i false x) :=
  SE.of (pe_cmp (pc_din (by have := C.hu; omega) (pw a) (pe_var hN hv hd hcd)) rfl) fun Oc H0 σd σ H Q rel p => wE_mono (fun y H1 ⟨u, h1, a, o, h2, h3, h4⟩ => ⟨u, h1, a, o, h2, h3, by rw [Bool.false_xor] at h4; exact h4⟩) (din_run A rel p)
theorem se_dni {a : Expr} {x : Ex} {i : Nat} {y : Str} {p pos : Pos} (C : Cn X Wx N sc fc) (hN : X.N[i]? = some y) (hv : Vis X.env.scope y) (hd : (y == ("__debug__" : Str)) = false) (hcd : (y == ("__classdict__" : Str)) = false) (A : SE X Z R Wx a x) :
    SE X Z R Wx (.Compare a [.NotIn] [.Name y p] pos) (.din i true x) :=
  SE.of (pe_cmp (pc_dnotin (by have := C.hu; omega) (pw a) (pe_var hN hv hd hcd)) rfl) fun Oc H0 σd σ H Q rel p => wE_mono (fun y H1 ⟨u, h1, a, o, h2, h3, h4⟩ => ⟨u, h1, a, o, h2, h3, by rw [Bool.true_xor] at h4; exact h4⟩) (din_run A rel p)
theorem se_dget {a : Expr} {x : Ex} {i : Nat} {y : Str} {p pos : Pos} (C : Cn X Wx N sc fc) (hN : X.N[i]? = some y) (hv : Vis X.env.scope y) (hd : (y == ("__debug__" : Str)) = false) (hcd : (y == ("__classdict__" : Str)) = false) (A : SE X Z R Wx a x) (ns : NoSl a) :
    SE X Z R Wx (.Subscript (.Name y p) a pos) (.dget i x) := SE.of (pe_dget (by have := C.hu; omega) (pe_var hN hv hd hcd) (pw a) ns) fun Oc H0 σd σ H Q rel p => by
  unfold evalE at p
  cases q : σd[i]? with
  | none => rw [q] at p; exact p.elim
  | some sl =>
    rw [q] at p
    have fin : ∀ {u : V} {g : RV → Res RV}, σ[i]? = some (some u) → Post (wd X Z) (OT Oc σd σ) σd σ H ((evalE R x σd).bind g) Q (fun c d H' => Wx c d σ H') →
        (∀ rx v H1, Ext Z.T H H1 → RVOk (wd X Z) (OT Oc σd σ) σd σ H H1 rx v → Post (wd X Z) (OT Oc σd σ) σd σ H1 (g rx) Q (fun c d H' => Wx c d σ H') → ∃ a w, u = .ref a ∧ DGet H1 a v (some w) ∧ Q w H1) → tDGet (tVar i) (wE X a) σ H Q := fun {u g} h1 p k =>
      ⟨u, h1, SE.one A rel p fun rx v H1 e o h => k rx v H1 e o h⟩
    cases sl with
    | t kvs =>
      obtain ⟨a, e1, n, _⟩ := rel.slots i _ q
      refine fin e1 p fun rx v H1 e o h => ?_
      obtain ⟨a', e1', n, ws, h1, h2, h3⟩ := (rel.grow e).slots i _ q
      rw [e1] at e1'; cases e1'
      cases k : keyT rx with
      | none => rw [k] at h; exact h.elim
      | some ns =>
        rw [k] at h
        dsimp only at h
        obtain ⟨b, e2, h4⟩ := keyT_at o k
        subst e2
        have L := lookT_val (ns := ns) h2 h3
        cases l : lookT ns kvs with
        | none => rw [l] at h; exact h.elim
        | some d =>
          rw [l] at h L
          obtain ⟨w, l1, l2⟩ := L
          exact ⟨a, w, rfl, by rw [← l1]; exact DGet.t h1 h4, Post.here (d := d) h l2⟩
    | k kvs =>
      obtain ⟨a, e1, n, _⟩ := rel.slots i _ q
      refine fin e1 p fun rx v H1 e o h => ?_
      obtain ⟨a', e1', n, ws, h1, h2, h3⟩ := (rel.grow e).slots i _ q
      rw [e1] at e1'; cases e1'
      cases k : keyK rx with
      | none => rw [k] at h; exact h.elim
      | some ns =>
        rw [k] at h
        dsimp only at h
        have e2 := keyK_at o k
        subst e2
        have L := lookK_val (k := ns) h2 h3
        cases l : lookK ns kvs with
        | none => rw [l] at h; exact h.elim
        | some d =>
          rw [l] at h L
          obtain ⟨w, l1, l2⟩ := L
          exact ⟨a, w, rfl, by rw [← l1]; exact DGet.k h1, Post.here (d := d) h l2⟩
    | _ => exact p.elim
/-! ### {k: v}, k a tuple -/
def tDispT (tk tv : TE) : TE := fun σ H Q => ∀ d, H d = none → tk σ (upd H d (.dT [])) fun x H1 => tv σ H1 fun v H2 => ∃ b k, x = .ref b ∧ H2 b = some (.tup (k.map kV)) ∧ H2 d = some (.dT []) ∧ Q (.ref d) (upd H2 d (.dT [(k, v)]))
theorem pe_dispT {k v : Expr} {tk tv : TE} {pos : Pos} (hu : X.A.units + 1 < cLine) (hk : PE X k tk) (hv : PE X v tv) : PE X (.Dict [some k] [v] pos) (tDispT tk tv) := by
  refine ⟨fun pins s σ H Q I h => ?_⟩
  have hf : H s.heap.objs.size = none := I.hok.fresh (Nat.le_refl _)
  have I1 : Inv X pins σ (upd H s.heap.objs.size (.dT [])) { s with heap := s.heap.push { cls := .type "dict", data := .dict #[] } } := I.laid (t' := s.toks) (fun b o e => Heap.get?_push_of_some _ e) (Nat.le_refl _) (dt_empty s.heap I.big)
  rw [arm_eval_Dict]
  have hshape : (evalEachOpt [some k] X.env).zip ((evalEach [v] X.env).map fun v => do let x ← v; standAt pos; pure x) = [((eval k X.env), (do let x ← eval v X.env; standAt pos; pure x : Sem Value))].map (fun p => (some p.1, p.2)) := rfl
  rw [hshape, dictDisplay_pairs _ (by simp) (by simp)]
  refine wpAny_bind (wpAny_standAt (wpAny_bind (wpAny_subDictH (knd := tupleKind (mixKind X.prog X.w)) (show X.A.units < cLine by omega) (by simp) (evalPairs_cons ?_))))
  refine thn (hk.run pins _ σ _ _ I1 (h _ hf)) fun kv s1 ⟨x, H1, I2, rx, q⟩ => ?_
  refine wpAny_bind (thn (hv.run pins s1 σ H1 _ I2 q) fun vv s2 ⟨y, H2, I3, ry, b, ks, ex, hb, hd, q2⟩ => ?_)
  refine wpAny_bind (wpAny_standAt (wpAny_pure (evalPairs_nil ?_)))
  subst ex
  cases (show kv = Value.ref b from rx)
  obtain ⟨z, hs, xs, rel, o, es, ep, g1, g2, g3, g4, g5⟩ := (show ObjOk X.prog X.w H2 s2.heap s.heap.objs.size (.dT []) from I3.hok _ _ hd)
  cases rel
  refine ⟨[(ks, b, vv)], ⟨rfl, rfl, key_of I3.hok hb, trivial⟩, ⟨o, es, ep, g1, g2, g3, g4, (fun x hx => by cases hx), g5⟩, fun h' tk hd' hs' => wpAny_pure ?_⟩
  obtain ⟨q, es', ep', hq, h2, h3, h4, _, h5⟩ := hd'
  refine ⟨.ref s.heap.objs.size, upd H2 s.heap.objs.size (.dT [(ks, y)]), ?_, rfl, q2⟩
  refine d_write I3 (by rw [hd]; exact True.intro) hs' ⟨q, hq⟩ ⟨by show 1 ≤ sizeLine; decide, hs, [(ks, b, vv)], .cons ⟨rfl, ?_, ry⟩ .nil, q, es', ep', hq, h2, h3, h4, h5⟩
  rw [upd_ne (ne_of hb hd (fun z => nomatch z))]
  exact hb
theorem se_dispT {k v : Expr} {x y : Ex} {pos : Pos} (C : Cn X Wx N sc fc) (A : SE X Z R Wx k x) (B : SE X Z R Wx v y) : SE X Z R Wx (.Dict [some k] [v] pos) (.dispT x y) :=
  SE.of (pe_dispT (by have := C.hu; omega) (pw k) (pw v)) fun Oc H0 σd σ H Q rel p => by
    unfold evalE at p
    intro d hd
    have e0 : Ext Z.T H (upd H d (.dT [])) := Ext.upd hd
    refine A Oc H0 σd σ _ _ (rel.grow e0) (Post.bind (Post.later p e0) fun rx u H1 er e1 o1 h1 => ?_)
    refine B Oc H0 σd σ H1 _ ((rel.grow e0).grow e1) (Post.bind h1 fun ry w H2 er2 e2 o2 h2 => ?_)
    rw [er] at p
    have p' : Post (wd X Z) (OT Oc σd σ) σd σ H ((evalE R y σd).bind fun y => dispD (keyT rx) y) Q (fun c d H' => Wx c d σ H') := p
    rw [er2] at p'
    have p2 : Post (wd X Z) (OT Oc σd σ) σd σ H (dispD (keyT rx) ry) Q (fun c d H' => Wx c d σ H') := p'
    unfold dispD at p2
    cases q : keyT rx with
    | none => rw [q] at p2; cases ry <;> exact p2.elim
    | some ns =>
      rw [q] at p2
      cases ry with
      | v dd =>
        dsimp only at p2
        by_cases hs : scalar dd = true
        · rw [if_pos hs] at p2
          have e12 : Ext Z.T (upd H d (.dT [])) H2 := Ext.trans e1 e2
          obtain ⟨b, e3, h4⟩ := keyT_at (o1.grow e2 ((rel.grow e0).grow e1).own.soft) q
          have hd2 : H2 d = some (.dT []) := e12.keep _ _ upd_same fun ps z => by cases z
          refine ⟨b, _, e3, h4, hd2, ?_⟩
          have sc : ∀ {H3 : Hp} {O' : Addr → Prop}, Rep (wd X Z) H3 O' dd w := fun {H3 O'} => by
            cases dd <;> first | exact o2 | cases hs
          have eU : Ext Z.T H (upd H2 d (.dT [(ns.map Sum.inl, w)])) := by
            have e02 := Ext.trans e0 e12
            refine ⟨fun b o eb t => ?_, fun b ps eb => ?_, fun t => ?_⟩
            · rw [upd_ne (fun z => by rw [z, hd] at eb; cases eb)]; exact e02.keep b o eb t
            · obtain ⟨qs, q⟩ := e02.tbl b ps eb
              exact ⟨qs, by rw [upd_ne (fun z => by rw [z, hd] at eb; cases eb)]; exact q⟩
            · have t4 := e02.tabs t
              intro p hp
              obtain ⟨ps, t1, t2, t3⟩ := t4 p hp
              refine ⟨ps, by rw [upd_ne (fun z => by rw [z, hd2] at t1; cases t1)]; exact t1, t2, fun pos cv hc => ?_⟩
              obtain ⟨cc, t5, t6⟩ := t3 pos cv hc
              exact ⟨cc, t5, by rw [upd_ne (fun z => by rw [z, hd2] at t6; unfold LamX.CodeO at t6; cases t6)]; exact t6⟩
          exact Post.ok p2 eU ⟨d, rfl, hd, [(ns.map Sum.inl, w)], upd_same, rfl, w, [], rfl, sc, rfl⟩
        · rw [if_neg hs] at p2; exact p2.elim
      | _ => exact p2.elim
end Ev


set_option Elab.async false
set_option linter.all false
set_option maxRecDepth 100000
set_option maxHeartbeats 4000000
namespace Ev
open PySem PySem.Spec L2
variable {O : Addr → Prop} {σd : List Sl} {σ : L2.St} {H H1 H2 H' : Hp} {Q : VK} {Ew : XK} {Oc : Addr → Prop} {H0 : Hp}
variable {X : Cx} {Z : Zd} {R : Rt} {Wx : WX} {N : List Str} {sc : Scope} {fc : Str → Bool} {W : Wd}
/-! ### what a def promises -/
def SpD (W : Wd) (np : Nat) (f : List D → Res RV) : Sp := fun vs H Q E => ∃ (ds : List D) (Oc : Addr → Prop), ds.length = np ∧ Own Oc H ∧ LamX.Tabs W.T H ∧ Reps W H Oc ds vs ∧ Post W Oc [] [] H (f ds) Q E
theorem SpD.len {np : Nat} {f : List D → Res RV} {vs : List V} {E : XK} (h : SpD W np f vs H Q E) : vs.length = np := by
  obtain ⟨ds, Oc, h1, _, _, r, _⟩ := h
  rw [r.length, h1]
def FunOk (X : Cx) (Z : Zd) (f : Addr) (np : Nat) (F : List D → Res RV) : Prop := ∃ (k : Nat) (fd : FuncData) (ps : List Str), FnOk X.prog X.w X.K X.mg X.base (L2.CX X.prog X.w) k f fd ps (SpD (wd X Z) np F) ∧ Room k X.A ∧ Binds X.K fd ps [] ∧ PySem.W.keepIn X.K (.ref f) = true
/-- a def runs, at these slots -/
def cRun (X : Cx) (f : Addr) (σ : L2.St) (vs : List V) (H : Hp) (Q : VK) : Prop := ∀ (pins : List (Addr × Obj)) (s : Shared) (us : List Value), Inv X pins σ H s → Vals vs us → wpAny (model X.prog X.w) X.A (call (.ref f) us) (EP X pins σ Q) X.xe s
theorem cRun_ok {f : Addr} {np : Nat} {F : List D → Res RV} {vs : List V} (h : FunOk X Z f np F) (tk : Takes X Wx) (q : SpD (wd X Z) np F vs H Q fun c d H' => Wx c d σ H') : cRun X f σ vs H Q := fun pins s us I r => by
  obtain ⟨k, fd, ps, F', hr, hb, _⟩ := h
  refine run_fnSD (E := WE Wx) (dvs := []) (ds := []) F' hr hb .nil (passAt tk σ) I r ?_
  rw [List.append_nil]
  exact q
/-! ### lent lists -/
def LentA (rs : List RV) (σ : L2.St) (a : Addr) : Prop := ∃ i xs, RV.b i xs ∈ rs ∧ σ[i]? = some (some (V.ref a))
theorem lent_LD {rs : List RV} (rel : RelS W Oc H0 σd σ H) : ∀ {rs' : List RV} {vs : List V}, (∀ r ∈ rs', r ∈ rs) → RVsOk W (OT Oc σd σ) σd σ H H1 rs' vs → ∀ a i xs, RV.b i xs ∈ rs' → σ[i]? = some (some (V.ref a)) → LD H a
  | [], vs, _, _, a, i, xs, h, _ => by cases h
  | r :: rs', vs, hs, ⟨v, t, e, h, k⟩, a, i, xs, hm, ha => by
    rcases List.mem_cons.mp hm with z | z
    · subst z
      obtain ⟨h1, h2⟩ := h
      obtain ⟨p, e1, n, ws, h3, _⟩ := rel.slots i _ h1
      rw [ha] at e1
      cases e1
      exact .inl ⟨ws, h3⟩
    · exact lent_LD rel (fun r hr => hs r (List.mem_cons_of_mem _ hr)) k a i xs z ha
/-- the arguments, with the lent lists as values -/
theorem RVsOk.lend {rs : List RV} (rel : RelS W Oc H0 σd σ H) (e : Ext W.T H H1) : ∀ {rs' : List RV} {vs : List V} {ds : List D}, (∀ r ∈ rs', r ∈ rs) → RVsOk W (OT Oc σd σ) σd σ H H1 rs' vs → allD rs' = some ds →
    Reps W H1 (fun a => OT Oc σd σ a ∧ ¬ LentA rs σ a) ds vs
  | [], vs, ds, _, h, q => by cases q; exact h
  | r :: rs', vs, ds, hs, ⟨v, t, e1, h, k⟩, q => by
    unfold allD at q
    cases q1 : r.asD with
    | none => rw [q1] at q; cases q
    | some d =>
      cases q2 : allD rs' with
      | none => rw [q1, q2] at q; cases q
      | some es =>
        rw [q1, q2] at q
        cases q
        rw [e1]
        refine ⟨v, t, rfl, ?_, RVsOk.lend rel e (fun r hr => hs r (List.mem_cons_of_mem _ hr)) k q2⟩
        cases r with
        | b i xs =>
          cases q1
          obtain ⟨p, vs, h1, h2, r2⟩ := h.lst rel e rfl
          subst h1
          exact ⟨p, vs, rfl, h2, fun z => z.2 ⟨i, xs, hs _ List.mem_cons_self, h.2⟩, r2.less fun b hb => hb.1⟩
        | v d' => cases q1; exact Rep.less (fun b hb => hb.1) _ _ h
        | f xs =>
          cases q1
          exact Rep.less (fun b hb => hb.1) _ _ (RVOk.rep (rv := .f xs) rel e h rfl)
        | _ => cases q1
theorem RVOk.less0 {O' : Addr → Prop} {rv : RV} {v : V} (h : RVOk W O' [] [] H H' rv v) (le : ∀ a, O a → O' a) : RVOk W O σd σ H H' rv v := by
  have new : ∀ {sl : Sl}, NewOk W O' H H' sl v → NewOk W O H H' sl v := fun {sl} ⟨a, q1, q2, q3⟩ => ⟨a, q1, q2, q3.imp fun ds vs r => r.less fun b hb => hb.elim (fun z => .inl (le b z)) .inr⟩
  cases rv with
  | v d => exact Rep.less le _ _ h
  | f xs => exact new h
  | t xs => exact new h
  | k xs => exact new h
  | b i xs => exact absurd h.1 (by simp)
  | o i c fs => exact absurd h.1 (by simp)
theorem RVOk.flat0 {O' : Addr → Prop} {rv : RV} {v : V} (h : RVOk W O' [] [] H H' rv v) (f : rv.flat = true) (up : ∀ a, O a → O' a ∨ LD H' a) : RVOk W O σd σ H H' rv v := by
  cases rv with
  | v d => exact Rep.flat up d v f h
  | f xs =>
    obtain ⟨a, q1, q2, vs, q3, q4⟩ := h
    refine ⟨a, q1, q2, vs, q3, Reps.flat (fun b hb => ?_) xs vs f q4⟩
    rcases hb with hb | hb
    · exact (up b hb).imp .inl id
    · exact .inl (.inr hb)
  | _ => cases f
theorem guard_post {rs : List RV} {vs : List V} {r : Res RV} (rel : RelS W Oc H0 σd σ H) (e : Ext W.T H H1) (o : RVsOk W (OT Oc σd σ) σd σ H H1 rs vs)
    (h : Post W (OT Oc σd σ) σd σ H1 (guardC (rs.any RV.lent) r) Q Ew) : Post W (fun a => OT Oc σd σ a ∧ ¬ LentA rs σ a) [] [] H1 r Q Ew := by
  have noL : rs.any RV.lent = false → ∀ a, ¬ LentA rs σ a := fun hn a ⟨i, xs, hm, _⟩ => by
    have := List.any_eq_false.mp hn _ hm
    exact this rfl
  have ld : ∀ a, LentA rs σ a → LD H1 a := fun a ⟨i, xs, hm, ha⟩ => by
    have q := lent_LD (rs := rs) rel (fun r hr => hr) o a i xs hm ha
    rcases q with ⟨x, q⟩ | ⟨x, q⟩ | ⟨x, q⟩
    · exact .inl ⟨x, e.lst q⟩
    · exact .inr (.inl ⟨x, e.keep _ _ q fun ps z => by cases z⟩)
    · exact .inr (.inr ⟨x, e.keep _ _ q fun ps z => by cases z⟩)
  have up : ∀ {H' : Hp}, Ext W.T H1 H' → ∀ a, OT Oc σd σ a → (OT Oc σd σ a ∧ ¬ LentA rs σ a) ∨ LD H' a := fun {H'} e' a ha => by
    by_cases hl : LentA rs σ a
    · rcases ld a hl with ⟨x, q⟩ | ⟨x, q⟩ | ⟨x, q⟩
      · exact .inr (.inl ⟨x, e'.lst q⟩)
      · exact .inr (.inr (.inl ⟨x, e'.keep _ _ q fun ps z => by cases z⟩))
      · exact .inr (.inr (.inr ⟨x, e'.keep _ _ q fun ps z => by cases z⟩))
    · exact .inl ⟨ha, hl⟩
  have eqO : rs.any RV.lent = false → ∀ a, OT Oc σd σ a → (OT Oc σd σ a ∧ ¬ LentA rs σ a) := fun hn a ha => ⟨ha, noL hn a⟩
  cases r with
  | stuck => exact h
  | exc c fs =>
    unfold guardC at h
    dsimp only at h
    intro cls dx H' e' hx
    cases hl : rs.any RV.lent with
    | false =>
      rw [hl] at h
      refine h cls dx H' e' ⟨hx.1, ?_⟩
      have h2 := hx.2
      cases fs with
      | nil => exact h2
      | cons d r => cases r with
        | cons _ _ => exact h2
        | nil => obtain ⟨a, v, nm, q1, q2, q3, q4⟩ := h2; exact ⟨a, v, nm, q1, q2, q3, Rep.less (eqO hl) _ _ q4⟩
    | true =>
      rw [hl] at h
      cases hf : D.flats fs with
      | false => rw [hf] at h; exact h.elim
      | true =>
        rw [hf] at h
        refine h cls dx H' e' ⟨hx.1, ?_⟩
        have h2 := hx.2
        cases fs with
        | nil => exact h2
        | cons d r => cases r with
          | cons _ _ => exact h2
          | nil =>
            obtain ⟨a, v, nm, q1, q2, q3, q4⟩ := h2
            have hfd : (d.flat && D.flats []) = true := hf
            rw [Bool.and_eq_true] at hfd
            exact ⟨a, v, nm, q1, q2, q3, Rep.flat (up e') d v hfd.1 q4⟩
  | ok rv =>
    unfold guardC at h
    dsimp only at h
    intro v H' e' o'
    cases hl : rs.any RV.lent with
    | false => rw [hl] at h; exact h v H' e' (o'.less0 (eqO hl))
    | true =>
      rw [hl] at h
      cases hf : rv.flat with
      | false => rw [hf] at h; exact h.elim
      | true => rw [hf] at h; exact h v H' e' (o'.flat0 hf (up e'))
theorem lent_own {rs : List RV} (ow : Own O H) : Own (fun a => O a ∧ ¬ LentA rs σ a) H := fun a h => ow a h.1
theorem allD_len : ∀ {rs : List RV} {ds : List D}, allD rs = some ds → ds.length = rs.length
  | [], ds, q => by cases q; rfl
  | r :: rs, ds, q => by
    unfold allD at q
    cases q1 : r.asD with
    | none => rw [q1] at q; cases q
    | some d =>
      cases q2 : allD rs with
      | none => rw [q1, q2] at q; cases q
      | some es => rw [q1, q2] at q; cases q; simp [allD_len q2]
def exsLen : Exs → Nat
  | .nil => 0
  | .cons _ es => exsLen es + 1
theorem evalL_len : ∀ {xs : Exs} {rs : List RV}, evalL R xs σd = .ok rs → rs.length = exsLen xs
  | .nil, rs, h => by unfold evalL at h; cases h; rfl
  | .cons e es, rs, h => by
    unfold evalL at h
    cases q : evalE R e σd with
    | ok rv =>
      rw [q] at h
      have h' : ((evalL R es σd).bind fun xs => .ok (rv :: xs)) = Res.ok rs := h
      cases q2 : evalL R es σd with
      | ok ys => rw [q2] at h'; cases h'; simp [exsLen, evalL_len q2]
      | exc c fs => rw [q2] at h'; cases h'
      | stuck => rw [q2] at h'; cases h'
    | exc c fs => rw [q] at h; cases h
    | stuck => rw [q] at h; cases h
/-! ### f(..) -/
/-- the arguments: none, or some -/
def aA (X : Cx) : List Expr → TA
  | [] => tNil
  | e :: es => wA X (e :: es)
theorem aA_ok {es : List Expr} {xs : Exs} (h : SA X Z R Wx es xs) (he : es = [] → xs = .nil) (rel : RelS (wd X Z) Oc H0 σd σ H) {P : List V → Hp → Prop} {f : List RV → Res RV}
    (p : Post (wd X Z) (OT Oc σd σ) σd σ H ((evalL R xs σd).bind f) Q (fun c d H' => Wx c d σ H'))
    (k : ∀ rs vs H1, evalL R xs σd = .ok rs → Ext Z.T H H1 → RVsOk (wd X Z) (OT Oc σd σ) σd σ H H1 rs vs → Post (wd X Z) (OT Oc σd σ) σd σ H1 (f rs) Q (fun c d H' => Wx c d σ H') → P vs H1) : aA X es σ H P := by
  cases es with
  | nil =>
    have e := he rfl
    subst e
    have ev : evalL R .nil σd = .ok [] := by unfold evalL; rfl
    rw [ev] at p
    exact k [] [] H ev (Ext.refl H) rfl p
  | cons e es => exact h Oc H0 σd σ H _ rel (PostA.bind p k)
theorem pe_callW {f : Addr} {x : Str} {es : List Expr} {p pos : Pos} (hg : Gl X x) (hm : X.mg x = some (.ref f)) (hk : PySem.W.keepIn X.K (.ref f) = true) (hdb : (x == ("__debug__" : Str)) = false) (hs : es.all noStar = true) :
    PE X (.Call (.Name x p) es [] pos) (fun σ H Q => aA X es σ H fun vs H1 => cRun X f σ vs H1 Q) := by
  refine ⟨fun pins s σ H Q I h => ?_⟩
  refine wpAny_Call_Name_kw (ld_glob I hg hm ?_ hdb)
  cases es with
  | nil =>
    have h' : cRun X f σ [] H Q := h
    exact PySem.W.callWith_K0 I.kIn hk (h' pins s [] I .nil)
  | cons e es =>
    rw [List.all_cons, Bool.and_eq_true] at hs
    refine PySem.W.callWith_K (h₀ := X.base) I.ok.mod.kin hk (thn ((pwA (e :: es)).run pos pins s σ H _ I h) fun us s1 ⟨vs, H1, I1, r, q⟩ => ⟨I1.kIn, ?_⟩) (star_cons hs.1) (star_any hs.2)
    exact q pins s1 us I1 r
/-- the arguments' part of a call -/
theorem args_spd {rs : List RV} {vs : List V} {ds : List D} {F : List D → Res RV} {np : Nat} (rel : RelS W Oc H0 σd σ H) (e : Ext W.T H H1) (o : RVsOk W (OT Oc σd σ) σd σ H H1 rs vs) (q : allD rs = some ds) (hl : ds.length = np)
    (h : Post W (OT Oc σd σ) σd σ H1 (guardC (rs.any RV.lent) (F ds)) Q Ew) : SpD W np F vs H1 Q Ew :=
  ⟨ds, _, hl, lent_own (rs := rs) (σ := σ) (rel.grow e).own, e.tabs rel.tabs, o.lend rel e (fun r hr => hr) q, guard_post rel e o h⟩
theorem se_call {g : Nat} {f : Addr} {np : Nat} {x : Str} {es : List Expr} {xs : Exs} {p pos : Pos} (C : Cn X Wx N sc fc) (F : FunOk X Z f np (R.call g)) (hg : sc.names.lookup x = some .globalImplicit) (hm : X.mg x = some (.ref f)) (hdb : (x == ("__debug__" : Str)) = false)
    (A : SA X Z R Wx es xs) (hs : es.all noStar = true) (he : es = [] → xs = .nil) (hn : exsLen xs = np) : SE X Z R Wx (.Call (.Name x p) es [] pos) (.call g xs) := by
  obtain ⟨k, fd, ps, F', hr, hb, hk⟩ := id F
  exact SE.of (pe_callW (C.gl hg) hm hk hdb hs) fun Oc H0 σd σ H Q rel p => by
    unfold evalE at p
    refine aA_ok A he rel p fun rs vs H1 er e o h => ?_
    cases q : allD rs with
    | none => rw [q] at h; exact h.elim
    | some ds =>
      rw [q] at h
      exact cRun_ok F C.tk (args_spd rel e o q (by rw [allD_len q, evalL_len er, hn]) h)
/-! ### o.m(..) -/
theorem meth_eq {o : Expr} {m : Str} {es : List Expr} {apos pos : Pos} {env : Env} (hc : noCall o = true) (hs : es.all noStar = true) (hl : es.length < 30) (hline : (apos.endLine == pos.line) = true) :
    eval (.Call (.Attribute o m apos) es [] pos) env = (do
      let ov ← eval o env
      standAt apos.atName
      let (f, first) ← holding [ov] (getMethod ov m (do return (← importBound o env).getD true))
      callWith pos f first (backTo pos (starEach es env)) (backToKw pos (keywordEach [] env))) := by
  rw [arm_eval_Call, attr_plain hc]
  have hform : methodCallForm (es.length + ([] : List Keyword).length) (backTo pos (starEach es env)) (backToKw pos (keywordEach [] env)) = true := few_ok hs hl
  unfold methodCall calleeOf methodCallPos
  simp only [hform, hline, if_true, Bool.not_true, Bool.or_true, Bool.false_or, pure_bind]
theorem pe_methW {o : Expr} {m : Str} {es : List Expr} {apos pos : Pos} {to : TE} (ho : PE X o to) (hc : noCall o = true) (hs : es.all noStar = true) (hl : es.length < 30) (hline : (apos.endLine == pos.line) = true) :
    PE X (.Call (.Attribute o m apos) es [] pos) (fun σ H Q => to σ H fun x H1 => ∃ a C dx fs f, x = .ref a ∧ H1 a = some (.ins C dx fs) ∧ fs.lookup m = none ∧ Cls X.K C ∧ Meth X.K C m f ∧ aA X es σ H1 fun vs H2 => cRun X f σ (x :: vs) H2 Q) := by
  refine ⟨fun pins s σ H Q I h => ?_⟩
  refine PySem.W.methodCall_KW (pl := (do return (← importBound o X.env).getD true)) (thn (ho.run pins s σ H _ I h) fun u s1 ⟨x, H1, I1, rx, a, C, dx, fs, f, ex, ea, l, c, hm, q⟩ => ?_) (meth_eq hc hs hl hline)
  subst ex
  obtain rfl : u = Value.ref a := rx
  refine getmeth_ok I1 ea c hm l ?_
  cases es with
  | nil =>
    have q' : cRun X f σ [V.ref a] H1 Q := q
    exact PySem.W.callWith_K0 (first := [.ref a]) I1.kIn hm.kp (q' pins s1 [.ref a] I1 (.cons rfl .nil))
  | cons e es =>
    rw [List.all_cons, Bool.and_eq_true] at hs
    refine PySem.W.callWith_K (first := [.ref a]) (h₀ := X.base) I.ok.mod.kin hm.kp (thn ((pwA (e :: es)).run pos pins s1 σ H1 _ I1 q) fun us s2 ⟨vs, H2, I2, r, q2⟩ => ⟨I2.kIn, ?_⟩) (star_cons hs.1) (star_any hs.2)
    exact q2 pins s2 (.ref a :: us) I2 (.cons rfl r)
theorem lookup_none {f : Str} : ∀ {ps : List (Str × V)}, f ∉ ps.map (·.1) → ps.lookup f = none
  | [], _ => rfl
  | (x, v) :: ps, h => by
    simp only [List.map_cons, List.mem_cons, not_or] at h
    rw [List.lookup_cons, show (f == x) = false from beq_eq_false_iff_ne.mpr h.1]
    exact lookup_none h.2
theorem se_meth {o : Expr} {x : Ex} {m : Str} {ms : List (Nat × Nat)} {es : List Expr} {xs : Exs} {apos pos : Pos} (C : Cn X Wx N sc fc) (A0 : SE X Z R Wx o x) (hc : noCall o = true) (hline : (apos.endLine == pos.line) = true)
    (hms : ∀ c g, ms.lookup c = some g → ∃ ci f, ClsOk X Z c ci ∧ m ∉ ci.fields ∧ Meth X.K (Z.cad c) m f ∧ FunOk X Z f (exsLen xs + 1) (R.call g))
    (A : SA X Z R Wx es xs) (hs : es.all noStar = true) (hl : es.length < 30) (he : es = [] → xs = .nil) : SE X Z R Wx (.Call (.Attribute o m apos) es [] pos) (.meth x ms xs) :=
  SE.of (pe_methW (pw o) hc hs hl hline) fun Oc H0 σd σ H Q rel p => by
    unfold evalE at p
    refine SE.one A0 rel p fun rx v H1 e o h => ?_
    cases rx with
    | v d =>
      cases d with
      | ins c fs =>
        dsimp only at h
        cases hg : ms.lookup c with
        | none => rw [hg] at h; exact h.elim
        | some g =>
          rw [hg] at h
          dsimp only at h
          obtain ⟨ci, f, ck, hnf, hM, hF⟩ := hms c g hg
          have o' := o
          obtain ⟨a, dx, fvs, ci', e1, e2, n, hci, hfs, r⟩ := o
          have : ci' = ci := by have := ck.at_; rw [show Z.cls c = some ci' from hci] at this; exact Option.some.inj this
          subst this
          refine ⟨a, Z.cad c, dx, fvs, f, e1, e2, lookup_none (by rw [hfs]; exact hnf), ck.cls, hM, ?_⟩
          refine aA_ok A he (rel.grow e) h fun rs vs H2 er e' o2 h2 => ?_
          cases q : allD rs with
          | none => rw [q] at h2; exact h2.elim
          | some ds =>
            rw [q] at h2
            have hself : RVsOk (wd X Z) (OT Oc σd σ) σd σ H1 H2 (.v (.ins c fs) :: rs) (v :: vs) := ⟨v, vs, rfl, RVOk.from (H := H1) (H1 := H1) (Rep.kept (Kept.of e') (rel.grow e).own.soft _ _ o') (Ext.refl _), o2⟩
            have qs : allD (.v (.ins c fs) :: rs) = some (.ins c fs :: ds) := by
              show (match RV.asD (.v (.ins c fs)), allD rs with | some d, some ds => some (d :: ds) | _, _ => none) = _
              rw [q]; rfl
            exact cRun_ok hF C.tk (args_spd (rel.grow e) e' hself qs (by rw [List.length_cons, allD_len q, evalL_len er]) h2)
      | _ => exact h.elim
    | _ => exact h.elim
/-! ### C(..) -/
def PostM (W : Wd) (O : Addr → Prop) (H : Hp) (r : Res D) (Q : D → Hp → Prop) (Ew : XK) : Prop := match r with
  | .ok d => ∀ H', Ext W.T H H' → Q d H'
  | .exc c fs => ∀ cls dx H', Ext W.T H H' → ExOk W O H' c fs cls dx → Ew cls dx H'
  | .stuck => False
def madeAt (W : Wd) (c : Nat) (H : Hp) (x dx : Addr) : Hp := upd (upd H dx (.own x)) x (.ins (W.cad c) dx [])
def SpI (W : Wd) (c np : Nat) (f : List D → Res D) : Sp := fun vs H Q E => ∃ (ds : List D) (Oc : Addr → Prop) (H0 : Hp) (x dx : Addr) (us : List V), vs = .ref x :: us ∧ ds.length = np ∧ H0 x = none ∧ H0 dx = none ∧ dx ≠ x ∧ H = madeAt W c H0 x dx ∧
  Own Oc H0 ∧ LamX.Tabs W.T H0 ∧ Reps W H0 Oc ds us ∧ PostM W Oc H0 (f ds) (fun d H' => Rep W H' Oc d (.ref x) → Q .non H') E
theorem SpI.len {c np : Nat} {f : List D → Res D} {vs : List V} {E : XK} (h : SpI W c np f vs H Q E) : vs.length = np + 1 := by
  obtain ⟨ds, Oc, H0, x, dx, us, e, h1, _, _, _, _, _, _, r, _⟩ := h
  rw [e, List.length_cons, r.length, h1]
def MakeOk (X : Cx) (Z : Zd) (c np : Nat) (F : List D → Res D) : Prop := ∃ (f : Addr) (k : Nat) (fd : FuncData) (ps : List Str), Mk X.K (Z.cad c) f ∧ FnOk X.prog X.w X.K X.mg X.base (L2.CX X.prog X.w) k f fd ps (SpI (wd X Z) c np F) ∧ Room (k + 1) X.A ∧ Binds X.K fd ps []
theorem made_ext {c : Nat} {x dx : Addr} {T : List (Addr × Str)} (hx : H x = none) (hd : H dx = none) (ne : dx ≠ x) : Ext T H (madeAt W c H x dx) :=
  Ext.trans (Ext.upd (o := .own x) hd) (Ext.upd (H := upd H dx (.own x)) (by rw [upd_ne (Ne.symm ne)]; exact hx))
theorem run_makeSD {C f : Addr} {k : Nat} {fd : FuncData} {ps : List Str} {sp : Sp} {E : L2.St → XK} {pins : List (Addr × Obj)} {s : Shared} {us : List Value} {vs : List V} (M : Mk X.K C f) (F : FnOk X.prog X.w X.K X.mg X.base (L2.CX X.prog X.w) k f fd ps sp) (hr : Room (k + 1) X.A) (hb : Binds X.K fd ps [])
    (hx : PassesAt (L2.CX X.prog X.w) X σ (E σ)) (I : Inv X pins σ H s) (r : Vals vs us)
    (h : ∀ x dx, H x = none → H dx = none → dx ≠ x → sp (.ref x :: vs) (upd (upd H dx (.own x)) x (.ins C dx [])) (fun v H2 => v = .non ∧ Q (.ref x) H2) (E σ)) :
    wpAny (model X.prog X.w) X.A (call (.ref C) us) (EP X pins σ Q) X.xe s := by
  have hq := h (s.heap.objs.size + 1) s.heap.objs.size (I.hok.fresh (Nat.le_succ _)) (I.hok.fresh (Nat.le_refl _)) (Nat.ne_of_lt (Nat.lt_succ_self _))
  have I2 := Inv.made (C := C) I
  have r2 : Vals (V.ref (s.heap.objs.size + 1) :: vs) (Value.ref (s.heap.objs.size + 1) :: us ++ []) := by rw [List.append_nil]; exact .cons rfl r
  have hl : (Value.ref (s.heap.objs.size + 1) :: us ++ []).length = ps.length := by
    have e := r2.length
    rw [F.len _ _ _ _ hq] at e
    exact e.symm
  refine wpAny_call (make_map (f := f) I.kIn M.makes M.init (beq_iff_eq.mp M.fn) (codeAny_mono (F.run _ X.stack _ _ ⟨Value.ref (s.heap.objs.size + 1) :: us, []⟩ (Value.ref (s.heap.objs.size + 1) :: us ++ []) _ _ (E σ) (hr.make C us [])
    (I2.env0.make C us []) (hb _ (Value.ref (s.heap.objs.size + 1) :: us) I2.kIn hl) r2 hq) fun r s' hq' => ?_))
  cases r with
  | error e => exact hx pins _ _ e s' I2 hq'
  | ok fl =>
    cases fl with
    | ret u =>
      obtain ⟨v, H', I3, rv, ev, q3⟩ := I2.after hq'
      subst ev
      exact ⟨rv, ⟨V.ref (s.heap.objs.size + 1), H', I3, rfl, q3⟩⟩
    | next => exact False.elim hq'
    | brk => exact False.elim hq'
    | cont => exact False.elim hq'
def mRun (X : Cx) (C : Addr) (σ : L2.St) (vs : List V) (H : Hp) (Q : VK) : Prop := cRun X C σ vs H Q
theorem pe_makeW {C : Addr} {x : Str} {es : List Expr} {p pos : Pos} (hg : Gl X x) (hm : X.mg x = some (.ref C)) (hk : PySem.W.keepIn X.K (.ref C) = true) (hdb : (x == ("__debug__" : Str)) = false) (hs : es.all noStar = true) :
    PE X (.Call (.Name x p) es [] pos) (fun σ H Q => aA X es σ H fun vs H1 => cRun X C σ vs H1 Q) := pe_callW hg hm hk hdb hs
theorem se_make {c np : Nat} {x : Str} {es : List Expr} {xs : Exs} {p pos : Pos} (C : Cn X Wx N sc fc) (F : MakeOk X Z c np (R.new c)) (hg : sc.names.lookup x = some .globalImplicit) (hm : X.mg x = some (.ref (Z.cad c))) (hdb : (x == ("__debug__" : Str)) = false)
    (A : SA X Z R Wx es xs) (hs : es.all noStar = true) (he : es = [] → xs = .nil) (hn : exsLen xs = np) : SE X Z R Wx (.Call (.Name x p) es [] pos) (.make c xs) := by
  obtain ⟨f, k, fd, ps, M, F', hr, hb⟩ := F
  exact SE.of (pe_makeW (C.gl hg) hm M.kp hdb hs) fun Oc H0 σd σ H Q rel p => by
    unfold evalE at p
    refine aA_ok A he rel p fun rs vs H1 er e o h => ?_
    cases q : allD rs with
    | none => rw [q] at h; exact h.elim
    | some ds =>
      rw [q] at h
      dsimp only at h
      intro pins s us I r
      refine run_makeSD (E := WE Wx) M F' hr hb (passAt C.tk σ) I r fun x dx hx hd ne => ?_
      refine ⟨ds, _, H1, x, dx, vs, rfl, by rw [allD_len q, evalL_len er, hn], hx, hd, ne, rfl, lent_own (rs := rs) (σ := σ) (rel.grow e).own, e.tabs rel.tabs, o.lend rel e (fun r hr => hr) q, ?_⟩
      have g := guard_post rel e o h
      cases qr : R.new c ds with
      | stuck => rw [qr] at g; exact g.elim
      | exc c fs => rw [qr] at g; exact g
      | ok d =>
        rw [qr] at g
        exact fun H' e' hr => ⟨rfl, g (.ref x) H' e' hr⟩
end Ev


set_option Elab.async false
set_option linter.all false
set_option maxRecDepth 100000
set_option maxHeartbeats 4000000
namespace Ev
open PySem PySem.Spec L2
variable {O : Addr → Prop} {σd : List Sl} {σ : L2.St} {H H1 H2 H' : Hp} {Q : VK} {Ew : XK} {Oc : Addr → Prop} {H0 : Hp}
variable {X : Cx} {Z : Zd} {R : Rt} {Wx : WX} {N : List Str} {sc : Scope} {fc : Str → Bool} {W : Wd} {sub : Nat → List Nat → Option Bool}
/-! ### statements -/
def PostS (W : Wd) (Oc : Addr → Prop) (H0 : Hp) (r : Res Out) (D : Ends) (Wx : WX) : Prop := match r with
  | .ok (.nx σd') => ∀ σ' H', RelS W Oc H0 σd' σ' H' → D.nx σ' H'
  | .ok (.bk σd') => ∀ σ' H', RelS W Oc H0 σd' σ' H' → D.bk σ' H'
  | .ok (.ct σd') => ∀ σ' H', RelS W Oc H0 σd' σ' H' → D.ct σ' H'
  | .ok (.ret rv) => ∀ v H', Ext W.T H0 H' → RVOk W Oc [] [] H0 H' rv v → D.rt v H'
  | .ok (.ex c fs σd') => ∀ cls dx σ' H', RelS W Oc H0 σd' σ' H' → ExOk W (OT Oc σd' σ') H' c fs cls dx → Wx cls dx σ' H'
  | _ => False
def wS (X : Cx) (st : Stmt) : TS := fun D σ H => ∀ pins s, Inv X pins σ H s → wpAny (model X.prog X.w) X.A (exec st X.env) (SP X pins D) X.xe s
theorem pwS {X : Cx} (st : Stmt) : PS X st (wS X st) := ⟨fun pins s σ H D I h => h pins s I⟩
def wSs (X : Cx) (st : List Stmt) : TS := fun D σ H => ∀ pins s, Inv X pins σ H s → wpAny (model X.prog X.w) X.A (execs st X.env) (SP X pins D) X.xe s
theorem pwSs {X : Cx} (st : List Stmt) : PSs X st (wSs X st) := ⟨fun pins s σ H D I h => h pins s I⟩
def SS (X : Cx) (Z : Zd) (R : Rt) (Wx : WX) (sub : Nat → List Nat → Option Bool) (st : Stmt) (x : Stm) : Prop :=
  ∀ (Oc : Addr → Prop) (H0 : Hp) (σd : List Sl) (σ : L2.St) (H : Hp) (D : Ends), RelS (wd X Z) Oc H0 σd σ H → PostS (wd X Z) Oc H0 (execS sub R x σd) D Wx → wS X st D σ H
def SSs (X : Cx) (Z : Zd) (R : Rt) (Wx : WX) (sub : Nat → List Nat → Option Bool) (st : List Stmt) (x : Stms) : Prop :=
  ∀ (Oc : Addr → Prop) (H0 : Hp) (σd : List Sl) (σ : L2.St) (H : Hp) (D : Ends), RelS (wd X Z) Oc H0 σd σ H → PostS (wd X Z) Oc H0 (execB sub R x σd) D Wx → wSs X st D σ H
theorem SS.of {st : Stmt} {x : Stm} {t : TS} (p : PS X st t)
    (h : ∀ (Oc : Addr → Prop) (H0 : Hp) (σd : List Sl) (σ : L2.St) (H : Hp) (D : Ends), RelS (wd X Z) Oc H0 σd σ H → PostS (wd X Z) Oc H0 (execS sub R x σd) D Wx → t D σ H) : SS X Z R Wx sub st x :=
  fun Oc H0 σd σ H D rel post pins s I => p.run pins s σ H D I (h Oc H0 σd σ H D rel post)
theorem sss_nil : SSs X Z R Wx sub [] .nil := fun Oc H0 σd σ H D rel p pins s I => pss_nil.run pins s σ H D I (by
  unfold execB at p
  exact p σ H rel)
theorem sss_cons {st : Stmt} {sts : List Stmt} {x : Stm} {xs : Stms} (A : SS X Z R Wx sub st x) (B : SSs X Z R Wx sub sts xs) : SSs X Z R Wx sub (st :: sts) (.cons x xs) :=
  fun Oc H0 σd σ H D rel p pins s I => (pss_cons (pwS st) (pwSs sts)).run pins s σ H D I (by
    unfold execB at p
    refine A Oc H0 σd σ H { D with nx := wSs X sts D } rel ?_
    cases q : execS sub R x σd with
    | ok o =>
      rw [q] at p
      cases o with
      | nx σd' => exact fun σ' H' rel' => B Oc H0 σd' σ' H' D rel' p
      | ret rv => exact p
      | bk σd' => exact p
      | ct σd' => exact p
      | ex c fs σd' => exact p
    | exc c fs => rw [q] at p; exact p.elim
    | stuck => rw [q] at p; exact p.elim)
theorem sss_frz {sts : List Stmt} {i : Nat} {xs : Stms} (B : SSs X Z R Wx sub sts xs) : SSs X Z R Wx sub sts (.cons (.frz i) xs) := fun Oc H0 σd σ H D rel p => by
  unfold execB execS at p
  unfold ownL at p
  cases q : σd[i]? with
  | none => rw [q] at p; exact B Oc H0 σd σ H D rel p
  | some sl =>
    rw [q] at p
    cases sl with
    | l xs' => exact B Oc H0 _ σ H D (rel.freeze q) p
    | _ => exact B Oc H0 σd σ H D rel p
theorem sss_one {st : Stmt} {x : Stm} (A : SS X Z R Wx sub st x) : SSs X Z R Wx sub [st] (.cons x .nil) := sss_cons A sss_nil
theorem ss_bad {st : Stmt} : SS X Z R Wx sub st .bad := fun Oc H0 σd σ H D rel p => by unfold execS at p; exact p.elim
theorem se_bad {e : Expr} : SE X Z R Wx e .bad := fun Oc H0 σd σ H Q rel p => by unfold evalE at p; exact p.elim
/-- a value within a statement -/
theorem lift_post {r : Res RV} {f : RV → Res Out} {D : Ends} {P : VK} (h : PostS W Oc H0 (lift r σd f) D Wx) (rel : RelS W Oc H0 σd σ H) (k : ∀ rv v H1, r = .ok rv → Ext W.T H H1 → RVOk W (OT Oc σd σ) σd σ H H1 rv v → PostS W Oc H0 (f rv) D Wx → P v H1) :
    Post W (OT Oc σd σ) σd σ H r P (fun c d H' => Wx c d σ H') := by
  cases r with
  | ok rv => exact fun v H1 e o => k rv v H1 rfl e o h
  | exc c fs => exact fun cls dx H' e o => h cls dx σ H' (rel.grow e) o
  | stuck => exact h.elim
theorem liftT_post {r : Res RV} {f : RV → Res Out} {D : Ends} {P : Bool → Hp → Prop} (h : PostS W Oc H0 (lift r σd f) D Wx) (rel : RelS W Oc H0 σd σ H) (hn : ∀ rv, (∀ b, rv ≠ .v (.bl b)) → ¬ PostS W Oc H0 (f rv) D Wx)
    (k : ∀ b H1, r = .ok (.v (.bl b)) → Ext W.T H H1 → PostS W Oc H0 (f (.v (.bl b))) D Wx → P b H1) : PostT W H r (OT Oc σd σ) P (fun c d H' => Wx c d σ H') := by
  cases r with
  | ok rv =>
    cases rv with
    | v d => cases d with
      | bl b => exact fun H1 e => k b H1 rfl e h
      | _ => exact hn _ (fun b z => by cases z) h
    | _ => exact hn _ (fun b z => by cases z) h
  | exc c fs => exact fun cls dx H' e o => h cls dx σ H' (rel.grow e) o
  | stuck => exact h.elim
theorem liftA_post {r : Res (List RV)} {f : List RV → Res Out} {D : Ends} {P : List V → Hp → Prop} (h : PostS W Oc H0 (lift r σd f) D Wx) (rel : RelS W Oc H0 σd σ H) (k : ∀ rs vs H1, r = .ok rs → Ext W.T H H1 → RVsOk W (OT Oc σd σ) σd σ H H1 rs vs → PostS W Oc H0 (f rs) D Wx → P vs H1) :
    PostA W (OT Oc σd σ) σd σ H r P (fun c d H' => Wx c d σ H') := by
  cases r with
  | ok rs => exact fun vs H1 e o => k rs vs H1 rfl e o h
  | exc c fs => exact fun cls dx H' e o => h cls dx σ H' (rel.grow e) o
  | stuck => exact h.elim
theorem storeR_ok {rv : RV} {v : V} {i : Nat} {σd' : List Sl} (rel : RelS W Oc H0 σd σ H) (e : Ext W.T H H1) (o : RVOk W (OT Oc σd σ) σd σ H H1 rv v) (h : storeR i rv σd = some σd') : RelS W Oc H0 σd' (σ.set i (some v)) H1 := by
  cases rv with
  | v d => cases h; exact (rel.grow e).put o
  | f xs => cases h; obtain ⟨a, rfl, n, q⟩ := o; exact rel.putOwn e rfl n q
  | t xs => cases h; obtain ⟨a, rfl, n, q⟩ := o; exact rel.putOwn e rfl n q
  | k xs => cases h; obtain ⟨a, rfl, n, q⟩ := o; exact rel.putOwn e rfl n q
  | _ => cases h
/-! ### name = value -/
theorem set_run {e : Expr} {x : Ex} {i : Nat} {t : TE} (hx : ∀ (Oc : Addr → Prop) (H0 : Hp) (σd : List Sl) (σ : L2.St) (H : Hp) (Q : VK), RelS (wd X Z) Oc H0 σd σ H → Post (wd X Z) (OT Oc σd σ) σd σ H (evalE R x σd) Q (fun c d H' => Wx c d σ H') → t σ H Q)
    {D : Ends} (rel : RelS (wd X Z) Oc H0 σd σ H) (p : PostS (wd X Z) Oc H0 (execS sub R (.set i x) σd) D Wx) : tAsg t (gName i) D σ H := by
  unfold execS at p
  refine hx Oc H0 σd σ H _ rel (lift_post p rel fun rv v H1 er e o h => ?_)
  cases q : storeR i rv σd with
  | none => rw [q] at h; exact h.elim
  | some σd' =>
    rw [q] at h
    exact h _ _ (storeR_ok rel e o q)
def noLc : Expr → Bool
  | .ListComp _ _ _ _ => false
  | .SetComp _ _ _ _ => false
  | .DictComp _ _ _ _ _ => false
  | _ => true
theorem sw_no {e : Expr} {t : Option Expr} {line : Nat} {env : Env} (h : noLc e = true) : swapsWith e t line env = pure false := by
  cases e <;> first | rfl | cases h
theorem ss_set {e : Expr} {x : Ex} {i : Nat} {y : Str} {p pos : Pos} (C : Cn X Wx N sc fc) (hN : X.N[i]? = some y) (hx : Loc X.env.scope y) (hf : X.fn y = true ∨ X.env.scope.names.lookup y = some .local) (A : SE X Z R Wx e x) (hs : swapsWith e (some (.Name y p)) pos.line X.env = pure false) :
    SS X Z R Wx sub (.Assign [.Name y p] e pos) (.set i x) :=
  SS.of (ps_set C.nd hN hx (pw e) hs hf) fun Oc H0 σd σ H D rel p => set_run (e := e) (fun Oc H0 σd σ H Q rel q => A Oc H0 σd σ H Q rel q) rel p
theorem ss_setLc {elt tg iter : Expr} {ifs : List Expr} {scope : Scope} {own : List (Str × Nat)} {e : Ex} {tgn : List Nat} {it : It} {c : Exo} {i : Nat} {y : Str} {py pos spos : Pos} (C : Cn X Wx N sc fc) (hN : X.N[i]? = some y) (hy : X.env.scope.names.lookup y = some .local)
    (hsw : swapsWith (.ListComp elt [⟨tg, iter, ifs, 0⟩] scope pos) (some (.Name y py)) spos.line X.env = pure true) (L : LcOk X Z R Wx elt tg iter ifs scope own e tgn it c) :
    SS X Z R Wx sub (.Assign [.Name y py] (.ListComp elt [⟨tg, iter, ifs, 0⟩] scope pos) spos) (.set i (.comp e tgn (own.map (·.2)) it c)) := by
  obtain ⟨tt, h1, h2⟩ := L.ht.run
  refine SS.of (ps_setLc C.calm C.nd hN hy hsw (pwI tg iter) L.ok L.hg h2 (te := teB X scope elt) (fun s H C cl fp => ⟨fun pins s' σ H' Q I q => q s H C cl fp pins s' I⟩) (fold_ok L.hs)) fun Oc H0 σd σ H D rel p => ?_
  exact set_run (e := elt) (fun Oc H0 σd σ H Q rel p => comp_sound (W := wd X Z) (fun Q q => L.hi Oc H0 σd σ H Q rel q) (teB_ok L.he) h1 L.sub rel p) rel p
theorem ss_setLc2 {elt tg iter tg1 iter1 : Expr} {ifs1 : List Expr} {scope : Scope} {own : List (Str × Nat)} {e : Ex} {tgn tgn1 : List Nat} {it it1 : It} {c : Exo} {i : Nat} {y : Str} {py pos spos : Pos} (C : Cn X Wx N sc fc) (hN : X.N[i]? = some y) (hy : X.env.scope.names.lookup y = some .local)
    (hsw : swapsWith (.ListComp elt [⟨tg, iter, [], 0⟩, ⟨tg1, iter1, ifs1, 0⟩] scope pos) (some (.Name y py)) spos.line X.env = pure true) (L : Lc2Ok X Z R Wx elt tg iter tg1 iter1 ifs1 scope own e tgn tgn1 it it1 c) :
    SS X Z R Wx sub (.Assign [.Name y py] (.ListComp elt [⟨tg, iter, [], 0⟩, ⟨tg1, iter1, ifs1, 0⟩] scope pos) spos) (.set i (.comp2 e tgn tgn1 (own.map (·.2)) it it1 c)) := by
  obtain ⟨tt, h1, h2⟩ := L.ht.run
  refine SS.of (ps_setLc2 C.calm C.nd hN hy hsw (pwI tg iter) L.ok L.sub1 L.hg (fun _ _ _ _ _ => pts_nil) (wi1 := tiB X scope tg1 iter1) (fun s H C cl fp => ⟨fun pins s' σ H' Q I q => q s H C cl fp pins s' I⟩) L.hg1 h2 (te := teB X scope elt)
    (fun s H C cl fp => ⟨fun pins s' σ H' Q I q => q s H C cl fp pins s' I⟩) (fold_ok L.hs) fun env x => fold_ok L.hs1 x) fun Oc H0 σd σ H D rel p => ?_
  exact set_run (e := elt) (fun Oc H0 σd σ H Q rel p => comp2_sound (W := wd X Z) (fun Q q => L.hi Oc H0 σd σ H Q rel q) (tiB_ok L.hi1) (teB_ok L.he) h1 L.sub L.sub1 rel p) rel p
theorem bindL_len : ∀ {tg : List Nat} {ds : List D} {σd σd' : List Sl}, bindL tg ds σd = some σd' → tg.length = ds.length
  | [], [], _, _, _ => rfl
  | [], _ :: _, _, _, h => by cases h
  | _ :: _, [], _, _, h => by cases h
  | i :: is, d :: ds, σd, σd', h => by simp [bindL_len (tg := is) (ds := ds) (σd := σd.set i (.d d)) h]
/-- a, b = value -/
theorem ss_unp {e tg : Expr} {x : Ex} {is : List Nat} {pos : Pos} (A : SE X Z R Wx e x) (hg : PG X tg (gTup X.K is.length (gIs is))) (hs : swapsWithSole [tg] e pos.line X.env = pure false) (hw : swappedStores [tg] e X.env = pure none) (h1 : (assignEach [tg] X.env).map (·.2) = [assign tg X.env]) :
    SS X Z R Wx sub (.Assign [tg] e pos) (.unp is x) :=
  SS.of (ps_asg (pw e) hg hs hw h1) fun Oc H0 σd σ H D rel p => by
    unfold execS at p
    refine A Oc H0 σd σ H _ rel (lift_post p rel fun rv v H1 er e o h => ?_)
    cases q : rv.asT with
    | none => rw [q] at h; exact h.elim
    | some ds =>
      rw [q] at h
      cases q2 : bindL is ds σd with
      | none => have h' : PostS (wd X Z) Oc H0 ((ofOpt (bindL is ds σd)).bind fun σ' => .ok (.nx σ')) D Wx := h; rw [q2] at h'; exact h'.elim
      | some σd' =>
        have h' : PostS (wd X Z) Oc H0 ((ofOpt (bindL is ds σd)).bind fun σ' => .ok (.nx σ')) D Wx := h
        rw [q2] at h'
        obtain ⟨a, vs, e1, e2, r⟩ := o.ts q
        exact ⟨a, vs, e1, e2, by rw [r.length, bindL_len q2], gIs_ok (rel.grow e) r q2 fun σ' rel' _ => h' _ _ rel'⟩
/-- a, b = x, y -/
theorem ss_par {i j : Nat} {x y : Str} {a b : Expr} {ea eb : Ex} {px py pt pos : Pos} {kt k2 : Nat} {pt2 : Pos} (C : Cn X Wx N sc fc) (hi : X.N[i]? = some x) (hj : X.N[j]? = some y) (hij : i ≠ j) (hx : X.env.scope.names.lookup x = some .local) (hy : X.env.scope.names.lookup y = some .local)
    (A : SE X Z R Wx a ea) (B : SE X Z R Wx b eb) (na : noStar a = true) (nb : noStar b = true) (hw : swappedStores [.Tuple [.Name x px, .Name y py] kt pt] (.Tuple [a, b] k2 pt2) X.env = pure (some [x, y])) :
    SS X Z R Wx sub (.Assign [.Tuple [.Name x px, .Name y py] kt pt] (.Tuple [a, b] k2 pt2) pos) (.par i j ea eb) :=
  SS.of (ps_par C.calm C.nd hi hj hij hx hy (pwA [a, b]) hw rfl) fun Oc H0 σd σ H D rel p => by
    unfold execS at p
    intro ps pins s I
    refine (pa_cons (pw a) (pa_cons (pw b) pa_nil (star_cons nb)) (star_cons na)).run ps pins s σ H _ I (A Oc H0 σd σ H _ rel (lift_post p rel fun rx v H1 er e o h => ?_))
    refine B Oc H0 σd σ H1 _ (rel.grow e) (lift_post h (rel.grow e) fun ry u H2 er2 e2 o2 h2 => ?_)
    cases q1 : rx.asV with
    | none => rw [q1] at h2; exact h2.elim
    | some d =>
      cases q2 : ry.asV with
      | none => rw [q1, q2] at h2; exact h2.elim
      | some d2 =>
        rw [q1, q2] at h2
        have rel2 := (rel.grow e).grow e2
        have r1 : Rep (wd X Z) H2 (OT Oc σd σ) d v := (o.rep rel e q1).kept (Kept.of e2) (rel.grow e).own.soft
        have r2 : Rep (wd X Z) H2 (OT Oc σd σ) d2 u := o2.rep (rel.grow e) e2 q2
        exact ⟨v, u, rfl, h2 _ _ ((rel2.put r1).put (r2.less (OT.set_sub rfl)))⟩
/-! ### x[k] = e, d[k] = e -/
theorem own_at {i : Nat} {xs : List D} (rel : RelS W Oc H0 σd σ H) (q : σd[i]? = some (.l xs)) : ∃ a vs, σ[i]? = some (some (V.ref a)) ∧ H a = some (.lst vs) ∧ Reps W H (OT Oc σd σ) xs vs := by
  obtain ⟨a, e1, n, vs, h1, h2⟩ := rel.slots i _ q
  exact ⟨a, vs, e1, h1, h2⟩
theorem lst_change {i : Nat} {xs ys : List D} {a : Addr} {vs us : List V} (rel : RelS W Oc H0 σd σ H) (q : σd[i]? = some (.l xs)) (ha : σ[i]? = some (some (V.ref a))) (h1 : H a = some (.lst vs)) (r : Reps W H (OT Oc σd σ) ys us) :
    RelS W Oc H0 (σd.set i (.l ys)) σ (upd H a (.lst us)) := by
  refine rel.change (sl := .l xs) q rfl rfl ha (fun ps z => by cases z) ⟨us, upd_same, r.kept (fun b o e nb _ => ?_) rel.own.soft⟩
  rw [upd_ne (fun z => nb (.inr ⟨i, .l xs, q, rfl, by rw [ha, z]⟩))]
  exact e
def noSl : Expr → Bool
  | .Slice _ _ _ _ => false
  | _ => true
theorem assign_sub {o i : Expr} {pos : Pos} {env : Env} (h : noSl i = true) (v : Value) : assign (.Subscript o i pos) env v = (do
      let ov ← holding [v] (eval o env)
      let iv ← holding [v, ov] (eval i env)
      standAt pos
      holding [v, ov, iv] (setItem ov iv v)
      release [v, ov, iv] []) := by
  cases i <;> first | rfl | cases h
theorem swS_no {t e : Expr} {line : Nat} {env : Env} (h : noLc e = true) : swapsWithSole [t] e line env = pure false := sw_no h
theorem ownThen_post {i : Nat} {k : List D → Res Out} {D : Ends} (h : PostS W Oc H0 (ownThen σd i k) D Wx) : ∃ xs, σd[i]? = some (.l xs) ∧ PostS W Oc H0 (k xs) D Wx := by
  unfold ownThen ownL at h
  cases q : σd[i]? with
  | none => rw [q] at h; exact h.elim
  | some sl =>
    rw [q] at h
    cases sl with
    | l xs => exact ⟨xs, rfl, h⟩
    | _ => exact h.elim
theorem ss_setIdx {k e : Expr} {ek ee : Ex} {i : Nat} {y : Str} {p p2 pos : Pos} (hN : X.N[i]? = some y) (hv : Vis X.env.scope y) (hd : (y == ("__debug__" : Str)) = false) (hcd : (y == ("__classdict__" : Str)) = false)
    (K : SE X Z R Wx k ek) (A : SE X Z R Wx e ee) (hk : noSl k = true) (hs : swapsWith e (some (.Subscript (.Name y p) k p2)) pos.line X.env = pure false) : SS X Z R Wx sub (.Assign [.Subscript (.Name y p) k p2] e pos) (.setIdx i ek ee) :=
  SS.of (ps_asg (pw e) (pg_sub (pe_var hN hv hd hcd) (pw k) set_list (assign_sub hk)) hs rfl rfl) fun Oc H0 σd σ H D rel p => by
    unfold execS at p
    refine A Oc H0 σd σ H _ rel (lift_post p rel fun rx v H1 er e1 o1 h1 => ?_)
    obtain ⟨xs, q, h1⟩ := ownThen_post h1
    obtain ⟨a, vs, ha, _, _⟩ := own_at rel q
    refine ⟨_, ha, K Oc H0 σd σ H1 _ (rel.grow e1) (lift_post h1 (rel.grow e1) fun ry u H2 er2 e2 o2 h2 => ?_)⟩
    have rel2 := (rel.grow e1).grow e2
    obtain ⟨a', vs, ha', hv, r⟩ := own_at rel2 q
    rw [ha] at ha'; cases ha'
    unfold setD at h2
    cases q1 : asInt ry with
    | none => rw [q1] at h2; exact h2.elim
    | some n =>
      cases q2 : rx.asV with
      | none => rw [q1, q2] at h2; exact h2.elim
      | some d =>
        rw [q1, q2] at h2
        dsimp only at h2
        cases q3 : L2.ixN xs.length n with
        | none => rw [q3] at h2; exact h2.elim
        | some j =>
          rw [q3] at h2
          have rv : Rep (wd X Z) H2 (OT Oc σd σ) d v := (o1.rep rel e1 q2).kept (Kept.of e2) (rel.grow e1).own.soft
          exact ⟨a, vs, n, j, rfl, o2.int q1, hv, by rw [r.length]; exact q3, h2 _ _ (lst_change rel2 q ha hv (r.set rv j))⟩
/-- how keys are told -/
theorem put_V {κ μ : Type} [DecidableEq κ] [DecidableEq μ] {f : κ → μ} (inj : ∀ a b, f a = f b → a = b) {k : κ} {d : D} {v : V} (hd : Rep W H O d v) : ∀ {kvs : List (κ × D)} {ws : List (μ × V)}, ws.map (·.1) = kvs.map (fun p => f p.1) → Reps W H O (kvs.map (·.2)) (ws.map (·.2)) →
    (ws.any fun kv => decide (kv.1 = f k)) = (kvs.any fun kv => decide (kv.1 = k)) ∧
    (ws.map fun kv => if kv.1 = f k then (kv.1, v) else kv).map (·.1) = (kvs.map fun kv => if kv.1 = k then (kv.1, d) else kv).map (fun p => f p.1) ∧
    Reps W H O ((kvs.map fun kv => if kv.1 = k then (kv.1, d) else kv).map (·.2)) ((ws.map fun kv => if kv.1 = f k then (kv.1, v) else kv).map (·.2))
  | [], ws, h, r => by
    have : ws = [] := by cases ws with | nil => rfl | cons _ _ => cases h
    subst this; exact ⟨rfl, rfl, rfl⟩
  | (q, e) :: kvs, [], h, r => by cases h
  | (q, e) :: kvs, (m, w) :: ws, h, r => by
    simp only [List.map_cons, List.cons.injEq] at h
    obtain ⟨x, t, e1, r1, r2⟩ := r
    simp only [List.map_cons, List.cons.injEq] at e1
    obtain ⟨i1, i2, i3⟩ := put_V inj hd (k := k) h.2 (e1.2 ▸ r2)
    by_cases hk : q = k
    · have hm : m = f k := by rw [h.1, hk]
      refine ⟨by simp [hk, hm], ?_, ?_⟩
      · simp only [List.map_cons, if_pos hk, if_pos hm]; rw [i2]; simp [h.1]
      · simp only [List.map_cons, if_pos hk, if_pos hm]; exact ⟨v, _, rfl, hd, i3⟩
    · have hm : ¬ m = f k := fun z => hk (inj _ _ (by rw [← h.1, z]))
      refine ⟨by simp [hk, hm]; simpa using i1, ?_, ?_⟩
      · simp only [List.map_cons, if_neg hk, if_neg hm]; rw [i2]; simp [h.1]
      · simp only [List.map_cons, if_neg hk, if_neg hm]; exact ⟨w, _, rfl, e1.1 ▸ r1, i3⟩
theorem putT_V {ns : List Int} {d : D} {v : V} (hd : Rep W H O d v) {kvs : List (List Int × D)} {ws : List (List Key × V)} (h : ws.map (·.1) = kvs.map (fun p => p.1.map Sum.inl)) (r : Reps W H O (kvs.map (·.2)) (ws.map (·.2))) :
    (L2.putK ws (ns.map Sum.inl) v).map (·.1) = (putT ns d kvs).map (fun p => p.1.map Sum.inl) ∧ Reps W H O ((putT ns d kvs).map (·.2)) ((L2.putK ws (ns.map Sum.inl) v).map (·.2)) := by
  obtain ⟨i1, i2, i3⟩ := put_V (f := fun l : List Int => (l.map Sum.inl : List Key)) (k := ns) (fun a b e => inl_inj e) hd h r
  unfold L2.putK putT
  rw [i1]
  by_cases hc : (kvs.any fun kv => decide (kv.1 = ns)) = true
  · rw [if_pos hc, if_pos hc]; exact ⟨i2, i3⟩
  · rw [if_neg hc, if_neg hc]
    refine ⟨by simp [h], ?_⟩
    rw [List.map_append, List.map_append]
    exact Reps.append r ⟨v, [], rfl, hd, rfl⟩
theorem putK_V {k : Key} {d : D} {v : V} (hd : Rep W H O d v) {kvs : List (Key × D)} {ws : List (Key × V)} (h : ws.map (·.1) = kvs.map (·.1)) (r : Reps W H O (kvs.map (·.2)) (ws.map (·.2))) :
    (L2.putK ws k v).map (·.1) = (putK k d kvs).map (·.1) ∧ Reps W H O ((putK k d kvs).map (·.2)) ((L2.putK ws k v).map (·.2)) := by
  obtain ⟨i1, i2, i3⟩ := put_V (f := fun l : Key => l) (k := k) (fun a b e => e) hd h r
  unfold L2.putK putK
  rw [i1]
  by_cases hc : (kvs.any fun kv => decide (kv.1 = k)) = true
  · rw [if_pos hc, if_pos hc]; exact ⟨i2, i3⟩
  · rw [if_neg hc, if_neg hc]
    refine ⟨by simp [h], ?_⟩
    rw [List.map_append, List.map_append]
    exact Reps.append r ⟨v, [], rfl, hd, rfl⟩
theorem map_len {α β γ : Type} {f : α → γ} {g : β → γ} {l : List α} {m : List β} (h : l.map f = m.map g) : l.length = m.length := by
  have := congrArg List.length h
  simpa using this
theorem ss_dput {k e : Expr} {ek ee : Ex} {i : Nat} {y : Str} {p p2 pos : Pos} (C : Cn X Wx N sc fc) (hN : X.N[i]? = some y) (hv : Vis X.env.scope y) (hd : (y == ("__debug__" : Str)) = false) (hcd : (y == ("__classdict__" : Str)) = false)
    (K : SE X Z R Wx k ek) (A : SE X Z R Wx e ee) (hs : swapsWith e (some (.Subscript (.Name y p) k p2)) pos.line X.env = pure false) : SS X Z R Wx sub (.Assign [.Subscript (.Name y p) k p2] e pos) (.dput i ek ee) :=
  SS.of (ps_dput (by have := C.hu; omega) (pe_var hN hv hd hcd) (pw k) (pw e) hs) fun Oc H0 σd σ H D rel p => by
    unfold execS at p
    refine A Oc H0 σd σ H _ rel (lift_post p rel fun rx v H1 er e1 o1 h1 => ?_)
    cases q : σd[i]? with
    | none => rw [q] at h1; exact h1.elim
    | some sl =>
      rw [q] at h1
      cases sl with
      | t kvs =>
        obtain ⟨a, ha, _⟩ := rel.slots i _ q
        refine ⟨_, ha, K Oc H0 σd σ H1 _ (rel.grow e1) (lift_post h1 (rel.grow e1) fun ry u H2 er2 e2 o2 h2 => ?_)⟩
        have rel2 := (rel.grow e1).grow e2
        obtain ⟨a', ha', n, ws, w1, w2, w3⟩ := rel2.slots i _ q
        rw [ha] at ha'; cases ha'
        unfold putTD at h2
        cases q1 : keyT ry with
        | none => rw [q1] at h2; exact h2.elim
        | some ns =>
          cases q2 : rx.asV with
          | none => rw [q1, q2] at h2; exact h2.elim
          | some d =>
            rw [q1, q2] at h2
            dsimp only at h2
            split at h2
            · rename_i hc
              obtain ⟨b, eb, hb⟩ := keyT_at o2 q1
              subst eb
              have rv : Rep (wd X Z) H2 (OT Oc σd σ) d v := (o1.rep rel e1 q2).kept (Kept.of e2) (rel.grow e1).own.soft
              obtain ⟨g1, g2⟩ := putT_V (ns := ns) rv w2 w3
              refine ⟨a, _, rfl, DPut.t w1 hb (by
                have hl := map_len w2
                have hs1 := PySem.sizeLine_eq
                have hs2 : cap = 1000000 := rfl
                omega), h2 _ _ (rel2.change (sl := .t kvs) q rfl rfl ha (fun ps z => by cases z) ⟨_, upd_same, g1, g2.kept (fun b o e nb _ => ?_) rel2.own.soft⟩)⟩
              rw [upd_ne (fun z => nb (.inr ⟨i, .t kvs, q, rfl, by rw [ha, z]⟩))]
              exact e
            · exact h2.elim
      | k kvs =>
        obtain ⟨a, ha, _⟩ := rel.slots i _ q
        refine ⟨_, ha, K Oc H0 σd σ H1 _ (rel.grow e1) (lift_post h1 (rel.grow e1) fun ry u H2 er2 e2 o2 h2 => ?_)⟩
        have rel2 := (rel.grow e1).grow e2
        obtain ⟨a', ha', n, ws, w1, w2, w3⟩ := rel2.slots i _ q
        rw [ha] at ha'; cases ha'
        unfold putKD at h2
        cases q1 : keyK ry with
        | none => rw [q1] at h2; exact h2.elim
        | some ns =>
          cases q2 : rx.asV with
          | none => rw [q1, q2] at h2; exact h2.elim
          | some d =>
            rw [q1, q2] at h2
            dsimp only at h2
            split at h2
            · rename_i hc
              have eb := keyK_at o2 q1
              subst eb
              have rv : Rep (wd X Z) H2 (OT Oc σd σ) d v := (o1.rep rel e1 q2).kept (Kept.of e2) (rel.grow e1).own.soft
              obtain ⟨g1, g2⟩ := putK_V (k := ns) rv w2 w3
              refine ⟨a, _, rfl, DPut.k w1 (by
                have hl := map_len w2
                have hs1 := PySem.sizeLine_eq
                have hs2 : cap = 1000000 := rfl
                omega), h2 _ _ (rel2.change (sl := .k kvs) q rfl rfl ha (fun ps z => by cases z) ⟨_, upd_same, g1, g2.kept (fun b o e nb _ => ?_) rel2.own.soft⟩)⟩
              rw [upd_ne (fun z => nb (.inr ⟨i, .k kvs, q, rfl, by rw [ha, z]⟩))]
              exact e
            · exact h2.elim
      | _ => exact h1.elim
end Ev


set_option Elab.async false
set_option linter.all false
set_option maxRecDepth 100000
set_option maxHeartbeats 4000000
namespace Ev
open PySem PySem.Spec L2
variable {O : Addr → Prop} {σd : List Sl} {σ : L2.St} {H H1 H2 H' : Hp} {Q : VK} {Ew : XK} {Oc : Addr → Prop} {H0 : Hp}
variable {X : Cx} {Z : Zd} {R : Rt} {Wx : WX} {N : List Str} {sc : Scope} {fc : Str → Bool} {W : Wd} {sub : Nat → List Nat → Option Bool}
/-! ### x.append(..) and the like -/
def nmL : LM → Str
  | .append => "append" | .extend => "extend" | .pop => "pop" | .popAt => "pop" | .reverse => "reverse" | .clear => "clear" | .insert => "insert"
theorem var_run {i : Nat} {y : Str} {p : Pos} (hN : X.N[i]? = some y) (hv : Vis X.env.scope y) (hd : (y == ("__debug__" : Str)) = false) (hcd : (y == ("__classdict__" : Str)) = false) : PE X (.Name y p) (tVar i) := pe_var hN hv hd hcd
def idL : LM → String
  | .append => "list.append" | .extend => "list.extend" | .pop => "list.pop" | .popAt => "list.pop" | .reverse => "list.reverse" | .clear => "list.clear" | .insert => "list.insert"
theorem slL (m : LM) : Slot "list" (nmL m) (idL m) := by
  cases m with
  | append => exact PySem.F.slot_list_append
  | extend => exact PySem.F.slot_list_extend
  | pop => exact PySem.F.slot_list_pop
  | popAt => exact PySem.F.slot_list_pop
  | reverse => exact PySem.F.slot_list_reverse
  | clear => exact PySem.F.slot_list_clear
  | insert => exact PySem.F.slot_list_insert
theorem tyL (m : LM) : typeOf (.builtin (idL m)) = pure (.type "method_descriptor") := by
  cases m with
  | append => exact PySem.F.type_list_append
  | extend => exact PySem.F.type_list_extend
  | pop => exact PySem.F.type_list_pop
  | popAt => exact PySem.F.type_list_pop
  | reverse => exact PySem.F.type_list_reverse
  | clear => exact PySem.F.type_list_clear
  | insert => exact PySem.F.type_list_insert
/-- the change itself -/
theorem lm_run {i : Nat} {m : LM} {ys : List D} {rs : List RV} {vs : List V} {a : Addr} {D : Ends} (rel : RelS (wd X Z) Oc H0 σd σ H) (q : σd[i]? = some (.l ys)) (ha : σ[i]? = some (some (V.ref a))) (o : ∀ as, allV rs = some as → Reps (wd X Z) H (OT Oc σd σ) as vs)
    (h : PostS (wd X Z) Oc H0 (lmX σd i m ys rs) D Wx) : mW X (idL m) (.ref a) vs H fun _ H1 => D.nx σ H1 := by
  unfold lmX at h
  cases qa : allV rs with
  | none => rw [qa] at h; exact h.elim
  | some as =>
    rw [qa] at h
    dsimp only at h
    have r := o as qa
    obtain ⟨a', us, ha', hl, rl⟩ := own_at rel q
    rw [ha] at ha'; cases ha'
    have hcap : cap = 1000000 := rfl
    have hsz := PySem.sizeLine_eq
    unfold lmD at h
    cases m with
    | append =>
      cases as with
      | nil => exact h.elim
      | cons d r2 => cases r2 with
        | cons _ _ => exact h.elim
        | nil =>
          obtain ⟨v, t, e1, h1, h2⟩ := r
          have e2 : t = [] := h2
          subst e2
          dsimp only at h
          by_cases hc : ys.length < cap
          · rw [if_pos hc] at h
            exact (MtR.w mt_append ⟨a, us, v, rfl, e1, hl, by rw [rl.length]; omega, h _ _ (lst_change rel q ha hl (Reps.append rl (Reps.one h1)))⟩)
          · rw [if_neg hc] at h; exact h.elim
    | extend =>
      cases as with
      | nil => exact h.elim
      | cons d r2 => cases r2 with
        | cons _ _ => cases d <;> exact h.elim
        | nil =>
          cases d with
          | lst zs =>
            obtain ⟨v, t, e1, ⟨b, ws, e3, e4, e5, e6⟩, h2⟩ := r
            have e2 : t = [] := h2
            subst e2
            subst e3
            dsimp only at h
            by_cases hc : ys.length + zs.length ≤ cap
            · rw [if_pos hc] at h
              exact (MtR.w mt_extend ⟨a, b, us, ws, rfl, e1, hl, e4, by rw [rl.length, e6.length]; omega, h _ _ (lst_change rel q ha hl (Reps.append rl e6))⟩)
            · rw [if_neg hc] at h; exact h.elim
          | _ => exact h.elim
    | reverse =>
      cases as with
      | cons _ _ => exact h.elim
      | nil =>
        have e2 : vs = [] := r
        exact (MtR.w mt_reverse ⟨a, us, rfl, e2, hl, h _ _ (lst_change rel q ha hl rl.reverse)⟩)
    | clear =>
      cases as with
      | cons _ _ => exact h.elim
      | nil =>
        have e2 : vs = [] := r
        exact (MtR.w mt_clear ⟨a, us, rfl, e2, hl, h _ _ (lst_change rel q ha hl (show Reps _ _ _ [] [] from rfl))⟩)
    | pop =>
      cases as with
      | cons _ _ => exact h.elim
      | nil =>
        have e2 : vs = [] := r
        dsimp only at h
        by_cases he : ys.isEmpty = true
        · rw [if_pos he] at h; exact h.elim
        · rw [if_neg he] at h
          have hlen : 0 < us.length := by
            rw [rl.length]
            cases ys with
            | nil => exact (he rfl).elim
            | cons _ _ => simp
          have hr : Reps (wd X Z) H (OT Oc σd σ) ys.dropLast us.dropLast := by
            rw [List.dropLast_eq_take, List.dropLast_eq_take, rl.length]
            exact rl.take _
          exact (MtR.w mt_pop ⟨a, us, us[us.length - 1], rfl, e2, hl, List.getElem?_eq_getElem (by omega), h _ _ (lst_change rel q ha hl hr)⟩)
    | popAt => cases as <;> exact h.elim
    | insert => cases as <;> exact h.elim
theorem own_recv {i : Nat} {ys : List D} {a : Addr} (rel : RelS (wd X Z) Oc H0 σd σ H) (q : σd[i]? = some (.l ys)) (ha : σ[i]? = some (some (V.ref a))) : recvW X "list" (.ref a) H := by
  obtain ⟨a', us, ha', hl, rl⟩ := own_at rel q
  rw [ha] at ha'; cases ha'
  exact recv_lst (.inl (.inl hl))
theorem RVsOk.here : ∀ {rs : List RV} {vs : List V}, RelS W Oc H0 σd σ H → Ext W.T H H1 → (allV rs).isSome = true → RVsOk W (OT Oc σd σ) σd σ H H1 rs vs → ∃ ds, allV rs = some ds ∧ Reps W H1 (OT Oc σd σ) ds vs := fun {rs vs} rel e hs o => by
  cases q : allV rs with
  | none => rw [q] at hs; cases hs
  | some ds => exact ⟨ds, rfl, o.reps rel e q⟩
theorem lmX_some {i : Nat} {m : LM} {ys : List D} {rs : List RV} {D : Ends} (h : PostS W Oc H0 (lmX σd i m ys rs) D Wx) : (allV rs).isSome = true := by
  unfold lmX at h
  cases q : allV rs with
  | none => rw [q] at h; exact h.elim
  | some ds => rfl
theorem ss_lm0 {i : Nat} {m : LM} {y : Str} {p apos cpos pos : Pos} (hN : X.N[i]? = some y) (hv : Vis X.env.scope y) (hd : (y == ("__debug__" : Str)) = false) (hcd : (y == ("__classdict__" : Str)) = false) (hline : (apos.endLine == cpos.line) = true) :
    SS X Z R Wx sub (.Expr (.Call (.Attribute (.Name y p) (nmL m) apos) [] [] cpos) pos) (.lm i m .nil) :=
  SS.of (ps_expr (pe_bmW0 (pe_var hN hv hd hcd) rfl hline) rfl) fun Oc H0 σd σ H D rel p => by
    unfold execS at p
    obtain ⟨ys, q, h⟩ := ownThen_post p
    obtain ⟨a, us, ha, hl, _⟩ := own_at rel q
    have ev : evalL R .nil σd = .ok [] := by unfold evalL; rfl
    rw [ev] at h
    exact ⟨_, ha, "list", idL m, PySem.F.plainAttrs_list, slL m, tyL m, own_recv rel q ha, lm_run rel q ha (rs := []) (vs := []) (fun as e => by cases e; rfl) h⟩
theorem ss_lm {i : Nat} {m : LM} {y : Str} {e : Expr} {es : List Expr} {xs : Exs} {p apos cpos pos : Pos} (hN : X.N[i]? = some y) (hv : Vis X.env.scope y) (hd : (y == ("__debug__" : Str)) = false) (hcd : (y == ("__classdict__" : Str)) = false) (hline : (apos.endLine == cpos.line) = true)
    (A : SA X Z R Wx (e :: es) xs) (hs : (e :: es).all noStar = true) (hl : (e :: es).length < 30) :
    SS X Z R Wx sub (.Expr (.Call (.Attribute (.Name y p) (nmL m) apos) (e :: es) [] cpos) pos) (.lm i m xs) :=
  SS.of (ps_expr (pe_bmW (pe_var hN hv hd hcd) (pwA (e :: es)) rfl hs hl hline) rfl) fun Oc H0 σd σ H D rel p => by
    unfold execS at p
    obtain ⟨ys, q, h⟩ := ownThen_post p
    obtain ⟨a, us, ha, _, _⟩ := own_at rel q
    exact ⟨_, ha, "list", idL m, PySem.F.plainAttrs_list, slL m, tyL m, own_recv rel q ha, A Oc H0 σd σ H _ rel (liftA_post h rel fun rs vs H1 er e1 o1 h1 =>
      lm_run (rel.grow e1) q ha (fun as qa => o1.reps rel e1 qa) h1)⟩
theorem ss_pop {i j : Nat} {x y : Str} {px py apos cpos pos : Pos} (C : Cn X Wx N sc fc) (hx : X.N[j]? = some x) (lx : Loc X.env.scope x) (hf : X.fn x = true ∨ X.env.scope.names.lookup x = some .local)
    (hN : X.N[i]? = some y) (hv : Vis X.env.scope y) (hd : (y == ("__debug__" : Str)) = false) (hcd : (y == ("__classdict__" : Str)) = false) (hline : (apos.endLine == cpos.line) = true) (hij : i ≠ j) :
    SS X Z R Wx sub (.Assign [.Name x px] (.Call (.Attribute (.Name y py) "pop" apos) [] [] cpos) pos) (.popS j i .nil) :=
  SS.of (ps_set C.nd hx lx (pe_bmW0 (pe_var hN hv hd hcd) rfl hline) rfl hf) fun Oc H0 σd σ H D rel p => by
    unfold execS at p
    unfold ownL at p
    cases q : σd[i]? with
    | none => rw [q] at p; exact p.elim
    | some sl =>
      rw [q] at p
      cases sl with
      | l ys =>
        dsimp only at p
        obtain ⟨a, us, ha, hl, rl⟩ := own_at rel q
        cases ql : ys.getLast? with
        | none => rw [ql] at p; exact p.elim
        | some d =>
          rw [ql] at p
          have hlen := rl.length
          have hne : ys ≠ [] := fun z => by rw [z] at ql; cases ql
          have h0 : 0 < ys.length := List.length_pos_iff.mpr hne
          have hd : ys[ys.length - 1]? = some d := by rw [← ql, List.getLast?_eq_getElem?]
          obtain ⟨v, hv, rv⟩ := rl.get hd
          have hr : Reps (wd X Z) H (OT Oc σd σ) ys.dropLast us.dropLast := by
            rw [List.dropLast_eq_take, List.dropLast_eq_take, hlen]
            exact rl.take _
          refine ⟨_, ha, "list", "list.pop", PySem.F.plainAttrs_list, PySem.F.slot_list_pop, PySem.F.type_list_pop, own_recv rel q ha, MtR.w mt_pop ⟨a, us, v, rfl, rfl, hl, by rw [hlen]; exact hv, ?_⟩⟩
          have R2 := lst_change rel q ha hl hr
          refine p _ _ (R2.put ?_)
          have kp : Kept (OT Oc σd σ) H (upd H a (.lst us.dropLast)) := fun b o e nb _ => by
            rw [upd_ne (fun z => nb (.inr ⟨i, .l ys, q, rfl, by rw [ha, z]⟩))]; exact e
          refine (rv.kept kp rel.own.soft).less fun b hb => ?_
          rcases hb with hb | ⟨k, s2, k1, k2, k3⟩
          · exact .inl hb
          · by_cases hk : i = k
            · subst hk
              exact .inr ⟨i, .l ys, q, rfl, k3⟩
            · rw [List.getElem?_set_ne hk] at k1
              exact .inr ⟨k, s2, k1, k2, k3⟩
      | _ => exact p.elim
/-! ### the smaller ones -/
theorem ss_aug {i : Nat} {y : Str} {e : Expr} {x : Ex} {o : BO} {p pos : Pos} (C : Cn X Wx N sc fc) (hN : X.N[i]? = some y) (hx : Loc X.env.scope y) (hf : X.fn y = true ∨ X.env.scope.names.lookup y = some .local) (ho : o = .add ∨ o = .sub) (A : SE X Z R Wx e x) :
    SS X Z R Wx sub (.AugAssign (.Name y p) (opOf o) e pos) (.aug i o x) := by
  have run : ∀ (f : Int → Int → Int), (∀ m n, binI o m n = .ok (.v (.int (f m n)))) → PIp X (opOf o) (ipI f) → SS X Z R Wx sub (.AugAssign (.Name y p) (opOf o) e pos) (.aug i o x) := fun f hb hp =>
    SS.of (ps_aug C.nd hN hx (pw e) hp hf) fun Oc H0 σd σ H D rel p => by
      unfold execS at p
      cases q : σd[i]? with
      | none => rw [q] at p; exact p.elim
      | some sl =>
        rw [q] at p
        cases sl with
        | d d =>
          cases d with
          | int m =>
            obtain ⟨u, hu, hr⟩ := rel.slots i _ q
            refine ⟨u, hu, A Oc H0 σd σ H _ rel (lift_post p rel fun rx v H1 er e1 o1 h1 => ?_)⟩
            cases q1 : asInt rx with
            | none => rw [q1] at h1; exact h1.elim
            | some n =>
              rw [q1] at h1
              dsimp only at h1
              rw [hb m n] at h1
              exact ⟨m, n, hr, o1.int q1, h1 _ _ ((rel.grow e1).put (d := .int (f m n)) rfl)⟩
          | _ => exact p.elim
        | _ => exact p.elim
  rcases ho with rfl | rfl
  · exact run _ (fun _ _ => rfl) ip_add
  · exact run _ (fun _ _ => rfl) ip_sub
theorem ss_expr {e : Expr} {x : Ex} {pos : Pos} (A : SE X Z R Wx e x) (hs : noLc e = true) : SS X Z R Wx sub (.Expr e pos) (.expr x) :=
  SS.of (ps_expr (pw e) (sw_no hs)) fun Oc H0 σd σ H D rel p => by
    unfold execS at p
    exact A Oc H0 σd σ H _ rel (lift_post p rel fun rx v H1 er e1 o1 h1 => h1 _ _ (rel.grow e1))
theorem ss_ret {e : Expr} {x : Ex} {pos : Pos} (A : SE X Z R Wx e x) : SS X Z R Wx sub (.Return (some e) pos) (.ret x) :=
  SS.of (ps_ret (pw e)) fun Oc H0 σd σ H D rel p => by
    unfold execS at p
    refine A Oc H0 σd σ H _ rel (lift_post p rel fun rx v H1 er e1 o1 h1 => ?_)
    have e01 := rel.ext.trans e1
    cases rx with
    | v d => exact h1 v H1 e01 (Rep.less (fun b hb => .inl hb) _ _ o1)
    | f xs =>
      obtain ⟨a, rfl, n, q⟩ := o1
      exact h1 _ H1 e01 ⟨a, rfl, rel.ext.none n, q.imp fun ds vs r => r.less fun b hb => hb.elim (fun z => .inl (.inl z)) .inr⟩
    | b i xs =>
      obtain ⟨k1, k2⟩ := o1
      obtain ⟨a, e2, n, q⟩ := (rel.grow e1).slots i _ k1
      rw [k2] at e2
      cases e2
      refine h1 _ H1 e01 ⟨a, rfl, n, q.imp fun ds vs r => r.less fun b hb => ?_⟩
      rcases hb with hb | hb
      · exact .inl hb
      · exact .inr ⟨i, .l xs, k1, rfl, by rw [hb]; exact k2⟩
    | _ => exact h1.elim
theorem ss_retN {pos : Pos} : SS X Z R Wx sub (.Return none pos) .retN := SS.of ps_retN fun Oc H0 σd σ H D rel p => by
  unfold execS at p
  exact p .non H rel.ext rfl
theorem ss_pass {pos : Pos} : SS X Z R Wx sub (.Pass pos) .pass := SS.of ps_pass fun Oc H0 σd σ H D rel p => by
  unfold execS at p
  exact p σ H rel
theorem ss_brk {pos : Pos} : SS X Z R Wx sub (.Break pos) .brk := SS.of ps_break fun Oc H0 σd σ H D rel p => by
  unfold execS at p
  exact p σ H rel
theorem ss_cont {pos : Pos} : SS X Z R Wx sub (.Continue pos) .cont := SS.of ps_continue fun Oc H0 σd σ H D rel p => by
  unfold execS at p
  exact p σ H rel
theorem ss_if {c : Expr} {a b : List Stmt} {x : Ex} {xa xb : Stms} {pos : Pos} (C : ST X Z R Wx c x) (A : SSs X Z R Wx sub a xa) (B : SSs X Z R Wx sub b xb) : SS X Z R Wx sub (.If c a b pos) (.ifs x xa xb) :=
  SS.of (ps_if (pwT c) (pwSs a) (pwSs b)) fun Oc H0 σd σ H D rel p => by
    unfold execS at p
    refine C Oc H0 σd σ H _ rel (liftT_post p rel (fun rv hn q => ?_) fun t H1 er e h => ?_)
    · cases rv with
      | v d => cases d with
        | bl t => exact hn t rfl
        | _ => exact q
      | _ => exact q
    · cases t with
      | true => rw [if_pos rfl]; exact A Oc H0 σd σ H1 D (rel.grow e) h
      | false => rw [if_neg Bool.false_ne_true]; exact B Oc H0 σd σ H1 D (rel.grow e) h
end Ev


set_option Elab.async false
set_option linter.all false
set_option maxRecDepth 100000
set_option maxHeartbeats 4000000
namespace Ev
open PySem PySem.Spec L2
variable {O : Addr → Prop} {σd : List Sl} {σ : L2.St} {H H1 H2 H' : Hp} {Q : VK} {Ew : XK} {Oc : Addr → Prop} {H0 : Hp}
variable {X : Cx} {Z : Zd} {R : Rt} {Wx : WX} {N : List Str} {sc : Scope} {fc : Str → Bool} {W : Wd} {sub : Nat → List Nat → Option Bool}
theorem ss_while {c : Expr} {b : List Stmt} {x : Ex} {xb : Stms} {pos : Pos} (hp : PassesOwn (model X.prog X.w) X.A X.env X.xe) (C : ST X Z R Wx c x) (B : SSs X Z R Wx sub b xb) : SS X Z R Wx sub (.While c b [] pos) (.whileS x xb) :=
  SS.of (ps_while hp (pwT c) (pwSs b)) fun Oc H0 σd σ H D rel p => by
    unfold execS at p
    refine ⟨fun m σ' H' => ∃ σd', RelS (wd X Z) Oc H0 σd' σ' H' ∧ PostS (wd X Z) Oc H0 (whileR (fun σ' => evalE R x σ') (fun σ' => execB sub R xb σ') m σd') D Wx, ⟨fuel, σd, rel, p⟩, ?_⟩
    rintro m σ' H' ⟨σd', rel', p'⟩
    cases m with
    | zero => unfold whileR at p'; exact p'.elim
    | succ m =>
      unfold whileR at p'
      refine C Oc H0 σd' σ' H' _ rel' (liftT_post p' rel' (fun rv hn q => ?_) fun t H1 er e h => ?_)
      · cases rv with
        | v d => cases d with
          | bl t => exact hn t rfl
          | _ => exact q
        | _ => exact q
      · cases t with
        | false => rw [if_neg Bool.false_ne_true]; exact h σ' H1 (rel'.grow e)
        | true =>
          rw [if_pos rfl]
          refine ⟨fun σ2 H2 => ∃ σd2, RelS (wd X Z) Oc H0 σd2 σ2 H2 ∧ PostS (wd X Z) Oc H0 (whileR (fun σ' => evalE R x σ') (fun σ' => execB sub R xb σ') m σd2) D Wx, fun σ2 H2 q => ⟨m, Nat.lt_succ_self m, q⟩, ?_⟩
          refine B Oc H0 σd' σ' H1 _ (rel'.grow e) ?_
          dsimp only at h
          cases q : execB sub R xb σd' with
          | exc c fs => rw [q] at h; exact h.elim
          | stuck => rw [q] at h; exact h.elim
          | ok o =>
            rw [q] at h
            cases o with
            | nx σd2 => exact fun σ2 H2 r => ⟨σd2, r, h⟩
            | ct σd2 => exact fun σ2 H2 r => ⟨σd2, r, h⟩
            | bk σd2 => exact h
            | ret rv => exact h
            | ex c fs σd2 => exact h
theorem ss_for {tg iter : Expr} {b : List Stmt} {tgn : List Nat} {it : It} {xb : Stms} {pos : Pos} (cal : X.calm = true) (hp : PassesOwn (model X.prog X.w) X.A X.env X.xe) (I : SI X Z R Wx tg iter it) (G : PG X tg (gT X.K tgn)) (B : SSs X Z R Wx sub b xb) (hs : noSet iter = true) :
    SS X Z R Wx sub (.For tg iter b [] pos) (.forS tgn it xb) :=
  SS.of (ps_for hp cal (pwI tg iter) G (pwSs b) (fold_ok hs)) fun Oc H0 σd σ H D rel p => by
    unfold execS at p
    refine I Oc H0 σd σ H _ rel ?_
    cases qi : evalI R it σd with
    | exc c fs => rw [qi] at p; exact fun cls dx H' e o => p cls dx σ H' (rel.grow e) o
    | stuck => rw [qi] at p; exact p.elim
    | ok it1 =>
      obtain ⟨items, lent⟩ := it1
      rw [qi] at p
      have p1 : PostS (wd X Z) Oc H0 (if lent then .stuck else forR (fun d σ' => (ofOpt (bindT tgn d σ')).bind fun σ2 => execB sub R xb σ2) items σd) D Wx := p
      cases lent with
      | true => exact p1.elim
      | false =>
        have p2 : PostS (wd X Z) Oc H0 (forR (fun d σ' => (ofOpt (bindT tgn d σ')).bind fun σ2 => execB sub R xb σ2) items σd) D Wx := p1
        intro J H1 e1 wk
        obtain ⟨n, G1, Y, w, hn, wk'⟩ := wk
        have rel1 := rel.grow e1
        have base := rel1.base
        obtain ⟨wg, wy⟩ := wk' (fun a => OT Oc σd σ a ∨ H1 a = none) fun a ha => ha
        have so1 : Soft (fun a => OT Oc σd σ a ∨ H1 a = none) H1 := fun a ha o ho => by
          rcases ha with ha | ha
          · exact rel1.own.soft a ha o ho
          · rw [ha] at ho; cases ho
        -- what every later state keeps of the start
        have keep : ∀ {σd' : List Sl} {σ' : L2.St} {H' : Hp}, RelS (wd X Z) Oc (firm σd σ H1) σd' σ' H' → KeepL (wd X Z) false (OwnS σd σ) (fun a => OT Oc σd σ a ∨ H1 a = none) H1 H' := fun {σd' σ' H'} r => by
          refine ⟨fun b o hb nb t => r.ext.keep b o ?_ t, so1, fun z => by cases z⟩
          rw [firm_ne (fun z => nb (.inl (.inr z)))]
          exact hb
        have subO : ∀ {σd' : List Sl} {σ' : L2.St} {H' : Hp}, RelS (wd X Z) Oc (firm σd σ H1) σd' σ' H' → ∀ a, OT Oc σd' σ' a → OT Oc σd σ a ∨ H1 a = none := fun {σd' σ' H'} r a ha => by
          rcases ha with ha | ha
          · exact .inl (.inl ha)
          · have q := (r.ownS ha).1
            by_cases ho : OwnS σd σ a
            · exact .inl (.inr ho)
            · rw [firm_ne ho] at q; exact .inr q
        refine for_it w (fun i σ' H' => ∃ σd', RelS (wd X Z) Oc (firm σd σ H1) σd' σ' H' ∧ PostS (wd X Z) Oc H0 (forR (fun d σ' => (ofOpt (bindT tgn d σ')).bind fun σ2 => execB sub R xb σ2) (items.drop i) σd') D Wx) ⟨σd, base, p2⟩ (fun i σ' H' _ ⟨σd', r, _⟩ => wg H' (keep r)) (fun i x σ' H' H'' hi ⟨σd', r, q⟩ y => ?_) fun σ' H' ⟨σd', r, q⟩ => ?_
        · have hil : i < items.length := by rw [← hn]; exact hi
          have hit : items[i]? = some items[i] := List.getElem?_eq_getElem hil
          obtain ⟨e2, rx⟩ := wy i items[i] H' x H'' (OT Oc σd' σ') (subO r) r.own.soft hit (keep r) y
          rw [List.drop_eq_getElem_cons hil] at q
          unfold forR at q
          have r2 := r.grow e2
          cases hb : bindT tgn items[i] σd' with
          | none => rw [hb] at q; exact q.elim
          | some σd2 =>
            rw [hb] at q
            have q' : PostS (wd X Z) Oc H0 (match execB sub R xb σd2 with
              | .ok (.nx σ') => forR (fun d σ' => (ofOpt (bindT tgn d σ')).bind fun σ2 => execB sub R xb σ2) (items.drop (i + 1)) σ'
              | .ok (.ct σ') => forR (fun d σ' => (ofOpt (bindT tgn d σ')).bind fun σ2 => execB sub R xb σ2) (items.drop (i + 1)) σ'
              | .ok (.bk σ') => .ok (.nx σ')
              | r => r) D Wx := q
            refine gT_ok r2 rx hb fun σ2 r3 _ => ?_
            refine B Oc (firm σd σ H1) σd2 σ2 H'' _ r3 ?_
            have back : ∀ {σd3 : List Sl} {σ3 : L2.St} {H3 : Hp}, RelS (wd X Z) Oc (firm σd σ H1) σd3 σ3 H3 → RelS (wd X Z) Oc H0 σd3 σ3 H3 := fun {σd3 σ3 H3} r => r.unbase rel1.below rel1.oc
            cases qb : execB sub R xb σd2 with
            | exc c fs => rw [qb] at q'; exact q'.elim
            | stuck => rw [qb] at q'; exact q'.elim
            | ok o =>
              rw [qb] at q'
              cases o with
              | nx σd3 => exact fun σ3 H3 r => ⟨σd3, r, q'⟩
              | ct σd3 => exact fun σ3 H3 r => ⟨σd3, r, q'⟩
              | bk σd3 => exact fun σ3 H3 r => q' σ3 H3 (back r)
              | ret rv =>
                refine fun v H3 e3 o3 => q' v H3 (rel1.below.trans e3) ?_
                cases rv with
                | v d => exact o3
                | f xs => exact NewOk.from o3 rel1.below
                | t xs => exact NewOk.from o3 rel1.below
                | k xs => exact NewOk.from o3 rel1.below
                | b i xs => exact o3
                | o i c fs => exact o3
              | ex c fs σd3 => exact fun cls dx σ3 H3 r o3 => q' cls dx σ3 H3 (back r) o3
        · rw [hn, List.drop_length] at q
          unfold forR at q
          exact q σ' H' (r.unbase rel1.below rel1.oc)
/-! ### __init__ -/
theorem putF_new {f : Str} {v : V} : ∀ {ps : List (Str × V)}, f ∉ ps.map (·.1) → L2.putF f v ps = ps ++ [(f, v)]
  | [], _ => rfl
  | (g, x) :: ps, h => by
    simp only [List.map_cons, List.mem_cons, not_or] at h
    unfold L2.putF
    rw [if_neg (Ne.symm h.1), putF_new h.2]; rfl
theorem not_taken {f : Str} : ∀ {fs : List Str} {k : Nat}, fs[k]? = some f → fs.Nodup → f ∉ fs.take k
  | [], k, h, _ => by simp at h
  | g :: fs, 0, _, _ => by simp
  | g :: fs, k + 1, h, nd => by
    simp at h
    rw [List.take_succ_cons, List.mem_cons, not_or]
    exact ⟨fun z => (List.nodup_cons.mp nd).1 (z ▸ List.mem_of_getElem? h), not_taken h (List.nodup_cons.mp nd).2⟩
theorem take_next {f : Str} : ∀ {fs : List Str} {k : Nat}, fs[k]? = some f → fs.take k ++ [f] = fs.take (k + 1)
  | [], k, h => by simp at h
  | g :: fs, 0, h => by simp at h; simp [h]
  | g :: fs, k + 1, h => by simp at h; simp [take_next h]
/-- self.f = e, within __init__ -/
theorem ss_fset {c k : Nat} {ci : ClsI} {y f : Str} {e : Expr} {x : Ex} {p p2 pos : Pos} (hN : X.N[(0 : Nat)]? = some y) (hv : Vis X.env.scope y) (hd : (y == ("__debug__" : Str)) = false) (hcd : (y == ("__classdict__" : Str)) = false) (ck : ClsOk X Z c ci) (hf : ci.fields[k]? = some f)
    (A : SE X Z R Wx e x) (hs : swapsWith e (some (.Attribute (.Name y p) f p2)) pos.line X.env = pure false) : SS X Z R Wx sub (.Assign [.Attribute (.Name y p) f p2] e pos) (.fset c k x) :=
  SS.of (ps_fld (pe_var hN hv hd hcd) (pw e) hs) fun Oc H0 σd σ H D rel p => by
    unfold execS at p
    refine A Oc H0 σd σ H _ rel (lift_post p rel fun rx v H1 er e1 o1 h1 => ?_)
    cases q : σd[(0 : Nat)]? with
    | none => rw [q] at h1; exact h1.elim
    | some sl =>
      rw [q] at h1
      cases sl with
      | o c' fs =>
        cases q2 : rx.asV with
        | none => rw [q2] at h1; exact h1.elim
        | some d =>
          rw [q2] at h1
          dsimp only at h1
          split at h1
          · rename_i hc
            obtain ⟨rfl, hl⟩ := hc
            have rel1 := rel.grow e1
            obtain ⟨a, ha, n, ws, dx, fvs, ci', w1, w2, w3, w4, w5⟩ := rel1.slots 0 _ q
            have ec : ci' = ci := by have := ck.at_; rw [show Z.cls c' = some ci' from w2] at this; exact Option.some.inj this
            subst ec
            have rl := w5.length
            simp at rl
            have kf : k < ci'.fields.length := (List.getElem?_eq_some_iff.mp hf).1
            have hfew := ck.few
            have nin : f ∉ fvs.map (·.1) := by rw [w3, hl]; exact not_taken hf ck.nd
            refine ⟨_, ha, a, _, dx, fvs, rfl, w1, ck.cls, ck.noat f (List.mem_of_getElem? hf), by omega, ?_⟩
            rw [putF_new nin]
            have rv := o1.rep rel e1 q2
            refine h1 _ _ (rel1.change (sl := .o c' fs) q rfl rfl ha (fun ps z => by cases z) ⟨ws, dx, fvs ++ [(f, v)], ci', upd_same, w2, ?_, ?_, ?_⟩)
            · rw [List.map_append, w3, List.length_append, hl]
              exact take_next hf
            · simp; omega
            · rw [List.map_append]
              refine Reps.kept (fun b o e nb _ => ?_) rel1.own.soft _ _ (Reps.append w5 ⟨v, [], rfl, rv, rfl⟩)
              rw [upd_ne (fun z => nb (.inr ⟨0, .o c' fs, q, rfl, by rw [ha, z]⟩))]
              exact e
          · exact h1.elim
      | _ => exact h1.elim
end Ev


set_option Elab.async false
set_option linter.all false
set_option maxRecDepth 100000
set_option maxHeartbeats 4000000
namespace Ev
open PySem PySem.Spec L2
variable {O : Addr → Prop} {σd : List Sl} {σ : L2.St} {H H1 H2 H' : Hp} {Q : VK} {Ew : XK} {Oc : Addr → Prop} {H0 : Hp}
variable {X : Cx} {Z : Zd} {R : Rt} {Wx : WX} {N : List Str} {sc : Scope} {fc : Str → Bool} {W : Wd} {sub : Nat → List Nat → Option Bool}
/-! ### the text against its tree -/
/-- the names of the text -/
structure Tab where
  fns : List (Str × Nat × Nat)
  cls : List (Str × Nat × Nat)
  ci : List (Nat × ClsI)
  me : List ((Nat × Str) × Nat × Nat)
  con : List (Str × Nat)
/-- what the world makes of them -/
structure Wo (X : Cx) (Z : Zd) (R : Rt) (T : Tab) : Prop where
  fn : ∀ x g np, T.fns.lookup x = some (g, np) → ∃ f, X.mg x = some (.ref f) ∧ FunOk X Z f np (R.call g)
  cl : ∀ x c np, T.cls.lookup x = some (c, np) → X.mg x = some (.ref (Z.cad c)) ∧ MakeOk X Z c np (R.new c)
  ci : ∀ c ci, T.ci.lookup c = some ci → ClsOk X Z c ci
  me : ∀ c m g np, T.me.lookup (c, m) = some (g, np) → ∃ f, Meth X.K (Z.cad c) m f ∧ FunOk X Z f np (R.call g)
  con : ∀ x k, T.con.lookup x = some k → ∃ u v d, R.con k = some d ∧ X.mg x = some u ∧ RelV v u ∧ ∀ H O, Rep (wd X Z) H O d v
  ty : ∀ x ∈ (["bool", "str"] : List Str), X.mg x = none
theorem Wo.blk {T : Tab} {s : Shared} {scope : Scope} {cenv : Env} {fp : List Addr} (w : Wo X Z R T) : Wo (X.blk s H scope cenv fp) Z R T :=
  ⟨w.fn, w.cl, fun c ci h => let q := w.ci c ci h; ⟨q.at_, q.cls, q.noat, q.nd, q.few⟩, w.me, w.con, w.ty⟩
def visB (sc : Scope) (x : Str) : Bool := match sc.names.lookup x with
  | some .local => true | some .cell => true | some .free => true | _ => false
def locB (sc : Scope) (x : Str) : Bool := match sc.names.lookup x with
  | some .local => true | some .cell => true | _ => false
def glB (sc : Scope) (x : Str) : Bool := match sc.names.lookup x with
  | some .globalImplicit => true | _ => false
def oddB (x : Str) : Bool := (x == ("__debug__" : Str)) || (x == ("__classdict__" : Str))
def varB (N : List Str) (sc : Scope) (i : Nat) (x : Str) : Bool := decide (N[i]? = some x) && visB sc x && !oddB x
def storeB (sc : Scope) (fc : Str → Bool) (x : Str) : Bool := locB sc x && (fc x || decide (sc.names.lookup x = some .local))
theorem visB_ok (C : Cn X Wx N sc fc) {x : Str} (h : visB sc x = true) : Vis X.env.scope x := by
  unfold Vis; rw [C.hsc]
  unfold visB at h
  split at h <;> first | exact .inl (by assumption) | exact .inr (.inl (by assumption)) | exact .inr (.inr (by assumption)) | cases h
theorem locB_ok (C : Cn X Wx N sc fc) {x : Str} (h : locB sc x = true) : L2.Loc X.env.scope x := by
  unfold L2.Loc; rw [C.hsc]
  unfold locB at h
  split at h <;> first | exact .inl (by assumption) | exact .inr (by assumption) | cases h
theorem glB_ok {x : Str} (h : glB sc x = true) : sc.names.lookup x = some .globalImplicit := by
  unfold glB at h
  split at h <;> first | assumption | cases h
theorem storeB_ok (C : Cn X Wx N sc fc) {x : Str} (h : storeB sc fc x = true) : L2.Loc X.env.scope x ∧ (X.fn x = true ∨ X.env.scope.names.lookup x = some .local) := by
  unfold storeB at h
  rw [Bool.and_eq_true, Bool.or_eq_true, decide_eq_true_eq] at h
  refine ⟨locB_ok C h.1, h.2.imp (C.fn x) fun z => ?_⟩
  rw [C.hsc]; exact z
theorem varB_ok (C : Cn X Wx N sc fc) {i : Nat} {x : Str} (h : varB N sc i x = true) : X.N[i]? = some x ∧ Vis X.env.scope x ∧ (x == ("__debug__" : Str)) = false ∧ (x == ("__classdict__" : Str)) = false := by
  unfold varB oddB at h
  simp only [Bool.and_eq_true, decide_eq_true_eq, Bool.not_eq_true', Bool.or_eq_false_iff] at h
  exact ⟨by rw [C.hN]; exact h.1.1, visB_ok C h.1.2, h.2.1, h.2.2⟩
/-- targets -/
def tgE (N : List Str) (sc : Scope) (fc : Str → Bool) : Expr → Nat → Bool
  | .Name x _, i => decide (N[i]? = some x) && storeB sc fc x
  | _, _ => false
def tgEs (N : List Str) (sc : Scope) (fc : Str → Bool) : List Expr → List Nat → Bool
  | [], [] => true
  | e :: es, i :: is => tgE N sc fc e i && tgEs N sc fc es is
  | _, _ => false
theorem tgE_ok (C : Cn X Wx N sc fc) {e : Expr} {i : Nat} (h : tgE N sc fc e i = true) : PG X e (gName i) := by
  unfold tgE at h
  split at h
  · rw [Bool.and_eq_true, decide_eq_true_eq] at h
    obtain ⟨h1, h2⟩ := storeB_ok C h.2
    exact pg_name C.nd (by rw [C.hN]; exact h.1) h1 h2
  · cases h
theorem asg_each : ∀ {es : List Expr} {is : List Nat} {env : Env}, tgEs N sc fc es is = true → (assignEach es env).length = is.length ∧ (assignEach es env).findIdx? (·.1) = none
  | [], [], env, _ => ⟨rfl, rfl⟩
  | [], _ :: _, _, h => by cases h
  | _ :: _, [], _, h => by cases h
  | e :: es, i :: is, env, h => by
    have h' : (tgE N sc fc e i && tgEs N sc fc es is) = true := h
    rw [Bool.and_eq_true] at h'
    obtain ⟨i1, i2⟩ := asg_each (env := env) h'.2
    cases e with
    | Name x p =>
      have e1 : assignEach (.Name x p :: es) env = (false, assign (.Name x p) env) :: assignEach es env := rfl
      rw [e1]
      refine ⟨by simp [i1], ?_⟩
      rw [List.findIdx?_cons]
      simp [i2]
    | _ => exact absurd h'.1 (by simp [tgE])
theorem tgEs_ok (C : Cn X Wx N sc fc) : ∀ {es : List Expr} {is : List Nat}, tgEs N sc fc es is = true → PGs X es (gIs is)
  | [], [], _ => pgs_nil
  | [], _ :: _, h => by cases h
  | _ :: _, [], h => by cases h
  | e :: es, i :: is, h => by
    have h' : (tgE N sc fc e i && tgEs N sc fc es is) = true := h
    rw [Bool.and_eq_true] at h'
    refine pgs_cons (tgE_ok C h'.1) (tgEs_ok C h'.2) ?_
    cases e with
    | Name x p => rfl
    | _ => exact absurd h'.1 (by simp [tgE])
def tupE (N : List Str) (sc : Scope) (fc : Str → Bool) (e : Expr) (is : List Nat) : Bool := match e with
  | .Tuple es _ _ => tgEs N sc fc es is
  | _ => false
def tgB (N : List Str) (sc : Scope) (fc : Str → Bool) (e : Expr) (tg : List Nat) : Bool := match tg with
  | [i] => tgE N sc fc e i
  | is => tupE N sc fc e is
theorem tupB_ok (C : Cn X Wx N sc fc) {es : List Expr} {k : Nat} {p : Pos} {is : List Nat} (h : tgEs N sc fc es is = true) : PG X (.Tuple es k p) (gTup X.K is.length (gIs is)) :=
  pg_tup C.calm (tgEs_ok C h) (asg_each h).1 (asg_each h).2
theorem tgB_ok (C : Cn X Wx N sc fc) {e : Expr} {tg : List Nat} (h : tgB N sc fc e tg = true) : PG X e (gT X.K tg) := by
  have many : ∀ is : List Nat, tupE N sc fc e is = true → PG X e (gTup X.K is.length (gIs is)) := fun is h => by
    cases e with
    | Tuple es k p => exact tupB_ok C h
    | _ => cases h
  cases tg with
  | nil => exact many [] h
  | cons i is => cases is with
    | nil => exact tgE_ok C h
    | cons j js => exact many (i :: j :: js) h
/-- the scope in which a comprehension runs -/
def ownOf (N : List Str) : List Nat → List (Str × Nat)
  | [] => []
  | i :: is => match N[i]? with
    | some x => (x, i) :: ownOf N is
    | none => ownOf N is
def inSc (scope sc : Scope) : Scope := relS scope sc
def inFc (scope : Scope) : Str → Bool := fun x => scope.names.lookup x == some .cell
theorem Cn.blk (C : Cn X Wx N sc fc) (scope : Scope) : blkT X scope fun Y => Cn Y noW N (inSc scope sc) (inFc scope) := fun s H Cc cl fp =>
  ⟨C.hN, C.nd, by rw [← C.hsc]; rfl, C.calm, fun u s' h => by obtain ⟨_, _, _, _, _, _, _, _, _, _, _, _, _, _, _, _, h⟩ := h; exact h, C.hu, C.blt, fun x h => h⟩
end Ev


set_option Elab.async false
set_option linter.all false
set_option maxRecDepth 100000
set_option maxHeartbeats 4000000
namespace Ev
open PySem PySem.Spec L2
/-- what is told of the parts -/
structure M where
  e : List Str → Scope → (Str → Bool) → Expr → Ex → Bool
  t : List Str → Scope → (Str → Bool) → Expr → Ex → Bool
  w : List Str → Scope → (Str → Bool) → Expr → Ex → Bool
section
variable (T : Tab) (m : M) (N : List Str) (sc : Scope) (fc : Str → Bool)
abbrev F1 := Expr → Ex → Bool
def mA (f : F1) : List Expr → Exs → Bool
  | [], .nil => true
  | e :: es, .cons x xs => noStar e && f e x && mA f es xs
  | _, _ => false
def mO (f : F1) : Option Expr → Exo → Bool
  | none, .no => true
  | some e, .some x => f e x
  | _, _ => false
def mI (f : F1) (tg iter : Expr) : It → Bool
  | .seq x => f iter x
  | .r1 x => match iter with
    | .Call (.Name y _) [a] [] _ => decide (y = ("range" : Str)) && glB sc y && noStar a && f a x
    | _ => false
  | .r2 x z => match iter with
    | .Call (.Name y _) [a, b] [] _ => decide (y = ("range" : Str)) && glB sc y && noStar a && noStar b && f a x && f b z
    | _ => false
  | .enum x => match tg, iter with
    | .Tuple _ _ _, .Call (.Name y _) [a] [] _ => decide (y = ("enumerate" : Str)) && glB sc y && noStar a && f a x
    | _, _ => false
  | .zip x z => match tg, iter with
    | .Tuple _ _ _, .Call (.Name y _) [a, b] [] _ => decide (y = ("zip" : Str)) && glB sc y && noStar a && noStar b && f a x && f b z
    | _, _ => false
def mIfs (f : F1) : List Expr → Exo → Bool
  | [], .no => true
  | [t], .some x => f t x
  | _, _ => false
def isNoneE : Expr → Bool
  | .Constant .none _ _ => true
  | _ => false
/-- .. == .. and the like -/
def mCmp (f : F1) (o : CO) (a b : Ex) : Expr → Bool
  | .Compare l [op] [r] _ => match o with
    | .isn => decide (op = .Is) && isNoneE r && f l a
    | .notn => decide (op = .IsNot) && isNoneE r && f l a
    | o => decide (op = cmpOf o) && !behindInMarks op r && f l a && f r b
  | _ => false
def mChain (f : F1) (o p : CO) (a b c : Ex) : Expr → Bool
  | .Compare l [o1, o2] [r, s] _ => decide (o1 = cmpOf o) && decide (o2 = cmpOf p) && !lastMarks [o1, o2] [r, s] && f l a && f r b && f s c
  | _ => false
def mDin (f : F1) (i : Nat) (neg : Bool) (k : Ex) : Expr → Bool
  | .Compare a [op] [.Name y _] _ => decide (op = if neg then .NotIn else .In) && varB N sc i y && f a k
  | _ => false
def mVar (i : Nat) : Expr → Bool
  | .Name x _ => varB N sc i x
  | _ => false
def mCon (k : Nat) : Expr → Bool
  | .Name x _ => decide (T.con.lookup x = some k) && glB sc x && !oddB x
  | _ => false
def mBin (f : F1) (o : BO) (a b : Ex) : Expr → Bool
  | .BinOp l op r _ => decide (op = opOf o) && f l a && f r b
  | _ => false
def mNeg (f : F1) (a : Ex) : Expr → Bool
  | .UnaryOp .USub l _ => f l a
  | _ => false
def mNot (f : F1) (a : Ex) : Expr → Bool
  | .UnaryOp .Not l _ => f l a
  | _ => false
def mAnd (f g : F1) (a b : Ex) : Expr → Bool
  | .BoolOp .And (l :: r :: rest) p => f l a && g (.BoolOp .And (r :: rest) p) b
  | _ => false
def mOr (f g : F1) (a b : Ex) : Expr → Bool
  | .BoolOp .Or (l :: r :: rest) p => f l a && g (.BoolOp .Or (r :: rest) p) b
  | _ => false
def mIte (f g : F1) (c a b : Ex) : Expr → Bool
  | .IfExp t l r _ => g t c && f l a && f r b
  | _ => false
def mIdx (f : F1) (a i : Ex) : Expr → Bool
  | .Subscript v s _ => noSl s && f v a && f s i
  | _ => false
def mSlice (f : F1) (a : Ex) (lo hi : Exo) : Expr → Bool
  | .Subscript v (.Slice l h none _) _ => f v a && mO f l lo && mO f h hi
  | _ => false
def mFld (f : F1) (a : Ex) (cs : List Nat) (k : Nat) : Expr → Bool
  | .Attribute v y _ => noCall v && f v a && cs.all fun c => match T.ci.lookup c with | some ci => decide (ci.fields[k]? = some y) | none => false
  | _ => false
def nilOk : List Expr → Exs → Bool
  | [], .nil => true
  | [], _ => false
  | _, _ => true
def mCall (f : F1) (g : Nat) (xs : Exs) : Expr → Bool
  | .Call (.Name y _) es [] _ => decide (T.fns.lookup y = some (g, exsLen xs)) && glB sc y && !oddB y && es.all noStar && nilOk es xs && mA f es xs
  | _ => false
def mMake (f : F1) (c : Nat) (xs : Exs) : Expr → Bool
  | .Call (.Name y _) es [] _ => decide (T.cls.lookup y = some (c, exsLen xs)) && glB sc y && !oddB y && es.all noStar && nilOk es xs && mA f es xs
  | _ => false
def mMeth (f : F1) (a : Ex) (ms : List (Nat × Nat)) (xs : Exs) : Expr → Bool
  | .Call (.Attribute o y apos) es [] pos => noCall o && decide (apos.endLine = pos.line) && decide (es.length < 30) && f o a && es.all noStar && nilOk es xs && mA f es xs &&
      ms.all fun p => decide (T.me.lookup (p.1, y) = some (p.2, exsLen xs + 1)) && match T.ci.lookup p.1 with | some ci => !ci.fields.contains y | none => false
  | _ => false
def mP1a (f : F1) (q : P1) (a : Ex) : Expr → Bool
  | .Call (.Name y _) [l] [] _ => decide (y = nmOf q) && glB sc y && noStar l && f l a
  | _ => false
def mP1 (f : F1) (q : P1) (a : Ex) : Expr → Bool := match q with
  | .lenset => fun e => match e with
    | .Call (.Name y _) [.Call (.Name z _) [l] [] _] [] _ => decide (y = ("len" : Str)) && decide (z = ("set" : Str)) && glB sc y && glB sc z && noStar l && f l a
    | _ => false
  | q => mP1a sc f q a
def mP2 (f : F1) (q : P2) (a b : Ex) : Expr → Bool
  | .Call (.Name y _) [l, r] [] _ => decide (y = nm2Of q) && glB sc y && noStar l && noStar r && f l a && f r b
  | _ => false
def mSm (f : F1) (q : SM) (a b : Ex) : Expr → Bool := match q with
  | .index => fun e => match e with
    | .Call (.Attribute o y apos) [l] [] pos => decide (y = ("index" : Str)) && noCall o && noStar l && decide (apos.endLine = pos.line) && f o a && f l b
    | _ => false
  | _ => fun _ => false
def mIsi (f : F1) (a : Ex) (ts : List Ty) : Expr → Bool
  | .Call (.Name y _) [l, .Name z _] [] _ => match ts with
    | [t] => decide (y = ("isinstance" : Str)) && glB sc y && decide (z = tyN t) && glB sc z && tyB t && noStar l && f l a
    | _ => false
  | _ => false
def mRng (f : F1) (tup : Bool) (it : It) : Expr → Bool := match it with
  | .r1 x => fun e => match e with
    | .Call (.Name y _) [.Call (.Name z _) [a] [] _] [] _ => decide (y = (if tup then "tuple" else "list" : Str)) && glB sc y && decide (z = ("range" : Str)) && glB sc z && noStar a && f a x
    | _ => false
  | .r2 x w => fun e => match e with
    | .Call (.Name y _) [.Call (.Name z _) [a, b] [] _] [] _ => decide (y = (if tup then "tuple" else "list" : Str)) && glB sc y && decide (z = ("range" : Str)) && glB sc z && noStar a && noStar b && f a x && f b w
    | _ => false
  | _ => fun _ => false
def subB (tg vs : List Nat) : Bool := tg.all vs.contains
def compB (x : Ex) (tg vs : List Nat) (it : It) (c : Exo) : Expr → Bool
  | .ListComp elt [⟨t, iter, ifs, 0⟩] scope _ => decide ((ownOf N vs).map (·.2) = vs) && blkC N sc scope (ownOf N vs) && subB tg vs && noSet iter && mI sc (m.e N sc fc) t iter it &&
      tgB N (inSc scope sc) (inFc scope) t tg && mIfs (m.t N (inSc scope sc) (inFc scope)) ifs c && m.e N (inSc scope sc) (inFc scope) elt x
  | _ => false
def comp2B (x : Ex) (tg tg2 vs : List Nat) (it it2 : It) (c : Exo) : Expr → Bool
  | .ListComp elt [⟨t, iter, [], 0⟩, ⟨t1, iter1, ifs, 0⟩] scope _ => decide ((ownOf N vs).map (·.2) = vs) && blkC N sc scope (ownOf N vs) && subB tg vs && subB tg2 vs && noSet iter && noSet iter1 && mI sc (m.e N sc fc) t iter it &&
      tgB N (inSc scope sc) (inFc scope) t tg && mI (inSc scope sc) (m.e N (inSc scope sc) (inFc scope)) t1 iter1 it2 && tgB N (inSc scope sc) (inFc scope) t1 tg2 &&
      mIfs (m.t N (inSc scope sc) (inFc scope)) ifs c && m.e N (inSc scope sc) (inFc scope) elt x
  | _ => false
def mDict (f : F1) (k v : Ex) : Expr → Bool
  | .Dict [some l] [r] _ => f l k && f r v
  | _ => false
def mDict0 : Expr → Bool
  | .Dict [] [] _ => true
  | _ => false
def mDget (f : F1) (i : Nat) (k : Ex) : Expr → Bool
  | .Subscript (.Name y _) a _ => varB N sc i y && noSl a && f a k
  | _ => false
def mConst (p : Const → Bool) : Expr → Bool
  | .Constant c _ _ => p c
  | _ => false
def stepE (e : Expr) (x : Ex) : Bool := match x with
  | .var i => mVar N sc i e
  | .con k => mCon T sc k e
  | .int n => mConst (fun c => match c with | .int k => decide (k = n) | _ => false) e
  | .bl n => mConst (fun c => match c with | .bool k => decide (k = n) | _ => false) e
  | .str n => mConst (fun c => match c with | .str k => decide (k = n) | _ => false) e
  | .non => mConst (fun c => match c with | .none => true | _ => false) e
  | .bin o a b => mBin (m.e N sc fc) o a b e
  | .neg a => mNeg (m.e N sc fc) a e
  | .not a => mNot (m.e N sc fc) a e
  | .and a b => mAnd (m.e N sc fc) (m.e N sc fc) a b e
  | .or a b => mOr (m.e N sc fc) (m.e N sc fc) a b e
  | .ite c a b => mIte (m.e N sc fc) (m.t N sc fc) c a b e
  | .cmp o a b => mCmp (m.e N sc fc) o a b e
  | .chain o p a b c => mChain (m.e N sc fc) o p a b c e
  | .tup xs => (match e with | .Tuple es _ _ => mA (m.e N sc fc) es xs | _ => false)
  | .lst xs => (match e with | .List es _ => mA (m.e N sc fc) es xs | _ => false)
  | .idx a i => mIdx (m.e N sc fc) a i e
  | .slice a lo hi => mSlice (m.e N sc fc) a lo hi e
  | .fld a cs k => mFld T (m.e N sc fc) a cs k e
  | .call g xs => mCall T sc (m.e N sc fc) g xs e
  | .meth a ms xs => mMeth T (m.e N sc fc) a ms xs e
  | .make c xs => mMake T sc (m.e N sc fc) c xs e
  | .p1 q a => mP1 sc (m.e N sc fc) q a e
  | .p2 q a b => mP2 sc (m.e N sc fc) q a b e
  | .sm q a b => mSm (m.e N sc fc) q a b e
  | .isi a ts => mIsi sc (m.e N sc fc) a ts e
  | .rng tup it => mRng sc (m.e N sc fc) tup it e
  | .comp x tg vs it c => compB m N sc fc x tg vs it c e
  | .comp2 x tg tg2 vs it it2 c => comp2B m N sc fc x tg tg2 vs it it2 c e
  | .bad => true
  | .dnewT => mDict0 e
  | .dnewK => mDict0 e
  | .dispT k v => mDict (m.e N sc fc) k v e
  | .din i neg k => mDin N sc (m.e N sc fc) i neg k e
  | .dget i k => mDget N sc (m.e N sc fc) i k e
def oneB (f : F1) (x : Ex) : Expr → Bool
  | .BoolOp _ [a] _ => f a x
  | _ => false
/-- tests that are no test by their form -/
def plainT : Expr → Bool
  | .UnaryOp .Not _ _ => false
  | .BoolOp _ _ _ => false
  | .IfExp _ _ _ _ => false
  | .Compare _ _ _ _ => false
  | _ => true
def stepW (e : Expr) (x : Ex) : Bool := oneB (m.t N sc fc) x e || match x with
  | .and a b => mAnd (m.t N sc fc) (m.w N sc fc) a b e
  | .or a b => mOr (m.t N sc fc) (m.w N sc fc) a b e
  | _ => false
def stepT (e : Expr) (x : Ex) : Bool := (plainT e && m.e N sc fc e x) || m.w N sc fc e x || match x with
  | .not a => mNot (m.t N sc fc) a e
  | .cmp o a b => mCmp (m.e N sc fc) o a b e
  | .chain o p a b c => mChain (m.e N sc fc) o p a b c e
  | .din i neg k => mDin N sc (m.e N sc fc) i neg k e
  | .bad => true
  | _ => false
end
def mK (T : Tab) : Nat → M
  | 0 => ⟨fun _ _ _ _ _ => false, fun _ _ _ _ _ => false, fun _ _ _ _ _ => false⟩
  | n + 1 => let m := mK T n; ⟨fun N sc fc e x => oneB (m.e N sc fc) x e || stepE T m N sc fc e x, fun N sc fc e x => stepT m N sc fc e x, fun N sc fc e x => stepW m N sc fc e x⟩
/-! ### it is sound -/
structure Snd (T : Tab) (m : M) : Prop where
  e : ∀ {X : Cx} {Z : Zd} {R : Rt} {Wx : WX} {N : List Str} {sc : Scope} {fc : Str → Bool}, Cn X Wx N sc fc → Wo X Z R T → ∀ {e : Expr} {x : Ex}, m.e N sc fc e x = true → SE X Z R Wx e x
  t : ∀ {X : Cx} {Z : Zd} {R : Rt} {Wx : WX} {N : List Str} {sc : Scope} {fc : Str → Bool}, Cn X Wx N sc fc → Wo X Z R T → ∀ {e : Expr} {x : Ex}, m.t N sc fc e x = true → ST X Z R Wx e x
  w : ∀ {X : Cx} {Z : Zd} {R : Rt} {Wx : WX} {N : List Str} {sc : Scope} {fc : Str → Bool}, Cn X Wx N sc fc → Wo X Z R T → ∀ {e : Expr} {x : Ex}, m.w N sc fc e x = true → SW X Z R Wx e x
variable {X : Cx} {Z : Zd} {R : Rt} {Wx : WX} {N : List Str} {sc : Scope} {fc : Str → Bool} {T : Tab} {m : M}
theorem mA_ok {f : F1} (S : ∀ {e : Expr} {x : Ex}, f e x = true → SE X Z R Wx e x) : ∀ {es : List Expr} {xs : Exs}, mA f es xs = true → SA X Z R Wx es xs
  | [], .nil, _ => sa_nil
  | [], .cons _ _, h => by cases h
  | _ :: _, .nil, h => by cases h
  | e :: es, .cons x xs, h => by
    have h' : (noStar e && f e x && mA f es xs) = true := h
    simp only [Bool.and_eq_true] at h'
    exact sa_cons h'.1.1 (S h'.1.2) (mA_ok S h'.2)
theorem mO_ok {f : F1} (S : ∀ {e : Expr} {x : Ex}, f e x = true → SE X Z R Wx e x) {e : Option Expr} {x : Exo} (h : mO f e x = true) : SO X Z R Wx e x := by
  cases e with
  | none => cases x with
    | no => exact so_no
    | some _ => cases h
  | some e => cases x with
    | no => cases h
    | some x => exact so_some (S h)
theorem mI_ok {f : F1} (C : Cn X Wx N sc fc) (S : ∀ {e : Expr} {x : Ex}, f e x = true → SE X Z R Wx e x) {tg iter : Expr} {it : It} (h : mI sc f tg iter it = true) : SI X Z R Wx tg iter it := by
  unfold mI at h
  cases it with
  | seq x => exact si_seq (S h)
  | r1 x =>
    dsimp only at h
    split at h
    · simp only [Bool.and_eq_true, decide_eq_true_eq] at h
      obtain ⟨⟨⟨rfl, h2⟩, h3⟩, h4⟩ := h
      exact si_r1 C (glB_ok h2) (S h4) h3
    · cases h
  | r2 x z =>
    dsimp only at h
    split at h
    · simp only [Bool.and_eq_true, decide_eq_true_eq] at h
      obtain ⟨⟨⟨⟨⟨rfl, h2⟩, h3⟩, h4⟩, h5⟩, h6⟩ := h
      exact si_r2 C (glB_ok h2) (S h5) (S h6) h3 h4
    · cases h
  | enum x =>
    dsimp only at h
    split at h
    · simp only [Bool.and_eq_true, decide_eq_true_eq] at h
      obtain ⟨⟨⟨rfl, h2⟩, h3⟩, h4⟩ := h
      exact si_enum C (glB_ok h2) (S h4) h3
    · cases h
  | zip x z =>
    dsimp only at h
    split at h
    · simp only [Bool.and_eq_true, decide_eq_true_eq] at h
      obtain ⟨⟨⟨⟨⟨rfl, h2⟩, h3⟩, h4⟩, h5⟩, h6⟩ := h
      exact si_zip C (glB_ok h2) (S h5) (S h6) h3 h4
    · cases h
end Ev


set_option Elab.async false
set_option linter.all false
set_option maxRecDepth 100000
set_option maxHeartbeats 4000000
namespace Ev
open PySem PySem.Spec L2
variable {X : Cx} {Z : Zd} {R : Rt} {Wx : WX} {N : List Str} {sc : Scope} {fc : Str → Bool} {T : Tab} {m : M}
theorem oddB_ok {x : Str} (h : (!oddB x) = true) : (x == ("__debug__" : Str)) = false ∧ (x == ("__classdict__" : Str)) = false := by
  unfold oddB at h
  simp only [Bool.not_eq_true', Bool.or_eq_false_iff] at h
  exact h
theorem nilOk_ok {es : List Expr} {xs : Exs} (h : nilOk es xs = true) : es = [] → xs = .nil := fun e => by
  subst e
  cases xs with
  | nil => rfl
  | cons _ _ => cases h
theorem plainIx_of {s : Expr} (h : noSl s = true) : PlainIx s := fun o i => by cases s <;> first | rfl | cases h
theorem noSl_of {s : Expr} (h : noSl s = true) : NoSl s := fun o i => by cases s <;> first | rfl | cases h
theorem line_ok {a b : Nat} (h : a = b) : (a == b) = true := by rw [h]; exact beq_self_eq_true b
theorem st_din {a : Expr} {x : Ex} {i : Nat} {y : Str} {p pos : Pos} (C : Cn X Wx N sc fc) (hN : X.N[i]? = some y) (hv : Vis X.env.scope y) (hd : (y == ("__debug__" : Str)) = false) (hcd : (y == ("__classdict__" : Str)) = false) (A : SE X Z R Wx a x) :
    ST X Z R Wx (.Compare a [.In] [.Name y p] pos) (.din i false x) :=
  ST.of (pt_cmp (pc_din (by have := C.hu; omega) (pw a) (pe_var hN hv hd hcd)) rfl) fun Oc H0 σd σ H Q rel p => wE_mono (fun y H1 ⟨u, h1, a, o, h2, h3, h4⟩ => ⟨u, h1, a, o, h2, h3, by rw [Bool.false_xor] at h4; exact h4⟩) (din_run A rel p.post)
theorem st_dni {a : Expr} {x : Ex} {i : Nat} {y : Str} {p pos : Pos} (C : Cn X Wx N sc fc) (hN : X.N[i]? = some y) (hv : Vis X.env.scope y) (hd : (y == ("__debug__" : Str)) = false) (hcd : (y == ("__classdict__" : Str)) = false) (A : SE X Z R Wx a x) :
    ST X Z R Wx (.Compare a [.NotIn] [.Name y p] pos) (.din i true x) :=
  ST.of (pt_cmp (pc_dnotin (by have := C.hu; omega) (pw a) (pe_var hN hv hd hcd)) rfl) fun Oc H0 σd σ H Q rel p => wE_mono (fun y H1 ⟨u, h1, a, o, h2, h3, h4⟩ => ⟨u, h1, a, o, h2, h3, by rw [Bool.true_xor] at h4; exact h4⟩) (din_run A rel p.post)
theorem st_bad {e : Expr} : ST X Z R Wx e .bad := fun Oc H0 σd σ H Q rel p => by unfold evalE at p; exact p.elim
section
variable {f g : F1} (C : Cn X Wx N sc fc) (w : Wo X Z R T) (S : ∀ {e : Expr} {x : Ex}, f e x = true → SE X Z R Wx e x)
include C S
theorem mCmp_ok {o : CO} {a b : Ex} {e : Expr} (h : mCmp f o a b e = true) : SE X Z R Wx e (.cmp o a b) ∧ ST X Z R Wx e (.cmp o a b) := by
  unfold mCmp at h
  split at h
  · rename_i l op r pos
    have gen : o ≠ .isn → o ≠ .notn → (decide (op = cmpOf o) && !behindInMarks op r && f l a && f r b) = true → SE X Z R Wx (.Compare l [op] [r] pos) (.cmp o a b) ∧ ST X Z R Wx (.Compare l [op] [r] pos) (.cmp o a b) := fun n1 n2 h => by
      simp only [Bool.and_eq_true, decide_eq_true_eq, Bool.not_eq_true'] at h
      obtain ⟨⟨⟨rfl, h2⟩, h3⟩, h4⟩ := h
      exact ⟨se_cmp C.hu (S h3) (S h4) n1 n2 h2, st_cmp C.hu (S h3) (S h4) n1 n2 h2⟩
    cases o with
    | isn =>
      simp only [Bool.and_eq_true, decide_eq_true_eq] at h
      obtain ⟨⟨rfl, h2⟩, h3⟩ := h
      unfold isNoneE at h2
      split at h2
      · exact ⟨se_isn (S h3), st_isn (S h3)⟩
      · cases h2
    | notn =>
      simp only [Bool.and_eq_true, decide_eq_true_eq] at h
      obtain ⟨⟨rfl, h2⟩, h3⟩ := h
      unfold isNoneE at h2
      split at h2
      · exact ⟨se_notn (S h3), st_notn (S h3)⟩
      · cases h2
    | _ => exact gen (by decide) (by decide) h
  · cases h
theorem mChain_ok {o p : CO} {a b c : Ex} {e : Expr} (h : mChain f o p a b c e = true) : SE X Z R Wx e (.chain o p a b c) ∧ ST X Z R Wx e (.chain o p a b c) := by
  unfold mChain at h
  split at h
  · simp only [Bool.and_eq_true, decide_eq_true_eq, Bool.not_eq_true'] at h
    obtain ⟨⟨⟨⟨⟨rfl, rfl⟩, h2⟩, h3⟩, h4⟩, h5⟩ := h
    exact ⟨se_chain (S h3) (S h4) (S h5) h2, st_chain (S h3) (S h4) (S h5) h2⟩
  · cases h
theorem mDin_ok {i : Nat} {neg : Bool} {k : Ex} {e : Expr} (h : mDin N sc f i neg k e = true) : SE X Z R Wx e (.din i neg k) ∧ ST X Z R Wx e (.din i neg k) := by
  unfold mDin at h
  split at h
  · simp only [Bool.and_eq_true, decide_eq_true_eq] at h
    obtain ⟨⟨h1, h2⟩, h3⟩ := h
    obtain ⟨v1, v2, v3, v4⟩ := varB_ok C h2
    cases neg with
    | true => rw [if_pos rfl] at h1; subst h1; exact ⟨se_dni C v1 v2 v3 v4 (S h3), st_dni C v1 v2 v3 v4 (S h3)⟩
    | false => rw [if_neg Bool.false_ne_true] at h1; subst h1; exact ⟨se_din C v1 v2 v3 v4 (S h3), st_din C v1 v2 v3 v4 (S h3)⟩
  · cases h
include w
theorem mCall_ok {g : Nat} {xs : Exs} {e : Expr} (h : mCall T sc f g xs e = true) : SE X Z R Wx e (.call g xs) := by
  unfold mCall at h
  split at h
  · simp only [Bool.and_eq_true, decide_eq_true_eq] at h
    obtain ⟨⟨⟨⟨⟨h1, h2⟩, h3⟩, h4⟩, h5⟩, h6⟩ := h
    obtain ⟨ad, k1, k2⟩ := w.fn _ _ _ h1
    exact se_call C k2 (glB_ok h2) k1 (oddB_ok h3).1 (mA_ok S h6) h4 (nilOk_ok h5) rfl
  · cases h
theorem mMake_ok {c : Nat} {xs : Exs} {e : Expr} (h : mMake T sc f c xs e = true) : SE X Z R Wx e (.make c xs) := by
  unfold mMake at h
  split at h
  · simp only [Bool.and_eq_true, decide_eq_true_eq] at h
    obtain ⟨⟨⟨⟨⟨h1, h2⟩, h3⟩, h4⟩, h5⟩, h6⟩ := h
    obtain ⟨k1, k2⟩ := w.cl _ _ _ h1
    exact se_make C k2 (glB_ok h2) k1 (oddB_ok h3).1 (mA_ok S h6) h4 (nilOk_ok h5) rfl
  · cases h
theorem mMeth_ok {a : Ex} {ms : List (Nat × Nat)} {xs : Exs} {e : Expr} (h : mMeth T f a ms xs e = true) : SE X Z R Wx e (.meth a ms xs) := by
  unfold mMeth at h
  split at h
  · simp only [Bool.and_eq_true, decide_eq_true_eq] at h
    obtain ⟨⟨⟨⟨⟨⟨⟨h1, h2⟩, h3⟩, h4⟩, h5⟩, h6⟩, h7⟩, h8⟩ := h
    refine se_meth C (S h4) h1 (line_ok h2) (fun c g hg => ?_) (mA_ok S h7) h5 h3 (nilOk_ok h6)
    have hm : (c, g) ∈ ms := by
      clear h8
      induction ms with
      | nil => cases hg
      | cons p ps ih =>
        rw [List.lookup_cons] at hg
        cases hb : c == p.1 with
        | true => rw [hb] at hg; cases hg; have := eq_of_beq hb; subst this; exact List.mem_cons_self
        | false => rw [hb] at hg; exact List.mem_cons_of_mem _ (ih hg)
    have q := List.all_eq_true.mp h8 _ hm
    simp only [Bool.and_eq_true, decide_eq_true_eq] at q
    obtain ⟨q1, q2⟩ := q
    obtain ⟨fa, k1, k2⟩ := w.me _ _ _ _ q1
    cases hc : T.ci.lookup c with
    | none => rw [hc] at q2; cases q2
    | some ci =>
      rw [hc] at q2
      exact ⟨ci, fa, w.ci _ _ hc, by simpa using q2, k1, k2⟩
  · cases h
theorem mFld_ok {a : Ex} {cs : List Nat} {k : Nat} {e : Expr} (h : mFld T f a cs k e = true) : SE X Z R Wx e (.fld a cs k) := by
  unfold mFld at h
  split at h
  · simp only [Bool.and_eq_true] at h
    obtain ⟨⟨h1, h2⟩, h3⟩ := h
    refine se_fld (S h2) h1 fun c hc => ?_
    have q := List.all_eq_true.mp h3 c hc
    cases hci : T.ci.lookup c with
    | none => rw [hci] at q; cases q
    | some ci => rw [hci] at q; exact ⟨ci, w.ci _ _ hci, by simpa using q⟩
  · cases h
theorem mCon_ok {k : Nat} {e : Expr} (h : mCon T sc k e = true) : SE X Z R Wx e (.con k) := by
  unfold mCon at h
  split at h
  · simp only [Bool.and_eq_true, decide_eq_true_eq] at h
    obtain ⟨⟨h1, h2⟩, h3⟩ := h
    obtain ⟨u, v, d, k1, k2, k3, k4⟩ := w.con _ _ h1
    exact se_con k1 (C.gl (glB_ok h2)) k2 k3 k4 (oddB_ok h3).1
  · cases h
omit w
theorem mP1_ok {q : P1} {a : Ex} {e : Expr} (h : mP1 sc f q a e = true) : SE X Z R Wx e (.p1 q a) := by
  have gen : q ≠ .lenset → mP1a sc f q a e = true → SE X Z R Wx e (.p1 q a) := fun hq h => by
    unfold mP1a at h
    split at h
    · simp only [Bool.and_eq_true, decide_eq_true_eq] at h
      obtain ⟨⟨⟨rfl, h2⟩, h3⟩, h4⟩ := h
      exact se_p1 C hq (glB_ok h2) (S h4) h3
    · cases h
  unfold mP1 at h
  cases q with
  | lenset =>
    dsimp only at h
    split at h
    · simp only [Bool.and_eq_true, decide_eq_true_eq] at h
      obtain ⟨⟨⟨⟨⟨rfl, rfl⟩, h2⟩, h3⟩, h4⟩, h5⟩ := h
      exact se_lenset C (glB_ok h2) (glB_ok h3) (S h5) h4
    · cases h
  | _ => exact gen (by decide) h
theorem mP2_ok {q : P2} {a b : Ex} {e : Expr} (h : mP2 sc f q a b e = true) : SE X Z R Wx e (.p2 q a b) := by
  unfold mP2 at h
  split at h
  · simp only [Bool.and_eq_true, decide_eq_true_eq] at h
    obtain ⟨⟨⟨⟨⟨rfl, h2⟩, h3⟩, h4⟩, h5⟩, h6⟩ := h
    exact se_p2 C (glB_ok h2) (S h5) (S h6) h3 h4
  · cases h
theorem mSm_ok {q : SM} {a b : Ex} {e : Expr} (h : mSm f q a b e = true) : SE X Z R Wx e (.sm q a b) := by
  unfold mSm at h
  cases q with
  | index =>
    dsimp only at h
    split at h
    · simp only [Bool.and_eq_true, decide_eq_true_eq] at h
      obtain ⟨⟨⟨⟨⟨rfl, h2⟩, h3⟩, h4⟩, h5⟩, h6⟩ := h
      exact se_index (S h5) (S h6) h2 h3 (line_ok h4)
    · cases h
  | count => cases h
theorem mRng_ok {tup : Bool} {it : It} {e : Expr} (h : mRng sc f tup it e = true) : SE X Z R Wx e (.rng tup it) := by
  unfold mRng at h
  cases it with
  | r1 x =>
    dsimp only at h
    split at h
    · simp only [Bool.and_eq_true, decide_eq_true_eq] at h
      obtain ⟨⟨⟨⟨⟨rfl, h2⟩, rfl⟩, h4⟩, h5⟩, h6⟩ := h
      exact se_rng1 C (glB_ok h2) (glB_ok h4) (S h6) h5
    · cases h
  | r2 x z =>
    dsimp only at h
    split at h
    · simp only [Bool.and_eq_true, decide_eq_true_eq] at h
      obtain ⟨⟨⟨⟨⟨⟨⟨rfl, h2⟩, rfl⟩, h4⟩, h5⟩, h6⟩, h7⟩, h8⟩ := h
      exact se_rng2 C (glB_ok h2) (glB_ok h4) (S h7) (S h8) h5 h6
    · cases h
  | _ => cases h
end
theorem mIsi_ok {f : F1} (C : Cn X Wx N sc fc) (w : Wo X Z R T) (S : ∀ {e : Expr} {x : Ex}, f e x = true → SE X Z R Wx e x) {a : Ex} {ts : List Ty} {e : Expr} (h : mIsi sc f a ts e = true) : SE X Z R Wx e (.isi a ts) := by
  unfold mIsi at h
  split at h
  · split at h
    · simp only [Bool.and_eq_true, decide_eq_true_eq] at h
      obtain ⟨⟨⟨⟨⟨⟨rfl, h2⟩, rfl⟩, h4⟩, h5⟩, h6⟩, h7⟩ := h
      exact se_isi1 C (bmg C w.ty h5) (glB_ok h2) (glB_ok h4) h5 (S h7) h6
    · cases h
  · cases h
theorem ifs_ok {scope : Scope} {f : F1} (h : ∀ {e : Expr} {x : Ex}, f e x = true → blkT X scope fun Y => ST Y Z R noW e x) {ifs : List Expr} {c : Exo} (q : mIfs f ifs c = true) : IfsOk X Z R scope ifs c := by
  unfold mIfs at q
  split at q
  · exact .no
  · exact .one (h q)
  · cases q
theorem subB_ok {tg vs : List Nat} (h : subB tg vs = true) : ∀ i ∈ tg, i ∈ vs := fun i hi => by
  have := List.all_eq_true.mp h i hi
  simpa using this
theorem compB_ok (S : Snd T m) (C : Cn X Wx N sc fc) (w : Wo X Z R T) {x : Ex} {tg vs : List Nat} {it : It} {c : Exo} {e : Expr} (h : compB m N sc fc x tg vs it c e = true) :
    ∃ elt t iter ifs scope pos, e = .ListComp elt [⟨t, iter, ifs, 0⟩] scope pos ∧ (ownOf N vs).map (·.2) = vs ∧ LcOk X Z R Wx elt t iter ifs scope (ownOf N vs) x tg it c := by
  unfold compB at h
  split at h
  · rename_i elt t iter ifs scope pos
    simp only [Bool.and_eq_true, decide_eq_true_eq] at h
    obtain ⟨⟨⟨⟨⟨⟨⟨h1, h2⟩, h3⟩, h4⟩, h5⟩, h6⟩, h7⟩, h8⟩ := h
    refine ⟨elt, t, iter, ifs, scope, pos, rfl, h1, ⟨mI_ok C (fun q => S.e C w q) h5, blkOk_by (by rw [C.hN, C.hsc]; exact h2), fun s H Cc cl fp => tgB_ok (C.blk scope s H Cc cl fp) h6,
      ifs_ok (fun q s H Cc cl fp => S.t (C.blk scope s H Cc cl fp) w.blk q) h7, fun s H Cc cl fp => S.e (C.blk scope s H Cc cl fp) w.blk h8, by rw [h1]; exact subB_ok h3, h4⟩⟩
  · cases h
theorem comp2B_ok (S : Snd T m) (C : Cn X Wx N sc fc) (w : Wo X Z R T) {x : Ex} {tg tg2 vs : List Nat} {it it2 : It} {c : Exo} {e : Expr} (h : comp2B m N sc fc x tg tg2 vs it it2 c e = true) :
    ∃ elt t iter t1 iter1 ifs scope pos, e = .ListComp elt [⟨t, iter, [], 0⟩, ⟨t1, iter1, ifs, 0⟩] scope pos ∧ (ownOf N vs).map (·.2) = vs ∧ Lc2Ok X Z R Wx elt t iter t1 iter1 ifs scope (ownOf N vs) x tg tg2 it it2 c := by
  unfold comp2B at h
  split at h
  · rename_i elt t iter t1 iter1 ifs scope pos
    simp only [Bool.and_eq_true, decide_eq_true_eq] at h
    obtain ⟨⟨⟨⟨⟨⟨⟨⟨⟨⟨⟨h1, h2⟩, h3⟩, h4⟩, h5⟩, h6⟩, h7⟩, h8⟩, h9⟩, h10⟩, h11⟩, h12⟩ := h
    refine ⟨elt, t, iter, t1, iter1, ifs, scope, pos, rfl, h1, ⟨mI_ok C (fun q => S.e C w q) h7, blkOk_by (by rw [C.hN, C.hsc]; exact h2), fun s H Cc cl fp => tgB_ok (C.blk scope s H Cc cl fp) h8,
      fun s H Cc cl fp => mI_ok (C.blk scope s H Cc cl fp) (fun q => S.e (C.blk scope s H Cc cl fp) w.blk q) h9, fun s H Cc cl fp => tgB_ok (C.blk scope s H Cc cl fp) h10,
      ifs_ok (fun q s H Cc cl fp => S.t (C.blk scope s H Cc cl fp) w.blk q) h11, fun s H Cc cl fp => S.e (C.blk scope s H Cc cl fp) w.blk h12, by rw [h1]; exact subB_ok h3, by rw [h1]; exact subB_ok h4, h5, h6⟩⟩
  · cases h
end Ev


set_option Elab.async false
set_option linter.all false
set_option maxRecDepth 100000
set_option maxHeartbeats 4000000
namespace Ev
open PySem PySem.Spec L2
variable {X : Cx} {Z : Zd} {R : Rt} {Wx : WX} {N : List Str} {sc : Scope} {fc : Str → Bool} {T : Tab} {m : M}
theorem stepE_ok (S : Snd T m) (C : Cn X Wx N sc fc) (w : Wo X Z R T) {e : Expr} {x : Ex} (h : stepE T m N sc fc e x = true) : SE X Z R Wx e x := by
  have SeE : ∀ {e : Expr} {x : Ex}, m.e N sc fc e x = true → SE X Z R Wx e x := fun q => S.e C w q
  have StT : ∀ {e : Expr} {x : Ex}, m.t N sc fc e x = true → ST X Z R Wx e x := fun q => S.t C w q
  unfold stepE at h
  cases x with
  | var i =>
    dsimp only at h; unfold mVar at h
    split at h
    · obtain ⟨v1, v2, v3, v4⟩ := varB_ok C h
      exact se_var v1 v2 v3 v4
    · cases h
  | con k => exact mCon_ok C w SeE h
  | int n =>
    dsimp only at h; unfold mConst at h
    split at h
    · dsimp only at h
      split at h
      · rw [decide_eq_true_eq] at h; subst h; exact se_int
      · cases h
    · cases h
  | bl n =>
    dsimp only at h; unfold mConst at h
    split at h
    · dsimp only at h
      split at h
      · rw [decide_eq_true_eq] at h; subst h; exact se_bl
      · cases h
    · cases h
  | str n =>
    dsimp only at h; unfold mConst at h
    split at h
    · dsimp only at h
      split at h
      · rw [decide_eq_true_eq] at h; subst h; exact se_str
      · cases h
    · cases h
  | non =>
    dsimp only at h; unfold mConst at h
    split at h
    · dsimp only at h
      split at h
      · exact se_non
      · cases h
    · cases h
  | bin o a b =>
    dsimp only at h; unfold mBin at h
    split at h
    · simp only [Bool.and_eq_true, decide_eq_true_eq] at h
      obtain ⟨⟨rfl, h2⟩, h3⟩ := h
      exact se_bin (SeE h2) (SeE h3)
    · cases h
  | neg a =>
    dsimp only at h; unfold mNeg at h
    split at h
    · exact se_neg (SeE h)
    · cases h
  | not a =>
    dsimp only at h; unfold mNot at h
    split at h
    · exact se_not (SeE h)
    · cases h
  | and a b =>
    dsimp only at h; unfold mAnd at h
    split at h
    · rw [Bool.and_eq_true] at h
      exact se_and (SeE h.1) (SeE h.2)
    · cases h
  | or a b =>
    dsimp only at h; unfold mOr at h
    split at h
    · rw [Bool.and_eq_true] at h
      exact se_or (SeE h.1) (SeE h.2)
    · cases h
  | ite c a b =>
    dsimp only at h; unfold mIte at h
    split at h
    · simp only [Bool.and_eq_true] at h
      exact se_ite (StT h.1.1) (SeE h.1.2) (SeE h.2)
    · cases h
  | cmp o a b => exact (mCmp_ok C SeE h).1
  | chain o p a b c => exact (mChain_ok C SeE h).1
  | tup xs =>
    dsimp only at h
    split at h
    · exact se_tup (mA_ok SeE h)
    · cases h
  | lst xs =>
    dsimp only at h
    split at h
    · exact se_lst (mA_ok SeE h)
    · cases h
  | idx a i =>
    dsimp only at h; unfold mIdx at h
    split at h
    · simp only [Bool.and_eq_true] at h
      exact se_idx (SeE h.1.2) (SeE h.2) (plainIx_of h.1.1)
    · cases h
  | slice a lo hi =>
    dsimp only at h; unfold mSlice at h
    split at h
    · simp only [Bool.and_eq_true] at h
      exact se_slice (SeE h.1.1) (mO_ok SeE h.1.2) (mO_ok SeE h.2)
    · cases h
  | fld a cs k => exact mFld_ok C w SeE h
  | call g xs => exact mCall_ok C w SeE h
  | meth a ms xs => exact mMeth_ok C w SeE h
  | make c xs => exact mMake_ok C w SeE h
  | p1 q a => exact mP1_ok C SeE h
  | p2 q a b => exact mP2_ok C SeE h
  | sm q a b => exact mSm_ok C SeE h
  | isi a ts => exact mIsi_ok C w SeE h
  | rng tup it => exact mRng_ok C SeE h
  | comp x tg vs it c =>
    obtain ⟨elt, t, iter, ifs, scope, pos, rfl, h1, L⟩ := compB_ok S C w h
    have := se_lc (pos := pos) C L
    rw [h1] at this
    exact this
  | comp2 x tg tg2 vs it it2 c =>
    obtain ⟨elt, t, iter, t1, iter1, ifs, scope, pos, rfl, h1, L⟩ := comp2B_ok S C w h
    have := se_lc2 (pos := pos) C L
    rw [h1] at this
    exact this
  | bad => exact se_bad
  | dnewT =>
    dsimp only at h; unfold mDict0 at h
    split at h
    · exact se_dnewT
    · cases h
  | dnewK =>
    dsimp only at h; unfold mDict0 at h
    split at h
    · exact se_dnewK
    · cases h
  | dispT k v =>
    dsimp only at h; unfold mDict at h
    split at h
    · rw [Bool.and_eq_true] at h
      exact se_dispT C (SeE h.1) (SeE h.2)
    · cases h
  | din i neg k => exact (mDin_ok C SeE h).1
  | dget i k =>
    dsimp only at h; unfold mDget at h
    split at h
    · simp only [Bool.and_eq_true] at h
      obtain ⟨⟨h1, h2⟩, h3⟩ := h
      obtain ⟨v1, v2, v3, v4⟩ := varB_ok C h1
      exact se_dget C v1 v2 v3 v4 (SeE h3) (noSl_of h2)
    · cases h
theorem plainT_ok {e : Expr} {env : Env} (h : plainT e = true) (whole : Sem Value) : isTrue e env whole = (do let v ← whole; standAt e.pos; holding [v] (truthy v)) := by
  cases e with
  | UnaryOp op a p => cases op <;> first | rfl | cases h
  | _ => first | rfl | cases h
theorem oneB_ok {f : F1} {x : Ex} {e : Expr} (h : oneB f x e = true) : ∃ op a p, e = .BoolOp op [a] p ∧ f a x = true := by
  unfold oneB at h
  split at h
  · exact ⟨_, _, _, rfl, h⟩
  · cases h
theorem stepW_ok (S : Snd T m) (C : Cn X Wx N sc fc) (w : Wo X Z R T) {e : Expr} {x : Ex} (h : stepW m N sc fc e x = true) : SW X Z R Wx e x := by
  unfold stepW at h
  rw [Bool.or_eq_true] at h
  rcases h with h | h
  · obtain ⟨op, a, p, rfl, h⟩ := oneB_ok h
    exact sw_one (S.t C w h)
  · cases x with
    | and a b =>
      dsimp only at h; unfold mAnd at h
      split at h
      · rw [Bool.and_eq_true] at h
        exact sw_and (S.t C w h.1) (S.w C w h.2)
      · cases h
    | or a b =>
      dsimp only at h; unfold mOr at h
      split at h
      · rw [Bool.and_eq_true] at h
        exact sw_or (S.t C w h.1) (S.w C w h.2)
      · cases h
    | _ => cases h
theorem stepT_ok (S : Snd T m) (C : Cn X Wx N sc fc) (w : Wo X Z R T) {e : Expr} {x : Ex} (h : stepT m N sc fc e x = true) : ST X Z R Wx e x := by
  have SeE : ∀ {e : Expr} {x : Ex}, m.e N sc fc e x = true → SE X Z R Wx e x := fun q => S.e C w q
  unfold stepT at h
  rw [Bool.or_eq_true, Bool.or_eq_true] at h
  rcases h with (h | h) | h
  · rw [Bool.and_eq_true] at h
    exact st_val (SeE h.2) (fun whole => plainT_ok h.1 whole)
  · exact (S.w C w h).st
  · cases x with
    | not a =>
      dsimp only at h; unfold mNot at h
      split at h
      · exact st_not (S.t C w h)
      · cases h
    | cmp o a b => exact (mCmp_ok C SeE h).2
    | chain o p a b c => exact (mChain_ok C SeE h).2
    | din i neg k => exact (mDin_ok C SeE h).2
    | bad => exact st_bad
    | _ => cases h
theorem mK_ok (T : Tab) : ∀ n, Snd T (mK T n)
  | 0 => ⟨@fun _ _ _ _ _ _ _ _ _ _ _ h => absurd h Bool.false_ne_true, @fun _ _ _ _ _ _ _ _ _ _ _ h => absurd h Bool.false_ne_true, @fun _ _ _ _ _ _ _ _ _ _ _ h => absurd h Bool.false_ne_true⟩
  | n + 1 => by
    have S := mK_ok T n
    refine ⟨@fun X Z R Wx N sc fc C w e x h => ?_, @fun X Z R Wx N sc fc C w e x h => stepT_ok S C w h, @fun X Z R Wx N sc fc C w e x h => stepW_ok S C w h⟩
    have h' : (oneB ((mK T n).e N sc fc) x e || stepE T (mK T n) N sc fc e x) = true := h
    rw [Bool.or_eq_true] at h'
    rcases h' with h' | h'
    · obtain ⟨op, a, p, rfl, h'⟩ := oneB_ok h'
      exact se_bone (S.e C w h')
    · exact stepE_ok S C w h'
/-! ### statements -/
/-- whether the value is stored at once -/
def swB (sc : Scope) (cs : Scope) (y : Str) (p q : Pos) : Bool := decide (sc.kind = .function) && (sc.names.lookup y == some .local) && p.line == q.line && !(cs.names.any fun (n, k) => n == y && (k == .local || k == .cell))
structure Cs (X : Cx) (Wx : WX) (N : List Str) (sc : Scope) (fc : Str → Bool) : Prop where
  c : Cn X Wx N sc fc
  own : PassesOwn (model X.prog X.w) X.A X.env X.xe
  kind : sc.kind = .function
theorem swB_ok {elt : Expr} {gens : List Comprehension} {scope : Scope} {pos p : Pos} {y : Str} {line : Nat} (C : Cs X Wx N sc fc) : swapsWith (.ListComp elt gens scope pos) (some (.Name y p)) line X.env = pure (swB sc scope y p pos) := by
  have e1 : X.env.blockKind = .function := by
    unfold Env.blockKind
    rw [C.c.hsc, C.kind]; rfl
  show pure (X.env.blockKind == .function && X.env.kindOf y == some .local && p.line == pos.line && !(scope.names.any fun (n, k) => n == y && (k == .local || k == .cell))) = pure (swB sc scope y p pos)
  rw [e1]
  unfold swB Env.kindOf
  rw [C.c.hsc]
  simp [C.kind]
section
variable (N : List Str) (sc : Scope) (fc : Str → Bool)
/-- a value for a name -/
def mVal (m : M) (y : Str) (p : Pos) (v : Expr) (x : Ex) : Bool := (noLc v && m.e N sc fc v x) || match v with
  | .ListComp _ _ cs q => (match swB sc cs y p q with
    | false => m.e N sc fc v x
    | true => match x with
      | .comp z tg vs it c => compB m N sc fc z tg vs it c v
      | .comp2 z tg tg2 vs it it2 c => comp2B m N sc fc z tg tg2 vs it it2 c v
      | _ => false)
  | _ => false
/-- a value for another place -/
def mVal2 (m : M) (v : Expr) (x : Ex) : Bool := (match v with | .SetComp _ _ _ _ => false | .DictComp _ _ _ _ _ => false | _ => true) && m.e N sc fc v x
def noneS : Option Expr → Bool
  | none => true
  | _ => false
def mS1 (T : Tab) (m : M) (st : Stmt) (x : Stm) : Bool := match x with
  | .set i v => (match st with
    | .Assign [.Name y p] e _ => decide (N[i]? = some y) && storeB sc fc y && mVal N sc fc m y p e v
    | _ => false)
  | .unp is v => (match st with
    | .Assign [.Tuple es _ _] e _ => tgEs N sc fc es is && noLc e && (match e with | .Tuple _ _ _ => false | _ => true) && m.e N sc fc e v
    | _ => false)
  | .setIdx i k v => (match st with
    | .Assign [.Subscript (.Name y _) a _] e _ => varB N sc i y && noSl a && m.e N sc fc a k && mVal2 N sc fc m e v
    | _ => false)
  | .dput i k v => (match st with
    | .Assign [.Subscript (.Name y _) a _] e _ => varB N sc i y && m.e N sc fc a k && mVal2 N sc fc m e v
    | _ => false)
  | .lm i q xs => (match st with
    | .Expr (.Call (.Attribute (.Name y _) z apos) es [] cpos) _ => varB N sc i y && decide (z = nmL q) && decide (apos.endLine = cpos.line) && decide (es.length < 30) && es.all noStar && nilOk es xs && mA (m.e N sc fc) es xs
    | _ => false)
  | .popS j i xs => (match st with
    | .Assign [.Name x _] (.Call (.Attribute (.Name y _) z apos) [] [] cpos) _ => decide (N[j]? = some x) && storeB sc fc x && varB N sc i y && decide (z = ("pop" : Str)) && decide (apos.endLine = cpos.line) && decide (i ≠ j) && (match xs with | .nil => true | _ => false)
    | _ => false)
  | .aug i o v => (match st with
    | .AugAssign (.Name y _) op e _ => decide (N[i]? = some y) && storeB sc fc y && decide (op = opOf o) && (match o with | .add => true | .sub => true | _ => false) && m.e N sc fc e v
    | _ => false)
  | .expr v => (match st with
    | .Expr e _ => noLc e && m.e N sc fc e v
    | _ => false)
  | .ret v => (match st with
    | .Return (some e) _ => m.e N sc fc e v
    | _ => false)
  | .retN => (match st with
    | .Return none _ => true
    | _ => false)
  | .brk => (match st with | .Break _ => true | _ => false)
  | .cont => (match st with | .Continue _ => true | _ => false)
  | .pass => (match st with | .Pass _ => true | _ => false)
  | .bad => true
  | .fset c k v => (match st with
    | .Assign [.Attribute (.Name y _) f _] e _ => varB N sc 0 y && (match T.ci.lookup c with | some ci => decide (ci.fields[k]? = some f) | none => false) && mVal2 N sc fc m e v
    | _ => false)
  | _ => false
end
abbrev S2 := List Stmt → Stms → Bool
section
variable (T : Tab) (m : M) (N : List Str) (sc : Scope) (fc : Str → Bool)
def mSt (r : S2) (st : Stmt) (x : Stm) : Bool := mS1 N sc fc T m st x || match x with
  | .ifs c a b => (match st with
    | .If t p q _ => m.t N sc fc t c && r p a && r q b
    | _ => false)
  | .whileS c a => (match st with
    | .While t p [] _ => m.t N sc fc t c && r p a
    | _ => false)
  | .forS tg it a => (match st with
    | .For t iter p [] _ => mI sc (m.e N sc fc) t iter it && tgB N sc fc t tg && noSet iter && r p a
    | _ => false)
  | _ => false
def mBc (g : List Stmt → Bool) (f : Stmt → Bool) : List Stmt → Bool
  | st :: rest => f st && g rest
  | [] => false
def mB (r : S2) : Stms → List Stmt → Bool
  | .nil, [] => true
  | .nil, _ :: _ => false
  | .cons s ss, sts => match s with
    | .frz _ => mB r ss sts
    | s => mBc (mB r ss) (fun st => mSt T m N sc fc r st s) sts
def mR : Nat → S2
  | 0 => fun _ _ => false
  | n + 1 => fun sts x => mB T m N sc fc (mR n) x sts
end
variable {sub : Nat → List Nat → Option Bool}
theorem mVal2_ok (S : Snd T m) (C : Cn X Wx N sc fc) (w : Wo X Z R T) {v : Expr} {x : Ex} (h : mVal2 N sc fc m v x = true) : SE X Z R Wx v x ∧ (∀ {a b : Expr} {p : Pos} {line : Nat}, swapsWith v (some (.Subscript a b p)) line X.env = pure false) ∧ ∀ {a : Expr} {b : Str} {p : Pos} {line : Nat}, swapsWith v (some (.Attribute a b p)) line X.env = pure false := by
  unfold mVal2 at h
  rw [Bool.and_eq_true] at h
  refine ⟨S.e C w h.2, fun {a b p line} => ?_, fun {a b p line} => ?_⟩
  · cases v <;> first | rfl | (exact absurd h.1 Bool.false_ne_true)
  · cases v <;> first | rfl | (exact absurd h.1 Bool.false_ne_true)
theorem mS1_ok (S : Snd T m) (C : Cs X Wx N sc fc) (w : Wo X Z R T) {st : Stmt} {x : Stm} (h : mS1 N sc fc T m st x = true) : SS X Z R Wx sub st x := by
  have SeE : ∀ {e : Expr} {x : Ex}, m.e N sc fc e x = true → SE X Z R Wx e x := fun q => S.e C.c w q
  unfold mS1 at h
  cases x with
  | set i v =>
    dsimp only at h
    split at h
    · rename_i y p e pos
      simp only [Bool.and_eq_true, decide_eq_true_eq] at h
      obtain ⟨⟨h1, h2⟩, h3⟩ := h
      obtain ⟨l1, l2⟩ := storeB_ok C.c h2
      have hN : X.N[i]? = some y := by rw [C.c.hN]; exact h1
      unfold mVal at h3
      rw [Bool.or_eq_true] at h3
      rcases h3 with h3 | h3
      · rw [Bool.and_eq_true] at h3
        exact ss_set C.c hN l1 l2 (SeE h3.2) (sw_no h3.1)
      · split at h3
        · cases hs : swB sc _ _ _ _ with
          | false =>
            rw [hs] at h3
            exact ss_set C.c hN l1 l2 (SeE h3) ((swB_ok C).trans (by rw [hs]))
          | true =>
            rw [hs] at h3
            have hy : X.env.scope.names.lookup y = some .local := by
              have q := hs
              unfold swB at q
              simp only [Bool.and_eq_true, beq_iff_eq, decide_eq_true_eq] at q
              rw [C.c.hsc]; exact q.1.1.2
            dsimp only at h3
            split at h3
            · obtain ⟨elt, t, iter, ifs, scope, pos2, e1, k1, L⟩ := compB_ok S C.c w h3
              cases e1
              have := ss_setLc (sub := sub) (spos := pos) C.c hN hy ((swB_ok C).trans (by rw [hs])) L
              rw [k1] at this
              exact this
            · obtain ⟨elt, t, iter, t1, iter1, ifs, scope, pos2, e1, k1, L⟩ := comp2B_ok S C.c w h3
              cases e1
              have := ss_setLc2 (sub := sub) (spos := pos) C.c hN hy ((swB_ok C).trans (by rw [hs])) L
              rw [k1] at this
              exact this
            · cases h3
        · cases h3
    · cases h
  | unp is v =>
    dsimp only at h
    split at h
    · simp only [Bool.and_eq_true] at h
      obtain ⟨⟨⟨h1, h2⟩, h3⟩, h4⟩ := h
      refine ss_unp (SeE h4) (tupB_ok C.c h1) (swS_no h2) ?_ rfl
      rename_i e _
      cases e <;> first | rfl | (exact absurd h3 Bool.false_ne_true)
    · cases h
  | setIdx i k v =>
    dsimp only at h
    split at h
    · simp only [Bool.and_eq_true] at h
      obtain ⟨⟨⟨h1, h2⟩, h3⟩, h4⟩ := h
      obtain ⟨v1, v2, v3, v4⟩ := varB_ok C.c h1
      obtain ⟨k1, k2, k3⟩ := mVal2_ok S C.c w h4
      exact ss_setIdx v1 v2 v3 v4 (SeE h3) k1 h2 k2
    · cases h
  | dput i k v =>
    dsimp only at h
    split at h
    · simp only [Bool.and_eq_true] at h
      obtain ⟨⟨h1, h3⟩, h4⟩ := h
      obtain ⟨v1, v2, v3, v4⟩ := varB_ok C.c h1
      obtain ⟨k1, k2, k3⟩ := mVal2_ok S C.c w h4
      exact ss_dput C.c v1 v2 v3 v4 (SeE h3) k1 k2
    · cases h
  | lm i q xs =>
    dsimp only at h
    split at h
    · rename_i y p z apos es cpos pos
      simp only [Bool.and_eq_true, decide_eq_true_eq] at h
      obtain ⟨⟨⟨⟨⟨⟨h1, rfl⟩, h3⟩, h4⟩, h5⟩, h6⟩, h7⟩ := h
      obtain ⟨v1, v2, v3, v4⟩ := varB_ok C.c h1
      cases es with
      | nil =>
        have e := nilOk_ok h6 rfl
        subst e
        exact ss_lm0 v1 v2 v3 v4 (line_ok h3)
      | cons a as => exact ss_lm v1 v2 v3 v4 (line_ok h3) (mA_ok SeE h7) h5 h4
    · cases h
  | popS j i xs =>
    dsimp only at h
    split at h
    · simp only [Bool.and_eq_true, decide_eq_true_eq] at h
      obtain ⟨⟨⟨⟨⟨⟨h1, h2⟩, h3⟩, rfl⟩, h5⟩, h6⟩, h7⟩ := h
      obtain ⟨l1, l2⟩ := storeB_ok C.c h2
      obtain ⟨v1, v2, v3, v4⟩ := varB_ok C.c h3
      cases xs with
      | nil => exact ss_pop C.c (by rw [C.c.hN]; exact h1) l1 l2 v1 v2 v3 v4 (line_ok h5) h6
      | cons _ _ => cases h7
    · cases h
  | aug i o v =>
    dsimp only at h
    split at h
    · simp only [Bool.and_eq_true, decide_eq_true_eq] at h
      obtain ⟨⟨⟨⟨h1, h2⟩, rfl⟩, h4⟩, h5⟩ := h
      obtain ⟨l1, l2⟩ := storeB_ok C.c h2
      exact ss_aug C.c (by rw [C.c.hN]; exact h1) l1 l2 (by cases o <;> first | exact .inl rfl | exact .inr rfl | cases h4) (SeE h5)
    · cases h
  | expr v =>
    dsimp only at h
    split at h
    · rw [Bool.and_eq_true] at h
      exact ss_expr (SeE h.2) h.1
    · cases h
  | ret v =>
    dsimp only at h
    split at h
    · exact ss_ret (SeE h)
    · cases h
  | retN =>
    dsimp only at h
    split at h
    · exact ss_retN
    · cases h
  | brk =>
    dsimp only at h
    split at h
    · exact ss_brk
    · cases h
  | cont =>
    dsimp only at h
    split at h
    · exact ss_cont
    · cases h
  | pass =>
    dsimp only at h
    split at h
    · exact ss_pass
    · cases h
  | bad => exact ss_bad
  | fset c k v =>
    dsimp only at h
    split at h
    · simp only [Bool.and_eq_true] at h
      obtain ⟨⟨h1, h2⟩, h3⟩ := h
      obtain ⟨v1, v2, v3, v4⟩ := varB_ok C.c h1
      obtain ⟨k1, k2, k3⟩ := mVal2_ok S C.c w h3
      cases hc : T.ci.lookup c with
      | none => rw [hc] at h2; cases h2
      | some ci =>
        rw [hc] at h2
        exact ss_fset v1 v2 v3 v4 (w.ci _ _ hc) (by simpa using h2) k1 k3
    · cases h
  | _ => cases h
theorem mSt_ok {r : S2} (S : Snd T m) (C : Cs X Wx N sc fc) (w : Wo X Z R T) (hr : ∀ {sts : List Stmt} {xs : Stms}, r sts xs = true → SSs X Z R Wx sub sts xs) {st : Stmt} {x : Stm} (h : mSt T m N sc fc r st x = true) : SS X Z R Wx sub st x := by
  unfold mSt at h
  rw [Bool.or_eq_true] at h
  rcases h with h | h
  · exact mS1_ok S C w h
  · cases x with
    | ifs c a b =>
      dsimp only at h
      split at h
      · simp only [Bool.and_eq_true] at h
        exact ss_if (S.t C.c w h.1.1) (hr h.1.2) (hr h.2)
      · cases h
    | whileS c a =>
      dsimp only at h
      split at h
      · simp only [Bool.and_eq_true] at h
        exact ss_while C.own (S.t C.c w h.1) (hr h.2)
      · cases h
    | forS tg it a =>
      dsimp only at h
      split at h
      · simp only [Bool.and_eq_true] at h
        obtain ⟨⟨⟨h1, h2⟩, h3⟩, h4⟩ := h
        exact ss_for C.c.calm C.own (mI_ok C.c (fun q => S.e C.c w q) h1) (tgB_ok C.c h2) (hr h4) h3
      · cases h
    | _ => cases h
theorem mB_ok {r : S2} (S : Snd T m) (C : Cs X Wx N sc fc) (w : Wo X Z R T) (hr : ∀ {sts : List Stmt} {xs : Stms}, r sts xs = true → SSs X Z R Wx sub sts xs) : ∀ {xs : Stms} {sts : List Stmt}, mB T m N sc fc r xs sts = true → SSs X Z R Wx sub sts xs
  | .nil, [], _ => sss_nil
  | .nil, _ :: _, h => by cases h
  | .cons s ss, sts, h => by
    have gen : mBc (mB T m N sc fc r ss) (fun st => mSt T m N sc fc r st s) sts = true → SSs X Z R Wx sub sts (.cons s ss) := fun h => by
      cases sts with
      | nil => cases h
      | cons st rest =>
        unfold mBc at h
        rw [Bool.and_eq_true] at h
        exact sss_cons (mSt_ok S C w hr h.1) (mB_ok S C w hr h.2)
    unfold mB at h
    cases s with
    | frz i => exact sss_frz (mB_ok S C w hr h)
    | _ => exact gen h
theorem mR_ok (S : Snd T m) (C : Cs X Wx N sc fc) (w : Wo X Z R T) : ∀ n {sts : List Stmt} {xs : Stms}, mR T m N sc fc n sts xs = true → SSs X Z R Wx sub sts xs
  | 0, _, _, h => by cases h
  | n + 1, _, _, h => mB_ok S C w (fun q => mR_ok S C w n q) h
end Ev


set_option Elab.async false
set_option linter.all false
set_option maxRecDepth 100000
set_option maxHeartbeats 4000000
namespace Ev
open PySem PySem.Spec L2
variable {P : Program} {w : World} {K : PySem.W.Frag} {mg : Str → Option Value} {base : Heap} {Z : Zd} {T : Tab} {Tx : Text}
section
variable {cls : Nat → Option ClsI} {cad : Nat → Addr} {TT : List (Addr × Str)} {s1 s2 : Addr}
mutual
theorem Rep.self {H : Hp} {O : Addr → Prop} : ∀ (d : D) (v : V), Rep ⟨K, cls, cad, TT, s1⟩ H O d v → Rep ⟨K, cls, cad, TT, s2⟩ H O d v
  | .non, v, h => h
  | .bl b, v, h => h
  | .int i, v, h => h
  | .str s, v, h => h
  | .tup xs, v, ⟨a, vs, e, h1, r⟩ => ⟨a, vs, e, h1, Reps.self xs vs r⟩
  | .tpn xs, v, ⟨a, vs, e, h1, r⟩ => ⟨a, vs, e, h1, Reps.self xs vs r⟩
  | .lst xs, v, ⟨a, vs, e, h1, n, r⟩ => ⟨a, vs, e, h1, n, Reps.self xs vs r⟩
  | .scr ns, v, ⟨a, e, h1⟩ => ⟨a, e, h1⟩
  | .ins c fs, v, ⟨a, dx, fvs, ci, e, h1, n, hc, hf, r⟩ => ⟨a, dx, fvs, ci, e, h1, n, hc, hf, Reps.self fs _ r⟩
termination_by structural d => d
theorem Reps.self {H : Hp} {O : Addr → Prop} : ∀ (ds : List D) (vs : List V), Reps ⟨K, cls, cad, TT, s1⟩ H O ds vs → Reps ⟨K, cls, cad, TT, s2⟩ H O ds vs
  | [], vs, h => h
  | d :: ds, vs, ⟨v, r, e, h1, t⟩ => ⟨v, r, e, Rep.self d v h1, Reps.self ds r t⟩
termination_by structural ds => ds
end
theorem ExOk.self {O : Addr → Prop} {H : Hp} {c : Nat} {fs : List D} {cl : Value} {dx : Option Addr} (h : ExOk ⟨K, cls, cad, TT, s1⟩ O H c fs cl dx) : ExOk ⟨K, cls, cad, TT, s2⟩ O H c fs cl dx := by
  refine ⟨h.1, ?_⟩
  have h2 := h.2
  cases fs with
  | nil => exact h2
  | cons d r => cases r with
    | cons _ _ => exact h2
    | nil => obtain ⟨a, v, nm, q1, q2, q3, q4⟩ := h2; exact ⟨a, v, nm, q1, q2, q3, q4.self⟩
end
/-! ### from the text to its defs -/
/-- what is known of a def -/
def DefW (K : PySem.W.Frag) (T : Tab) (Tx : Text) (g : Nat) (fa : Addr) (np : Nat) (fd : FuncData) (ps : List Str) : Prop := ∃ (x qual : Str) (st : Stmt) (N : List Str) (f : Fn),
  FunD K x qual (defArgs st) (defBody st) (defScope st) [] [] fa fd ∧ FnScope N ps (defScope st) ∧ Tx.fn g = some f ∧ N.length = f.ns ∧ ps.length = f.np ∧ f.np = np ∧ f.np ≤ f.ns ∧ Binds K fd ps [] ∧ mR T (mK T 40) N (defScope st) (fun _ => true) 40 (defBody st) f.body = true
def DefOk (K : PySem.W.Frag) (T : Tab) (Tx : Text) (g : Nat) (fa : Addr) (np : Nat) : Prop := ∃ fd ps, DefW K T Tx g fa np fd ps
structure Facts (K : PySem.W.Frag) (mg : Str → Option Value) (Z : Zd) (T : Tab) (Tx : Text) : Prop where
  fn : ∀ x g np, T.fns.lookup x = some (g, np) → ∃ fa, mg x = some (.ref fa) ∧ DefOk K T Tx g fa np
  me : ∀ c m g np, T.me.lookup (c, m) = some (g, np) → ∃ fa, Meth K (Z.cad c) m fa ∧ DefOk K T Tx g fa np
  cl : ∀ x c np, T.cls.lookup x = some (c, np) → mg x = some (.ref (Z.cad c)) ∧ ∃ fa gi nf ci, Tx.init c = some (gi, nf) ∧ Mk K (Z.cad c) fa ∧ DefOk K T Tx gi fa (np + 1) ∧ Z.cls c = some ci ∧ ci.fields.length = nf
  ci : ∀ c ci, T.ci.lookup c = some ci → Z.cls c = some ci ∧ Cls K (Z.cad c) ∧ (∀ f ∈ ci.fields, NoAttr K (Z.cad c) f) ∧ ci.fields.Nodup ∧ ci.fields.length < 1000
  con : ∀ x k, T.con.lookup x = some k → ∃ u v d, Tx.con k = some d ∧ mg x = some u ∧ RelV v u ∧ ∀ H O, Rep ⟨K, Z.cls, Z.cad, Z.T, Z.self⟩ H O d v
  ty : ∀ x ∈ (["bool", "str"] : List Str), mg x = none
  blt : ∀ x ∈ bltNames, mg x = none
/-- another instance is made -/
abbrev Zd.at (Z : Zd) (a : Addr) : Zd := { Z with self := a }
/-- what is promised at a depth -/
structure Prom (P : Program) (w : World) (K : PySem.W.Frag) (mg : Str → Option Value) (base : Heap) (Z : Zd) (T : Tab) (Tx : Text) (R : Rt) (k : Nat) : Prop where
  fn : ∀ sf g fa np fd ps, DefW K T Tx g fa np fd ps → FnOk P w K mg base (L2.CX P w) k fa fd ps (SpD ⟨K, Z.cls, Z.cad, Z.T, sf⟩ np (R.call g)) ∧ Binds K fd ps [] ∧ PySem.W.keepIn K (.ref fa) = true
  cl : ∀ sf c fa gi nf ci np fd ps, Tx.init c = some (gi, nf) → DefW K T Tx gi fa (np + 1) fd ps → Z.cls c = some ci → ci.fields.length = nf → FnOk P w K mg base (L2.CX P w) k fa fd ps (SpI ⟨K, Z.cls, Z.cad, Z.T, sf⟩ c np (R.new c)) ∧ Binds K fd ps []
theorem Facts.at (F : Facts K mg Z T Tx) (a : Addr) : Facts K mg (Z.at a) T Tx :=
  ⟨F.fn, F.me, F.cl, F.ci, fun x k h => let ⟨u, v, d, h1, h2, h3, h4⟩ := F.con x k h; ⟨u, v, d, h1, h2, h3, fun H O => (h4 H O).self⟩, F.ty, F.blt⟩
theorem Prom.at {R : Rt} {k : Nat} (Pr : Prom P w K mg base Z T Tx R k) (a : Addr) : Prom P w K mg base (Z.at a) T Tx R k := ⟨Pr.fn, Pr.cl⟩
theorem Prom.zero (k : Nat) : Prom P w K mg base Z T Tx (rt Tx 0) k where
  fn := fun sf g fa np fd ps ⟨x, qual, st, N, f, F, S, _, _, hp, hnp, _, hb, _⟩ =>
    ⟨⟨fun vs H Q E h => by rw [SpD.len h, ← hnp, ← hp], fun A outer s H args us vs Q E _ _ _ _ h => by obtain ⟨ds, Oc, _, _, _, _, h⟩ := h; exact h.elim⟩, hb, F.kp⟩
  cl := fun sf c fa gi nf ci np fd ps _ ⟨x, qual, st, N, f, F, S, _, _, hp, hnp, _, hb, _⟩ _ _ =>
    ⟨⟨fun vs H Q E h => by rw [SpI.len h, ← hnp, ← hp], fun A outer s H args us vs Q E _ _ _ _ h => by obtain ⟨ds, Oc, _, _, _, _, _, _, _, _, _, _, _, _, _, h⟩ := h; exact h.elim⟩, hb⟩
theorem room_mono {j k : Nat} {A : Around} (h : j ≤ k) (r : Room k A) : Room j A := ⟨r.hd, by have := r.dp; omega, by have := r.un; omega⟩
/-- the world of a def's body -/
theorem wo_of {X : Cx} {R : Rt} {k : Nat} (F : Facts K mg Z T Tx) (Pr : Prom P w K mg base Z T Tx R k) (hP : X.prog = P) (hw : X.w = w) (hK : X.K = K) (hm : X.mg = mg) (hb : X.base = base) (hc : R.con = Tx.con) (hr : Room (k + 1) X.A) : Wo X Z R T := by
  subst hP hw hK hm hb
  refine ⟨fun x g np h => ?_, fun x c np h => ?_, fun c ci h => ?_, fun c m g np h => ?_, fun x k' h => ?_, F.ty⟩
  · obtain ⟨fa, h1, h2⟩ := F.fn x g np h
    obtain ⟨fd, ps, h2⟩ := h2
    obtain ⟨h3, h4, h5⟩ := Pr.fn Z.self g fa np fd ps h2
    exact ⟨fa, h1, k, fd, ps, h3, room_mono (Nat.le_succ k) hr, h4, h5⟩
  · obtain ⟨h1, fa, gi, nf, ci, h2, h3, h4, h5, h6⟩ := F.cl x c np h
    obtain ⟨fd, ps, h4⟩ := h4
    obtain ⟨h7, h8⟩ := Pr.cl Z.self c fa gi nf ci np fd ps h2 h4 h5 h6
    exact ⟨h1, fa, k, fd, ps, h3, h7, hr, h8⟩
  · obtain ⟨h1, h2, h3, h4, h5⟩ := F.ci c ci h
    exact ⟨h1, h2, h3, h4, h5⟩
  · obtain ⟨fa, h1, h2⟩ := F.me c m g np h
    obtain ⟨fd, ps, h2⟩ := h2
    obtain ⟨h3, h4, h5⟩ := Pr.fn Z.self g fa np fd ps h2
    exact ⟨fa, h1, k, fd, ps, h3, room_mono (Nat.le_succ k) hr, h4, h5⟩
  · obtain ⟨u, v, d, h1, h2, h3, h4⟩ := F.con x k' h
    exact ⟨u, v, d, by rw [hc]; exact h1, h2, h3, h4⟩
/-- the state in which __init__ starts -/
theorem init_start {W : Wd} {Oc : Addr → Prop} {H0 H : Hp} {c ns : Nat} {xa dx : Addr} {ds : List D} {us : List V} {N : List Str} {ci : ClsI} (ow : Own Oc H0) (tb : LamX.Tabs W.T H0) (r : Reps W H0 Oc ds us) (hx : H0 xa = none) (hd : H0 dx = none) (ne : dx ≠ xa) (e : H = madeAt W c H0 xa dx) (hsf : xa = W.self) (hci : W.cls c = some ci)
    (hN : N.length = ns) (hl : ds.length + 1 ≤ ns) : RelS W Oc H0 (.o c [] :: (ds.map Sl.d ++ List.replicate (ns - (ds.length + 1)) .u)) (L2.start N (.ref xa :: us)) H := by
  have ext0 : Ext W.T H0 H := by rw [e]; exact made_ext hx hd ne
  have hlen := r.length
  have noO : ∀ a, Oc a → a ≠ xa := fun a z q => by
    obtain ⟨o, q', _⟩ := ow.some z
    rw [q, hx] at q'; cases q'
  have hxH : H xa = some (.ins (W.cad c) dx []) := by rw [e]; exact upd_same
  have sl0 : ∀ (i : Nat) (sl : Sl), (Sl.o c [] :: (ds.map Sl.d ++ List.replicate (ns - (ds.length + 1)) .u))[i]? = some sl → (i = 0 ∧ sl = .o c []) ∨ (∃ j d, i = j + 1 ∧ ds[j]? = some d ∧ sl = .d d) ∨ sl = .u := fun i sl h => by
    cases i with
    | zero => simp at h; exact .inl ⟨rfl, h.symm⟩
    | succ j =>
      rw [List.getElem?_cons_succ] at h
      by_cases hj : j < ds.length
      · rw [List.getElem?_append_left (by simpa using hj), List.getElem?_map] at h
        cases q : ds[j]? with
        | none => rw [q] at h; cases h
        | some d => rw [q] at h; cases h; exact .inr (.inl ⟨j, d, rfl, q, rfl⟩)
      · rw [List.getElem?_append_right (by simpa using hj), List.getElem?_replicate] at h
        split at h
        · cases h; exact .inr (.inr rfl)
        · cases h
  have at0 : (L2.start N (.ref xa :: us))[(0 : Nat)]? = some (some (V.ref xa)) := rfl
  have ownx : ∀ a, OwnS (.o c [] :: (ds.map Sl.d ++ List.replicate (ns - (ds.length + 1)) .u)) (L2.start N (.ref xa :: us)) a → a = xa := fun a ⟨i, sl, h1, h2, h3⟩ => by
    rcases sl0 i sl h1 with ⟨rfl, rfl⟩ | ⟨j, d, _, _, rfl⟩ | rfl
    · rw [at0] at h3; cases h3; rfl
    · cases h2
    · cases h2
  have so : Soft Oc H0 := ow.soft
  refine ⟨?_, ext0, ow, fun i sl hi => ?_, fun i j sl sl' a h1 h2 h3 h4 h5 h6 => ?_, ext0.tabs tb⟩
  · unfold L2.start
    simp [hlen, hN]
  · rcases sl0 i sl hi with ⟨rfl, rfl⟩ | ⟨j, d, rfl, hj, rfl⟩ | rfl
    · exact ⟨xa, at0, hx, hsf, dx, [], ci, hxH, hci, by simp, Nat.zero_le _, rfl⟩
    · obtain ⟨v, hv, q⟩ := r.get hj
      refine ⟨v, ?_, ?_⟩
      · unfold L2.start
        have hj' : j < us.length := (List.getElem?_eq_some_iff.mp hv).1
        rw [List.getElem?_append_left (by simpa using hj'), List.getElem?_map, List.getElem?_cons_succ, hv]
        rfl
      · refine (q.more (O' := fun a => Oc a ∨ a = xa) fun b hb => hb.elim .inl fun z => .inr (by rw [z]; exact hx)).kept (Kept.of ext0) ?_ |>.less fun b hb => hb.imp id (ownx b)
        exact so.add hx
    · trivial
  · rcases sl0 i sl h1 with ⟨rfl, rfl⟩ | ⟨_, d, _, _, rfl⟩ | rfl
    · rcases sl0 j sl' h2 with ⟨rfl, rfl⟩ | ⟨_, d, _, _, rfl⟩ | rfl
      · rfl
      · cases h4
      · cases h4
    · cases h3
    · cases h3
/-- the context of a def's body -/
theorem cs_of {qual : Str} {sc : Scope} {fa : Addr} {cdv : Value} {A : Around} {outer : List Env} {s : Shared} {H : Hp} {E : XK} {N ps : List Str} {k : Nat} (S : FnScope N ps sc) (hb : ∀ x ∈ bltNames, mg x = none) (hr : Room k (A.deeper (PyProof.Rows.envOfC qual sc s.heap.objs.size fa cdv))) :
    Cs (cxOf (L2.CX P w) P w K mg base N qual sc fa cdv A outer s H E) (fun cls d _ H => E cls d H) N sc (fun _ => true) where
  c := ⟨rfl, S.nd, rfl, rfl, takes_of rfl rfl rfl rfl, hr.units, hb, fun _ _ => rfl⟩
  own := passes_of rfl
  kind := S.kind
theorem rt_con (n : Nat) : (rt Tx n).con = Tx.con := by cases n <;> rfl
theorem Prom.step {n k : Nat} (F : Facts K mg Z T Tx) (Pr : Prom P w K mg base Z T Tx (rt Tx n) k) : Prom P w K mg base Z T Tx (rt Tx (n + 1)) (k + 2) where
  fn := fun sf g fa np fd ps ⟨x, qual, st, N, f, Fn, S, hf, hN, hp, hnp, hle, hb, hm⟩ => by
    refine ⟨Fn.ok S (fun vs H Q E h => by rw [SpD.len h, ← hnp, ← hp]) fun cdv A outer s H vs Q E hr h => ?_, hb, Fn.kp⟩
    obtain ⟨ds, Oc, hl, ow, tb, r, post⟩ := h
    refine ⟨_, pwSs _, ?_⟩
    have C := cs_of (P := P) (w := w) (K := K) (mg := mg) (base := base) (E := E) (H := H) (outer := outer) S F.blt hr
    have W := wo_of (X := cxOf (L2.CX P w) P w K mg base N qual (defScope st) fa cdv A outer s H E) (F.at sf) (Pr.at sf) rfl rfl rfl rfl rfl (rt_con n) hr
    have ss := mR_ok (sub := Tx.sub) (mK_ok T 40) C W 40 hm
    have post' : Post ⟨K, Z.cls, Z.cad, Z.T, sf⟩ Oc [] [] H (callF Tx (rt Tx n) g ds) Q E := post
    unfold callF at post'
    rw [hf] at post'
    dsimp only at post'
    rw [if_pos ⟨by rw [hl, hnp], hle⟩] at post'
    have hns : f.ns - ds.length = N.length - ds.length := by rw [hN]
    rw [hns] at post'
    refine ss Oc H _ _ H _ (RelS.start (N := N) ow tb r (by rw [hl, hN, ← hnp]; exact hle)) ?_
    cases q : execB Tx.sub (rt Tx n) f.body (ds.map Sl.d ++ List.replicate (N.length - ds.length) .u) with
    | exc c fs => rw [q] at post'; exact post'.elim
    | stuck => rw [q] at post'; exact post'.elim
    | ok o =>
      rw [q] at post'
      cases o with
      | nx σd' => exact fun σ' H' rel => post' .non H' rel.ext rfl
      | ret rv => exact fun v H' e o => post' v H' e o
      | bk σd' => exact post'.elim
      | ct σd' => exact post'.elim
      | ex c fs σd' =>
        intro cls dx σ' H' rel hx
        refine post' cls dx H' rel.ext ⟨hx.1, ?_⟩
        have h2 := hx.2
        cases fs with
        | nil => exact h2
        | cons d r => cases r with
          | cons _ _ => exact h2
          | nil => obtain ⟨a, v, nm, q1, q2, q3, q4⟩ := h2; exact ⟨a, v, nm, q1, q2, q3, Rep.less (fun b hb => .inl hb) _ _ q4⟩
  cl := fun sf c fa gi nf ci np fd ps hi ⟨x, qual, st, N, f, Fn, S, hf, hN, hp, hnp, hle, hb, hm⟩ hci hnf => by
    refine ⟨Fn.ok S (fun vs H Q E h => by rw [SpI.len h, ← hnp, ← hp]) fun cdv A outer s H vs Q E hr h => ?_, hb⟩
    obtain ⟨ds, Oc, H0, xa, dx, us, e1, hl, hx0, hd0, hne, e2, ow, tb, r, post⟩ := h
    subst e1
    refine ⟨_, pwSs _, ?_⟩
    have C := cs_of (P := P) (w := w) (K := K) (mg := mg) (base := base) (E := E) (H := H) (outer := outer) S F.blt hr
    have W := wo_of (X := cxOf (L2.CX P w) P w K mg base N qual (defScope st) fa cdv A outer s H E) (F.at xa) (Pr.at xa) rfl rfl rfl rfl rfl (rt_con n) hr
    have ss := mR_ok (sub := Tx.sub) (mK_ok T 40) C W 40 hm
    have post' : PostM ⟨K, Z.cls, Z.cad, Z.T, sf⟩ Oc H0 (makeF Tx (rt Tx n) c ds) (fun d H' => Rep ⟨K, Z.cls, Z.cad, Z.T, sf⟩ H' Oc d (.ref xa) → Q .non H') E := post
    unfold makeF at post'
    rw [hi] at post'
    dsimp only at post'
    rw [hf] at post'
    dsimp only at post'
    rw [if_pos ⟨by rw [hl, hnp], hle⟩] at post'
    have ext0 : Ext Z.T H0 H := by rw [e2]; exact made_ext hx0 hd0 hne
    -- the state at the start
    have hnl : ds.length + 1 ≤ N.length := by rw [hl, hN, ← hnp]; exact hle
    have hlen := r.length
    have noO : ¬ Oc xa := fun z => by
      obtain ⟨o, q, _⟩ := ow.some z
      rw [hx0] at q; cases q
    have start : RelS ⟨K, Z.cls, Z.cad, Z.T, xa⟩ Oc H0 (.o c [] :: (ds.map Sl.d ++ List.replicate (f.ns - (ds.length + 1)) .u)) (L2.start N (.ref xa :: us)) H := init_start (W := ⟨K, Z.cls, Z.cad, Z.T, xa⟩) ow tb r.self hx0 hd0 hne e2 rfl hci hN (by rw [hl, ← hnp]; exact hle)
    refine ss Oc H0 _ _ H _ start ?_
    cases q : execB Tx.sub (rt Tx n) f.body (.o c [] :: (ds.map Sl.d ++ List.replicate (f.ns - (ds.length + 1)) .u)) with
    | exc c fs => rw [q] at post'; exact post'.elim
    | stuck => rw [q] at post'; exact post'.elim
    | ok o =>
      rw [q] at post'
      cases o with
      | nx σd' =>
        intro σ' H' rel
        have p3 : PostM ⟨K, Z.cls, Z.cad, Z.T, sf⟩ Oc H0 (doneO c nf σd') (fun d H' => Rep ⟨K, Z.cls, Z.cad, Z.T, sf⟩ H' Oc d (.ref xa) → Q .non H') E := post'
        unfold doneO at p3
        cases q0 : σd'[(0 : Nat)]? with
        | none => rw [q0] at p3; exact p3.elim
        | some sl =>
          rw [q0] at p3
          cases sl with
          | o c' fs =>
            dsimp only at p3
            split at p3
            · rename_i hc
              obtain ⟨rfl, hl2⟩ := hc
              obtain ⟨a, ha, n0, ws, dx', fvs, ci', w1, w2, w3, w4, w5⟩ := rel.slots 0 _ q0
              have ec : ci' = ci := by rw [show Z.cls c' = some ci' from w2] at hci; exact Option.some.inj hci
              subst ec
              have wx : a = xa := ws
              subst wx
              refine p3 H' rel.ext ⟨a, dx', fvs, ci', rfl, w1, fun z => ?_, hci, ?_, (w5.less fun b hb => .inl hb).self⟩
              · obtain ⟨o, q, _⟩ := ow.some z
                rw [hx0] at q; cases q
              · rw [w3, List.take_of_length_le (by omega)]
            · exact p3.elim
          | _ => exact p3.elim
      | ret rv => exact post'.elim
      | bk σd' => exact post'.elim
      | ct σd' => exact post'.elim
      | ex c fs σd' =>
        intro cls dx σ' H' rel hx
        refine post' cls dx H' rel.ext (ExOk.self (s1 := xa) ⟨hx.1, ?_⟩)
        have h2 := hx.2
        cases fs with
        | nil => exact h2
        | cons d r => cases r with
          | cons _ _ => exact h2
          | nil => obtain ⟨a, v, nm, q1, q2, q3, q4⟩ := h2; exact ⟨a, v, nm, q1, q2, q3, Rep.less (fun b hb => .inl hb) _ _ q4⟩
theorem Prom.all (F : Facts K mg Z T Tx) : ∀ n, Prom P w K mg base Z T Tx (rt Tx n) (2 * n)
  | 0 => Prom.zero 0
  | n + 1 => Prom.step F (Prom.all F n)
end Ev


set_option Elab.async false
set_option linter.all false
set_option maxRecDepth 100000
set_option maxHeartbeats 4000000
namespace Ev
open PySem PySem.Spec L2
/-! ### the head's facts, from the text's data -/
/-- a def: its number, where it stands, its tree, its names -/
structure DI where
  g : Nat
  at_ : Str × Option Str
  name : Str
  qual : Str
  st : Stmt
  N : List Str
  np : Nat
abbrev DI.ps (d : DI) : List Str := d.N.take d.np
def DI.toD (d : DI) : He.DefD := ⟨d.at_, d.name, d.qual, defArgs d.st, defBody d.st, defScope d.st, [], []⟩
abbrev FnF (K : PySem.W.Frag) (d : DI) (fd : FuncData) : Prop := FunD K d.name d.qual (defArgs d.st) (defBody d.st) (defScope d.st) [] [] (He.fAd K d.at_) fd
/-- a constant -/
inductive CoV where
  | int (i : Int) | str (s : Str)
def CoV.d : CoV → D
  | .int i => .int i
  | .str s => .str s
def CoV.fa (x : Str) : CoV → He.Fa
  | .int i => .int x i
  | .str s => .str x s
structure Dat where
  T : Tab
  Tx : Text
  defs : List DI
  /-- each class's name -/
  cn : List (Nat × Str)
  /-- each class's __init__: its def -/
  ini : List (Nat × Nat)
  cv : List (Str × Nat × CoV)
def Dat.cnm (A : Dat) (c : Nat) : Str := (A.cn.lookup c).getD Str.empty
/-- the facts that are asked of the head -/
def Dat.fa (A : Dat) : List He.Fa :=
  A.T.fns.map (fun p => .glo p.1) ++ A.T.cls.flatMap (fun p => [.glo p.1, .mkr p.1]) ++ A.T.ci.flatMap (fun p => .cls (A.cnm p.1) :: p.2.fields.map fun f => .noat (A.cnm p.1) f) ++
    A.T.me.map (fun p => .meth (A.cnm p.1.1) p.1.2) ++ A.cv.map (fun p => p.2.2.fa p.1) ++ (bltNames ++ (["bool", "str"] : List Str)).map .free
def Dat.fn (A : Dat) : List He.DefD := A.defs.map DI.toD
def Dat.Z (A : Dat) (K : PySem.W.Frag) : Zd := ⟨fun c => A.T.ci.lookup c, fun c => He.ga K (A.cnm c), [], 0⟩
/-- what is checked of the data -/
def Dat.chk (A : Dat) : Bool :=
  (A.T.fns.all fun p => A.defs.any fun d => decide (d.g = p.2.1) && decide (d.at_ = (p.1, none)) && decide (d.np = p.2.2)) &&
  (A.T.cls.all fun p => decide (A.cnm p.2.1 = p.1) && (A.defs.any fun d => decide (d.at_ = (p.1, some ("__init__" : Str))) && decide (d.np = p.2.2 + 1) &&
    match A.T.ci.lookup p.2.1 with | some ci => decide (A.Tx.init p.2.1 = some (d.g, ci.fields.length)) | none => false)) &&
  (A.T.me.all fun p => A.defs.any fun d => decide (d.g = p.2.1) && decide (d.at_ = (A.cnm p.1.1, some p.1.2)) && decide (d.np = p.2.2)) &&
  (A.T.ci.all fun p => decide p.2.fields.Nodup && decide (p.2.fields.length < 1000)) &&
  (A.T.con.all fun p => A.cv.any fun q => decide (q.1 = p.1) && decide (q.2.1 = p.2))
/-- what is checked of a def -/
def scB (N ps : List Str) (sc : Scope) : Bool := decide (sc.kind = .function) && !sc.isCoroutine && !sc.isGenerator && decide N.Nodup && decide (N.take ps.length = ps) && ps.all (fun x => locB sc x) && sc.names.all fun y => decide (y.2 ≠ .free)
theorem scB_ok {N ps : List Str} {sc : Scope} (h : scB N ps sc = true) : FnScope N ps sc := by
  unfold scB at h
  simp only [Bool.and_eq_true, decide_eq_true_eq, Bool.not_eq_true'] at h
  obtain ⟨⟨⟨⟨⟨⟨h1, h2⟩, h3⟩, h4⟩, h5⟩, h6⟩, h7⟩ := h
  refine ⟨h1, h2, h3, h4, h5, fun x hx => ?_, fun y hy => ?_⟩
  · have q := List.all_eq_true.mp h6 x hx
    unfold locB at q
    split at q <;> first | exact .inl (by assumption) | exact .inr (by assumption) | cases q
  · have q := List.all_eq_true.mp h7 y hy
    simpa using q
def Dat.chkD (A : Dat) (d : DI) : Bool := scB d.N d.ps (defScope d.st) && decide (d.np ≤ d.N.length) && match A.Tx.fn d.g with
  | some f => decide (d.N.length = f.ns) && decide (d.np = f.np) && mR A.T (mK A.T 40) d.N (defScope d.st) (fun _ => true) 40 (defBody d.st) f.body
  | none => false
/-- how its arguments bind -/
def DI.binds (d : DI) : Prop := ∀ (kV doc pm : Value) (an : Option Addr) (cdv ct : Value) (us : List Value), us.length = d.ps.length → bindArgs (PySem.W.fnOf d.name d.qual (defArgs d.st) (defBody d.st) (defScope d.st) .none kV doc pm an cdv ct) ⟨us, []⟩ = pure (d.ps.zip us)
theorem defOk_of {A : Dat} {d : DI} {K : PySem.W.Frag} {fd : FuncData} (h : A.chkD d = true) (b : d.binds) (F : FnF K d fd) : DefW K A.T A.Tx d.g (He.fAd K d.at_) d.np fd d.ps := by
  unfold Dat.chkD at h
  rw [Bool.and_eq_true, Bool.and_eq_true, decide_eq_true_eq] at h
  obtain ⟨⟨h1, h2⟩, h3⟩ := h
  cases q : A.Tx.fn d.g with
  | none => rw [q] at h3; cases h3
  | some f =>
    rw [q] at h3
    simp only [Bool.and_eq_true, decide_eq_true_eq] at h3
    obtain ⟨⟨h4, h5⟩, h6⟩ := h3
    exact ⟨d.name, d.qual, d.st, d.N, f, F, scB_ok h1, q, h4, by rw [← h5]; simp; omega, h5.symm, by rw [← h5, ← h4]; exact h2, F.bindsN b, h6⟩
theorem lookup_mem {α β : Type} [BEq α] [LawfulBEq α] : ∀ {l : List (α × β)} {a : α} {b : β}, l.lookup a = some b → (a, b) ∈ l
  | [], _, _, h => by cases h
  | (x, y) :: l, a, b, h => by
    rw [List.lookup_cons] at h
    cases e : a == x with
    | true => rw [e] at h; cases h; have := eq_of_beq e; subst this; exact List.mem_cons_self
    | false => rw [e] at h; exact List.mem_cons_of_mem _ (lookup_mem h)
theorem facts_of {A : Dat} {K : PySem.W.Frag} {h : Heap} {mg : Str → Option Value} (X : K.In h) (G : h.Ns mainGlobals mg) (c : He.SaysD A.fa A.fn K) (hc : A.chk = true) (hcon : ∀ p ∈ A.cv, A.Tx.con p.2.1 = some p.2.2.d)
    (hd : ∀ d ∈ A.defs, A.chkD d = true ∧ d.binds) : Facts K mg (A.Z K) A.T A.Tx := by
  have fact : ∀ f ∈ A.fa, f.ok K = true := fun f hf => by
    obtain ⟨i, hi⟩ := List.mem_iff_getElem?.mp hf
    exact c.fact i hi
  have dok : ∀ d ∈ A.defs, DefOk K A.T A.Tx d.g (He.fAd K d.at_) d.np := fun d hm => by
    obtain ⟨i, hi⟩ := List.mem_iff_getElem?.mp hm
    have hf : A.fn[i]? = some d.toD := by unfold Dat.fn; rw [List.getElem?_map, hi]; rfl
    obtain ⟨fd, F⟩ := c.def_ i hf
    obtain ⟨k1, k2⟩ := hd d hm
    exact ⟨fd, _, defOk_of k1 k2 F⟩
  unfold Dat.chk at hc
  simp only [Bool.and_eq_true] at hc
  obtain ⟨⟨⟨⟨c1, c2⟩, c3⟩, c4⟩, c5⟩ := hc
  have inFa : ∀ {f : He.Fa}, (f ∈ A.T.fns.map (fun p => He.Fa.glo p.1) ∨ f ∈ A.T.cls.flatMap (fun p => [.glo p.1, .mkr p.1]) ∨ f ∈ A.T.ci.flatMap (fun p => .cls (A.cnm p.1) :: p.2.fields.map fun f => .noat (A.cnm p.1) f) ∨
      f ∈ A.T.me.map (fun p => He.Fa.meth (A.cnm p.1.1) p.1.2) ∨ f ∈ A.cv.map (fun p => p.2.2.fa p.1) ∨ f ∈ (bltNames ++ (["bool", "str"] : List Str)).map He.Fa.free) → f ∈ A.fa := fun {f} h => by
    unfold Dat.fa
    simp only [List.mem_append]
    rcases h with h | h | h | h | h | h
    · exact .inl (.inl (.inl (.inl (.inl h))))
    · exact .inl (.inl (.inl (.inl (.inr h))))
    · exact .inl (.inl (.inl (.inr h)))
    · exact .inl (.inl (.inr h))
    · exact .inl (.inr h)
    · exact .inr h
  refine ⟨fun x g np hx => ?_, fun cc m g np hx => ?_, fun x cc np hx => ?_, fun cc ci hx => ?_, fun x k hx => ?_, fun x hx => ?_, fun x hx => ?_⟩
  · have hm := lookup_mem hx
    have q := List.all_eq_true.mp c1 _ hm
    obtain ⟨d, hdm, q⟩ := List.any_eq_true.mp q
    simp only [Bool.and_eq_true, decide_eq_true_eq] at q
    obtain ⟨⟨q1, q2⟩, q3⟩ := q
    have D := dok d hdm
    rw [q1, q2, q3] at D
    exact ⟨_, He.glo_ok X G (fact _ (inFa (.inl (List.mem_map.mpr ⟨_, hm, rfl⟩)))), D⟩
  · have hm := lookup_mem hx
    have q := List.all_eq_true.mp c3 _ hm
    obtain ⟨d, hdm, q⟩ := List.any_eq_true.mp q
    simp only [Bool.and_eq_true, decide_eq_true_eq] at q
    obtain ⟨⟨q1, q2⟩, q3⟩ := q
    have D := dok d hdm
    rw [q1, q2, q3] at D
    exact ⟨_, He.meth_ok (fact _ (inFa (.inr (.inr (.inr (.inl (List.mem_map.mpr ⟨_, hm, rfl⟩))))))), D⟩
  · have hm := lookup_mem hx
    have q := List.all_eq_true.mp c2 _ hm
    rw [Bool.and_eq_true, decide_eq_true_eq] at q
    obtain ⟨q0, q⟩ := q
    obtain ⟨d, hdm, q⟩ := List.any_eq_true.mp q
    simp only [Bool.and_eq_true, decide_eq_true_eq] at q
    obtain ⟨⟨q1, q2⟩, q3⟩ := q
    have D := dok d hdm
    rw [q1, q2] at D
    have e : (A.Z K).cad cc = He.ga K x := by show He.ga K (A.cnm cc) = _; rw [q0]
    have g1 := He.glo_ok X G (fact _ (inFa (f := .glo x) (.inr (.inl (List.mem_flatMap.mpr ⟨_, hm, by simp⟩)))))
    have g2 := He.mkr_ok (fact _ (inFa (f := .mkr x) (.inr (.inl (List.mem_flatMap.mpr ⟨_, hm, by simp⟩)))))
    cases hci : A.T.ci.lookup cc with
    | none => rw [hci] at q3; cases q3
    | some ci =>
      rw [hci] at q3
      exact ⟨by rw [e]; exact g1, _, d.g, ci.fields.length, ci, by simpa using q3, by rw [e]; exact g2, D, hci, rfl⟩
  · have hm := lookup_mem hx
    have q := List.all_eq_true.mp c4 _ hm
    simp only [Bool.and_eq_true, decide_eq_true_eq] at q
    refine ⟨hx, He.cls_ok (fact _ (inFa (.inr (.inr (.inl (List.mem_flatMap.mpr ⟨_, hm, List.mem_cons_self⟩)))))), fun f hf => He.noat_ok (fact _ (inFa (.inr (.inr (.inl (List.mem_flatMap.mpr ⟨_, hm, List.mem_cons_of_mem _ (List.mem_map.mpr ⟨f, hf, rfl⟩)⟩)))))), q.1, q.2⟩
  · have hm := lookup_mem hx
    have q := List.all_eq_true.mp c5 _ hm
    obtain ⟨p, hpm, q⟩ := List.any_eq_true.mp q
    simp only [Bool.and_eq_true, decide_eq_true_eq] at q
    obtain ⟨q1, q2⟩ := q
    have hv := hcon p hpm
    have ff := fact _ (inFa (.inr (.inr (.inr (.inr (.inl (List.mem_map.mpr ⟨p, hpm, rfl⟩)))))))
    obtain ⟨y, k', v⟩ := p
    dsimp only at q1 q2 hv ff
    subst q1 q2
    cases v with
    | int i => obtain ⟨t, e⟩ := He.int_ok X G ff; exact ⟨_, .int i, .int i, hv, e, ⟨t, rfl⟩, fun _ _ => rfl⟩
    | str s => obtain ⟨t, e⟩ := He.str_ok X G ff; exact ⟨_, .str s, .str s, hv, e, ⟨t, rfl⟩, fun _ _ => rfl⟩
  · exact He.free_ok X G (fact _ (inFa (.inr (.inr (.inr (.inr (.inr (List.mem_map.mpr ⟨x, List.mem_append_right _ hx, rfl⟩))))))))
  · exact He.free_ok X G (fact _ (inFa (.inr (.inr (.inr (.inr (.inr (List.mem_map.mpr ⟨x, List.mem_append_left _ hx, rfl⟩))))))))
end Ev


set_option Elab.async false
set_option linter.all false
set_option maxRecDepth 100000
set_option maxHeartbeats 4000000
namespace L2
open PySem PySem.Spec PyProof.Rows
/-- as walk_ofE, where what may be let out hangs on the world -/
theorem walk_ofEw {l : PySem.W.OpenLaw} {n k : Nat} {q : Program} {loose : List Str} {XP : (Str → Option Value) → Heap → Prop} {YP : World → Heap → Prop} {d : DefRec} {CX : World → CXT} {x : Str}
    (hn : l.most = some n) (hn2 : n ≤ sizeLine) (hdf : d.params.defaults = []) (hr : Room k callerA)
    (F : ∀ (w : World) (mg : Str → Option Value) (fa : Addr) (h : Heap), YP w h → h.Ns mainGlobals mg → mg d.name = some (.ref fa) →
      ∃ (K : PySem.W.Frag) (fd : FuncData) (sp : Sp), K.In h ∧ (∀ (s : Shared) (u : Value), BindsTo s fd ⟨[u], []⟩ [(x, u)]) ∧
        (∀ (H : Hp) (a : Addr) (ns : List Int), ns.length ≤ n → Only H → SqL K H a (ns.map V.int) → sp [.ref a] H (fun v _ => v = .bl true) fun _ _ _ => False) ∧
        ∀ base : Heap, K.In base → base.Ns mainGlobals mg → FnOk l.prog w K mg base (CX w) k fa fd [x] sp)
    (hCX : ∀ (w : World) (H : Hp) (s : Shared) (e : Value) (s' : Shared), CX w [] H s (fun _ _ _ => False) e s' → False) :
    PySem.W.WalkO q loose XP YP l.row.toRowW d [] (fun f vs => PySem.call f vs) := by
  refine Att.attach_call hn hdf fun w s₀ s₁ mg mb fa o pm cd doc a vs ns G Y ho hd hcd hmg hobj hints hlen hg => ?_
  obtain ⟨K, fd, sp, KX, hb, hsp, hF⟩ := F w mg fa _ Y G.T.g hmg
  exact law_call KX G.T.g G.T.b G.T.builtins G.T.nolimit hg hobj hints (Nat.le_trans hlen hn2) hr hF hb (fun H hO hS => hsp H a ns hlen hO hS) fun H e s' => hCX w H s₁ e s'
end L2
namespace Ev
open PySem PySem.Spec L2
/-- the law's walk, from the data and from what the interpreter says -/
theorem walk_law {l : PySem.W.OpenLaw} {n k lv : Nat} {q : Program} {loose : List Str} {XP : (Str → Option Value) → Heap → Prop} {d : DefRec} {A : Dat} {x y : Str} {dl : DI}
    (hn : l.most = some n) (hn2 : n ≤ sizeLine) (hdf : d.params.defaults = []) (hr : Room (2 * lv) callerA) (hname : d.name = y)
    (hc : A.chk = true) (hcon : ∀ p ∈ A.cv, A.Tx.con p.2.1 = some p.2.2.d) (hd : ∀ d ∈ A.defs, A.chkD d = true ∧ d.binds)
    (hl : dl ∈ A.defs) (hat : dl.at_ = (y, none)) (hnp : dl.np = 1) (hps : dl.ps = [x]) (hglo : A.T.fns.lookup y = some (dl.g, 1))
    (law : ∀ ns : List Int, ns.length ≤ n → (rt A.Tx lv).call dl.g [.scr ns] = .ok (.v (.bl true))) :
    PySem.W.WalkO q loose XP (fun w h => (He.hookD k A.fa A.fn).says w h) l.row.toRowW d [] (fun f vs => PySem.call f vs) := by
  refine walk_ofEw (CX := fun w => L2.CX l.prog w) (x := x) hn hn2 hdf hr (fun w mg fa h Y G hmg => ?_) (fun w H s e s' z => ?_)
  · obtain ⟨K, KX, c⟩ := Y
    have F := facts_of KX G c hc hcon hd
    obtain ⟨i, hi⟩ := List.mem_iff_getElem?.mp hl
    have hf : A.fn[i]? = some dl.toD := by unfold Dat.fn; rw [List.getElem?_map, hi]; rfl
    obtain ⟨fd, Fd⟩ := c.def_ i hf
    obtain ⟨k1, k2⟩ := hd dl hl
    have W := defOk_of k1 k2 Fd
    have g1 : mg y = some (.ref (He.ga K y)) := He.glo_ok KX G (by
      obtain ⟨j, hj⟩ := List.mem_iff_getElem?.mp (show He.Fa.glo y ∈ A.fa by
        unfold Dat.fa
        simp only [List.mem_append]
        exact .inl (.inl (.inl (.inl (.inl (List.mem_map.mpr ⟨_, lookup_mem hglo, rfl⟩))))))
      exact c.fact j hj)
    have hfa : He.fAd K dl.at_ = fa := by
      rw [hat]
      rw [hname, g1] at hmg
      cases hmg; rfl
    have b := FunD.bindsA (ps := dl.ps) Fd k2
    refine ⟨K, fd, SpD ⟨K, (A.Z K).cls, (A.Z K).cad, (A.Z K).T, 0⟩ 1 ((rt A.Tx lv).call dl.g), KX, fun s u => ?_, fun H a ns hln hO hS => ?_, fun base hb hbn => ?_⟩
    · have := b s [u] (by rw [hps]; rfl)
      rw [hps] at this
      exact this
    · refine ⟨[.scr ns], fun _ => False, rfl, fun a h => h.elim, fun p hp => (by cases hp), ⟨.ref a, [], rfl, ⟨a, rfl, ?_⟩, rfl⟩, ?_⟩
      · exact hS.imp (fun h => ⟨h, fun z => z⟩) id
      · rw [law ns hln]
        exact fun v H' _ r => r
    · have Pr := Prom.all (P := l.prog) (w := w) (base := base) F lv
      obtain ⟨h1, _, _⟩ := Pr.fn 0 dl.g _ _ fd dl.ps W
      rw [hfa, hps, hnp] at h1
      exact h1
  · obtain ⟨_, _, _, _, _, _, _, _, _, _, _, _, z⟩ := z
    exact z
end Ev


set_option Elab.async false
set_option linter.all false
set_option maxRecDepth 100000
namespace Ev
open PySem PySem.Spec L2
def lb0 : Stms := (.cons (.ifs (.cmp .gt (.var 2) (.int 0)) (.cons (.lm 3 .append (.cons (.bin .mod (.p1 .int (.var 2)) (.int 1000)) .nil)) (.cons (.set 2 (.bin .fdiv (.var 2) (.int 1000))) (.cons (.frz 2) .nil))) (.cons (.set 5 (.bin .mod (.p1 .int (.bin .add (.bin .mul (.var 0) (.int 48271)) (.bin .mul (.bin .add (.var 4) (.int 1)) (.int 69621)))) (.int 2147483647))) (.cons (.frz 5) (.cons (.set 5 (.bin .mod (.p1 .int (.bin .add (.bin .mul (.var 5) (.var 5)) (.bin .mul (.bin .add (.var 4) (.int 3)) (.int 40692)))) (.int 2147483399))) (.cons (.frz 5) (.cons (.set 5 (.bin .mod (.p1 .int (.bin .add (.bin .add (.bin .mul (.var 5) (.int 16807)) (.var 0)) (.var 4))) (.int 2147483647))) (.cons (.frz 5) (.cons (.lm 3 .append (.cons (.bin .fdiv (.var 5) (.int 5)) .nil)) .nil)))))))) .nil)
def lb1 : Stms := (.cons (.frz 2) (.cons (.dput 1 (.idx (.var 0) (.var 2)) (.var 2)) .nil))
def lb2 : Stms := (.cons (.set 6 (.p1 .tuple (.comp (.idx (.var 5) (.var 7)) [7] [7] (.seq (.idx (.var 2) (.var 4))) .no))) (.cons (.ifs (.din 3 true (.var 6)) (.cons (.dput 3 (.var 6) (.bl true)) (.cons (.frz 6) (.cons (.lm 2 .append (.cons (.var 6) .nil)) .nil))) .nil) .nil))
def lb3 : Stms := (.cons (.ifs (.cmp .lt (.var 4) (.p1 .len (.var 2))) (.cons (.frz 0) (.cons (.forS [5] (.seq (.var 0)) lb2) .nil)) .nil) .nil)
def lb4 : Stms := (.cons (.ifs (.cmp .ne (.var 4) (.int 1)) (.cons (.set 4 (.bin .mod (.p1 .int (.bin .mul (.var 4) (.var 2))) (.var 1))) (.cons (.frz 4) (.cons (.aug 3 .add (.int 1)) .nil))) .nil) .nil)
def lb5 : Stms := (.cons (.set 6 (.bin .add (.var 6) (.comp (.bin .add (.bin .mul (.var 7) (.var 2)) (.var 8)) [8] [8] (.seq (.var 5)) .no))) (.cons (.frz 6) .nil))
def lb6 : Stms := (.cons (.set 6 (.lst .nil)) (.cons (.frz 6) (.cons (.frz 4) (.cons (.forS [7] (.seq (.var 4)) lb5) (.cons (.frz 6) (.cons (.lm 3 .append (.cons (.var 6) .nil)) .nil))))))
def lb7 : Stms := (.cons (.frz 1) (.cons (.forS [5] (.seq (.var 1)) lb6) .nil))
def lb8 : Stms := (.cons (.set 5 (.bin .add (.int 1) (.bin .mod (.p1 .int (.idx (.var 1) (.bin .mod (.var 3) (.p1 .len (.var 1))))) (.var 3)))) (.cons (.frz 5) (.cons (.set 6 (.idx (.var 2) (.var 3))) (.cons (.frz 6) (.cons (.setIdx 2 (.var 3) (.idx (.var 2) (.var 5))) (.cons (.frz 6) (.cons (.setIdx 2 (.var 5) (.var 6)) .nil)))))))
def lb9 : Stms := (.cons (.frz 3) (.cons (.setIdx 4 (.idx (.var 2) (.var 3)) (.var 3)) .nil))
def lb10 : Stms := (.cons (.ifs (.not (.idx (.var 2) (.idx (.var 5) (.var 6)))) (.cons (.setIdx 2 (.idx (.var 5) (.var 6)) (.bl true)) (.cons (.lm 3 .append (.cons (.idx (.var 5) (.var 6)) .nil)) .nil)) .nil) .nil)
def lb11 : Stms := (.cons (.set 5 (.idx (.var 0) (.idx (.var 3) (.var 4)))) (.cons (.frz 5) (.cons (.frz 1) (.cons (.forS [6] (.seq (.var 1)) lb10) (.cons (.aug 4 .add (.int 1)) .nil)))))
def lb12 : Stms := (.cons (.ifs (.cmp .ni (.var 3) (.var 2)) (.cons (.frz 3) (.cons (.lm 1 .append (.cons (.var 3) .nil)) (.cons (.set 2 (.call 9 (.cons (.var 0) (.cons (.var 1) .nil)))) (.cons (.frz 2) .nil)))) .nil) .nil)
def lb13 : Stms := (.cons (.ifs (.cmp .ne (.p1 .list (.idx (.var 0) (.idx (.idx (.var 0) (.var 2)) (.var 1)))) (.comp (.idx (.idx (.var 0) (.var 2)) (.var 3)) [3] [3] (.seq (.idx (.var 0) (.var 1))) .no)) (.cons (.ret (.bl false)) .nil) .nil) .nil)
def lb14 : Stms := (.cons (.forS [2] (.r1 (.p1 .len (.var 0))) lb13) .nil)
def lb15 : Stms := (.cons (.frz 8) (.cons (.set 7 (.comp (.var 8) [8] [8] (.r1 (.p1 .len (.var 0))) (.some (.cmp .ni (.call 14 (.cons (.var 0) (.cons (.var 1) (.cons (.var 5) (.cons (.var 8) .nil))))) (.idx (.var 2) (.neg (.int 1))))))) (.cons (.frz 7) (.cons (.ifs (.cmp .eq (.p1 .len (.var 7)) (.int 0)) (.cons (.frz 5) (.cons (.lm 4 .append (.cons (.var 5) .nil)) .nil)) .nil) .nil))))
def lb16 : Stms := (.cons (.set 4 (.lst .nil)) (.cons (.forS [5] (.r1 (.p1 .len (.var 0))) lb15) (.cons (.ifs (.cmp .eq (.var 4) (.idx (.var 2) (.neg (.int 1)))) (.cons (.ret (.var 2)) .nil) .nil) (.cons (.frz 4) (.cons (.lm 2 .append (.cons (.var 4) .nil)) .nil)))))
def lb17 : Stms := (.cons (.setIdx 4 (.call 14 (.cons (.var 0) (.cons (.var 1) (.cons (.var 5) (.cons (.var 8) .nil))))) (.bl true)) .nil)
def lb18 : Stms := (.cons (.forS [8] (.seq (.idx (.var 2) (.neg (.int 1)))) lb17) .nil)
def lb19 : Stms := (.cons (.set 7 (.idx (.idx (.var 0) (.idx (.var 3) (.var 4))) (.var 6))) (.cons (.frz 7) (.cons (.ifs (.not (.idx (.var 2) (.var 7))) (.cons (.setIdx 2 (.var 7) (.bl true)) (.cons (.frz 7) (.cons (.lm 3 .append (.cons (.var 7) .nil)) .nil))) .nil) .nil)))
def lb20 : Stms := (.cons (.ifs (.cmp .lt (.var 4) (.p1 .len (.var 3))) (.cons (.frz 1) (.cons (.forS [6] (.seq (.var 1)) lb19) .nil)) .nil) .nil)
def lb21 : Stms := (.cons (.set 4 (.comp (.bl false) [7] [7] (.seq (.var 0)) .no)) (.cons (.forS [5] (.r1 (.p1 .len (.var 0))) lb18) (.cons (.frz 9) (.cons (.set 6 (.call 16 (.cons (.var 0) (.cons (.comp (.var 9) [9] [9] (.r1 (.p1 .len (.var 0))) (.some (.idx (.var 4) (.var 9)))) .nil)))) (.cons (.frz 6) (.cons (.ifs (.cmp .eq (.var 6) (.idx (.var 2) (.neg (.int 1)))) (.cons (.ret (.var 2)) .nil) .nil) (.cons (.frz 6) (.cons (.lm 2 .append (.cons (.var 6) .nil)) .nil))))))))
def lb22 : Stms := (.cons (.ifs (.cmp .ni (.call 14 (.cons (.var 0) (.cons (.var 3) (.cons (.var 7) (.cons (.var 8) .nil))))) (.idx (.var 1) (.bin .sub (.var 4) (.var 5)))) (.cons (.ret (.bl false)) .nil) .nil) .nil)
def lb23 : Stms := (.cons (.forS [8] (.seq (.idx (.var 2) (.bin .sub (.p2 .min (.p2 .max (.var 5) (.int 1)) (.p1 .len (.var 2))) (.int 1)))) lb22) .nil)
def lb24 : Stms := (.cons (.forS [7] (.seq (.idx (.var 1) (.var 4))) lb23) .nil)
def lb25 : Stms := (.cons (.forS [5] (.r1 (.bin .add (.var 4) (.int 1))) lb24) .nil)
def lb26 : Stms := (.cons (.expr (.meth (.var 0) [(0, 19)] (.cons (.var 3) .nil))) .nil)
def lb27 : Stms := (.cons (.setIdx 4 (.meth (.var 0) [(0, 20)] (.cons (.var 5) (.cons (.var 6) .nil))) (.bl true)) .nil)
def lb28 : Stms := (.cons (.frz 2) (.cons (.forS [6] (.seq (.var 2)) lb27) .nil))
def lb29 : Stms := (.cons (.expr (.meth (.var 0) [(0, 19)] (.cons (.var 2) .nil))) .nil)
def lb30 : Stms := (.cons (.set 3 (.call 22 (.cons (.var 0) (.cons (.var 1) (.cons (.idx (.var 2) (.neg (.int 1))) .nil))))) (.cons (.frz 3) (.cons (.ifs (.cmp .eq (.var 3) (.idx (.var 2) (.neg (.int 1)))) (.cons (.ret (.var 2)) .nil) .nil) (.cons (.frz 3) (.cons (.lm 2 .append (.cons (.var 3) .nil)) .nil)))))
def lb31 : Stms := (.cons (.set 2 (.call 24 (.cons (.var 0) (.cons (.idx (.var 1) (.neg (.int 1))) .nil)))) (.cons (.frz 2) (.cons (.ifs (.cmp .eq (.var 2) (.idx (.var 1) (.neg (.int 1)))) (.cons (.ret (.var 1)) .nil) .nil) (.cons (.frz 2) (.cons (.lm 1 .append (.cons (.var 2) .nil)) .nil)))))
def lb32 : Stms := (.cons (.ifs (.not (.call 26 (.cons (.idx (.var 0) (.var 2)) (.cons (.idx (.var 1) (.var 2)) .nil)))) (.cons (.ret (.bl false)) .nil) .nil) .nil)
def lb33 : Stms := (.cons (.ifs (.not (.call 27 (.cons (.idx (.var 0) (.var 2)) (.cons (.idx (.var 1) (.var 2)) .nil)))) (.cons (.ret (.bl false)) .nil) .nil) .nil)
/-- _law_numbers -/
def fd0 : Fn := ⟨2, 6, (.cons (.set 2 (.int 0)) (.cons (.ifs (.cmp .ge (.var 0) (.bin .pow (.int 10) (.int 18))) (.cons (.set 2 (.bin .sub (.var 0) (.bin .pow (.int 10) (.int 18)))) (.cons (.frz 2) .nil)) .nil) (.cons (.set 3 (.lst .nil)) (.cons (.forS [4] (.r1 (.var 1)) lb0) (.cons (.ret (.var 3)) .nil)))))⟩
/-- _law_table -/
def fd1 : Fn := ⟨1, 6, (.cons (.set 1 .dnewT) (.cons (.forS [2] (.r1 (.p1 .len (.var 0))) lb1) (.cons (.ret (.comp (.comp (.dget 1 (.p1 .tuple (.comp (.idx (.var 4) (.var 5)) [5] [5] (.seq (.var 3)) .no))) [4] [4] (.seq (.var 0)) .no) [3] [3] (.seq (.var 0)) .no)) .nil)))⟩
/-- _law_close -/
def fd2 : Fn := ⟨1, 8, (.cons (.set 1 (.rng true (.r1 (.p1 .len (.idx (.var 0) (.int 0)))))) (.cons (.frz 1) (.cons (.set 2 (.lst (.cons (.var 1) .nil))) (.cons (.set 3 (.dispT (.var 1) (.bl true))) (.cons (.forS [4] (.r1 (.int 60)) lb3) (.cons (.ret (.p1 .sorted (.var 2))) .nil))))))⟩
/-- _law_generators -/
def fd3 : Fn := ⟨1, 2, (.cons (.set 1 (.lst (.cons (.lst (.cons (.lst (.cons (.int 0) .nil)) .nil)) (.cons (.lst (.cons (.lst (.cons (.int 1) (.cons (.int 0) .nil))) .nil)) (.cons (.lst (.cons (.lst (.cons (.int 1) (.cons (.int 2) (.cons (.int 0) .nil)))) .nil)) (.cons (.lst (.cons (.lst (.cons (.int 1) (.cons (.int 2) (.cons (.int 3) (.cons (.int 0) .nil))))) .nil)) (.cons (.lst (.cons (.lst (.cons (.int 1) (.cons (.int 0) (.cons (.int 2) (.cons (.int 3) .nil))))) (.cons (.lst (.cons (.int 0) (.cons (.int 1) (.cons (.int 3) (.cons (.int 2) .nil))))) .nil))) (.cons (.lst (.cons (.lst (.cons (.int 1) (.cons (.int 2) (.cons (.int 3) (.cons (.int 4) (.cons (.int 0) .nil)))))) .nil)) .nil)))))))) (.cons (.frz 1) (.cons (.set 1 (.bin .add (.var 1) (.lst (.cons (.lst (.cons (.lst (.cons (.int 1) (.cons (.int 2) (.cons (.int 0) .nil)))) (.cons (.lst (.cons (.int 1) (.cons (.int 0) (.cons (.int 2) .nil)))) .nil))) (.cons (.lst (.cons (.lst (.cons (.int 1) (.cons (.int 2) (.cons (.int 0) (.cons (.int 3) (.cons (.int 4) .nil)))))) (.cons (.lst (.cons (.int 0) (.cons (.int 1) (.cons (.int 2) (.cons (.int 4) (.cons (.int 3) .nil)))))) .nil))) (.cons (.lst (.cons (.lst (.cons (.int 1) (.cons (.int 2) (.cons (.int 3) (.cons (.int 0) .nil))))) (.cons (.lst (.cons (.int 0) (.cons (.int 3) (.cons (.int 2) (.cons (.int 1) .nil))))) .nil))) .nil)))))) (.cons (.frz 1) (.cons (.set 1 (.bin .add (.var 1) (.lst (.cons (.lst (.cons (.lst (.cons (.int 2) (.cons (.int 3) (.cons (.int 1) (.cons (.int 0) (.cons (.int 7) (.cons (.int 6) (.cons (.int 4) (.cons (.int 5) .nil))))))))) (.cons (.lst (.cons (.int 4) (.cons (.int 5) (.cons (.int 6) (.cons (.int 7) (.cons (.int 1) (.cons (.int 0) (.cons (.int 3) (.cons (.int 2) .nil))))))))) .nil))) (.cons (.lst (.cons (.lst (.cons (.int 1) (.cons (.int 2) (.cons (.int 3) (.cons (.int 0) (.cons (.int 4) (.cons (.int 5) .nil))))))) (.cons (.lst (.cons (.int 0) (.cons (.int 1) (.cons (.int 2) (.cons (.int 3) (.cons (.int 5) (.cons (.int 4) .nil))))))) .nil))) .nil))))) (.cons (.frz 1) (.cons (.set 1 (.bin .add (.var 1) (.lst (.cons (.lst (.cons (.lst (.cons (.int 1) (.cons (.int 0) (.cons (.int 2) (.cons (.int 3) (.cons (.int 4) (.cons (.int 5) .nil))))))) (.cons (.lst (.cons (.int 0) (.cons (.int 1) (.cons (.int 3) (.cons (.int 2) (.cons (.int 4) (.cons (.int 5) .nil))))))) (.cons (.lst (.cons (.int 0) (.cons (.int 1) (.cons (.int 2) (.cons (.int 3) (.cons (.int 5) (.cons (.int 4) .nil))))))) .nil)))) (.cons (.lst (.cons (.lst (.cons (.int 1) (.cons (.int 2) (.cons (.int 3) (.cons (.int 4) (.cons (.int 5) (.cons (.int 6) (.cons (.int 7) (.cons (.int 0) .nil))))))))) .nil)) .nil))))) (.cons (.frz 1) (.cons (.set 1 (.bin .add (.var 1) (.lst (.cons (.lst (.cons (.lst (.cons (.int 1) (.cons (.int 2) (.cons (.int 0) (.cons (.int 3) (.cons (.int 4) (.cons (.int 5) .nil))))))) (.cons (.lst (.cons (.int 0) (.cons (.int 1) (.cons (.int 2) (.cons (.int 4) (.cons (.int 5) (.cons (.int 3) .nil))))))) .nil))) (.cons (.lst (.cons (.lst (.cons (.int 1) (.cons (.int 2) (.cons (.int 3) (.cons (.int 4) (.cons (.int 0) .nil)))))) (.cons (.lst (.cons (.int 0) (.cons (.int 4) (.cons (.int 3) (.cons (.int 2) (.cons (.int 1) .nil)))))) .nil))) .nil))))) (.cons (.frz 1) (.cons (.set 1 (.bin .add (.var 1) (.lst (.cons (.lst (.cons (.lst (.cons (.int 1) (.cons (.int 2) (.cons (.int 0) (.cons (.int 3) .nil))))) (.cons (.lst (.cons (.int 1) (.cons (.int 0) (.cons (.int 3) (.cons (.int 2) .nil))))) .nil))) (.cons (.lst (.cons (.lst (.cons (.int 1) (.cons (.int 2) (.cons (.int 0) (.cons (.int 3) (.cons (.int 4) (.cons (.int 5) (.cons (.int 6) .nil)))))))) (.cons (.lst (.cons (.int 0) (.cons (.int 2) (.cons (.int 1) (.cons (.int 4) (.cons (.int 5) (.cons (.int 6) (.cons (.int 3) .nil)))))))) .nil))) .nil))))) (.cons (.frz 1) (.cons (.set 1 (.bin .add (.var 1) (.lst (.cons (.lst (.cons (.lst (.cons (.int 1) (.cons (.int 2) (.cons (.int 0) (.cons (.int 3) (.cons (.int 4) .nil)))))) (.cons (.lst (.cons (.int 1) (.cons (.int 0) (.cons (.int 2) (.cons (.int 3) (.cons (.int 4) .nil)))))) (.cons (.lst (.cons (.int 0) (.cons (.int 1) (.cons (.int 2) (.cons (.int 4) (.cons (.int 3) .nil)))))) .nil)))) (.cons (.lst (.cons (.lst (.cons (.int 1) (.cons (.int 2) (.cons (.int 3) (.cons (.int 4) (.cons (.int 5) (.cons (.int 6) (.cons (.int 7) (.cons (.int 0) .nil))))))))) (.cons (.lst (.cons (.int 0) (.cons (.int 7) (.cons (.int 6) (.cons (.int 5) (.cons (.int 4) (.cons (.int 3) (.cons (.int 2) (.cons (.int 1) .nil))))))))) .nil))) .nil))))) (.cons (.frz 1) (.cons (.set 1 (.bin .add (.var 1) (.lst (.cons (.lst (.cons (.lst (.cons (.int 1) (.cons (.int 2) (.cons (.int 3) (.cons (.int 4) (.cons (.int 0) .nil)))))) (.cons (.lst (.cons (.int 0) (.cons (.int 2) (.cons (.int 4) (.cons (.int 1) (.cons (.int 3) .nil)))))) .nil))) (.cons (.lst (.cons (.lst (.cons (.int 1) (.cons (.int 2) (.cons (.int 3) (.cons (.int 4) (.cons (.int 5) (.cons (.int 6) (.cons (.int 0) .nil)))))))) (.cons (.lst (.cons (.int 0) (.cons (.int 2) (.cons (.int 4) (.cons (.int 6) (.cons (.int 1) (.cons (.int 3) (.cons (.int 5) .nil)))))))) .nil))) .nil))))) (.cons (.frz 1) (.cons (.set 1 (.bin .add (.var 1) (.lst (.cons (.lst (.cons (.lst (.cons (.int 1) (.cons (.int 2) (.cons (.int 3) (.cons (.int 0) .nil))))) (.cons (.lst (.cons (.int 1) (.cons (.int 0) (.cons (.int 2) (.cons (.int 3) .nil))))) .nil))) .nil)))) (.cons (.frz 1) (.cons (.ret (.idx (.var 1) (.bin .mod (.p1 .int (.var 0)) (.p1 .len (.var 1))))) .nil)))))))))))))))))))⟩
/-- _law_affine -/
def fd4 : Fn := ⟨1, 8, (.cons (.set 1 (.bin .add (.int 2) (.bin .mod (.p1 .int (.idx (.var 0) (.int 0))) (.int 15)))) (.cons (.frz 1) (.cons (.set 2 (.bin .mod (.p1 .int (.idx (.var 0) (.int 1))) (.var 1))) (.cons (.frz 2) (.cons (.ifs (.cmp .ne (.p1 .sorted (.comp (.bin .mod (.p1 .int (.bin .mul (.var 2) (.var 7))) (.var 1)) [7] [7] (.r1 (.var 1)) .no)) (.rng false (.r1 (.var 1)))) (.cons (.set 2 (.bin .sub (.var 1) (.int 1))) (.cons (.frz 2) .nil)) .nil) (.cons (.set 3 (.int 1)) (.cons (.frz 2) (.cons (.set 4 (.var 2)) (.cons (.frz 4) (.cons (.forS [5] (.r1 (.var 1)) lb4) (.cons (.ifs (.cmp .gt (.bin .mul (.var 1) (.var 3)) (.int 32)) (.cons (.set 2 (.int 1)) .nil) .nil) (.cons (.set 6 (.comp (.bin .mod (.p1 .int (.bin .add (.var 7) (.int 1))) (.var 1)) [7] [7] (.r1 (.var 1)) .no)) (.cons (.frz 6) (.cons (.frz 6) (.cons (.ret (.call 1 (.cons (.call 2 (.cons (.lst (.cons (.var 6) (.cons (.comp (.bin .mod (.p1 .int (.bin .mul (.var 2) (.var 7))) (.var 1)) [7] [7] (.r1 (.var 1)) .no) .nil))) .nil)) .nil))) .nil)))))))))))))))⟩
/-- _law_product -/
def fd5 : Fn := ⟨2, 9, (.cons (.set 2 (.p1 .len (.var 1))) (.cons (.set 3 (.lst .nil)) (.cons (.frz 0) (.cons (.forS [4] (.seq (.var 0)) lb7) (.cons (.ret (.var 3)) .nil)))))⟩
/-- _law_renumbered -/
def fd6 : Fn := ⟨2, 9, (.cons (.set 2 (.rng false (.r1 (.p1 .len (.var 0))))) (.cons (.forS [3] (.r2 (.int 1) (.p1 .len (.var 2))) lb8) (.cons (.set 4 (.comp (.int 0) [3] [3] (.seq (.var 2)) .no)) (.cons (.forS [3] (.r1 (.p1 .len (.var 2))) lb9) (.cons (.ret (.comp (.comp (.idx (.var 4) (.idx (.idx (.var 0) (.var 7)) (.var 8))) [8] [8] (.seq (.var 2)) .no) [7] [7] (.seq (.var 2)) .no)) .nil)))))⟩
/-- _law_any_group -/
def fd7 : Fn := ⟨1, 5, (.cons (.set 1 (.call 0 (.cons (.var 0) (.cons (.int 37) .nil)))) (.cons (.frz 1) (.cons (.set 2 (.bin .mod (.p1 .int (.idx (.var 1) (.int 0))) (.int 4))) (.cons (.frz 2) (.cons (.set 3 (.call 1 (.cons (.call 2 (.cons (.call 3 (.cons (.p1 .int (.idx (.var 1) (.int 1))) .nil)) .nil)) .nil))) (.cons (.frz 3) (.cons (.ifs (.cmp .eq (.var 2) (.int 1)) (.cons (.set 3 (.call 4 (.cons (.slice (.var 1) (.some (.int 1)) (.some (.int 3))) .nil))) (.cons (.frz 3) .nil)) .nil) (.cons (.ifs (.cmp .ge (.var 2) (.int 2)) (.cons (.set 4 (.call 1 (.cons (.call 2 (.cons (.call 3 (.cons (.p1 .int (.idx (.var 1) (.int 2))) .nil)) .nil)) .nil))) (.cons (.frz 4) (.cons (.ifs (.cmp .le (.bin .mul (.p1 .len (.var 3)) (.p1 .len (.var 4))) (.int 24)) (.cons (.set 3 (.call 5 (.cons (.var 3) (.cons (.var 4) .nil)))) (.cons (.frz 3) .nil)) .nil) .nil))) .nil) (.cons (.ifs (.cmp .eq (.bin .mod (.p1 .int (.idx (.var 1) (.int 3))) (.int 3)) (.int 0)) (.cons (.ret (.var 3)) .nil) .nil) (.cons (.ret (.call 6 (.cons (.var 3) (.cons (.slice (.var 1) (.some (.int 4)) .no) .nil)))) .nil))))))))))⟩
/-- _law_cell -/
def fd8 : Fn := ⟨2, 2, (.cons (.ifs (.cmp .lt (.var 1) (.p1 .len (.var 0))) (.cons (.ret (.p1 .abs (.idx (.var 0) (.var 1)))) .nil) .nil) (.cons (.ret (.int 0)) .nil))⟩
/-- reached -/
def fd9 : Fn := ⟨2, 7, (.cons (.set 2 (.bin .mul (.lst (.cons (.bl false) .nil)) (.p1 .len (.var 0)))) (.cons (.setIdx 2 (.int 0) (.bl true)) (.cons (.set 3 (.lst (.cons (.int 0) .nil))) (.cons (.set 4 (.int 0)) (.cons (.whileS (.cmp .lt (.var 4) (.p1 .len (.var 3))) lb11) (.cons (.ret (.p1 .sorted (.var 3))) .nil))))))⟩
/-- generating_members -/
def fd10 : Fn := ⟨1, 4, (.cons (.set 1 (.lst .nil)) (.cons (.set 2 (.lst (.cons (.int 0) .nil))) (.cons (.frz 2) (.cons (.forS [3] (.r1 (.p1 .len (.var 0))) lb12) (.cons (.ret (.var 1)) .nil)))))⟩
/-- is_associative -/
def fd11 : Fn := ⟨1, 4, (.cons (.forS [1] (.seq (.call 10 (.cons (.var 0) .nil))) lb14) (.cons (.ret (.bl true)) .nil))⟩
/-- table_fault -/
def fd12 : Fn := ⟨1, 7, (.cons (.set 1 (.p1 .len (.var 0))) (.cons (.ifs (.or (.cmp .eq (.var 1) (.int 0)) (.not (.p1 .all (.comp (.cmp .eq (.p1 .len (.var 4)) (.var 1)) [4] [4] (.seq (.var 0)) .no)))) (.cons (.ret (.str "shape")) .nil) .nil) (.cons (.ifs (.not (.p1 .all (.comp2 (.chain .le .lt (.int 0) (.var 5) (.var 1)) [4] [5] [4, 5] (.seq (.var 0)) (.seq (.var 4)) .no))) (.cons (.ret (.str "entry")) .nil) .nil) (.cons (.ifs (.or (.cmp .ne (.p1 .list (.idx (.var 0) (.int 0))) (.rng false (.r1 (.var 1)))) (.cmp .ne (.comp (.idx (.var 4) (.int 0)) [4] [4] (.seq (.var 0)) .no) (.rng false (.r1 (.var 1))))) (.cons (.ret (.str "identity")) .nil) .nil) (.cons (.set 2 (.comp (.comp (.idx (.var 4) (.var 3)) [4] [4] (.seq (.var 0)) .no) [3] [3] (.r1 (.var 1)) .no)) (.cons (.frz 2) (.cons (.ifs (.not (.p1 .all (.comp (.cmp .eq (.p1 .lenset (.var 6)) (.var 1)) [6] [6] (.seq (.bin .add (.p1 .list (.var 0)) (.var 2))) .no))) (.cons (.ret (.str "cancel")) .nil) .nil) (.cons (.ifs (.not (.call 11 (.cons (.var 0) .nil))) (.cons (.ret (.str "associative")) .nil) .nil) (.cons (.ret (.str "")) .nil)))))))))⟩
/-- Group.__init__ -/
def fd13 : Fn := ⟨2, 4, (.cons (.ifs (.cmp .gt (.p1 .len (.var 1)) (.con 0)) (.cons .bad .nil) .nil) (.cons (.set 2 (.call 12 (.cons (.var 1) .nil))) (.cons (.frz 2) (.cons (.ifs (.cmp .ne (.var 2) (.str "")) (.cons .bad .nil) .nil) (.cons (.fset 0 0 (.p1 .tuple (.comp (.p1 .tupN (.var 3)) [3] [3] (.seq (.var 1)) .no))) (.cons (.fset 0 1 (.p1 .len (.var 1))) (.cons (.fset 0 2 (.p1 .tuple (.comp (.sm .index (.var 3) (.int 0)) [3] [3] (.seq (.fld (.var 0) [0] 0)) .no))) .nil)))))))⟩
/-- _law_bracket -/
def fd14 : Fn := ⟨4, 4, (.cons (.ret (.idx (.idx (.var 0) (.idx (.var 1) (.idx (.idx (.var 0) (.var 3)) (.var 2)))) (.idx (.idx (.var 0) (.var 2)) (.var 3)))) .nil)⟩
/-- _law_upper_row -/
def fd15 : Fn := ⟨1, 9, (.cons (.set 1 (.comp (.sm .index (.var 6) (.int 0)) [6] [6] (.seq (.var 0)) .no)) (.cons (.frz 1) (.cons (.set 2 (.lst (.cons (.lst (.cons (.int 0) .nil)) .nil))) (.cons (.forS [3] (.r1 (.p1 .len (.var 0))) lb16) (.cons (.ret (.var 2)) .nil)))))⟩
/-- _law_closed -/
def fd16 : Fn := ⟨2, 8, (.cons (.set 2 (.comp (.bl false) [5] [5] (.seq (.var 0)) .no)) (.cons (.setIdx 2 (.int 0) (.bl true)) (.cons (.set 3 (.lst (.cons (.int 0) .nil))) (.cons (.forS [4] (.r1 (.p1 .len (.var 0))) lb20) (.cons (.ret (.p1 .sorted (.var 3))) .nil)))))⟩
/-- _law_lower_row -/
def fd17 : Fn := ⟨1, 10, (.cons (.set 1 (.comp (.sm .index (.var 7) (.int 0)) [7] [7] (.seq (.var 0)) .no)) (.cons (.frz 1) (.cons (.set 2 (.lst (.cons (.rng false (.r1 (.p1 .len (.var 0)))) .nil))) (.cons (.forS [3] (.r1 (.p1 .len (.var 0))) lb21) (.cons (.ret (.var 2)) .nil)))))⟩
/-- _law_below -/
def fd18 : Fn := ⟨3, 9, (.cons (.set 3 (.comp (.sm .index (.var 6) (.int 0)) [6] [6] (.seq (.var 0)) .no)) (.cons (.frz 3) (.cons (.forS [4] (.r1 (.p1 .len (.var 1))) lb25) (.cons (.ret (.bl true)) .nil))))⟩
/-- Group.check -/
def fd19 : Fn := ⟨2, 2, (.cons (.ifs (.not (.chain .le .lt (.int 0) (.var 1) (.fld (.var 0) [0] 1))) (.cons .bad .nil) .nil) .nil)⟩
/-- Group.commutator -/
def fd20 : Fn := ⟨3, 3, (.cons (.expr (.meth (.var 0) [(0, 19)] (.cons (.var 1) .nil))) (.cons (.expr (.meth (.var 0) [(0, 19)] (.cons (.var 2) .nil))) (.cons (.ret (.idx (.idx (.fld (.var 0) [0] 0) (.idx (.fld (.var 0) [0] 2) (.idx (.idx (.fld (.var 0) [0] 0) (.var 2)) (.var 1)))) (.idx (.idx (.fld (.var 0) [0] 0) (.var 1)) (.var 2)))) .nil)))⟩
/-- generated -/
def fd21 : Fn := ⟨2, 3, (.cons (.frz 1) (.cons (.forS [2] (.seq (.var 1)) lb29) (.cons (.ret (.p1 .tuple (.call 9 (.cons (.fld (.var 0) [0] 0) (.cons (.var 1) .nil))))) .nil)))⟩
/-- commutator_subgroup -/
def fd22 : Fn := ⟨3, 7, (.cons (.forS [3] (.seq (.bin .add (.p1 .list (.var 1)) (.p1 .list (.var 2)))) lb26) (.cons (.set 4 (.bin .mul (.lst (.cons (.bl false) .nil)) (.fld (.var 0) [0] 1))) (.cons (.frz 1) (.cons (.forS [5] (.seq (.var 1)) lb28) (.cons (.frz 3) (.cons (.ret (.call 21 (.cons (.var 0) (.cons (.comp (.var 3) [3] [3] (.r1 (.fld (.var 0) [0] 1)) (.some (.idx (.var 4) (.var 3)))) .nil)))) .nil))))))⟩
/-- lower_row -/
def fd23 : Fn := ⟨1, 4, (.cons (.set 1 (.rng true (.r1 (.fld (.var 0) [0] 1)))) (.cons (.frz 1) (.cons (.set 2 (.lst (.cons (.var 1) .nil))) (.cons (.whileS (.bl true) lb30) .nil))))⟩
/-- central_members -/
def fd24 : Fn := ⟨2, 7, (.cons (.set 2 (.comp (.cmp .inn (.var 4) (.var 1)) [4] [4] (.r1 (.fld (.var 0) [0] 1)) .no)) (.cons (.frz 2) (.cons (.set 3 (.rng false (.r1 (.fld (.var 0) [0] 1)))) (.cons (.frz 3) (.cons (.frz 5) (.cons (.ret (.p1 .tuple (.comp (.var 5) [5] [5] (.seq (.var 3)) (.some (.p1 .all (.comp (.idx (.var 2) (.meth (.var 0) [(0, 20)] (.cons (.var 5) (.cons (.var 6) .nil)))) [6] [6] (.seq (.var 3)) .no)))))) .nil))))))⟩
/-- upper_row -/
def fd25 : Fn := ⟨1, 3, (.cons (.set 1 (.lst (.cons (.tup (.cons (.int 0) .nil)) .nil))) (.cons (.whileS (.bl true) lb31) .nil))⟩
/-- _law_integer -/
def fd26 : Fn := ⟨2, 2, (.cons (.ret (.and (.isi (.var 0) [.int]) (.and (.not (.isi (.var 0) [.bool])) (.cmp .eq (.var 0) (.var 1))))) .nil)⟩
/-- _law_members -/
def fd27 : Fn := ⟨2, 3, (.cons (.ifs (.or (.not (.isi (.var 0) [.tup])) (.cmp .ne (.p1 .len (.var 0)) (.p1 .len (.var 1)))) (.cons (.ret (.bl false)) .nil) .nil) (.cons (.forS [2] (.r1 (.p1 .len (.var 1))) lb32) (.cons (.ret (.bl true)) .nil)))⟩
/-- _law_rows -/
def fd28 : Fn := ⟨2, 3, (.cons (.ifs (.or (.not (.isi (.var 0) [.lst])) (.cmp .ne (.p1 .len (.var 0)) (.p1 .len (.var 1)))) (.cons (.ret (.bl false)) .nil) .nil) (.cons (.forS [2] (.r1 (.p1 .len (.var 1))) lb33) (.cons (.ret (.bl true)) .nil)))⟩
/-- centre -/
def fd29 : Fn := ⟨1, 1, (.cons (.ret (.call 24 (.cons (.var 0) (.cons (.tup (.cons (.int 0) .nil)) .nil)))) .nil)⟩
/-- class_of -/
def fd30 : Fn := ⟨1, 2, (.cons (.set 1 (.call 23 (.cons (.var 0) .nil))) (.cons (.frz 1) (.cons (.ifs (.cmp .eq (.idx (.var 1) (.neg (.int 1))) (.tup (.cons (.int 0) .nil))) (.cons (.ret (.bin .sub (.p1 .len (.var 1)) (.int 1))) .nil) .nil) (.cons (.ret .non) .nil))))⟩
/-- _law_class -/
def fd31 : Fn := ⟨4, 5, (.cons (.set 4 (.call 30 (.cons (.var 0) .nil))) (.cons (.frz 4) (.cons (.ifs (.or (.cmp .lt (.p1 .len (.idx (.var 2) (.neg (.int 1)))) (.p1 .len (.var 1))) (.cmp .gt (.p1 .len (.idx (.var 3) (.neg (.int 1)))) (.int 1))) (.cons (.ret (.and (.cmp .isn (.var 4) .non) (.and (.cmp .lt (.p1 .len (.idx (.var 2) (.neg (.int 1)))) (.p1 .len (.var 1))) (.cmp .gt (.p1 .len (.idx (.var 3) (.neg (.int 1)))) (.int 1))))) .nil) .nil) (.cons (.ret (.and (.call 26 (.cons (.var 4) (.cons (.bin .sub (.p1 .len (.var 2)) (.int 1)) .nil))) (.call 26 (.cons (.var 4) (.cons (.bin .sub (.p1 .len (.var 3)) (.int 1)) .nil))))) .nil))))⟩
/-- _law_told -/
def fd32 : Fn := ⟨4, 6, (.cons (.ifs (.or (.not (.call 28 (.cons (.call 23 (.cons (.var 0) .nil)) (.cons (.var 3) .nil)))) (.not (.call 28 (.cons (.call 25 (.cons (.var 0) .nil)) (.cons (.var 2) .nil))))) (.cons (.ret (.bl false)) .nil) .nil) (.cons (.frz 4) (.cons (.ifs (.not (.call 27 (.cons (.call 29 (.cons (.var 0) .nil)) (.cons (.comp (.var 4) [4] [4] (.r1 (.p1 .len (.var 1))) (.some (.cmp .eq (.idx (.var 1) (.var 4)) (.comp (.idx (.var 5) (.var 4)) [5] [5] (.seq (.var 1)) .no)))) .nil)))) (.cons (.ret (.bl false)) .nil) .nil) (.cons (.ret (.call 31 (.cons (.var 0) (.cons (.var 1) (.cons (.var 2) (.cons (.var 3) .nil)))))) .nil))))⟩
/-- law -/
def fd33 : Fn := ⟨1, 10, (.cons (.set 1 (.call 7 (.cons (.call 8 (.cons (.var 0) (.cons (.int 0) .nil))) .nil))) (.cons (.frz 1) (.cons (.set 2 (.call 7 (.cons (.call 8 (.cons (.var 0) (.cons (.int 1) .nil))) .nil))) (.cons (.frz 2) (.cons (.set 3 (.make 0 (.cons (.comp (.p1 .list (.var 9)) [9] [9] (.seq (.var 1)) .no) .nil))) (.cons (.frz 3) (.cons (.set 4 (.make 0 (.cons (.comp (.p1 .list (.var 9)) [9] [9] (.seq (.var 2)) .no) .nil))) (.cons (.frz 4) (.cons (.set 5 (.call 15 (.cons (.var 1) .nil))) (.cons (.frz 5) (.cons (.set 6 (.call 17 (.cons (.var 1) .nil))) (.cons (.frz 6) (.cons (.ifs (.or (.not (.call 32 (.cons (.var 3) (.cons (.var 1) (.cons (.var 5) (.cons (.var 6) .nil)))))) (.not (.call 18 (.cons (.var 1) (.cons (.call 25 (.cons (.var 3) .nil)) (.cons (.call 23 (.cons (.var 3) .nil)) .nil)))))) (.cons (.ret (.bl false)) .nil) .nil) (.cons (.ifs (.not (.call 32 (.cons (.var 4) (.cons (.var 2) (.cons (.call 15 (.cons (.var 2) .nil)) (.cons (.call 17 (.cons (.var 2) .nil)) .nil)))))) (.cons (.ret (.bl false)) .nil) .nil) (.cons (.set 7 (.call 25 (.cons (.var 3) .nil))) (.cons (.setIdx 7 (.int 0) (.rng true (.r1 (.p1 .len (.var 1))))) (.cons (.lm 7 .append (.cons (.tup (.cons (.int 0) .nil)) .nil)) (.cons (.set 8 (.call 23 (.cons (.var 3) .nil))) (.cons (.lm 8 .append (.cons (.tup (.cons (.int 0) (.cons (.int 1) .nil))) .nil)) (.cons (.setIdx 8 (.int 0) (.tup (.cons (.int 0) .nil))) (.cons (.ret (.call 32 (.cons (.var 3) (.cons (.var 1) (.cons (.var 5) (.cons (.var 6) .nil)))))) .nil)))))))))))))))))))))⟩
end Ev


set_option Elab.async false
set_option linter.all false
set_option maxRecDepth 100000
set_option maxHeartbeats 4000000
namespace DW
open PySem PySem.Spec Ev
/-! ## what a run gives, as a rule for each construct -/
inductive Ok {α : Type} (r : Res α) (Q : α → Prop) (E : Nat → List D → Prop) : Prop
  | ok (a : α) (h : r = .ok a) (q : Q a) : Ok r Q E
  | exc (c : Nat) (fs : List D) (h : r = .exc c fs) (q : E c fs) : Ok r Q E
abbrev NoE : Nat → List D → Prop := fun _ _ => False
section
variable {α β : Type} {Q : α → Prop} {Q' : β → Prop} {E : Nat → List D → Prop}
theorem ok_ok (a : α) : Ok (.ok a) Q E ↔ Q a := ⟨fun h => (by cases h with | ok b e q => (cases e; exact q) | exc c fs e q => cases e), fun h => .ok _ rfl h⟩
theorem ok_exc (c : Nat) (fs : List D) : Ok (.exc c fs) Q E ↔ E c fs := ⟨fun h => (by cases h with | ok b e q => cases e | exc c fs e q => (cases e; exact q)), fun h => .exc _ _ rfl h⟩
theorem ok_stuck : Ok .stuck Q E ↔ False := ⟨fun h => (by cases h with | ok b e q => cases e | exc c fs e q => cases e), False.elim⟩
theorem ok_bind (r : Res α) (f : α → Res β) : Ok (r.bind f) Q' E ↔ Ok r (fun a => Ok (f a) Q' E) E := by
  cases r with
  | ok a => rw [ok_ok]; exact Iff.rfl
  | exc c fs => rw [ok_exc]; exact ok_exc c fs
  | stuck => rw [ok_stuck]; exact ok_stuck
theorem Ok.imp {r : Res α} {P : α → Prop} {F : Nat → List D → Prop} (h : Ok r P F) (i : ∀ a, P a → Q a) (j : ∀ c fs, F c fs → E c fs) : Ok r Q E := by
  cases h with
  | ok a e q => exact .ok a e (i a q)
  | exc c fs e q => exact .exc c fs e (j c fs q)
theorem Ok.of_eq {r : Res α} {a : α} (h : r = .ok a) (q : Q a) : Ok r Q E := .ok a h q
theorem Ok.eq {r : Res α} {a : α} (h : Ok r (fun x => x = a) NoE) : r = .ok a := by
  cases h with
  | ok b e q => rw [e, q]
  | exc c fs e q => exact q.elim
theorem ok_ofOpt (o : Option α) : Ok (ofOpt o) Q E ↔ ∃ a, o = some a ∧ Q a := by
  cases o with
  | none => exact ⟨fun h => (ok_stuck.mp h).elim, fun ⟨a, e, _⟩ => by cases e⟩
  | some a => exact (ok_ok a).trans ⟨fun h => ⟨a, rfl, h⟩, fun ⟨b, e, q⟩ => by cases e; exact q⟩
theorem ok_lift (r : Res α) (σ : List Sl) (k : α → Res Out) {Q : Out → Prop} : Ok (lift r σ k) Q E ↔ Ok r (fun a => Ok (k a) Q E) (fun c fs => Q (.ex c fs σ)) := by
  cases r with
  | ok a => rw [ok_ok]; exact Iff.rfl
  | exc c fs => rw [ok_exc]; exact ok_ok _
  | stuck => rw [ok_stuck]; exact ok_stuck
end
def ifD {α : Type} (x : RV) (a b : Res α) : Res α := match x with
  | .v (.bl true) => a
  | .v (.bl false) => b
  | _ => .stuck
def varD (i : Nat) (s : Option Sl) : Res RV := match s with
  | some (.d d) => .ok (.v d)
  | some (.l xs) => .ok (.b i xs)
  | some (.o c fs) => .ok (.o i c fs)
  | _ => .stuck
def negD (x : RV) : Res RV := match asInt x with
  | some i => .ok (.v (.int (-i)))
  | none => .stuck
def notD (x : RV) : Res RV := match x with
  | .v (.bl b) => .ok (.v (.bl (!b)))
  | _ => .stuck
def tupD (o : Option (List D)) : Res RV := match o with
  | some ds => if ds.length ≤ cap then .ok (.v (.tup ds)) else .stuck
  | none => .stuck
def lstD (o : Option (List D)) : Res RV := match o with
  | some ds => if ds.length ≤ cap then .ok (.f ds) else .stuck
  | none => .stuck
def fldD (cs : List Nat) (k : Nat) (x : RV) : Res RV := match x with
  | .v (.ins c fs) => if cs.contains c then ofOpt ((fs[k]?).map .v) else .stuck
  | .o _ c fs => if cs.contains c then ofOpt ((fs[k]?).map .v) else .stuck
  | _ => .stuck
def callD (R : Rt) (g : Nat) (l : Bool) (o : Option (List D)) : Res RV := match o with
  | some ds => guardC l (R.call g ds)
  | none => .stuck
def makeD (R : Rt) (c : Nat) (l : Bool) (o : Option (List D)) : Res RV := match o with
  | some ds => guardC l ((R.new c ds).bind fun d => .ok (.v d))
  | none => .stuck
def chainD (o p : CO) (x y : RV) (z : Res RV) : Res RV := match asInt x, asInt y with
  | some i, some j => (cmpI o i j).bind fun t => ifD t (z.bind fun z => match asInt z with
      | some k => cmpI p j k
      | none => .stuck) (.ok (.v (.bl false)))
  | _, _ => .stuck
def seqD (x : RV) : Res (List D × Bool) := ofOpt (x.asS.map fun xs => (xs, x.lent))
section
variable {R : Rt} {σ : List Sl} {Q : RV → Prop} {E : Nat → List D → Prop}
theorem w_var (i : Nat) : Ok (evalE R (.var i) σ) Q E ↔ Ok (varD i σ[i]?) Q E := by
  show Ok (match σ[i]? with | some (.d d) => _ | some (.l xs) => _ | some (.o c fs) => _ | _ => _) Q E ↔ _
  cases σ[i]? with
  | none => exact Iff.rfl
  | some s => cases s <;> exact Iff.rfl
theorem v_d (i : Nat) (d : D) : Ok (varD i (some (.d d))) Q E ↔ Q (.v d) := ok_ok _
theorem v_l (i : Nat) (xs : List D) : Ok (varD i (some (.l xs))) Q E ↔ Q (.b i xs) := ok_ok _
theorem v_o (i c : Nat) (fs : List D) : Ok (varD i (some (.o c fs))) Q E ↔ Q (.o i c fs) := ok_ok _
theorem w_con (k : Nat) : Ok (evalE R (.con k) σ) Q E ↔ ∃ d, R.con k = some d ∧ Q (.v d) := by
  refine (ok_ofOpt _).trans ⟨fun ⟨a, h, q⟩ => ?_, fun ⟨d, h, q⟩ => ⟨.v d, by rw [h]; rfl, q⟩⟩
  cases e : R.con k with
  | none => rw [e] at h; cases h
  | some d => rw [e] at h; cases h; exact ⟨d, rfl, q⟩
theorem w_int0 : Ok (evalE R (.int 0) σ) Q E ↔ Q (.v (.int ((0 : Nat) : Int))) := ok_ok _
theorem w_int1 : Ok (evalE R (.int 1) σ) Q E ↔ Q (.v (.int ((1 : Nat) : Int))) := ok_ok _
theorem w_int (n : Nat) : Ok (evalE R (.int (no_index (OfNat.ofNat n))) σ) Q E ↔ Q (.v (.int ((OfNat.ofNat n : Nat) : Int))) := ok_ok _
theorem w_bl (n : Bool) : Ok (evalE R (.bl n) σ) Q E ↔ Q (.v (.bl n)) := ok_ok _
theorem w_str (n : Str) : Ok (evalE R (.str n) σ) Q E ↔ Q (.v (.str n)) := ok_ok _
theorem w_non : Ok (evalE R .non σ) Q E ↔ Q (.v .non) := ok_ok _
theorem w_bin (o : BO) (a b : Ex) : Ok (evalE R (.bin o a b) σ) Q E ↔ Ok (evalE R a σ) (fun x => Ok (evalE R b σ) (fun y => Ok (binD o x y) Q E) E) E := by
  show Ok (Res.bind _ fun x => Res.bind _ fun y => _) Q E ↔ _
  simp only [ok_bind]
theorem w_neg (a : Ex) : Ok (evalE R (.neg a) σ) Q E ↔ Ok (evalE R a σ) (fun x => Ok (negD x) Q E) E := ok_bind _ _
theorem w_not (a : Ex) : Ok (evalE R (.not a) σ) Q E ↔ Ok (evalE R a σ) (fun x => Ok (notD x) Q E) E := ok_bind _ _
theorem w_and (a b : Ex) : Ok (evalE R (.and a b) σ) Q E ↔ Ok (evalE R a σ) (fun x => Ok (ifD x (evalE R b σ) (.ok (.v (.bl false)))) Q E) E := ok_bind _ _
theorem w_or (a b : Ex) : Ok (evalE R (.or a b) σ) Q E ↔ Ok (evalE R a σ) (fun x => Ok (ifD x (.ok (.v (.bl true))) (evalE R b σ)) Q E) E := ok_bind _ _
theorem w_ite (c a b : Ex) : Ok (evalE R (.ite c a b) σ) Q E ↔ Ok (evalE R c σ) (fun x => Ok (ifD x (evalE R a σ) (evalE R b σ)) Q E) E := ok_bind _ _
theorem w_cmp (o : CO) (a b : Ex) (h1 : o ≠ .isn) (h2 : o ≠ .notn) : Ok (evalE R (.cmp o a b) σ) Q E ↔ Ok (evalE R a σ) (fun x => Ok (evalE R b σ) (fun y => Ok (cmpD o x y) Q E) E) E := by
  have e : evalE R (.cmp o a b) σ = (evalE R a σ).bind fun x => (evalE R b σ).bind fun y => cmpD o x y := by cases o <;> first | rfl | exact (h1 rfl).elim | exact (h2 rfl).elim
  rw [e]; simp only [ok_bind]
theorem w_eq (a b : Ex) : Ok (evalE R (.cmp .eq a b) σ) Q E ↔ Ok (evalE R a σ) (fun x => Ok (evalE R b σ) (fun y => Ok (cmpD .eq x y) Q E) E) E := w_cmp _ _ _ (by decide) (by decide)
theorem w_ne (a b : Ex) : Ok (evalE R (.cmp .ne a b) σ) Q E ↔ Ok (evalE R a σ) (fun x => Ok (evalE R b σ) (fun y => Ok (cmpD .ne x y) Q E) E) E := w_cmp _ _ _ (by decide) (by decide)
theorem w_lt (a b : Ex) : Ok (evalE R (.cmp .lt a b) σ) Q E ↔ Ok (evalE R a σ) (fun x => Ok (evalE R b σ) (fun y => Ok (cmpD .lt x y) Q E) E) E := w_cmp _ _ _ (by decide) (by decide)
theorem w_le (a b : Ex) : Ok (evalE R (.cmp .le a b) σ) Q E ↔ Ok (evalE R a σ) (fun x => Ok (evalE R b σ) (fun y => Ok (cmpD .le x y) Q E) E) E := w_cmp _ _ _ (by decide) (by decide)
theorem w_gt (a b : Ex) : Ok (evalE R (.cmp .gt a b) σ) Q E ↔ Ok (evalE R a σ) (fun x => Ok (evalE R b σ) (fun y => Ok (cmpD .gt x y) Q E) E) E := w_cmp _ _ _ (by decide) (by decide)
theorem w_ge (a b : Ex) : Ok (evalE R (.cmp .ge a b) σ) Q E ↔ Ok (evalE R a σ) (fun x => Ok (evalE R b σ) (fun y => Ok (cmpD .ge x y) Q E) E) E := w_cmp _ _ _ (by decide) (by decide)
theorem w_inn (a b : Ex) : Ok (evalE R (.cmp .inn a b) σ) Q E ↔ Ok (evalE R a σ) (fun x => Ok (evalE R b σ) (fun y => Ok (cmpD .inn x y) Q E) E) E := w_cmp _ _ _ (by decide) (by decide)
theorem w_ni (a b : Ex) : Ok (evalE R (.cmp .ni a b) σ) Q E ↔ Ok (evalE R a σ) (fun x => Ok (evalE R b σ) (fun y => Ok (cmpD .ni x y) Q E) E) E := w_cmp _ _ _ (by decide) (by decide)
theorem w_isn (a b : Ex) : Ok (evalE R (.cmp .isn a b) σ) Q E ↔ Ok (evalE R a σ) (fun x => Ok (ofB (isNone x)) Q E) E := ok_bind _ _
theorem w_notn (a b : Ex) : Ok (evalE R (.cmp .notn a b) σ) Q E ↔ Ok (evalE R a σ) (fun x => Ok (ofB ((isNone x).map (!·))) Q E) E := ok_bind _ _
theorem w_chain (o p : CO) (a b c : Ex) : Ok (evalE R (.chain o p a b c) σ) Q E ↔ Ok (evalE R a σ) (fun x => Ok (evalE R b σ) (fun y => Ok (chainD o p x y (evalE R c σ)) Q E) E) E := by
  show Ok (Res.bind _ fun x => Res.bind _ fun y => chainD o p x y (evalE R c σ)) Q E ↔ _
  simp only [ok_bind]
theorem w_tup (xs : Exs) : Ok (evalE R (.tup xs) σ) Q E ↔ Ok (evalL R xs σ) (fun rs => Ok (tupD (allV rs)) Q E) E := ok_bind _ _
theorem w_lst (xs : Exs) : Ok (evalE R (.lst xs) σ) Q E ↔ Ok (evalL R xs σ) (fun rs => Ok (lstD (allV rs)) Q E) E := ok_bind _ _
theorem w_idx (a i : Ex) : Ok (evalE R (.idx a i) σ) Q E ↔ Ok (evalE R a σ) (fun x => Ok (evalE R i σ) (fun y => Ok (idxD x y) Q E) E) E := by
  show Ok (Res.bind _ fun x => Res.bind _ fun y => _) Q E ↔ _
  simp only [ok_bind]
theorem w_slice (a : Ex) (lo hi : Exo) : Ok (evalE R (.slice a lo hi) σ) Q E ↔ Ok (evalE R a σ) (fun x => Ok (evalO R lo σ) (fun l => Ok (evalO R hi σ) (fun h => Ok (sliceD x l h) Q E) E) E) E := by
  show Ok (Res.bind _ fun x => Res.bind _ fun y => Res.bind _ fun z => _) Q E ↔ _
  simp only [ok_bind]
theorem w_fld (a : Ex) (cs : List Nat) (k : Nat) : Ok (evalE R (.fld a cs k) σ) Q E ↔ Ok (evalE R a σ) (fun x => Ok (fldD cs k x) Q E) E := ok_bind _ _
theorem w_call (g : Nat) (xs : Exs) : Ok (evalE R (.call g xs) σ) Q E ↔ Ok (evalL R xs σ) (fun rs => Ok (callD R g (rs.any RV.lent) (allD rs)) Q E) E := ok_bind _ _
theorem w_make (g : Nat) (xs : Exs) : Ok (evalE R (.make g xs) σ) Q E ↔ Ok (evalL R xs σ) (fun rs => Ok (makeD R g (rs.any RV.lent) (allD rs)) Q E) E := ok_bind _ _
def methD (R : Rt) (ms : List (Nat × Nat)) (x : RV) (r : Res (List RV)) : Res RV := match x with
  | .v (.ins c fs) => match ms.lookup c with
    | some g => r.bind fun rs => callD R g (rs.any RV.lent) ((allD rs).map fun ds => .ins c fs :: ds)
    | none => .stuck
  | _ => .stuck
theorem w_meth (a : Ex) (ms : List (Nat × Nat)) (xs : Exs) : Ok (evalE R (.meth a ms xs) σ) Q E ↔ Ok (evalE R a σ) (fun x => Ok (methD R ms x (evalL R xs σ)) Q E) E := by
  have e : evalE R (.meth a ms xs) σ = (evalE R a σ).bind fun x => methD R ms x (evalL R xs σ) := by
    show Res.bind _ _ = _
    refine congrArg _ (funext fun x => ?_)
    unfold methD
    cases x with
    | v d => cases d with
      | ins c fs =>
        dsimp only
        cases ms.lookup c with
        | none => rfl
        | some g =>
          dsimp only
          refine congrArg (Res.bind _) (funext fun rs => ?_)
          unfold callD
          cases allD rs <;> rfl
      | _ => rfl
    | _ => rfl
  rw [e, ok_bind]
theorem m_ins (ms : List (Nat × Nat)) (c g : Nat) (fs : List D) (r : Res (List RV)) (h : ms.lookup c = some g) : Ok (methD R ms (.v (.ins c fs)) r) Q E ↔ Ok r (fun rs => Ok (callD R g (rs.any RV.lent) ((allD rs).map fun ds => .ins c fs :: ds)) Q E) E := by
  unfold methD; dsimp only; rw [h]; exact ok_bind _ _
theorem w_p1 (p : P1) (a : Ex) : Ok (evalE R (.p1 p a) σ) Q E ↔ Ok (evalE R a σ) (fun x => Ok (p1 p x) Q E) E := ok_bind _ _
theorem w_p2 (p : P2) (a b : Ex) : Ok (evalE R (.p2 p a b) σ) Q E ↔ Ok (evalE R a σ) (fun x => Ok (evalE R b σ) (fun y => Ok (p2 p x y) Q E) E) E := by
  show Ok (Res.bind _ fun x => Res.bind _ fun y => _) Q E ↔ _
  simp only [ok_bind]
theorem w_sm (m : SM) (a b : Ex) : Ok (evalE R (.sm m a b) σ) Q E ↔ Ok (evalE R a σ) (fun x => Ok (ofOpt x.asX) (fun _ => Ok (evalE R b σ) (fun y => Ok (sm m x y) Q E) E) E) E := by
  show Ok (Res.bind _ fun x => Res.bind _ fun y => Res.bind _ fun z => _) Q E ↔ _
  simp only [ok_bind]
theorem w_isi (a : Ex) (ts : List Ty) : Ok (evalE R (.isi a ts) σ) Q E ↔ Ok (evalE R a σ) (fun x => Ok (ofB (isis x ts)) Q E) E := ok_bind _ _
/-! lists of expressions -/
theorem w_nil {Q : List RV → Prop} : Ok (evalL R .nil σ) Q E ↔ Q [] := ok_ok _
theorem w_cons {Q : List RV → Prop} (e : Ex) (es : Exs) : Ok (evalL R (.cons e es) σ) Q E ↔ Ok (evalE R e σ) (fun x => Ok (evalL R es σ) (fun xs => Q (x :: xs)) E) E := by
  show Ok (Res.bind _ fun x => Res.bind _ fun y => .ok _) Q E ↔ _
  simp only [ok_bind, ok_ok]
theorem w_no {Q : Option Int → Prop} : Ok (evalO R .no σ) Q E ↔ Q none := ok_ok _
def optD (x : RV) : Res (Option Int) := match asInt x with
  | some i => .ok (some i)
  | none => .stuck
theorem w_some {Q : Option Int → Prop} (e : Ex) : Ok (evalO R (.some e) σ) Q E ↔ Ok (evalE R e σ) (fun x => Ok (optD x) Q E) E := ok_bind _ _
theorem opt_int {Q : Option Int → Prop} (i : Int) : Ok (optD (.v (.int i))) Q E ↔ Q (some i) := ok_ok _
/-! values -/
theorem if_bl {α : Type} {Q : α → Prop} (b : Bool) (r s : Res α) : Ok (ifD (.v (.bl b)) r s) Q E ↔ (b = true → Ok r Q E) ∧ (b = false → Ok s Q E) := by
  cases b
  · exact ⟨fun h => ⟨fun z => (by cases z), fun _ => h⟩, fun h => h.2 rfl⟩
  · exact ⟨fun h => ⟨fun _ => h, fun z => (by cases z)⟩, fun h => h.1 rfl⟩
theorem if_t {α : Type} {Q : α → Prop} (r s : Res α) : Ok (ifD (.v (.bl true)) r s) Q E ↔ Ok r Q E := Iff.rfl
theorem if_f {α : Type} {Q : α → Prop} (r s : Res α) : Ok (ifD (.v (.bl false)) r s) Q E ↔ Ok s Q E := Iff.rfl
theorem not_bl (b : Bool) : Ok (notD (.v (.bl b))) Q E ↔ Q (.v (.bl (!b))) := ok_ok _
theorem neg_int (i : Int) : Ok (negD (.v (.int i))) Q E ↔ Q (.v (.int (-i))) := ok_ok _
theorem b_add (i j : Nat) : Ok (binD .add (.v (.int (i : Int))) (.v (.int (j : Int)))) Q E ↔ Q (.v (.int ((i + j : Nat) : Int))) := by
  rw [Int.natCast_add]; exact ok_ok _
theorem b_addI (i j : Int) : Ok (binD .add (.v (.int i)) (.v (.int j))) Q E ↔ Q (.v (.int (i + j))) := ok_ok _
theorem pow_18 : Ok (binD .pow (.v (.int ((10 : Nat) : Int))) (.v (.int ((18 : Nat) : Int)))) Q E ↔ Q (.v (.int ((1000000000000000000 : Nat) : Int))) := by
  have h : (0 : Int) ≤ ((18 : Nat) : Int) ∧ ((18 : Nat) : Int) ≤ 1000000 ∧ (((10 : Nat) : Int)).natAbs < 2 ^ 64 := ⟨by omega, by omega, by simp⟩
  have e : binD .pow (.v (.int ((10 : Nat) : Int))) (.v (.int ((18 : Nat) : Int))) = if (0 : Int) ≤ ((18 : Nat) : Int) ∧ ((18 : Nat) : Int) ≤ 1000000 ∧ (((10 : Nat) : Int)).natAbs < 2 ^ 64 then .ok (.v (.int (((10 : Nat) : Int) ^ (((18 : Nat) : Int)).toNat))) else .stuck := rfl
  rw [e, if_pos h, ok_ok]
  have e2 : ((10 : Nat) : Int) ^ (((18 : Nat) : Int)).toNat = ((1000000000000000000 : Nat) : Int) := by simp
  rw [e2]
theorem b_sub (i j : Int) : Ok (binD .sub (.v (.int i)) (.v (.int j))) Q E ↔ Q (.v (.int (i - j))) := ok_ok _
theorem b_subN {i j : Nat} (h : j ≤ i) : Ok (binD .sub (.v (.int (i : Int))) (.v (.int (j : Int)))) Q E ↔ Q (.v (.int ((i - j : Nat) : Int))) := by
  rw [b_sub, show (i : Int) - (j : Int) = ((i - j : Nat) : Int) by omega]
theorem ok_if {α : Type} {Q : α → Prop} {p : Prop} [Decidable p] (a : α) : Ok (if p then Res.ok a else .stuck) Q E ↔ p ∧ Q a := by
  by_cases h : p
  · rw [if_pos h, ok_ok]; exact ⟨fun q => ⟨h, q⟩, fun q => q.2⟩
  · rw [if_neg h, ok_stuck]; exact ⟨False.elim, fun q => h q.1⟩
theorem b_mul (i j : Nat) : Ok (binD .mul (.v (.int (i : Int))) (.v (.int (j : Int)))) Q E ↔ mulOk (i : Int) (j : Int) = true ∧ Q (.v (.int ((i * j : Nat) : Int))) := by
  have e : binD .mul (.v (.int (i : Int))) (.v (.int (j : Int))) = if mulOk (i : Int) (j : Int) = true then .ok (.v (.int ((i : Int) * (j : Int)))) else .stuck := rfl
  rw [Int.natCast_mul, e]; exact ok_if (p := mulOk (i : Int) (j : Int) = true) _
theorem b_mod (i j : Nat) : Ok (binD .mod (.v (.int (i : Int))) (.v (.int (j : Int)))) Q E ↔ 0 < j ∧ Q (.v (.int ((i % j : Nat) : Int))) := by
  have := ok_if (Q := Q) (E := E) (p := (0 : Int) < (j : Int)) (RV.v (.int ((i : Int) % (j : Int))))
  rw [Int.natCast_emod, ← Int.natCast_pos (n := j)]; exact this
theorem b_fdiv (i j : Nat) : Ok (binD .fdiv (.v (.int (i : Int))) (.v (.int (j : Int)))) Q E ↔ (0 < j ∧ j < 1073741824) ∧ Q (.v (.int ((i / j : Nat) : Int))) := by
  have := ok_if (Q := Q) (E := E) (p := (0 : Int) < (j : Int) ∧ (j : Int) < 1073741824) (RV.v (.int ((i : Int) / (j : Int))))
  have e : (0 < j ∧ j < 1073741824) ↔ ((0 : Int) < (j : Int) ∧ (j : Int) < 1073741824) := by omega
  rw [Int.natCast_ediv, e]; exact this
theorem c_lt' (i j : Nat) : Ok (cmpD .lt (.v (.int (i : Int))) (.v (.int (j : Int)))) Q E ↔ Q (.v (.bl (decide (i < j)))) := by
  rw [show decide (i < j) = decide ((i : Int) < (j : Int)) by simp]; exact ok_ok _
theorem c_le' (i j : Nat) : Ok (cmpD .le (.v (.int (i : Int))) (.v (.int (j : Int)))) Q E ↔ Q (.v (.bl (decide (i ≤ j)))) := by
  rw [show decide (i ≤ j) = decide ((i : Int) ≤ (j : Int)) by simp]; exact ok_ok _
theorem c_gt' (i j : Nat) : Ok (cmpD .gt (.v (.int (i : Int))) (.v (.int (j : Int)))) Q E ↔ Q (.v (.bl (decide (j < i)))) := by
  rw [show decide (j < i) = decide ((j : Int) < (i : Int)) by simp]; exact ok_ok _
theorem c_ge' (i j : Nat) : Ok (cmpD .ge (.v (.int (i : Int))) (.v (.int (j : Int)))) Q E ↔ Q (.v (.bl (decide (j ≤ i)))) := by
  rw [show decide (j ≤ i) = decide ((j : Int) ≤ (i : Int)) by simp]; exact ok_ok _
theorem c_eq' (i j : Nat) : Ok (cmpD .eq (.v (.int (i : Int))) (.v (.int (j : Int)))) Q E ↔ Q (.v (.bl (decide (i = j)))) := by
  rw [show decide (i = j) = decide ((i : Int) = (j : Int)) by simp [Int.natCast_inj]]; exact ok_ok _
theorem c_ne' (i j : Nat) : Ok (cmpD .ne (.v (.int (i : Int))) (.v (.int (j : Int)))) Q E ↔ Q (.v (.bl (!decide (i = j)))) := by
  rw [show decide (i = j) = decide ((i : Int) = (j : Int)) by simp [Int.natCast_inj]]; exact ok_ok _
theorem p_len_S {x : RV} {xs : List D} (h : x.asS = some xs) : Ok (p1 .len x) Q E ↔ Q (.v (.int (xs.length : Int))) := by
  unfold p1; dsimp only; rw [h]; exact ok_ok _
theorem p_len_l (xs : List D) : Ok (p1 .len (.v (.lst xs))) Q E ↔ Q (.v (.int (xs.length : Int))) := p_len_S rfl
theorem p_len_t (xs : List D) : Ok (p1 .len (.v (.tup xs))) Q E ↔ Q (.v (.int (xs.length : Int))) := p_len_S rfl
theorem p_len_n (xs : List D) : Ok (p1 .len (.v (.tpn xs))) Q E ↔ Q (.v (.int (xs.length : Int))) := p_len_S rfl
theorem p_len_f (xs : List D) : Ok (p1 .len (.f xs)) Q E ↔ Q (.v (.int (xs.length : Int))) := p_len_S rfl
theorem p_len_b (i : Nat) (xs : List D) : Ok (p1 .len (.b i xs)) Q E ↔ Q (.v (.int (xs.length : Int))) := p_len_S rfl
theorem p_len_s (ns : List Int) : Ok (p1 .len (.v (.scr ns))) Q E ↔ Q (.v (.int (ns.length : Int))) := (p_len_S rfl).trans (by rw [List.length_map])
theorem p_abs' (i : Int) : Ok (p1 .abs (.v (.int i))) Q E ↔ Q (.v (.int (i.natAbs : Int))) := by
  have : (if i < 0 then -i else i) = (i.natAbs : Int) := by split <;> omega
  show Ok (.ok (.v (.int (if i < 0 then -i else i)))) Q E ↔ _
  rw [this, ok_ok]
theorem mulN {i j : Nat} (h : j < 18446744073709551616) : mulOk (i : Int) (j : Int) = true := by
  have e64 : (2 : Int) ^ 64 = 18446744073709551616 := by simp
  unfold mulOk
  rw [e64, Bool.or_eq_true]
  exact .inr (by rw [Bool.and_eq_true, decide_eq_true_eq, decide_eq_true_eq]; omega)
theorem p_int' (i : Int) : Ok (p1 .int (.v (.int i))) Q E ↔ Q (.v (.int i)) := ok_ok _
theorem p_list_S {x : RV} {xs : List D} (h : x.asS = some xs) : Ok (p1 .list x) Q E ↔ Q (.f xs) := by
  unfold p1; dsimp only; rw [h]; exact ok_ok _
theorem p_list_l (xs : List D) : Ok (p1 .list (.v (.lst xs))) Q E ↔ Q (.f xs) := p_list_S rfl
theorem p_list_t (xs : List D) : Ok (p1 .list (.v (.tup xs))) Q E ↔ Q (.f xs) := p_list_S rfl
theorem p_list_n (xs : List D) : Ok (p1 .list (.v (.tpn xs))) Q E ↔ Q (.f xs) := p_list_S rfl
theorem p_list_f (xs : List D) : Ok (p1 .list (.f xs)) Q E ↔ Q (.f xs) := p_list_S rfl
theorem p_list_b (i : Nat) (xs : List D) : Ok (p1 .list (.b i xs)) Q E ↔ Q (.f xs) := p_list_S rfl
theorem p_tup_l (xs : List D) : Ok (p1 .tuple (.v (.lst xs))) Q E ↔ Q (.v (.tup xs)) := ok_ok _
theorem p_tup_t (xs : List D) : Ok (p1 .tuple (.v (.tup xs))) Q E ↔ Q (.v (.tup xs)) := ok_ok _
theorem p_tup_n (xs : List D) : Ok (p1 .tuple (.v (.tpn xs))) Q E ↔ Q (.v (.tpn xs)) := ok_ok _
theorem p_tup_f (xs : List D) : Ok (p1 .tuple (.f xs)) Q E ↔ Q (.v (.tup xs)) := ok_ok _
theorem p_tup_b (i : Nat) (xs : List D) : Ok (p1 .tuple (.b i xs)) Q E ↔ Q (.v (.tup xs)) := ok_ok _
theorem p_tpn_l (xs : List D) : Ok (p1 .tupN (.v (.lst xs))) Q E ↔ Q (.v (.tpn xs)) := ok_ok _
theorem p_tpn_f (xs : List D) : Ok (p1 .tupN (.f xs)) Q E ↔ Q (.v (.tpn xs)) := ok_ok _
theorem p_tpn_b (i : Nat) (xs : List D) : Ok (p1 .tupN (.b i xs)) Q E ↔ Q (.v (.tpn xs)) := ok_ok _
theorem p_min' (i j : Nat) : Ok (p2 .min (.v (.int (i : Int))) (.v (.int (j : Int)))) Q E ↔ Q (.v (.int ((min i j : Nat) : Int))) := by
  refine (ok_ok _).trans ?_
  have : (if (j : Int) < (i : Int) then (j : Int) else i) = ((min i j : Nat) : Int) := by split <;> omega
  dsimp only; rw [this]
theorem p_max' (i j : Nat) : Ok (p2 .max (.v (.int (i : Int))) (.v (.int (j : Int)))) Q E ↔ Q (.v (.int ((max i j : Nat) : Int))) := by
  refine (ok_ok _).trans ?_
  have : (if (j : Int) > (i : Int) then (j : Int) else i) = ((max i j : Nat) : Int) := by split <;> omega
  dsimp only; rw [this]
theorem ok_ofB (b : Bool) : Ok (ofB (some b)) Q E ↔ Q (.v (.bl b)) := ok_ok _
/-! index -/
theorem ix_nat (n k : Nat) : L2.ixN n (k : Int) = if k < n then some k else none := by
  unfold L2.ixN
  rw [if_pos (by omega)]
  by_cases h : k < n
  · rw [if_pos (by omega), if_pos h]; simp
  · rw [if_neg (by omega), if_neg h]
theorem ix_S {x : RV} {xs : List D} (k : Nat) (h : x.asS = some xs) : Ok (idxD x (.v (.int (k : Int)))) Q E ↔ ∃ d, xs[k]? = some d ∧ Q (.v d) := by
  unfold idxD
  rw [h]
  show Ok (ofOpt _) Q E ↔ _
  rw [ok_ofOpt, ix_nat]
  by_cases hk : k < xs.length
  · rw [if_pos hk]
    show (∃ a, (xs[k]?).map RV.v = some a ∧ Q a) ↔ _
    rw [List.getElem?_eq_getElem hk]
    exact ⟨fun ⟨a, e, q⟩ => ⟨_, rfl, by cases e; exact q⟩, fun ⟨d, e, q⟩ => ⟨_, rfl, by cases e; exact q⟩⟩
  · rw [if_neg hk, List.getElem?_eq_none (by omega)]
    exact ⟨fun ⟨a, e, q⟩ => (by cases e), fun ⟨d, e, q⟩ => (by cases e)⟩
theorem ix_l (xs : List D) (k : Nat) : Ok (idxD (.v (.lst xs)) (.v (.int (k : Int)))) Q E ↔ ∃ d, xs[k]? = some d ∧ Q (.v d) := ix_S k rfl
theorem ix_t (xs : List D) (k : Nat) : Ok (idxD (.v (.tup xs)) (.v (.int (k : Int)))) Q E ↔ ∃ d, xs[k]? = some d ∧ Q (.v d) := ix_S k rfl
theorem ix_n (xs : List D) (k : Nat) : Ok (idxD (.v (.tpn xs)) (.v (.int (k : Int)))) Q E ↔ ∃ d, xs[k]? = some d ∧ Q (.v d) := ix_S k rfl
theorem ix_f (xs : List D) (k : Nat) : Ok (idxD (.f xs) (.v (.int (k : Int)))) Q E ↔ ∃ d, xs[k]? = some d ∧ Q (.v d) := ix_S k rfl
theorem ix_b (i : Nat) (xs : List D) (k : Nat) : Ok (idxD (.b i xs) (.v (.int (k : Int)))) Q E ↔ ∃ d, xs[k]? = some d ∧ Q (.v d) := ix_S k rfl
theorem ix_scr (ns : List Int) (k : Nat) : Ok (idxD (.v (.scr ns)) (.v (.int (k : Int)))) Q E ↔ ∃ d, ns[k]? = some d ∧ Q (.v (.int d)) := by
  rw [ix_S k (xs := ns.map .int) rfl]
  simp only [List.getElem?_map]
  cases ns[k]? with
  | none => simp
  | some z => simp
theorem ixm_S {x : RV} {xs : List D} (h : x.asS = some xs) : Ok (idxD x (.v (.int (-((1 : Nat) : Int))))) Q E ↔ ∃ d, xs.getLast? = some d ∧ Q (.v d) := by
  unfold idxD
  rw [h]
  show Ok (ofOpt _) Q E ↔ _
  rw [ok_ofOpt]
  have e : ((L2.ixN xs.length (-((1 : Nat) : Int))).bind fun j => xs[j]?) = xs.getLast? := by
    unfold L2.ixN
    rw [if_neg (by omega), List.getLast?_eq_getElem?]
    by_cases hk : 0 < xs.length
    · rw [if_pos (by omega)]
      show xs[_]? = xs[_]?
      congr 1; omega
    · rw [if_neg (by omega), List.getElem?_eq_none (by omega)]; rfl
  rw [e]
  cases xs.getLast? with
  | none => exact ⟨fun ⟨a, e, q⟩ => (by cases e), fun ⟨d, e, q⟩ => (by cases e)⟩
  | some z => exact ⟨fun ⟨a, e, q⟩ => ⟨_, rfl, by cases e; exact q⟩, fun ⟨d, e, q⟩ => ⟨_, rfl, by cases e; exact q⟩⟩
theorem ixm_l (xs : List D) : Ok (idxD (.v (.lst xs)) (.v (.int (-((1 : Nat) : Int))))) Q E ↔ ∃ d, xs.getLast? = some d ∧ Q (.v d) := ixm_S rfl
theorem ixm_b (i : Nat) (xs : List D) : Ok (idxD (.b i xs) (.v (.int (-((1 : Nat) : Int))))) Q E ↔ ∃ d, xs.getLast? = some d ∧ Q (.v d) := ixm_S rfl
theorem ixm_t (xs : List D) : Ok (idxD (.v (.tup xs)) (.v (.int (-((1 : Nat) : Int))))) Q E ↔ ∃ d, xs.getLast? = some d ∧ Q (.v d) := ixm_S rfl
/-! displays, calls -/
theorem cap_eq : cap = 1000000 := rfl
theorem tup_some (ds : List D) : Ok (tupD (some ds)) Q E ↔ ds.length ≤ cap ∧ Q (.v (.tup ds)) := ok_if _
theorem lst_some (ds : List D) : Ok (lstD (some ds)) Q E ↔ ds.length ≤ cap ∧ Q (.f ds) := ok_if _
theorem fld_ins (cs : List Nat) (k c : Nat) (fs : List D) : Ok (fldD cs k (.v (.ins c fs))) Q E ↔ cs.contains c = true ∧ ∃ d, fs[k]? = some d ∧ Q (.v d) := by
  unfold fldD; dsimp only
  by_cases h : cs.contains c = true
  · rw [if_pos h, ok_ofOpt]
    cases fs[k]? with
    | none => exact ⟨fun ⟨a, e, q⟩ => (by cases e), fun ⟨_, d, e, q⟩ => (by cases e)⟩
    | some z => exact ⟨fun ⟨a, e, q⟩ => ⟨h, _, rfl, by cases e; exact q⟩, fun ⟨_, d, e, q⟩ => ⟨_, rfl, by cases e; exact q⟩⟩
  · rw [if_neg h, ok_stuck]; exact ⟨False.elim, fun q => h q.1⟩
theorem fld_o (cs : List Nat) (k i c : Nat) (fs : List D) : Ok (fldD cs k (.o i c fs)) Q E ↔ cs.contains c = true ∧ ∃ d, fs[k]? = some d ∧ Q (.v d) := fld_ins cs k c fs
theorem g_f (r : Res RV) : guardC false r = r := by cases r <;> rfl
theorem call_some (g : Nat) (ds : List D) : Ok (callD R g false (some ds)) Q E ↔ Ok (R.call g ds) Q E := by
  show Ok (guardC false _) Q E ↔ _; rw [g_f]
theorem call_lent (g : Nat) (ds : List D) : Ok (callD R g true (some ds)) Q E ↔ Ok (R.call g ds) (fun r => r.flat = true ∧ Q r) (fun c fs => D.flats fs = true ∧ E c fs) := by
  show Ok (guardC true _) Q E ↔ _
  cases R.call g ds with
  | ok r =>
    rw [ok_ok]
    show Ok (if _ then _ else _) Q E ↔ _
    by_cases h : r.flat = true
    · simp [h, ok_ok]
    · simp [h, ok_stuck]
  | exc c fs =>
    rw [ok_exc]
    show Ok (if _ then _ else _) Q E ↔ _
    by_cases h : D.flats fs = true
    · simp [h, ok_exc]
    · simp [h, ok_stuck]
  | stuck => rw [ok_stuck]; exact ok_stuck
theorem make_some (g : Nat) (ds : List D) : Ok (makeD R g false (some ds)) Q E ↔ Ok (R.new g ds) (fun d => Q (.v d)) E := by
  show Ok (guardC false _) Q E ↔ _; rw [g_f, ok_bind]; simp only [ok_ok]
theorem make_lent (g : Nat) (ds : List D) : Ok (makeD R g true (some ds)) Q E ↔ Ok (R.new g ds) (fun d => d.flat = true ∧ Q (.v d)) (fun c fs => D.flats fs = true ∧ E c fs) := by
  show Ok (guardC true _) Q E ↔ _
  cases R.new g ds with
  | ok r =>
    rw [ok_ok]
    show Ok (if _ then _ else _) Q E ↔ _
    have e : RV.flat (.v r) = r.flat := rfl
    by_cases h : r.flat = true
    · simp [h, e, ok_ok]
    · simp [h, e, ok_stuck]
  | exc c fs =>
    rw [ok_exc]
    show Ok (if _ then _ else _) Q E ↔ _
    by_cases h : D.flats fs = true
    · simp [h, ok_exc]
    · simp [h, ok_stuck]
  | stuck => rw [ok_stuck]; exact ok_stuck
theorem av_nil : allV [] = some [] := rfl
theorem av_cv (d : D) (rs : List RV) : allV (.v d :: rs) = (allV rs).map (d :: ·) := by
  show (match _, allV rs with | some d, some ds => some (d :: ds) | _, _ => none) = _
  dsimp only [RV.asV]
  cases allV rs <;> rfl
theorem av_cf (xs : List D) (rs : List RV) : allV (.f xs :: rs) = (allV rs).map (.lst xs :: ·) := by
  show (match _, allV rs with | some d, some ds => some (d :: ds) | _, _ => none) = _
  dsimp only [RV.asV]
  cases allV rs <;> rfl
theorem ad_nil : allD [] = some [] := rfl
theorem ad_cv (d : D) (rs : List RV) : allD (.v d :: rs) = (allD rs).map (d :: ·) := by
  show (match _, allD rs with | some d, some ds => some (d :: ds) | _, _ => none) = _
  dsimp only [RV.asD]
  cases allD rs <;> rfl
theorem ad_cf (xs : List D) (rs : List RV) : allD (.f xs :: rs) = (allD rs).map (.lst xs :: ·) := by
  show (match _, allD rs with | some d, some ds => some (d :: ds) | _, _ => none) = _
  dsimp only [RV.asD]
  cases allD rs <;> rfl
theorem ad_cb (i : Nat) (xs : List D) (rs : List RV) : allD (.b i xs :: rs) = (allD rs).map (.lst xs :: ·) := by
  show (match _, allD rs with | some d, some ds => some (d :: ds) | _, _ => none) = _
  dsimp only [RV.asD]
  cases allD rs <;> rfl
theorem any_nil : List.any ([] : List RV) RV.lent = false := rfl
theorem any_cv (d : D) (rs : List RV) : List.any (.v d :: rs) RV.lent = rs.any RV.lent := rfl
theorem any_cf (d : List D) (rs : List RV) : List.any (.f d :: rs) RV.lent = rs.any RV.lent := rfl
theorem any_cb (i : Nat) (d : List D) (rs : List RV) : List.any (.b i d :: rs) RV.lent = true := rfl
/-! what is walked -/
abbrev rg (n : Nat) : List D := (List.range n).map fun (k : Nat) => .int (k : Int)
theorem rangeD_0 (n : Nat) : rangeD ((0 : Nat) : Int) (n : Int) = rg n := by
  unfold rangeD
  rw [show ((n : Int) - ((0 : Nat) : Int)).toNat = n by omega]
  exact List.map_congr_left fun (k : Nat) _ => by rw [show ((0 : Nat) : Int) + (k : Int) = (k : Int) by omega]
theorem rangeOk_n {n : Nat} (h : n ≤ 1000000) : rangeOk 0 (n : Int) = true := by
  unfold rangeOk; simp; omega
theorem rangeOk_mn {m n : Nat} (h : n ≤ 1000000) (h' : m ≤ 1000000) : rangeOk (m : Int) (n : Int) = true := by
  unfold rangeOk; simp; omega
def r1D (x : RV) : Res (List D × Bool) := match asInt x with
  | some n => if n ≤ cap ∧ rangeOk 0 n then .ok (rangeD 0 n, false) else .stuck
  | none => .stuck
def r2D (x y : RV) : Res (List D × Bool) := match asInt x, asInt y with
  | some m, some n => if n - m ≤ cap ∧ rangeOk m n then .ok (rangeD m n, false) else .stuck
  | _, _ => .stuck
variable {QI : List D × Bool → Prop}
theorem i_r1' (a : Ex) : Ok (evalI R (.r1 a) σ) QI E ↔ Ok (evalE R a σ) (fun x => Ok (r1D x) QI E) E := ok_bind _ _
theorem i_r2' (a b : Ex) : Ok (evalI R (.r2 a b) σ) QI E ↔ Ok (evalE R a σ) (fun x => Ok (evalE R b σ) (fun y => Ok (r2D x y) QI E) E) E := by
  show Ok (Res.bind _ fun x => Res.bind _ fun y => _) QI E ↔ _
  simp only [ok_bind]; exact Iff.rfl
theorem i_seq (a : Ex) : Ok (evalI R (.seq a) σ) QI E ↔ Ok (evalE R a σ) (fun x => Ok (seqD x) QI E) E := ok_bind _ _
theorem r1_n {n : Nat} (h : n ≤ 1000000) : Ok (r1D (.v (.int (n : Int)))) QI E ↔ QI (rg n, false) := by
  have : Ok (r1D (.v (.int (n : Int)))) QI E ↔ ((n : Int) ≤ cap ∧ rangeOk 0 n) ∧ QI (rangeD 0 n, false) := ok_if _
  have e := rangeD_0 n
  rw [this, ← e]
  exact ⟨fun q => q.2, fun q => ⟨⟨by rw [cap_eq]; omega, rangeOk_n h⟩, q⟩⟩
theorem r2_n {m n : Nat} (h : n ≤ 1000000) (h' : m ≤ 1000000) : Ok (r2D (.v (.int (m : Int))) (.v (.int (n : Int)))) QI E ↔ QI ((List.range (n - m)).map (fun (k : Nat) => .int ((m + k : Nat) : Int)), false) := by
  have : Ok (r2D (.v (.int (m : Int))) (.v (.int (n : Int)))) QI E ↔ ((n : Int) - m ≤ cap ∧ rangeOk m n) ∧ QI (rangeD m n, false) := ok_if _
  have e : rangeD (m : Int) (n : Int) = (List.range (n - m)).map (fun (k : Nat) => .int ((m + k : Nat) : Int)) := by
    unfold rangeD
    rw [show ((n : Int) - (m : Int)).toNat = n - m by omega]
    exact List.map_congr_left fun (k : Nat) _ => by rw [Int.natCast_add]
  rw [this, ← e]
  exact ⟨fun q => q.2, fun q => ⟨⟨by rw [cap_eq]; omega, rangeOk_mn h h'⟩, q⟩⟩
theorem seq_l (xs : List D) : Ok (seqD (.v (.lst xs))) QI E ↔ QI (xs, false) := ok_ok _
theorem seq_t (xs : List D) : Ok (seqD (.v (.tup xs))) QI E ↔ QI (xs, false) := ok_ok _
theorem seq_n (xs : List D) : Ok (seqD (.v (.tpn xs))) QI E ↔ QI (xs, false) := ok_ok _
theorem seq_f (xs : List D) : Ok (seqD (.f xs)) QI E ↔ QI (xs, false) := ok_ok _
theorem seq_b (i : Nat) (xs : List D) : Ok (seqD (.b i xs)) QI E ↔ QI (xs, true) := ok_ok _
def rngD (t : Bool) (x : RV) : Res RV := match asInt x with
  | some n => if n ≤ cap ∧ rangeOk 0 n then .ok (if t then .v (.tup (rangeD 0 n)) else .f (rangeD 0 n)) else .stuck
  | none => .stuck
theorem w_rng1 (t : Bool) (a : Ex) : Ok (evalE R (.rng t (.r1 a)) σ) Q E ↔ Ok (evalE R a σ) (fun x => Ok (rngD t x) Q E) E := ok_bind _ _
theorem rng_n {t : Bool} {n : Nat} (h : n ≤ 1000000) : Ok (rngD t (.v (.int (n : Int)))) Q E ↔ Q (if t then .v (.tup (rg n)) else .f (rg n)) := by
  have : Ok (rngD t (.v (.int (n : Int)))) Q E ↔ ((n : Int) ≤ cap ∧ rangeOk 0 n) ∧ Q (if t then .v (.tup (rangeD 0 n)) else .f (rangeD 0 n)) := ok_if _
  have e := rangeD_0 n
  rw [this, ← e]
  exact ⟨fun q => q.2, fun q => ⟨⟨by rw [cap_eq]; omega, rangeOk_n h⟩, q⟩⟩
/-! comprehensions -/
def bodyM (R : Rt) (e : Ex) (tg : List Nat) (σ : List Sl) (d : D) : Res D := (ofOpt (bindT tg d σ)).bind fun σ' => (evalE R e σ').bind fun r => ofOpt r.asV
def bodyF (R : Rt) (t e : Ex) (tg : List Nat) (σ : List Sl) (d : D) : Res (Option D) := (ofOpt (bindT tg d σ)).bind fun σ' => (evalE R t σ').bind fun b => ifD b ((evalE R e σ').bind fun r => (ofOpt r.asV).bind fun d => .ok (some d)) (.ok none)
theorem w_comp (e : Ex) (tg vs : List Nat) (it : It) : Ok (evalE R (.comp e tg vs it .no) σ) Q E ↔ Ok (evalI R it σ) (fun items => items.1.length ≤ cap ∧ bareD σ vs = true ∧ Ok (mapR (bodyM R e tg (wipeD σ vs)) items.1) (fun ds => Q (.f ds)) E) E := by
  refine (ok_bind _ _).trans ?_
  refine iff_of_eq (congrArg (fun z => Ok _ z E) (funext fun items => propext ?_))
  try dsimp only
  by_cases h1 : cap < items.1.length
  · rw [show (decide (cap < items.1.length) || !bareD σ vs) = true by simp [h1], if_pos rfl, ok_stuck]
    exact ⟨False.elim, fun q => by omega⟩
  · cases h2 : bareD σ vs with
    | false => rw [show (decide (cap < items.1.length) || !false) = true by simp, if_pos rfl, ok_stuck]; exact ⟨False.elim, fun q => by cases q.2.1⟩
    | true =>
      rw [show (decide (cap < items.1.length) || !true) = false by simp [h1], if_neg (by decide), ok_bind]
      simp only [ok_ok]
      exact ⟨fun q => ⟨by omega, trivial, q⟩, fun q => q.2.2⟩
theorem bodyF_eq (t e : Ex) (tg vs : List Nat) (d : D) : ((ofOpt (bindT tg d (wipeD σ vs))).bind fun σ' => (evalE R t σ').bind fun b => match b with
      | .v (.bl true) => (evalE R e σ').bind fun r => (ofOpt r.asV).bind fun d => .ok (some d)
      | .v (.bl false) => .ok none
      | _ => .stuck) = bodyF R t e tg (wipeD σ vs) d := rfl
theorem w_compF (e t : Ex) (tg vs : List Nat) (it : It) : Ok (evalE R (.comp e tg vs it (.some t)) σ) Q E ↔ Ok (evalI R it σ) (fun items => items.1.length ≤ cap ∧ bareD σ vs = true ∧ Ok (mapF (bodyF R t e tg (wipeD σ vs)) items.1) (fun ds => Q (.f ds)) E) E := by
  refine (ok_bind _ _).trans ?_
  refine iff_of_eq (congrArg (fun z => Ok _ z E) (funext fun items => propext ?_))
  try dsimp only
  by_cases h1 : cap < items.1.length
  · rw [show (decide (cap < items.1.length) || !bareD σ vs) = true by simp [h1], if_pos rfl, ok_stuck]
    exact ⟨False.elim, fun q => by omega⟩
  · cases h2 : bareD σ vs with
    | false => rw [show (decide (cap < items.1.length) || !false) = true by simp, if_pos rfl, ok_stuck]; exact ⟨False.elim, fun q => by cases q.2.1⟩
    | true =>
      rw [show (decide (cap < items.1.length) || !true) = false by simp [h1], if_neg (by decide)]
      refine (ok_bind _ _).trans ?_
      simp only [ok_ok]
      exact ⟨fun q => ⟨by omega, trivial, q⟩, fun q => q.2.2⟩
theorem ok_mapR {γ : Type} {l : List γ} {em : γ → D} (g : γ → D) {f : D → Res D} {Q : List D → Prop} (h : ∀ x ∈ l, Ok (f (em x)) (fun y => y = g x) NoE) (q : Q (l.map g)) : Ok (mapR f (l.map em)) Q E := by
  have : mapR f (l.map em) = .ok (l.map g) := by
    clear q
    induction l with
    | nil => rfl
    | cons x l ih =>
      rw [List.map_cons, List.map_cons]
      unfold mapR
      rw [(h x List.mem_cons_self).eq, ih fun y hy => h y (List.mem_cons_of_mem _ hy)]
  rw [this]; exact (ok_ok _).mpr q
theorem ok_mapF {γ : Type} {l : List γ} {em : γ → D} (g : γ → Option D) {f : D → Res (Option D)} {Q : List D → Prop} (h : ∀ x ∈ l, Ok (f (em x)) (fun y => y = g x) NoE) (q : Q (l.filterMap g)) : Ok (mapF f (l.map em)) Q E := by
  have : mapF f (l.map em) = .ok (l.filterMap g) := by
    clear q
    induction l with
    | nil => rfl
    | cons x l ih =>
      rw [List.map_cons, List.filterMap_cons]
      unfold mapF
      rw [(h x List.mem_cons_self).eq, ih fun y hy => h y (List.mem_cons_of_mem _ hy)]
      cases g x <;> rfl
  rw [this]; exact (ok_ok _).mpr q
theorem w_bodyM {QD : D → Prop} (e : Ex) (tg : List Nat) (d : D) : Ok (bodyM R e tg σ d) QD E ↔ ∃ σ', bindT tg d σ = some σ' ∧ Ok (evalE R e σ') (fun r => ∃ d, r.asV = some d ∧ QD d) E := by
  unfold bodyM; simp only [ok_bind, ok_ofOpt]
theorem w_bodyF {QD : Option D → Prop} (t e : Ex) (tg : List Nat) (d : D) : Ok (bodyF R t e tg σ d) QD E ↔ ∃ σ', bindT tg d σ = some σ' ∧ Ok (evalE R t σ') (fun b => Ok (ifD b ((evalE R e σ').bind fun r => (ofOpt r.asV).bind fun d => .ok (some d)) (.ok none)) QD E) E := by
  unfold bodyF; simp only [ok_bind, ok_ofOpt]
end
end DW


set_option Elab.async false
set_option linter.all false
set_option maxRecDepth 100000
set_option maxHeartbeats 4000000
namespace DW
open PySem PySem.Spec Ev
section
variable {sub : Nat → List Nat → Option Bool} {R : Rt} {σ : List Sl} {Q : Out → Prop} {E : Nat → List D → Prop}
/-- behind a statement -/
inductive Nx (sub : Nat → List Nat → Option Bool) (R : Rt) (ss : Stms) (Q : Out → Prop) (E : Nat → List D → Prop) : Out → Prop
  | nx (σ : List Sl) (h : Ok (execB sub R ss σ) Q E) : Nx sub R ss Q E (.nx σ)
  | ret (r : RV) (h : Q (.ret r)) : Nx sub R ss Q E (.ret r)
  | bk (σ : List Sl) (h : Q (.bk σ)) : Nx sub R ss Q E (.bk σ)
  | ct (σ : List Sl) (h : Q (.ct σ)) : Nx sub R ss Q E (.ct σ)
  | ex (c : Nat) (fs : List D) (σ : List Sl) (h : Q (.ex c fs σ)) : Nx sub R ss Q E (.ex c fs σ)
theorem nx_nx (ss : Stms) : Nx sub R ss Q E (.nx σ) ↔ Ok (execB sub R ss σ) Q E := ⟨fun h => by cases h; assumption, .nx _⟩
theorem nx_ret (ss : Stms) (r : RV) : Nx sub R ss Q E (.ret r) ↔ Q (.ret r) := ⟨fun h => by cases h; assumption, .ret _⟩
theorem nx_bk (ss : Stms) : Nx sub R ss Q E (.bk σ) ↔ Q (.bk σ) := ⟨fun h => by cases h; assumption, .bk _⟩
theorem nx_ct (ss : Stms) : Nx sub R ss Q E (.ct σ) ↔ Q (.ct σ) := ⟨fun h => by cases h; assumption, .ct _⟩
theorem nx_ex (ss : Stms) (c : Nat) (fs : List D) : Nx sub R ss Q E (.ex c fs σ) ↔ Q (.ex c fs σ) := ⟨fun h => by cases h; assumption, .ex _ _ _⟩
theorem x_nil' : Ok (execB sub R .nil σ) Q E ↔ Q (.nx σ) := ok_ok _
theorem x_cons' (s : Stm) (ss : Stms) : Ok (execB sub R (.cons s ss) σ) Q E ↔ Ok (execS sub R s σ) (Nx sub R ss Q E) E := by
  show Ok (match execS sub R s σ with | .ok (.nx σ') => execB sub R ss σ' | r => r) Q E ↔ _
  cases h : execS sub R s σ with
  | ok o => cases o with
    | nx σ' => rw [ok_ok, nx_nx]
    | ret r => simp only [ok_ok, nx_ret]
    | bk r => simp only [ok_ok, nx_bk]
    | ct r => simp only [ok_ok, nx_ct]
    | ex c fs r => simp only [ok_ok, nx_ex]
  | exc c fs => simp only [ok_exc]
  | stuck => simp only [ok_stuck]
def stD (i : Nat) (x : RV) (σ : List Sl) : Res Out := (ofOpt (storeR i x σ)).bind fun σ' => .ok (.nx σ')
theorem s_set' (i : Nat) (e : Ex) : Ok (execS sub R (.set i e) σ) Q E ↔ Ok (evalE R e σ) (fun x => Ok (stD i x σ) Q E) (fun c fs => Q (.ex c fs σ)) := ok_lift _ _ _
theorem st_v' (i : Nat) (d : D) : Ok (stD i (.v d) σ) Q E ↔ Q (.nx (σ.set i (.d d))) := ok_ok _
theorem st_f' (i : Nat) (d : List D) : Ok (stD i (.f d) σ) Q E ↔ Q (.nx (σ.set i (.l d))) := ok_ok _
theorem st_t' (i : Nat) (d : List (List Int × D)) : Ok (stD i (.t d) σ) Q E ↔ Q (.nx (σ.set i (.t d))) := ok_ok _
theorem st_k' (i : Nat) (d : List (L2.Key × D)) : Ok (stD i (.k d) σ) Q E ↔ Q (.nx (σ.set i (.k d))) := ok_ok _
def backD (x : RV) : Res Out := (ofOpt x.back).bind fun r => .ok (.ret r)
theorem s_ret' (e : Ex) : Ok (execS sub R (.ret e) σ) Q E ↔ Ok (evalE R e σ) (fun x => Ok (backD x) Q E) (fun c fs => Q (.ex c fs σ)) := ok_lift _ _ _
theorem bk_v' (d : D) : Ok (backD (.v d)) Q E ↔ Q (.ret (.v d)) := ok_ok _
theorem bk_f' (d : List D) : Ok (backD (.f d)) Q E ↔ Q (.ret (.f d)) := ok_ok _
theorem bk_b' (i : Nat) (d : List D) : Ok (backD (.b i d)) Q E ↔ Q (.ret (.f d)) := ok_ok _
theorem s_retN' : Ok (execS sub R .retN σ) Q E ↔ Q (.ret (.v .non)) := ok_ok _
theorem s_ifs' (c : Ex) (a b : Stms) : Ok (execS sub R (.ifs c a b) σ) Q E ↔ Ok (evalE R c σ) (fun x => Ok (ifD x (execB sub R a σ) (execB sub R b σ)) Q E) (fun c fs => Q (.ex c fs σ)) := ok_lift _ _ _
def frzD (i : Nat) (s : Option Sl) (σ : List Sl) : Res Out := match s with
  | some (.l xs) => .ok (.nx (σ.set i (.d (.lst xs))))
  | _ => .ok (.nx σ)
theorem s_frz' (i : Nat) : Ok (execS sub R (.frz i) σ) Q E ↔ Ok (frzD i σ[i]? σ) Q E := by
  have e : execS sub R (.frz i) σ = frzD i σ[i]? σ := by
    show (match ownL σ i with | some xs => _ | none => _) = _
    unfold ownL
    cases σ[i]? with
    | none => rfl
    | some s => cases s <;> rfl
  rw [e]
theorem frz_l (i : Nat) (xs : List D) : Ok (frzD i (some (.l xs)) σ) Q E ↔ Q (.nx (σ.set i (.d (.lst xs)))) := ok_ok _
theorem frz_d (i : Nat) (d : D) : Ok (frzD i (some (.d d)) σ) Q E ↔ Q (.nx σ) := ok_ok _
theorem frz_u (i : Nat) : Ok (frzD i (some .u) σ) Q E ↔ Q (.nx σ) := ok_ok _
theorem frz_n (i : Nat) : Ok (frzD i none σ) Q E ↔ Q (.nx σ) := ok_ok _
def lmR (i : Nat) (m : LM) (s : Option Sl) (r : Res (List RV)) (σ : List Sl) : Res Out := match s with
  | some (.l ys) => lift r σ fun rs => lmX σ i m ys rs
  | _ => .stuck
theorem s_lm' (i : Nat) (m : LM) (xs : Exs) : Ok (execS sub R (.lm i m xs) σ) Q E ↔ Ok (lmR i m σ[i]? (evalL R xs σ) σ) Q E := by
  have e : execS sub R (.lm i m xs) σ = lmR i m σ[i]? (evalL R xs σ) σ := by
    show ownThen σ i _ = _
    unfold ownThen ownL
    cases σ[i]? with
    | none => rfl
    | some s => cases s <;> rfl
  rw [e]
theorem lm_l (i : Nat) (m : LM) (ys : List D) (r : Res (List RV)) : Ok (lmR i m (some (.l ys)) r σ) Q E ↔ Ok r (fun rs => Ok (lmX σ i m ys rs) Q E) (fun c fs => Q (.ex c fs σ)) := ok_lift _ _ _
theorem lm_app (i : Nat) (ys : List D) (d : D) : Ok (lmX σ i .append ys [.v d]) Q E ↔ ys.length < cap ∧ Q (.nx (σ.set i (.l (ys ++ [d])))) := by
  show Ok ((ofOpt (if ys.length < cap then some (ys ++ [d]) else none)).bind _) Q E ↔ _
  by_cases h : ys.length < cap
  · rw [if_pos h]; exact (ok_ok _).trans ⟨fun q => ⟨h, q⟩, fun q => q.2⟩
  · rw [if_neg h]; exact ok_stuck.trans ⟨False.elim, fun q => h q.1⟩
theorem lm_appf (i : Nat) (ys : List D) (d : List D) : Ok (lmX σ i .append ys [.f d]) Q E ↔ ys.length < cap ∧ Q (.nx (σ.set i (.l (ys ++ [.lst d])))) := lm_app i ys (.lst d)
def setR (i : Nat) (s : Option Sl) (x : RV) (r : Res RV) (σ : List Sl) : Res Out := match s with
  | some (.l xs) => lift r σ fun y => setD σ i xs x y
  | _ => .stuck
theorem s_setIdx' (i : Nat) (k e : Ex) : Ok (execS sub R (.setIdx i k e) σ) Q E ↔ Ok (evalE R e σ) (fun x => Ok (setR i σ[i]? x (evalE R k σ) σ) Q E) (fun c fs => Q (.ex c fs σ)) := by
  have e : ∀ x, (ownThen σ i fun xs => lift (evalE R k σ) σ fun y => setD σ i xs x y) = setR i σ[i]? x (evalE R k σ) σ := fun x => by
    unfold ownThen ownL
    cases σ[i]? with
    | none => rfl
    | some s => cases s <;> rfl
  refine (ok_lift _ _ _).trans ?_
  simp only [e]
theorem set_l (i : Nat) (ys : List D) (x : RV) (r : Res RV) : Ok (setR i (some (.l ys)) x r σ) Q E ↔ Ok r (fun y => Ok (setD σ i ys x y) Q E) (fun c fs => Q (.ex c fs σ)) := ok_lift _ _ _
theorem set_n (i : Nat) (ys : List D) (d : D) (k : Nat) : Ok (setD σ i ys (.v d) (.v (.int (k : Int)))) Q E ↔ k < ys.length ∧ Q (.nx (σ.set i (.l (ys.set k d)))) := by
  show Ok (match L2.ixN ys.length (k : Int) with | some j => _ | none => _) Q E ↔ _
  rw [ix_nat]
  by_cases h : k < ys.length
  · rw [if_pos h]; exact (ok_ok _).trans ⟨fun q => ⟨h, q⟩, fun q => q.2⟩
  · rw [if_neg h]; exact ok_stuck.trans ⟨False.elim, fun q => h q.1⟩
def augR (i : Nat) (o : BO) (s : Option Sl) (r : Res RV) (σ : List Sl) : Res Out := match s with
  | some (.d (.int m)) => lift r σ fun x => match asInt x with
      | some n => lift (binI o m n) σ fun z => (ofOpt (storeR i z σ)).bind fun σ' => .ok (.nx σ')
      | none => .stuck
  | _ => .stuck
theorem s_aug' (i : Nat) (o : BO) (e : Ex) : Ok (execS sub R (.aug i o e) σ) Q E ↔ Ok (augR i o σ[i]? (evalE R e σ) σ) Q E := by
  have e : execS sub R (.aug i o e) σ = augR i o σ[i]? (evalE R e σ) σ := by
    show (match σ[i]? with | some (.d (.int m)) => _ | _ => _) = _
    unfold augR
    cases σ[i]? with
    | none => rfl
    | some s => cases s with
      | d d => cases d <;> rfl
      | _ => rfl
  rw [e]
def augX (i : Nat) (m : Int) (x : RV) (σ : List Sl) : Res Out := match asInt x with
      | some n => lift (binI .add m n) σ fun z => (ofOpt (storeR i z σ)).bind fun σ' => .ok (.nx σ')
      | none => .stuck
theorem aug_i (i : Nat) (m : Int) (r : Res RV) : Ok (augR i .add (some (.d (.int m))) r σ) Q E ↔ Ok r (fun x => Ok (augX i m x σ) Q E) (fun c fs => Q (.ex c fs σ)) := ok_lift _ _ _
theorem augX_n (i m n : Nat) : Ok (augX i (m : Int) (.v (.int (n : Int))) σ) Q E ↔ Q (.nx (σ.set i (.d (.int ((m + n : Nat) : Int))))) := by
  rw [Int.natCast_add]; exact ok_ok _
theorem s_expr' (e : Ex) : Ok (execS sub R (.expr e) σ) Q E ↔ Ok (evalE R e σ) (fun _ => Q (.nx σ)) (fun c fs => Q (.ex c fs σ)) := by
  refine (ok_lift _ _ _).trans ?_
  simp only [ok_ok]
theorem s_brk' : Ok (execS sub R .brk σ) Q E ↔ Q (.bk σ) := ok_ok _
theorem s_cont' : Ok (execS sub R .cont σ) Q E ↔ Q (.ct σ) := ok_ok _
theorem s_pass' : Ok (execS sub R .pass σ) Q E ↔ Q (.nx σ) := ok_ok _
theorem s_fset' (c k : Nat) (e : Ex) (fs : List D) (r : List Sl) : Ok (execS sub R (.fset c k e) (.o c fs :: r)) Q E ↔ Ok (evalE R e (.o c fs :: r)) (fun x => fs.length = k ∧ ∃ d, x.asV = some d ∧ Q (.nx (.o c (fs ++ [d]) :: r))) (fun c' fs' => Q (.ex c' fs' (.o c fs :: r))) := by
  refine (ok_lift _ _ _).trans ?_
  refine iff_of_eq (congrArg (fun z => Ok _ z _) (funext fun x => propext ?_))
  show Ok (match some (Sl.o c fs), x.asV with
    | some (Sl.o c' fs1), some d => if c' = c ∧ fs1.length = k then Res.ok (Out.nx ((Sl.o c fs :: r).set 0 (Sl.o c (fs1 ++ [d])))) else Res.stuck
    | _, _ => Res.stuck) Q E ↔ _
  cases x.asV with
  | none => exact ok_stuck.trans ⟨False.elim, fun ⟨_, d, e, _⟩ => by cases e⟩
  | some d =>
    dsimp only
    by_cases h : fs.length = k
    · rw [if_pos ⟨rfl, h⟩, ok_ok]; exact ⟨fun q => ⟨h, d, rfl, q⟩, fun ⟨_, d', e, q⟩ => by cases e; exact q⟩
    · rw [if_neg (fun z => h z.2), ok_stuck]; exact ⟨False.elim, fun q => h q.1⟩
/-! loops -/
def bodyD (sub : Nat → List Nat → Option Bool) (R : Rt) (tg : List Nat) (b : Stms) (d : D) (σ : List Sl) : Res Out := (ofOpt (bindT tg d σ)).bind fun σ2 => execB sub R b σ2
/-- one round: what is next, or how the loop ends -/
inductive Rd1 (I : List Sl → Prop) (Q : Out → Prop) : Out → Prop
  | nx (σ : List Sl) (h : I σ) : Rd1 I Q (.nx σ)
  | ct (σ : List Sl) (h : I σ) : Rd1 I Q (.ct σ)
  | bk (σ : List Sl) (h : Q (.nx σ)) : Rd1 I Q (.bk σ)
  | ret (r : RV) (h : Q (.ret r)) : Rd1 I Q (.ret r)
  | ex (c : Nat) (fs : List D) (σ : List Sl) (h : Q (.ex c fs σ)) : Rd1 I Q (.ex c fs σ)
theorem rd_nx {I : List Sl → Prop} : Rd1 I Q (.nx σ) ↔ I σ := ⟨fun h => by cases h; assumption, .nx _⟩
theorem rd_ct {I : List Sl → Prop} : Rd1 I Q (.ct σ) ↔ I σ := ⟨fun h => by cases h; assumption, .ct _⟩
theorem rd_bk {I : List Sl → Prop} : Rd1 I Q (.bk σ) ↔ Q (.nx σ) := ⟨fun h => by cases h; assumption, .bk _⟩
theorem rd_ret {I : List Sl → Prop} (r : RV) : Rd1 I Q (.ret r) ↔ Q (.ret r) := ⟨fun h => by cases h; assumption, .ret _⟩
theorem rd_ex {I : List Sl → Prop} (c : Nat) (fs : List D) : Rd1 I Q (.ex c fs σ) ↔ Q (.ex c fs σ) := ⟨fun h => by cases h; assumption, .ex _ _ _⟩
theorem forR_ok {body : D → List Sl → Res Out} (I : Nat → List Sl → Prop) : ∀ {items : List D} {k : Nat} {σ : List Sl}, I k σ →
    (∀ (i : Nat) (d : D) (σ : List Sl), items[i]? = some d → I (k + i) σ → Ok (body d σ) (Rd1 (I (k + i + 1)) Q) NoE) → (∀ σ, I (k + items.length) σ → Q (.nx σ)) → Ok (forR body items σ) Q E
  | [], k, σ, h, _, hq => (ok_ok _).mpr (hq σ h)
  | x :: xs, k, σ, h, hs, hq => by
    have h0 := hs 0 x σ rfl h
    have rest : ∀ σ1, I (k + 1) σ1 → Ok (forR body xs σ1) Q E := fun σ1 h1 => forR_ok I (items := xs) (k := k + 1) h1 (fun i d σ hi hp => by
      have := hs (i + 1) d σ (by simpa using hi) (by rw [show k + (i + 1) = k + 1 + i from by omega]; exact hp)
      rw [show k + (i + 1) + 1 = k + 1 + i + 1 from by omega] at this
      exact this) (fun σ h2 => hq σ (by rw [List.length_cons, show k + (xs.length + 1) = k + 1 + xs.length from by omega]; exact h2))
    unfold forR
    cases h0 with
    | exc c fs e q => exact q.elim
    | ok o e q =>
      rw [e]
      cases q with
      | nx σ1 h1 => exact rest σ1 h1
      | ct σ1 h1 => exact rest σ1 h1
      | bk σ1 h1 => exact (ok_ok _).mpr h1
      | ret r h1 => exact (ok_ok _).mpr h1
      | ex c fs σ1 h1 => exact (ok_ok _).mpr h1
/-- the rule of for: what holds ahead of the k-th item -/
theorem ok_for {tg : List Nat} {it : It} {b : Stms} {items : List D} (I : Nat → List Sl → Prop) (hit : Ok (evalI R it σ) (fun x => x = (items, false)) NoE) (h0 : I 0 σ)
    (hs : ∀ (k : Nat) (d : D) (σ' : List Sl), items[k]? = some d → I k σ' → Ok (bodyD sub R tg b d σ') (Rd1 (I (k + 1)) Q) NoE) (hq : ∀ σ', I items.length σ' → Q (.nx σ')) : Ok (execS sub R (.forS tg it b) σ) Q E := by
  refine (ok_lift _ _ _).mpr ?_
  rw [hit.eq, ok_ok]
  show Ok (if false = true then _ else _) Q E
  rw [if_neg (by decide)]
  exact forR_ok I (k := 0) h0 (fun i d σ hi hp => by rw [Nat.zero_add] at hp ⊢; exact hs i d σ hi hp) (fun σ h => hq σ (by rw [Nat.zero_add] at h; exact h))
/-- .. over a list of things that are told otherwise -/
theorem ok_forL {tg : List Nat} {it : It} {b : Stms} {γ : Type} {l : List γ} {em : γ → D} (I : Nat → List Sl → Prop) (hit : Ok (evalI R it σ) (fun x => x = (l.map em, false)) NoE) (h0 : I 0 σ)
    (hs : ∀ (k : Nat) (x : γ) (σ' : List Sl), l[k]? = some x → I k σ' → Ok (bodyD sub R tg b (em x) σ') (Rd1 (I (k + 1)) Q) NoE) (hq : ∀ σ', I l.length σ' → Q (.nx σ')) : Ok (execS sub R (.forS tg it b) σ) Q E :=
  ok_for I hit h0 (fun k d σ' hk hi => by
    rw [List.getElem?_map] at hk
    cases e : l[k]? with
    | none => rw [e] at hk; cases hk
    | some x => rw [e] at hk; cases hk; exact hs k x σ' e hi) (fun σ' h => hq σ' (by rw [List.length_map] at h; exact h))
/-- .. over a range -/
theorem ok_forN {tg : List Nat} {it : It} {b : Stms} {n : Nat} (I : Nat → List Sl → Prop) (hit : Ok (evalI R it σ) (fun x => x = (rg n, false)) NoE) (h0 : I 0 σ)
    (hs : ∀ (k : Nat) (σ' : List Sl), k < n → I k σ' → Ok (bodyD sub R tg b (.int (k : Int)) σ') (Rd1 (I (k + 1)) Q) NoE) (hq : ∀ σ', I n σ' → Q (.nx σ')) : Ok (execS sub R (.forS tg it b) σ) Q E :=
  ok_forL (l := List.range n) (em := fun k => .int (k : Int)) I hit h0 (fun k x σ' hk hi => by
    obtain ⟨h1, h2⟩ := List.getElem?_eq_some_iff.mp hk
    rw [List.length_range] at h1
    rw [List.getElem_range] at h2
    subst h2
    exact hs k σ' h1 hi) (fun σ' h => hq σ' (by rw [List.length_range] at h; exact h))
/-- the loop as a fold of what the state tells -/
theorem ok_forF {tg : List Nat} {it : It} {b : Stms} {γ β : Type} {l : List γ} {em : γ → D} (st : β → List Sl → Prop) (f : β → γ → β) (a0 : β) (hit : Ok (evalI R it σ) (fun x => x = (l.map em, false)) NoE) (h0 : st a0 σ)
    (hs : ∀ (a : β) (x : γ) (σ' : List Sl), x ∈ l → st a σ' → Ok (bodyD sub R tg b (em x) σ') (Rd1 (st (f a x)) Q) NoE) (hq : ∀ σ', st (l.foldl f a0) σ' → Q (.nx σ')) : Ok (execS sub R (.forS tg it b) σ) Q E :=
  ok_forL (I := fun k σ' => st ((l.take k).foldl f a0) σ') hit (by simpa using h0) (fun k x σ' hk hi => by
    obtain ⟨h1, h2⟩ := List.getElem?_eq_some_iff.mp hk
    have e : (l.take (k + 1)).foldl f a0 = f ((l.take k).foldl f a0) x := by
      rw [List.take_succ, hk]; simp
    rw [e]
    exact hs _ x σ' (by rw [← h2]; exact List.getElem_mem h1) hi) (fun σ' h => hq σ' (by rw [List.take_length] at h; exact h))
theorem w_bodyD {tg : List Nat} {b : Stms} {d : D} : Ok (bodyD sub R tg b d σ) Q E ↔ ∃ σ2, bindT tg d σ = some σ2 ∧ Ok (execB sub R b σ2) Q E := by
  unfold bodyD; simp only [ok_bind, ok_ofOpt]
theorem bind1 {i : Nat} {d : D} {P : List Sl → Prop} : (∃ σ2, bindT [i] d σ = some σ2 ∧ P σ2) ↔ P (σ.set i (.d d)) := ⟨fun ⟨s, e, p⟩ => by cases e; exact p, fun p => ⟨_, rfl, p⟩⟩
theorem bind2 {i j : Nat} {d e : D} {P : List Sl → Prop} : (∃ σ2, bindT [i, j] (.tup [d, e]) σ = some σ2 ∧ P σ2) ↔ P ((σ.set i (.d d)).set j (.d e)) := ⟨fun ⟨s, e, p⟩ => by cases e; exact p, fun p => ⟨_, rfl, p⟩⟩
/-- while: what holds, with a measure -/
theorem ok_while {c : Ex} {b : Stms} (I : Nat → List Sl → Prop) (n : Nat) (hn : n < fuel) (h0 : I n σ)
    (hs : ∀ (m : Nat) (σ' : List Sl), m ≤ n → I m σ' → Ok (evalE R c σ') (fun x => (x = .v (.bl true) ∧ ∃ m', m = m' + 1 ∧ Ok (execB sub R b σ') (Rd1 (I m') Q) NoE) ∨ (x = .v (.bl false) ∧ Q (.nx σ'))) NoE) : Ok (execS sub R (.whileS c b) σ) Q E := by
  show Ok (whileR (fun σ' => evalE R c σ') (fun σ' => execB sub R b σ') fuel σ) Q E
  have key : ∀ (f m : Nat) (σ : List Sl), m < f → m ≤ n → I m σ → Ok (whileR (fun σ' => evalE R c σ') (fun σ' => execB sub R b σ') f σ) Q E := by
    intro f
    induction f with
    | zero => intro m σ h; omega
    | succ f ih =>
      intro m σ hf hm hI
      unfold whileR
      refine (ok_lift _ _ _).mpr ?_
      refine (hs m σ hm hI).imp (fun x hx => ?_) (fun _ _ h => h.elim)
      rcases hx with ⟨rfl, m', rfl, hb⟩ | ⟨rfl, hq⟩
      · dsimp only
        cases hb with
        | exc c fs e q => exact q.elim
        | ok o e q =>
          rw [e]
          cases q with
          | nx σ1 h1 => exact ih m' σ1 (by omega) (by omega) h1
          | ct σ1 h1 => exact ih m' σ1 (by omega) (by omega) h1
          | bk σ1 h1 => exact (ok_ok _).mpr h1
          | ret r h1 => exact (ok_ok _).mpr h1
          | ex c fs σ1 h1 => exact (ok_ok _).mpr h1
      · exact (ok_ok _).mpr hq
  exact key fuel n σ hn (Nat.le_refl _) h0
/-! calls -/
theorem call_of {Tx : Text} {g n : Nat} {f : Fn} {ds : List D} {r : RV} (h : Tx.fn g = some f) (hn : ds.length = f.np) (hs : f.np ≤ f.ns)
    (hb : Ok (execB Tx.sub (rt Tx n) f.body (ds.map Sl.d ++ List.replicate (f.ns - ds.length) .u)) (fun o => o = .ret r) NoE) : (rt Tx (n + 1)).call g ds = .ok r := by
  show callF Tx (rt Tx n) g ds = _
  unfold callF
  rw [h]
  dsimp only
  rw [if_pos ⟨hn, hs⟩, hb.eq]
theorem call_ofN {Tx : Text} {g n : Nat} {f : Fn} {ds : List D} (h : Tx.fn g = some f) (hn : ds.length = f.np) (hs : f.np ≤ f.ns)
    (hb : Ok (execB Tx.sub (rt Tx n) f.body (ds.map Sl.d ++ List.replicate (f.ns - ds.length) .u)) (fun o => ∃ σ, o = .nx σ) NoE) : (rt Tx (n + 1)).call g ds = .ok (.v .non) := by
  show callF Tx (rt Tx n) g ds = _
  unfold callF
  rw [h]
  dsimp only
  rw [if_pos ⟨hn, hs⟩]
  cases hb with
  | exc c fs e q => exact q.elim
  | ok o e q => obtain ⟨σ, rfl⟩ := q; rw [e]
theorem new_of {Tx : Text} {c g n k : Nat} {f : Fn} {ds fs : List D} (hi : Tx.init c = some (g, k)) (h : Tx.fn g = some f) (hn : ds.length + 1 = f.np) (hs : f.np ≤ f.ns) (hk : fs.length = k)
    (hb : Ok (execB Tx.sub (rt Tx n) f.body (.o c [] :: (ds.map Sl.d ++ List.replicate (f.ns - (ds.length + 1)) .u))) (fun o => ∃ r, o = .nx (.o c fs :: r)) NoE) : (rt Tx (n + 1)).new c ds = .ok (.ins c fs) := by
  show makeF Tx (rt Tx n) c ds = _
  unfold makeF
  rw [hi]
  dsimp only
  rw [h]
  dsimp only
  rw [if_pos ⟨hn, hs⟩]
  cases hb with
  | exc c fs e q => exact q.elim
  | ok o e q =>
    obtain ⟨r, rfl⟩ := q
    rw [e]
    show doneO c k (.o c fs :: r) = _
    unfold doneO
    simp [hk]
end
end DW


set_option Elab.async false
set_option linter.all false
set_option maxRecDepth 100000
set_option maxHeartbeats 4000000
namespace DW
open PySem PySem.Spec Ev
local macro_rules | `(tactic| walk_at "ev") => `(tactic| simp only [w_var, v_d, v_l, v_o, w_con, w_int0, w_int1, w_int, w_bl, w_str, w_non, w_bin, w_neg, w_not, w_and, w_or, w_ite, w_eq, w_ne, w_lt, w_le, w_gt, w_ge, w_inn, w_ni, w_isn, w_notn, w_chain, w_tup, w_lst, w_idx, w_slice, w_fld, w_call, w_make, w_meth, w_p1, w_p2, w_sm, w_isi, w_nil, w_cons, w_no, w_some, opt_int, if_t, if_f, if_bl, not_bl, neg_int, b_add, b_mul, pow_18, b_mod, b_fdiv, c_lt', c_le', c_gt', c_ge', c_eq', c_ne', p_len_l, p_len_t, p_len_n, p_len_f, p_len_b, p_len_s, p_int', p_list_l, p_list_t, p_list_n, p_list_f, p_list_b, p_tup_l, p_tup_t, p_tup_n, p_tup_f, p_tup_b, p_tpn_l, p_tpn_f, p_tpn_b, p_min', p_max', ok_ofB, ix_l, ix_t, ix_n, ix_f, ix_b, ix_scr, ixm_l, ixm_b, ixm_t, tup_some, lst_some, fld_ins, fld_o, call_some, call_lent, make_some, make_lent, av_nil, av_cv, av_cf, ad_nil, ad_cv, ad_cf, ad_cb, any_nil, any_cv, any_cf, any_cb, Option.map_some, ok_ok, ok_ofOpt, nx_nx, nx_ret, nx_bk, nx_ct, x_nil', x_cons', s_set', st_v', st_f', st_t', st_k', s_ret', bk_v', bk_f', bk_b', s_retN', s_ifs', s_frz', frz_l, frz_d, frz_u, frz_n, s_lm', lm_l, lm_app, lm_appf, s_setIdx', set_l, set_n, s_aug', aug_i, augX_n, s_expr', s_brk', s_cont', s_pass', s_fset', rd_nx, rd_ct, rd_bk, rd_ret, w_bodyD, bind1, bind2, i_r1', i_r2', i_seq, seq_l, seq_t, seq_n, seq_f, seq_b, w_rng1, w_comp, w_compF, w_bodyM, w_bodyF, List.getElem?_cons_zero, List.getElem?_cons_succ, List.set_cons_zero, List.set_cons_succ, List.length_cons, List.length_nil, List.length_map, List.length_range, Nat.zero_add, cap_eq, Nat.reduceAdd, Nat.reduceLeDiff, true_and, and_true, decide_eq_true_eq, decide_eq_false_iff_not, Bool.not_eq_true', Bool.not_eq_false', List.map_cons, List.map_nil, List.replicate_succ, List.replicate_zero, Nat.reduceSub, p_abs', Out.ret.injEq, RV.v.injEq, D.int.injEq, Int.natCast_inj, Out.nx.injEq, List.cons_append, List.nil_append, Option.some.injEq, exists_eq_left', reduceCtorEq, false_implies, true_implies, List.any_cons, List.any_nil])
def cellV (ns : List Int) (k : Nat) : Nat := match ns[k]? with
  | some z => z.natAbs
  | none => 0
theorem sp_cell {Tx : Text} (h : Tx.fn 8 = some fd8) (n : Nat) (ns : List Int) (k : Nat) : (rt Tx (n + 1)).call 8 [.scr ns, .int k] = .ok (.v (.int (cellV ns k))) := by
  refine call_of h rfl (by decide) ?_
  unfold fd8 cellV
  walk_at "ev"
  refine ⟨fun h => ⟨_, List.getElem?_eq_getElem h, by rw [List.getElem?_eq_getElem h]⟩, fun h => by rw [List.getElem?_eq_none (by omega)]⟩
/-! ### the numbers of a cell -/
abbrev iD : Nat → D := fun n => .int (n : Int)
theorem Ok.ex {α : Type} {r : Res Out} {f : α → Out} {P : α → Prop} (h : Ok r (fun o => ∃ a, P a ∧ o = f a) NoE) : ∃ a, P a ∧ Ok r (fun o => o = f a) NoE := by
  cases h with
  | exc c fs e q => exact q.elim
  | ok o e q => obtain ⟨l, h1, h2⟩ := q; exact ⟨l, h1, .ok o e h2⟩
theorem sp_numbers {Tx : Text} (h : Tx.fn 0 = some fd0) (n c k : Nat) (hk : k ≤ 1000) : ∃ l : List Nat, l.length = k ∧ (rt Tx (n + 1)).call 0 [.int c, .int k] = .ok (.f (l.map iD)) := by
  have loop : ∀ rest : Nat, Ok (execS Tx.sub (rt Tx n) (.forS [4] (.r1 (.var 1)) lb0) [.d (.int c), .d (.int k), .d (.int rest), .l [], .u, .u]) (Nx Tx.sub (rt Tx n) (.cons (.ret (.var 3)) .nil) (fun o => ∃ l : List Nat, l.length = k ∧ o = .ret (.f (l.map iD))) NoE) NoE := by
    intro rest
    refine ok_forN (n := k) (fun i σ => ∃ (l : List Nat) (rest : Nat) (s4 s5 : Sl), l.length = i ∧ σ = [.d (.int c), .d (.int k), .d (.int rest), .l (l.map iD), s4, s5]) ?_ ?_ ?_ ?_
    · walk_at "ev"
      rw [r1_n (by omega)]
    · exact ⟨[], rest, .u, .u, rfl, rfl⟩
    · rintro i σ hi ⟨l, rest, s4, s5, hl, rfl⟩
      unfold lb0
      walk_at "ev"
      have hc : l.length < 1000000 := by omega
      refine ⟨fun hr => ⟨by omega, hc, ⟨by omega, by omega⟩, l ++ [rest % 1000], _, _, _, by simp [hl], by rw [List.map_append]; rfl⟩, fun hr => ⟨mulN (by omega), mulN (by omega), by omega, mulN (by omega), mulN (by omega), by omega, mulN (by omega), by omega, ⟨by omega, by omega⟩, hc, l ++ [_], rest, _, _, by simp [hl], by rw [List.map_append]; rfl⟩⟩
    · rintro σ ⟨l, rest, s4, s5, hl, rfl⟩
      walk_at "ev"
      exact ⟨l, hl, rfl⟩
  have : Ok (execB Tx.sub (rt Tx n) fd0.body [.d (.int c), .d (.int k), .u, .u, .u, .u]) (fun o => ∃ l : List Nat, l.length = k ∧ o = .ret (.f (l.map iD))) NoE := by
    unfold fd0
    walk_at "ev"
    refine ⟨fun hc => ?_, fun _ => loop 0⟩
    rw [b_subN hc]
    walk_at "ev"
    exact loop _
  obtain ⟨l, h1, h2⟩ := this.ex
  exact ⟨l, h1, call_of h rfl (by decide) h2⟩
end DW


set_option Elab.async false
set_option linter.all false
set_option maxRecDepth 100000
set_option maxHeartbeats 4000000
namespace DW
open PySem PySem.Spec Ev
/-! ## ints, rows, tables as values -/
abbrev nL (l : List Nat) : List D := l.map iD
abbrev tb (t : List (List Nat)) : List D := t.map fun r => .lst (nL r)
theorem toPs_map {γ : Type} (f : γ → D) : ∀ l : List γ, toPs (l.map f) = l.map fun x => toP (f x)
  | [] => rfl
  | x :: l => by rw [List.map_cons, List.map_cons]; show toP (f x) :: toPs _ = _; rw [toPs_map f l]
theorem canAll {l : List PyData} (h : ∀ x ∈ l, PyData.canLay0 x = true) : PyData.canLayAll0 l = true := by
  induction l with
  | nil => simp [PyData.canLayAll0]
  | cons x l ih => simp only [PyData.canLayAll0, h x List.mem_cons_self, ih fun y hy => h y (List.mem_cons_of_mem _ hy), Bool.and_self]
theorem depAll {l : List PyData} {n : Nat} (h : ∀ x ∈ l, PyData.depth x ≤ n) : PyData.depthAll l ≤ n := by
  induction l with
  | nil => simp [PyData.depthAll]
  | cons x l ih =>
    simp only [PyData.depthAll]
    exact Nat.max_le.mpr ⟨h x List.mem_cons_self, ih fun y hy => h y (List.mem_cons_of_mem _ hy)⟩
/-- a value with the depth at most n, that may be compared -/
def Pl (n : Nat) (d : D) : Prop := PyData.canLay0 (toP d) = true ∧ PyData.depth (toP d) ≤ n
theorem pl_int (i : Int) : Pl 1 (.int i) := ⟨rfl, by simp [toP, PyData.depth]⟩
theorem pl_bl (i : Bool) : Pl 1 (.bl i) := ⟨rfl, by simp [toP, PyData.depth]⟩
theorem pl_lst {n : Nat} {xs : List D} (h : ∀ x ∈ xs, Pl n x) : Pl (n + 1) (.lst xs) := by
  have e : toP (.lst xs) = .list (xs.map toP) := by
    show PyData.list (toPs xs) = _
    have := toPs_map id xs
    rw [List.map_id] at this; rw [this]; rfl
  unfold Pl; rw [e]
  refine ⟨?_, ?_⟩
  · simp only [PyData.canLay0]
    exact canAll fun x hx => by obtain ⟨d, hd, rfl⟩ := List.mem_map.mp hx; exact (h d hd).1
  · simp only [PyData.depth]
    have : PyData.depthAll (xs.map toP) ≤ n := depAll fun x hx => by obtain ⟨d, hd, rfl⟩ := List.mem_map.mp hx; exact (h d hd).2
    omega
theorem pl_tup {n : Nat} {xs : List D} (h : ∀ x ∈ xs, Pl n x) : Pl (n + 1) (.tup xs) := by
  have e : toP (.tup xs) = .tuple (xs.map toP) := by
    show PyData.tuple (toPs xs) = _
    have := toPs_map id xs
    rw [List.map_id] at this; rw [this]; rfl
  unfold Pl; rw [e]
  refine ⟨?_, ?_⟩
  · simp only [PyData.canLay0]
    exact canAll fun x hx => by obtain ⟨d, hd, rfl⟩ := List.mem_map.mp hx; exact (h d hd).1
  · simp only [PyData.depth]
    have : PyData.depthAll (xs.map toP) ≤ n := depAll fun x hx => by obtain ⟨d, hd, rfl⟩ := List.mem_map.mp hx; exact (h d hd).2
    omega
theorem Pl.shaped {n : Nat} {d : D} (h : Pl n d) (hn : n ≤ 64) : SeqAt.shaped (toP d) = true := by
  unfold SeqAt.shaped
  rw [h.1, decide_eq_true (Nat.le_trans h.2 hn)]; rfl
theorem deq_pl {m n : Nat} {d e : D} (h : Pl n d) (h' : Pl m e) (hn : n ≤ 64) (hm : m ≤ 64) : deq d e = some (PyData.eqv (toP d) (toP e)) := by
  unfold deq; rw [h.shaped hn, h'.shaped hm]; rfl
/-- an embedding by whose values things are told apart -/
structure Emb {γ : Type} [DecidableEq γ] (f : γ → D) : Prop where
  pl : ∀ x, Pl 8 (f x)
  eqv : ∀ x y, PyData.eqv (toP (f x)) (toP (f y)) = decide (x = y)
theorem Pl.up {m n : Nat} {d : D} (h : Pl m d) (hn : m ≤ n) : Pl n d := ⟨h.1, Nat.le_trans h.2 hn⟩
theorem eqvAll_map {γ : Type} [DecidableEq γ] {f : γ → D} (h : ∀ x y, PyData.eqv (toP (f x)) (toP (f y)) = decide (x = y)) : ∀ l l' : List γ, PyData.eqvAll (toPs (l.map f)) (toPs (l'.map f)) = decide (l = l')
  | [], [] => by simp [toPs, PyData.eqvAll]
  | [], y :: l' => by simp [toPs, PyData.eqvAll]
  | x :: l, [] => by simp [toPs, PyData.eqvAll]
  | x :: l, y :: l' => by
    rw [List.map_cons, List.map_cons]
    show PyData.eqvAll (toP _ :: toPs _) (toP _ :: toPs _) = _
    rw [PyData.eqvAll, h, eqvAll_map h l l']
    by_cases e : x = y
    · subst e; by_cases e2 : l = l'
      · subst e2; simp
      · simp [e2]
    · simp [e]
theorem eqv_iD (x y : Nat) : PyData.eqv (toP (iD x)) (toP (iD y)) = decide (x = y) := by
  show PyData.eqv (.int (x : Int)) (.int (y : Int)) = _
  rw [PyData.eqv]
  by_cases e : x = y
  · subst e; simp
  · have : (x : Int) ≠ y := by omega
    simp [e, this]
theorem eqv_nL (l l' : List Nat) : PyData.eqv (toP (.lst (nL l))) (toP (.lst (nL l'))) = decide (l = l') := by
  show PyData.eqv (.list (toPs _)) (.list (toPs _)) = _
  rw [PyData.eqv]; exact eqvAll_map eqv_iD l l'
theorem eqv_tL (l l' : List Nat) : PyData.eqv (toP (.tup (nL l))) (toP (.tup (nL l'))) = decide (l = l') := by
  show PyData.eqv (.tuple (toPs _)) (.tuple (toPs _)) = _
  rw [PyData.eqv]; exact eqvAll_map eqv_iD l l'
theorem pl_nL (l : List Nat) : Pl 2 (.lst (nL l)) := pl_lst fun x hx => by obtain ⟨d, _, rfl⟩ := List.mem_map.mp hx; exact pl_int _
theorem pl_tL (l : List Nat) : Pl 2 (.tup (nL l)) := pl_tup fun x hx => by obtain ⟨d, _, rfl⟩ := List.mem_map.mp hx; exact pl_int _
theorem deq_nL (l l' : List Nat) : deq (.lst (nL l)) (.lst (nL l')) = some (decide (l = l')) := by rw [deq_pl (pl_nL l) (pl_nL l') (by omega) (by omega), eqv_nL]
theorem deq_tL (l l' : List Nat) : deq (.tup (nL l)) (.tup (nL l')) = some (decide (l = l')) := by rw [deq_pl (pl_tL l) (pl_tL l') (by omega) (by omega), eqv_tL]
section
variable {R : Rt} {σ : List Sl} {Q : RV → Prop} {E : Nat → List D → Prop}
theorem c_ne_l {x y : RV} {l l' : List Nat} (hx : x.asD = some (.lst (nL l))) (hy : y.asD = some (.lst (nL l'))) (ix : asInt x = none) : Ok (cmpD .ne x y) Q E ↔ Q (.v (.bl (!decide (l = l')))) := by
  unfold cmpD; rw [ix]
  show Ok (ofB ((deq2 x y).map (!·))) Q E ↔ _
  unfold deq2; rw [hx, hy]; dsimp only; rw [deq_nL]; exact ok_ok _
theorem c_eq_l {x y : RV} {l l' : List Nat} (hx : x.asD = some (.lst (nL l))) (hy : y.asD = some (.lst (nL l'))) (ix : asInt x = none) : Ok (cmpD .eq x y) Q E ↔ Q (.v (.bl (decide (l = l')))) := by
  unfold cmpD; rw [ix]
  show Ok (ofB (deq2 x y)) Q E ↔ _
  unfold deq2; rw [hx, hy]; dsimp only; rw [deq_nL]; exact ok_ok _
theorem c_eq_t (l l' : List Nat) : Ok (cmpD .eq (.v (.tup (nL l))) (.v (.tup (nL l')))) Q E ↔ Q (.v (.bl (decide (l = l')))) := by
  show Ok (ofB (deq _ _)) Q E ↔ _
  rw [deq_tL]; exact ok_ok _
theorem c_ne_ff (l l' : List Nat) : Ok (cmpD .ne (.f (nL l)) (.f (nL l'))) Q E ↔ Q (.v (.bl (!decide (l = l')))) := c_ne_l rfl rfl rfl
theorem c_ne_vf (l l' : List Nat) : Ok (cmpD .ne (.v (.lst (nL l))) (.f (nL l'))) Q E ↔ Q (.v (.bl (!decide (l = l')))) := c_ne_l rfl rfl rfl
theorem c_ne_fv (l l' : List Nat) : Ok (cmpD .ne (.f (nL l)) (.v (.lst (nL l')))) Q E ↔ Q (.v (.bl (!decide (l = l')))) := c_ne_l rfl rfl rfl
theorem c_eq_vf (l l' : List Nat) : Ok (cmpD .eq (.v (.lst (nL l))) (.f (nL l'))) Q E ↔ Q (.v (.bl (decide (l = l')))) := c_eq_l rfl rfl rfl
theorem c_eq_vv (l l' : List Nat) : Ok (cmpD .eq (.v (.lst (nL l))) (.v (.lst (nL l')))) Q E ↔ Q (.v (.bl (decide (l = l')))) := c_eq_l rfl rfl rfl
/-! lists put together -/
theorem b_addL {x y : RV} {xs ys : List D} (hx : x.asLst = some xs) (hy : y.asLst = some ys) (ix : asInt x = none) (iy : asInt y = none) : Ok (binD .add x y) Q E ↔ xs.length + ys.length ≤ cap ∧ Q (.f (xs ++ ys)) := by
  unfold binD; rw [ix, iy]; dsimp only; rw [hx, hy]; exact ok_if _
theorem b_add_vv (xs ys : List D) : Ok (binD .add (.v (.lst xs)) (.v (.lst ys))) Q E ↔ xs.length + ys.length ≤ cap ∧ Q (.f (xs ++ ys)) := b_addL rfl rfl rfl rfl
theorem b_add_vf (xs ys : List D) : Ok (binD .add (.v (.lst xs)) (.f ys)) Q E ↔ xs.length + ys.length ≤ cap ∧ Q (.f (xs ++ ys)) := b_addL rfl rfl rfl rfl
theorem b_add_ff (xs ys : List D) : Ok (binD .add (.f xs) (.f ys)) Q E ↔ xs.length + ys.length ≤ cap ∧ Q (.f (xs ++ ys)) := b_addL rfl rfl rfl rfl
theorem b_add_fv (xs ys : List D) : Ok (binD .add (.f xs) (.v (.lst ys))) Q E ↔ xs.length + ys.length ≤ cap ∧ Q (.f (xs ++ ys)) := b_addL rfl rfl rfl rfl
theorem b_add_tt (xs ys : List D) : Ok (binD .add (.v (.tup xs)) (.v (.tup ys))) Q E ↔ xs.length + ys.length ≤ cap ∧ Q (.v (.tup (xs ++ ys))) := ok_if _
/-- [x] * n -/
theorem b_rep (d : D) {n : Nat} (h : n ≤ 1000000) : Ok (binD .mul (.f [d]) (.v (.int (n : Int)))) Q E ↔ Q (.f (List.replicate n d)) := by
  have e : binD .mul (.f [d]) (.v (.int (n : Int))) = if ([d] : List D).length * (n : Int).toNat ≤ cap ∧ -(2 ^ 63) ≤ (n : Int) ∧ (n : Int) < 2 ^ 63 then .ok (.f (List.replicate (n : Int).toNat [d]).flatten) else .stuck := rfl
  have h63 : (2 : Int) ^ 63 = 9223372036854775808 := by simp
  rw [e, ok_if, h63, cap_eq]
  have e2 : (List.replicate (n : Int).toNat [d]).flatten = List.replicate n d := by
    rw [Int.toNat_natCast]
    clear e h
    induction n with
    | zero => rfl
    | succ n ih => rw [List.replicate_succ, List.replicate_succ, List.flatten_cons, ih]; rfl
  rw [e2]
  exact ⟨fun q => q.2, fun q => ⟨⟨by simp; omega, by omega, by omega⟩, q⟩⟩
/-! dicts by tuples -/
theorem ints_nL : ∀ l : List Nat, intsOf (nL l) = some (l.map fun k : Nat => (k : Int))
  | [] => rfl
  | x :: l => by
    rw [nL, List.map_cons]
    show (intsOf (nL l)).map _ = _
    rw [ints_nL l]; rfl
theorem keyT_nL (l : List Nat) : keyT (.v (.tup (nL l))) = some (l.map fun k : Nat => (k : Int)) := ints_nL l
theorem w_dnewT : Ok (evalE R .dnewT σ) Q E ↔ Q (.t []) := ok_ok _
theorem w_dispT (k v : Ex) : Ok (evalE R (.dispT k v) σ) Q E ↔ Ok (evalE R k σ) (fun x => Ok (evalE R v σ) (fun y => Ok (dispD (keyT x) y) Q E) E) E := by
  show Ok (Res.bind _ fun x => Res.bind _ fun y => _) Q E ↔ _
  simp only [ok_bind]
theorem disp_bl (ns : List Int) (b : Bool) : Ok (dispD (some ns) (.v (.bl b))) Q E ↔ Q (.t [(ns, .bl b)]) := ok_ok _
def dinD (neg : Bool) (s : Option Sl) (x : RV) : Res RV := match s with
    | some (.t kvs) => match keyT x with
      | some ns => .ok (.v (.bl (xor neg (lookT ns kvs).isSome)))
      | none => .stuck
    | some (.k kvs) => match keyK x with
      | some ns => .ok (.v (.bl (xor neg (lookK ns kvs).isSome)))
      | none => .stuck
    | _ => .stuck
theorem w_din (i : Nat) (neg : Bool) (k : Ex) : Ok (evalE R (.din i neg k) σ) Q E ↔ Ok (evalE R k σ) (fun x => Ok (dinD neg σ[i]? x) Q E) E := by
  have e : evalE R (.din i neg k) σ = (evalE R k σ).bind fun x => dinD neg σ[i]? x := by
    show Res.bind _ _ = _
    refine congrArg (Res.bind _) (funext fun x => ?_)
    unfold dinD
    cases σ[i]? with
    | none => rfl
    | some s => cases s <;> rfl
  rw [e, ok_bind]
theorem din_t (neg : Bool) (kvs : List (List Int × D)) (l : List Nat) : Ok (dinD neg (some (.t kvs)) (.v (.tup (nL l)))) Q E ↔ Q (.v (.bl (xor neg (lookT (l.map fun k : Nat => (k : Int)) kvs).isSome))) := by
  unfold dinD; dsimp only; rw [keyT_nL]; exact ok_ok _
def dgetD (s : Option Sl) (r : Res RV) : Res RV := match s with
    | some (.t kvs) => r.bind fun x => match keyT x with
      | some ns => ofOpt ((lookT ns kvs).map .v)
      | none => .stuck
    | some (.k kvs) => r.bind fun x => match keyK x with
      | some ns => ofOpt ((lookK ns kvs).map .v)
      | none => .stuck
    | _ => .stuck
theorem w_dget (i : Nat) (k : Ex) : Ok (evalE R (.dget i k) σ) Q E ↔ Ok (dgetD σ[i]? (evalE R k σ)) Q E := by
  have e : evalE R (.dget i k) σ = dgetD σ[i]? (evalE R k σ) := by
    show (match σ[i]? with | some (.t kvs) => _ | some (.k kvs) => _ | _ => _) = _
    unfold dgetD
    cases σ[i]? with
    | none => rfl
    | some s => cases s <;> rfl
  rw [e]
def getTD (kvs : List (List Int × D)) (x : RV) : Res RV := match keyT x with
      | some ns => ofOpt ((lookT ns kvs).map .v)
      | none => .stuck
theorem dget_t (kvs : List (List Int × D)) (r : Res RV) : Ok (dgetD (some (.t kvs)) r) Q E ↔ Ok r (fun x => Ok (getTD kvs x) Q E) E := ok_bind _ _
theorem getT_nL (kvs : List (List Int × D)) (l : List Nat) : Ok (getTD kvs (.v (.tup (nL l)))) Q E ↔ ∃ d, lookT (l.map fun k : Nat => (k : Int)) kvs = some d ∧ Q (.v d) := by
  unfold getTD; rw [keyT_nL]; dsimp only; rw [ok_ofOpt]
  cases lookT (l.map fun k : Nat => (k : Int)) kvs with
  | none => exact ⟨fun ⟨a, e, q⟩ => (by cases e), fun ⟨d, e, q⟩ => (by cases e)⟩
  | some z => exact ⟨fun ⟨a, e, q⟩ => ⟨_, rfl, (by cases e; exact q)⟩, fun ⟨d, e, q⟩ => ⟨_, rfl, (by cases e; exact q)⟩⟩
end
section
variable {sub : Nat → List Nat → Option Bool} {R : Rt} {σ : List Sl} {Q : Out → Prop} {E : Nat → List D → Prop}
def dputR (i : Nat) (x : RV) (s : Option Sl) (r : Res RV) (σ : List Sl) : Res Out := match s with
    | some (.t kvs) => lift r σ fun y => putTD σ i kvs x y
    | some (.k kvs) => lift r σ fun y => putKD σ i kvs x y
    | _ => .stuck
theorem s_dput' (i : Nat) (k e : Ex) : Ok (execS sub R (.dput i k e) σ) Q E ↔ Ok (evalE R e σ) (fun x => Ok (dputR i x σ[i]? (evalE R k σ) σ) Q E) (fun c fs => Q (.ex c fs σ)) := by
  have e : ∀ x, (match σ[i]? with
    | some (.t kvs) => lift (evalE R k σ) σ fun y => putTD σ i kvs x y
    | some (.k kvs) => lift (evalE R k σ) σ fun y => putKD σ i kvs x y
    | _ => .stuck) = dputR i x σ[i]? (evalE R k σ) σ := fun x => by
    unfold dputR
    cases σ[i]? with
    | none => rfl
    | some s => cases s <;> rfl
  refine (ok_lift _ _ _).trans ?_
  exact iff_of_eq (congrArg (fun z => Ok _ z _) (funext fun x => congrArg (fun r => Ok r Q E) (e x)))
theorem dput_t (i : Nat) (x : RV) (kvs : List (List Int × D)) (r : Res RV) : Ok (dputR i x (some (.t kvs)) r σ) Q E ↔ Ok r (fun y => Ok (putTD σ i kvs x y) Q E) (fun c fs => Q (.ex c fs σ)) := ok_lift _ _ _
theorem put_nL (i : Nat) (d : D) (kvs : List (List Int × D)) (l : List Nat) : Ok (putTD σ i kvs (.v d) (.v (.tup (nL l)))) Q E ↔ kvs.length < cap ∧ Q (.nx (σ.set i (.t (putT (l.map fun k : Nat => (k : Int)) d kvs)))) := by
  unfold putTD; rw [keyT_nL]; exact ok_if _
end
theorem wipe_nil (σ : List Sl) : wipeD σ [] = σ := rfl
theorem wipe_cons (σ : List Sl) (v : Nat) (vs : List Nat) : wipeD σ (v :: vs) = (wipeD σ vs).set v .u := rfl
def bareS (s : Option Sl) : Bool := match s with | some sl => !sl.own | none => true
theorem bare_nil (σ : List Sl) : bareD σ [] = true := rfl
theorem bare_cons (σ : List Sl) (v : Nat) (vs : List Nat) : bareD σ (v :: vs) = (bareS σ[v]? && bareD σ vs) := rfl
theorem bareS_u : bareS (some .u) = true := rfl
theorem bareS_d (d : D) : bareS (some (.d d)) = true := rfl
theorem asV_v (d : D) : RV.asV (.v d) = some d := rfl
theorem asV_f (d : List D) : RV.asV (.f d) = some (.lst d) := rfl
theorem nL_get {l : List Nat} {x : Nat} (h : x < l.length) : (nL l)[x]? = some (iD (l.getD x 0)) := by
  rw [List.getElem?_map, List.getElem?_eq_getElem h]
  simp [List.getD, List.getElem?_eq_getElem h]
theorem map_get {γ : Type} (f : γ → D) (l : List γ) (k : Nat) (P : D → Prop) : (∃ d, (l.map f)[k]? = some d ∧ P d) ↔ ∃ x, l[k]? = some x ∧ P (f x) := by
  rw [List.getElem?_map]
  cases l[k]? with
  | none => exact ⟨fun ⟨a, e, q⟩ => (by cases e), fun ⟨d, e, q⟩ => (by cases e)⟩
  | some z => exact ⟨fun ⟨a, e, q⟩ => ⟨_, rfl, (by cases e; exact q)⟩, fun ⟨d, e, q⟩ => ⟨_, rfl, (by cases e; exact q)⟩⟩
theorem map_last {γ : Type} (f : γ → D) (l : List γ) (P : D → Prop) : (∃ d, (l.map f).getLast? = some d ∧ P d) ↔ ∃ x, l.getLast? = some x ∧ P (f x) := by
  rw [List.getLast?_map]
  cases l.getLast? with
  | none => exact ⟨fun ⟨a, e, q⟩ => (by cases e), fun ⟨d, e, q⟩ => (by cases e)⟩
  | some z => exact ⟨fun ⟨a, e, q⟩ => ⟨_, rfl, (by cases e; exact q)⟩, fun ⟨d, e, q⟩ => ⟨_, rfl, (by cases e; exact q)⟩⟩
theorem range_get (n k : Nat) (P : Nat → Prop) : (∃ x, (List.range n)[k]? = some x ∧ P x) ↔ k < n ∧ P k := by
  by_cases h : k < n
  · rw [List.getElem?_eq_getElem (by simpa using h), List.getElem_range]
    exact ⟨fun ⟨a, e, q⟩ => ⟨h, (by cases e; exact q)⟩, fun q => ⟨_, rfl, q.2⟩⟩
  · rw [List.getElem?_eq_none (by simpa using h)]
    exact ⟨fun ⟨a, e, q⟩ => (by cases e), fun q => (h q.1).elim⟩
theorem cast_inj {l l' : List Nat} : (l.map fun k : Nat => (k : Int)) = (l'.map fun k : Nat => (k : Int)) ↔ l = l' := by
  refine ⟨fun h => ?_, fun h => by rw [h]⟩
  have := congrArg (List.map Int.toNat) h
  simp only [List.map_map] at this
  have e : (Int.toNat ∘ fun k : Nat => (k : Int)) = id := by funext k; simp
  rw [e, List.map_id, List.map_id] at this
  exact this
end DW


set_option Elab.async false
set_option linter.all false
set_option maxRecDepth 100000
set_option maxHeartbeats 4000000
namespace DW
open PySem PySem.Spec Ev
local macro_rules | `(tactic| walk_at "ev") => `(tactic| try simp only [wipe_nil, wipe_cons, bare_nil, bare_cons, bareS_u, bareS_d, Bool.and_self, asV_v, asV_f, map_get, map_last, range_get, c_ne_ff, c_ne_vf, c_ne_fv, c_eq_vf, c_eq_vv, c_eq_t, b_add_vv, b_add_vf, b_add_ff, b_add_fv, b_add_tt, w_dnewT, w_dispT, keyT_nL, disp_bl, w_din, din_t, w_dget, dget_t, getT_nL, s_dput', dput_t, put_nL, w_var, v_d, v_l, v_o, w_con, w_int0, w_int1, w_int, w_bl, w_str, w_non, w_bin, w_neg, w_not, w_and, w_or, w_ite, w_eq, w_ne, w_lt, w_le, w_gt, w_ge, w_inn, w_ni, w_isn, w_notn, w_chain, w_tup, w_lst, w_idx, w_slice, w_fld, w_call, w_make, w_meth, w_p1, w_p2, w_sm, w_isi, w_nil, w_cons, w_no, w_some, opt_int, if_t, if_f, if_bl, not_bl, neg_int, b_add, b_mul, pow_18, b_mod, b_fdiv, c_lt', c_le', c_gt', c_ge', c_eq', c_ne', p_len_l, p_len_t, p_len_n, p_len_f, p_len_b, p_len_s, p_int', p_list_l, p_list_t, p_list_n, p_list_f, p_list_b, p_tup_l, p_tup_t, p_tup_n, p_tup_f, p_tup_b, p_tpn_l, p_tpn_f, p_tpn_b, p_min', p_max', ok_ofB, ix_l, ix_t, ix_n, ix_f, ix_b, ix_scr, ixm_l, ixm_b, ixm_t, tup_some, lst_some, fld_ins, fld_o, call_some, call_lent, make_some, make_lent, av_nil, av_cv, av_cf, ad_nil, ad_cv, ad_cf, ad_cb, any_nil, any_cv, any_cf, any_cb, Option.map_some, ok_ok, ok_ofOpt, nx_nx, nx_ret, nx_bk, nx_ct, x_nil', x_cons', s_set', st_v', st_f', st_t', st_k', s_ret', bk_v', bk_f', bk_b', s_retN', s_ifs', s_frz', frz_l, frz_d, frz_u, frz_n, s_lm', lm_l, lm_app, lm_appf, s_setIdx', set_l, set_n, s_aug', aug_i, augX_n, s_expr', s_brk', s_cont', s_pass', s_fset', rd_nx, rd_ct, rd_bk, rd_ret, w_bodyD, bind1, bind2, i_r1', i_r2', i_seq, seq_l, seq_t, seq_n, seq_f, seq_b, w_rng1, w_comp, w_compF, w_bodyM, w_bodyF, List.getElem?_cons_zero, List.getElem?_cons_succ, List.set_cons_zero, List.set_cons_succ, List.length_cons, List.length_nil, List.length_map, List.length_range, Nat.zero_add, cap_eq, Nat.reduceAdd, Nat.reduceLeDiff, true_and, and_true, decide_eq_true_eq, decide_eq_false_iff_not, Bool.not_eq_true', Bool.not_eq_false', List.map_cons, List.map_nil, List.replicate_succ, List.replicate_zero, Nat.reduceSub, p_abs', Out.ret.injEq, RV.v.injEq, D.int.injEq, Int.natCast_inj, Out.nx.injEq, List.cons_append, List.nil_append, Option.some.injEq, exists_eq_left', reduceCtorEq, false_implies, true_implies, List.any_cons, List.any_nil])
def menuN : List (List (List Nat)) := [
  [[0]],
  [[1, 0]],
  [[1, 2, 0]],
  [[1, 2, 3, 0]],
  [[1, 0, 2, 3], [0, 1, 3, 2]],
  [[1, 2, 3, 4, 0]],
  [[1, 2, 0], [1, 0, 2]],
  [[1, 2, 0, 3, 4], [0, 1, 2, 4, 3]],
  [[1, 2, 3, 0], [0, 3, 2, 1]],
  [[2, 3, 1, 0, 7, 6, 4, 5], [4, 5, 6, 7, 1, 0, 3, 2]],
  [[1, 2, 3, 0, 4, 5], [0, 1, 2, 3, 5, 4]],
  [[1, 0, 2, 3, 4, 5], [0, 1, 3, 2, 4, 5], [0, 1, 2, 3, 5, 4]],
  [[1, 2, 3, 4, 5, 6, 7, 0]],
  [[1, 2, 0, 3, 4, 5], [0, 1, 2, 4, 5, 3]],
  [[1, 2, 3, 4, 0], [0, 4, 3, 2, 1]],
  [[1, 2, 0, 3], [1, 0, 3, 2]],
  [[1, 2, 0, 3, 4, 5, 6], [0, 2, 1, 4, 5, 6, 3]],
  [[1, 2, 0, 3, 4], [1, 0, 2, 3, 4], [0, 1, 2, 4, 3]],
  [[1, 2, 3, 4, 5, 6, 7, 0], [0, 7, 6, 5, 4, 3, 2, 1]],
  [[1, 2, 3, 4, 0], [0, 2, 4, 1, 3]],
  [[1, 2, 3, 4, 5, 6, 0], [0, 2, 4, 6, 1, 3, 5]],
  [[1, 2, 3, 0], [1, 0, 2, 3]]]
theorem menu_len : menuN.length = 22 := rfl
theorem sp_gens {Tx : Text} (h : Tx.fn 3 = some fd3) (n c : Nat) : (rt Tx (n + 1)).call 3 [.int c] = .ok (.v (.lst (tb (menuN.getD (c % 22) [])))) := by
  refine call_of h rfl (by decide) ?_
  unfold fd3
  walk_at "ev"
  have hc : c % 22 < menuN.length := Nat.mod_lt _ (by omega)
  refine ⟨by omega, .lst (tb (menuN.getD (c % 22) [])), ?_, rfl⟩
  show (menuN.map fun g => D.lst (tb g))[c % 22]? = _
  rw [List.getElem?_map, List.getElem?_eq_getElem hc]
  simp [List.getD, List.getElem?_eq_getElem hc]
/-! ### moves -/
def comp (a b : List Nat) : List Nat := a.map fun x => b.getD x 0
def stepG (fk : List Nat) (fd : List (List Nat)) (g : List Nat) : List (List Nat) := if comp fk g ∈ fd then fd else fd ++ [comp fk g]
def stepK (gs : List (List Nat)) (fd : List (List Nat)) (k : Nat) : List (List Nat) := match fd[k]? with
  | some fk => gs.foldl (stepG fk) fd
  | none => fd
def closeN (gs : List (List Nat)) : List (List Nat) := (List.range 60).foldl (stepK gs) [List.range (gs.headD []).length]
/-- p signs, each below p -/
def Pm (p : Nat) (l : List Nat) : Prop := l.length = p ∧ ∀ x ∈ l, x < p
theorem Pm.comp {p : Nat} {a b : List Nat} (h : Pm p a) (h' : Pm p b) : Pm p (comp a b) := by
  refine ⟨by simp [DW.comp, h.1], fun x hx => ?_⟩
  obtain ⟨y, hy, rfl⟩ := List.mem_map.mp hx
  have : y < b.length := by rw [h'.1]; exact h.2 y hy
  rw [List.getD_eq_getElem?_getD, List.getElem?_eq_getElem this]
  exact h'.2 _ (List.getElem_mem this)
abbrev tupN (l : List Nat) : D := .tup (nL l)
abbrev keyN (l : List Nat) : List Int × D := (l.map fun k : Nat => (k : Int), .bl true)
theorem look_key (l : List Nat) : ∀ fd : List (List Nat), (lookT (l.map fun k : Nat => (k : Int)) (fd.map keyN)).isSome = decide (l ∈ fd)
  | [] => by simp [lookT]
  | x :: fd => by
    rw [List.map_cons]
    show (if (x.map fun k : Nat => (k : Int)) = (l.map fun k : Nat => (k : Int)) then _ else _ : Option D).isSome = _
    by_cases h : x = l
    · subst h; simp
    · rw [if_neg fun z => h (cast_inj.mp z), look_key l fd]
      have : ¬ l = x := fun z => h z.symm
      simp [this]
theorem put_key {l : List Nat} {fd : List (List Nat)} (h : l ∉ fd) : putT (l.map fun k : Nat => (k : Int)) (.bl true) (fd.map keyN) = (fd ++ [l]).map keyN := by
  unfold putT
  rw [if_neg]
  · simp
  · simp only [List.any_map, List.any_eq_true, Function.comp, decide_eq_true_eq, not_exists, not_and]
    intro x hx z
    rw [cast_inj] at z
    subst z; exact h hx
theorem cl_in {sub : Nat → List Nat → Option Bool} {R : Rt} {p k : Nat} {G one s5 s6 : Sl} {fd : List (List Nat)} {fk g : List Nat} {Q : Out → Prop} (hg : Pm p g) (hf : Pm p fk) (hk : fd[k]? = some fk) (hp : p ≤ 1000) (hl : fd.length < 1000000)
    (q : ∀ s6, Q (.nx [G, one, .l ((stepG fk fd g).map tupN), .t ((stepG fk fd g).map keyN), .d (.int k), .d (.lst (nL g)), s6, .u])) :
    Ok (bodyD sub R [5] lb2 (.lst (nL g)) [G, one, .l (fd.map tupN), .t (fd.map keyN), .d (.int k), s5, s6, .u]) Q NoE := by
  unfold lb2
  walk_at "ev"
  refine ⟨fk, hk, ?_⟩
  walk_at "ev"
  refine ⟨by rw [hf.1]; omega, ok_mapR (l := fk) (em := iD) (fun x => iD (g.getD x 0)) (fun x hx => ?_) ?_⟩
  · walk_at "ev"
    exact ⟨_, List.getElem?_eq_getElem (by rw [hg.1]; exact hf.2 x hx), by rw [List.getD_eq_getElem?_getD, List.getElem?_eq_getElem (by rw [hg.1]; exact hf.2 x hx)]; rfl⟩
  · have e : (fk.map fun x => iD (g.getD x 0)) = nL (comp fk g) := by unfold comp; rw [nL, List.map_map]; rfl
    rw [e]
    walk_at "ev"
    simp only [look_key, Bool.true_xor, Bool.not_eq_true', decide_eq_false_iff_not, Bool.not_eq_false', decide_eq_true_eq]
    refine ⟨fun h => ⟨hl, ?_⟩, fun h => ?_⟩
    · refine ⟨hl, ?_⟩
      have e1 : stepG fk fd g = fd ++ [comp fk g] := if_neg h
      have := q (.d (tupN (comp fk g)))
      rw [e1] at this
      rw [put_key h]
      rw [List.map_append] at this
      exact this
    · have e1 : stepG fk fd g = fd := if_pos h
      have := q (.d (tupN (comp fk g)))
      rw [e1] at this
      exact this
theorem stepG_len (fk : List Nat) (fd : List (List Nat)) (g : List Nat) : (stepG fk fd g).length ≤ fd.length + 1 := by
  unfold stepG; split <;> simp
theorem foldG_len (fk : List Nat) : ∀ (gs fd : List (List Nat)), (gs.foldl (stepG fk) fd).length ≤ fd.length + gs.length
  | [], fd => by simp
  | g :: gs, fd => by
    have := foldG_len fk gs (stepG fk fd g)
    have := stepG_len fk fd g
    simp only [List.foldl_cons, List.length_cons]; omega
theorem stepG_pre (fk : List Nat) (fd : List (List Nat)) (g : List Nat) : fd <+: stepG fk fd g := by
  unfold stepG; split
  · exact List.prefix_refl _
  · exact List.prefix_append _ _
theorem foldG_pre (fk : List Nat) : ∀ (gs fd : List (List Nat)), fd <+: gs.foldl (stepG fk) fd
  | [], fd => List.prefix_refl _
  | g :: gs, fd => (stepG_pre fk fd g).trans (foldG_pre fk gs _)
theorem pre_get {α : Type} {l l' : List α} (h : l <+: l') {k : Nat} {x : α} (e : l[k]? = some x) : l'[k]? = some x := by
  obtain ⟨t, rfl⟩ := h
  obtain ⟨h1, h2⟩ := List.getElem?_eq_some_iff.mp e
  rw [List.getElem?_append_left h1, e]
theorem foldG_pm {p : Nat} {fk : List Nat} (hf : Pm p fk) : ∀ {gs fd : List (List Nat)}, (∀ g ∈ gs, Pm p g) → (∀ g ∈ fd, Pm p g) → ∀ x ∈ gs.foldl (stepG fk) fd, Pm p x
  | [], fd, _, h => h
  | g :: gs, fd, hg, h => foldG_pm (gs := gs) (fd := stepG fk fd g) hf (fun x hx => hg x (List.mem_cons_of_mem _ hx)) (fun x hx => by
    unfold stepG at hx
    split at hx
    · exact h x hx
    · rcases List.mem_append.mp hx with hx | hx
      · exact h x hx
      · rw [List.mem_singleton.mp hx]; exact hf.comp (hg g List.mem_cons_self))
theorem stepK_pm {p k : Nat} {gs fd : List (List Nat)} (hg : ∀ g ∈ gs, Pm p g) (h : ∀ g ∈ fd, Pm p g) : ∀ x ∈ stepK gs fd k, Pm p x := by
  unfold stepK
  split
  · rename_i fk e
    exact foldG_pm (h fk (by obtain ⟨h1, h2⟩ := List.getElem?_eq_some_iff.mp e; rw [← h2]; exact List.getElem_mem h1)) hg h
  · exact h
theorem foldK_pm {p : Nat} {gs : List (List Nat)} (hg : ∀ g ∈ gs, Pm p g) : ∀ (l : List Nat) {fd : List (List Nat)}, (∀ g ∈ fd, Pm p g) → ∀ x ∈ l.foldl (stepK gs) fd, Pm p x
  | [], fd, h => h
  | k :: l, fd, h => foldK_pm hg l (stepK_pm hg h)
theorem stepK_len (gs fd : List (List Nat)) (k : Nat) : (stepK gs fd k).length ≤ fd.length + gs.length := by
  unfold stepK; split
  · exact foldG_len _ _ _
  · omega
theorem foldK_len (gs : List (List Nat)) : ∀ (l : List Nat) (fd : List (List Nat)), (l.foldl (stepK gs) fd).length ≤ fd.length + l.length * gs.length
  | [], fd => by simp
  | k :: l, fd => by
    have h1 := foldK_len gs l (stepK gs fd k)
    have h2 := stepK_len gs fd k
    simp only [List.foldl_cons, List.length_cons, Nat.succ_mul]; omega
theorem cl_out {sub : Nat → List Nat → Option Bool} {R : Rt} {p k : Nat} {one s4 s5 s6 : Sl} {gs fd : List (List Nat)} {Q : Out → Prop} (hg : ∀ g ∈ gs, Pm p g) (hf : ∀ g ∈ fd, Pm p g) (hp : p ≤ 1000) (hl : fd.length + gs.length < 1000000)
    (q : ∀ s4 s5 s6, Q (.nx [.d (.lst (tb gs)), one, .l ((stepK gs fd k).map tupN), .t ((stepK gs fd k).map keyN), s4, s5, s6, .u])) :
    Ok (bodyD sub R [4] lb3 (.int k) [.d (.lst (tb gs)), one, .l (fd.map tupN), .t (fd.map keyN), s4, s5, s6, .u]) Q NoE := by
  unfold lb3
  walk_at "ev"
  refine ⟨fun hk => ?_, fun hk => ?_⟩
  · have ek : fd[k]? = some fd[k] := List.getElem?_eq_getElem hk
    have eq : stepK gs fd k = gs.foldl (stepG fd[k]) fd := by unfold stepK; rw [ek]
    refine ok_forL (l := gs) (em := fun r => .lst (nL r)) (fun j σ => ∃ s5 s6, σ = [.d (.lst (tb gs)), one, .l (((gs.take j).foldl (stepG fd[k]) fd).map tupN), .t (((gs.take j).foldl (stepG fd[k]) fd).map keyN), .d (.int k), s5, s6, .u]) ?_ ?_ ?_ ?_
    · walk_at "ev"
    · exact ⟨_, _, rfl⟩
    · rintro j g σ hj ⟨s5, s6, rfl⟩
      have hm : g ∈ gs := by obtain ⟨h1, h2⟩ := List.getElem?_eq_some_iff.mp hj; rw [← h2]; exact List.getElem_mem h1
      have hl2 := foldG_len fd[k] (gs.take j) fd
      have hl3 : (gs.take j).length ≤ gs.length := by rw [List.length_take]; omega
      refine cl_in (p := p) (hg g hm) (hf _ (List.getElem_mem hk)) (pre_get (foldG_pre _ _ _) ek) hp (by omega) fun s6 => ?_
      walk_at "ev"
      have : (gs.take (j + 1)).foldl (stepG fd[k]) fd = stepG fd[k] ((gs.take j).foldl (stepG fd[k]) fd) g := by rw [List.take_succ, hj]; simp
      exact ⟨.d (.lst (nL g)), s6, by rw [this]⟩
    · rintro σ ⟨s5, s6, rfl⟩
      walk_at "ev"
      rw [List.take_length, ← eq]
      exact q _ _ _
  · have eq : stepK gs fd k = fd := by unfold stepK; rw [List.getElem?_eq_none (by omega)]
    have := q (.d (.int k)) s5 s6
    rw [eq] at this
    exact this
/-! sorted tuples of ints -/
def leN : List Nat → List Nat → Bool
  | [], _ => true
  | _ :: _, [] => false
  | x :: xs, y :: ys => if x = y then leN xs ys else decide (x < y)
def insN (x : List Nat) : List (List Nat) → List (List Nat)
  | [] => [x]
  | y :: ys => if leN x y then x :: y :: ys else y :: insN x ys
def sortN : List (List Nat) → List (List Nat)
  | [] => []
  | x :: xs => insN x (sortN xs)
abbrev cN (l : List Nat) : List Int := l.map fun k : Nat => (k : Int)
theorem leL_cN : ∀ x y : List Nat, leL (cN x) (cN y) = leN x y
  | [], _ => by simp [leL, leN]
  | _ :: _, [] => by simp [leL, leN]
  | x :: xs, y :: ys => by
    simp only [List.map_cons, leL, leN]
    rw [leL_cN xs ys]
    by_cases h : x = y
    · subst h; simp
    · have : ¬ (x : Int) = y := by omega
      rw [if_neg h, if_neg this]; simp
theorem insT_cN (x : List Nat) : ∀ l : List (List Nat), insT (cN x) (l.map cN) = (insN x l).map cN
  | [] => rfl
  | y :: l => by
    rw [List.map_cons, insT, insN, leL_cN, insT_cN x l]
    split <;> rfl
theorem sortT_cN : ∀ l : List (List Nat), sortT (l.map cN) = (sortN l).map cN
  | [] => rfl
  | x :: l => by rw [List.map_cons, sortT, sortT_cN l, insT_cN]; rfl
theorem tups_nL : ∀ l : List (List Nat), tupsOf (l.map tupN) = some (l.map cN)
  | [] => rfl
  | x :: l => by
    rw [List.map_cons]
    show (match intsOf (nL x), tupsOf (l.map tupN) with | some ns, some rs => some (ns :: rs) | _, _ => none) = _
    rw [ints_nL, tups_nL l]; rfl
theorem p_sorted_t {Q : RV → Prop} {E : Nat → List D → Prop} {x : RV} {l : List (List Nat)} (h : x.asL = some (l.map tupN)) (hne : l ≠ []) (ha : ∀ r ∈ l, r ≠ []) : Ok (p1 .sorted x) Q E ↔ Q (.f ((sortN l).map tupN)) := by
  have hi : intsOf (l.map tupN) = none := by
    cases l with
    | nil => exact (hne rfl).elim
    | cons y l => rfl
  have hal : alikeT (l.map cN) = true := by
    unfold alikeT
    rw [List.all_eq_true]
    intro r hr
    obtain ⟨y, hy, rfl⟩ := List.mem_map.mp hr
    cases y with
    | nil => exact (ha _ hy rfl).elim
    | cons a b => rfl
  unfold p1; dsimp only; rw [h]; dsimp only; rw [hi]; dsimp only; rw [tups_nL]; dsimp only
  rw [if_pos hal, ok_ok, sortT_cN]
  have e : (((sortN l).map cN).map fun r => D.tup (r.map .int)) = (sortN l).map tupN := by
    rw [List.map_map]
    exact List.map_congr_left fun r _ => by show D.tup ((cN r).map .int) = _; rw [List.map_map]; rfl
  rw [e]
theorem sp_close {Tx : Text} (h : Tx.fn 2 = some fd2) (n : Nat) {p : Nat} {gs : List (List Nat)} (hg : ∀ g ∈ gs, Pm p g) (hne : gs ≠ []) (h0 : 0 < p) (hp : p ≤ 1000) (hl : gs.length ≤ 1000) :
    (rt Tx (n + 1)).call 2 [.lst (tb gs)] = .ok (.f ((sortN (closeN gs)).map tupN)) := by
  have hp0 : (gs.headD []).length = p := by
    cases gs with
    | nil => exact (hne rfl).elim
    | cons g gs => exact (hg g List.mem_cons_self).1
  have hd : gs[0]? = some (gs.headD []) := by
    cases gs with
    | nil => exact (hne rfl).elim
    | cons g gs => rfl
  have pm1 : ∀ g ∈ [List.range p], Pm p g := fun g hh => by rw [List.mem_singleton.mp hh]; exact ⟨by simp, fun x hx => by simpa using hx⟩
  refine call_of h rfl (by decide) ?_
  unfold fd2
  walk_at "ev"
  refine ⟨gs.headD [], hd, ?_⟩
  rw [rng_n (by omega), hp0]
  have t1 : D.tup (rg p) = tupN (List.range p) := rfl
  simp only [if_true, t1]
  walk_at "ev"
  refine ok_forN (n := 60) (fun k σ => ∃ s4 s5 s6, σ = [.d (.lst (tb gs)), .d (tupN (List.range p)), .l (((List.range k).foldl (stepK gs) [List.range p]).map tupN), .t (((List.range k).foldl (stepK gs) [List.range p]).map keyN), s4, s5, s6, .u]) ?_ ?_ ?_ ?_
  · walk_at "ev"
    rw [r1_n (by omega)]
  · exact ⟨_, _, _, rfl⟩
  · rintro k σ hk ⟨s4, s5, s6, rfl⟩
    have := foldK_len gs (List.range k) [List.range p]
    have h2 : (List.range k).length * gs.length ≤ 60 * 1000 := Nat.mul_le_mul (by simp; omega) hl
    refine cl_out (p := p) hg (foldK_pm hg _ pm1) hp (by simp at this h2 ⊢; omega) fun s4 s5 s6 => ?_
    walk_at "ev"
    exact ⟨s4, s5, s6, by rw [List.range_succ, List.foldl_append]; rfl⟩
  · rintro σ ⟨s4, s5, s6, rfl⟩
    walk_at "ev"
    have e : (List.range 60).foldl (stepK gs) [List.range p] = closeN gs := by unfold closeN; rw [hp0]
    rw [e]
    have hpm : ∀ r ∈ closeN gs, Pm p r := by rw [← e]; exact foldK_pm hg _ pm1
    rw [p_sorted_t (l := closeN gs) rfl ?_ ?_]
    · walk_at "ev"
    · intro z
      have hpre : ∀ (l : List Nat) (fd : List (List Nat)), fd <+: l.foldl (stepK gs) fd := by
        intro l
        induction l with
        | nil => exact fun fd => List.prefix_refl _
        | cons k l ih =>
          intro fd
          refine List.IsPrefix.trans ?_ (ih _)
          unfold stepK
          split
          · exact foldG_pre _ _ _
          · exact List.prefix_refl _
      have := hpre (List.range 60) [List.range p]
      rw [e, z] at this
      simp at this
    · intro r hr z
      have := (hpm r hr).1
      rw [z] at this; simp at this; omega
end DW


set_option Elab.async false
set_option linter.all false
set_option maxRecDepth 100000
set_option maxHeartbeats 4000000
namespace DW
open PySem PySem.Spec Ev
/-! ## groups given by tables: plain Lean -/
structure Grp (n : Nat) (m : Nat → Nat → Nat) : Prop where
  pos : 0 < n
  lt : ∀ {a b}, a < n → b < n → m a b < n
  ol : ∀ {a}, a < n → m 0 a = a
  or : ∀ {a}, a < n → m a 0 = a
  as : ∀ {a b c}, a < n → b < n → c < n → m (m a b) c = m a (m b c)
  iv : ∀ {a}, a < n → ∃ b, b < n ∧ m a b = 0 ∧ m b a = 0
/-- the inverse: where the row has 0 first -/
def ivf (n : Nat) (m : Nat → Nat → Nat) (a : Nat) : Nat := ((List.range n).find? fun b => m a b == 0).getD 0
section
variable {n : Nat} {m : Nat → Nat → Nat}
theorem Grp.cancel_l (g : Grp n m) {a b c : Nat} (ha : a < n) (hb : b < n) (hc : c < n) (h : m a b = m a c) : b = c := by
  obtain ⟨i, hi, h1, h2⟩ := g.iv ha
  have : m i (m a b) = m i (m a c) := by rw [h]
  rw [← g.as hi ha hb, ← g.as hi ha hc, h2, g.ol hb, g.ol hc] at this
  exact this
theorem Grp.cancel_r (g : Grp n m) {a b c : Nat} (ha : a < n) (hb : b < n) (hc : c < n) (h : m b a = m c a) : b = c := by
  obtain ⟨i, hi, h1, h2⟩ := g.iv ha
  have : m (m b a) i = m (m c a) i := by rw [h]
  rw [g.as hb ha hi, g.as hc ha hi, h1, g.or hb, g.or hc] at this
  exact this
theorem Grp.ivf_spec (g : Grp n m) {a : Nat} (ha : a < n) : ivf n m a < n ∧ m a (ivf n m a) = 0 := by
  obtain ⟨i, hi, h1, h2⟩ := g.iv ha
  unfold ivf
  cases h : (List.range n).find? fun b => m a b == 0 with
  | none =>
    have := List.find?_eq_none.mp h i (by simpa using hi)
    simp [h1] at this
  | some j =>
    have h3 := List.find?_some h
    have h4 := List.mem_of_find?_eq_some h
    exact ⟨by simpa using h4, by simpa using h3⟩
theorem Grp.iv_lt (g : Grp n m) {a : Nat} (ha : a < n) : ivf n m a < n := (g.ivf_spec ha).1
theorem Grp.iv_r (g : Grp n m) {a : Nat} (ha : a < n) : m a (ivf n m a) = 0 := (g.ivf_spec ha).2
theorem Grp.iv_l (g : Grp n m) {a : Nat} (ha : a < n) : m (ivf n m a) a = 0 := by
  obtain ⟨i, hi, h1, h2⟩ := g.iv ha
  have := g.cancel_l ha (g.iv_lt ha) hi ((g.iv_r ha).trans h1.symm)
  rw [this]; exact h2
theorem Grp.iv_of (g : Grp n m) {a b : Nat} (ha : a < n) (hb : b < n) (h : m a b = 0) : ivf n m a = b := g.cancel_l ha (g.iv_lt ha) hb ((g.iv_r ha).trans h.symm)
theorem Grp.iv_of' (g : Grp n m) {a b : Nat} (ha : a < n) (hb : b < n) (h : m b a = 0) : ivf n m a = b := g.cancel_r ha (g.iv_lt ha) hb ((g.iv_l ha).trans h.symm)
theorem Grp.iv_iv (g : Grp n m) {a : Nat} (ha : a < n) : ivf n m (ivf n m a) = a := g.iv_of (g.iv_lt ha) ha (g.iv_l ha)
theorem Grp.iv_mul (g : Grp n m) {a b : Nat} (ha : a < n) (hb : b < n) : ivf n m (m a b) = m (ivf n m b) (ivf n m a) := by
  refine g.iv_of (g.lt ha hb) (g.lt (g.iv_lt hb) (g.iv_lt ha)) ?_
  rw [g.as ha hb (g.lt (g.iv_lt hb) (g.iv_lt ha)), ← g.as hb (g.iv_lt hb) (g.iv_lt ha), g.iv_r hb, g.ol (g.iv_lt ha), g.iv_r ha]
theorem Grp.iv_0 (g : Grp n m) : ivf n m 0 = 0 := g.iv_of g.pos g.pos (g.ol g.pos)
/-- a monoid with inverses from the left -/
theorem Grp.of_left (pos : 0 < n) (lt : ∀ {a b}, a < n → b < n → m a b < n) (ol : ∀ {a}, a < n → m 0 a = a) (or : ∀ {a}, a < n → m a 0 = a)
    (as : ∀ {a b c}, a < n → b < n → c < n → m (m a b) c = m a (m b c)) (iv : ∀ {a}, a < n → ∃ b, b < n ∧ m b a = 0) : Grp n m := by
  refine ⟨pos, lt, ol, or, as, fun {a} ha => ?_⟩
  obtain ⟨b, hb, h1⟩ := iv ha
  obtain ⟨c, hc, h2⟩ := iv hb
  have e : c = a := by
    have : m (m c b) a = m c (m b a) := as hc hb ha
    rw [h2, h1, ol ha, or hc] at this
    exact this.symm
  subst e
  exact ⟨b, hb, h2, h1⟩
/-- the members renumbered -/
theorem Grp.renum (g : Grp n m) {o p : Nat → Nat} (ho : ∀ a, a < n → o a < n) (hp : ∀ a, a < n → p a < n) (hpo : ∀ a, a < n → p (o a) = a) (hop : ∀ a, a < n → o (p a) = a) (h0 : o 0 = 0) : Grp n fun a b => p (m (o a) (o b)) := by
  have p0 : p 0 = 0 := by have := hpo 0 g.pos; rw [h0] at this; exact this
  refine ⟨g.pos, fun ha hb => hp _ (g.lt (ho _ ha) (ho _ hb)), fun ha => by rw [h0, g.ol (ho _ ha), hpo _ ha], fun ha => by rw [h0, g.or (ho _ ha), hpo _ ha], fun {a b c} ha hb hc => ?_, fun {a} ha => ?_⟩
  · rw [hop _ (g.lt (ho _ ha) (ho _ hb)), hop _ (g.lt (ho _ hb) (ho _ hc)), g.as (ho _ ha) (ho _ hb) (ho _ hc)]
  · obtain ⟨b, hb, h1, h2⟩ := g.iv (ho _ ha)
    exact ⟨p b, hp _ hb, by rw [hop _ hb, h1, p0], by rw [hop _ hb, h2, p0]⟩
end
/-! ### lists without doubles -/
theorem pigeon {α : Type} [DecidableEq α] : ∀ {l1 l2 : List α}, l1.Nodup → (∀ x ∈ l1, x ∈ l2) → l2.length ≤ l1.length → ∀ x ∈ l2, x ∈ l1
  | [], l2, _, _, h => fun x hx => by
    have : l2 = [] := List.length_eq_zero_iff.mp (by simpa using h)
    rw [this] at hx; exact hx
  | y :: l1, l2, nd, hs, h => fun x hx => by
    have hy : y ∈ l2 := hs y List.mem_cons_self
    have nd' := List.nodup_cons.mp nd
    have len := List.length_erase_of_mem hy
    by_cases e : x = y
    · subst e; exact List.mem_cons_self
    · refine List.mem_cons_of_mem _ (pigeon (l1 := l1) (l2 := l2.erase y) nd'.2 (fun z hz => ?_) ?_ x ?_)
      · exact (List.mem_erase_of_ne (fun q => nd'.1 (by rw [← q]; exact hz))).mpr (hs z (List.mem_cons_of_mem _ hz))
      · rw [len]; simp only [List.length_cons] at h; omega
      · exact (List.mem_erase_of_ne e).mpr hx
theorem nodup_map {α β : Type} {f : α → β} : ∀ {l : List α}, l.Nodup → (∀ x ∈ l, ∀ y ∈ l, f x = f y → x = y) → (l.map f).Nodup
  | [], _, _ => List.nodup_nil
  | x :: l, nd, h => by
    have nd' := List.nodup_cons.mp nd
    rw [List.map_cons, List.nodup_cons]
    refine ⟨fun z => ?_, nodup_map nd'.2 fun a ha b hb => h a (List.mem_cons_of_mem _ ha) b (List.mem_cons_of_mem _ hb)⟩
    obtain ⟨y, hy, e⟩ := List.mem_map.mp z
    have := h x List.mem_cons_self y (List.mem_cons_of_mem _ hy) e.symm
    subst this; exact nd'.1 hy
theorem nodup_append1 {α : Type} {l : List α} {x : α} (nd : l.Nodup) (h : x ∉ l) : (l ++ [x]).Nodup := by
  rw [List.nodup_append]
  refine ⟨nd, by simp, fun a ha b hb => ?_⟩
  rw [List.mem_singleton.mp hb]
  intro e; subst e; exact h ha
theorem getD_lt {α : Type} {l : List α} {k : Nat} (d : α) (h : k < l.length) : l.getD k d = l[k] := by
  rw [List.getD_eq_getElem?_getD, List.getElem?_eq_getElem h]; rfl
theorem getD_mem {α : Type} {l : List α} {k : Nat} (d : α) (h : k < l.length) : l.getD k d ∈ l := by rw [getD_lt d h]; exact List.getElem_mem h
theorem nodup_inj {α : Type} {l : List α} (nd : l.Nodup) {i j : Nat} (d : α) (hi : i < l.length) (hj : j < l.length) (h : l.getD i d = l.getD j d) : i = j := by
  rw [getD_lt d hi, getD_lt d hj] at h
  exact (List.getElem_inj nd).mp h
theorem map_getD {α β : Type} (f : α → β) (l : List α) (d : α) : l.map f = (List.range l.length).map fun i => f (l.getD i d) := by
  refine List.ext_getElem (by simp) fun i h1 h2 => ?_
  rw [List.getElem_map, List.getElem_map, List.getElem_range, getD_lt d (by simpa using h1)]
/-! ### moves make groups -/
theorem comp_get {p : Nat} {a b : List Nat} (ha : Pm p a) {x : Nat} (hx : x < p) : (comp a b).getD x 0 = b.getD (a.getD x 0) 0 := by
  have h : x < a.length := by rw [ha.1]; exact hx
  rw [List.getD_eq_getElem?_getD, getD_lt 0 h]
  unfold comp
  rw [List.getElem?_map, List.getElem?_eq_getElem h]; rfl
theorem comp_assoc {p : Nat} {a b c : List Nat} (ha : Pm p a) (hb : Pm p b) : comp (comp a b) c = comp a (comp b c) := by
  unfold comp
  rw [List.map_map]
  refine List.map_congr_left fun x hx => ?_
  have h1 : x < b.length := by rw [hb.1]; exact ha.2 x hx
  show c.getD (b.getD x 0) 0 = (b.map fun x => c.getD x 0).getD x 0
  rw [getD_lt 0 (l := b.map _) (by simpa using h1), List.getElem_map, getD_lt 0 h1]
theorem id_comp {p : Nat} {a : List Nat} (ha : Pm p a) : comp (List.range p) a = a := by
  refine List.ext_getElem (by simp [comp, ha.1]) fun i h1 h2 => ?_
  simp [comp, List.getElem?_eq_getElem h2]
theorem comp_id {p : Nat} {a : List Nat} (ha : Pm p a) : comp a (List.range p) = a := by
  unfold comp
  refine (List.map_congr_left fun x hx => ?_).trans (List.map_id a)
  rw [getD_lt 0 (by simpa using ha.2 x hx), List.getElem_range]; rfl
/-- a move -/
def Mv (p : Nat) (l : List Nat) : Prop := Pm p l ∧ l.Nodup
theorem Mv.comp {p : Nat} {a b : List Nat} (ha : Mv p a) (hb : Mv p b) : Mv p (comp a b) := by
  refine ⟨ha.1.comp hb.1, nodup_map ha.2 fun x hx y hy h => ?_⟩
  exact nodup_inj hb.2 0 (by rw [hb.1.1]; exact ha.1.2 x hx) (by rw [hb.1.1]; exact ha.1.2 y hy) h
theorem Mv.id (p : Nat) : Mv p (List.range p) := ⟨⟨by simp, fun x hx => by simpa using hx⟩, List.nodup_range⟩
theorem comp_inj {p : Nat} {a b c : List Nat} (ha : Mv p a) (hb : Pm p b) (hc : Pm p c) (h : comp b a = comp c a) : b = c := by
  refine List.ext_getElem (by rw [hb.1, hc.1]) fun i h1 h2 => ?_
  have h3 : (comp b a).getD i 0 = (comp c a).getD i 0 := by rw [h]
  rw [comp_get hb (by rw [← hb.1]; exact h1), comp_get hc (by rw [← hc.1]; exact h2)] at h3
  have := nodup_inj ha.2 0 (by rw [ha.1.1, getD_lt 0 h1]; exact hb.2 _ (List.getElem_mem h1)) (by rw [ha.1.1, getD_lt 0 h2]; exact hc.2 _ (List.getElem_mem h2)) h3
  rw [getD_lt 0 h1, getD_lt 0 h2] at this
  exact this
/-- the table of a list of moves -/
def mT (L : List (List Nat)) (a b : Nat) : Nat := L.idxOf (comp (L.getD a []) (L.getD b []))
theorem mT_get {L : List (List Nat)} (hc : ∀ a ∈ L, ∀ b ∈ L, comp a b ∈ L) {a b : Nat} (ha : a < L.length) (hb : b < L.length) : mT L a b < L.length ∧ L.getD (mT L a b) [] = comp (L.getD a []) (L.getD b []) := by
  have hm := hc _ (getD_mem [] ha) _ (getD_mem [] hb)
  have h1 : mT L a b < L.length := List.idxOf_lt_length_of_mem hm
  refine ⟨h1, ?_⟩
  rw [getD_lt [] h1]
  exact List.getElem_idxOf h1
theorem mT_grp {p : Nat} {L : List (List Nat)} (hL : ∀ l ∈ L, Mv p l) (nd : L.Nodup) (hc : ∀ a ∈ L, ∀ b ∈ L, comp a b ∈ L) (h0 : L.head? = some (List.range p)) : Grp L.length (mT L) := by
  have pos : 0 < L.length := by cases L with | nil => cases h0 | cons x L => simp
  have e0 : L.getD 0 [] = List.range p := by cases L with | nil => cases h0 | cons x L => (cases h0; rfl)
  have inj : ∀ {a b : Nat}, a < L.length → b < L.length → L.getD a [] = L.getD b [] → a = b := fun ha hb h => nodup_inj nd [] ha hb h
  have mv : ∀ {a : Nat}, a < L.length → Mv p (L.getD a []) := fun ha => hL _ (getD_mem [] ha)
  refine Grp.of_left pos (fun ha hb => (mT_get hc ha hb).1) (fun {a} ha => ?_) (fun {a} ha => ?_) (fun {a b c} ha hb hcc => ?_) (fun {a} ha => ?_)
  · have := mT_get hc pos ha
    exact inj this.1 ha (by rw [this.2, e0, id_comp (mv ha).1])
  · have := mT_get hc ha pos
    exact inj this.1 ha (by rw [this.2, e0, comp_id (mv ha).1])
  · have h1 := mT_get hc ha hb
    have h2 := mT_get hc hb hcc
    have h3 := mT_get hc h1.1 hcc
    have h4 := mT_get hc ha h2.1
    exact inj h3.1 h4.1 (by rw [h3.2, h4.2, h1.2, h2.2, comp_assoc (mv ha).1 (mv hb).1])
  · have hsub := pigeon (l1 := L.map fun b => comp b (L.getD a [])) (l2 := L) (nodup_map nd fun x hx y hy h => comp_inj (mv ha) (hL x hx).1 (hL y hy).1 h) (fun x hx => by
      obtain ⟨y, hy, rfl⟩ := List.mem_map.mp hx
      exact hc y hy _ (getD_mem [] ha)) (by simp)
    obtain ⟨b, hb, e⟩ := List.mem_map.mp (hsub (List.range p) (by rw [← e0]; exact getD_mem [] pos))
    obtain ⟨i, hi, ei⟩ := List.getElem_of_mem hb
    refine ⟨i, hi, ?_⟩
    have := mT_get hc hi ha
    refine inj this.1 pos ?_
    rw [this.2, e0, getD_lt [] hi, ei]; exact e
/-! ### what closeN finds -/
theorem closeN_ind {gs : List (List Nat)} (P : List Nat → Prop) (h0 : P (List.range (gs.headD []).length)) (hs : ∀ a g, P a → g ∈ gs → P (comp a g)) : ∀ x ∈ closeN gs, P x := by
  have hG : ∀ (l : List (List Nat)) (fk : List Nat) (fd : List (List Nat)), (∀ g ∈ l, g ∈ gs) → P fk → (∀ x ∈ fd, P x) → ∀ x ∈ l.foldl (stepG fk) fd, P x := by
    intro l
    induction l with
    | nil => exact fun fk fd _ _ h => h
    | cons g l ih =>
      intro fk fd hl hf h
      refine ih fk _ (fun x hx => hl x (List.mem_cons_of_mem _ hx)) hf fun x hx => ?_
      unfold stepG at hx
      split at hx
      · exact h x hx
      · rcases List.mem_append.mp hx with hx | hx
        · exact h x hx
        · rw [List.mem_singleton.mp hx]; exact hs _ _ hf (hl g List.mem_cons_self)
  have hK : ∀ (l : List Nat) (fd : List (List Nat)), (∀ x ∈ fd, P x) → ∀ x ∈ l.foldl (stepK gs) fd, P x := by
    intro l
    induction l with
    | nil => exact fun fd h => h
    | cons k l ih =>
      intro fd h
      refine ih _ ?_
      unfold stepK
      split
      · rename_i fk e
        exact hG gs fk fd (fun _ h => h) (h fk (by obtain ⟨h1, h2⟩ := List.getElem?_eq_some_iff.mp e; rw [← h2]; exact List.getElem_mem h1)) h
      · exact h
  exact hK _ _ fun x hx => by rw [List.mem_singleton.mp hx]; exact h0
theorem closeN_nodup (gs : List (List Nat)) : (closeN gs).Nodup := by
  have hG : ∀ (l : List (List Nat)) (fk : List Nat) (fd : List (List Nat)), fd.Nodup → (l.foldl (stepG fk) fd).Nodup := by
    intro l
    induction l with
    | nil => exact fun fk fd h => h
    | cons g l ih =>
      intro fk fd h
      refine ih fk _ ?_
      unfold stepG
      split
      · exact h
      · rename_i hn; exact nodup_append1 h hn
  have hK : ∀ (l : List Nat) (fd : List (List Nat)), fd.Nodup → (l.foldl (stepK gs) fd).Nodup := by
    intro l
    induction l with
    | nil => exact fun fd h => h
    | cons k l ih =>
      intro fd h
      refine ih _ ?_
      unfold stepK
      split
      · exact hG _ _ _ h
      · exact h
  exact hK _ _ (by simp)
theorem insN_perm (x : List Nat) : ∀ l, (insN x l).Perm (x :: l)
  | [] => List.Perm.refl _
  | y :: l => by
    unfold insN
    split
    · exact List.Perm.refl _
    · exact ((insN_perm x l).cons y).trans (List.Perm.swap x y l)
theorem sortN_perm : ∀ l, (sortN l).Perm l
  | [] => List.Perm.refl _
  | x :: l => (insN_perm x _).trans ((sortN_perm l).cons x)
/-- what is to be looked at of generators -/
def okG (p : Nat) (gs : List (List Nat)) : Bool := gs.all (fun g => g.length == p && g.all (fun x => decide (x < p)) && decide g.Nodup) && !gs.isEmpty && ((closeN gs).all fun a => gs.all fun g => (closeN gs).contains (comp a g)) && ((sortN (closeN gs)).head? == some (List.range p))
theorem okG_mv {p : Nat} {gs : List (List Nat)} (h : okG p gs = true) : ∀ g ∈ gs, Mv p g := fun g hg => by
  simp only [okG, Bool.and_eq_true, List.all_eq_true, beq_iff_eq, decide_eq_true_eq] at h
  have := h.1.1.1 g hg
  exact ⟨⟨this.1.1, this.1.2⟩, this.2⟩
theorem okG_ne {p : Nat} {gs : List (List Nat)} (h : okG p gs = true) : gs ≠ [] := fun z => by
  simp only [okG, Bool.and_eq_true] at h
  rw [z] at h; cases h.1.1.2
structure Mvs (p : Nat) (L : List (List Nat)) : Prop where
  mv : ∀ l ∈ L, Mv p l
  nd : L.Nodup
  cl : ∀ a ∈ L, ∀ b ∈ L, comp a b ∈ L
  hd : L.head? = some (List.range p)
theorem okG_mvs {p : Nat} {gs : List (List Nat)} (h : okG p gs = true) : Mvs p (sortN (closeN gs)) := by
  have hmv := okG_mv h
  have hne := okG_ne h
  have hp0 : (gs.headD []).length = p := by
    cases gs with
    | nil => exact (hne rfl).elim
    | cons g gs => exact (hmv g List.mem_cons_self).1.1
  simp only [okG, Bool.and_eq_true, List.all_eq_true, beq_iff_eq, decide_eq_true_eq] at h
  obtain ⟨⟨⟨_, _⟩, h3⟩, h4⟩ := h
  have mem : ∀ x, x ∈ sortN (closeN gs) ↔ x ∈ closeN gs := fun x => (sortN_perm _).mem_iff
  have pm : ∀ x ∈ closeN gs, Mv p x := closeN_ind _ (by rw [hp0]; exact Mv.id p) fun a g ha hg => ha.comp (hmv g hg)
  refine ⟨fun l hl => pm l ((mem l).mp hl), (sortN_perm _).nodup_iff.mpr (closeN_nodup gs), fun a ha b hb => ?_, h4⟩
  rw [mem] at ha hb ⊢
  have key : ∀ b ∈ closeN gs, Mv p b ∧ ∀ a ∈ closeN gs, comp a b ∈ closeN gs := by
    refine closeN_ind (fun b => Mv p b ∧ ∀ a ∈ closeN gs, comp a b ∈ closeN gs) ⟨by rw [hp0]; exact Mv.id p, fun a ha => by rw [hp0, comp_id (pm a ha).1]; exact ha⟩ fun c g hc hg => ⟨hc.1.comp (hmv g hg), fun a ha => ?_⟩
    rw [← comp_assoc (pm a ha).1 hc.1.1]
    have := h3 _ (hc.2 a ha) g hg
    simpa using this
  exact (key b hb).2 a ha
theorem Mvs.grp {p : Nat} {L : List (List Nat)} (h : Mvs p L) : Grp L.length (mT L) := mT_grp h.mv h.nd h.cl h.hd
set_option maxHeartbeats 0 in
theorem menu_ok : menuN.all (fun gs => okG (gs.headD []).length gs && decide ((closeN gs).length ≤ 24) && decide (0 < (gs.headD []).length) && decide ((gs.headD []).length ≤ 8) && decide (gs.length ≤ 3)) = true := by decide +kernel
end DW


set_option Elab.async false
set_option linter.all false
set_option maxRecDepth 100000
set_option maxHeartbeats 4000000
namespace DW
open PySem PySem.Spec Ev
local macro_rules | `(tactic| walk_at "ev") => `(tactic| try simp only [wipe_nil, wipe_cons, bare_nil, bare_cons, bareS_u, bareS_d, Bool.and_self, Bool.and_true, Bool.true_and, asV_v, asV_f, map_get, map_last, range_get, c_ne_ff, c_ne_vf, c_ne_fv, c_eq_vf, c_eq_vv, c_eq_t, b_add_vv, b_add_vf, b_add_ff, b_add_fv, b_add_tt, w_dnewT, w_dispT, keyT_nL, disp_bl, w_din, din_t, w_dget, dget_t, getT_nL, s_dput', dput_t, put_nL, w_var, v_d, v_l, v_o, w_con, w_int0, w_int1, w_int, w_bl, w_str, w_non, w_bin, w_neg, w_not, w_and, w_or, w_ite, w_eq, w_ne, w_lt, w_le, w_gt, w_ge, w_inn, w_ni, w_isn, w_notn, w_chain, w_tup, w_lst, w_idx, w_slice, w_fld, w_call, w_make, w_meth, w_p1, w_p2, w_sm, w_isi, w_nil, w_cons, w_no, w_some, opt_int, if_t, if_f, if_bl, not_bl, neg_int, b_add, b_mul, pow_18, b_mod, b_fdiv, c_lt', c_le', c_gt', c_ge', c_eq', c_ne', p_len_l, p_len_t, p_len_n, p_len_f, p_len_b, p_len_s, p_int', p_list_l, p_list_t, p_list_n, p_list_f, p_list_b, p_tup_l, p_tup_t, p_tup_n, p_tup_f, p_tup_b, p_tpn_l, p_tpn_f, p_tpn_b, p_min', p_max', ok_ofB, ix_l, ix_t, ix_n, ix_f, ix_b, ix_scr, ixm_l, ixm_b, ixm_t, tup_some, lst_some, fld_ins, fld_o, call_some, call_lent, make_some, make_lent, av_nil, av_cv, av_cf, ad_nil, ad_cv, ad_cf, ad_cb, any_nil, any_cv, any_cf, any_cb, Option.map_some, ok_ok, ok_ofOpt, nx_nx, nx_ret, nx_bk, nx_ct, x_nil', x_cons', s_set', st_v', st_f', st_t', st_k', s_ret', bk_v', bk_f', bk_b', s_retN', s_ifs', s_frz', frz_l, frz_d, frz_u, frz_n, s_lm', lm_l, lm_app, lm_appf, s_setIdx', set_l, set_n, s_aug', aug_i, augX_n, s_expr', s_brk', s_cont', s_pass', s_fset', rd_nx, rd_ct, rd_bk, rd_ret, w_bodyD, bind1, bind2, i_r1', i_r2', i_seq, seq_l, seq_t, seq_n, seq_f, seq_b, w_rng1, w_comp, w_compF, w_bodyM, w_bodyF, List.getElem?_cons_zero, List.getElem?_cons_succ, List.set_cons_zero, List.set_cons_succ, List.length_cons, List.length_nil, List.length_map, List.length_range, Nat.zero_add, cap_eq, Nat.reduceAdd, Nat.reduceLeDiff, true_and, and_true, decide_eq_true_eq, decide_eq_false_iff_not, Bool.not_eq_true', Bool.not_eq_false', List.map_cons, List.map_nil, List.replicate_succ, List.replicate_zero, Nat.reduceSub, p_abs', Out.ret.injEq, RV.v.injEq, D.int.injEq, Int.natCast_inj, Out.nx.injEq, List.cons_append, List.nil_append, Option.some.injEq, exists_eq_left', reduceCtorEq, false_implies, true_implies, List.any_cons, List.any_nil])
/-- a table by its law -/
abbrev fR (n : Nat) (m : Nat → Nat → Nat) (a : Nat) : List D := (List.range n).map fun b : Nat => iD (m a b)
abbrev fT (n : Nat) (m : Nat → Nat → Nat) : List D := (List.range n).map fun a : Nat => .lst (fR n m a)
def plc (s : Nat) : List (List Nat) → List (List Int × D)
  | [] => []
  | x :: r => (cN x, iD s) :: plc (s + 1) r
theorem plc_app : ∀ (s : Nat) (l : List (List Nat)) (x : List Nat), plc s (l ++ [x]) = plc s l ++ [(cN x, iD (s + l.length))]
  | s, [], x => by simp [plc]
  | s, y :: l, x => by rw [List.cons_append, plc, plc_app (s + 1) l x, plc, List.length_cons, List.cons_append, show s + 1 + l.length = s + (l.length + 1) by omega]
theorem plc_any (x : List Nat) : ∀ (s : Nat) (l : List (List Nat)), ((plc s l).any fun kv => decide (kv.1 = cN x)) = decide (x ∈ l)
  | s, [] => by simp [plc]
  | s, y :: l => by
    rw [plc, List.any_cons, plc_any x (s + 1) l]
    by_cases e : y = x
    · subst e; simp
    · have e1 : ¬ cN y = cN x := fun z => e (cast_inj.mp z)
      have e2 : ¬ x = y := fun z => e z.symm
      simp [e1, e2]
theorem plc_len : ∀ (s : Nat) (l : List (List Nat)), (plc s l).length = l.length
  | s, [] => rfl
  | s, y :: l => by rw [plc, List.length_cons, plc_len (s + 1) l]; rfl
theorem plc_look (x : List Nat) : ∀ (s : Nat) (l : List (List Nat)), x ∈ l → lookT (cN x) (plc s l) = some (iD (s + l.idxOf x))
  | s, y :: l, h => by
    rw [plc, lookT]
    by_cases e : y = x
    · subst e; simp
    · have e1 : ¬ cN y = cN x := fun z => e (cast_inj.mp z)
      rw [if_neg e1, plc_look x (s + 1) l (by
        rcases List.mem_cons.mp h with h | h
        · exact (e h.symm).elim
        · exact h), List.idxOf_cons]
      have : (y == x) = false := by simpa using e
      rw [this]
      simp only [cond_false]
      rw [show s + 1 + l.idxOf x = s + (l.idxOf x + 1) by omega]
theorem sp_table {Tx : Text} (h : Tx.fn 1 = some fd1) (n : Nat) {p : Nat} {L : List (List Nat)} (hL : Mvs p L) (hp : p ≤ 1000) (hl : L.length ≤ 1000) :
    (rt Tx (n + 1)).call 1 [.lst (L.map tupN)] = .ok (.f (fT L.length (mT L))) := by
  refine call_of h rfl (by decide) ?_
  unfold fd1
  walk_at "ev"
  refine ok_forN (n := L.length) (fun k σ => ∃ s2, bareS (some s2) = true ∧ σ = [.d (.lst (L.map tupN)), .t (plc 0 (L.take k)), s2, .u, .u, .u]) ?_ ?_ ?_ ?_
  · walk_at "ev"
    rw [r1_n (by omega)]
  · exact ⟨.u, rfl, rfl⟩
  · rintro k σ hk ⟨s2, _, rfl⟩
    unfold lb1
    walk_at "ev"
    refine ⟨L[k], List.getElem?_eq_getElem hk, ?_⟩
    walk_at "ev"
    refine ⟨by rw [plc_len, List.length_take]; omega, .d (.int k), rfl, ?_⟩
    have hnew : L[k] ∉ L.take k := fun z => by
      obtain ⟨i, hi, e⟩ := List.getElem_of_mem z
      rw [List.length_take] at hi
      rw [List.getElem_take] at e
      have := (List.getElem_inj hL.nd).mp e
      omega
    have e1 : putT (cN L[k]) (.int k) (plc 0 (L.take k)) = plc 0 (L.take (k + 1)) := by
      unfold putT
      rw [plc_any, decide_eq_false hnew, if_neg (by decide), List.take_succ, List.getElem?_eq_getElem hk]
      show _ = plc 0 (L.take k ++ [L[k]])
      rw [plc_app, List.length_take, Nat.min_eq_left (by omega), Nat.zero_add]
    rw [e1]
  · rintro σ ⟨s2, hs, rfl⟩
    rw [List.take_length]
    walk_at "ev"
    refine ⟨by omega, ok_mapR (l := L) (em := tupN) (fun a => .lst (L.map fun b => iD (L.idxOf (comp a b)))) (fun a ha => ?_) ?_⟩
    · walk_at "ev"
      refine ⟨by omega, ok_mapR (l := L) (em := tupN) (fun b => iD (L.idxOf (comp a b))) (fun b hb => ?_) ?_⟩
      · walk_at "ev"
        refine ⟨by rw [(hL.mv a ha).1.1]; omega, ok_mapR (l := a) (em := iD) (fun x => iD (b.getD x 0)) (fun x hx => ?_) ?_⟩
        · walk_at "ev"
          have hx : x < b.length := by rw [(hL.mv b hb).1.1]; exact (hL.mv a ha).1.2 x hx
          exact ⟨_, List.getElem?_eq_getElem hx, by rw [getD_lt 0 hx]⟩
        · have e : (a.map fun x => iD (b.getD x 0)) = nL (comp a b) := by unfold comp; rw [nL, List.map_map]; rfl
          rw [e]
          walk_at "ev"
          refine ⟨_, plc_look _ 0 L (hL.cl a ha b hb), ?_⟩
          walk_at "ev"
      · walk_at "ev"
    · walk_at "ev"
      have e : (L.map fun a => D.lst (L.map fun b => iD (L.idxOf (comp a b)))) = fT L.length (mT L) := by
        rw [map_getD _ L []]
        refine List.map_congr_left fun a ha => ?_
        rw [map_getD _ L []]
        rfl
      rw [e]
/-! ### renumbering -/
structure Ord (n : Nat) (o : List Nat) : Prop where
  len : o.length = n
  nd : o.Nodup
  lt : ∀ x ∈ o, x < n
  z : o[0]? = some 0
theorem swap_ord {n k j : Nat} {o : List Nat} (h : Ord n o) (hk : k < n) (hj : j < n) (h1 : 0 < k) (h2 : 0 < j) : Ord n ((o.set k (o.getD j 0)).set j (o.getD k 0)) := by
  have l1 : k < o.length := by rw [h.len]; exact hk
  have l2 : j < o.length := by rw [h.len]; exact hj
  have pm : ((o.set k (o.getD j 0)).set j (o.getD k 0)).Perm o := by
    rw [getD_lt 0 l1, getD_lt 0 l2]
    exact List.set_set_perm l1 l2
  refine ⟨by simp [h.len], pm.nodup_iff.mpr h.nd, fun x hx => h.lt x (pm.mem_iff.mp hx), ?_⟩
  rw [List.getElem?_set_ne (by omega), List.getElem?_set_ne (by omega)]
  exact h.z
theorem nL_set (l : List Nat) (i x : Nat) : (nL l).set i (iD x) = nL (l.set i x) := by rw [nL, nL, List.map_set]
theorem lb8_ok {sub : Nat → List Nat → Option Bool} {R : Rt} {n k : Nat} {T s3 s5 s6 : Sl} {z o : List Nat} {Q : Out → Prop} (ho : Ord n o) (hk : k < n) (h0 : 0 < k) (hz : z ≠ [])
    (q : ∀ o' s5 s6, Ord n o' → Q (.nx [T, .d (.lst (nL z)), .l (nL o'), .d (.int k), .u, s5, s6, .u, .u])) :
    Ok (bodyD sub R [3] lb8 (.int k) [T, .d (.lst (nL z)), .l (nL o), s3, .u, s5, s6, .u, .u]) Q NoE := by
  unfold lb8
  walk_at "ev"
  have hzl : 0 < z.length := List.length_pos_iff.mpr hz
  have hkz : k % z.length < z.length := Nat.mod_lt _ hzl
  refine ⟨hzl, z[k % z.length], List.getElem?_eq_getElem hkz, h0, o[k]'(by rw [ho.len]; exact hk), List.getElem?_eq_getElem _, ?_⟩
  have hj : 1 + z[k % z.length] % k < n := by have := Nat.mod_lt z[k % z.length] h0; omega
  have hjo : 1 + z[k % z.length] % k < o.length := by rw [ho.len]; exact hj
  refine ⟨_, List.getElem?_eq_getElem hjo, by rw [ho.len]; exact hk, by rw [List.length_set, List.length_map]; exact hjo, ?_⟩
  have := q _ (.d (.int ((1 + z[k % z.length] % k : Nat) : Int))) (.d (iD (o[k]'(by rw [ho.len]; exact hk)))) (swap_ord ho hk hj h0 (by omega))
  rw [getD_lt 0 hjo, getD_lt 0 (show k < o.length by rw [ho.len]; exact hk)] at this
  rw [nL_set, nL_set]
  exact this
theorem Ord.range {n : Nat} (h : 0 < n) : Ord n (List.range n) := ⟨by simp, List.nodup_range, fun x hx => by simpa using hx, by rw [List.getElem?_eq_getElem (by simpa using h), List.getElem_range]⟩
/-- where each stands -/
def Plc (n k : Nat) (o pl : List Nat) : Prop := pl.length = n ∧ ∀ j, j < k → pl.getD (o.getD j 0) 0 = j
theorem sp_renum {Tx : Text} (h : Tx.fn 6 = some fd6) (n' : Nat) {n : Nat} {m : Nat → Nat → Nat} (g : Grp n m) (hn : n ≤ 1000) {z : List Nat} (hz : z ≠ []) :
    ∃ o p : Nat → Nat, (∀ a, a < n → o a < n) ∧ (∀ a, a < n → p a < n) ∧ (∀ a, a < n → p (o a) = a) ∧ (∀ a, a < n → o (p a) = a) ∧ o 0 = 0 ∧
      (rt Tx (n' + 1)).call 6 [.lst (fT n m), .lst (nL z)] = .ok (.f (fT n fun a b => p (m (o a) (o b)))) := by
  have main : Ok (execB Tx.sub (rt Tx n') fd6.body ([D.lst (fT n m), D.lst (nL z)].map Sl.d ++ List.replicate (fd6.ns - 2) .u)) (fun r => ∃ op : (Nat → Nat) × (Nat → Nat), ((∀ a, a < n → op.1 a < n) ∧ (∀ a, a < n → op.2 a < n) ∧ (∀ a, a < n → op.2 (op.1 a) = a) ∧ (∀ a, a < n → op.1 (op.2 a) = a) ∧ op.1 0 = 0) ∧ r = .ret (.f (fT n fun a b => op.2 (m (op.1 a) (op.1 b))))) NoE := by
    unfold fd6
    walk_at "ev"
    rw [rng_n (by omega)]
    have t0 : (rg n) = nL (List.range n) := rfl
    simp only [Bool.false_eq_true, if_false, t0]
    walk_at "ev"
    have hz0 : bareS (some Sl.u) = true := rfl
    refine ok_forL (l := List.range (n - 1)) (em := fun k : Nat => .int ((1 + k : Nat) : Int)) (fun k σ => ∃ o s3 s5 s6, Ord n o ∧ bareS (some s3) = true ∧ σ = [.d (.lst (fT n m)), .d (.lst (nL z)), .l (nL o), s3, .u, s5, s6, .u, .u]) ?_ ?_ ?_ ?_
    · walk_at "ev"
      rw [r2_n (by omega) (by omega)]
    · exact ⟨List.range n, .u, .u, .u, Ord.range g.pos, rfl, rfl⟩
    · rintro k x σ hk ⟨o, s3, s5, s6, ho, _, rfl⟩
      obtain ⟨hk1, hk2⟩ := List.getElem?_eq_some_iff.mp hk
      rw [List.length_range] at hk1
      rw [List.getElem_range] at hk2
      subst hk2
      refine lb8_ok ho (by omega) (by omega) hz fun o' s5 s6 ho' => ?_
      walk_at "ev"
      exact ⟨o', _, s5, s6, ho', rfl, rfl⟩
    · rintro σ ⟨o, s3, s5, s6, ho, hs3, rfl⟩
      walk_at "ev"
      rw [ho.len]
      refine ⟨by omega, hs3, ok_mapR (l := o) (em := iD) (fun _ => iD 0) (fun x hx => ?_) ?_⟩
      · walk_at "ev"
        exact ⟨_, rfl⟩
      have e0 : (o.map fun _ => iD 0) = nL (List.replicate n 0) := by rw [nL, List.map_replicate, List.map_const', ho.len]
      rw [e0]
      walk_at "ev"
      refine ok_forN (n := n) (fun k σ => ∃ pl s3, Plc n k o pl ∧ bareS (some s3) = true ∧ σ = [.d (.lst (fT n m)), .d (.lst (nL z)), .l (nL o), s3, .l (nL pl), s5, s6, .u, .u]) ?_ ?_ ?_ ?_
      · walk_at "ev"
        rw [ho.len, r1_n (by omega)]
      · exact ⟨_, s3, ⟨by simp, fun j hj => by omega⟩, hs3, rfl⟩
      · rintro k σ hk ⟨pl, s3', hpl, _, rfl⟩
        have hko : k < o.length := by rw [ho.len]; exact hk
        unfold lb9
        walk_at "ev"
        refine ⟨_, List.getElem?_eq_getElem hko, by rw [hpl.1]; exact ho.lt _ (List.getElem_mem hko), pl.set o[k] k, .d (.int k), ⟨by rw [List.length_set]; exact hpl.1, fun j hj => ?_⟩, rfl, ?_⟩
        · have hjo : j < o.length := by omega
          rw [getD_lt 0 hjo]
          by_cases e : j = k
          · subst e
            rw [List.getD_eq_getElem?_getD, List.getElem?_set_self (by rw [hpl.1]; exact ho.lt _ (List.getElem_mem hko))]; rfl
          · have hne : o[k] ≠ o[j] := fun q => e ((List.getElem_inj ho.nd).mp q).symm
            rw [List.getD_eq_getElem?_getD, List.getElem?_set_ne hne, ← List.getD_eq_getElem?_getD]
            have := hpl.2 j (by omega)
            rw [getD_lt 0 hjo] at this
            exact this
        · rw [nL_set]
      · rintro σ ⟨pl, s3', hpl, _, rfl⟩
        walk_at "ev"
        have hlt : ∀ x ∈ o, ∀ y ∈ o, m x y < n := fun x hx y hy => g.lt (ho.lt x hx) (ho.lt y hy)
        rw [ho.len]
        refine ⟨by omega, ok_mapR (l := o) (em := iD) (fun a => .lst (o.map fun b => iD (pl.getD (m a b) 0))) (fun a ha => ?_) ?_⟩
        · walk_at "ev"
          refine ⟨by rw [ho.len]; omega, ok_mapR (l := o) (em := iD) (fun b => iD (pl.getD (m a b) 0)) (fun b hb => ?_) ?_⟩
          · walk_at "ev"
            have hl := hlt a ha b hb
            rw [← hpl.1] at hl
            refine ⟨ho.lt a ha, ?_⟩
            walk_at "ev"
            exact ⟨ho.lt b hb, _, List.getElem?_eq_getElem hl, by rw [getD_lt 0 hl]⟩
          · walk_at "ev"
        · walk_at "ev"
          have lt1 : ∀ a, a < n → o.getD a 0 < n := fun a ha => ho.lt _ (getD_mem 0 (by rw [ho.len]; exact ha))
          have inj : ∀ a b, a < n → b < n → o.getD a 0 = o.getD b 0 → a = b := fun a b ha hb e => nodup_inj ho.nd 0 (by rw [ho.len]; exact ha) (by rw [ho.len]; exact hb) e
          have sur : ∀ x, x < n → ∃ j, j < n ∧ o.getD j 0 = x := fun x hx => by
            have := pigeon ho.nd (l2 := List.range n) (fun x hx => by simpa using ho.lt x hx) (by simp [ho.len]) x (by simpa using hx)
            obtain ⟨i, hi, e⟩ := List.getElem_of_mem this
            exact ⟨i, by rw [← ho.len]; exact hi, by rw [getD_lt 0 hi]; exact e⟩
          refine ⟨(fun a => o.getD a 0, fun a => pl.getD a 0), ⟨lt1, fun a ha => ?_, fun a ha => hpl.2 a ha, fun a ha => ?_, ?_⟩, ?_⟩
          · obtain ⟨j, hj, rfl⟩ := sur a ha
            show pl.getD (o.getD j 0) 0 < n
            rw [hpl.2 j hj]; exact hj
          · obtain ⟨j, hj, rfl⟩ := sur a ha
            show o.getD (pl.getD (o.getD j 0) 0) 0 = _
            rw [hpl.2 j hj]
          · show o.getD 0 0 = 0
            rw [List.getD_eq_getElem?_getD, ho.z]; rfl
          · have e : (o.map fun a => D.lst (o.map fun b => iD (pl.getD (m a b) 0))) = fT n fun a b => pl.getD (m (o.getD a 0) (o.getD b 0)) 0 := by
              rw [map_getD _ o 0, ho.len]
              refine List.map_congr_left fun a ha => ?_
              rw [map_getD _ o 0, ho.len]
            rw [e]
  obtain ⟨⟨o, p⟩, h1, h2⟩ := main.ex
  exact ⟨o, p, h1.1, h1.2.1, h1.2.2.1, h1.2.2.2.1, h1.2.2.2.2, call_of h rfl (by decide) h2⟩
end DW


set_option Elab.async false
set_option linter.all false
set_option maxRecDepth 100000
set_option maxHeartbeats 4000000
namespace DW
open PySem PySem.Spec Ev
/-! ## more rules: sorted ints, all, membership, two clauses, index -/
section
variable {R : Rt} {σ : List Sl} {Q : RV → Prop} {E : Nat → List D → Prop}
def insNat (x : Nat) : List Nat → List Nat
  | [] => [x]
  | y :: ys => if x ≤ y then x :: y :: ys else y :: insNat x ys
def sortNat : List Nat → List Nat
  | [] => []
  | x :: xs => insNat x (sortNat xs)
theorem insI_cN (x : Nat) : ∀ l : List Nat, insI (x : Int) (cN l) = cN (insNat x l)
  | [] => rfl
  | y :: l => by
    rw [cN, List.map_cons, insI, insNat]
    by_cases h : x ≤ y
    · rw [if_pos h, if_pos (by omega)]; rfl
    · rw [if_neg h, if_neg (by omega)]
      have := insI_cN x l
      rw [cN] at this
      rw [this]; rfl
theorem sortI_cN : ∀ l : List Nat, sortI (cN l) = cN (sortNat l)
  | [] => rfl
  | x :: l => by
    have := sortI_cN l
    show insI (x : Int) (sortI (cN l)) = _
    rw [this, insI_cN]; rfl
theorem p_sorted_S {x : RV} {l : List Nat} (h : x.asL = some (nL l)) : Ok (p1 .sorted x) Q E ↔ Q (.f (nL (sortNat l))) := by
  unfold p1; dsimp only; rw [h]; dsimp only; rw [ints_nL]; dsimp only
  rw [ok_ok]
  have : ((sortI (l.map fun k : Nat => (k : Int))).map D.int) = nL (sortNat l) := by
    have := sortI_cN l
    rw [cN] at this
    rw [this, List.map_map]; rfl
  rw [this]
theorem p_sorted_b (i : Nat) (l : List Nat) : Ok (p1 .sorted (.b i (nL l))) Q E ↔ Q (.f (nL (sortNat l))) := p_sorted_S rfl
theorem p_sorted_f (l : List Nat) : Ok (p1 .sorted (.f (nL l))) Q E ↔ Q (.f (nL (sortNat l))) := p_sorted_S rfl
theorem p_sorted_l (l : List Nat) : Ok (p1 .sorted (.v (.lst (nL l)))) Q E ↔ Q (.f (nL (sortNat l))) := p_sorted_S rfl
theorem insNat_perm (x : Nat) : ∀ l, (insNat x l).Perm (x :: l)
  | [] => List.Perm.refl _
  | y :: l => by
    unfold insNat
    split
    · exact List.Perm.refl _
    · exact ((insNat_perm x l).cons y).trans (List.Perm.swap x y l)
theorem sortNat_perm : ∀ l, (sortNat l).Perm l
  | [] => List.Perm.refl _
  | x :: l => (insNat_perm x _).trans ((sortNat_perm l).cons x)
theorem insNat_sorted (x : Nat) : ∀ l, l.Pairwise (· ≤ ·) → (insNat x l).Pairwise (· ≤ ·)
  | [], _ => by simp [insNat]
  | y :: l, h => by
    have h' := List.pairwise_cons.mp h
    unfold insNat
    split
    · rename_i hx
      rw [List.pairwise_cons]
      exact ⟨fun z hz => by
        rcases List.mem_cons.mp hz with rfl | hz
        · exact hx
        · exact Nat.le_trans hx (h'.1 z hz), h⟩
    · rename_i hx
      rw [List.pairwise_cons]
      refine ⟨fun z hz => ?_, insNat_sorted x l h'.2⟩
      rcases List.mem_cons.mp ((insNat_perm x l).mem_iff.mp hz) with rfl | hz
      · omega
      · exact h'.1 z hz
theorem sortNat_sorted : ∀ l, (sortNat l).Pairwise (· ≤ ·)
  | [] => List.Pairwise.nil
  | x :: l => insNat_sorted x _ (sortNat_sorted l)
theorem sort_unique {l l' : List Nat} (h : l.Pairwise (· ≤ ·)) (h' : l'.Pairwise (· ≤ ·)) (p : l.Perm l') : l = l' :=
  List.Perm.eq_of_pairwise (le := (· ≤ ·)) (fun a b _ _ h1 h2 => Nat.le_antisymm h1 h2) h h' p
theorem range_sorted (n : Nat) : (List.range n).Pairwise (· ≤ ·) := List.pairwise_lt_range.imp fun h => Nat.le_of_lt h
theorem filter_sorted (n : Nat) (p : Nat → Bool) : ((List.range n).filter p).Pairwise (· ≤ ·) := (range_sorted n).filter _
/-- members without doubles, put in order -/
theorem sortNat_filter {n : Nat} {l : List Nat} (nd : l.Nodup) (h : ∀ x ∈ l, x < n) (p : Nat → Bool) (hp : ∀ x, x < n → (p x = true ↔ x ∈ l)) : sortNat l = (List.range n).filter p := by
  refine sort_unique (sortNat_sorted l) (filter_sorted n p) ((sortNat_perm l).trans ?_)
  refine (List.perm_ext_iff_of_nodup nd (List.nodup_range.filter _)).mpr fun x => ?_
  rw [List.mem_filter, List.mem_range]
  exact ⟨fun hx => ⟨h x hx, (hp x (h x hx)).mpr hx⟩, fun hx => (hp x hx.1).mp hx.2⟩
/-! all, any -/
theorem bls_map {γ : Type} (g : γ → Bool) : ∀ l : List γ, blsOf (l.map fun x => D.bl (g x)) = some (l.map g)
  | [] => rfl
  | x :: l => by
    rw [List.map_cons]
    show (blsOf _).map _ = _
    rw [bls_map g l]; rfl
theorem p_all' {γ : Type} (l : List γ) (g : γ → Bool) : Ok (p1 .all (.f (l.map fun x => D.bl (g x)))) Q E ↔ Q (.v (.bl (l.all g))) := by
  unfold p1; dsimp only [RV.asL]; rw [bls_map]; dsimp only; rw [ok_ok, List.all_map]; rfl
theorem p_any' {γ : Type} (l : List γ) (g : γ → Bool) : Ok (p1 .any (.f (l.map fun x => D.bl (g x)))) Q E ↔ Q (.v (.bl (l.any g))) := by
  unfold p1; dsimp only [RV.asL]; rw [bls_map]; dsimp only; rw [ok_ok, List.any_map]; rfl
/-! membership -/
theorem scal_nL (l : List Nat) : (nL l).all scalar = true := by rw [List.all_map, List.all_eq_true]; intro x _; rfl
theorem any_nL (l : List Nat) (k : Nat) : ((nL l).any fun e => eqS e (iD k)) = decide (k ∈ l) := by
  rw [List.any_map]
  show (l.any fun x => ((x : Int) == (k : Int))) = _
  induction l with
  | nil => simp
  | cons x l ih =>
    rw [List.any_cons, ih]
    by_cases e : x = k
    · subst e; simp
    · have e2 : ¬ (x : Int) = k := by omega
      have e3 : ¬ k = x := fun z => e z.symm
      simp [e2, e3]
theorem has_nL {y : RV} {l : List Nat} (k : Nat) (h : y.asS = some (nL l)) : hasD (.v (.int (k : Int))) y = some (decide (k ∈ l)) := by
  unfold hasD; rw [h]; dsimp only
  rw [scal_nL, any_nL]; rfl
theorem c_inn_S {y : RV} {l : List Nat} (k : Nat) (h : y.asS = some (nL l)) (hy : asInt y = none) : Ok (cmpD .inn (.v (.int (k : Int))) y) Q E ↔ Q (.v (.bl (decide (k ∈ l)))) := by
  unfold cmpD; rw [hy]
  show Ok (ofB (hasD _ y)) Q E ↔ _
  rw [has_nL k h]; exact ok_ok _
theorem c_ni_S {y : RV} {l : List Nat} (k : Nat) (h : y.asS = some (nL l)) (hy : asInt y = none) : Ok (cmpD .ni (.v (.int (k : Int))) y) Q E ↔ Q (.v (.bl (!decide (k ∈ l)))) := by
  unfold cmpD; rw [hy]
  show Ok (ofB ((hasD _ y).map (!·))) Q E ↔ _
  rw [has_nL k h]; exact ok_ok _
theorem c_inn_l (k : Nat) (l : List Nat) : Ok (cmpD .inn (.v (.int (k : Int))) (.v (.lst (nL l)))) Q E ↔ Q (.v (.bl (decide (k ∈ l)))) := c_inn_S k rfl rfl
theorem c_inn_t (k : Nat) (l : List Nat) : Ok (cmpD .inn (.v (.int (k : Int))) (.v (.tup (nL l)))) Q E ↔ Q (.v (.bl (decide (k ∈ l)))) := c_inn_S k rfl rfl
theorem c_ni_l (k : Nat) (l : List Nat) : Ok (cmpD .ni (.v (.int (k : Int))) (.v (.lst (nL l)))) Q E ↔ Q (.v (.bl (!decide (k ∈ l)))) := c_ni_S k rfl rfl
theorem c_ni_t (k : Nat) (l : List Nat) : Ok (cmpD .ni (.v (.int (k : Int))) (.v (.tup (nL l)))) Q E ↔ Q (.v (.bl (!decide (k ∈ l)))) := c_ni_S k rfl rfl
/-! two clauses -/
theorem ok_mapG {γ β : Type} {l : List γ} {em : γ → D} (g : γ → β) {f : D → Res β} {Q : List β → Prop} (h : ∀ x ∈ l, Ok (f (em x)) (fun y => y = g x) NoE) (q : Q (l.map g)) : Ok (mapR f (l.map em)) Q E := by
  have : mapR f (l.map em) = .ok (l.map g) := by
    clear q
    induction l with
    | nil => rfl
    | cons x l ih =>
      rw [List.map_cons, List.map_cons]
      unfold mapR
      rw [(h x List.mem_cons_self).eq, ih fun y hy => h y (List.mem_cons_of_mem _ hy)]
  rw [this]; exact (ok_ok _).mpr q
def body2 (R : Rt) (e : Ex) (tg tg2 : List Nat) (it2 : It) (σ : List Sl) (d : D) : Res (List D) := (ofOpt (bindT tg d σ)).bind fun σ' => (evalI R it2 σ').bind fun items2 => mapR (bodyM R e tg2 (wipeD σ' tg2)) items2.1
theorem w_comp2 (e : Ex) (tg tg2 vs : List Nat) (it it2 : It) : Ok (evalE R (.comp2 e tg tg2 vs it it2 .no) σ) Q E ↔ Ok (evalI R it σ) (fun items => bareD σ vs = true ∧ Ok (mapR (body2 R e tg tg2 it2 (wipeD σ vs)) items.1) (fun dss => dss.flatten.length ≤ cap ∧ Q (.f dss.flatten)) E) E := by
  refine (ok_bind _ _).trans ?_
  refine iff_of_eq (congrArg (fun z => Ok _ z E) (funext fun items => propext ?_))
  cases h2 : bareD σ vs with
  | false => rw [show (!false) = true from rfl, if_pos rfl, ok_stuck]; exact ⟨False.elim, fun q => (by cases q.1)⟩
  | true =>
    rw [show (!true) = false from rfl, if_neg (by decide)]
    refine (ok_bind _ _).trans ?_
    refine Iff.trans (iff_of_eq (congrArg (fun z => Ok _ z E) (funext fun dss => propext ?_))) ⟨fun q => ⟨rfl, q⟩, fun q => q.2⟩
    exact ok_if _
theorem w_body2 {QD : List D → Prop} (e : Ex) (tg tg2 : List Nat) (it2 : It) (d : D) : Ok (body2 R e tg tg2 it2 σ d) QD E ↔ ∃ σ', bindT tg d σ = some σ' ∧ Ok (evalI R it2 σ') (fun items2 => Ok (mapR (bodyM R e tg2 (wipeD σ' tg2)) items2.1) QD E) E := by
  unfold body2; simp only [ok_bind, ok_ofOpt]
/-! a chain of ints: i <= j < k -/
def lastD (p : CO) (j : Int) (x : RV) : Res RV := match asInt x with
  | some k => cmpI p j k
  | none => .stuck
theorem chain_n {z : Res RV} (i j : Nat) : Ok (chainD .le .lt (.v (.int (i : Int))) (.v (.int (j : Int))) z) Q E ↔ (i ≤ j → Ok z (fun x => Ok (lastD .lt (j : Int) x) Q E) E) ∧ (¬ i ≤ j → Q (.v (.bl false))) := by
  have e : chainD .le .lt (.v (.int (i : Int))) (.v (.int (j : Int))) z = ifD (.v (.bl (decide ((i : Int) ≤ (j : Int))))) (z.bind fun x => lastD .lt (j : Int) x) (.ok (.v (.bl false))) := rfl
  rw [e, if_bl, ok_bind, ok_ok, decide_eq_true_eq, decide_eq_false_iff_not, Int.ofNat_le]
theorem last_n (j k : Nat) : Ok (lastD .lt (j : Int) (.v (.int (k : Int)))) Q E ↔ Q (.v (.bl (decide (j < k)))) := by
  rw [show decide (j < k) = decide ((j : Int) < (k : Int)) by simp]; exact ok_ok _
/-! index -/
theorem find_nL (l : List Nat) (k : Nat) : findS (iD k) (nL l) = l.findIdx? (· == k) := by
  induction l with
  | nil => rfl
  | cons x l ih =>
    show (if eqS (iD x) (iD k) = true then some 0 else (findS (iD k) (nL l)).map (· + 1)) = _
    rw [ih, List.findIdx?_cons]
    have : eqS (iD x) (iD k) = (x == k) := by
      show ((x : Int) == (k : Int)) = _
      by_cases e : x = k
      · subst e; simp
      · have : ¬ (x : Int) = k := by omega
        rw [beq_eq_false_iff_ne.mpr e, beq_eq_false_iff_ne.mpr this]
    rw [this]
end
end DW


set_option Elab.async false
set_option linter.all false
set_option maxRecDepth 100000
set_option maxHeartbeats 4000000
namespace DW
open PySem PySem.Spec Ev
local macro_rules | `(tactic| walk_at "ev") => `(tactic| try simp only [p_sorted_b, p_sorted_f, p_sorted_l, p_all', p_any', c_inn_l, c_inn_t, c_ni_l, c_ni_t, w_comp2, w_body2, chain_n, last_n, wipe_nil, wipe_cons, bare_nil, bare_cons, bareS_u, bareS_d, Bool.and_self, Bool.and_true, Bool.true_and, asV_v, asV_f, map_get, map_last, range_get, c_ne_ff, c_ne_vf, c_ne_fv, c_eq_vf, c_eq_vv, c_eq_t, b_add_vv, b_add_vf, b_add_ff, b_add_fv, b_add_tt, w_dnewT, w_dispT, keyT_nL, disp_bl, w_din, din_t, w_dget, dget_t, getT_nL, s_dput', dput_t, put_nL, w_var, v_d, v_l, v_o, w_con, w_int0, w_int1, w_int, w_bl, w_str, w_non, w_bin, w_neg, w_not, w_and, w_or, w_ite, w_eq, w_ne, w_lt, w_le, w_gt, w_ge, w_inn, w_ni, w_isn, w_notn, w_chain, w_tup, w_lst, w_idx, w_slice, w_fld, w_call, w_make, w_meth, w_p1, w_p2, w_sm, w_isi, w_nil, w_cons, w_no, w_some, opt_int, if_t, if_f, if_bl, not_bl, neg_int, b_add, b_mul, pow_18, b_mod, b_fdiv, c_lt', c_le', c_gt', c_ge', c_eq', c_ne', p_len_l, p_len_t, p_len_n, p_len_f, p_len_b, p_len_s, p_int', p_list_l, p_list_t, p_list_n, p_list_f, p_list_b, p_tup_l, p_tup_t, p_tup_n, p_tup_f, p_tup_b, p_tpn_l, p_tpn_f, p_tpn_b, p_min', p_max', ok_ofB, ix_l, ix_t, ix_n, ix_f, ix_b, ix_scr, ixm_l, ixm_b, ixm_t, tup_some, lst_some, fld_ins, fld_o, call_some, call_lent, make_some, make_lent, av_nil, av_cv, av_cf, ad_nil, ad_cv, ad_cf, ad_cb, any_nil, any_cv, any_cf, any_cb, Option.map_some, ok_ok, ok_ofOpt, nx_nx, nx_ret, nx_bk, nx_ct, x_nil', x_cons', s_set', st_v', st_f', st_t', st_k', s_ret', bk_v', bk_f', bk_b', s_retN', s_ifs', s_frz', frz_l, frz_d, frz_u, frz_n, s_lm', lm_l, lm_app, lm_appf, s_setIdx', set_l, set_n, s_aug', aug_i, augX_n, s_expr', s_brk', s_cont', s_pass', s_fset', rd_nx, rd_ct, rd_bk, rd_ret, w_bodyD, bind1, bind2, i_r1', i_r2', i_seq, seq_l, seq_t, seq_n, seq_f, seq_b, w_rng1, w_comp, w_compF, w_bodyM, w_bodyF, List.getElem?_cons_zero, List.getElem?_cons_succ, List.set_cons_zero, List.set_cons_succ, List.length_cons, List.length_nil, List.length_map, List.length_range, Nat.zero_add, cap_eq, Nat.reduceAdd, Nat.reduceLeDiff, true_and, and_true, decide_eq_true_eq, decide_eq_false_iff_not, Bool.not_eq_true', Bool.not_eq_false', List.map_cons, List.map_nil, List.replicate_succ, List.replicate_zero, Nat.reduceSub, p_abs', Out.ret.injEq, RV.v.injEq, D.int.injEq, Int.natCast_inj, Out.nx.injEq, List.cons_append, List.nil_append, Option.some.injEq, exists_eq_left', reduceCtorEq, false_implies, true_implies, List.any_cons, List.any_nil])
theorem nL_app (l : List Nat) (x : Nat) : nL l ++ [iD x] = nL (l ++ [x]) := by rw [nL, nL, List.map_append]; rfl
/-! ## what is reached -/
inductive Rch (m : Nat → Nat → Nat) (ms : List Nat) : Nat → Prop
  | z : Rch m ms 0
  | st {x y : Nat} (h : Rch m ms x) (hy : y ∈ ms) : Rch m ms (m x y)
open Classical in
/-- the members reached, in order -/
noncomputable def rs (n : Nat) (m : Nat → Nat → Nat) (ms : List Nat) : List Nat := (List.range n).filter fun k => decide (Rch m ms k)
theorem rowcase {n : Nat} {m : Nat → Nat → Nat} {T : D} (h : (T = .lst (fT n m)) ∨ T = .tup ((List.range n).map fun a : Nat => .tpn (fR n m a))) {a : Nat} (ha : a < n) : ∃ rw : D, (rw = .lst (fR n m a) ∨ rw = .tpn (fR n m a)) ∧ idxD (.v T) (.v (.int (a : Int))) = .ok (.v rw) := by
  rcases h with rfl | rfl
  · refine ⟨_, .inl rfl, Ok.eq ?_⟩
    walk_at "ev"
    exact ha
  · refine ⟨_, .inr rfl, Ok.eq ?_⟩
    walk_at "ev"
    exact ha
abbrev rowsT (n : Nat) (m : Nat → Nat → Nat) : D := .tup ((List.range n).map fun a : Nat => .tpn (fR n m a))
/-- the members marked -/
abbrev bL (n : Nat) (f : Nat → Bool) : List D := (List.range n).map fun k : Nat => .bl (f k)
theorem bL_set (n : Nat) (f : Nat → Bool) (x : Nat) : (bL n f).set x (.bl true) = bL n fun k => k == x || f k := by
  refine List.ext_getElem (by simp) fun i h1 h2 => ?_
  rw [List.getElem_set]
  simp only [List.getElem_map, List.getElem_range]
  by_cases e : x = i
  · subst e; simp
  · have : ¬ i = x := fun z => e z.symm
    simp [e, this]
theorem bL_congr {n : Nat} {f g : Nat → Bool} (h : ∀ k, k < n → f k = g k) : bL n f = bL n g := List.map_congr_left fun k hk => by rw [h k (by simpa using hk)]
structure Fnd (n : Nat) (m : Nat → Nat → Nat) (ms : List Nat) (fd : List Nat) : Prop where
  nd : fd.Nodup
  lt : ∀ x ∈ fd, x < n
  rc : ∀ x ∈ fd, Rch m ms x
  z : 0 ∈ fd
theorem Fnd.len {n : Nat} {m : Nat → Nat → Nat} {ms fd : List Nat} (h : Fnd n m ms fd) : fd.length ≤ n := by
  by_cases hc : fd.length ≤ n
  · exact hc
  · have := pigeon (l1 := List.range n) (l2 := fd.take n) List.nodup_range
    exfalso
    have hsub : ∀ x ∈ List.range n, x ∈ fd.take n := pigeon (l1 := fd.take n) (l2 := List.range n) (h.nd.sublist (List.take_sublist _ _)) (fun x hx => by simpa using h.lt x (List.mem_of_mem_take hx)) (by rw [List.length_take, List.length_range]; omega)
    have hk : n < fd.length := by omega
    have hm := hsub fd[n] (by simpa using h.lt _ (List.getElem_mem hk))
    obtain ⟨i, hi, e⟩ := List.getElem_of_mem hm
    rw [List.length_take] at hi
    rw [List.getElem_take] at e
    have := (List.getElem_inj h.nd).mp e
    omega
theorem Fnd.add {n : Nat} {m : Nat → Nat → Nat} {ms fd : List Nat} (h : Fnd n m ms fd) {x y : Nat} (hx : x ∈ fd) (hy : y ∈ ms) (hl : m x y < n) (hn : m x y ∉ fd) : Fnd n m ms (fd ++ [m x y]) := by
  refine ⟨nodup_append1 h.nd hn, fun z hz => ?_, fun z hz => ?_, List.mem_append_left _ h.z⟩
  · rcases List.mem_append.mp hz with hz | hz
    · exact h.lt z hz
    · rw [List.mem_singleton.mp hz]; exact hl
  · rcases List.mem_append.mp hz with hz | hz
    · exact h.rc z hz
    · rw [List.mem_singleton.mp hz]; exact .st (h.rc x hx) hy
theorem Fnd.zero {n : Nat} {m : Nat → Nat → Nat} {ms : List Nat} (h : 0 < n) : Fnd n m ms [0] := ⟨by simp, fun x hx => by rw [List.mem_singleton.mp hx]; exact h, fun x hx => by rw [List.mem_singleton.mp hx]; exact .z, by simp⟩
theorem Fnd.all {n : Nat} {m : Nat → Nat → Nat} {ms fd : List Nat} (h : Fnd n m ms fd) (hc : ∀ x ∈ fd, ∀ y ∈ ms, m x y ∈ fd) {x : Nat} (hx : Rch m ms x) : x ∈ fd := by
  induction hx with
  | z => exact h.z
  | st _ hy ih => exact hc _ ih _ hy
theorem Fnd.sort {n : Nat} {m : Nat → Nat → Nat} {ms fd : List Nat} (h : Fnd n m ms fd) (hc : ∀ x ∈ fd, ∀ y ∈ ms, m x y ∈ fd) : sortNat fd = rs n m ms := by
  unfold rs
  refine sortNat_filter h.nd h.lt _ fun x hx => ?_
  exact ⟨fun q => h.all hc (@of_decide_eq_true _ (Classical.propDecidable _) q), fun q => @decide_eq_true _ (Classical.propDecidable _) (h.rc x q)⟩
abbrev ins (fd : List Nat) : Nat → Bool := fun k => decide (k ∈ fd)
theorem ins_add (n : Nat) (fd : List Nat) (x : Nat) : (bL n (ins fd)).set x (.bl true) = bL n (ins (fd ++ [x])) := by
  rw [bL_set]
  refine bL_congr fun k _ => ?_
  unfold ins
  by_cases e : k = x
  · subst e; simp
  · simp [e]
/-- a list of members, as it is walked -/
def MsD (M : D) (ms : List Nat) : Prop := M = .lst (nL ms) ∨ M = .tup (nL ms)
theorem MsD.seq {M : D} {ms : List Nat} (h : MsD M ms) : seqD (.v M) = .ok (nL ms, false) := by rcases h with rfl | rfl <;> rfl
theorem sp_reached {Tx : Text} (h : Tx.fn 9 = some fd9) (n' : Nat) {n : Nat} {m : Nat → Nat → Nat} (hlt : ∀ {a b}, a < n → b < n → m a b < n) (h0 : 0 < n) (hn : n ≤ 1000) {T M : D} (hT : (T = .lst (fT n m)) ∨ T = rowsT n m) {ms : List Nat} (hM : MsD M ms) (hms : ∀ y ∈ ms, y < n) :
    (rt Tx (n' + 1)).call 9 [T, M] = .ok (.f (nL (rs n m ms))) := by
  have hlen : p1 .len (.v T) = .ok (.v (.int (n : Int))) := by rcases hT with rfl | rfl <;> (refine Ok.eq ?_; walk_at "ev")
  refine call_of h rfl (by decide) ?_
  unfold fd9
  walk_at "ev"
  rw [hlen, ok_ok, b_rep _ (by omega)]
  walk_at "ev"
  refine ⟨by rw [List.length_replicate]; exact h0, ?_⟩
  have e0 : (List.replicate n (D.bl false)).set 0 (.bl true) = bL n (ins [0]) := by
    refine List.ext_getElem (by simp) fun i h1 h2 => ?_
    rw [List.getElem_set]
    simp only [List.getElem_map, List.getElem_range, List.getElem_replicate]
    by_cases e : 0 = i
    · subst e; simp
    · have : ¬ i = 0 := fun z => e z.symm
      simp [e, this]
  rw [e0]
  refine ok_while (fun M' σ => ∃ fd at' s5 s6, Fnd n m ms fd ∧ (∀ j, j < at' → ∀ y ∈ ms, m (fd.getD j 0) y ∈ fd) ∧ at' ≤ fd.length ∧ M' = n - at' ∧ σ = [.d T, .d M, .l (bL n (ins fd)), .l (nL fd), .d (.int at'), s5, s6]) n (by unfold fuel; omega) ?_ ?_
  · exact ⟨[0], 0, .u, .u, Fnd.zero h0, fun j hj => by omega, by simp, by omega, rfl⟩
  · rintro M' σ _ ⟨fd, at', s5, s6, hfd, hcl, hat, rfl, rfl⟩
    walk_at "ev"
    by_cases hlt' : at' < fd.length
    · refine .inl ⟨by rw [decide_eq_true hlt'], n - at' - 1, by have := hfd.len; omega, ?_⟩
      have hx : fd[at'] < n := hfd.lt _ (List.getElem_mem hlt')
      obtain ⟨rw', hrw, hidx⟩ := rowcase hT hx
      unfold lb11
      walk_at "ev"
      refine ⟨_, List.getElem?_eq_getElem hlt', ?_⟩
      rw [hidx, ok_ok]
      walk_at "ev"
      refine ok_forL (l := ms) (em := iD) (fun k σ => ∃ fd' s6, fd <+: fd' ∧ Fnd n m ms fd' ∧ (∀ j, j < k → m fd[at'] (ms.getD j 0) ∈ fd') ∧ σ = [.d T, .d M, .l (bL n (ins fd')), .l (nL fd'), .d (.int at'), .d rw', s6]) ?_ ?_ ?_ ?_
      · walk_at "ev"
        rw [hM.seq, ok_ok]
      · exact ⟨fd, s6, List.prefix_refl _, hfd, fun j hj => by omega, rfl⟩
      · rintro k y σ hk ⟨fd', s6', hpre, hfd', hcl', rfl⟩
        obtain ⟨hk1, hk2⟩ := List.getElem?_eq_some_iff.mp hk
        have hy : y ∈ ms := by rw [← hk2]; exact List.getElem_mem hk1
        have hr : ∀ {Q E}, Ok (idxD (.v rw') (.v (.int (y : Int)))) Q E ↔ Q (.v (iD (m fd[at'] y))) := by
          intro Q E
          have hyn := hms y hy
          rcases hrw with rfl | rfl
          · walk_at "ev"
            exact ⟨fun q => q.2, fun q => ⟨hyn, q⟩⟩
          · walk_at "ev"
            exact ⟨fun q => q.2, fun q => ⟨hyn, q⟩⟩
        have hmy : m fd[at'] y < n := hlt hx (hms y hy)
        have hxm : fd[at'] ∈ fd' := hpre.mem (List.getElem_mem hlt')
        have ecl : ∀ (fd2 : List Nat), (∀ x ∈ fd', x ∈ fd2) → m fd[at'] y ∈ fd2 → ∀ j, j < k + 1 → m fd[at'] (ms.getD j 0) ∈ fd2 := fun fd2 hs hm j hj => by
          by_cases e : j = k
          · subst e; rw [getD_lt 0 hk1, hk2]; exact hm
          · exact hs _ (hcl' j (by omega))
        unfold lb10
        walk_at "ev"
        simp only [hr]
        walk_at "ev"
        refine ⟨hmy, fun hnot => ?_, fun hin => ?_⟩
        · rw [hr]
          walk_at "ev"
          rw [hr]
          walk_at "ev"
          refine ⟨hmy, by have := hfd'.len; omega, ?_⟩
          exact ⟨fd' ++ [m fd[at'] y], .d (iD y), hpre.trans (List.prefix_append _ _), hfd'.add hxm hy hmy (by simpa using hnot), ecl _ (fun x hx => List.mem_append_left _ hx) (by simp), by rw [ins_add, nL_app]⟩
        · exact ⟨fd', _, hpre, hfd', ecl _ (fun _ h => h) (by simpa using hin), rfl⟩
      · rintro σ ⟨fd', s6', hpre, hfd', hcl', rfl⟩
        walk_at "ev"
        have hlen' := hpre.length_le
        refine ⟨fd', at' + 1, .d rw', s6', hfd', fun j hj y hy => ?_, by omega, by omega, rfl⟩
        have hpg : ∀ j, j < fd.length → fd'.getD j 0 = fd.getD j 0 := fun j hj => by
          rw [List.getD_eq_getElem?_getD, pre_get hpre (List.getElem?_eq_getElem hj), getD_lt 0 hj]; rfl
        by_cases e : j = at'
        · subst e
          rw [hpg j hlt', getD_lt 0 hlt']
          obtain ⟨i, hi, ei⟩ := List.getElem_of_mem hy
          have := hcl' i hi
          rw [getD_lt 0 hi, ei] at this
          exact this
        · rw [hpg j (by omega)]
          exact hpre.mem (hcl j (by omega) y hy)
    · refine .inr ⟨by rw [decide_eq_false hlt'], ?_⟩
      walk_at "ev"
      rw [hfd.sort]
      intro x hx y hy
      obtain ⟨i, hi, rfl⟩ := List.getElem_of_mem hx
      have := hcl i (by omega) y hy
      rw [getD_lt 0 hi] at this
      exact this
end DW


set_option Elab.async false
set_option linter.all false
set_option maxRecDepth 100000
set_option maxHeartbeats 4000000
namespace DW
open PySem PySem.Spec Ev
local macro_rules | `(tactic| walk_at "ev") => `(tactic| try simp only [p_sorted_b, p_sorted_f, p_sorted_l, p_all', p_any', c_inn_l, c_inn_t, c_ni_l, c_ni_t, w_comp2, w_body2, chain_n, last_n, wipe_nil, wipe_cons, bare_nil, bare_cons, bareS_u, bareS_d, Bool.and_self, Bool.and_true, Bool.true_and, asV_v, asV_f, map_get, map_last, range_get, c_ne_ff, c_ne_vf, c_ne_fv, c_eq_vf, c_eq_vv, c_eq_t, b_add_vv, b_add_vf, b_add_ff, b_add_fv, b_add_tt, w_dnewT, w_dispT, keyT_nL, disp_bl, w_din, din_t, w_dget, dget_t, getT_nL, s_dput', dput_t, put_nL, w_var, v_d, v_l, v_o, w_con, w_int0, w_int1, w_int, w_bl, w_str, w_non, w_bin, w_neg, w_not, w_and, w_or, w_ite, w_eq, w_ne, w_lt, w_le, w_gt, w_ge, w_inn, w_ni, w_isn, w_notn, w_chain, w_tup, w_lst, w_idx, w_slice, w_fld, w_call, w_make, w_meth, w_p1, w_p2, w_sm, w_isi, w_nil, w_cons, w_no, w_some, opt_int, if_t, if_f, if_bl, not_bl, neg_int, b_add, b_mul, pow_18, b_mod, b_fdiv, c_lt', c_le', c_gt', c_ge', c_eq', c_ne', p_len_l, p_len_t, p_len_n, p_len_f, p_len_b, p_len_s, p_int', p_list_l, p_list_t, p_list_n, p_list_f, p_list_b, p_tup_l, p_tup_t, p_tup_n, p_tup_f, p_tup_b, p_tpn_l, p_tpn_f, p_tpn_b, p_min', p_max', ok_ofB, ix_l, ix_t, ix_n, ix_f, ix_b, ix_scr, ixm_l, ixm_b, ixm_t, tup_some, lst_some, fld_ins, fld_o, call_some, call_lent, make_some, make_lent, av_nil, av_cv, av_cf, ad_nil, ad_cv, ad_cf, ad_cb, any_nil, any_cv, any_cf, any_cb, Option.map_some, ok_ok, ok_ofOpt, nx_nx, nx_ret, nx_bk, nx_ct, x_nil', x_cons', s_set', st_v', st_f', st_t', st_k', s_ret', bk_v', bk_f', bk_b', s_retN', s_ifs', s_frz', frz_l, frz_d, frz_u, frz_n, s_lm', lm_l, lm_app, lm_appf, s_setIdx', set_l, set_n, s_aug', aug_i, augX_n, s_expr', s_brk', s_cont', s_pass', s_fset', rd_nx, rd_ct, rd_bk, rd_ret, w_bodyD, bind1, bind2, i_r1', i_r2', i_seq, seq_l, seq_t, seq_n, seq_f, seq_b, w_rng1, w_comp, w_compF, w_bodyM, w_bodyF, List.getElem?_cons_zero, List.getElem?_cons_succ, List.set_cons_zero, List.set_cons_succ, List.length_cons, List.length_nil, List.length_map, List.length_range, Nat.zero_add, cap_eq, Nat.reduceAdd, Nat.reduceLeDiff, true_and, and_true, decide_eq_true_eq, decide_eq_false_iff_not, Bool.not_eq_true', Bool.not_eq_false', List.map_cons, List.map_nil, List.replicate_succ, List.replicate_zero, Nat.reduceSub, p_abs', Out.ret.injEq, RV.v.injEq, D.int.injEq, Int.natCast_inj, Out.nx.injEq, List.cons_append, List.nil_append, Option.some.injEq, exists_eq_left', reduceCtorEq, false_implies, true_implies])
theorem flats_nL (l : List Nat) : D.flats (nL l) = true := by
  induction l with
  | nil => rfl
  | cons x l ih => rw [nL, List.map_cons]; show ((iD x).flat && D.flats (nL l)) = true; rw [ih]; rfl
theorem rs_lt {n : Nat} {m : Nat → Nat → Nat} {ms : List Nat} : ∀ x ∈ rs n m ms, x < n := fun x hx => by
  unfold rs at hx; simpa using (List.mem_filter.mp hx).1
theorem sp_genm {Tx : Text} (h9 : Tx.fn 9 = some fd9) (h : Tx.fn 10 = some fd10) (n' : Nat) {n : Nat} {m : Nat → Nat → Nat} (hlt : ∀ {a b}, a < n → b < n → m a b < n) (h0 : 0 < n) (hn : n ≤ 1000) :
    ∃ c : List Nat, (∀ x ∈ c, x < n) ∧ (rt Tx (n' + 2)).call 10 [.lst (fT n m)] = .ok (.f (nL c)) := by
  have main : Ok (execB Tx.sub (rt Tx (n' + 1)) fd10.body ([D.lst (fT n m)].map Sl.d ++ List.replicate (fd10.ns - 1) .u)) (fun r => ∃ c : List Nat, (∀ x ∈ c, x < n) ∧ r = .ret (.f (nL c))) NoE := by
    unfold fd10
    walk_at "ev"
    refine ok_forN (n := n) (fun k σ => ∃ c f s3, c.length ≤ k ∧ (∀ x ∈ c, x < n) ∧ σ = [.d (.lst (fT n m)), .l (nL c), .d (.lst (nL f)), s3]) ?_ ?_ ?_ ?_
    · walk_at "ev"
      rw [r1_n (by omega)]
    · exact ⟨[], [0], .u, by simp, by simp, rfl⟩
    · rintro k σ hk ⟨c, f, s3, hcl, hc, rfl⟩
      have hc' : ∀ x ∈ c ++ [k], x < n := fun x hx => by
        rcases List.mem_append.mp hx with hx | hx
        · exact hc x hx
        · rw [List.mem_singleton.mp hx]; exact hk
      unfold lb12
      walk_at "ev"
      refine ⟨fun _ => ⟨by omega, ?_⟩, fun _ => ⟨c, f, .d (iD k), by omega, hc, rfl⟩⟩
      rw [nL_app, sp_reached h9 n' hlt h0 hn (.inl rfl) (.inl rfl) hc']
      walk_at "ev"
      exact ⟨flats_nL _, c ++ [k], rs n m (c ++ [k]), .d (iD k), by rw [List.length_append]; simp; omega, hc', rfl⟩
    · rintro σ ⟨c, f, s3, hcl, hc, rfl⟩
      walk_at "ev"
      exact ⟨c, hc, rfl⟩
  obtain ⟨c, h1, h2⟩ := main.ex
  exact ⟨c, h1, call_of h rfl (by decide) h2⟩
theorem fR_nL (n : Nat) (m : Nat → Nat → Nat) (a : Nat) : fR n m a = nL ((List.range n).map (m a)) := by unfold fR; rw [nL, List.map_map]; rfl
theorem sp_assoc {Tx : Text} (h9 : Tx.fn 9 = some fd9) (h10 : Tx.fn 10 = some fd10) (h : Tx.fn 11 = some fd11) (n' : Nat) {n : Nat} {m : Nat → Nat → Nat} (g : Grp n m) (hn : n ≤ 1000) :
    (rt Tx (n' + 3)).call 11 [.lst (fT n m)] = .ok (.v (.bl true)) := by
  obtain ⟨c, hc, hcall⟩ := sp_genm h9 h10 n' g.lt g.pos hn
  refine call_of h rfl (by decide) ?_
  unfold fd11
  walk_at "ev"
  refine ok_forL (l := c) (em := iD) (fun k σ => ∃ s1 s2, σ = [.d (.lst (fT n m)), s1, s2, .u]) ?_ ?_ ?_ ?_
  · walk_at "ev"
    rw [hcall]
    walk_at "ev"
  · exact ⟨.u, .u, rfl⟩
  · rintro k x σ hk ⟨s1, s2, rfl⟩
    have hx : x < n := hc x (by obtain ⟨h1, h2⟩ := List.getElem?_eq_some_iff.mp hk; rw [← h2]; exact List.getElem_mem h1)
    unfold lb14
    walk_at "ev"
    refine ok_forN (n := n) (fun k σ => ∃ s2, σ = [.d (.lst (fT n m)), .d (iD x), s2, .u]) ?_ ?_ ?_ ?_
    · walk_at "ev"
      rw [r1_n (by omega)]
    · exact ⟨s2, rfl⟩
    · rintro a σ ha ⟨s2, rfl⟩
      unfold lb13
      walk_at "ev"
      refine ⟨ha, ?_⟩
      walk_at "ev"
      refine ⟨hx, g.lt ha hx, ?_⟩
      walk_at "ev"
      refine ⟨hx, ?_⟩
      walk_at "ev"
      refine ⟨by omega, ok_mapR (l := List.range n) (em := fun b : Nat => iD (m x b)) (fun b => iD (m a (m x b))) (fun b hb => ?_) ?_⟩
      · have hb : b < n := by simpa using hb
        walk_at "ev"
        refine ⟨ha, ?_⟩
        walk_at "ev"
        exact g.lt hx hb
      · have e1 : (List.range n).map (fun b : Nat => iD (m a (m x b))) = fR n m (m a x) := by
          refine List.map_congr_left fun b hb => ?_
          rw [g.as ha hx (by simpa using hb)]
        rw [e1, fR_nL]
        walk_at "ev"
        exact ⟨fun z => (z trivial).elim, _, rfl⟩
    · rintro σ ⟨s2, rfl⟩
      walk_at "ev"
      exact ⟨_, s2, rfl⟩
  · rintro σ ⟨s1, s2, rfl⟩
    walk_at "ev"
theorem range_nodup_map {n : Nat} {f : Nat → Nat} (h : ∀ a b, a < n → b < n → f a = f b → a = b) : ((List.range n).map f).Nodup :=
  nodup_map List.nodup_range fun x hx y hy e => h x y (by simpa using hx) (by simpa using hy) e
section
variable {Q : RV → Prop} {E : Nat → List D → Prop}
theorem p_lenset {l : List Nat} (nd : l.Nodup) (hl : l.length ≤ 4000) : Ok (p1 .lenset (.v (.lst (nL l)))) Q E ↔ Q (.v (.int (l.length : Int))) := by
  unfold p1; dsimp only [RV.asL]; rw [ints_nL]; dsimp only
  rw [if_pos ⟨nodup_map nd fun x _ y _ h => by omega, by rw [List.length_map]; exact hl⟩, ok_ok, List.length_map]
theorem pl_str {s : Str} (h : PyData.strOk s = true) : Pl 1 (.str s) := ⟨by show PyData.canLay0 (.str s) = true; simp only [PyData.canLay0]; exact h, by show PyData.depth (.str s) ≤ 1; simp [PyData.depth]⟩
theorem c_ne_str {s t : Str} (hs : PyData.strOk s = true) (ht : PyData.strOk t = true) : Ok (cmpD .ne (.v (.str s)) (.v (.str t))) Q E ↔ Q (.v (.bl (!(s == t)))) := by
  show Ok (ofB ((deq (.str s) (.str t)).map (!·))) Q E ↔ _
  rw [deq_pl (pl_str hs) (pl_str ht) (by omega) (by omega)]
  have : PyData.eqv (toP (.str s)) (toP (.str t)) = (s == t) := by show PyData.eqv (.str s) (.str t) = _; rw [PyData.eqv]
  rw [this]; exact ok_ok _
theorem c_eq_str {s t : Str} (hs : PyData.strOk s = true) (ht : PyData.strOk t = true) : Ok (cmpD .eq (.v (.str s)) (.v (.str t))) Q E ↔ Q (.v (.bl (s == t))) := by
  show Ok (ofB (deq (.str s) (.str t))) Q E ↔ _
  rw [deq_pl (pl_str hs) (pl_str ht) (by omega) (by omega)]
  have : PyData.eqv (toP (.str s)) (toP (.str t)) = (s == t) := by show PyData.eqv (.str s) (.str t) = _; rw [PyData.eqv]
  rw [this]; exact ok_ok _
end
theorem p_all_true {Q : RV → Prop} {E : Nat → List D → Prop} {xs : List D} (h : ∀ d ∈ xs, d = .bl true) : Ok (p1 .all (.f xs)) Q E ↔ Q (.v (.bl true)) := by
  have e : xs.map (fun _ => D.bl true) = xs := (List.map_congr_left fun d hd => (h d hd).symm).trans (List.map_id' xs)
  rw [← e, p_all' xs fun _ => true]
  have : (xs.all fun _ => true) = true := by rw [List.all_eq_true]; exact fun _ _ => rfl
  rw [this]
theorem all_true {γ : Type} {l : List γ} : (l.all fun _ => true) = true := by simp
theorem sp_fault {Tx : Text} (h9 : Tx.fn 9 = some fd9) (h10 : Tx.fn 10 = some fd10) (h11 : Tx.fn 11 = some fd11) (h : Tx.fn 12 = some fd12) (n' : Nat) {n : Nat} {m : Nat → Nat → Nat} (g : Grp n m) (hn : n ≤ 1000) :
    (rt Tx (n' + 4)).call 12 [.lst (fT n m)] = .ok (.v (.str "")) := by
  have h0 := g.pos
  refine call_of h rfl (by decide) ?_
  unfold fd12
  walk_at "ev"
  refine ⟨fun z => by omega, fun _ => ⟨by omega, ok_mapR (l := List.range n) (em := fun a : Nat => .lst (fR n m a)) (fun _ => .bl true) (fun x hx => ?_) ?_⟩⟩
  · walk_at "ev"
    simp
  walk_at "ev"
  simp only [all_true]
  walk_at "ev"
  refine ok_mapG (l := List.range n) (em := fun a : Nat => .lst (fR n m a)) (fun _ => (List.range n).map fun _ : Nat => D.bl true) (fun a ha => ?_) ?_
  · have ha : a < n := by simpa using ha
    walk_at "ev"
    refine ok_mapR (l := List.range n) (em := fun b : Nat => iD (m a b)) (fun _ => .bl true) (fun b hb => ?_) rfl
    have hb : b < n := by simpa using hb
    walk_at "ev"
    refine ⟨fun _ => ?_, fun z => (z (Nat.zero_le _)).elim⟩
    rw [decide_eq_true (g.lt ha hb)]
  refine ⟨?_, ?_⟩
  · simp only [List.length_flatten, List.map_map]
    have : ((List.range n).map (List.length ∘ fun _ : Nat => (List.range n).map fun _ : Nat => D.bl true)) = List.replicate n n := by
      rw [List.eq_replicate_iff]; simp
    rw [this, List.sum_replicate_nat]
    exact Nat.mul_le_mul hn hn
  rw [p_all_true (fun d hd => by
    obtain ⟨l, hl, hd⟩ := List.mem_flatten.mp hd
    obtain ⟨_, _, rfl⟩ := List.mem_map.mp hl
    obtain ⟨_, _, rfl⟩ := List.mem_map.mp hd
    rfl)]
  walk_at "ev"
  refine ⟨h0, ?_⟩
  walk_at "ev"
  rw [rng_n (by omega)]
  have er : (if false = true then RV.v (.tup (rg n)) else .f (rg n)) = .f (nL (List.range n)) := rfl
  have e0 : (List.range n).map (m 0) = List.range n := (List.map_congr_left fun b hb => g.ol (by simpa using hb)).trans (List.map_id _)
  have e1 : (List.range n).map (fun a => m a 0) = List.range n := (List.map_congr_left fun b hb => g.or (by simpa using hb)).trans (List.map_id _)
  rw [er, fR_nL, e0]
  walk_at "ev"
  refine ⟨fun z => (z trivial).elim, by omega, ok_mapR (l := List.range n) (em := fun a : Nat => .lst (fR n m a)) (fun a => iD (m a 0)) (fun a ha => ?_) ?_⟩
  · walk_at "ev"
    exact h0
  have e2 : ((List.range n).map fun a : Nat => iD (m a 0)) = nL (List.range n) := by
    have : nL (List.range n) = nL ((List.range n).map (fun a => m a 0)) := by rw [e1]
    rw [this, nL, List.map_map]; rfl
  rw [e2, rng_n (by omega), er]
  walk_at "ev"
  refine ⟨fun z => (z trivial).elim, ?_⟩
  rw [r1_n (by omega)]
  walk_at "ev"
  refine ⟨by omega, ok_mapR (l := List.range n) (em := iD) (fun c => .lst (nL ((List.range n).map fun a => m a c))) (fun c hc => ?_) ?_⟩
  · have hc : c < n := by simpa using hc
    walk_at "ev"
    refine ⟨by omega, ok_mapR (l := List.range n) (em := fun a : Nat => .lst (fR n m a)) (fun a => iD (m a c)) (fun a ha => ?_) ?_⟩
    · walk_at "ev"
      exact hc
    · rw [nL, List.map_map]; rfl
  walk_at "ev"
  let lines : List (List Nat) := (List.range n).map (fun a => (List.range n).map (m a)) ++ (List.range n).map (fun c => (List.range n).map fun a => m a c)
  have e3 : fT n m ++ (List.range n).map (fun c => D.lst (nL ((List.range n).map fun a => m a c))) = lines.map fun l => D.lst (nL l) := by
    show _ = List.map _ (_ ++ _)
    rw [List.map_append, List.map_map, List.map_map]
    refine congrArg (· ++ _) (List.map_congr_left fun a _ => ?_)
    rw [fR_nL]; rfl
  have hline : ∀ l ∈ lines, l.Nodup ∧ l.length = n := fun l hl => by
    rcases List.mem_append.mp hl with hl | hl
    · obtain ⟨a, ha, rfl⟩ := List.mem_map.mp hl
      exact ⟨range_nodup_map fun x y hx hy e => g.cancel_l (by simpa using ha) hx hy e, by simp⟩
    · obtain ⟨a, ha, rfl⟩ := List.mem_map.mp hl
      exact ⟨range_nodup_map fun x y hx hy e => g.cancel_r (by simpa using ha) hx hy e, by simp⟩
  rw [e3]
  have hll : (lines.map fun l => D.lst (nL l)).length = n + n := by rw [← e3]; simp
  refine ⟨by omega, by rw [hll]; omega, ok_mapR (l := lines) (em := fun l => .lst (nL l)) (fun _ => .bl true) (fun l hl => ?_) ?_⟩
  · obtain ⟨nd, ln⟩ := hline l hl
    walk_at "ev"
    rw [p_lenset nd (by omega), ln]
    walk_at "ev"
    simp
  rw [p_all_true (fun d hd => by obtain ⟨_, _, rfl⟩ := List.mem_map.mp hd; rfl)]
  walk_at "ev"
  rw [sp_assoc h9 h10 h11 n' g hn]
  walk_at "ev"
/-! ### the group that is made -/
abbrev grpD (n : Nat) (m : Nat → Nat → Nat) : D := .ins 0 [rowsT n m, .int n, .tup ((List.range n).map fun a : Nat => iD (ivf n m a))]
theorem rt_con (Tx : Text) (n k : Nat) : (rt Tx n).con k = Tx.con k := by cases n <;> rfl
theorem find_fR {n : Nat} {m : Nat → Nat → Nat} (g : Grp n m) {a : Nat} (ha : a < n) : findS (iD 0) (fR n m a) = some (ivf n m a) := by
  rw [fR_nL, find_nL, List.findIdx?_eq_some_iff_getElem]
  refine ⟨by simpa using g.iv_lt ha, by simp [g.iv_r ha], fun j hj => ?_⟩
  simp only [List.getElem_map, List.getElem_range]
  intro z
  have hjn : j < n := Nat.lt_trans hj (g.iv_lt ha)
  have := g.cancel_l ha hjn (g.iv_lt ha) ((by simpa using z : m a j = 0).trans (g.iv_r ha).symm)
  omega
theorem sm_index {Q : RV → Prop} {E : Nat → List D → Prop} {x : RV} {n : Nat} {m : Nat → Nat → Nat} (g : Grp n m) {a : Nat} (ha : a < n) (h : x.asX = some (fR n m a)) : Ok (sm .index x (.v (.int ((0 : Nat) : Int)))) Q E ↔ Q (.v (iD (ivf n m a))) := by
  have hs : (fR n m a).all scalar = true := by rw [fR_nL]; exact scal_nL _
  unfold sm
  rw [h]
  dsimp only
  rw [hs]
  have : findS (.int ((0 : Nat) : Int)) (fR n m a) = some (ivf n m a) := find_fR g ha
  rw [this]; exact ok_ok _
theorem sp_group {Tx : Text} (h9 : Tx.fn 9 = some fd9) (h10 : Tx.fn 10 = some fd10) (h11 : Tx.fn 11 = some fd11) (h12 : Tx.fn 12 = some fd12) (h : Tx.fn 13 = some fd13) (hi : Tx.init 0 = some (13, 3)) (hc : Tx.con 0 = some (.int 60)) (n' : Nat) {n : Nat} {m : Nat → Nat → Nat} (g : Grp n m) (hn : n ≤ 60) :
    (rt Tx (n' + 5)).new 0 [.lst (fT n m)] = .ok (grpD n m) := by
  refine new_of hi h rfl (by decide) rfl ?_
  unfold fd13
  walk_at "ev"
  refine ⟨_, by rw [rt_con]; exact hc, ?_⟩
  have e60 : (60 : Int) = ((60 : Nat) : Int) := rfl
  rw [e60]
  walk_at "ev"
  refine ⟨fun z => by omega, fun _ => ?_⟩
  rw [sp_fault h9 h10 h11 h12 n' g (by omega)]
  walk_at "ev"
  have hs0 : PyData.strOk (Str.ofString "") = true := by decide +kernel
  rw [c_ne_str hs0 hs0]
  simp only [beq_self_eq_true, Bool.not_true]
  walk_at "ev"
  refine ⟨by omega, ok_mapR (l := List.range n) (em := fun a : Nat => .lst (fR n m a)) (fun a => .tpn (fR n m a)) (fun a ha => ?_) ?_⟩
  · walk_at "ev"
  walk_at "ev"
  refine ⟨rfl, by omega, ok_mapR (l := List.range n) (em := fun a : Nat => .tpn (fR n m a)) (fun a => iD (ivf n m a)) (fun a ha => ?_) ?_⟩
  · walk_at "ev"
    refine ⟨_, rfl, ?_⟩
    rw [sm_index g (by simpa using ha) rfl]
    walk_at "ev"
  · walk_at "ev"
    exact ⟨_, rfl⟩
end DW


set_option Elab.async false
set_option linter.all false
set_option maxRecDepth 100000
set_option maxHeartbeats 4000000
namespace DW
open PySem PySem.Spec Ev
/-! ## series of a group: plain Lean -/
open Classical in
noncomputable def fl (n : Nat) (P : Nat → Prop) : List Nat := (List.range n).filter fun k => decide (P k)
theorem fl_mem {n : Nat} {P : Nat → Prop} {x : Nat} : x ∈ fl n P ↔ x < n ∧ P x := by
  unfold fl; rw [List.mem_filter, List.mem_range]
  exact and_congr_right fun _ => ⟨fun q => @of_decide_eq_true _ (Classical.propDecidable _) q, fun q => @decide_eq_true _ (Classical.propDecidable _) q⟩
theorem fl_congr {n : Nat} {P Q : Nat → Prop} (h : ∀ x, x < n → (P x ↔ Q x)) : fl n P = fl n Q := by
  unfold fl
  refine List.filter_congr fun x hx => ?_
  have : P x = Q x := propext (h x (by simpa using hx))
  rw [this]
theorem fl_eq_iff {n : Nat} {P Q : Nat → Prop} : fl n P = fl n Q ↔ ∀ x, x < n → (P x ↔ Q x) :=
  ⟨fun h x hx => by
    have h1 : x ∈ fl n P ↔ x ∈ fl n Q := by rw [h]
    rw [fl_mem, fl_mem] at h1
    exact ⟨fun p => (h1.mp ⟨hx, p⟩).2, fun p => (h1.mpr ⟨hx, p⟩).2⟩, fl_congr⟩
theorem fl_nodup (n : Nat) (P : Nat → Prop) : (fl n P).Nodup := List.nodup_range.filter _
theorem fl_len (n : Nat) (P : Nat → Prop) : (fl n P).length ≤ n := by
  have := List.length_filter_le (fun k => @decide (P k) (Classical.propDecidable _)) (List.range n)
  rw [List.length_range] at this; exact this
theorem rs_fl (n : Nat) (m : Nat → Nat → Nat) (ms : List Nat) : rs n m ms = fl n (Rch m ms) := rfl
/-- [a, b], and a^b -/
def br (n : Nat) (m : Nat → Nat → Nat) (a b : Nat) : Nat := m (ivf n m (m b a)) (m a b)
def cj (n : Nat) (m : Nat → Nat → Nat) (a g : Nat) : Nat := m (ivf n m g) (m a g)
section
variable {n : Nat} {m : Nat → Nat → Nat}
theorem Grp.il (g : Grp n m) {a b : Nat} (ha : a < n) (hb : b < n) : m (ivf n m a) (m a b) = b := by rw [← g.as (g.iv_lt ha) ha hb, g.iv_l ha, g.ol hb]
theorem Grp.ir (g : Grp n m) {a b : Nat} (ha : a < n) (hb : b < n) : m a (m (ivf n m a) b) = b := by rw [← g.as ha (g.iv_lt ha) hb, g.iv_r ha, g.ol hb]
theorem br_lt (g : Grp n m) {a b : Nat} (ha : a < n) (hb : b < n) : br n m a b < n := g.lt (g.iv_lt (g.lt hb ha)) (g.lt ha hb)
theorem cj_lt (g : Grp n m) {a b : Nat} (ha : a < n) (hb : b < n) : cj n m a b < n := g.lt (g.iv_lt hb) (g.lt ha hb)
/-! words over a group: all that hold are found by rewriting -/
structure Wg (α : Type) where
  m : α → α → α
  i : α → α
  e : α
  as : ∀ a b c, m (m a b) c = m a (m b c)
  el : ∀ a, m e a = a
  er : ∀ a, m a e = a
  il : ∀ a, m (i a) a = e
  ir : ∀ a, m a (i a) = e
  ill : ∀ a b, m (i a) (m a b) = b
  irl : ∀ a b, m a (m (i a) b) = b
  im : ∀ a b, i (m a b) = m (i b) (i a)
  ii : ∀ a, i (i a) = a
  ie : i e = e
def Wg.br {α : Type} (w : Wg α) (a b : α) : α := w.m (w.i (w.m b a)) (w.m a b)
def Wg.cj {α : Type} (w : Wg α) (a g : α) : α := w.m (w.i g) (w.m a g)
def Grp.wg (g : Grp n m) : Wg {a : Nat // a < n} where
  m a b := ⟨m a.1 b.1, g.lt a.2 b.2⟩
  i a := ⟨ivf n m a.1, g.iv_lt a.2⟩
  e := ⟨0, g.pos⟩
  as a b c := Subtype.ext (g.as a.2 b.2 c.2)
  el a := Subtype.ext (g.ol a.2)
  er a := Subtype.ext (g.or a.2)
  il a := Subtype.ext (g.iv_l a.2)
  ir a := Subtype.ext (g.iv_r a.2)
  ill a b := Subtype.ext (g.il a.2 b.2)
  irl a b := Subtype.ext (g.ir a.2 b.2)
  im a b := Subtype.ext (g.iv_mul a.2 b.2)
  ii a := Subtype.ext (g.iv_iv a.2)
  ie := Subtype.ext g.iv_0
section
variable {α : Type} (w : Wg α) (a b c g : α)
theorem Wg.i1 : w.br (w.m a b) c = w.m (w.cj (w.br a c) b) (w.br b c) := by simp only [Wg.br, Wg.cj, w.as, w.el, w.er, w.il, w.ir, w.ill, w.irl, w.im, w.ii, w.ie]
theorem Wg.i2 : w.br a (w.m b c) = w.m (w.br a c) (w.cj (w.br a b) c) := by simp only [Wg.br, Wg.cj, w.as, w.el, w.er, w.il, w.ir, w.ill, w.irl, w.im, w.ii, w.ie]
theorem Wg.i3 : w.i (w.br a b) = w.br b a := by simp only [Wg.br, Wg.cj, w.as, w.el, w.er, w.il, w.ir, w.ill, w.irl, w.im, w.ii, w.ie]
theorem Wg.i4 : w.br (w.i a) b = w.cj (w.br b a) (w.i a) := by simp only [Wg.br, Wg.cj, w.as, w.el, w.er, w.il, w.ir, w.ill, w.irl, w.im, w.ii, w.ie]
theorem Wg.i5 : w.br (w.cj a g) b = w.cj (w.br a (w.cj b (w.i g))) g := by simp only [Wg.br, Wg.cj, w.as, w.el, w.er, w.il, w.ir, w.ill, w.irl, w.im, w.ii, w.ie]
theorem Wg.i6 : w.br a b = w.m (w.i a) (w.cj a b) := by simp only [Wg.br, Wg.cj, w.as, w.el, w.er, w.il, w.ir, w.ill, w.irl, w.im, w.ii, w.ie]
theorem Wg.i7 : w.cj (w.cj a g) (w.i g) = a := by simp only [Wg.br, Wg.cj, w.as, w.el, w.er, w.il, w.ir, w.ill, w.irl, w.im, w.ii, w.ie]
theorem Wg.i8 : w.br b a = w.br (w.i a) (w.cj b a) := by simp only [Wg.br, Wg.cj, w.as, w.el, w.er, w.il, w.ir, w.ill, w.irl, w.im, w.ii, w.ie]
theorem Wg.i9 : w.cj (w.br a b) g = w.br (w.cj a g) (w.cj b g) := by simp only [Wg.br, Wg.cj, w.as, w.el, w.er, w.il, w.ir, w.ill, w.irl, w.im, w.ii, w.ie]
theorem Wg.i10 : w.cj (w.m a b) g = w.m (w.cj a g) (w.cj b g) := by simp only [Wg.br, Wg.cj, w.as, w.el, w.er, w.il, w.ir, w.ill, w.irl, w.im, w.ii, w.ie]
theorem Wg.i11 : w.br a b = w.m (w.cj (w.i b) a) b := by simp only [Wg.br, Wg.cj, w.as, w.el, w.er, w.il, w.ir, w.ill, w.irl, w.im, w.ii, w.ie]
theorem Wg.i12 : w.br w.e a = w.e := by simp only [Wg.br, Wg.cj, w.as, w.el, w.er, w.il, w.ir, w.ill, w.irl, w.im, w.ii, w.ie]
theorem Wg.i13 : w.cj w.e a = w.e := by simp only [Wg.br, Wg.cj, w.as, w.el, w.er, w.il, w.ir, w.ill, w.irl, w.im, w.ii, w.ie]
theorem Wg.i14 : w.br a w.e = w.e := by simp only [Wg.br, Wg.cj, w.as, w.el, w.er, w.il, w.ir, w.ill, w.irl, w.im, w.ii, w.ie]
theorem Wg.hw (x y z : α) : w.br (w.br y z) x = w.cj (w.i (w.m (w.cj (w.br (w.br (w.i z) (w.i x)) y) x) (w.cj (w.br (w.br x (w.i y)) (w.i z)) y))) z := by simp only [Wg.br, Wg.cj, w.as, w.el, w.er, w.il, w.ir, w.ill, w.irl, w.im, w.ii, w.ie]
end
/-! ### normal subgroups -/
structure NS (n : Nat) (m : Nat → Nat → Nat) (N : Nat → Prop) : Prop where
  lt : ∀ {x}, N x → x < n
  z : N 0
  mul : ∀ {x y}, N x → N y → N (m x y)
  inv : ∀ {x}, N x → N (ivf n m x)
  cj : ∀ {x g}, N x → g < n → N (DW.cj n m x g)
theorem NS.cj' (g : Grp n m) {N : Nat → Prop} (h : NS n m N) {x y : Nat} (hx : x < n) (hy : y < n) (q : N (DW.cj n m x y)) : N x := by
  have := h.cj q (g.iv_lt hy)
  have e : DW.cj n m (DW.cj n m x y) (ivf n m y) = x := congrArg Subtype.val (Wg.i7 g.wg ⟨x, hx⟩ ⟨y, hy⟩)
  rw [e] at this; exact this
theorem NS.brl (g : Grp n m) {N : Nat → Prop} (h : NS n m N) {a b : Nat} (ha : N a) (hb : b < n) : N (br n m a b) := by
  have e : br n m a b = m (ivf n m a) (DW.cj n m a b) := congrArg Subtype.val (Wg.i6 g.wg ⟨a, h.lt ha⟩ ⟨b, hb⟩)
  rw [e]; exact h.mul (h.inv ha) (h.cj ha hb)
theorem NS.brr (g : Grp n m) {N : Nat → Prop} (h : NS n m N) {a b : Nat} (ha : a < n) (hb : N b) : N (br n m a b) := by
  have e : br n m a b = m (DW.cj n m (ivf n m b) a) b := congrArg Subtype.val (Wg.i11 g.wg ⟨a, ha⟩ ⟨b, h.lt hb⟩)
  rw [e]; exact h.mul (h.cj (h.inv hb) ha) hb
theorem NS.flip (g : Grp n m) {N : Nat → Prop} (h : NS n m N) {a b : Nat} (ha : a < n) (hb : b < n) (q : N (br n m a b)) : N (br n m b a) := by
  have e : ivf n m (br n m a b) = br n m b a := congrArg Subtype.val (Wg.i3 g.wg ⟨a, ha⟩ ⟨b, hb⟩)
  rw [← e]; exact h.inv q
/-- the upper series -/
def US (n : Nat) (m : Nat → Nat → Nat) : Nat → Nat → Prop
  | 0, x => x = 0
  | k + 1, x => x < n ∧ ∀ b, b < n → US n m k (br n m x b)
theorem US_ns (g : Grp n m) : ∀ k, NS n m (US n m k)
  | 0 => ⟨fun h => by rw [show _ = 0 from h]; exact g.pos, rfl, fun {x y} hx hy => by rw [show x = 0 from hx, show y = 0 from hy]; exact g.ol g.pos, fun {x} hx => by rw [show x = 0 from hx]; exact g.iv_0, fun {x b} hx hb => by
      rw [show x = 0 from hx]
      exact (congrArg Subtype.val (Wg.i13 g.wg ⟨b, hb⟩) : DW.cj n m 0 b = 0)⟩
  | k + 1 => by
    have ih := US_ns g k
    refine ⟨fun h => h.1, ⟨g.pos, fun b hb => ?_⟩, fun {x y} hx hy => ⟨g.lt hx.1 hy.1, fun b hb => ?_⟩, fun {x} hx => ⟨g.iv_lt hx.1, fun b hb => ?_⟩, fun {x y} hx hy => ⟨cj_lt g hx.1 hy, fun b hb => ?_⟩⟩
    · have e : br n m 0 b = 0 := congrArg Subtype.val (Wg.i12 g.wg ⟨b, hb⟩)
      rw [e]; exact ih.z
    · have e : br n m (m x y) b = m (DW.cj n m (br n m x b) y) (br n m y b) := congrArg Subtype.val (Wg.i1 g.wg ⟨x, hx.1⟩ ⟨y, hy.1⟩ ⟨b, hb⟩)
      rw [e]; exact ih.mul (ih.cj (hx.2 b hb) hy.1) (hy.2 b hb)
    · have e : br n m (ivf n m x) b = DW.cj n m (br n m b x) (ivf n m x) := congrArg Subtype.val (Wg.i4 g.wg ⟨x, hx.1⟩ ⟨b, hb⟩)
      rw [e]; exact ih.cj (ih.flip g hx.1 hb (hx.2 b hb)) (g.iv_lt hx.1)
    · have e : br n m (DW.cj n m x y) b = DW.cj n m (br n m x (DW.cj n m b (ivf n m y))) y := congrArg Subtype.val (Wg.i5 g.wg ⟨x, hx.1⟩ ⟨b, hb⟩ ⟨y, hy⟩)
      rw [e]; exact ih.cj (hx.2 _ (cj_lt g hb (g.iv_lt hy))) hy
theorem US_up (g : Grp n m) (k : Nat) {x : Nat} (h : US n m k x) : US n m (k + 1) x := ⟨(US_ns g k).lt h, fun _ hb => (US_ns g k).brl g h hb⟩
/-- commutators of all members and those of S -/
def Cm (n : Nat) (m : Nat → Nat → Nat) (S : Nat → Prop) (x : Nat) : Prop := ∃ a, a < n ∧ ∃ b, b < n ∧ S b ∧ x = br n m a b
theorem Rch.lt (g : Grp n m) {ms : List Nat} (h : ∀ y ∈ ms, y < n) {x : Nat} (r : Rch m ms x) : x < n := by
  induction r with
  | z => exact g.pos
  | st _ hy ih => exact g.lt ih (h _ hy)
theorem Rch.mul (g : Grp n m) {ms : List Nat} (h : ∀ y ∈ ms, y < n) {x y : Nat} (rx : Rch m ms x) (ry : Rch m ms y) : Rch m ms (m x y) := by
  induction ry with
  | z => rw [g.or (rx.lt g h)]; exact rx
  | st r hy ih => rw [← g.as (rx.lt g h) (r.lt g h) (h _ hy)]; exact .st ih hy
theorem Rch.one (g : Grp n m) {ms : List Nat} (h : ∀ y ∈ ms, y < n) {x : Nat} (hx : x ∈ ms) : Rch m ms x := by
  have := Rch.st (m := m) Rch.z hx
  rw [g.ol (h x hx)] at this; exact this
/-- what commutators generate -/
theorem gen_ns (g : Grp n m) {S : Nat → Prop} (hS : NS n m S) : NS n m (Rch m (fl n (Cm n m S))) := by
  have hl : ∀ y ∈ fl n (Cm n m S), y < n := fun y hy => (fl_mem.mp hy).1
  refine ⟨fun r => r.lt g hl, .z, fun rx ry => rx.mul g hl ry, fun {x} rx => ?_, fun {x y} rx hy => ?_⟩
  · induction rx with
    | z => rw [g.iv_0]; exact .z
    | @st x c r hc ih =>
      rw [g.iv_mul (r.lt g hl) (hl _ hc)]
      refine Rch.mul g hl (Rch.one g hl ?_) ih
      rw [fl_mem] at hc ⊢
      obtain ⟨h1, a, ha, b, hb, hs, rfl⟩ := hc
      refine ⟨g.iv_lt h1, ivf n m a, g.iv_lt ha, DW.cj n m b a, cj_lt g hb ha, hS.cj hs ha, ?_⟩
      have e1 : ivf n m (br n m a b) = br n m b a := congrArg Subtype.val (Wg.i3 g.wg ⟨a, ha⟩ ⟨b, hb⟩)
      have e2 : br n m b a = br n m (ivf n m a) (DW.cj n m b a) := congrArg Subtype.val (Wg.i8 g.wg ⟨a, ha⟩ ⟨b, hb⟩)
      rw [e1, e2]
  · induction rx with
    | z =>
      have e : DW.cj n m 0 y = 0 := congrArg Subtype.val (Wg.i13 g.wg ⟨y, hy⟩)
      rw [e]; exact .z
    | @st x c r hc ih =>
      have e : DW.cj n m (m x c) y = m (DW.cj n m x y) (DW.cj n m c y) := congrArg Subtype.val (Wg.i10 g.wg ⟨x, r.lt g hl⟩ ⟨c, hl _ hc⟩ ⟨y, hy⟩)
      rw [e]
      refine .st ih ?_
      rw [fl_mem] at hc ⊢
      obtain ⟨h1, a, ha, b, hb, hs, rfl⟩ := hc
      refine ⟨cj_lt g h1 hy, DW.cj n m a y, cj_lt g ha hy, DW.cj n m b y, cj_lt g hb hy, hS.cj hs hy, ?_⟩
      exact congrArg Subtype.val (Wg.i9 g.wg ⟨a, ha⟩ ⟨b, hb⟩ ⟨y, hy⟩)
/-- the lower series, from the whole group -/
def LS (n : Nat) (m : Nat → Nat → Nat) : Nat → Nat → Prop
  | 0, x => x < n
  | k + 1, x => Rch m (fl n (Cm n m (LS n m k))) x
theorem LS_ns (g : Grp n m) : ∀ k, NS n m (LS n m k)
  | 0 => ⟨fun h => h, g.pos, fun hx hy => g.lt hx hy, fun hx => g.iv_lt hx, fun hx hg => cj_lt g hx hg⟩
  | k + 1 => gen_ns g (LS_ns g k)
/-- into a subgroup goes what goes there of the commutators -/
theorem gen_sub (g : Grp n m) {S N : Nat → Prop} (hN : NS n m N) (h : ∀ a b, a < n → S b → b < n → N (br n m a b)) {x : Nat} (r : Rch m (fl n (Cm n m S)) x) : N x := by
  induction r with
  | z => exact hN.z
  | st _ hy ih =>
    obtain ⟨_, a, ha, b, hb, hs, rfl⟩ := fl_mem.mp hy
    exact hN.mul ih (h a b ha hs hb)
theorem LS_down (g : Grp n m) (k : Nat) {x : Nat} (h : LS n m (k + 1) x) : LS n m k x := gen_sub g (LS_ns g k) (fun a b ha hs hb => (LS_ns g k).brr g ha hs) h
theorem LS_br (g : Grp n m) (k : Nat) {a b : Nat} (ha : a < n) (hb : LS n m k b) : LS n m (k + 1) (br n m a b) := by
  have hl : ∀ y ∈ fl n (Cm n m (LS n m k)), y < n := fun y hy => (fl_mem.mp hy).1
  exact Rch.one g hl (fl_mem.mpr ⟨br_lt g ha ((LS_ns g k).lt hb), a, ha, b, (LS_ns g k).lt hb, hb, rfl⟩)
theorem US_mono (g : Grp n m) {i j : Nat} (h : i ≤ j) {x : Nat} (hx : US n m i x) : US n m j x := by
  induction h with
  | refl => exact hx
  | step _ ih => exact US_up g _ ih
theorem LS_anti (g : Grp n m) {i j : Nat} (h : i ≤ j) {x : Nat} (hx : LS n m j x) : LS n m i x := by
  induction h with
  | refl => exact hx
  | step _ ih => exact ih (LS_down g _ hx)
theorem class_ul (g : Grp n m) {c : Nat} (h : ∀ x, x < n → US n m c x) : ∀ k, k ≤ c → ∀ x, LS n m k x → US n m (c - k) x
  | 0, _, x, hx => h x hx
  | k + 1, hk, x, hx => by
    refine gen_sub g (US_ns g _) (fun a b ha hs hb => ?_) hx
    have := class_ul g h k (by omega) b hs
    rw [show c - k = (c - (k + 1)) + 1 by omega] at this
    exact (US_ns g _).flip g hb ha (this.2 a ha)
theorem class_lu (g : Grp n m) {c : Nat} (h : ∀ x, LS n m c x → x = 0) : ∀ k, k ≤ c → ∀ x, LS n m (c - k) x → US n m k x
  | 0, _, x, hx => h x hx
  | k + 1, hk, x, hx => by
    refine ⟨(LS_ns g _).lt hx, fun b hb => ?_⟩
    have h1 := LS_br g (c - (k + 1)) hb hx
    rw [show c - (k + 1) + 1 = c - k by omega] at h1
    have := class_lu g h k (by omega) _ h1
    exact (US_ns g _).flip g hb ((LS_ns g _).lt hx) this
/-- [U(i), L(j + 1)] is in U(i - j - 1) -/
theorem ul_br (g : Grp n m) : ∀ j i, j + 1 ≤ i → ∀ a b, US n m i a → LS n m j b → US n m (i - (j + 1)) (br n m a b)
  | 0, i, hi, a, b, ha, hb => by
    rw [show i = (i - (0 + 1)) + 1 by omega] at ha
    exact ha.2 b hb
  | j + 1, i, hi, a, b, ha, hb => by
    have ih := ul_br g j
    have hN := US_ns g (i - (j + 1 + 1))
    have hU := US_ns g i
    have hL := LS_ns g j
    have han : a < n := hU.lt ha
    have hl : ∀ y ∈ fl n (Cm n m (LS n m j)), y < n := fun y hy => (fl_mem.mp hy).1
    have key : ∀ c, Cm n m (LS n m j) c → US n m (i - (j + 1 + 1)) (br n m a c) := by
      rintro c ⟨y, hy, z, hz, hzl, rfl⟩
      refine hN.flip g (br_lt g hy hz) han ?_
      have e : br n m (br n m y z) a = cj n m (ivf n m (m (cj n m (br n m (br n m (ivf n m z) (ivf n m a)) y) a) (cj n m (br n m (br n m a (ivf n m y)) (ivf n m z)) y))) z := congrArg Subtype.val (Wg.hw g.wg ⟨a, han⟩ ⟨y, hy⟩ ⟨z, hz⟩)
      rw [e]
      refine hN.cj (hN.inv (hN.mul (hN.cj ?_ han) (hN.cj ?_ hy))) hz
      · have h1 := ih i (by omega) (ivf n m a) (ivf n m z) (hU.inv ha) (hL.inv hzl)
        have h2 := (US_ns g (i - (j + 1))).flip g (g.iv_lt han) (g.iv_lt hz) h1
        rw [show i - (j + 1) = (i - (j + 1 + 1)) + 1 by omega] at h2
        exact h2.2 y hy
      · have h1 : US n m (i - 1) (br n m a (ivf n m y)) := by
          have ha' := ha
          rw [show i = (i - 1) + 1 by omega] at ha'
          exact ha'.2 _ (g.iv_lt hy)
        have h2 := ih (i - 1) (by omega) _ (ivf n m z) h1 (hL.inv hzl)
        rw [show i - 1 - (j + 1) = i - (j + 1 + 1) by omega] at h2
        exact h2
    have hb' : Rch m (fl n (Cm n m (LS n m j))) b := hb
    clear hb
    induction hb' with
    | z =>
      have e : br n m a 0 = 0 := congrArg Subtype.val (Wg.i14 g.wg ⟨a, han⟩)
      rw [e]; exact hN.z
    | @st x c r hc ih2 =>
      have e : br n m a (m x c) = m (br n m a c) (cj n m (br n m a x) c) := congrArg Subtype.val (Wg.i2 g.wg ⟨a, han⟩ ⟨x, r.lt g hl⟩ ⟨c, hl _ hc⟩)
      rw [e]
      exact hN.mul (key c (fl_mem.mp hc).2) (hN.cj ih2 (hl _ hc))
/-! ### where the series stay -/
noncomputable abbrev lowL (n : Nat) (m : Nat → Nat → Nat) (k : Nat) : List Nat := fl n (LS n m k)
noncomputable abbrev upL (n : Nat) (m : Nat → Nat → Nat) (k : Nat) : List Nat := fl n (US n m k)
end
theorem sub_len : ∀ {l1 l2 : List Nat}, l1.Nodup → (∀ x ∈ l1, x ∈ l2) → l1.length ≤ l2.length
  | [], _, _, _ => Nat.zero_le _
  | x :: t, l2, nd, h => by
    have nd' := List.nodup_cons.mp nd
    have hx := h x List.mem_cons_self
    have len := List.length_erase_of_mem hx
    have := sub_len (l1 := t) (l2 := l2.erase x) nd'.2 fun z hz => (List.mem_erase_of_ne (fun q => nd'.1 (by rw [← q]; exact hz))).mpr (h z (List.mem_cons_of_mem _ hz))
    have pos : 0 < l2.length := List.length_pos_of_mem hx
    rw [List.length_cons]; omega
theorem fl_lt {n : Nat} {P Q : Nat → Prop} (h : ∀ x, x < n → P x → Q x) (ne : fl n P ≠ fl n Q) : (fl n P).length < (fl n Q).length := by
  have h1 : ∀ x ∈ fl n P, x ∈ fl n Q := fun x hx => by rw [fl_mem] at hx ⊢; exact ⟨hx.1, h x hx.1 hx.2⟩
  have h2 := sub_len (fl_nodup n P) h1
  by_cases hc : (fl n P).length < (fl n Q).length
  · exact hc
  · exfalso
    refine ne (fl_congr fun x hx => ⟨h x hx, fun q => ?_⟩)
    exact (fl_mem.mp (pigeon (fl_nodup n P) h1 (by omega) x (fl_mem.mpr ⟨hx, q⟩))).2
theorem least_of {P : Nat → Prop} {K : Nat} (h : P K) : ∃ k, k ≤ K ∧ P k ∧ ∀ j, j < k → ¬ P j := by
  induction K using Nat.strongRecOn with
  | ind K ih =>
    by_cases q : ∃ j, j < K ∧ P j
    · obtain ⟨j, hj, hp⟩ := q
      obtain ⟨k, h1, h2⟩ := ih j hj hp
      exact ⟨k, by omega, h2⟩
    · exact ⟨K, Nat.le_refl _, h, fun j hj hp => q ⟨j, hj, hp⟩⟩
/-- the first place where a series stays -/
structure Stay (s : Nat → List Nat) (K : Nat) : Prop where
  eq : s (K + 1) = s K
  ne : ∀ j, j < K → s (j + 1) ≠ s j
section
variable {n : Nat} {m : Nat → Nat → Nat}
theorem low_stay (g : Grp n m) : ∃ K, K < n ∧ Stay (lowL n m) K := by
  by_cases h : ∃ K, K < n ∧ lowL n m (K + 1) = lowL n m K
  · obtain ⟨K, hK, e⟩ := h
    obtain ⟨k, h1, h2, h3⟩ := least_of (P := fun k => lowL n m (k + 1) = lowL n m k) e
    exact ⟨k, by omega, h2, h3⟩
  · exfalso
    have key : ∀ k, k ≤ n → (lowL n m k).length + k ≤ n := by
      intro k
      induction k with
      | zero => intro _; have := fl_len n (LS n m 0); simpa using this
      | succ k ih =>
        intro hk
        have h1 := ih (by omega)
        have h2 : (lowL n m (k + 1)).length < (lowL n m k).length := fl_lt (fun x _ hx => LS_down g k hx) fun e => h ⟨k, by omega, e⟩
        omega
    have h1 := key n (Nat.le_refl _)
    have h2 : 0 < (lowL n m n).length := List.length_pos_of_mem (fl_mem.mpr ⟨g.pos, (LS_ns g n).z⟩)
    omega
theorem up_stay (g : Grp n m) : ∃ K, K < n ∧ Stay (upL n m) K := by
  by_cases h : ∃ K, K < n ∧ upL n m (K + 1) = upL n m K
  · obtain ⟨K, hK, e⟩ := h
    obtain ⟨k, h1, h2, h3⟩ := least_of (P := fun k => upL n m (k + 1) = upL n m k) e
    exact ⟨k, by omega, h2, h3⟩
  · exfalso
    have key : ∀ k, k ≤ n → k < (upL n m k).length := by
      intro k
      induction k with
      | zero => intro _; exact List.length_pos_of_mem (fl_mem.mpr ⟨g.pos, (US_ns g 0).z⟩)
      | succ k ih =>
        intro hk
        have h1 := ih (by omega)
        have h2 : (upL n m k).length < (upL n m (k + 1)).length := fl_lt (fun x _ hx => US_up g k hx) fun e => h ⟨k, by omega, e.symm⟩
        omega
    have h1 := key n (Nat.le_refl _)
    have h2 : (upL n m n).length ≤ n := fl_len n (US n m n)
    omega
theorem low_const (g : Grp n m) {K : Nat} (h : lowL n m (K + 1) = lowL n m K) : ∀ k, K ≤ k → LS n m k = LS n m K := by
  have e0 : LS n m (K + 1) = LS n m K := funext fun x => propext ⟨fun q => LS_down g K q, fun q => (fl_eq_iff.mp h x ((LS_ns g K).lt q)).mpr q⟩
  intro k hk
  induction hk with
  | refl => rfl
  | @step k _ ih =>
    rw [← e0]
    show (fun x => Rch m (fl n (Cm n m (LS n m k))) x) = fun x => Rch m (fl n (Cm n m (LS n m K))) x
    rw [ih]
theorem up_const (g : Grp n m) {K : Nat} (h : upL n m (K + 1) = upL n m K) : ∀ k, K ≤ k → US n m k = US n m K := by
  have e0 : US n m (K + 1) = US n m K := funext fun x => propext ⟨fun q => (fl_eq_iff.mp h x ((US_ns g (K + 1)).lt q)).mp q, fun q => US_up g K q⟩
  intro k hk
  induction hk with
  | refl => rfl
  | @step k _ ih =>
    rw [← e0]
    show (fun x => x < n ∧ ∀ b, b < n → US n m k (br n m x b)) = fun x => x < n ∧ ∀ b, b < n → US n m K (br n m x b)
    rw [ih]
theorem low_all (n : Nat) (m : Nat → Nat → Nat) : lowL n m 0 = List.range n := by
  show fl n (fun x => x < n) = _
  unfold fl
  rw [List.filter_eq_self]
  intro x hx
  exact @decide_eq_true _ (Classical.propDecidable _) (by simpa using hx)
theorem up_zero (g : Grp n m) : upL n m 0 = [0] := by
  have h1 : ∀ x ∈ upL n m 0, x ∈ [0] := fun x hx => by rw [show x = 0 from (fl_mem.mp hx).2]; simp
  have h2 : 0 ∈ upL n m 0 := fl_mem.mpr ⟨g.pos, rfl⟩
  have h3 := sub_len (fl_nodup n (US n m 0)) h1
  have h4 : 0 < (upL n m 0).length := List.length_pos_of_mem h2
  cases e : upL n m 0 with
  | nil => rw [e] at h4; simp at h4
  | cons x t =>
    have : t = [] := List.length_eq_zero_iff.mp (by have : (upL n m 0).length ≤ 1 := h3; rw [e] at this; simp at this; simp [this])
    subst this
    rw [e] at h2
    rw [List.mem_singleton.mp h2]
/-- with all members above, 0 alone below, and the same class -/
theorem class_eq (g : Grp n m) {Ku Kl : Nat} (hu : Stay (upL n m) Ku) (hl : Stay (lowL n m) Kl) : (∀ x, x < n → US n m Ku x) ↔ (∀ x, LS n m Kl x → x = 0) := by
  refine ⟨fun h x hx => ?_, fun h x hx => ?_⟩
  · have h1 := class_ul g h Ku (Nat.le_refl _) x
    rw [Nat.sub_self] at h1
    by_cases c : Kl ≤ Ku
    · rw [← low_const g hl.eq Ku c] at hx; exact h1 hx
    · exact h1 (LS_anti g (by omega) hx)
  · have h1 := class_lu g h Kl (Nat.le_refl _) x
    rw [Nat.sub_self] at h1
    have h2 := h1 hx
    by_cases c : Ku ≤ Kl
    · rw [up_const g hu.eq Kl c] at h2; exact h2
    · exact US_mono g (by omega) h2
theorem class_same (g : Grp n m) {Ku Kl : Nat} (hu : Stay (upL n m) Ku) (hl : Stay (lowL n m) Kl) (h : ∀ x, x < n → US n m Ku x) : Ku = Kl := by
  have h0 := (class_eq g hu hl).mp h
  have a1 : Kl ≤ Ku := by
    by_cases c : Kl ≤ Ku
    · exact c
    · exfalso
      refine hl.ne Ku (by omega) (fl_congr fun x _ => ⟨fun q => LS_down g Ku q, fun q => ?_⟩)
      have h1 := class_ul g h Ku (Nat.le_refl _) x
      rw [Nat.sub_self] at h1
      rw [show x = 0 from h1 q]
      exact (LS_ns g _).z
  have a2 : Ku ≤ Kl := by
    by_cases c : Ku ≤ Kl
    · exact c
    · exfalso
      refine hu.ne Kl (by omega) (fl_congr fun x hx => ⟨fun _ => ?_, fun q => US_up g Kl q⟩)
      have h1 := class_lu g h0 Kl (Nat.le_refl _) x
      rw [Nat.sub_self] at h1
      exact h1 hx
  omega
/-- the centre -/
theorem US_one (g : Grp n m) {a : Nat} (ha : a < n) : US n m 1 a ↔ ∀ b, b < n → m a b = m b a := by
  refine ⟨fun h b hb => ?_, fun h => ⟨ha, fun b hb => ?_⟩⟩
  · have : br n m a b = 0 := h.2 b hb
    have e := g.ir (g.lt hb ha) (g.lt ha hb)
    unfold br at this
    rw [this, g.or (g.lt hb ha)] at e
    exact e.symm
  · show m (ivf n m (m b a)) (m a b) = 0
    rw [h b hb]; exact g.iv_l (g.lt hb ha)
end
end DW


set_option Elab.async false
set_option linter.all false
set_option maxRecDepth 100000
set_option maxHeartbeats 4000000
namespace DW
open PySem PySem.Spec Ev
section
variable {R : Rt} {σ : List Sl} {Q : RV → Prop} {E : Nat → List D → Prop}
theorem m_ins0 (g : Nat) (fs : List D) (r : Res (List RV)) : Ok (methD R [(0, g)] (.v (.ins 0 fs)) r) Q E ↔ Ok r (fun rs => Ok (callD R g (rs.any RV.lent) ((allD rs).map fun ds => .ins 0 fs :: ds)) Q E) E := m_ins _ 0 g fs r rfl
theorem range_last (k : Nat) (P : Nat → Prop) : (∃ x, (List.range (k + 1)).getLast? = some x ∧ P x) ↔ P k := by
  rw [List.getLast?_range]
  simp
theorem c_eq_bv (i : Nat) (l l' : List Nat) : Ok (cmpD .eq (.b i (nL l)) (.v (.lst (nL l')))) Q E ↔ Q (.v (.bl (decide (l = l')))) := c_eq_l rfl rfl rfl
end
theorem filterMap_if (n : Nat) (f : Nat → Bool) : (List.range n).filterMap (fun x => if f x = true then some (iD x) else none) = nL ((List.range n).filter f) := by
  generalize List.range n = l
  induction l with
  | nil => rfl
  | cons x l ih =>
    rw [List.filterMap_cons, List.filter_cons]
    cases f x with
    | true => rw [if_pos rfl, if_pos rfl]; dsimp only; rw [ih]; rfl
    | false => rw [if_neg (by decide), if_neg (by decide)]; exact ih
theorem filter_fl {n : Nat} {f : Nat → Bool} {P : Nat → Prop} (h : ∀ x, x < n → (f x = true ↔ P x)) : (List.range n).filter f = fl n P := by
  unfold fl
  refine List.filter_congr fun x hx => ?_
  have := h x (by simpa using hx)
  cases e : f x with
  | true => exact (@decide_eq_true _ (Classical.propDecidable _) (this.mp e)).symm
  | false => exact (@decide_eq_false _ (Classical.propDecidable _) (fun p => by rw [this.mpr p] at e; cases e)).symm
local macro_rules | `(tactic| walk_at "ev") => `(tactic| try simp only [ok_bind, m_ins0, range_last, c_eq_bv, p_sorted_b, p_sorted_f, p_sorted_l, p_all', p_any', c_inn_l, c_inn_t, c_ni_l, c_ni_t, w_comp2, w_body2, chain_n, last_n, wipe_nil, wipe_cons, bare_nil, bare_cons, bareS_u, bareS_d, Bool.and_self, Bool.and_true, Bool.true_and, asV_v, asV_f, map_get, map_last, range_get, c_ne_ff, c_ne_vf, c_ne_fv, c_eq_vf, c_eq_vv, c_eq_t, b_add_vv, b_add_vf, b_add_ff, b_add_fv, b_add_tt, w_dnewT, w_dispT, keyT_nL, disp_bl, w_din, din_t, w_dget, dget_t, getT_nL, s_dput', dput_t, put_nL, w_var, v_d, v_l, v_o, w_con, w_int0, w_int1, w_int, w_bl, w_str, w_non, w_bin, w_neg, w_not, w_and, w_or, w_ite, w_eq, w_ne, w_lt, w_le, w_gt, w_ge, w_inn, w_ni, w_isn, w_notn, w_chain, w_tup, w_lst, w_idx, w_slice, w_fld, w_call, w_make, w_meth, w_p1, w_p2, w_sm, w_isi, w_nil, w_cons, w_no, w_some, opt_int, if_t, if_f, if_bl, not_bl, neg_int, b_add, b_mul, pow_18, b_mod, b_fdiv, c_lt', c_le', c_gt', c_ge', c_eq', c_ne', p_len_l, p_len_t, p_len_n, p_len_f, p_len_b, p_len_s, p_int', p_list_l, p_list_t, p_list_n, p_list_f, p_list_b, p_tup_l, p_tup_t, p_tup_n, p_tup_f, p_tup_b, p_tpn_l, p_tpn_f, p_tpn_b, p_min', p_max', ok_ofB, ix_l, ix_t, ix_n, ix_f, ix_b, ix_scr, ixm_l, ixm_b, ixm_t, tup_some, lst_some, fld_ins, fld_o, call_some, call_lent, make_some, make_lent, av_nil, av_cv, av_cf, ad_nil, ad_cv, ad_cf, ad_cb, any_nil, any_cv, any_cf, any_cb, Option.map_some, ok_ok, ok_ofOpt, nx_nx, nx_ret, nx_bk, nx_ct, x_nil', x_cons', s_set', st_v', st_f', st_t', st_k', s_ret', bk_v', bk_f', bk_b', s_retN', s_ifs', s_frz', frz_l, frz_d, frz_u, frz_n, s_lm', lm_l, lm_app, lm_appf, s_setIdx', set_l, set_n, s_aug', aug_i, augX_n, s_expr', s_brk', s_cont', s_pass', s_fset', rd_nx, rd_ct, rd_bk, rd_ret, w_bodyD, bind1, bind2, i_r1', i_r2', i_seq, seq_l, seq_t, seq_n, seq_f, seq_b, w_rng1, w_comp, w_compF, w_bodyM, w_bodyF, List.getElem?_cons_zero, List.getElem?_cons_succ, List.set_cons_zero, List.set_cons_succ, List.length_cons, List.length_nil, List.length_map, List.length_range, Nat.zero_add, cap_eq, Nat.reduceAdd, Nat.reduceLeDiff, true_and, and_true, decide_eq_true_eq, decide_eq_false_iff_not, Bool.not_eq_true', Bool.not_eq_false', List.map_cons, List.map_nil, List.replicate_succ, List.replicate_zero, Nat.reduceSub, p_abs', Out.ret.injEq, RV.v.injEq, D.int.injEq, Int.natCast_inj, Out.nx.injEq, List.cons_append, List.nil_append, Option.some.injEq, exists_eq_left', reduceCtorEq, false_implies, true_implies])
abbrev iR (n : Nat) (m : Nat → Nat → Nat) : List D := (List.range n).map fun a : Nat => iD (ivf n m a)
section
variable {n : Nat} {m : Nat → Nat → Nat} {Tx : Text}
theorem sp_bracket (h : Tx.fn 14 = some fd14) (n' : Nat) (g : Grp n m) {a b : Nat} (ha : a < n) (hb : b < n) :
    (rt Tx (n' + 1)).call 14 [.lst (fT n m), .lst (iR n m), .int a, .int b] = .ok (.v (iD (br n m a b))) := by
  refine call_of h rfl (by decide) ?_
  unfold fd14
  walk_at "ev"
  exact ⟨hb, ha, g.lt hb ha, g.iv_lt (g.lt hb ha), ha, hb, g.lt ha hb, rfl⟩
theorem sp_closed (h : Tx.fn 16 = some fd16) (n' : Nat) (g : Grp n m) (hn : n ≤ 1000) {ms : List Nat} (hms : ∀ y ∈ ms, y < n) :
    (rt Tx (n' + 1)).call 16 [.lst (fT n m), .lst (nL ms)] = .ok (.f (nL (rs n m ms))) := by
  have h0 := g.pos
  refine call_of h rfl (by decide) ?_
  unfold fd16
  walk_at "ev"
  refine ⟨by omega, ok_mapR (l := List.range n) (em := fun a : Nat => .lst (fR n m a)) (fun _ => .bl false) (fun x hx => ?_) ?_⟩
  · walk_at "ev"
    exact ⟨_, rfl⟩
  walk_at "ev"
  refine ⟨h0, ?_⟩
  have e0 : ((List.range n).map fun _ : Nat => D.bl false).set 0 (.bl true) = bL n (ins [0]) := by
    refine List.ext_getElem (by simp) fun i h1 h2 => ?_
    rw [List.getElem_set]
    simp only [List.getElem_map, List.getElem_range]
    by_cases e : 0 = i
    · subst e; simp
    · have : ¬ i = 0 := fun z => e z.symm
      simp [e, this]
  rw [e0]
  refine ok_forN (n := n) (fun k σ => ∃ fd s4 s6 s7, Fnd n m ms fd ∧ (∀ j, j < k → j < fd.length → ∀ y ∈ ms, m (fd.getD j 0) y ∈ fd) ∧ σ = [.d (.lst (fT n m)), .d (.lst (nL ms)), .l (bL n (ins fd)), .l (nL fd), s4, .u, s6, s7]) ?_ ?_ ?_ ?_
  · walk_at "ev"
    rw [r1_n (by omega)]
  · exact ⟨[0], .u, .u, .u, Fnd.zero h0, fun j hj => by omega, rfl⟩
  · rintro k σ hkn ⟨fd, s4, s6, s7, hfd, hcl, rfl⟩
    unfold lb20
    walk_at "ev"
    refine ⟨fun hk => ?_, fun hk => ⟨fd, .d (iD k), s6, s7, hfd, fun j hj hjl => hcl j (by omega) hjl, rfl⟩⟩
    have hx : fd[k] < n := hfd.lt _ (List.getElem_mem hk)
    refine ok_forL (l := ms) (em := iD) (fun j σ => ∃ fd' s6 s7, fd <+: fd' ∧ Fnd n m ms fd' ∧ (∀ i, i < j → m fd[k] (ms.getD i 0) ∈ fd') ∧ σ = [.d (.lst (fT n m)), .d (.lst (nL ms)), .l (bL n (ins fd')), .l (nL fd'), .d (.int k), .u, s6, s7]) ?_ ?_ ?_ ?_
    · walk_at "ev"
    · exact ⟨fd, s6, s7, List.prefix_refl _, hfd, fun j hj => by omega, rfl⟩
    · rintro j y σ hj ⟨fd', s6, s7, hpre, hfd', hcl', rfl⟩
      obtain ⟨hk1, hk2⟩ := List.getElem?_eq_some_iff.mp hj
      have hy : y ∈ ms := by rw [← hk2]; exact List.getElem_mem hk1
      have hmy : m fd[k] y < n := g.lt hx (hms y hy)
      have hxm : fd[k] ∈ fd' := hpre.mem (List.getElem_mem hk)
      have hk' := pre_get hpre (List.getElem?_eq_getElem hk)
      have ecl : ∀ (fd2 : List Nat), (∀ x ∈ fd', x ∈ fd2) → m fd[k] y ∈ fd2 → ∀ i, i < j + 1 → m fd[k] (ms.getD i 0) ∈ fd2 := fun fd2 hs hm i hi => by
        by_cases e : i = j
        · subst e; rw [getD_lt 0 hk1, hk2]; exact hm
        · exact hs _ (hcl' i (by omega))
      unfold lb19
      walk_at "ev"
      refine ⟨_, hk', hx, hms y hy, hmy, fun hnot => ⟨hmy, by have := hfd'.len; omega, ?_⟩, fun hin => ?_⟩
      · exact ⟨fd' ++ [m fd[k] y], .d (iD y), .d (iD (m fd[k] y)), hpre.trans (List.prefix_append _ _), hfd'.add hxm hy hmy (by simpa using hnot), ecl _ (fun x hx => List.mem_append_left _ hx) (by simp), by rw [ins_add, nL_app]⟩
      · exact ⟨fd', .d (iD y), .d (iD (m fd[k] y)), hpre, hfd', ecl _ (fun _ h => h) (by simpa using hin), rfl⟩
    · rintro σ ⟨fd', s6, s7, hpre, hfd', hcl', rfl⟩
      walk_at "ev"
      refine ⟨fd', .d (iD k), s6, s7, hfd', fun j hj hjl y hy => ?_, rfl⟩
      by_cases e : j = k
      · subst e
        have hg : fd'.getD j 0 = fd[j] := by rw [List.getD_eq_getElem?_getD, pre_get hpre (List.getElem?_eq_getElem hk)]; rfl
        rw [hg]
        obtain ⟨i, hi, ei⟩ := List.getElem_of_mem hy
        have := hcl' i hi
        rw [getD_lt 0 hi, ei] at this
        exact this
      · have hjf : j < fd.length := by omega
        have hg : fd'.getD j 0 = fd.getD j 0 := by rw [List.getD_eq_getElem?_getD, pre_get hpre (List.getElem?_eq_getElem hjf), getD_lt 0 hjf]; rfl
        rw [hg]
        exact hpre.mem (hcl j (by omega) hjf y hy)
  · rintro σ ⟨fd, s4, s6, s7, hfd, hcl, rfl⟩
    walk_at "ev"
    rw [hfd.sort]
    intro x hx y hy
    obtain ⟨i, hi, rfl⟩ := List.getElem_of_mem hx
    have := hcl i (by have := hfd.len; omega) hi y hy
    rw [getD_lt 0 hi] at this
    exact this
/-- the inverses by index -/
theorem undo_ok {R : Rt} {σ' : List Sl} {i : Nat} (g : Grp n m) (hn : n ≤ 1000) {Q : List D → Prop} {E : Nat → List D → Prop} (hs : ∀ s : List Sl, True) (q : Q (iR n m)) (hi : ∀ d, (σ'.set i (.d d))[i]? = some (.d d)) :
    Ok (mapR (bodyM R (.sm .index (.var i) (.int 0)) [i] σ') (fT n m)) Q E := by
  refine ok_mapR (l := List.range n) (em := fun a : Nat => .lst (fR n m a)) (fun a => iD (ivf n m a)) (fun a ha => ?_) q
  walk_at "ev"
  rw [hi]
  walk_at "ev"
  refine ⟨_, rfl, ?_⟩
  rw [sm_index g (by simpa using ha) rfl]
  walk_at "ev"
abbrev lsRows (s : Nat → List Nat) (k : Nat) : List D := (List.range k).map fun i : Nat => .lst (nL (s i))
abbrev tpRows (s : Nat → List Nat) (k : Nat) : List D := (List.range k).map fun i : Nat => .tup (nL (s i))
theorem lsRows_add (s : Nat → List Nat) (k : Nat) : lsRows s k ++ [.lst (nL (s k))] = lsRows s (k + 1) := by unfold lsRows; rw [List.range_succ, List.map_append]; rfl
theorem tpRows_add (s : Nat → List Nat) (k : Nat) : tpRows s k ++ [.tup (nL (s k))] = tpRows s (k + 1) := by unfold tpRows; rw [List.range_succ, List.map_append]; rfl
theorem sp_llow (h14 : Tx.fn 14 = some fd14) (h16 : Tx.fn 16 = some fd16) (h : Tx.fn 17 = some fd17) (n' : Nat) (g : Grp n m) (hn : n ≤ 1000) {K : Nat} (hK : K < n) (st : Stay (lowL n m) K) :
    (rt Tx (n' + 2)).call 17 [.lst (fT n m)] = .ok (.f (lsRows (lowL n m) (K + 1))) := by
  refine call_of h rfl (by decide) ?_
  unfold fd17
  walk_at "ev"
  refine ⟨by omega, undo_ok g hn (fun _ => trivial) ?_ (fun _ => rfl)⟩
  walk_at "ev"
  rw [rng_n (by omega)]
  have er : (if false = true then RV.v (.tup (rg n)) else .f (rg n)) = .f (nL (lowL n m 0)) := by rw [low_all]; rfl
  rw [er]
  walk_at "ev"
  refine ok_forN (n := n) (fun k σ => k ≤ K ∧ ∃ s3 s4 s5 s6 s8, σ = [.d (.lst (fT n m)), .d (.lst (iR n m)), .l (lsRows (lowL n m) (k + 1)), s3, s4, s5, s6, .u, s8, .u]) ?_ ?_ ?_ ?_
  · walk_at "ev"
    rw [r1_n (by omega)]
  · exact ⟨Nat.zero_le _, .u, .u, .u, .u, .u, rfl⟩
  · rintro k σ hkn ⟨hkK, s3, s4, s5, s6, s8, rfl⟩
    unfold lb21
    walk_at "ev"
    refine ⟨by omega, ok_mapR (l := List.range n) (em := fun a : Nat => .lst (fR n m a)) (fun _ => .bl false) (fun x hx => ?_) ?_⟩
    · walk_at "ev"
      exact ⟨_, rfl⟩
    walk_at "ev"
    refine ok_forN (n := n) (fun a σ => ∃ f s5 s8, (∀ x, x < n → (f x = true ↔ ∃ a', a' < a ∧ ∃ b, b ∈ lowL n m k ∧ x = br n m a' b)) ∧ σ = [.d (.lst (fT n m)), .d (.lst (iR n m)), .l (lsRows (lowL n m) (k + 1)), .d (.int k), .l (bL n f), s5, s6, .u, s8, .u]) ?_ ?_ ?_ ?_
    · walk_at "ev"
      rw [r1_n (by omega)]
    · exact ⟨fun _ => false, s5, s8, fun x hx => ⟨fun z => (by cases z), fun ⟨a', h1, _⟩ => (by omega)⟩, rfl⟩
    · rintro a σ ha ⟨f, s5, s8, hf, rfl⟩
      unfold lb18
      walk_at "ev"
      refine ok_forL (l := lowL n m k) (em := iD) (fun j σ => ∃ f s8, (∀ x, x < n → (f x = true ↔ (∃ a', a' < a ∧ ∃ b, b ∈ lowL n m k ∧ x = br n m a' b) ∨ ∃ b, b ∈ (lowL n m k).take j ∧ x = br n m a b)) ∧ σ = [.d (.lst (fT n m)), .d (.lst (iR n m)), .l (lsRows (lowL n m) (k + 1)), .d (.int k), .l (bL n f), .d (.int a), s6, .u, s8, .u]) ?_ ?_ ?_ ?_
      · walk_at "ev"
      · exact ⟨f, s8, fun x hx => by rw [hf x hx]; simp, rfl⟩
      · rintro j b σ hj ⟨f, s8, hf, rfl⟩
        obtain ⟨hj1, hj2⟩ := List.getElem?_eq_some_iff.mp hj
        have hb : b < n := (fl_mem.mp (by rw [← hj2]; exact List.getElem_mem hj1)).1
        unfold lb17
        walk_at "ev"
        rw [sp_bracket h14 n' g ha hb]
        walk_at "ev"
        refine ⟨br_lt g ha hb, fun x => x == br n m a b || f x, .d (iD b), fun x hx => ?_, by rw [bL_set]⟩
        rw [Bool.or_eq_true, hf x hx, beq_iff_eq, List.take_succ, hj]
        refine ⟨fun q => ?_, fun q => ?_⟩
        · rcases q with rfl | q | ⟨b', hb', rfl⟩
          · exact .inr ⟨b, by simp, rfl⟩
          · exact .inl q
          · exact .inr ⟨b', List.mem_append_left _ hb', rfl⟩
        · rcases q with q | ⟨b', hb', rfl⟩
          · exact .inr (.inl q)
          · rcases List.mem_append.mp hb' with hb' | hb'
            · exact .inr (.inr ⟨b', hb', rfl⟩)
            · have : b' = b := by simpa using hb'
              subst this; exact .inl rfl
      · rintro σ ⟨f, s8, hf, rfl⟩
        walk_at "ev"
        refine ⟨f, .d (iD a), s8, fun x hx => ?_, rfl⟩
        rw [hf x hx, List.take_length]
        refine ⟨fun q => ?_, fun ⟨a', ha', q⟩ => ?_⟩
        · rcases q with ⟨a', ha', q⟩ | q
          · exact ⟨a', by omega, q⟩
          · exact ⟨a, by omega, q⟩
        · by_cases e : a' = a
          · subst e; exact .inr q
          · exact .inl ⟨a', by omega, q⟩
    · rintro σ ⟨f, s5, s8, hf, rfl⟩
      walk_at "ev"
      rw [r1_n (by omega)]
      walk_at "ev"
      refine ⟨by omega, ok_mapF (l := List.range n) (em := fun k : Nat => .int (k : Int)) (fun x => if f x = true then some (iD x) else none) (fun x hx => ?_) ?_⟩
      · have hx : x < n := by simpa using hx
        walk_at "ev"
        refine ⟨hx, fun e => ?_, fun e => ?_⟩
        · rw [if_pos e]
        · rw [if_neg (by rw [e]; decide)]
      have e1 : (List.range n).filter f = fl n (Cm n m (LS n m k)) := filter_fl fun x hx => by
        rw [hf x hx]
        refine ⟨fun ⟨a', ha', b, hb, e⟩ => ⟨a', ha', b, (fl_mem.mp hb).1, (fl_mem.mp hb).2, e⟩, fun ⟨a', ha', b, hb, hs, e⟩ => ⟨a', ha', b, fl_mem.mpr ⟨hb, hs⟩, e⟩⟩
      rw [filterMap_if, e1]
      walk_at "ev"
      rw [sp_closed h16 n' g hn (fun y hy => (fl_mem.mp hy).1)]
      have e2 : rs n m (fl n (Cm n m (LS n m k))) = lowL n m (k + 1) := rfl
      rw [e2]
      walk_at "ev"
      refine ⟨fun e => ?_, fun ne => ⟨by omega, ?_, .d (.int k), .l (bL n f), s5, .d (.lst (nL (lowL n m (k + 1)))), s8, by rw [lsRows_add]⟩⟩
      · by_cases c : k = K
        · subst c; rfl
        · exact (st.ne k (by omega) e).elim
      · by_cases c : k = K
        · subst c; exact (ne st.eq).elim
        · omega
  · rintro σ ⟨hkK, _⟩
    omega
end
end DW


set_option Elab.async false
set_option linter.all false
set_option maxRecDepth 100000
set_option maxHeartbeats 4000000
namespace DW
open PySem PySem.Spec Ev
theorem frz_bare {sub : Nat → List Nat → Option Bool} {R : Rt} {σ : List Sl} {Q : Out → Prop} {E : Nat → List D → Prop} (i : Nat) {s : Sl} (h : bareS (some s) = true) : Ok (frzD i (some s) σ) Q E ↔ Q (.nx σ) := by
  cases s with
  | l xs => cases h
  | _ => exact ok_ok _
theorem cont0 : ([0] : List Nat).contains 0 = true := rfl
local macro_rules | `(tactic| walk_at "ev") => `(tactic| try simp only [cont0, ok_bind, m_ins0, range_last, c_eq_bv, p_sorted_b, p_sorted_f, p_sorted_l, p_all', p_any', c_inn_l, c_inn_t, c_ni_l, c_ni_t, w_comp2, w_body2, chain_n, last_n, wipe_nil, wipe_cons, bare_nil, bare_cons, bareS_u, bareS_d, Bool.and_self, Bool.and_true, Bool.true_and, asV_v, asV_f, map_get, map_last, range_get, c_ne_ff, c_ne_vf, c_ne_fv, c_eq_vf, c_eq_vv, c_eq_t, b_add_vv, b_add_vf, b_add_ff, b_add_fv, b_add_tt, w_dnewT, w_dispT, keyT_nL, disp_bl, w_din, din_t, w_dget, dget_t, getT_nL, s_dput', dput_t, put_nL, w_var, v_d, v_l, v_o, w_con, w_int0, w_int1, w_int, w_bl, w_str, w_non, w_bin, w_neg, w_not, w_and, w_or, w_ite, w_eq, w_ne, w_lt, w_le, w_gt, w_ge, w_inn, w_ni, w_isn, w_notn, w_chain, w_tup, w_lst, w_idx, w_slice, w_fld, w_call, w_make, w_meth, w_p1, w_p2, w_sm, w_isi, w_nil, w_cons, w_no, w_some, opt_int, if_t, if_f, if_bl, not_bl, neg_int, b_add, b_mul, pow_18, b_mod, b_fdiv, c_lt', c_le', c_gt', c_ge', c_eq', c_ne', p_len_l, p_len_t, p_len_n, p_len_f, p_len_b, p_len_s, p_int', p_list_l, p_list_t, p_list_n, p_list_f, p_list_b, p_tup_l, p_tup_t, p_tup_n, p_tup_f, p_tup_b, p_tpn_l, p_tpn_f, p_tpn_b, p_min', p_max', ok_ofB, ix_l, ix_t, ix_n, ix_f, ix_b, ix_scr, ixm_l, ixm_b, ixm_t, tup_some, lst_some, fld_ins, fld_o, call_some, call_lent, make_some, make_lent, av_nil, av_cv, av_cf, ad_nil, ad_cv, ad_cf, ad_cb, any_nil, any_cv, any_cf, any_cb, Option.map_some, ok_ok, ok_ofOpt, nx_nx, nx_ret, nx_bk, nx_ct, x_nil', x_cons', s_set', st_v', st_f', st_t', st_k', s_ret', bk_v', bk_f', bk_b', s_retN', s_ifs', s_frz', frz_l, frz_d, frz_u, frz_n, s_lm', lm_l, lm_app, lm_appf, s_setIdx', set_l, set_n, s_aug', aug_i, augX_n, s_expr', s_brk', s_cont', s_pass', s_fset', rd_nx, rd_ct, rd_bk, rd_ret, w_bodyD, bind1, bind2, i_r1', i_r2', i_seq, seq_l, seq_t, seq_n, seq_f, seq_b, w_rng1, w_comp, w_compF, w_bodyM, w_bodyF, List.getElem?_cons_zero, List.getElem?_cons_succ, List.set_cons_zero, List.set_cons_succ, List.length_cons, List.length_nil, List.length_map, List.length_range, Nat.zero_add, cap_eq, Nat.reduceAdd, Nat.reduceLeDiff, true_and, and_true, decide_eq_true_eq, decide_eq_false_iff_not, Bool.not_eq_true', Bool.not_eq_false', List.map_cons, List.map_nil, List.replicate_succ, List.replicate_zero, Nat.reduceSub, p_abs', Out.ret.injEq, RV.v.injEq, D.int.injEq, Int.natCast_inj, Out.nx.injEq, List.cons_append, List.nil_append, Option.some.injEq, exists_eq_left', reduceCtorEq, false_implies, true_implies])
theorem fl_succ_t {a : Nat} {P : Nat → Prop} (h : P a) : fl (a + 1) P = fl a P ++ [a] := by
  unfold fl
  rw [List.range_succ, List.filter_append]
  congr 1
  rw [List.filter_cons, if_pos (@decide_eq_true _ (Classical.propDecidable _) h)]; rfl
theorem fl_succ_f {a : Nat} {P : Nat → Prop} (h : ¬ P a) : fl (a + 1) P = fl a P := by
  unfold fl
  rw [List.range_succ, List.filter_append, List.filter_cons, if_neg (by rw [@decide_eq_false _ (Classical.propDecidable _) h]; decide)]
  simp
theorem fl_zero (P : Nat → Prop) : fl 0 P = [] := rfl
section
variable {n : Nat} {m : Nat → Nat → Nat} {Tx : Text}
theorem sp_lup (h14 : Tx.fn 14 = some fd14) (h : Tx.fn 15 = some fd15) (n' : Nat) (g : Grp n m) (hn : n ≤ 1000) {K : Nat} (hK : K < n) (st : Stay (upL n m) K) :
    (rt Tx (n' + 2)).call 15 [.lst (fT n m)] = .ok (.f (lsRows (upL n m) (K + 1))) := by
  refine call_of h rfl (by decide) ?_
  unfold fd15
  walk_at "ev"
  refine ⟨by omega, undo_ok g hn (fun _ => trivial) ?_ (fun _ => rfl)⟩
  walk_at "ev"
  have e0 : [D.lst [D.int ((0 : Nat) : Int)]] = lsRows (upL n m) 1 := by
    show _ = [D.lst (nL (upL n m 0))]
    rw [up_zero g]; rfl
  rw [e0]
  refine ok_forN (n := n) (fun k σ => k ≤ K ∧ ∃ s3 s4 s5 s7, σ = [.d (.lst (fT n m)), .d (.lst (iR n m)), .l (lsRows (upL n m) (k + 1)), s3, s4, s5, .u, s7, .u]) ?_ ?_ ?_ ?_
  · walk_at "ev"
    rw [r1_n (by omega)]
  · exact ⟨Nat.zero_le _, .u, .u, .u, .u, rfl⟩
  · rintro k σ hkn ⟨hkK, s3, s4, s5, s7, rfl⟩
    unfold lb16
    walk_at "ev"
    refine ok_forN (n := n) (fun a σ => ∃ s5 s7, σ = [.d (.lst (fT n m)), .d (.lst (iR n m)), .l (lsRows (upL n m) (k + 1)), .d (.int k), .l (nL (fl a (US n m (k + 1)))), s5, .u, s7, .u]) ?_ ?_ ?_ ?_
    · walk_at "ev"
      rw [r1_n (by omega)]
    · exact ⟨s5, s7, rfl⟩
    · rintro a σ ha ⟨s5, s7, rfl⟩
      unfold lb15
      walk_at "ev"
      rw [r1_n (by omega)]
      walk_at "ev"
      refine ⟨by omega, ok_mapF (l := List.range n) (em := fun k : Nat => .int (k : Int)) (fun x => if (!decide (br n m a x ∈ upL n m k)) = true then some (iD x) else none) (fun x hx => ?_) ?_⟩
      · have hx : x < n := by simpa using hx
        walk_at "ev"
        rw [sp_bracket h14 n' g ha hx]
        walk_at "ev"
        refine ⟨fun e => ?_, fun e => ?_⟩
        · rw [if_pos (by simpa using e)]
        · rw [if_neg (by simpa using e)]
      rw [filterMap_if]
      walk_at "ev"
      have hall : ((List.range n).filter fun x => !decide (br n m a x ∈ upL n m k)).length = 0 ↔ US n m (k + 1) a := by
        rw [List.length_eq_zero_iff, List.filter_eq_nil_iff]
        refine ⟨fun q => ⟨ha, fun b hb => ?_⟩, fun q b hb => ?_⟩
        · have := q b (by simpa using hb)
          have h2 : br n m a b ∈ upL n m k := by simpa using this
          exact (fl_mem.mp h2).2
        · have hb : b < n := by simpa using hb
          have h2 : br n m a b ∈ upL n m k := fl_mem.mpr ⟨br_lt g ha hb, q.2 b hb⟩
          simpa using h2
      rw [hall]
      refine ⟨fun q => ⟨?_, .d (iD a), .d (.lst (nL ((List.range n).filter fun x => !decide (br n m a x ∈ upL n m k)))), by rw [nL_app, fl_succ_t q]⟩, fun q => ⟨.d (iD a), .d (.lst (nL ((List.range n).filter fun x => !decide (br n m a x ∈ upL n m k)))), by rw [fl_succ_f q]⟩⟩
      have := fl_len a (US n m (k + 1)); omega
    · rintro σ ⟨s5, s7, rfl⟩
      walk_at "ev"
      refine ⟨fun e => ?_, fun ne => ⟨by omega, ?_, .d (.int k), .d (.lst (nL (upL n m (k + 1)))), s5, s7, by rw [lsRows_add]⟩⟩
      · by_cases c : k = K
        · subst c; rfl
        · exact (st.ne k (by omega) e).elim
      · by_cases c : k = K
        · subst c; exact (ne st.eq).elim
        · omega
  · rintro σ ⟨hkK, _⟩
    omega
/-! ### the program's side -/
theorem sp_check (h : Tx.fn 19 = some fd19) (n' : Nat) {a : Nat} (ha : a < n) : (rt Tx (n' + 1)).call 19 [grpD n m, .int a] = .ok (.v .non) := by
  refine call_ofN h rfl (by decide) ?_
  unfold fd19
  walk_at "ev"
  exact ⟨fun _ => ⟨fun z => (z ha).elim, fun _ => ⟨_, rfl⟩⟩, fun z => (z (Nat.zero_le _)).elim⟩
theorem sp_comm (h19 : Tx.fn 19 = some fd19) (h : Tx.fn 20 = some fd20) (n' : Nat) (g : Grp n m) {a b : Nat} (ha : a < n) (hb : b < n) : (rt Tx (n' + 2)).call 20 [grpD n m, .int a, .int b] = .ok (.v (iD (br n m a b))) := by
  refine call_of h rfl (by decide) ?_
  unfold fd20
  walk_at "ev"
  rw [sp_check h19 n' ha, ok_ok, sp_check h19 n' hb, ok_ok]
  exact ⟨hb, ha, g.lt hb ha, g.iv_lt (g.lt hb ha), ha, hb, g.lt ha hb, rfl⟩
theorem sp_generated (h9 : Tx.fn 9 = some fd9) (h19 : Tx.fn 19 = some fd19) (h : Tx.fn 21 = some fd21) (n' : Nat) (g : Grp n m) (hn : n ≤ 1000) {M : D} {ms : List Nat} (hM : MsD M ms) (hms : ∀ y ∈ ms, y < n) :
    (rt Tx (n' + 2)).call 21 [grpD n m, M] = .ok (.v (.tup (nL (rs n m ms)))) := by
  refine call_of h rfl (by decide) ?_
  unfold fd21
  walk_at "ev"
  refine ok_forL (l := ms) (em := iD) (fun k σ => ∃ s2, σ = [.d (grpD n m), .d M, s2]) ?_ ?_ ?_ ?_
  · walk_at "ev"
    rw [hM.seq, ok_ok]
  · exact ⟨.u, rfl⟩
  · rintro k y σ hk ⟨s2, rfl⟩
    have hy : y < n := hms y (by obtain ⟨h1, h2⟩ := List.getElem?_eq_some_iff.mp hk; rw [← h2]; exact List.getElem_mem h1)
    unfold lb29
    walk_at "ev"
    rw [sp_check h19 n' hy, ok_ok]
    exact ⟨.d (iD y), rfl⟩
  · rintro σ ⟨s2, rfl⟩
    walk_at "ev"
    rw [sp_reached h9 n' g.lt g.pos hn (.inr rfl) hM hms]
    walk_at "ev"
theorem sp_commsub (h9 : Tx.fn 9 = some fd9) (h19 : Tx.fn 19 = some fd19) (h20 : Tx.fn 20 = some fd20) (h21 : Tx.fn 21 = some fd21) (h : Tx.fn 22 = some fd22) (n' : Nat) (g : Grp n m) (hn : n ≤ 1000) {S1 S2 : List Nat} (l1 : S1.length ≤ 1000) (l2 : S2.length ≤ 1000) (hS1 : ∀ y ∈ S1, y < n) (hS2 : ∀ y ∈ S2, y < n) :
    (rt Tx (n' + 3)).call 22 [grpD n m, .tup (nL S1), .tup (nL S2)] = .ok (.v (.tup (nL (rs n m (fl n fun x => ∃ a, a ∈ S1 ∧ ∃ b, b ∈ S2 ∧ x = br n m a b))))) := by
  refine call_of h rfl (by decide) ?_
  unfold fd22
  walk_at "ev"
  have hall : ∀ y ∈ S1 ++ S2, y < n := fun y hy => by
    rcases List.mem_append.mp hy with hy | hy
    · exact hS1 y hy
    · exact hS2 y hy
  refine ok_forL (l := S1 ++ S2) (em := iD) (fun k σ => ∃ s3, σ = [.d (grpD n m), .d (.tup (nL S1)), .d (.tup (nL S2)), s3, .u, .u, .u] ∧ bareS (some s3) = true) ?_ ?_ ?_ ?_
  · walk_at "ev"
    exact ⟨by omega, by rw [List.map_append]⟩
  · exact ⟨.u, rfl, rfl⟩
  · rintro k y σ hk ⟨s3, rfl, _⟩
    have hy : y < n := hall y (by obtain ⟨h1, h2⟩ := List.getElem?_eq_some_iff.mp hk; rw [← h2]; exact List.getElem_mem h1)
    unfold lb26
    walk_at "ev"
    rw [sp_check h19 (n' + 1) hy, ok_ok]
    exact ⟨.d (iD y), rfl, rfl⟩
  · rintro σ ⟨s3, rfl, hs3⟩
    walk_at "ev"
    rw [b_rep _ (by omega)]
    walk_at "ev"
    have e0 : List.replicate n (D.bl false) = bL n fun _ => false := by
      unfold bL; rw [List.map_const', List.length_range]
    rw [e0]
    refine ok_forL (l := S1) (em := iD) (fun i σ => ∃ f s5 s6, (∀ x, x < n → (f x = true ↔ ∃ a, a ∈ S1.take i ∧ ∃ b, b ∈ S2 ∧ x = br n m a b)) ∧ σ = [.d (grpD n m), .d (.tup (nL S1)), .d (.tup (nL S2)), s3, .l (bL n f), s5, s6]) ?_ ?_ ?_ ?_
    · walk_at "ev"
    · exact ⟨fun _ => false, .u, .u, fun x hx => ⟨fun z => (by cases z), fun ⟨a', h1, _⟩ => (by simp at h1)⟩, rfl⟩
    · rintro i a σ hi ⟨f, s5, s6, hf, rfl⟩
      have ha : a < n := hS1 a (by obtain ⟨h1, h2⟩ := List.getElem?_eq_some_iff.mp hi; rw [← h2]; exact List.getElem_mem h1)
      unfold lb28
      walk_at "ev"
      refine ok_forL (l := S2) (em := iD) (fun j σ => ∃ f s6, (∀ x, x < n → (f x = true ↔ (∃ a, a ∈ S1.take i ∧ ∃ b, b ∈ S2 ∧ x = br n m a b) ∨ ∃ b, b ∈ S2.take j ∧ x = br n m a b)) ∧ σ = [.d (grpD n m), .d (.tup (nL S1)), .d (.tup (nL S2)), s3, .l (bL n f), .d (.int a), s6]) ?_ ?_ ?_ ?_
      · walk_at "ev"
      · exact ⟨f, s6, fun x hx => by rw [hf x hx]; simp, rfl⟩
      · rintro j b σ hj ⟨f, s6, hf, rfl⟩
        have hb : b < n := hS2 b (by obtain ⟨h1, h2⟩ := List.getElem?_eq_some_iff.mp hj; rw [← h2]; exact List.getElem_mem h1)
        unfold lb27
        walk_at "ev"
        rw [sp_comm h19 h20 n' g ha hb]
        walk_at "ev"
        refine ⟨br_lt g ha hb, fun x => x == br n m a b || f x, .d (iD b), fun x hx => ?_, by rw [bL_set]⟩
        rw [Bool.or_eq_true, hf x hx, beq_iff_eq, List.take_succ, hj]
        refine ⟨fun q => ?_, fun q => ?_⟩
        · rcases q with rfl | q | ⟨b', hb', rfl⟩
          · exact .inr ⟨b, by simp, rfl⟩
          · exact .inl q
          · exact .inr ⟨b', List.mem_append_left _ hb', rfl⟩
        · rcases q with q | ⟨b', hb', rfl⟩
          · exact .inr (.inl q)
          · rcases List.mem_append.mp hb' with hb' | hb'
            · exact .inr (.inr ⟨b', hb', rfl⟩)
            · have : b' = b := by simpa using hb'
              subst this; exact .inl rfl
      · rintro σ ⟨f, s6, hf, rfl⟩
        walk_at "ev"
        refine ⟨f, .d (iD a), s6, fun x hx => ?_, rfl⟩
        rw [hf x hx, List.take_length, List.take_succ, hi]
        refine ⟨fun q => ?_, fun ⟨a', ha', q⟩ => ?_⟩
        · rcases q with ⟨a', ha', q⟩ | q
          · exact ⟨a', List.mem_append_left _ ha', q⟩
          · exact ⟨a, by simp, q⟩
        · rcases List.mem_append.mp ha' with ha' | ha'
          · exact .inl ⟨a', ha', q⟩
          · have : a' = a := by simpa using ha'
            subst this; exact .inr q
    · rintro σ ⟨f, s5, s6, hf, rfl⟩
      rw [List.take_length] at hf
      walk_at "ev"
      rw [frz_bare (sub := Tx.sub) (R := rt Tx (n' + 2)) 3 hs3]
      walk_at "ev"
      rw [r1_n (by omega)]
      walk_at "ev"
      refine ⟨by omega, hs3, ok_mapF (l := List.range n) (em := fun k : Nat => .int (k : Int)) (fun x => if f x = true then some (iD x) else none) (fun x hx => ?_) ?_⟩
      · have hx : x < n := by simpa using hx
        walk_at "ev"
        refine ⟨hx, fun e => ?_, fun e => ?_⟩
        · rw [if_pos e]
        · rw [if_neg (by rw [e]; decide)]
      rw [filterMap_if, filter_fl hf]
      walk_at "ev"
      rw [sp_generated h9 h19 h21 n' g hn (.inl rfl) (fun y hy => (fl_mem.mp hy).1)]
      walk_at "ev"
theorem sp_low (h9 : Tx.fn 9 = some fd9) (h19 : Tx.fn 19 = some fd19) (h20 : Tx.fn 20 = some fd20) (h21 : Tx.fn 21 = some fd21) (h22 : Tx.fn 22 = some fd22) (h : Tx.fn 23 = some fd23) (n' : Nat) (g : Grp n m) (hn : n ≤ 1000) {K : Nat} (hK : K < n) (st : Stay (lowL n m) K) :
    (rt Tx (n' + 4)).call 23 [grpD n m] = .ok (.f (tpRows (lowL n m) (K + 1))) := by
  refine call_of h rfl (by decide) ?_
  unfold fd23
  walk_at "ev"
  rw [rng_n (by omega)]
  have er : (if true = true then RV.v (.tup (rg n)) else .f (rg n)) = .v (.tup (nL (lowL n m 0))) := by rw [low_all]; rfl
  rw [er]
  walk_at "ev"
  have e0 : [D.tup (nL (lowL n m 0))] = tpRows (lowL n m) 1 := rfl
  rw [e0]
  refine ok_while (fun M σ => ∃ k s3, k ≤ K ∧ M = n - k ∧ σ = [.d (grpD n m), .d (.tup (nL (lowL n m 0))), .l (tpRows (lowL n m) (k + 1)), s3]) n (by unfold fuel; omega) ?_ ?_
  · exact ⟨0, .u, Nat.zero_le _, rfl, rfl⟩
  · rintro M σ _ ⟨k, s3, hkK, rfl, rfl⟩
    refine (w_bl _).mpr (.inl ⟨rfl, n - k - 1, by omega, ?_⟩)
    unfold lb30
    walk_at "ev"
    rw [sp_commsub h9 h19 h20 h21 h22 n' g hn (Nat.le_trans (fl_len _ _) hn) (Nat.le_trans (fl_len _ _) hn) (fun y hy => (fl_mem.mp hy).1) (fun y hy => (fl_mem.mp hy).1)]
    have e1 : (fl n fun x => ∃ a, a ∈ lowL n m 0 ∧ ∃ b, b ∈ lowL n m k ∧ x = br n m a b) = fl n (Cm n m (LS n m k)) := fl_congr fun x hx =>
      ⟨fun ⟨a, ha, b, hb, e⟩ => ⟨a, (fl_mem.mp ha).1, b, (fl_mem.mp hb).1, (fl_mem.mp hb).2, e⟩, fun ⟨a, ha, b, hb, hs, e⟩ => ⟨a, fl_mem.mpr ⟨ha, ha⟩, b, fl_mem.mpr ⟨hb, hs⟩, e⟩⟩
    have e2 : rs n m (fl n (Cm n m (LS n m k))) = lowL n m (k + 1) := rfl
    rw [e1, e2]
    walk_at "ev"
    refine ⟨fun e => ?_, fun ne => ⟨by omega, k + 1, .d (.tup (nL (lowL n m (k + 1)))), ?_, by omega, by rw [tpRows_add]⟩⟩
    · by_cases c : k = K
      · subst c; rfl
      · exact (st.ne k (by omega) e).elim
    · by_cases c : k = K
      · subst c; exact (ne st.eq).elim
      · omega
theorem sp_central (h19 : Tx.fn 19 = some fd19) (h20 : Tx.fn 20 = some fd20) (h : Tx.fn 24 = some fd24) (n' : Nat) (g : Grp n m) (hn : n ≤ 1000) (S : List Nat) :
    (rt Tx (n' + 3)).call 24 [grpD n m, .tup (nL S)] = .ok (.v (.tup (nL (fl n fun a => ∀ b, b < n → br n m a b ∈ S)))) := by
  refine call_of h rfl (by decide) ?_
  unfold fd24
  walk_at "ev"
  rw [r1_n (by omega)]
  walk_at "ev"
  refine ⟨by omega, ok_mapR (l := List.range n) (em := fun k : Nat => .int (k : Int)) (fun k => .bl (decide (k ∈ S))) (fun x hx => ?_) ?_⟩
  · walk_at "ev"
  walk_at "ev"
  rw [rng_n (by omega)]
  have er : (if false = true then RV.v (.tup (rg n)) else .f (rg n)) = .f (rg n) := rfl
  rw [er]
  walk_at "ev"
  refine ⟨by omega, ok_mapF (l := List.range n) (em := fun k : Nat => .int (k : Int)) (fun a => if ((List.range n).all fun b => decide (br n m a b ∈ S)) = true then some (iD a) else none) (fun a ha => ?_) ?_⟩
  · have ha : a < n := by simpa using ha
    walk_at "ev"
    refine ⟨by omega, ok_mapR (l := List.range n) (em := fun k : Nat => .int (k : Int)) (fun b => .bl (decide (br n m a b ∈ S))) (fun b hb => ?_) ?_⟩
    · have hb : b < n := by simpa using hb
      walk_at "ev"
      rw [sp_comm h19 h20 n' g ha hb]
      walk_at "ev"
      exact br_lt g ha hb
    walk_at "ev"
    refine ⟨fun e => ?_, fun e => ?_⟩
    · rw [if_pos e]
    · rw [if_neg (by rw [e]; decide)]
  have e1 : (List.range n).filter (fun a => (List.range n).all fun b => decide (br n m a b ∈ S)) = fl n fun a => ∀ b, b < n → br n m a b ∈ S := filter_fl fun x hx => by
    rw [List.all_eq_true]
    simp
  rw [filterMap_if n (fun a => (List.range n).all fun b => decide (br n m a b ∈ S)), e1]
  walk_at "ev"
theorem US_next (g : Grp n m) (k : Nat) : (fl n fun a => ∀ b, b < n → br n m a b ∈ upL n m k) = upL n m (k + 1) := fl_congr fun a ha =>
  ⟨fun q => ⟨ha, fun b hb => (fl_mem.mp (q b hb)).2⟩, fun q b hb => fl_mem.mpr ⟨br_lt g ha hb, q.2 b hb⟩⟩
theorem sp_up (h19 : Tx.fn 19 = some fd19) (h20 : Tx.fn 20 = some fd20) (h24 : Tx.fn 24 = some fd24) (h : Tx.fn 25 = some fd25) (n' : Nat) (g : Grp n m) (hn : n ≤ 1000) {K : Nat} (hK : K < n) (st : Stay (upL n m) K) :
    (rt Tx (n' + 4)).call 25 [grpD n m] = .ok (.f (tpRows (upL n m) (K + 1))) := by
  refine call_of h rfl (by decide) ?_
  unfold fd25
  walk_at "ev"
  have e0 : [D.tup [D.int ((0 : Nat) : Int)]] = tpRows (upL n m) 1 := by
    show _ = [D.tup (nL (upL n m 0))]
    rw [up_zero g]; rfl
  rw [e0]
  refine ok_while (fun M σ => ∃ k s2, k ≤ K ∧ M = n - k ∧ σ = [.d (grpD n m), .l (tpRows (upL n m) (k + 1)), s2]) n (by unfold fuel; omega) ?_ ?_
  · exact ⟨0, .u, Nat.zero_le _, rfl, rfl⟩
  · rintro M σ _ ⟨k, s2, hkK, rfl, rfl⟩
    refine (w_bl _).mpr (.inl ⟨rfl, n - k - 1, by omega, ?_⟩)
    unfold lb31
    walk_at "ev"
    rw [sp_central h19 h20 h24 n' g hn, US_next g]
    walk_at "ev"
    refine ⟨fun e => ?_, fun ne => ⟨by omega, k + 1, .d (.tup (nL (upL n m (k + 1)))), ?_, by omega, by rw [tpRows_add]⟩⟩
    · by_cases c : k = K
      · subst c; rfl
      · exact (st.ne k (by omega) e).elim
    · by_cases c : k = K
      · subst c; exact (ne st.eq).elim
      · omega
end
end DW


set_option Elab.async false
set_option linter.all false
set_option maxRecDepth 100000
set_option maxHeartbeats 4000000
namespace DW
open PySem PySem.Spec Ev
section
variable {R : Rt} {σ : List Sl} {Q : RV → Prop} {E : Nat → List D → Prop}
theorem is_ii (i : Int) : isis (.v (.int i)) [.int] = some true := rfl
theorem is_ib (i : Int) : isis (.v (.int i)) [.bool] = some false := rfl
theorem is_ni : isis (.v .non) [.int] = some false := rfl
theorem is_tt (xs : List D) : isis (.v (.tup xs)) [.tup] = some true := rfl
theorem is_ll (xs : List D) : isis (.v (.lst xs)) [.lst] = some true := rfl
theorem none_n : isNone (.v .non) = some true := rfl
theorem none_i (i : Int) : isNone (.v (.int i)) = some false := rfl
theorem c_eq_t0 (l : List Nat) : Ok (cmpD .eq (.v (.tup (nL l))) (.v (.tup [.int ((0 : Nat) : Int)]))) Q E ↔ Q (.v (.bl (decide (l = [0])))) := c_eq_t l [0]
theorem b_sub1 (k : Nat) : Ok (binD .sub (.v (.int ((k + 1 : Nat) : Int))) (.v (.int ((1 : Nat) : Int)))) Q E ↔ Q (.v (.int (k : Int))) := by
  rw [b_subN (by omega), Nat.add_sub_cancel]
end
local macro_rules | `(tactic| walk_at "ev") => `(tactic| try simp only [is_ii, is_ib, is_ni, is_tt, is_ll, none_n, none_i, c_eq_t0, b_sub1, cont0, ok_bind, m_ins0, range_last, c_eq_bv, p_sorted_b, p_sorted_f, p_sorted_l, p_all', p_any', c_inn_l, c_inn_t, c_ni_l, c_ni_t, w_comp2, w_body2, chain_n, last_n, wipe_nil, wipe_cons, bare_nil, bare_cons, bareS_u, bareS_d, Bool.and_self, Bool.and_true, Bool.true_and, asV_v, asV_f, map_get, map_last, range_get, c_ne_ff, c_ne_vf, c_ne_fv, c_eq_vf, c_eq_vv, c_eq_t, b_add_vv, b_add_vf, b_add_ff, b_add_fv, b_add_tt, w_dnewT, w_dispT, keyT_nL, disp_bl, w_din, din_t, w_dget, dget_t, getT_nL, s_dput', dput_t, put_nL, w_var, v_d, v_l, v_o, w_con, w_int0, w_int1, w_int, w_bl, w_str, w_non, w_bin, w_neg, w_not, w_and, w_or, w_ite, w_eq, w_ne, w_lt, w_le, w_gt, w_ge, w_inn, w_ni, w_isn, w_notn, w_chain, w_tup, w_lst, w_idx, w_slice, w_fld, w_call, w_make, w_meth, w_p1, w_p2, w_sm, w_isi, w_nil, w_cons, w_no, w_some, opt_int, if_t, if_f, if_bl, not_bl, neg_int, b_add, b_mul, pow_18, b_mod, b_fdiv, c_lt', c_le', c_gt', c_ge', c_eq', c_ne', p_len_l, p_len_t, p_len_n, p_len_f, p_len_b, p_len_s, p_int', p_list_l, p_list_t, p_list_n, p_list_f, p_list_b, p_tup_l, p_tup_t, p_tup_n, p_tup_f, p_tup_b, p_tpn_l, p_tpn_f, p_tpn_b, p_min', p_max', ok_ofB, ix_l, ix_t, ix_n, ix_f, ix_b, ix_scr, ixm_l, ixm_b, ixm_t, tup_some, lst_some, fld_ins, fld_o, call_some, call_lent, make_some, make_lent, av_nil, av_cv, av_cf, ad_nil, ad_cv, ad_cf, ad_cb, any_nil, any_cv, any_cf, any_cb, Option.map_some, ok_ok, ok_ofOpt, nx_nx, nx_ret, nx_bk, nx_ct, x_nil', x_cons', s_set', st_v', st_f', st_t', st_k', s_ret', bk_v', bk_f', bk_b', s_retN', s_ifs', s_frz', frz_l, frz_d, frz_u, frz_n, s_lm', lm_l, lm_app, lm_appf, s_setIdx', set_l, set_n, s_aug', aug_i, augX_n, s_expr', s_brk', s_cont', s_pass', s_fset', rd_nx, rd_ct, rd_bk, rd_ret, w_bodyD, bind1, bind2, i_r1', i_r2', i_seq, seq_l, seq_t, seq_n, seq_f, seq_b, w_rng1, w_comp, w_compF, w_bodyM, w_bodyF, List.getElem?_cons_zero, List.getElem?_cons_succ, List.set_cons_zero, List.set_cons_succ, List.length_cons, List.length_nil, List.length_map, List.length_range, Nat.zero_add, cap_eq, Nat.reduceAdd, Nat.reduceLeDiff, true_and, and_true, decide_eq_true_eq, decide_eq_false_iff_not, Bool.not_eq_true', Bool.not_eq_false', List.map_cons, List.map_nil, List.replicate_succ, List.replicate_zero, Nat.reduceSub, p_abs', Out.ret.injEq, RV.v.injEq, D.int.injEq, Int.natCast_inj, Out.nx.injEq, List.cons_append, List.nil_append, Option.some.injEq, exists_eq_left', reduceCtorEq, false_implies, true_implies])
section
variable {n : Nat} {m : Nat → Nat → Nat} {Tx : Text}
theorem sp_integer (h : Tx.fn 26 = some fd26) (n' : Nat) (a b : Nat) : (rt Tx (n' + 1)).call 26 [.int a, .int b] = .ok (.v (.bl (decide (a = b)))) := by
  refine call_of h rfl (by decide) ?_
  unfold fd26
  walk_at "ev"
theorem sp_integer0 (h : Tx.fn 26 = some fd26) (n' : Nat) (b : Nat) : (rt Tx (n' + 1)).call 26 [.non, .int b] = .ok (.v (.bl false)) := by
  refine call_of h rfl (by decide) ?_
  unfold fd26
  walk_at "ev"
theorem sp_members (h26 : Tx.fn 26 = some fd26) (h : Tx.fn 27 = some fd27) (n' : Nat) {l : List Nat} (hl : l.length ≤ 1000) : (rt Tx (n' + 2)).call 27 [.tup (nL l), .lst (nL l)] = .ok (.v (.bl true)) := by
  refine call_of h rfl (by decide) ?_
  unfold fd27
  walk_at "ev"
  refine ⟨fun z => (z trivial).elim, ?_⟩
  refine ok_forN (n := l.length) (fun k σ => ∃ s2, σ = [.d (.tup (nL l)), .d (.lst (nL l)), s2]) ?_ ?_ ?_ ?_
  · walk_at "ev"
    rw [r1_n (by omega)]
  · exact ⟨.u, rfl⟩
  · rintro k σ hk ⟨s2, rfl⟩
    unfold lb32
    walk_at "ev"
    refine ⟨_, List.getElem?_eq_getElem hk, _, List.getElem?_eq_getElem hk, ?_⟩
    rw [sp_integer h26 n']
    walk_at "ev"
    exact ⟨fun z => (z trivial).elim, .d (iD k), rfl⟩
  · rintro σ ⟨s2, rfl⟩
    walk_at "ev"
theorem sp_rows (h26 : Tx.fn 26 = some fd26) (h27 : Tx.fn 27 = some fd27) (h : Tx.fn 28 = some fd28) (n' : Nat) {s : Nat → List Nat} {K : Nat} (hK : K ≤ 1000) (hs : ∀ k, (s k).length ≤ 1000) : (rt Tx (n' + 3)).call 28 [.lst (tpRows s K), .lst (lsRows s K)] = .ok (.v (.bl true)) := by
  refine call_of h rfl (by decide) ?_
  unfold fd28
  walk_at "ev"
  refine ⟨fun z => (z trivial).elim, ?_⟩
  refine ok_forN (n := K) (fun k σ => ∃ s2, σ = [.d (.lst (tpRows s K)), .d (.lst (lsRows s K)), s2]) ?_ ?_ ?_ ?_
  · walk_at "ev"
    rw [r1_n (by omega)]
  · exact ⟨.u, rfl⟩
  · rintro k σ hk ⟨s2, rfl⟩
    unfold lb33
    walk_at "ev"
    refine ⟨hk, hk, ?_⟩
    rw [sp_members h26 h27 n' (hs k)]
    walk_at "ev"
    exact ⟨.d (iD k), rfl⟩
  · rintro σ ⟨s2, rfl⟩
    walk_at "ev"

theorem sp_centre (h19 : Tx.fn 19 = some fd19) (h20 : Tx.fn 20 = some fd20) (h24 : Tx.fn 24 = some fd24) (h : Tx.fn 29 = some fd29) (n' : Nat) (g : Grp n m) (hn : n ≤ 1000) :
    (rt Tx (n' + 4)).call 29 [grpD n m] = .ok (.v (.tup (nL (upL n m 1)))) := by
  refine call_of h rfl (by decide) ?_
  unfold fd29
  walk_at "ev"
  have e0 : [D.int ((0 : Nat) : Int)] = nL (upL n m 0) := by rw [up_zero g]; rfl
  rw [e0, sp_central h19 h20 h24 n' g hn, US_next g]
  walk_at "ev"
theorem sp_classof (h9 : Tx.fn 9 = some fd9) (h19 : Tx.fn 19 = some fd19) (h20 : Tx.fn 20 = some fd20) (h21 : Tx.fn 21 = some fd21) (h22 : Tx.fn 22 = some fd22) (h23 : Tx.fn 23 = some fd23) (h : Tx.fn 30 = some fd30) (n' : Nat) (g : Grp n m) (hn : n ≤ 1000) {K : Nat} (hK : K < n) (st : Stay (lowL n m) K) :
    (rt Tx (n' + 5)).call 30 [grpD n m] = .ok (.v (if lowL n m K = [0] then .int K else .non)) := by
  refine call_of h rfl (by decide) ?_
  unfold fd30
  walk_at "ev"
  rw [sp_low h9 h19 h20 h21 h22 h23 n' g hn hK st]
  walk_at "ev"
  exact ⟨fun e => by rw [if_pos e], fun e => by rw [if_neg e]⟩
theorem up_full (g : Grp n m) (k : Nat) : (upL n m k).length < n ↔ ¬ ∀ x, x < n → US n m k x := by
  refine ⟨fun h q => ?_, fun h => ?_⟩
  · have := sub_len (l1 := List.range n) (l2 := upL n m k) List.nodup_range fun x hx => fl_mem.mpr ⟨by simpa using hx, q x (by simpa using hx)⟩
    rw [List.length_range] at this; omega
  · by_cases c : (upL n m k).length < n
    · exact c
    · exfalso
      refine h fun x hx => ?_
      exact (fl_mem.mp (pigeon (fl_nodup n (US n m k)) (l2 := List.range n) (fun x hx => by simpa using (fl_mem.mp hx).1) (by rw [List.length_range]; exact Nat.le_of_not_lt c) x (by simpa using hx))).2
theorem low_one (g : Grp n m) (k : Nat) : (lowL n m k = [0] ↔ ∀ x, LS n m k x → x = 0) ∧ (1 < (lowL n m k).length ↔ ¬ ∀ x, LS n m k x → x = 0) := by
  have h0 : 0 ∈ lowL n m k := fl_mem.mpr ⟨g.pos, (LS_ns g k).z⟩
  have a : (∀ x, LS n m k x → x = 0) → lowL n m k = [0] := fun q => by
    have h1 : ∀ x ∈ lowL n m k, x ∈ [0] := fun x hx => by rw [q x (fl_mem.mp hx).2]; simp
    have h3 := sub_len (fl_nodup n (LS n m k)) h1
    cases e : lowL n m k with
    | nil => rw [e] at h0; simp at h0
    | cons x t =>
      have h3' : (lowL n m k).length ≤ 1 := h3
      have : t = [] := List.length_eq_zero_iff.mp (by rw [e] at h3'; simp at h3'; simp [h3'])
      subst this
      rw [e] at h0
      rw [List.mem_singleton.mp h0]
  have b : lowL n m k = [0] → ∀ x, LS n m k x → x = 0 := fun e x hx => by
    have : x ∈ lowL n m k := fl_mem.mpr ⟨(LS_ns g k).lt hx, hx⟩
    rw [e] at this; simpa using this
  refine ⟨⟨b, a⟩, fun h q => ?_, fun h => ?_⟩
  · rw [a q] at h; simp at h
  · by_cases c : 1 < (lowL n m k).length
    · exact c
    · exfalso
      refine h fun x hx => ?_
      exact List.mem_singleton.mp (pigeon (l1 := [0]) (l2 := lowL n m k) (by simp) (fun y hy => by rw [List.mem_singleton.mp hy]; exact h0) (by simp; omega) x (fl_mem.mpr ⟨(LS_ns g k).lt hx, hx⟩))
theorem sp_class (h9 : Tx.fn 9 = some fd9) (h19 : Tx.fn 19 = some fd19) (h20 : Tx.fn 20 = some fd20) (h21 : Tx.fn 21 = some fd21) (h22 : Tx.fn 22 = some fd22) (h23 : Tx.fn 23 = some fd23) (h26 : Tx.fn 26 = some fd26) (h30 : Tx.fn 30 = some fd30) (h : Tx.fn 31 = some fd31) (n' : Nat) (g : Grp n m) (hn : n ≤ 1000) {Ku Kl : Nat} (hKu : Ku < n) (hKl : Kl < n) (su : Stay (upL n m) Ku) (sl : Stay (lowL n m) Kl) :
    (rt Tx (n' + 6)).call 31 [grpD n m, .lst (fT n m), .lst (lsRows (upL n m) (Ku + 1)), .lst (lsRows (lowL n m) (Kl + 1))] = .ok (.v (.bl true)) := by
  refine call_of h rfl (by decide) ?_
  unfold fd31
  walk_at "ev"
  rw [sp_classof h9 h19 h20 h21 h22 h23 h30 n' g hn hKl sl]
  by_cases hall : ∀ x, x < n → US n m Ku x
  · have hz := (class_eq g su sl).mp hall
    have hK := class_same g su sl hall
    have hu : ¬ (upL n m Ku).length < n := fun z => (up_full g Ku).mp z hall
    have hl : ¬ 1 < (lowL n m Kl).length := fun z => (low_one g Kl).2.mp z hz
    rw [if_pos ((low_one g Kl).1.mpr hz)]
    walk_at "ev"
    simp only [hu, hl, if_true, if_false]
    walk_at "ev"
    intro _ _
    rw [sp_integer h26 (n' + 4), ok_ok, decide_eq_true hK.symm]
    walk_at "ev"
    rw [sp_integer h26 (n' + 4), ok_ok]
    walk_at "ev"
    simp
  · have hz : ¬ ∀ x, LS n m Kl x → x = 0 := fun z => hall ((class_eq g su sl).mpr z)
    have hu := (up_full g Ku).mpr hall
    have hl := (low_one g Kl).2.mpr hz
    rw [if_neg (fun e => hz ((low_one g Kl).1.mp e))]
    walk_at "ev"
    simp only [hu, hl]
    walk_at "ev"
    exact ⟨⟨by simp, fun z => (z trivial).elim⟩, fun z => (z trivial).elim⟩
theorem sp_told (h9 : Tx.fn 9 = some fd9) (h19 : Tx.fn 19 = some fd19) (h20 : Tx.fn 20 = some fd20) (h21 : Tx.fn 21 = some fd21) (h22 : Tx.fn 22 = some fd22) (h23 : Tx.fn 23 = some fd23) (h24 : Tx.fn 24 = some fd24) (h25 : Tx.fn 25 = some fd25) (h26 : Tx.fn 26 = some fd26) (h27 : Tx.fn 27 = some fd27) (h28 : Tx.fn 28 = some fd28) (h29 : Tx.fn 29 = some fd29) (h30 : Tx.fn 30 = some fd30) (h31 : Tx.fn 31 = some fd31) (h : Tx.fn 32 = some fd32) (n' : Nat) (g : Grp n m) (hn : n ≤ 100) {Ku Kl : Nat} (hKu : Ku < n) (hKl : Kl < n) (su : Stay (upL n m) Ku) (sl : Stay (lowL n m) Kl) :
    (rt Tx (n' + 7)).call 32 [grpD n m, .lst (fT n m), .lst (lsRows (upL n m) (Ku + 1)), .lst (lsRows (lowL n m) (Kl + 1))] = .ok (.v (.bl true)) := by
  refine call_of h rfl (by decide) ?_
  unfold fd32
  walk_at "ev"
  rw [sp_low h9 h19 h20 h21 h22 h23 (n' + 2) g (by omega) hKl sl]
  walk_at "ev"
  rw [sp_rows h26 h27 h28 (n' + 3) (by omega) (fun k => Nat.le_trans (fl_len _ _) (by omega))]
  walk_at "ev"
  rw [sp_up h19 h20 h24 h25 (n' + 2) g (by omega) hKu su]
  walk_at "ev"
  rw [sp_rows h26 h27 h28 (n' + 3) (by omega) (fun k => Nat.le_trans (fl_len _ _) (by omega))]
  walk_at "ev"
  rw [sp_centre h19 h20 h24 h29 (n' + 2) g (by omega)]
  walk_at "ev"
  rw [r1_n (by omega)]
  walk_at "ev"
  refine ⟨by omega, ok_mapF (l := List.range n) (em := fun k : Nat => .int (k : Int)) (fun a => if decide ((List.range n).map (m a) = (List.range n).map fun b => m b a) = true then some (iD a) else none) (fun a ha => ?_) ?_⟩
  · have ha : a < n := by simpa using ha
    walk_at "ev"
    refine ⟨ha, by omega, ok_mapR (l := List.range n) (em := fun b : Nat => .lst (fR n m b)) (fun b => iD (m b a)) (fun b hb => ?_) ?_⟩
    · walk_at "ev"
      exact ha
    have e1 : ((List.range n).map fun b : Nat => iD (m b a)) = nL ((List.range n).map fun b => m b a) := by rw [nL, List.map_map]; rfl
    rw [e1, fR_nL]
    walk_at "ev"
    refine ⟨fun e => ?_, fun e => ?_⟩
    · rw [if_pos e]
    · rw [if_neg e]
  have e1 : (List.range n).filter (fun a => decide ((List.range n).map (m a) = (List.range n).map fun b => m b a)) = upL n m 1 := filter_fl fun a ha => by
    rw [decide_eq_true_eq, US_one g ha]
    refine ⟨fun e b hb => ?_, fun e => List.map_congr_left fun b hb => e b (by simpa using hb)⟩
    have := congrArg (fun l => l[b]?) e
    simpa [hb] using this
  rw [filterMap_if n (fun a => decide ((List.range n).map (m a) = (List.range n).map fun b => m b a)), e1]
  rw [sp_members h26 h27 (n' + 4) (Nat.le_trans (fl_len _ _) (by omega))]
  walk_at "ev"
  rw [sp_class h9 h19 h20 h21 h22 h23 h26 h30 h31 n' g (by omega) hKu hKl su sl]
  walk_at "ev"
theorem min_top (g : Grp n m) {Kl : Nat} (sl : Stay (lowL n m) Kl) (j : Nat) : LS n m (min (max j 1) (Kl + 1) - 1) = LS n m (j - 1) := by
  by_cases c : j - 1 ≤ Kl
  · rw [show min (max j 1) (Kl + 1) - 1 = j - 1 by omega]
  · rw [show min (max j 1) (Kl + 1) - 1 = Kl by omega, low_const g sl.eq (j - 1) (by omega)]
theorem sp_below (h14 : Tx.fn 14 = some fd14) (h : Tx.fn 18 = some fd18) (n' : Nat) (g : Grp n m) (hn : n ≤ 1000) {Ku Kl : Nat} (hKu : Ku < n) (hKl : Kl < n) (su : Stay (upL n m) Ku) (sl : Stay (lowL n m) Kl) :
    (rt Tx (n' + 2)).call 18 [.lst (fT n m), .lst (tpRows (upL n m) (Ku + 1)), .lst (tpRows (lowL n m) (Kl + 1))] = .ok (.v (.bl true)) := by
  refine call_of h rfl (by decide) ?_
  unfold fd18
  walk_at "ev"
  refine ⟨by omega, undo_ok g hn (fun _ => trivial) ?_ (fun _ => rfl)⟩
  walk_at "ev"
  refine ok_forN (n := Ku + 1) (fun k σ => ∃ s4 s5 s7 s8, σ = [.d (.lst (fT n m)), .d (.lst (tpRows (upL n m) (Ku + 1))), .d (.lst (tpRows (lowL n m) (Kl + 1))), .d (.lst (iR n m)), s4, s5, .u, s7, s8]) ?_ ?_ ?_ ?_
  · walk_at "ev"
    rw [r1_n (by omega)]
  · exact ⟨.u, .u, .u, .u, rfl⟩
  · rintro i σ hi ⟨s4, s5, s7, s8, rfl⟩
    unfold lb25
    walk_at "ev"
    refine ok_forN (n := i + 1) (fun k σ => ∃ s5 s7 s8, σ = [.d (.lst (fT n m)), .d (.lst (tpRows (upL n m) (Ku + 1))), .d (.lst (tpRows (lowL n m) (Kl + 1))), .d (.lst (iR n m)), .d (.int i), s5, .u, s7, s8]) ?_ ?_ ?_ ?_
    · walk_at "ev"
      rw [r1_n (by omega)]
    · exact ⟨s5, s7, s8, rfl⟩
    · rintro j σ hj ⟨s5, s7, s8, rfl⟩
      unfold lb24
      walk_at "ev"
      refine ok_forL (l := upL n m i) (em := iD) (fun k σ => ∃ s7 s8, σ = [.d (.lst (fT n m)), .d (.lst (tpRows (upL n m) (Ku + 1))), .d (.lst (tpRows (lowL n m) (Kl + 1))), .d (.lst (iR n m)), .d (.int i), .d (.int j), .u, s7, s8]) ?_ ?_ ?_ ?_
      · walk_at "ev"
        exact hi
      · exact ⟨s7, s8, rfl⟩
      · rintro k a σ hk ⟨s7, s8, rfl⟩
        have hma := fl_mem.mp (show a ∈ upL n m i by obtain ⟨h1, h2⟩ := List.getElem?_eq_some_iff.mp hk; rw [← h2]; exact List.getElem_mem h1)
        unfold lb23
        walk_at "ev"
        refine ok_forL (l := lowL n m (min (max j 1) (Kl + 1) - 1)) (em := iD) (fun k σ => ∃ s8, σ = [.d (.lst (fT n m)), .d (.lst (tpRows (upL n m) (Ku + 1))), .d (.lst (tpRows (lowL n m) (Kl + 1))), .d (.lst (iR n m)), .d (.int i), .d (.int j), .u, .d (.int a), s8]) ?_ ?_ ?_ ?_
        · walk_at "ev"
          rw [b_subN (by omega)]
          walk_at "ev"
          omega
        · exact ⟨s8, rfl⟩
        · rintro q b σ hq ⟨s8, rfl⟩
          have hmb := fl_mem.mp (show b ∈ lowL n m (min (max j 1) (Kl + 1) - 1) by obtain ⟨h1, h2⟩ := List.getElem?_eq_some_iff.mp hq; rw [← h2]; exact List.getElem_mem h1)
          rw [min_top g sl] at hmb
          unfold lb22
          walk_at "ev"
          rw [sp_bracket h14 n' g hma.1 hmb.1]
          walk_at "ev"
          rw [b_subN (by omega)]
          walk_at "ev"
          have key : br n m a b ∈ upL n m (i - j) := by
            refine fl_mem.mpr ⟨br_lt g hma.1 hmb.1, ?_⟩
            cases j with
            | zero => exact (US_ns g i).brl g hma.2 hmb.1
            | succ j => exact ul_br g j i (by omega) a b hma.2 hmb.2
          exact ⟨by omega, fun z => (z key).elim, fun _ => ⟨.d (iD b), rfl⟩⟩
        · rintro σ ⟨s8, rfl⟩
          walk_at "ev"
          exact ⟨.d (iD a), s8, rfl⟩
      · rintro σ ⟨s7, s8, rfl⟩
        walk_at "ev"
        exact ⟨.d (iD j), s7, s8, rfl⟩
    · rintro σ ⟨s5, s7, s8, rfl⟩
      walk_at "ev"
      exact ⟨.d (iD i), s5, s7, s8, rfl⟩
  · rintro σ ⟨s4, s5, s7, s8, rfl⟩
    walk_at "ev"
end
end DW


set_option Elab.async false
set_option linter.all false
set_option maxRecDepth 100000
set_option maxHeartbeats 4000000
namespace DW
open PySem PySem.Spec Ev
local macro_rules | `(tactic| walk_at "ev") => `(tactic| try simp only [is_ii, is_ib, is_ni, is_tt, is_ll, none_n, none_i, c_eq_t0, b_sub1, cont0, ok_bind, m_ins0, range_last, c_eq_bv, p_sorted_b, p_sorted_f, p_sorted_l, p_all', p_any', c_inn_l, c_inn_t, c_ni_l, c_ni_t, w_comp2, w_body2, chain_n, last_n, wipe_nil, wipe_cons, bare_nil, bare_cons, bareS_u, bareS_d, Bool.and_self, Bool.and_true, Bool.true_and, asV_v, asV_f, map_get, map_last, range_get, c_ne_ff, c_ne_vf, c_ne_fv, c_eq_vf, c_eq_vv, c_eq_t, b_add_vv, b_add_vf, b_add_ff, b_add_fv, b_add_tt, w_dnewT, w_dispT, keyT_nL, disp_bl, w_din, din_t, w_dget, dget_t, getT_nL, s_dput', dput_t, put_nL, w_var, v_d, v_l, v_o, w_con, w_int0, w_int1, w_int, w_bl, w_str, w_non, w_bin, w_neg, w_not, w_and, w_or, w_ite, w_eq, w_ne, w_lt, w_le, w_gt, w_ge, w_inn, w_ni, w_isn, w_notn, w_chain, w_tup, w_lst, w_idx, w_slice, w_fld, w_call, w_make, w_meth, w_p1, w_p2, w_sm, w_isi, w_nil, w_cons, w_no, w_some, opt_int, if_t, if_f, if_bl, not_bl, neg_int, b_add, b_mul, pow_18, b_mod, b_fdiv, c_lt', c_le', c_gt', c_ge', c_eq', c_ne', p_len_l, p_len_t, p_len_n, p_len_f, p_len_b, p_len_s, p_int', p_list_l, p_list_t, p_list_n, p_list_f, p_list_b, p_tup_l, p_tup_t, p_tup_n, p_tup_f, p_tup_b, p_tpn_l, p_tpn_f, p_tpn_b, p_min', p_max', ok_ofB, ix_l, ix_t, ix_n, ix_f, ix_b, ix_scr, ixm_l, ixm_b, ixm_t, tup_some, lst_some, fld_ins, fld_o, call_some, call_lent, make_some, make_lent, av_nil, av_cv, av_cf, ad_nil, ad_cv, ad_cf, ad_cb, any_nil, any_cv, any_cf, any_cb, Option.map_some, ok_ok, ok_ofOpt, nx_nx, nx_ret, nx_bk, nx_ct, x_nil', x_cons', s_set', st_v', st_f', st_t', st_k', s_ret', bk_v', bk_f', bk_b', s_retN', s_ifs', s_frz', frz_l, frz_d, frz_u, frz_n, s_lm', lm_l, lm_app, lm_appf, s_setIdx', set_l, set_n, s_aug', aug_i, augX_n, s_expr', s_brk', s_cont', s_pass', s_fset', rd_nx, rd_ct, rd_bk, rd_ret, w_bodyD, bind1, bind2, i_r1', i_r2', i_seq, seq_l, seq_t, seq_n, seq_f, seq_b, w_rng1, w_comp, w_compF, w_bodyM, w_bodyF, List.getElem?_cons_zero, List.getElem?_cons_succ, List.set_cons_zero, List.set_cons_succ, List.length_cons, List.length_nil, List.length_map, List.length_range, Nat.zero_add, cap_eq, Nat.reduceAdd, Nat.reduceLeDiff, true_and, and_true, decide_eq_true_eq, decide_eq_false_iff_not, Bool.not_eq_true', Bool.not_eq_false', List.map_cons, List.map_nil, List.replicate_succ, List.replicate_zero, Nat.reduceSub, p_abs', Out.ret.injEq, RV.v.injEq, D.int.injEq, Int.natCast_inj, Out.nx.injEq, List.cons_append, List.nil_append, Option.some.injEq, exists_eq_left', reduceCtorEq, false_implies, true_implies])
/-! ### turning and stretching moves -/
def mulL (p f : Nat) : List Nat := (List.range p).map fun x => f * x % p
def affC (p f : Nat) : Nat × Nat := (List.range p).foldl (fun s _ => if s.2 ≠ 1 then (s.1 + 1, s.2 * f % p) else s) (1, f)
def affF (p f0 : Nat) : Nat := let f := if sortNat (mulL p f0) = List.range p then f0 else p - 1
  if 32 < p * (affC p f).1 then 1 else f
def affG (p f0 : Nat) : List (List Nat) := [(List.range p).map fun x => (x + 1) % p, mulL p (affF p f0)]
def affV : List (List Nat) := [[1], [1, 2], [1, 3], [1, 2, 3, 4], [1, 5], [1, 2, 4, 6], [1, 3, 5, 7], [1, 4, 7, 8], [1, 9], [1, 10], [1, 5, 7, 11], [1, 12], [1, 13], [1, 4, 11, 14], [1, 7, 9, 15]]
theorem aff_in : (List.range 15).all (fun k => (List.range (k + 2)).all fun f => (affV.getD k []).contains (affF (k + 2) f)) = true := by decide +kernel
set_option maxHeartbeats 0 in
theorem aff_okV : (List.range 15).all (fun k => (affV.getD k []).all fun f => okG (k + 2) [(List.range (k + 2)).map fun x => (x + 1) % (k + 2), mulL (k + 2) f] && decide ((closeN [(List.range (k + 2)).map fun x => (x + 1) % (k + 2), mulL (k + 2) f]).length ≤ 32)) = true := by decide +kernel
theorem aff_ok {k f : Nat} (hk : k < 15) (hf : f < k + 2) : okG (k + 2) (affG (k + 2) f) = true ∧ (closeN (affG (k + 2) f)).length ≤ 32 := by
  have h1 := List.all_eq_true.mp (List.all_eq_true.mp aff_in k (by simpa using hk)) f (by simpa using hf)
  have h2 := List.all_eq_true.mp (List.all_eq_true.mp aff_okV k (by simpa using hk)) (affF (k + 2) f) (List.contains_iff_mem.mp h1)
  rw [Bool.and_eq_true, decide_eq_true_eq] at h2
  exact h2
theorem closeN_len (gs : List (List Nat)) : (sortN (closeN gs)).length = (closeN gs).length := (sortN_perm _).length_eq
end DW


set_option Elab.async false
set_option linter.all false
set_option maxRecDepth 100000
set_option maxHeartbeats 4000000
namespace DW
open PySem PySem.Spec Ev
local macro_rules | `(tactic| walk_at "ev") => `(tactic| try simp only [is_ii, is_ib, is_ni, is_tt, is_ll, none_n, none_i, c_eq_t0, b_sub1, cont0, ok_bind, m_ins0, range_last, c_eq_bv, p_sorted_b, p_sorted_f, p_sorted_l, p_all', p_any', c_inn_l, c_inn_t, c_ni_l, c_ni_t, w_comp2, w_body2, chain_n, last_n, wipe_nil, wipe_cons, bare_nil, bare_cons, bareS_u, bareS_d, Bool.and_self, Bool.and_true, Bool.true_and, asV_v, asV_f, map_get, map_last, range_get, c_ne_ff, c_ne_vf, c_ne_fv, c_eq_vf, c_eq_vv, c_eq_t, b_add_vv, b_add_vf, b_add_ff, b_add_fv, b_add_tt, w_dnewT, w_dispT, keyT_nL, disp_bl, w_din, din_t, w_dget, dget_t, getT_nL, s_dput', dput_t, put_nL, w_var, v_d, v_l, v_o, w_con, w_int0, w_int1, w_int, w_bl, w_str, w_non, w_bin, w_neg, w_not, w_and, w_or, w_ite, w_eq, w_ne, w_lt, w_le, w_gt, w_ge, w_inn, w_ni, w_isn, w_notn, w_chain, w_tup, w_lst, w_idx, w_slice, w_fld, w_call, w_make, w_meth, w_p1, w_p2, w_sm, w_isi, w_nil, w_cons, w_no, w_some, opt_int, if_t, if_f, if_bl, not_bl, neg_int, b_add, b_mul, pow_18, b_mod, b_fdiv, c_lt', c_le', c_gt', c_ge', c_eq', c_ne', p_len_l, p_len_t, p_len_n, p_len_f, p_len_b, p_len_s, p_int', p_list_l, p_list_t, p_list_n, p_list_f, p_list_b, p_tup_l, p_tup_t, p_tup_n, p_tup_f, p_tup_b, p_tpn_l, p_tpn_f, p_tpn_b, p_min', p_max', ok_ofB, ix_l, ix_t, ix_n, ix_f, ix_b, ix_scr, ixm_l, ixm_b, ixm_t, tup_some, lst_some, fld_ins, fld_o, call_some, call_lent, make_some, make_lent, av_nil, av_cv, av_cf, ad_nil, ad_cv, ad_cf, ad_cb, any_nil, any_cv, any_cf, any_cb, Option.map_some, ok_ok, ok_ofOpt, nx_nx, nx_ret, nx_bk, nx_ct, x_nil', x_cons', s_set', st_v', st_f', st_t', st_k', s_ret', bk_v', bk_f', bk_b', s_retN', s_ifs', s_frz', frz_l, frz_d, frz_u, frz_n, s_lm', lm_l, lm_app, lm_appf, s_setIdx', set_l, set_n, s_aug', aug_i, augX_n, s_expr', s_brk', s_cont', s_pass', s_fset', rd_nx, rd_ct, rd_bk, rd_ret, w_bodyD, bind1, bind2, i_r1', i_r2', i_seq, seq_l, seq_t, seq_n, seq_f, seq_b, w_rng1, w_comp, w_compF, w_bodyM, w_bodyF, List.getElem?_cons_zero, List.getElem?_cons_succ, List.set_cons_zero, List.set_cons_succ, List.length_cons, List.length_nil, List.length_map, List.length_range, Nat.zero_add, cap_eq, Nat.reduceAdd, Nat.reduceLeDiff, true_and, and_true, decide_eq_true_eq, decide_eq_false_iff_not, Bool.not_eq_true', Bool.not_eq_false', List.map_cons, List.map_nil, List.replicate_succ, List.replicate_zero, Nat.reduceSub, p_abs', Out.ret.injEq, RV.v.injEq, D.int.injEq, Int.natCast_inj, Out.nx.injEq, List.cons_append, List.nil_append, Option.some.injEq, exists_eq_left', reduceCtorEq, false_implies, true_implies])
section
variable {Tx : Text}
theorem affC_le (p f : Nat) : (affC p f).1 ≤ 1 + p := by
  have : ∀ (l : List Nat) (s : Nat × Nat), (l.foldl (fun s _ => if s.2 ≠ 1 then (s.1 + 1, s.2 * f % p) else s) s).1 ≤ s.1 + l.length := by
    intro l
    induction l with
    | nil => intro s; exact Nat.le_refl _
    | cons x l ih =>
      intro s
      rw [List.foldl_cons, List.length_cons]
      refine Nat.le_trans (ih _) ?_
      split <;> simp <;> omega
  have h := this (List.range p) (1, f)
  rw [List.length_range] at h
  exact h
theorem nL_map (l : List Nat) (f : Nat → Nat) : (l.map fun x : Nat => iD (f x)) = nL (l.map f) := by rw [nL, List.map_map]; rfl
theorem sp_affine (h1 : Tx.fn 1 = some fd1) (h2 : Tx.fn 2 = some fd2) (h : Tx.fn 4 = some fd4) (n' : Nat) (z0 z1 : Nat) :
    ∃ n m, Grp n m ∧ n ≤ 32 ∧ (rt Tx (n' + 2)).call 4 [.lst (nL [z0, z1])] = .ok (.f (fT n m)) := by
  have hk : z0 % 15 < 15 := Nat.mod_lt _ (by omega)
  have hf : z1 % (z0 % 15 + 2) < z0 % 15 + 2 := Nat.mod_lt _ (by omega)
  obtain ⟨ho, hl⟩ := aff_ok hk hf
  have hmv := okG_mvs ho
  refine ⟨_, _, hmv.grp, by rw [closeN_len]; exact hl, ?_⟩
  have hgs := okG_mv ho
  have hp2 : 2 ≤ z0 % 15 + 2 := by omega
  have hp17 : z0 % 15 + 2 < 17 := by omega
  have hpe : 2 + z0 % 15 = z0 % 15 + 2 := by omega
  refine call_of h rfl (by decide) ?_
  unfold fd4
  walk_at "ev"
  rw [hpe]
  generalize z0 % 15 + 2 = p at *
  generalize z1 % p = f0 at *
  have e0 : ∀ f1 : Nat, f1 = (if sortNat (mulL p f0) = List.range p then f0 else p - 1) → affF p f0 = if 32 < p * (affC p f1).1 then 1 else f1 := fun f1 e => by subst e; rfl
  have hret : Ok ((rt Tx (n' + 1)).call 2 [.lst [.lst (nL ((List.range p).map fun x => (x + 1) % p)), .lst (nL (mulL p (affF p f0)))]]) (fun x => x = .f ((sortN (closeN (affG p f0))).map tupN)) NoE := by
    rw [show [D.lst (nL ((List.range p).map fun x => (x + 1) % p)), D.lst (nL (mulL p (affF p f0)))] = tb (affG p f0) from rfl, sp_close h2 n' (fun g hg => (hgs g hg).1) (by unfold affG; simp) (by omega) (by omega) (by unfold affG; simp), ok_ok]
  have end_ok : ∀ f2 s5, f2 = affF p f0 → f2 < 17 → ∀ s3 s4, Ok (execB Tx.sub (rt Tx (n' + 1)) (.cons (.set 6 (.comp (.bin .mod (.p1 .int (.bin .add (.var 7) (.int 1))) (.var 1)) [7] [7] (.r1 (.var 1)) .no)) (.cons (.frz 6) (.cons (.frz 6) (.cons (.ret (.call 1 (.cons (.call 2 (.cons (.lst (.cons (.var 6) (.cons (.comp (.bin .mod (.p1 .int (.bin .mul (.var 2) (.var 7))) (.var 1)) [7] [7] (.r1 (.var 1)) .no) .nil))) .nil)) .nil))) .nil)))) [.d (.lst [iD z0, iD z1]), .d (.int p), .d (.int f2), s3, s4, s5, .u, .u]) (fun o => o = .ret (.f (fT (sortN (closeN (affG p f0))).length (mT (sortN (closeN (affG p f0))))))) NoE := by
    intro f2 s5 e hf2 s3 s4
    walk_at "ev"
    rw [r1_n (by omega)]
    walk_at "ev"
    refine ⟨by omega, ok_mapR (l := List.range p) (em := fun k : Nat => .int (k : Int)) (fun x => iD ((x + 1) % p)) (fun x hx => ?_) ?_⟩
    · walk_at "ev"
      omega
    rw [nL_map]
    walk_at "ev"
    rw [r1_n (by omega)]
    walk_at "ev"
    refine ⟨by omega, ok_mapR (l := List.range p) (em := fun k : Nat => .int (k : Int)) (fun x => iD (f2 * x % p)) (fun x hx => ?_) ?_⟩
    · have hx : x < p := by simpa using hx
      walk_at "ev"
      exact ⟨mulN (by omega), by omega⟩
    rw [nL_map]
    walk_at "ev"
    subst e
    refine hret.imp (fun x hx => ?_) (fun _ _ h => h.elim)
    subst hx
    walk_at "ev"
    rw [sp_table h1 n' hmv (by omega) (by rw [closeN_len]; omega)]
    walk_at "ev"
  have key : ∀ f1, f1 < 17 → f1 = (if sortNat (mulL p f0) = List.range p then f0 else p - 1) → Ok (execS Tx.sub (rt Tx (n' + 1)) (.forS [5] (.r1 (.var 1)) lb4) [.d (.lst [iD z0, iD z1]), .d (.int p), .d (.int f1), .d (.int ((1 : Nat) : Int)), .d (.int f1), .u, .u, .u]) (Nx Tx.sub (rt Tx (n' + 1)) (.cons (.ifs (.cmp .gt (.bin .mul (.var 1) (.var 3)) (.int 32)) (.cons (.set 2 (.int 1)) .nil) .nil) (.cons (.set 6 (.comp (.bin .mod (.p1 .int (.bin .add (.var 7) (.int 1))) (.var 1)) [7] [7] (.r1 (.var 1)) .no)) (.cons (.frz 6) (.cons (.frz 6) (.cons (.ret (.call 1 (.cons (.call 2 (.cons (.lst (.cons (.var 6) (.cons (.comp (.bin .mod (.p1 .int (.bin .mul (.var 2) (.var 7))) (.var 1)) [7] [7] (.r1 (.var 1)) .no) .nil))) .nil)) .nil))) .nil))))) (fun o => o = .ret (.f (fT (sortN (closeN (affG p f0))).length (mT (sortN (closeN (affG p f0))))))) NoE) NoE := by
    intro f1 hf1 e
    refine ok_forF (l := List.range p) (em := fun k : Nat => .int (k : Int)) (fun (s : Nat × Nat) σ => ∃ s5, σ = [.d (.lst [iD z0, iD z1]), .d (.int p), .d (.int f1), .d (.int s.1), .d (.int s.2), s5, .u, .u]) (fun s _ => if s.2 ≠ 1 then (s.1 + 1, s.2 * f1 % p) else s) (1, f1) ?_ ?_ ?_ ?_
    · walk_at "ev"
      rw [r1_n (by omega)]
    · exact ⟨.u, rfl⟩
    · rintro ⟨c, w⟩ x σ hx ⟨s5, rfl⟩
      unfold lb4
      walk_at "ev"
      refine ⟨fun hw => ⟨mulN (by omega), by omega, .d (iD x), by simp [hw]⟩, fun hw => ⟨.d (iD x), by simp [hw]⟩⟩
    · rintro σ ⟨s5, rfl⟩
      have hc : (List.range p).foldl (fun s _ => if s.2 ≠ 1 then (s.1 + 1, s.2 * f1 % p) else s) (1, f1) = affC p f1 := rfl
      have hle := affC_le p f1
      have e1 := e0 f1 e
      rw [hc, nx_nx, x_cons', s_ifs']
      refine Ok.imp (P := fun x => x = .v (.bl (decide (32 < p * (affC p f1).1)))) (F := NoE) ?_ (fun x hx => ?_) (fun _ _ h => h.elim)
      · walk_at "ev"
        exact mulN (by omega)
      · subst hx
        rw [if_bl]
        refine ⟨fun q => ?_, fun q => ?_⟩
        · rw [x_cons', s_set', w_int, st_v', nx_nx, x_nil', nx_nx]
          exact end_ok 1 s5 (by rw [e1, if_pos (of_decide_eq_true q)]) (by omega) _ _
        · rw [x_nil', nx_nx]
          exact end_ok f1 s5 (by rw [e1, if_neg (of_decide_eq_false q)]) hf1 _ _
  refine ⟨by omega, by omega, ?_⟩
  rw [r1_n (by omega)]
  walk_at "ev"
  refine ⟨by omega, ok_mapR (l := List.range p) (em := fun k : Nat => .int (k : Int)) (fun x => iD (f0 * x % p)) (fun x hx => ?_) ?_⟩
  · have hx : x < p := by simpa using hx
    walk_at "ev"
    exact ⟨mulN (by omega), by omega⟩
  have em : ((List.range p).map fun x => iD (f0 * x % p)) = nL (mulL p f0) := nL_map _ _
  rw [em]
  walk_at "ev"
  rw [rng_n (by omega)]
  have er : (if false = true then RV.v (.tup (rg p)) else .f (rg p)) = .f (nL (List.range p)) := rfl
  rw [er]
  walk_at "ev"
  refine ⟨fun q => ?_, fun q => ?_⟩
  · rw [b_subN (by omega)]
    walk_at "ev"
    exact key (p - 1) (by omega) (by rw [if_neg q])
  · exact key f0 (by omega) (by rw [if_pos q])
end
end DW


set_option Elab.async false
set_option linter.all false
set_option maxRecDepth 100000
set_option maxHeartbeats 4000000
namespace DW
open PySem PySem.Spec Ev
local macro_rules | `(tactic| walk_at "ev") => `(tactic| try simp only [is_ii, is_ib, is_ni, is_tt, is_ll, none_n, none_i, c_eq_t0, b_sub1, cont0, ok_bind, m_ins0, range_last, c_eq_bv, p_sorted_b, p_sorted_f, p_sorted_l, p_all', p_any', c_inn_l, c_inn_t, c_ni_l, c_ni_t, w_comp2, w_body2, chain_n, last_n, wipe_nil, wipe_cons, bare_nil, bare_cons, bareS_u, bareS_d, Bool.and_self, Bool.and_true, Bool.true_and, asV_v, asV_f, map_get, map_last, range_get, c_ne_ff, c_ne_vf, c_ne_fv, c_eq_vf, c_eq_vv, c_eq_t, b_add_vv, b_add_vf, b_add_ff, b_add_fv, b_add_tt, w_dnewT, w_dispT, keyT_nL, disp_bl, w_din, din_t, w_dget, dget_t, getT_nL, s_dput', dput_t, put_nL, w_var, v_d, v_l, v_o, w_con, w_int0, w_int1, w_int, w_bl, w_str, w_non, w_bin, w_neg, w_not, w_and, w_or, w_ite, w_eq, w_ne, w_lt, w_le, w_gt, w_ge, w_inn, w_ni, w_isn, w_notn, w_chain, w_tup, w_lst, w_idx, w_slice, w_fld, w_call, w_make, w_meth, w_p1, w_p2, w_sm, w_isi, w_nil, w_cons, w_no, w_some, opt_int, if_t, if_f, if_bl, not_bl, neg_int, b_add, b_mul, pow_18, b_mod, b_fdiv, c_lt', c_le', c_gt', c_ge', c_eq', c_ne', p_len_l, p_len_t, p_len_n, p_len_f, p_len_b, p_len_s, p_int', p_list_l, p_list_t, p_list_n, p_list_f, p_list_b, p_tup_l, p_tup_t, p_tup_n, p_tup_f, p_tup_b, p_tpn_l, p_tpn_f, p_tpn_b, p_min', p_max', ok_ofB, ix_l, ix_t, ix_n, ix_f, ix_b, ix_scr, ixm_l, ixm_b, ixm_t, tup_some, lst_some, fld_ins, fld_o, call_some, call_lent, make_some, make_lent, av_nil, av_cv, av_cf, ad_nil, ad_cv, ad_cf, ad_cb, any_nil, any_cv, any_cf, any_cb, Option.map_some, ok_ok, ok_ofOpt, nx_nx, nx_ret, nx_bk, nx_ct, x_nil', x_cons', s_set', st_v', st_f', st_t', st_k', s_ret', bk_v', bk_f', bk_b', s_retN', s_ifs', s_frz', frz_l, frz_d, frz_u, frz_n, s_lm', lm_l, lm_app, lm_appf, s_setIdx', set_l, set_n, s_aug', aug_i, augX_n, s_expr', s_brk', s_cont', s_pass', s_fset', rd_nx, rd_ct, rd_bk, rd_ret, w_bodyD, bind1, bind2, i_r1', i_r2', i_seq, seq_l, seq_t, seq_n, seq_f, seq_b, w_rng1, w_comp, w_compF, w_bodyM, w_bodyF, List.getElem?_cons_zero, List.getElem?_cons_succ, List.set_cons_zero, List.set_cons_succ, List.length_cons, List.length_nil, List.length_map, List.length_range, Nat.zero_add, cap_eq, Nat.reduceAdd, Nat.reduceLeDiff, true_and, and_true, decide_eq_true_eq, decide_eq_false_iff_not, Bool.not_eq_true', Bool.not_eq_false', List.map_cons, List.map_nil, List.replicate_succ, List.replicate_zero, Nat.reduceSub, p_abs', Out.ret.injEq, RV.v.injEq, D.int.injEq, Int.natCast_inj, Out.nx.injEq, List.cons_append, List.nil_append, Option.some.injEq, exists_eq_left', reduceCtorEq, false_implies, true_implies])
/-! ### products of groups -/
theorem pair_list {α : Type} (F : Nat → Nat → α) (k : Nat) (hk : 0 < k) : ∀ n, ((List.range n).flatMap fun a => (List.range k).map fun b => F a b) = (List.range (n * k)).map fun v => F (v / k) (v % k)
  | 0 => by simp
  | n + 1 => by
    rw [List.range_succ, List.flatMap_append, pair_list F k hk n, Nat.succ_mul, List.range_add, List.map_append]
    refine congrArg (_ ++ ·) ?_
    simp only [List.flatMap_cons, List.flatMap_nil, List.append_nil, List.map_map]
    refine List.map_congr_left fun b hb => ?_
    have hb : b < k := by simpa using hb
    show F n b = F ((n * k + b) / k) ((n * k + b) % k)
    rw [Nat.mul_comm n k, Nat.mul_add_div hk, Nat.div_eq_of_lt hb, Nat.mul_add_mod, Nat.mod_eq_of_lt hb, Nat.add_zero]
def prM (n2 : Nat) (m1 m2 : Nat → Nat → Nat) (u v : Nat) : Nat := m1 (u / n2) (v / n2) * n2 + m2 (u % n2) (v % n2)
theorem pr_div {n2 a b : Nat} (h : b < n2) : (a * n2 + b) / n2 = a ∧ (a * n2 + b) % n2 = b := by
  have h0 : 0 < n2 := by omega
  rw [Nat.mul_comm a n2, Nat.mul_add_div h0, Nat.div_eq_of_lt h, Nat.mul_add_mod, Nat.mod_eq_of_lt h, Nat.add_zero]
  exact ⟨rfl, rfl⟩
theorem pr_lt {n1 n2 a b : Nat} (ha : a < n1) (hb : b < n2) : a * n2 + b < n1 * n2 := by
  have : (a + 1) * n2 ≤ n1 * n2 := Nat.mul_le_mul_right _ ha
  rw [Nat.succ_mul] at this; omega
theorem Grp.prod {n1 n2 : Nat} {m1 m2 : Nat → Nat → Nat} (g1 : Grp n1 m1) (g2 : Grp n2 m2) : Grp (n1 * n2) (prM n2 m1 m2) := by
  have h2 := g2.pos
  have dl : ∀ {u}, u < n1 * n2 → u / n2 < n1 := fun h => Nat.div_lt_of_lt_mul (by rw [Nat.mul_comm]; exact h)
  have ml : ∀ u, u % n2 < n2 := fun u => Nat.mod_lt _ h2
  have de : ∀ u, u / n2 * n2 + u % n2 = u := fun u => by rw [Nat.mul_comm]; exact Nat.div_add_mod u n2
  have pd : ∀ {u v}, u < n1 * n2 → v < n1 * n2 → prM n2 m1 m2 u v / n2 = m1 (u / n2) (v / n2) ∧ prM n2 m1 m2 u v % n2 = m2 (u % n2) (v % n2) := fun hu hv => pr_div (g2.lt (ml _) (ml _))
  have pl : ∀ {u v}, u < n1 * n2 → v < n1 * n2 → prM n2 m1 m2 u v < n1 * n2 := fun hu hv => pr_lt (g1.lt (dl hu) (dl hv)) (g2.lt (ml _) (ml _))
  refine ⟨Nat.mul_pos g1.pos h2, fun hu hv => pl hu hv, fun {u} hu => ?_, fun {u} hu => ?_, fun {u v w} hu hv hw => ?_, fun {u} hu => ?_⟩
  · unfold prM; rw [Nat.zero_div, Nat.zero_mod, g1.ol (dl hu), g2.ol (ml u), de]
  · unfold prM; rw [Nat.zero_div, Nat.zero_mod, g1.or (dl hu), g2.or (ml u), de]
  · have e1 := pd hu hv
    have e2 := pd hv hw
    show m1 (prM n2 m1 m2 u v / n2) (w / n2) * n2 + m2 (prM n2 m1 m2 u v % n2) (w % n2) = m1 (u / n2) (prM n2 m1 m2 v w / n2) * n2 + m2 (u % n2) (prM n2 m1 m2 v w % n2)
    rw [e1.1, e1.2, e2.1, e2.2, g1.as (dl hu) (dl hv) (dl hw), g2.as (ml u) (ml v) (ml w)]
  · obtain ⟨a, ha, a1, a2⟩ := g1.iv (dl hu)
    obtain ⟨b, hb, b1, b2⟩ := g2.iv (ml u)
    refine ⟨a * n2 + b, pr_lt ha hb, ?_, ?_⟩
    · unfold prM; rw [(pr_div hb).1, (pr_div hb).2, a1, b1]; simp
    · unfold prM; rw [(pr_div hb).1, (pr_div hb).2, a2, b2]; simp
section
variable {Tx : Text}
/-- a row of the product -/
abbrev prow (n1 n2 : Nat) (m1 m2 : Nat → Nat → Nat) (a b : Nat) : List D := (List.range n1).flatMap fun c => (List.range n2).map fun d => iD (m1 a c * n2 + m2 b d)
theorem sp_product (h : Tx.fn 5 = some fd5) (n' : Nat) {n1 n2 : Nat} {m1 m2 : Nat → Nat → Nat} (g1 : Grp n1 m1) (g2 : Grp n2 m2) (hn1 : n1 ≤ 100) (hn2 : n2 ≤ 100) :
    (rt Tx (n' + 1)).call 5 [.lst (fT n1 m1), .lst (fT n2 m2)] = .ok (.f (fT (n1 * n2) (prM n2 m1 m2))) := by
  refine call_of h rfl (by decide) ?_
  unfold fd5
  walk_at "ev"
  have hN : ∀ i, i ≤ n1 → ∀ j, j ≤ n2 → i * n2 + j ≤ 100 * 100 + 100 := fun i hi j hj => Nat.add_le_add (Nat.mul_le_mul (Nat.le_trans hi hn1) hn2) (Nat.le_trans hj hn2)
  have hlen : ∀ (i : Nat) (G : Nat → Nat → D), ((List.range i).flatMap fun a => (List.range n2).map fun b => G a b).length = i * n2 := fun i G => by
    rw [pair_list G n2 g2.pos i]; simp
  refine ok_forL (l := List.range n1) (em := fun a : Nat => .lst (fR n1 m1 a)) (fun i σ => ∃ s4 s5 s6 s7, σ = [.d (.lst (fT n1 m1)), .d (.lst (fT n2 m2)), .d (.int n2), .l ((List.range i).flatMap fun a => (List.range n2).map fun b => .lst (prow n1 n2 m1 m2 a b)), s4, s5, s6, s7, .u]) ?_ ?_ ?_ ?_
  · walk_at "ev"
  · exact ⟨.u, .u, .u, .u, rfl⟩
  · rintro i a σ hi ⟨s4, s5, s6, s7, rfl⟩
    obtain ⟨hi1, hi2⟩ := List.getElem?_eq_some_iff.mp hi
    rw [List.length_range] at hi1
    rw [List.getElem_range] at hi2
    subst hi2
    unfold lb7
    walk_at "ev"
    refine ok_forL (l := List.range n2) (em := fun a : Nat => .lst (fR n2 m2 a)) (fun j σ => ∃ s5 s6 s7, σ = [.d (.lst (fT n1 m1)), .d (.lst (fT n2 m2)), .d (.int n2), .l (((List.range i).flatMap fun a => (List.range n2).map fun b => .lst (prow n1 n2 m1 m2 a b)) ++ (List.range j).map fun b => .lst (prow n1 n2 m1 m2 i b)), .d (.lst (fR n1 m1 i)), s5, s6, s7, .u]) ?_ ?_ ?_ ?_
    · walk_at "ev"
    · exact ⟨s5, s6, s7, by simp⟩
    · rintro j b σ hj ⟨s5, s6, s7, rfl⟩
      obtain ⟨hj1, hj2⟩ := List.getElem?_eq_some_iff.mp hj
      rw [List.length_range] at hj1
      rw [List.getElem_range] at hj2
      subst hj2
      unfold lb6
      walk_at "ev"
      refine ok_forL (l := List.range n1) (em := fun c : Nat => iD (m1 i c)) (fun k σ => ∃ s7, σ = [.d (.lst (fT n1 m1)), .d (.lst (fT n2 m2)), .d (.int n2), .l (((List.range i).flatMap fun a => (List.range n2).map fun b => .lst (prow n1 n2 m1 m2 a b)) ++ (List.range j).map fun b => .lst (prow n1 n2 m1 m2 i b)), .d (.lst (fR n1 m1 i)), .d (.lst (fR n2 m2 j)), .d (.lst ((List.range k).flatMap fun c => (List.range n2).map fun d => iD (m1 i c * n2 + m2 j d))), s7, .u]) ?_ ?_ ?_ ?_
      · walk_at "ev"
      · exact ⟨s7, rfl⟩
      · rintro k c σ hk ⟨s7, rfl⟩
        obtain ⟨hk1, hk2⟩ := List.getElem?_eq_some_iff.mp hk
        rw [List.length_range] at hk1
        rw [List.getElem_range] at hk2
        subst hk2
        unfold lb5
        walk_at "ev"
        refine ⟨by omega, ok_mapR (l := List.range n2) (em := fun d : Nat => iD (m2 j d)) (fun d => iD (m1 i k * n2 + m2 j d)) (fun d hd => ?_) ?_⟩
        · walk_at "ev"
          exact mulN (by omega)
        walk_at "ev"
        have e := hlen k fun c d => iD (m1 i c * n2 + m2 j d)
        refine ⟨by rw [e]; have := hN k (by omega) n2 (Nat.le_refl _); omega, .d (iD (m1 i k)), ?_⟩
        rw [List.range_succ, List.flatMap_append]
        simp
      · rintro σ ⟨s7, rfl⟩
        walk_at "ev"
        have e := hlen i fun a b => .lst (prow n1 n2 m1 m2 a b)
        refine ⟨by rw [List.length_append, e]; simp; have := hN i (by omega) j (by omega); omega, .d (.lst (fR n2 m2 j)), .d (.lst (prow n1 n2 m1 m2 i j)), s7, ?_⟩
        rw [List.range_succ, List.map_append]
        simp
    · rintro σ ⟨s5, s6, s7, rfl⟩
      walk_at "ev"
      refine ⟨.d (.lst (fR n1 m1 i)), s5, s6, s7, ?_⟩
      rw [List.range_succ, List.flatMap_append]
      simp
  · rintro σ ⟨s4, s5, s6, s7, rfl⟩
    rw [List.length_range]
    walk_at "ev"
    have e : ((List.range n1).flatMap fun a => (List.range n2).map fun b => D.lst (prow n1 n2 m1 m2 a b)) = fT (n1 * n2) (prM n2 m1 m2) := by
      rw [pair_list (fun a b => D.lst (prow n1 n2 m1 m2 a b)) n2 g2.pos n1]
      refine List.map_congr_left fun u _ => ?_
      unfold prow
      rw [pair_list (fun c d => iD (m1 (u / n2) c * n2 + m2 (u % n2) d)) n2 g2.pos n1]
      rfl
    rw [e]
end
end DW


set_option Elab.async false
set_option linter.all false
set_option maxRecDepth 100000
set_option maxHeartbeats 4000000
namespace DW
open PySem PySem.Spec Ev L2
local macro_rules | `(tactic| walk_at "ev") => `(tactic| try simp only [is_ii, is_ib, is_ni, is_tt, is_ll, none_n, none_i, c_eq_t0, b_sub1, cont0, ok_bind, m_ins0, range_last, c_eq_bv, p_sorted_b, p_sorted_f, p_sorted_l, p_all', p_any', c_inn_l, c_inn_t, c_ni_l, c_ni_t, w_comp2, w_body2, chain_n, last_n, wipe_nil, wipe_cons, bare_nil, bare_cons, bareS_u, bareS_d, Bool.and_self, Bool.and_true, Bool.true_and, asV_v, asV_f, map_get, map_last, range_get, c_ne_ff, c_ne_vf, c_ne_fv, c_eq_vf, c_eq_vv, c_eq_t, b_add_vv, b_add_vf, b_add_ff, b_add_fv, b_add_tt, w_dnewT, w_dispT, keyT_nL, disp_bl, w_din, din_t, w_dget, dget_t, getT_nL, s_dput', dput_t, put_nL, w_var, v_d, v_l, v_o, w_con, w_int0, w_int1, w_int, w_bl, w_str, w_non, w_bin, w_neg, w_not, w_and, w_or, w_ite, w_eq, w_ne, w_lt, w_le, w_gt, w_ge, w_inn, w_ni, w_isn, w_notn, w_chain, w_tup, w_lst, w_idx, w_slice, w_fld, w_call, w_make, w_meth, w_p1, w_p2, w_sm, w_isi, w_nil, w_cons, w_no, w_some, opt_int, if_t, if_f, if_bl, not_bl, neg_int, b_add, b_mul, pow_18, b_mod, b_fdiv, c_lt', c_le', c_gt', c_ge', c_eq', c_ne', p_len_l, p_len_t, p_len_n, p_len_f, p_len_b, p_len_s, p_int', p_list_l, p_list_t, p_list_n, p_list_f, p_list_b, p_tup_l, p_tup_t, p_tup_n, p_tup_f, p_tup_b, p_tpn_l, p_tpn_f, p_tpn_b, p_min', p_max', ok_ofB, ix_l, ix_t, ix_n, ix_f, ix_b, ix_scr, ixm_l, ixm_b, ixm_t, tup_some, lst_some, fld_ins, fld_o, call_some, call_lent, make_some, make_lent, av_nil, av_cv, av_cf, ad_nil, ad_cv, ad_cf, ad_cb, any_nil, any_cv, any_cf, any_cb, Option.map_some, ok_ok, ok_ofOpt, nx_nx, nx_ret, nx_bk, nx_ct, x_nil', x_cons', s_set', st_v', st_f', st_t', st_k', s_ret', bk_v', bk_f', bk_b', s_retN', s_ifs', s_frz', frz_l, frz_d, frz_u, frz_n, s_lm', lm_l, lm_app, lm_appf, s_setIdx', set_l, set_n, s_aug', aug_i, augX_n, s_expr', s_brk', s_cont', s_pass', s_fset', rd_nx, rd_ct, rd_bk, rd_ret, w_bodyD, bind1, bind2, i_r1', i_r2', i_seq, seq_l, seq_t, seq_n, seq_f, seq_b, w_rng1, w_comp, w_compF, w_bodyM, w_bodyF, List.getElem?_cons_zero, List.getElem?_cons_succ, List.set_cons_zero, List.set_cons_succ, List.length_cons, List.length_nil, List.length_map, List.length_range, Nat.zero_add, cap_eq, Nat.reduceAdd, Nat.reduceLeDiff, true_and, and_true, decide_eq_true_eq, decide_eq_false_iff_not, Bool.not_eq_true', Bool.not_eq_false', List.map_cons, List.map_nil, List.replicate_succ, List.replicate_zero, Nat.reduceSub, p_abs', Out.ret.injEq, RV.v.injEq, D.int.injEq, Int.natCast_inj, Out.nx.injEq, List.cons_append, List.nil_append, Option.some.injEq, exists_eq_left', reduceCtorEq, false_implies, true_implies])
section
variable {Tx : Text}
@[irreducible] def menuL (c : Nat) : List (List Nat) := sortN (closeN (menuN.getD (c % 22) []))
theorem menu_at (c : Nat) : ∃ p, p ≤ 8 ∧ 0 < p ∧ (menuN.getD (c % 22) []).length ≤ 3 ∧ okG p (menuN.getD (c % 22) []) = true ∧ (menuL c).length ≤ 24 := by
  have hc : c % 22 < menuN.length := Nat.mod_lt _ (by omega)
  have := List.all_eq_true.mp menu_ok _ (getD_mem [] hc)
  simp only [Bool.and_eq_true, decide_eq_true_eq] at this
  exact ⟨_, this.1.2, this.1.1.2, this.2, this.1.1.1.1, by unfold menuL; rw [closeN_len]; exact this.1.1.1.2⟩
theorem sp_menu (h1 : Tx.fn 1 = some fd1) (h2 : Tx.fn 2 = some fd2) (h3 : Tx.fn 3 = some fd3) (n' c : Nat) :
    Grp (menuL c).length (mT (menuL c)) ∧ (menuL c).length ≤ 24 ∧ (rt Tx (n' + 1)).call 3 [.int c] = .ok (.v (.lst (tb (menuN.getD (c % 22) [])))) ∧ (rt Tx (n' + 1)).call 2 [.lst (tb (menuN.getD (c % 22) []))] = .ok (.f ((menuL c).map tupN)) ∧
      (rt Tx (n' + 1)).call 1 [.lst ((menuL c).map tupN)] = .ok (.f (fT (menuL c).length (mT (menuL c)))) := by
  obtain ⟨p, hp, hp0, hl, ho, h24⟩ := menu_at c
  have hm := okG_mvs ho
  have hg := okG_mv ho
  unfold menuL at h24 ⊢
  exact ⟨hm.grp, h24, sp_gens h3 n' c, sp_close h2 n' (fun g h => (hg g h).1) (okG_ne ho) hp0 (by omega) (by omega), sp_table h1 n' hm (by omega) (by omega)⟩
theorem sp_menu' (h1 : Tx.fn 1 = some fd1) (h2 : Tx.fn 2 = some fd2) (h3 : Tx.fn 3 = some fd3) (n' c : Nat) : ∃ (G : D) (L : List D) (n : Nat) (m : Nat → Nat → Nat), Grp n m ∧ n ≤ 24 ∧ (rt Tx (n' + 1)).call 3 [.int c] = .ok (.v G) ∧ (rt Tx (n' + 1)).call 2 [G] = .ok (.f L) ∧
      (rt Tx (n' + 1)).call 1 [.lst L] = .ok (.f (fT n m)) := by
  obtain ⟨a, b, q1, q2, q3⟩ := sp_menu h1 h2 h3 n' c
  exact ⟨_, _, _, _, a, b, q1, q2, q3⟩
theorem slice_nn {Q : RV → Prop} {E : Nat → List D → Prop} (z : List Nat) (lo hi : Nat) (h : lo ≤ z.length) (h' : hi ≤ z.length) : Ok (sliceD (.v (.lst (nL z))) (some ((lo : Nat) : Int)) (some ((hi : Nat) : Int))) Q E ↔ Q (.f (nL ((z.drop lo).take (hi - lo)))) := by
  have e : sliceD (.v (.lst (nL z))) (some ((lo : Nat) : Int)) (some ((hi : Nat) : Int)) = .ok (.f (sliceL (nL z) (some ((lo : Nat) : Int)) (some ((hi : Nat) : Int)))) := rfl
  rw [e, ok_ok]
  have e2 : sliceL (nL z) (some ((lo : Nat) : Int)) (some ((hi : Nat) : Int)) = nL ((z.drop lo).take (hi - lo)) := by
    unfold sliceL
    rw [HT.sIx_nat, HT.sIx_nat, List.length_map, Nat.min_eq_left h, Nat.min_eq_left h', ← List.map_drop, ← List.map_take]
  rw [e2]
theorem slice_n {Q : RV → Prop} {E : Nat → List D → Prop} (z : List Nat) (lo : Nat) (h : lo ≤ z.length) : Ok (sliceD (.v (.lst (nL z))) (some ((lo : Nat) : Int)) none) Q E ↔ Q (.f (nL (z.drop lo))) := by
  have e : sliceD (.v (.lst (nL z))) (some ((lo : Nat) : Int)) none = .ok (.f (sliceL (nL z) (some ((lo : Nat) : Int)) none)) := rfl
  rw [e, ok_ok]
  have e2 : sliceL (nL z) (some ((lo : Nat) : Int)) none = nL (z.drop lo) := by
    unfold sliceL
    rw [HT.sIx_nat, HT.sIx_none, List.length_map, Nat.min_eq_left h, ← List.map_drop, List.take_of_length_le (by simp)]
  rw [e2]
abbrev AnyR (r : RV) (n : Nat) (m : Nat → Nat → Nat) : Prop := r = .v (.lst (fT n m)) ∨ r = .f (fT n m)
theorem sp_any (h0 : Tx.fn 0 = some fd0) (h1 : Tx.fn 1 = some fd1) (h2 : Tx.fn 2 = some fd2) (h3 : Tx.fn 3 = some fd3) (h4 : Tx.fn 4 = some fd4) (h5 : Tx.fn 5 = some fd5) (h6 : Tx.fn 6 = some fd6) (h : Tx.fn 7 = some fd7) (n' c : Nat) :
    ∃ n m r, Grp n m ∧ n ≤ 32 ∧ AnyR r n m ∧ (rt Tx (n' + 3)).call 7 [.int c] = .ok r := by
  obtain ⟨z, hz, hcz⟩ := sp_numbers h0 (n' + 1) c 37 (by omega)
  have main : Ok (execB Tx.sub (rt Tx (n' + 2)) fd7.body ([D.int c].map Sl.d ++ List.replicate (fd7.ns - 1) .u)) (fun o => ∃ q : (Nat × (Nat → Nat → Nat)) × RV, (Grp q.1.1 q.1.2 ∧ q.1.1 ≤ 32 ∧ AnyR q.2 q.1.1 q.1.2) ∧ o = .ret q.2) NoE := by
    unfold fd7
    walk_at "ev"
    have e37 : D.int (((37 : Nat)) : Int) = D.int ((37 : Nat) : Int) := rfl
    rw [hcz]
    walk_at "ev"
    refine ⟨_, List.getElem?_eq_getElem (by omega), by omega, _, List.getElem?_eq_getElem (by omega), ?_⟩
    obtain ⟨G1, L1, N1, M1, g1, l1, c3, c2, c1⟩ := sp_menu' h1 h2 h3 (n' + 1) (z[1]'(by omega))
    rw [c3]
    walk_at "ev"
    rw [c2]
    walk_at "ev"
    rw [c1]
    walk_at "ev"
    have hzd : z.drop 4 ≠ [] := fun e => by have := congrArg List.length e; rw [List.length_drop, hz] at this; simp at this
    have ren : ∀ n m, Grp n m → n ≤ 32 → ∃ m', Grp n m' ∧ (rt Tx (n' + 2)).call 6 [.lst (fT n m), .lst (nL (z.drop 4))] = .ok (.f (fT n m')) := fun n m g hn => by
      obtain ⟨o, p, q1, q2, q3, q4, q5, q6⟩ := sp_renum h6 (n' + 1) g (by omega) hzd
      exact ⟨_, g.renum q1 q2 q3 q4 q5, q6⟩
    have l32 : N1 ≤ 32 := Nat.le_trans l1 (by decide)
    refine ⟨fun hk => ?_, fun hk => ⟨fun hk2 => ?_, fun hk2 => ?_⟩⟩
    · rw [slice_nn z 1 3 (by omega) (by omega)]
      have e2 : (z.drop 1).take (3 - 1) = [z[1]'(by omega), z[2]'(by omega)] := by
        refine List.ext_getElem (by simp; omega) fun i q1 q2 => ?_
        simp at q2
        have : i = 0 ∨ i = 1 := by omega
        rcases this with rfl | rfl <;> simp
      rw [e2]
      walk_at "ev"
      obtain ⟨n, m, g, hn, hc⟩ := sp_affine h1 h2 h4 n' (z[1]'(by omega)) (z[2]'(by omega))
      have e3 : [iD (z[1]'(by omega)), iD (z[2]'(by omega))] = nL [z[1]'(by omega), z[2]'(by omega)] := rfl
      rw [e3, hc]
      walk_at "ev"
      rw [hk]
      refine ⟨fun q => by omega, fun _ => ?_⟩
      refine ⟨_, List.getElem?_eq_getElem (by omega), by omega, fun _ => ⟨((_, _), _), ⟨g, hn, .inl rfl⟩, rfl⟩, fun _ => ?_⟩
      rw [slice_n z 4 (by omega)]
      walk_at "ev"
      obtain ⟨m', gm, hcall⟩ := ren _ _ g (hn)
      rw [hcall]
      walk_at "ev"
      exact ⟨((_, m'), _), ⟨gm, hn, .inr rfl⟩, rfl⟩
    · refine ⟨_, List.getElem?_eq_getElem (by omega), ?_⟩
      obtain ⟨G2, L2, N2, M2, g2, l2, d3, d2, d1⟩ := sp_menu' h1 h2 h3 (n' + 1) (z[2]'(by omega))
      rw [d3]
      walk_at "ev"
      rw [d2]
      walk_at "ev"
      rw [d1]
      walk_at "ev"
      refine ⟨mulN (by omega), fun q => ?_, fun q => ?_⟩
      · rw [sp_product h5 (n' + 1) g1 g2 (by omega) (by omega)]
        walk_at "ev"
        have l24 : N1 * N2 ≤ 32 := Nat.le_trans q (by decide)
        refine ⟨_, List.getElem?_eq_getElem (by omega), by omega, fun _ => ⟨((_, _), _), ⟨(g1.prod g2), l24, .inl rfl⟩, rfl⟩, fun _ => ?_⟩
        rw [slice_n z 4 (by omega)]
        walk_at "ev"
        obtain ⟨m', gm, hcall⟩ := ren _ _ (g1.prod g2) (l24)
        rw [hcall]
        walk_at "ev"
        exact ⟨((_, m'), _), ⟨gm, l24, .inr rfl⟩, rfl⟩
      · refine ⟨_, List.getElem?_eq_getElem (by omega), by omega, fun _ => ⟨((_, _), _), ⟨g1, l32, .inl rfl⟩, rfl⟩, fun _ => ?_⟩
        rw [slice_n z 4 (by omega)]
        walk_at "ev"
        obtain ⟨m', gm, hcall⟩ := ren _ _ g1 (l32)
        rw [hcall]
        walk_at "ev"
        exact ⟨((_, m'), _), ⟨gm, l32, .inr rfl⟩, rfl⟩
    · refine ⟨_, List.getElem?_eq_getElem (by omega), by omega, fun _ => ⟨((_, _), _), ⟨g1, l32, .inl rfl⟩, rfl⟩, fun _ => ?_⟩
      rw [slice_n z 4 (by omega)]
      walk_at "ev"
      obtain ⟨m', gm, hcall⟩ := ren _ _ g1 (l32)
      rw [hcall]
      walk_at "ev"
      exact ⟨((_, m'), _), ⟨gm, l32, .inr rfl⟩, rfl⟩
  obtain ⟨⟨⟨n, m⟩, r⟩, h1, h2⟩ := main.ex
  exact ⟨n, m, r, h1.1, h1.2.1, h1.2.2, call_of h rfl (by decide) h2⟩
end
end DW


set_option Elab.async false
set_option linter.all false
set_option maxRecDepth 100000
set_option maxHeartbeats 4000000
namespace DW
open PySem PySem.Spec Ev
local macro_rules | `(tactic| walk_at "ev") => `(tactic| try simp only [is_ii, is_ib, is_ni, is_tt, is_ll, none_n, none_i, c_eq_t0, b_sub1, cont0, ok_bind, m_ins0, range_last, c_eq_bv, p_sorted_b, p_sorted_f, p_sorted_l, p_all', p_any', c_inn_l, c_inn_t, c_ni_l, c_ni_t, w_comp2, w_body2, chain_n, last_n, wipe_nil, wipe_cons, bare_nil, bare_cons, bareS_u, bareS_d, Bool.and_self, Bool.and_true, Bool.true_and, asV_v, asV_f, map_get, map_last, range_get, c_ne_ff, c_ne_vf, c_ne_fv, c_eq_vf, c_eq_vv, c_eq_t, b_add_vv, b_add_vf, b_add_ff, b_add_fv, b_add_tt, w_dnewT, w_dispT, keyT_nL, disp_bl, w_din, din_t, w_dget, dget_t, getT_nL, s_dput', dput_t, put_nL, w_var, v_d, v_l, v_o, w_con, w_int0, w_int1, w_int, w_bl, w_str, w_non, w_bin, w_neg, w_not, w_and, w_or, w_ite, w_eq, w_ne, w_lt, w_le, w_gt, w_ge, w_inn, w_ni, w_isn, w_notn, w_chain, w_tup, w_lst, w_idx, w_slice, w_fld, w_call, w_make, w_meth, w_p1, w_p2, w_sm, w_isi, w_nil, w_cons, w_no, w_some, opt_int, if_t, if_f, if_bl, not_bl, neg_int, b_add, b_mul, pow_18, b_mod, b_fdiv, c_lt', c_le', c_gt', c_ge', c_eq', c_ne', p_len_l, p_len_t, p_len_n, p_len_f, p_len_b, p_len_s, p_int', p_list_l, p_list_t, p_list_n, p_list_f, p_list_b, p_tup_l, p_tup_t, p_tup_n, p_tup_f, p_tup_b, p_tpn_l, p_tpn_f, p_tpn_b, p_min', p_max', ok_ofB, ix_l, ix_t, ix_n, ix_f, ix_b, ix_scr, ixm_l, ixm_b, ixm_t, tup_some, lst_some, fld_ins, fld_o, call_some, call_lent, make_some, make_lent, av_nil, av_cv, av_cf, ad_nil, ad_cv, ad_cf, ad_cb, any_nil, any_cv, any_cf, any_cb, Option.map_some, ok_ok, ok_ofOpt, nx_nx, nx_ret, nx_bk, nx_ct, x_nil', x_cons', s_set', st_v', st_f', st_t', st_k', s_ret', bk_v', bk_f', bk_b', s_retN', s_ifs', s_frz', frz_l, frz_d, frz_u, frz_n, s_lm', lm_l, lm_app, lm_appf, s_setIdx', set_l, set_n, s_aug', aug_i, augX_n, s_expr', s_brk', s_cont', s_pass', s_fset', rd_nx, rd_ct, rd_bk, rd_ret, w_bodyD, bind1, bind2, i_r1', i_r2', i_seq, seq_l, seq_t, seq_n, seq_f, seq_b, w_rng1, w_comp, w_compF, w_bodyM, w_bodyF, List.getElem?_cons_zero, List.getElem?_cons_succ, List.set_cons_zero, List.set_cons_succ, List.length_cons, List.length_nil, List.length_map, List.length_range, Nat.zero_add, cap_eq, Nat.reduceAdd, Nat.reduceLeDiff, true_and, and_true, decide_eq_true_eq, decide_eq_false_iff_not, Bool.not_eq_true', Bool.not_eq_false', List.map_cons, List.map_nil, List.replicate_succ, List.replicate_zero, Nat.reduceSub, p_abs', Out.ret.injEq, RV.v.injEq, D.int.injEq, Int.natCast_inj, Out.nx.injEq, List.cons_append, List.nil_append, Option.some.injEq, exists_eq_left', reduceCtorEq, false_implies, true_implies])
section
variable {Tx : Text}
/-- all that k08's law rests on -/
structure T08 (Tx : Text) : Prop where
  h0 : Tx.fn 0 = some fd0
  h1 : Tx.fn 1 = some fd1
  h2 : Tx.fn 2 = some fd2
  h3 : Tx.fn 3 = some fd3
  h4 : Tx.fn 4 = some fd4
  h5 : Tx.fn 5 = some fd5
  h6 : Tx.fn 6 = some fd6
  h7 : Tx.fn 7 = some fd7
  h8 : Tx.fn 8 = some fd8
  h9 : Tx.fn 9 = some fd9
  h10 : Tx.fn 10 = some fd10
  h11 : Tx.fn 11 = some fd11
  h12 : Tx.fn 12 = some fd12
  h13 : Tx.fn 13 = some fd13
  h14 : Tx.fn 14 = some fd14
  h15 : Tx.fn 15 = some fd15
  h16 : Tx.fn 16 = some fd16
  h17 : Tx.fn 17 = some fd17
  h18 : Tx.fn 18 = some fd18
  h19 : Tx.fn 19 = some fd19
  h20 : Tx.fn 20 = some fd20
  h21 : Tx.fn 21 = some fd21
  h22 : Tx.fn 22 = some fd22
  h23 : Tx.fn 23 = some fd23
  h24 : Tx.fn 24 = some fd24
  h25 : Tx.fn 25 = some fd25
  h26 : Tx.fn 26 = some fd26
  h27 : Tx.fn 27 = some fd27
  h28 : Tx.fn 28 = some fd28
  h29 : Tx.fn 29 = some fd29
  h30 : Tx.fn 30 = some fd30
  h31 : Tx.fn 31 = some fd31
  h32 : Tx.fn 32 = some fd32
  h33 : Tx.fn 33 = some fd33
  i0 : Tx.init 0 = some (13, 3)
  c0 : Tx.con 0 = some (.int 60)
theorem law08 (h : T08 Tx) (n' : Nat) (ns : List Int) : (rt Tx (n' + 8)).call 33 [.scr ns] = .ok (.v (.bl true)) := by
  obtain ⟨n, m, r1, g, hn, hr1, hc1⟩ := sp_any h.h0 h.h1 h.h2 h.h3 h.h4 h.h5 h.h6 h.h7 (n' + 4) (cellV ns 0)
  obtain ⟨n2, m2, r2, g2, hn2, hr2, hc2⟩ := sp_any h.h0 h.h1 h.h2 h.h3 h.h4 h.h5 h.h6 h.h7 (n' + 4) (cellV ns 1)
  obtain ⟨Ku, hKu, su⟩ := up_stay g
  obtain ⟨Kl, hKl, sl⟩ := low_stay g
  obtain ⟨Ku2, hKu2, su2⟩ := up_stay g2
  obtain ⟨Kl2, hKl2, sl2⟩ := low_stay g2
  refine call_of h.h33 rfl (by decide) ?_
  unfold fd33
  walk_at "ev"
  rw [sp_cell h.h8 (n' + 6) ns 0]
  walk_at "ev"
  rw [hc1]
  rcases hr1 with rfl | rfl <;> walk_at "ev"
  all_goals rw [sp_cell h.h8 (n' + 6) ns 1]
  all_goals walk_at "ev"
  all_goals rw [hc2]
  all_goals rcases hr2 with rfl | rfl <;> walk_at "ev"
  all_goals refine ⟨by omega, ok_mapR (l := List.range n) (em := fun a : Nat => .lst (fR n m a)) (fun a => .lst (fR n m a)) (fun a ha => ?_) ?_⟩
  all_goals try walk_at "ev"
  all_goals rw [sp_group h.h9 h.h10 h.h11 h.h12 h.h13 h.i0 h.c0 (n' + 2) g (by omega)]
  all_goals walk_at "ev"
  all_goals refine ⟨by omega, ok_mapR (l := List.range n2) (em := fun a : Nat => .lst (fR n2 m2 a)) (fun a => .lst (fR n2 m2 a)) (fun a ha => ?_) ?_⟩
  all_goals try walk_at "ev"
  all_goals rw [sp_group h.h9 h.h10 h.h11 h.h12 h.h13 h.i0 h.c0 (n' + 2) g2 (by omega)]
  all_goals walk_at "ev"
  all_goals rw [sp_lup h.h14 h.h15 (n' + 5) g (by omega) hKu su]
  all_goals walk_at "ev"
  all_goals rw [sp_llow h.h14 h.h16 h.h17 (n' + 5) g (by omega) hKl sl]
  all_goals walk_at "ev"
  all_goals rw [sp_told h.h9 h.h19 h.h20 h.h21 h.h22 h.h23 h.h24 h.h25 h.h26 h.h27 h.h28 h.h29 h.h30 h.h31 h.h32 n' g (by omega) hKu hKl su sl]
  all_goals walk_at "ev"
  all_goals rw [sp_up h.h19 h.h20 h.h24 h.h25 (n' + 3) g (by omega) hKu su]
  all_goals walk_at "ev"
  all_goals rw [sp_low h.h9 h.h19 h.h20 h.h21 h.h22 h.h23 (n' + 3) g (by omega) hKl sl]
  all_goals walk_at "ev"
  all_goals rw [sp_below h.h14 h.h18 (n' + 5) g (by omega) hKu hKl su sl]
  all_goals walk_at "ev"
  all_goals rw [sp_lup h.h14 h.h15 (n' + 5) g2 (by omega) hKu2 su2]
  all_goals walk_at "ev"
  all_goals rw [sp_llow h.h14 h.h16 h.h17 (n' + 5) g2 (by omega) hKl2 sl2]
  all_goals walk_at "ev"
  all_goals rw [sp_told h.h9 h.h19 h.h20 h.h21 h.h22 h.h23 h.h24 h.h25 h.h26 h.h27 h.h28 h.h29 h.h30 h.h31 h.h32 n' g2 (by omega) hKu2 hKl2 su2 sl2]
  all_goals walk_at "ev"
  all_goals rw [sp_up h.h19 h.h20 h.h24 h.h25 (n' + 3) g (by omega) hKu su]
  all_goals walk_at "ev"
  all_goals rw [rng_n (by omega)]
  all_goals simp only [if_true]
  all_goals walk_at "ev"
  all_goals refine ⟨by omega, by simp; omega, ?_⟩
  all_goals rw [sp_low h.h9 h.h19 h.h20 h.h21 h.h22 h.h23 (n' + 3) g (by omega) hKl sl]
  all_goals walk_at "ev"
  all_goals refine ⟨by omega, by simp, ?_⟩
  all_goals rw [sp_told h.h9 h.h19 h.h20 h.h21 h.h22 h.h23 h.h24 h.h25 h.h26 h.h27 h.h28 h.h29 h.h30 h.h31 h.h32 n' g (by omega) hKu hKl su sl]
  all_goals walk_at "ev"
end
end DW


set_option Elab.async false
set_option linter.all false
set_option maxRecDepth 100000
set_option maxHeartbeats 4000000
namespace K08
open PySem PySem.Spec L2 Ev
def fns : List (Nat × Fn) := [(0, fd0), (1, fd1), (2, fd2), (3, fd3), (4, fd4), (5, fd5), (6, fd6), (7, fd7), (8, fd8), (9, fd9), (10, fd10), (11, fd11), (12, fd12), (13, fd13), (14, fd14), (15, fd15), (16, fd16), (17, fd17), (18, fd18), (19, fd19), (20, fd20), (21, fd21), (22, fd22), (23, fd23), (24, fd24), (25, fd25), (26, fd26), (27, fd27), (28, fd28), (29, fd29), (30, fd30), (31, fd31), (32, fd32), (33, fd33)]
def T : Tab where
  fns := [("_law_numbers", 0, 2), ("_law_table", 1, 1), ("_law_close", 2, 1), ("_law_generators", 3, 1), ("_law_affine", 4, 1), ("_law_product", 5, 2), ("_law_renumbered", 6, 2), ("_law_any_group", 7, 1), ("_law_cell", 8, 2), ("reached", 9, 2), ("generating_members", 10, 1), ("is_associative", 11, 1), ("table_fault", 12, 1), ("_law_bracket", 14, 4), ("_law_upper_row", 15, 1), ("_law_closed", 16, 2), ("_law_lower_row", 17, 1), ("_law_below", 18, 3), ("generated", 21, 2), ("commutator_subgroup", 22, 3), ("lower_row", 23, 1), ("central_members", 24, 2), ("upper_row", 25, 1), ("_law_integer", 26, 2), ("_law_members", 27, 2), ("_law_rows", 28, 2), ("centre", 29, 1), ("class_of", 30, 1), ("_law_class", 31, 4), ("_law_told", 32, 4), ("law", 33, 1)]
  cls := [("Group", 0, 1)]
  ci := [(0, ⟨"Group", ["rows", "size", "inverses"]⟩)]
  me := [((0, "check"), 19, 2), ((0, "commutator"), 20, 3)]
  con := [("MOST_MEMBERS", 0)]
def Tx : Text where
  fn := fun g => fns.lookup g
  init := fun c => ([(0, (13, 3))] : List (Nat × Nat × Nat)).lookup c
  con := fun k => ([(0, .int 60)] : List (Nat × D)).lookup k
  sub := fun _ _ => none
def d0 : DI := ⟨0, ("_law_numbers", none), "_law_numbers", "_law_numbers", PySem.Challenge.pw_chosenmoves_k08_class_by_two_series.main.body.getD 24 (.Pass ⟨0, 0, 0, 0⟩), ["_law_cell_here", "_law_count", "_law_rest", "_law_numbers_here", "_law_k", "_law_mixed"], 2⟩
def d1 : DI := ⟨1, ("_law_table", none), "_law_table", "_law_table", PySem.Challenge.pw_chosenmoves_k08_class_by_two_series.main.body.getD 27 (.Pass ⟨0, 0, 0, 0⟩), ["_law_moves", "_law_place", "_law_k", "_law_a", "_law_b", "_law_x"], 1⟩
def d2 : DI := ⟨2, ("_law_close", none), "_law_close", "_law_close", PySem.Challenge.pw_chosenmoves_k08_class_by_two_series.main.body.getD 26 (.Pass ⟨0, 0, 0, 0⟩), ["_law_generators_here", "_law_one", "_law_found", "_law_known", "_law_k", "_law_move", "_law_made", "_law_x"], 1⟩
def d3 : DI := ⟨3, ("_law_generators", none), "_law_generators", "_law_generators", PySem.Challenge.pw_chosenmoves_k08_class_by_two_series.main.body.getD 25 (.Pass ⟨0, 0, 0, 0⟩), ["_law_choice", "_law_menu"], 1⟩
def d4 : DI := ⟨4, ("_law_affine", none), "_law_affine", "_law_affine", PySem.Challenge.pw_chosenmoves_k08_class_by_two_series.main.body.getD 29 (.Pass ⟨0, 0, 0, 0⟩), ["_law_numbers_here", "_law_places", "_law_factor", "_law_count", "_law_power", "_law_k", "_law_shift", "_law_x"], 1⟩
def d5 : DI := ⟨5, ("_law_product", none), "_law_product", "_law_product", PySem.Challenge.pw_chosenmoves_k08_class_by_two_series.main.body.getD 30 (.Pass ⟨0, 0, 0, 0⟩), ["_law_first", "_law_second", "_law_many", "_law_rows_here", "_law_row", "_law_line", "_law_made", "_law_a", "_law_b"], 2⟩
def d6 : DI := ⟨6, ("_law_renumbered", none), "_law_renumbered", "_law_renumbered", PySem.Challenge.pw_chosenmoves_k08_class_by_two_series.main.body.getD 28 (.Pass ⟨0, 0, 0, 0⟩), ["_law_table_here", "_law_numbers_here", "_law_order", "_law_k", "_law_place", "_law_other", "_law_held", "_law_a", "_law_b"], 2⟩
def d7 : DI := ⟨7, ("_law_any_group", none), "_law_any_group", "_law_any_group", PySem.Challenge.pw_chosenmoves_k08_class_by_two_series.main.body.getD 31 (.Pass ⟨0, 0, 0, 0⟩), ["_law_cell_here", "_law_numbers_here", "_law_kind", "_law_table_here", "_law_other"], 1⟩
def d8 : DI := ⟨8, ("_law_cell", none), "_law_cell", "_law_cell", PySem.Challenge.pw_chosenmoves_k08_class_by_two_series.main.body.getD 23 (.Pass ⟨0, 0, 0, 0⟩), ["_law_script", "_law_k"], 2⟩
def d9 : DI := ⟨9, ("reached", none), "reached", "reached", PySem.Challenge.pw_chosenmoves_k08_class_by_two_series.main.body.getD 12 (.Pass ⟨0, 0, 0, 0⟩), ["rows", "members", "inside", "found", "at", "row", "member"], 2⟩
def d10 : DI := ⟨10, ("generating_members", none), "generating_members", "generating_members", PySem.Challenge.pw_chosenmoves_k08_class_by_two_series.main.body.getD 13 (.Pass ⟨0, 0, 0, 0⟩), ["rows", "chosen", "found", "member"], 1⟩
def d11 : DI := ⟨11, ("is_associative", none), "is_associative", "is_associative", PySem.Challenge.pw_chosenmoves_k08_class_by_two_series.main.body.getD 14 (.Pass ⟨0, 0, 0, 0⟩), ["rows", "middle", "a", "m"], 1⟩
def d12 : DI := ⟨12, ("table_fault", none), "table_fault", "table_fault", PySem.Challenge.pw_chosenmoves_k08_class_by_two_series.main.body.getD 15 (.Pass ⟨0, 0, 0, 0⟩), ["rows", "size", "columns", "at", "row", "entry", "line"], 1⟩
def d13 : DI := ⟨13, ("Group", some "__init__"), "__init__", "Group.__init__", L2.inClass (PySem.Challenge.pw_chosenmoves_k08_class_by_two_series.main.body.getD 16 (.Pass ⟨0, 0, 0, 0⟩)) 0, ["self", "rows", "fault", "row"], 2⟩
def d14 : DI := ⟨14, ("_law_bracket", none), "_law_bracket", "_law_bracket", PySem.Challenge.pw_chosenmoves_k08_class_by_two_series.main.body.getD 33 (.Pass ⟨0, 0, 0, 0⟩), ["_law_table_here", "_law_undo", "_law_a", "_law_b"], 4⟩
def d15 : DI := ⟨15, ("_law_upper_row", none), "_law_upper_row", "_law_upper_row", PySem.Challenge.pw_chosenmoves_k08_class_by_two_series.main.body.getD 35 (.Pass ⟨0, 0, 0, 0⟩), ["_law_table_here", "_law_undo", "_law_series", "_law_k", "_law_following", "_law_a", "_law_row", "_law_outside", "_law_b"], 1⟩
def d16 : DI := ⟨16, ("_law_closed", none), "_law_closed", "_law_closed", PySem.Challenge.pw_chosenmoves_k08_class_by_two_series.main.body.getD 32 (.Pass ⟨0, 0, 0, 0⟩), ["_law_table_here", "_law_members_here", "_law_inside", "_law_found", "_law_k", "_law_row", "_law_member", "_law_made"], 2⟩
def d17 : DI := ⟨17, ("_law_lower_row", none), "_law_lower_row", "_law_lower_row", PySem.Challenge.pw_chosenmoves_k08_class_by_two_series.main.body.getD 34 (.Pass ⟨0, 0, 0, 0⟩), ["_law_table_here", "_law_undo", "_law_series", "_law_k", "_law_found", "_law_a", "_law_following", "_law_row", "_law_b", "_law_m"], 1⟩
def d18 : DI := ⟨18, ("_law_below", none), "_law_below", "_law_below", PySem.Challenge.pw_chosenmoves_k08_class_by_two_series.main.body.getD 39 (.Pass ⟨0, 0, 0, 0⟩), ["_law_table_here", "_law_uppers", "_law_lowers", "_law_undo", "_law_i", "_law_j", "_law_row", "_law_a", "_law_b"], 3⟩
def d19 : DI := ⟨19, ("Group", some "check"), "check", "Group.check", L2.inClass (PySem.Challenge.pw_chosenmoves_k08_class_by_two_series.main.body.getD 16 (.Pass ⟨0, 0, 0, 0⟩)) 6, ["self", "member"], 2⟩
def d20 : DI := ⟨20, ("Group", some "commutator"), "commutator", "Group.commutator", L2.inClass (PySem.Challenge.pw_chosenmoves_k08_class_by_two_series.main.body.getD 16 (.Pass ⟨0, 0, 0, 0⟩)) 10, ["self", "a", "b"], 3⟩
def d21 : DI := ⟨21, ("generated", none), "generated", "generated", PySem.Challenge.pw_chosenmoves_k08_class_by_two_series.main.body.getD 17 (.Pass ⟨0, 0, 0, 0⟩), ["group", "members", "member"], 2⟩
def d22 : DI := ⟨22, ("commutator_subgroup", none), "commutator_subgroup", "commutator_subgroup", PySem.Challenge.pw_chosenmoves_k08_class_by_two_series.main.body.getD 18 (.Pass ⟨0, 0, 0, 0⟩), ["group", "first", "second", "member", "found", "a", "b"], 3⟩
def d23 : DI := ⟨23, ("lower_row", none), "lower_row", "lower_row", PySem.Challenge.pw_chosenmoves_k08_class_by_two_series.main.body.getD 20 (.Pass ⟨0, 0, 0, 0⟩), ["group", "everything", "row", "following"], 1⟩
def d24 : DI := ⟨24, ("central_members", none), "central_members", "central_members", PySem.Challenge.pw_chosenmoves_k08_class_by_two_series.main.body.getD 2 (.Pass ⟨0, 0, 0, 0⟩), ["group", "subgroup", "inside", "everything", "member", "a", "b"], 2⟩
def d25 : DI := ⟨25, ("upper_row", none), "upper_row", "upper_row", PySem.Challenge.pw_chosenmoves_k08_class_by_two_series.main.body.getD 4 (.Pass ⟨0, 0, 0, 0⟩), ["group", "row", "following"], 1⟩
def d26 : DI := ⟨26, ("_law_integer", none), "_law_integer", "_law_integer", PySem.Challenge.pw_chosenmoves_k08_class_by_two_series.main.body.getD 36 (.Pass ⟨0, 0, 0, 0⟩), ["_law_actual", "_law_due"], 2⟩
def d27 : DI := ⟨27, ("_law_members", none), "_law_members", "_law_members", PySem.Challenge.pw_chosenmoves_k08_class_by_two_series.main.body.getD 37 (.Pass ⟨0, 0, 0, 0⟩), ["_law_actual", "_law_due", "_law_k"], 2⟩
def d28 : DI := ⟨28, ("_law_rows", none), "_law_rows", "_law_rows", PySem.Challenge.pw_chosenmoves_k08_class_by_two_series.main.body.getD 38 (.Pass ⟨0, 0, 0, 0⟩), ["_law_actual", "_law_due", "_law_k"], 2⟩
def d29 : DI := ⟨29, ("centre", none), "centre", "centre", PySem.Challenge.pw_chosenmoves_k08_class_by_two_series.main.body.getD 3 (.Pass ⟨0, 0, 0, 0⟩), ["group"], 1⟩
def d30 : DI := ⟨30, ("class_of", none), "class_of", "class_of", PySem.Challenge.pw_chosenmoves_k08_class_by_two_series.main.body.getD 21 (.Pass ⟨0, 0, 0, 0⟩), ["group", "row"], 1⟩
def d31 : DI := ⟨31, ("_law_class", none), "_law_class", "_law_class", PySem.Challenge.pw_chosenmoves_k08_class_by_two_series.main.body.getD 40 (.Pass ⟨0, 0, 0, 0⟩), ["_law_group", "_law_table_here", "_law_uppers", "_law_lowers", "_law_told_here"], 4⟩
def d32 : DI := ⟨32, ("_law_told", none), "_law_told", "_law_told", PySem.Challenge.pw_chosenmoves_k08_class_by_two_series.main.body.getD 41 (.Pass ⟨0, 0, 0, 0⟩), ["_law_group", "_law_table_here", "_law_uppers", "_law_lowers", "_law_a", "_law_row"], 4⟩
def d33 : DI := ⟨33, ("law", none), "law", "law", PySem.Challenge.pw_chosenmoves_k08_class_by_two_series.main.body.getD 42 (.Pass ⟨0, 0, 0, 0⟩), ["_law_script", "_law_first", "_law_second", "_law_one", "_law_two", "_law_uppers", "_law_lowers", "_law_spoiled", "_law_shorter", "_law_row"], 1⟩
def dat : Dat := ⟨T, Tx, [d0, d1, d2, d3, d4, d5, d6, d7, d8, d9, d10, d11, d12, d13, d14, d15, d16, d17, d18, d19, d20, d21, d22, d23, d24, d25, d26, d27, d28, d29, d30, d31, d32, d33], [(0, "Group")], [(0, 13)], [("MOST_MEMBERS", 0, .int 60)]⟩
theorem cd0 : dat.chkD d0 = true := by decide +kernel
theorem bd0 : d0.binds := fun _ _ _ _ _ _ us hl => match us, hl with | [_, _], _ => rfl
theorem cd1 : dat.chkD d1 = true := by decide +kernel
theorem bd1 : d1.binds := fun _ _ _ _ _ _ us hl => match us, hl with | [_], _ => rfl
theorem cd2 : dat.chkD d2 = true := by decide +kernel
theorem bd2 : d2.binds := fun _ _ _ _ _ _ us hl => match us, hl with | [_], _ => rfl
theorem cd3 : dat.chkD d3 = true := by decide +kernel
theorem bd3 : d3.binds := fun _ _ _ _ _ _ us hl => match us, hl with | [_], _ => rfl
theorem cd4 : dat.chkD d4 = true := by decide +kernel
theorem bd4 : d4.binds := fun _ _ _ _ _ _ us hl => match us, hl with | [_], _ => rfl
theorem cd5 : dat.chkD d5 = true := by decide +kernel
theorem bd5 : d5.binds := fun _ _ _ _ _ _ us hl => match us, hl with | [_, _], _ => rfl
theorem cd6 : dat.chkD d6 = true := by decide +kernel
theorem bd6 : d6.binds := fun _ _ _ _ _ _ us hl => match us, hl with | [_, _], _ => rfl
theorem cd7 : dat.chkD d7 = true := by decide +kernel
theorem bd7 : d7.binds := fun _ _ _ _ _ _ us hl => match us, hl with | [_], _ => rfl
theorem cd8 : dat.chkD d8 = true := by decide +kernel
theorem bd8 : d8.binds := fun _ _ _ _ _ _ us hl => match us, hl with | [_, _], _ => rfl
theorem cd9 : dat.chkD d9 = true := by decide +kernel
theorem bd9 : d9.binds := fun _ _ _ _ _ _ us hl => match us, hl with | [_, _], _ => rfl
theorem cd10 : dat.chkD d10 = true := by decide +kernel
theorem bd10 : d10.binds := fun _ _ _ _ _ _ us hl => match us, hl with | [_], _ => rfl
theorem cd11 : dat.chkD d11 = true := by decide +kernel
theorem bd11 : d11.binds := fun _ _ _ _ _ _ us hl => match us, hl with | [_], _ => rfl
theorem cd12 : dat.chkD d12 = true := by decide +kernel
theorem bd12 : d12.binds := fun _ _ _ _ _ _ us hl => match us, hl with | [_], _ => rfl
theorem cd13 : dat.chkD d13 = true := by decide +kernel
theorem bd13 : d13.binds := fun _ _ _ _ _ _ us hl => match us, hl with | [_, _], _ => rfl
theorem cd14 : dat.chkD d14 = true := by decide +kernel
theorem bd14 : d14.binds := fun _ _ _ _ _ _ us hl => match us, hl with | [_, _, _, _], _ => rfl
theorem cd15 : dat.chkD d15 = true := by decide +kernel
theorem bd15 : d15.binds := fun _ _ _ _ _ _ us hl => match us, hl with | [_], _ => rfl
theorem cd16 : dat.chkD d16 = true := by decide +kernel
theorem bd16 : d16.binds := fun _ _ _ _ _ _ us hl => match us, hl with | [_, _], _ => rfl
theorem cd17 : dat.chkD d17 = true := by decide +kernel
theorem bd17 : d17.binds := fun _ _ _ _ _ _ us hl => match us, hl with | [_], _ => rfl
theorem cd18 : dat.chkD d18 = true := by decide +kernel
theorem bd18 : d18.binds := fun _ _ _ _ _ _ us hl => match us, hl with | [_, _, _], _ => rfl
theorem cd19 : dat.chkD d19 = true := by decide +kernel
theorem bd19 : d19.binds := fun _ _ _ _ _ _ us hl => match us, hl with | [_, _], _ => rfl
theorem cd20 : dat.chkD d20 = true := by decide +kernel
theorem bd20 : d20.binds := fun _ _ _ _ _ _ us hl => match us, hl with | [_, _, _], _ => rfl
theorem cd21 : dat.chkD d21 = true := by decide +kernel
theorem bd21 : d21.binds := fun _ _ _ _ _ _ us hl => match us, hl with | [_, _], _ => rfl
theorem cd22 : dat.chkD d22 = true := by decide +kernel
theorem bd22 : d22.binds := fun _ _ _ _ _ _ us hl => match us, hl with | [_, _, _], _ => rfl
theorem cd23 : dat.chkD d23 = true := by decide +kernel
theorem bd23 : d23.binds := fun _ _ _ _ _ _ us hl => match us, hl with | [_], _ => rfl
theorem cd24 : dat.chkD d24 = true := by decide +kernel
theorem bd24 : d24.binds := fun _ _ _ _ _ _ us hl => match us, hl with | [_, _], _ => rfl
theorem cd25 : dat.chkD d25 = true := by decide +kernel
theorem bd25 : d25.binds := fun _ _ _ _ _ _ us hl => match us, hl with | [_], _ => rfl
theorem cd26 : dat.chkD d26 = true := by decide +kernel
theorem bd26 : d26.binds := fun _ _ _ _ _ _ us hl => match us, hl with | [_, _], _ => rfl
theorem cd27 : dat.chkD d27 = true := by decide +kernel
theorem bd27 : d27.binds := fun _ _ _ _ _ _ us hl => match us, hl with | [_, _], _ => rfl
theorem cd28 : dat.chkD d28 = true := by decide +kernel
theorem bd28 : d28.binds := fun _ _ _ _ _ _ us hl => match us, hl with | [_, _], _ => rfl
theorem cd29 : dat.chkD d29 = true := by decide +kernel
theorem bd29 : d29.binds := fun _ _ _ _ _ _ us hl => match us, hl with | [_], _ => rfl
theorem cd30 : dat.chkD d30 = true := by decide +kernel
theorem bd30 : d30.binds := fun _ _ _ _ _ _ us hl => match us, hl with | [_], _ => rfl
theorem cd31 : dat.chkD d31 = true := by decide +kernel
theorem bd31 : d31.binds := fun _ _ _ _ _ _ us hl => match us, hl with | [_, _, _, _], _ => rfl
theorem cd32 : dat.chkD d32 = true := by decide +kernel
theorem bd32 : d32.binds := fun _ _ _ _ _ _ us hl => match us, hl with | [_, _, _, _], _ => rfl
theorem cd33 : dat.chkD d33 = true := by decide +kernel
theorem bd33 : d33.binds := fun _ _ _ _ _ _ us hl => match us, hl with | [_], _ => rfl
theorem chk : dat.chk = true := by decide +kernel
theorem all_ok : ∀ d ∈ dat.defs, dat.chkD d = true ∧ d.binds := List.forall_mem_cons.mpr ⟨⟨cd0, bd0⟩, List.forall_mem_cons.mpr ⟨⟨cd1, bd1⟩, List.forall_mem_cons.mpr ⟨⟨cd2, bd2⟩, List.forall_mem_cons.mpr ⟨⟨cd3, bd3⟩, List.forall_mem_cons.mpr ⟨⟨cd4, bd4⟩, List.forall_mem_cons.mpr ⟨⟨cd5, bd5⟩, List.forall_mem_cons.mpr ⟨⟨cd6, bd6⟩, List.forall_mem_cons.mpr ⟨⟨cd7, bd7⟩, List.forall_mem_cons.mpr ⟨⟨cd8, bd8⟩, List.forall_mem_cons.mpr ⟨⟨cd9, bd9⟩, List.forall_mem_cons.mpr ⟨⟨cd10, bd10⟩, List.forall_mem_cons.mpr ⟨⟨cd11, bd11⟩, List.forall_mem_cons.mpr ⟨⟨cd12, bd12⟩, List.forall_mem_cons.mpr ⟨⟨cd13, bd13⟩, List.forall_mem_cons.mpr ⟨⟨cd14, bd14⟩, List.forall_mem_cons.mpr ⟨⟨cd15, bd15⟩, List.forall_mem_cons.mpr ⟨⟨cd16, bd16⟩, List.forall_mem_cons.mpr ⟨⟨cd17, bd17⟩, List.forall_mem_cons.mpr ⟨⟨cd18, bd18⟩, List.forall_mem_cons.mpr ⟨⟨cd19, bd19⟩, List.forall_mem_cons.mpr ⟨⟨cd20, bd20⟩, List.forall_mem_cons.mpr ⟨⟨cd21, bd21⟩, List.forall_mem_cons.mpr ⟨⟨cd22, bd22⟩, List.forall_mem_cons.mpr ⟨⟨cd23, bd23⟩, List.forall_mem_cons.mpr ⟨⟨cd24, bd24⟩, List.forall_mem_cons.mpr ⟨⟨cd25, bd25⟩, List.forall_mem_cons.mpr ⟨⟨cd26, bd26⟩, List.forall_mem_cons.mpr ⟨⟨cd27, bd27⟩, List.forall_mem_cons.mpr ⟨⟨cd28, bd28⟩, List.forall_mem_cons.mpr ⟨⟨cd29, bd29⟩, List.forall_mem_cons.mpr ⟨⟨cd30, bd30⟩, List.forall_mem_cons.mpr ⟨⟨cd31, bd31⟩, List.forall_mem_cons.mpr ⟨⟨cd32, bd32⟩, List.forall_mem_cons.mpr ⟨⟨cd33, bd33⟩, fun _ h => nomatch h⟩⟩⟩⟩⟩⟩⟩⟩⟩⟩⟩⟩⟩⟩⟩⟩⟩⟩⟩⟩⟩⟩⟩⟩⟩⟩⟩⟩⟩⟩⟩⟩⟩⟩
theorem con_ok : ∀ p ∈ dat.cv, dat.Tx.con p.2.1 = some p.2.2.d := List.forall_mem_cons.mpr ⟨rfl, fun _ h => nomatch h⟩
def nm0 : List PySem.Str := ["_wall", "central_members", "centre", "upper_row", "MovesError", "BadGroup", "NotMember", "TooLarge", "MOST_MEMBERS", "reached", "generating_members", "is_associative", "table_fault", "Group", "generated", "commutator_subgroup", "lower_row", "class_of", "_law_cell", "_law_numbers", "_law_generators", "_law_close", "_law_table", "_law_renumbered", "_law_affine", "_law_product", "_law_any_group", "_law_closed", "_law_bracket", "_law_lower_row"]
def nm1 : List PySem.Str := ["_law_upper_row", "_law_integer", "_law_members", "_law_rows", "_law_below", "_law_class", "_law_told"]
def names : List PySem.Str := nm0 ++ nm1
abbrev RR : PySem.W.OpenRow := PySem.W.OpenLaw.row PySem.Challenge.rw_chosenmoves_k08_class_by_two_series
abbrev hk : PySem.W.Hook := He.hookD 5 dat.fa dat.fn
def ob (s : PySem.W.SharedT) : He.AlD := He.obsDG 5 dat.fa dat.fn (HandSHeadRun.getT s)
theorem ob_eq (s : PySem.W.SharedT) : ob s = hk.obs s.abs := He.obsDG_eq (HandSHeadRun.getT_eq s)
theorem run (w : World) : HandSHeadRun.RunEq RR (PySem.W.view RR.prog [42]) hk ob 4000 names w := by
  intro os
  kernel_rfl

end K08


set_option Elab.async false
set_option linter.all false
set_option maxRecDepth 100000
set_option maxHeartbeats 0
namespace K08
open PySem PySem.Spec L2 Ev
theorem t08 : DW.T08 dat.Tx := ⟨rfl, rfl, rfl, rfl, rfl, rfl, rfl, rfl, rfl, rfl, rfl, rfl, rfl, rfl, rfl, rfl, rfl, rfl, rfl, rfl, rfl, rfl, rfl, rfl, rfl, rfl, rfl, rfl, rfl, rfl, rfl, rfl, rfl, rfl, rfl, rfl⟩
theorem law_true (ns : List Int) : (rt dat.Tx 14).call 33 [.scr ns] = .ok (.v (.bl true)) := DW.law08 t08 6 ns
end K08
open PySem PySem.W PySem.Calls PyProof.Rows
theorem PySem.Challenge.cw_chosenmoves_k08_class_by_two_series_holds : PySem.Challenge.rw_chosenmoves_k08_class_by_two_series.Holds := by
  w_on; o_law
  refine HandSHeadRun.head_any (r := OpenLaw.row PySem.Challenge.rw_chosenmoves_k08_class_by_two_series) (q := view (OpenLaw.row PySem.Challenge.rw_chosenmoves_k08_class_by_two_series).prog [42]) (H := K08.hk) (ob := K08.ob) (M := 4000) (loose := K08.names) (d := HandSHeadRun.topDef (OpenLaw.row PySem.Challenge.rw_chosenmoves_k08_class_by_two_series).prog 42) (kwd := []) K08.ob_eq
    (by kernel_rfl) (fun s => by kernel_rfl) K08.run (by kernel_rfl) (by kernel_rfl) (by kernel_rfl) (by rfl) (by first | assumption | decide +kernel) (by decide +kernel) ⟨rfl, rfl, rfl, rfl, rfl, by decide +kernel⟩ ?hw ?hc
  case hw => w_witness2
  case hc =>
    exact Ev.walk_law (l := PySem.Challenge.rw_chosenmoves_k08_class_by_two_series) (k := 5) (lv := 14) (A := K08.dat) (x := "_law_script") (y := "law") (dl := K08.d33) rfl (by decide) (by kernel_rfl) ⟨rfl, by decide, by decide⟩ (by kernel_rfl) K08.chk K08.con_ok K08.all_ok (by simp [K08.dat]) rfl rfl (by kernel_rfl) (by kernel_rfl) (fun ns _ => K08.law_true ns)


