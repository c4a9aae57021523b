import PyProof.Rows.All
import Wide.All
import OpenK.AllK
import Wide.FinOn
import HandS.ForMost
import HandS.IsInst
import HandS.Zip
import HandS.Flow
import HandS.Conv
import HandS.TupAny
import HandS.TupLe
import HandS.TupMul
import HandS.Deep
import HandS.Wide
import HandS.TupLen
import HandS.WordsDict
import HandS.Style
import KE.SortData
import PyProof.ReprRoads
import PyProof.CallFns
import KE.GoesEnum
import HandS.Defaults
import HandS.MakeKwOnly
import HandS.Star
import HandS.Small
import HandS.Ends
import KE.KExcSuper
import HandS.Exc
import HandS.TryMany
import HandS.TryOnly
import HandS.SetFor
import HandS.DictComp
import KE.RegKSuper
import PySem.Challenge.RW_nestcrates_k01_whole_orders
set_option Elab.async false
set_option linter.all false
set_option maxRecDepth 100000
set_option maxHeartbeats 4000000
/-! A data layer of my own over the hand layer: values of the heap read as trees of data, so that a def's body becomes a predicate transformer over plain data. -/
namespace DL
open PySem PySem.Spec PyProof.Rows L2

abbrev D := PyData
def kD : Key → D
  | .inl i => .int i
  | .inr x => .str x

/-- a world: what is tracked, what may change (M: owned by some frame; C: the law's own state) -/
structure Wd where
  H : Hp
  M : Addr → Prop
  C : Addr → Prop

mutual
inductive Rp (w : Wd) : V → D → Prop
  | non : Rp w .non .none
  | bl (b : Bool) : Rp w (.bl b) (.bool b)
  | int (i : Int) : Rp w (.int i) (.int i)
  | str (x : Str) : Rp w (.str x) (.str x)
  | lst {a : Addr} {xs : List V} {ds : List D} : ¬ w.M a → w.H a = some (.lst xs) → RpL w xs ds → Rp w (.ref a) (.list ds)
  | tup {a : Addr} {xs : List V} {ds : List D} : ¬ w.M a → w.H a = some (.tup xs) → RpL w xs ds → Rp w (.ref a) (.tuple ds)
  | dK {a : Addr} {kvs : List (Key × V)} {es : List (D × D)} : ¬ w.M a → Rd w.H a (.dK kvs) → es.map (·.1) = kvs.map (fun p => kD p.1) → RpL w (kvs.map (·.2)) (es.map (·.2)) → Rp w (.ref a) (.dict es)
  | dT {a : Addr} {kvs : List (List Key × V)} {es : List (D × D)} : ¬ w.M a → Rd w.H a (.dT kvs) → es.map (·.1) = kvs.map (fun p => .tuple (p.1.map kD)) → RpL w (kvs.map (·.2)) (es.map (·.2)) → Rp w (.ref a) (.dict es)
inductive RpL (w : Wd) : List V → List D → Prop
  | nil : RpL w [] []
  | cons {v : V} {vs : List V} {d : D} {ds : List D} : Rp w v d → RpL w vs ds → RpL w (v :: vs) (d :: ds)
end

/-- what is to be read now: as Rp, its own top object may be somebody's own -/
inductive Rq (w : Wd) : V → D → Prop
  | non : Rq w .non .none
  | bl (b : Bool) : Rq w (.bl b) (.bool b)
  | int (i : Int) : Rq w (.int i) (.int i)
  | str (x : Str) : Rq w (.str x) (.str x)
  | lst {a : Addr} {xs : List V} {ds : List D} : w.H a = some (.lst xs) → RpL w xs ds → Rq w (.ref a) (.list ds)
  | tup {a : Addr} {xs : List V} {ds : List D} : ¬ w.M a → w.H a = some (.tup xs) → RpL w xs ds → Rq w (.ref a) (.tuple ds)
  | dK {a : Addr} {kvs : List (Key × V)} {es : List (D × D)} : Rd w.H a (.dK kvs) → es.map (·.1) = kvs.map (fun p => kD p.1) → RpL w (kvs.map (·.2)) (es.map (·.2)) → Rq w (.ref a) (.dict es)
  | dT {a : Addr} {kvs : List (List Key × V)} {es : List (D × D)} : Rd w.H a (.dT kvs) → es.map (·.1) = kvs.map (fun p => .tuple (p.1.map kD)) → RpL w (kvs.map (·.2)) (es.map (·.2)) → Rq w (.ref a) (.dict es)

/-- an object that somebody owns: its content -/
inductive Ow (w : Wd) (a : Addr) : D → Prop
  | lst {xs : List V} {ds : List D} : w.H a = some (.lst xs) → RpL w xs ds → Ow w a (.list ds)
  | dK {kvs : List (Key × V)} {es : List (D × D)} : w.H a = some (.dK kvs) → es.map (·.1) = kvs.map (fun p => kD p.1) → RpL w (kvs.map (·.2)) (es.map (·.2)) → Ow w a (.dict es)
  | dT {kvs : List (List Key × V)} {es : List (D × D)} : w.H a = some (.dT kvs) → es.map (·.1) = kvs.map (fun p => .tuple (p.1.map kD)) → RpL w (kvs.map (·.2)) (es.map (·.2)) → Ow w a (.dict es)

theorem Rp.rq {w : Wd} {v : V} {d : D} (h : Rp w v d) : Rq w v d := by
  cases h with
  | non => exact .non
  | bl b => exact .bl b
  | int i => exact .int i
  | str x => exact .str x
  | lst _ h r => exact .lst h r
  | tup n h r => exact .tup n h r
  | dK _ h e r => exact .dK h e r
  | dT _ h e r => exact .dT h e r
theorem Ow.rq {w : Wd} {a : Addr} {d : D} (h : Ow w a d) : Rq w (.ref a) d := by
  cases h with
  | lst h r => exact .lst h r
  | dK h e r => exact .dK (.inl h) e r
  | dT h e r => exact .dT (.inl h) e r
theorem Ow.rp {w : Wd} {a : Addr} {d : D} (h : Ow w a d) (n : ¬ w.M a) : Rp w (.ref a) d := by
  cases h with
  | lst h r => exact .lst n h r
  | dK h e r => exact .dK n (.inl h) e r
  | dT h e r => exact .dT n (.inl h) e r

theorem Ow.ntup {w : Wd} {a : Addr} {d : D} (h : Ow w a d) (xs : List V) : w.H a ≠ some (.tup xs) := by
  cases h with
  | lst h _ => rw [h]; exact fun z => nomatch z
  | dK h _ _ => rw [h]; exact fun z => nomatch z
  | dT h _ _ => rw [h]; exact fun z => nomatch z
/-! ### how worlds go on -/
def IsDct (o : HO) : Prop := (∃ kvs, o = .dK kvs) ∨ ∃ kvs, o = .dT kvs
/-- o stands as it was; or it is a dict, and has been locked -/
def Lk (o : HO) (x : Option HO) : Prop := x = some o ∨ (IsDct o ∧ ∃ ob, x = some (.frz ob o))
theorem Lk.refl {o : HO} {x : Option HO} (h : x = some o) : Lk o x := .inl h
theorem Lk.exact {o : HO} {x : Option HO} (h : Lk o x) (n : ¬ IsDct o) : x = some o := h.elim id fun q => absurd q.1 n
theorem Lk.there {o : HO} {x : Option HO} (h : Lk o x) : x ≠ none := by
  rcases h with h | ⟨_, ob, h⟩ <;> (rw [h]; simp)
theorem no_dct_lst {xs : List V} : ¬ IsDct (.lst xs) := fun h => by rcases h with ⟨_, h⟩ | ⟨_, h⟩ <;> cases h
theorem no_dct_tup {xs : List V} : ¬ IsDct (.tup xs) := fun h => by rcases h with ⟨_, h⟩ | ⟨_, h⟩ <;> cases h
theorem no_dct_frz {o : Obj} {u : HO} : ¬ IsDct (.frz o u) := fun h => by rcases h with ⟨_, h⟩ | ⟨_, h⟩ <;> cases h
theorem Lk.rd {H' : Hp} {a : Addr} {u : HO} {o : Option HO} (H : Hp) (h : Rd H a u) (k : ∀ o, H a = some o → Lk o (H' a)) : Rd H' a u := by
  rcases h with h | ⟨o, h⟩
  · rcases k _ h with q | ⟨_, ob, q⟩
    · exact .inl q
    · exact .inr ⟨ob, q⟩
  · exact .inr ⟨o, (k _ h).exact no_dct_frz⟩
/-- what frozen data lean on stays -/
structure St1 (w w' : Wd) : Prop where
  keep : ∀ a o, ¬ w.M a → w.H a = some o → Lk o (w'.H a)
  newM : ∀ a, w'.M a → w.M a ∨ w.H a = none

theorem St1.rd {w w' : Wd} (e : St1 w w') {a : Addr} {u : HO} (n : ¬ w.M a) (h : Rd w.H a u) : Rd w'.H a u ∧ ¬ w'.M a := by
  refine ⟨Lk.rd (o := none) w.H h fun o q => e.keep a o n q, fun z => ?_⟩
  rcases e.newM a z with q | q
  · exact n q
  · rcases h with h | ⟨o, h⟩ <;> (rw [q] at h; cases h)
theorem St1.nm {w w' : Wd} (e : St1 w w') {a : Addr} {u : HO} (n : ¬ w.M a) (h : w.H a = some u) : ¬ w'.M a := fun z => (e.newM a z).elim n fun q => by rw [q] at h; cases h
theorem Rp.st {w w' : Wd} (e : St1 w w') {v : V} {d : D} (h : Rp w v d) : Rp w' v d :=
  Rp.rec (motive_1 := fun v d _ => Rp w' v d) (motive_2 := fun vs ds _ => RpL w' vs ds) .non .bl .int .str
    (fun n h _ r => .lst (e.nm n h) ((e.keep _ _ n h).exact no_dct_lst) r) (fun n h _ r => .tup (e.nm n h) ((e.keep _ _ n h).exact no_dct_tup) r)
    (fun n h k _ r => .dK (e.rd n h).2 (e.rd n h).1 k r) (fun n h k _ r => .dT (e.rd n h).2 (e.rd n h).1 k r) .nil (fun _ _ a b => .cons a b) h
theorem RpL.st {w w' : Wd} (e : St1 w w') : ∀ {vs : List V} {ds : List D}, RpL w vs ds → RpL w' vs ds
  | _, _, .nil => .nil
  | _, _, .cons h r => .cons (h.st e) (RpL.st e r)
theorem RpL.length {w : Wd} : ∀ {vs : List V} {ds : List D}, RpL w vs ds → vs.length = ds.length
  | _, _, .nil => rfl
  | _, _, .cons _ r => by rw [List.length_cons, List.length_cons, RpL.length r]
theorem RpL.append {w : Wd} : ∀ {vs us : List V} {ds es : List D}, RpL w vs ds → RpL w us es → RpL w (vs ++ us) (ds ++ es)
  | _, _, _, _, .nil, q => q
  | _, _, _, _, .cons h r, q => .cons h (RpL.append r q)
theorem RpL.get {w : Wd} : ∀ {vs : List V} {ds : List D} {i : Nat} {d : D}, RpL w vs ds → ds[i]? = some d → ∃ v, vs[i]? = some v ∧ Rp w v d
  | _, _, _, _, .nil, e => by simp at e
  | _, _, 0, _, .cons h _, e => by simp at e; subst e; exact ⟨_, rfl, h⟩
  | _, _, i + 1, _, .cons _ r, e => by
    obtain ⟨v, a, b⟩ := RpL.get (i := i) r (by simpa using e)
    exact ⟨v, by simpa using a, b⟩
theorem RpL.getV {w : Wd} : ∀ {vs : List V} {ds : List D} {i : Nat} {v : V}, RpL w vs ds → vs[i]? = some v → ∃ d, ds[i]? = some d ∧ Rp w v d
  | _, _, _, _, .nil, e => by simp at e
  | _, _, 0, _, .cons h _, e => by simp at e; subst e; exact ⟨_, rfl, h⟩
  | _, _, i + 1, _, .cons _ r, e => by
    obtain ⟨v, a, b⟩ := RpL.getV (i := i) r (by simpa using e)
    exact ⟨v, by simpa using a, b⟩
theorem RpL.take {w : Wd} : ∀ {vs : List V} {ds : List D} (n : Nat), RpL w vs ds → RpL w (vs.take n) (ds.take n)
  | _, _, 0, _ => .nil
  | _, _, _ + 1, .nil => .nil
  | _, _, n + 1, .cons h r => .cons h (RpL.take n r)
theorem RpL.drop {w : Wd} : ∀ {vs : List V} {ds : List D} (n : Nat), RpL w vs ds → RpL w (vs.drop n) (ds.drop n)
  | _, _, 0, r => r
  | _, _, _ + 1, .nil => .nil
  | _, _, n + 1, .cons _ r => RpL.drop n r
theorem RpL.set {w : Wd} {v : V} {d : D} (h : Rp w v d) : ∀ {vs : List V} {ds : List D} (i : Nat), RpL w vs ds → RpL w (vs.set i v) (ds.set i d)
  | _, _, _, .nil => .nil
  | _, _, 0, .cons _ r => .cons h r
  | _, _, i + 1, .cons q r => .cons q (RpL.set h i r)
theorem RpL.eraseIdx {w : Wd} : ∀ {vs : List V} {ds : List D} (i : Nat), RpL w vs ds → RpL w (vs.eraseIdx i) (ds.eraseIdx i)
  | _, _, _, .nil => .nil
  | _, _, 0, .cons _ r => r
  | _, _, i + 1, .cons q r => .cons q (RpL.eraseIdx i r)
theorem RpL.dropLast {w : Wd} {vs : List V} {ds : List D} (r : RpL w vs ds) : RpL w vs.dropLast ds.dropLast := by
  rw [List.dropLast_eq_take, List.dropLast_eq_take, r.length]; exact r.take _
theorem RpL.reverse {w : Wd} : ∀ {vs : List V} {ds : List D}, RpL w vs ds → RpL w vs.reverse ds.reverse
  | _, _, .nil => .nil
  | _, _, .cons h r => by rw [List.reverse_cons, List.reverse_cons]; exact (RpL.reverse r).append (.cons h .nil)
theorem RpL.rep {w : Wd} {vs : List V} {ds : List D} (h : RpL w vs ds) : ∀ k : Nat, RpL w (List.replicate k vs).flatten (List.replicate k ds).flatten
  | 0 => .nil
  | k + 1 => by rw [List.replicate_succ, List.replicate_succ, List.flatten_cons, List.flatten_cons]; exact h.append (RpL.rep h k)
theorem Ow.st {w w' : Wd} (e : St1 w w') {a : Addr} {d : D} (h : Ow w a d) (k : w'.H a = w.H a) : Ow w' a d := by
  cases h with
  | lst h r => exact .lst (k.trans h) (r.st e)
  | dK h q r => exact .dK (k.trans h) q (r.st e)
  | dT h q r => exact .dT (k.trans h) q (r.st e)

/-- an expression has run: all but the law's state is as it was -/
structure Ext (w w' : Wd) : Prop where
  keep : ∀ a o, ¬ w.C a → w.H a = some o → w'.H a = some o ∨ (¬ w.M a ∧ IsDct o ∧ ∃ ob, w'.H a = some (.frz ob o))
  dom : ∀ a, w.H a ≠ none → w'.H a ≠ none
  newC : ∀ a, w'.C a → w.C a ∨ w.H a = none
  newM : ∀ a, w'.M a → w.M a ∨ w.H a = none
  oldM : ∀ a, w.M a → w'.M a
theorem Ext.refl (w : Wd) : Ext w w := ⟨fun _ _ _ h => .inl h, fun _ h => h, fun _ h => .inl h, fun _ h => .inl h, fun _ h => h⟩
theorem Ext.free {w w' : Wd} (e : Ext w w') {a : Addr} (h : w'.H a = none) : w.H a = none := by
  cases q : w.H a with
  | none => rfl
  | some o => exact absurd h (e.dom a (by rw [q]; simp))
theorem Ext.own {w w' : Wd} (e : Ext w w') {a : Addr} {o : HO} (n : ¬ w.C a) (m : w.M a) (h : w.H a = some o) : w'.H a = some o := (e.keep a o n h).elim id fun q => absurd m q.1
theorem Ext.ntup {w w' : Wd} (e : Ext w w') {a : Addr} {xs : List V} (n : ¬ w.C a) (m : w.M a) (d : w.H a ≠ none) (t : w.H a ≠ some (.tup xs)) : w'.H a ≠ some (.tup xs) := by
  cases q : w.H a with
  | none => exact absurd q d
  | some o => rw [e.own n m q]; rw [q] at t; exact t
theorem Ext.lk {w w' : Wd} (e : Ext w w') {a : Addr} {o : HO} (n : ¬ w.C a) (h : w.H a = some o) : Lk o (w'.H a) := (e.keep a o n h).elim .inl fun q => .inr q.2
theorem Ext.trans {w w1 w2 : Wd} (e : Ext w w1) (f : Ext w1 w2) : Ext w w2 where
  keep := fun a o n h => by
    have nc : ¬ w1.C a := fun z => (e.newC a z).elim n fun q => by rw [q] at h; cases h
    rcases e.keep a o n h with q | ⟨nm, d, ob, q⟩
    · rcases f.keep a o nc q with r | ⟨nm, r⟩
      · exact .inl r
      · exact .inr ⟨fun m => nm (e.oldM a m), r⟩
    · exact .inr ⟨nm, d, ob, (f.lk nc q).exact no_dct_frz⟩
  dom := fun a h => f.dom a (e.dom a h)
  newC := fun a h => (f.newC a h).elim (e.newC a) fun q => .inr (e.free q)
  newM := fun a h => (f.newM a h).elim (e.newM a) fun q => .inr (e.free q)
  oldM := fun a h => f.oldM a (e.oldM a h)
theorem Ext.st {w w' : Wd} (e : Ext w w') (cm : ∀ a, w.C a → w.M a) : St1 w w' := ⟨fun a o n h => e.lk (fun z => n (cm a z)) h, e.newM⟩
theorem Ext.same {w : Wd} {H' : Hp} (s : Same w.H H') : Ext w ⟨H', w.M, w.C⟩ := ⟨fun a o _ h => .inl (s a o h), fun a h z => h (s.free z), fun _ h => .inl h, fun _ h => .inl h, fun _ h => h⟩
theorem St1.same {w : Wd} {H' : Hp} (s : Same w.H H') : St1 w ⟨H', w.M, w.C⟩ := ⟨fun a o _ h => .inl (s a o h), fun _ h => .inl h⟩

/-- a fact that stands while what frozen data lean on stays -/
structure Fx where
  P : Wd → Prop
  st : ∀ w w', St1 w w' → P w → P w'
@[reducible] def fx (v : V) (d : D) : Fx := ⟨fun w => Rp w v d, fun _ _ e h => h.st e⟩
/-! ### the slots of a frame, as data -/
inductive Sl where
  | no
  | fz (d : D)
  | raw (v : V)
  | own (d : D)
  | bw (d : D)
abbrev Ev := List Sl

/-- the ghost of a run: what is protected, what was there at the entry, the law's state -/
structure Gh where
  Pt : Hp
  H0 : Hp
  M0 : Addr → Prop
  mh : ∀ a, M0 a → H0 a ≠ none
  C0 : Addr → Prop
  /-- values that are walked, or kept aside -/
  gs : List Fx
  /-- how much has been drawn, at most -/
  b : Nat
  SI : Nat → (Addr → Prop) → Hp → Prop
  stab : ∀ b C H H', SI b C H → (∀ a o, C a → H a = some o → H' a = some o) → SI b C H'
abbrev Gh.at (G : Gh) (b : Nat) : Gh := { G with b := b }
/-- no more than this is drawn -/
def cap : Nat := 2 ^ 100000

def SlR (G : Gh) (w : Wd) (ov : Option V) : Sl → Prop
  | .no => True
  | .fz d => ∃ v, ov = some v ∧ Rp w v d
  | .raw v => ov = some v
  | .own d => ∃ a, ov = some (.ref a) ∧ w.M a ∧ ¬ w.C a ∧ G.Pt a = none ∧ G.H0 a = none ∧ Ow w a d
  | .bw d => ∃ a, ov = some (.ref a) ∧ w.M a ∧ ¬ w.C a ∧ (∃ o, G.Pt a = some o) ∧ Ow w a d

/-- what holds wherever a body stands -/
structure EH (G : Gh) (w : Wd) : Prop where
  kp : ∀ a o, G.Pt a = some o → w.H a = some o ∨ (¬ G.M0 a ∧ IsDct o ∧ ∃ ob, w.H a = some (.frz ob o))
  m0 : ∀ a, G.M0 a → w.M a
  nc : ∀ a, w.C a → G.C0 a ∨ G.H0 a = none
  cp : ∀ a, w.C a → G.Pt a = none
  cm : ∀ a, w.C a → w.M a
  md : ∀ a, w.M a → w.H a ≠ none
  hd : ∀ a, G.H0 a ≠ none → w.H a ≠ none
  gk : ∀ p ∈ G.gs, p.P w
  si : G.SI G.b w.C w.H
  mt : ∀ a xs, w.M a → w.H a ≠ some (.tup xs)
structure ER (G : Gh) (w : Wd) (env : Ev) (σ : L2.St) : Prop extends EH G w where
  len : env.length = σ.length
  sl : ∀ (i : Nat) (s : Sl) (ov : Option V), env[i]? = some s → σ[i]? = some ov → SlR G w ov s
  od : ∀ (i j : Nat) (d e : D) (a : Addr), env[i]? = some (.own d) → env[j]? = some (.own e) → σ[i]? = some (some (.ref a)) → σ[j]? = some (some (.ref a)) → i = j

theorem SlR.ext {G : Gh} {w w' : Wd} {ov : Option V} {s : Sl} (e : Ext w w') (cm : ∀ a, w.C a → w.M a) (r : SlR G w ov s) : SlR G w' ov s := by
  have st := e.st cm
  have cn : ∀ a, ¬ w.C a → w.H a ≠ none → ¬ w'.C a := fun a n q z => (e.newC a z).elim n q
  cases s with
  | no => trivial
  | fz d => obtain ⟨v, q, r⟩ := r; exact ⟨v, q, r.st st⟩
  | raw v => exact r
  | own d =>
    obtain ⟨a, q, m, n, p, z, o⟩ := r
    have hd : ∃ ob, w.H a = some ob := by cases o <;> exact ⟨_, by assumption⟩
    obtain ⟨ob, hd⟩ := hd
    exact ⟨a, q, e.oldM a m, cn a n (by rw [hd]; simp), p, z, o.st st (by rw [hd]; exact e.own n m hd)⟩
  | bw d =>
    obtain ⟨a, q, m, n, p, o⟩ := r
    have hd : ∃ ob, w.H a = some ob := by cases o <;> exact ⟨_, by assumption⟩
    obtain ⟨ob, hd⟩ := hd
    exact ⟨a, q, e.oldM a m, cn a n (by rw [hd]; simp), p, o.st st (by rw [hd]; exact e.own n m hd)⟩

theorem ntup_same {H H' : Hp} {a : Addr} {xs : List V} (s : Same H H') (m : H a ≠ none) (n : H a ≠ some (.tup xs)) : H' a ≠ some (.tup xs) := by
  cases q : H a with
  | none => exact absurd q m
  | some o => rw [s a o q]; rw [q] at n; exact n
/-- all that was tracked stays: a pure step -/
theorem EH.same {G : Gh} {w : Wd} {H' : Hp} (h : EH G w) (s : Same w.H H') : EH G ⟨H', w.M, w.C⟩ :=
  ⟨fun a o q => (h.kp a o q).elim (fun z => .inl (s _ _ z)) fun ⟨n, d, ob, z⟩ => .inr ⟨n, d, ob, s _ _ z⟩, h.m0, h.nc, h.cp, h.cm, fun a m z => h.md a m (s.free z), fun a m z => h.hd a m (s.free z), fun p hp => p.st _ _ (St1.same s) (h.gk p hp), G.stab _ _ _ _ h.si fun a o _ q => s a o q, fun a xs m => ntup_same s (h.md a m) (h.mt a xs m)⟩
theorem ER.same {G : Gh} {w : Wd} {H' : Hp} {env : Ev} {σ : L2.St} (h : ER G w env σ) (s : Same w.H H') : ER G ⟨H', w.M, w.C⟩ env σ :=
  ⟨h.toEH.same s, h.len, fun i sl ov a b => SlR.ext (Ext.same s) h.cm (h.sl i sl ov a b), h.od⟩

/-- a world in which a is somebody's own, too -/
def Wd.plus (w : Wd) (a : Addr) : Wd := ⟨w.H, fun b => w.M b ∨ b = a, w.C⟩
theorem St1.less (w : Wd) (a : Addr) : St1 (w.plus a) w := ⟨fun b o n h => .inl h, fun b m => .inl (.inl m)⟩
theorem St1.plus {w w' : Wd} (e : St1 w w') (a : Addr) : St1 (w.plus a) (w'.plus a) := ⟨fun b o n h => e.keep b o (fun m => n (.inl m)) h, fun b m => m.elim (fun m => (e.newM b m).elim (fun m => .inl (.inl m)) .inr) fun q => .inl (.inr q)⟩

theorem ER.ext' {G : Gh} {b b' : Nat} {w w' : Wd} {env : Ev} {σ : L2.St} (h : ER (G.at b) w env σ) (e : Ext w w') (eh : EH (G.at b') w') : ER (G.at b') w' env σ := ⟨eh, h.len, fun i sl ov a b => SlR.ext e h.cm (h.sl i sl ov a b), h.od⟩

/-! ### values of expressions -/
inductive Dv where
  /-- data that nobody may change -/
  | fz (d : D)
  /-- a new list or dict that nothing else refers to -/
  | nw (d : D)
  /-- a local's own list or dict -/
  | ow (d : D)
  /-- a caller's own -/
  | bw (d : D)
  | raw (v : V)
def Dv.val : Dv → Option D
  | .fz d => some d
  | .nw d => some d
  | .ow d => some d
  | .bw d => some d
  | .raw _ => none
/-- the data of a value that may be kept -/
def isDct : D → Bool
  | .dict _ => true
  | _ => false
def Dv.kept : Dv → Option D
  | .fz d => some d
  | .nw d => if isDct d = true then none else some d
  | _ => none

/-- Hs: the heap at the start of the expression -/
def VR (G : Gh) (Hs : Hp) (w : Wd) (v : V) : Dv → Prop
  | .fz d => Rp w v d
  | .nw d => ∃ a, v = .ref a ∧ Hs a = none ∧ (isDct d = true ↔ w.M a) ∧ ¬ w.C a ∧ Ow (w.plus a) a d
  | .ow d => ∃ a, v = .ref a ∧ w.M a ∧ G.H0 a = none ∧ G.Pt a = none ∧ ¬ w.C a ∧ Ow w a d
  | .bw d => ∃ a, v = .ref a ∧ w.M a ∧ ¬ w.C a ∧ Ow w a d
  | .raw u => v = u

theorem VR.rq {G : Gh} {Hs : Hp} {w : Wd} {v : V} {dv : Dv} {d : D} (h : VR G Hs w v dv) (e : dv.val = some d) : Rq w v d := by
  cases dv with
  | fz d' => cases e; exact Rp.rq h
  | nw d' => cases e; obtain ⟨a, rfl, _, _, _, o⟩ := h; exact (o.st (St1.less w a) rfl).rq
  | ow d' => cases e; obtain ⟨a, rfl, _, _, _, _, o⟩ := h; exact o.rq
  | bw d' => cases e; obtain ⟨a, rfl, _, _, o⟩ := h; exact o.rq
  | raw u => cases e
theorem VR.rp {G : Gh} {Hs : Hp} {w : Wd} {v : V} {dv : Dv} {d : D} (h : VR G Hs w v dv) (e : dv.kept = some d) : Rp w v d := by
  cases dv with
  | fz d' => cases e; exact h
  | nw d' =>
    obtain ⟨a, rfl, _, n, _, o⟩ := h
    simp only [Dv.kept] at e
    by_cases q : isDct d' = true
    · rw [if_pos q] at e; cases e
    · rw [if_neg q] at e; cases e
      exact (o.st (St1.less w a) rfl).rp fun m => q (n.mpr m)
  | ow d' => cases e
  | bw d' => cases e
  | raw u => cases e
theorem Dv.val_of_kept {dv : Dv} {d : D} (e : dv.kept = some d) : dv.val = some d := by
  cases dv with
  | nw d' =>
    simp only [Dv.kept] at e
    by_cases q : isDct d' = true
    · rw [if_pos q] at e; cases e
    · rw [if_neg q] at e; exact e
  | _ => first | exact e | cases e
theorem VR.ext {G : Gh} {Hs Hs' : Hp} {w w' : Wd} {v : V} {dv : Dv} (h : VR G Hs w v dv) (e : Ext w w') (cm : ∀ a, w.C a → w.M a) (hs : ∀ a, Hs a = none → Hs' a = none) : VR G Hs' w' v dv := by
  have st := e.st cm
  have cn : ∀ a, ¬ w.C a → w.H a ≠ none → ¬ w'.C a := fun a n q z => (e.newC a z).elim n q
  have hd : ∀ {a d}, Ow w a d → ∃ ob, w.H a = some ob := fun o => by cases o <;> exact ⟨_, by assumption⟩
  cases dv with
  | fz d => exact Rp.st st h
  | nw d =>
    obtain ⟨a, q, z, m, n, o⟩ := h
    obtain ⟨ob, ho⟩ : ∃ ob, w.H a = some ob := by cases o <;> exact ⟨_, by assumption⟩
    have hk : w'.H a = w.H a := by
      rw [ho]
      rcases e.keep a ob n ho with k | ⟨nm, dc, _⟩
      · exact k
      · exfalso
        have nd : ¬ isDct d = true := fun t => nm (m.mp t)
        cases o with
        | lst h r =>
          have h' : w.H a = some (.lst _) := h
          rw [ho] at h'; cases h'
          exact no_dct_lst dc
        | dK _ _ _ => exact nd rfl
        | dT _ _ _ => exact nd rfl
    exact ⟨a, q, hs a z, ⟨fun t => e.oldM a (m.mp t), fun k => (e.newM a k).elim m.mpr (by rw [ho]; simp)⟩, cn a n (by rw [ho]; simp), o.st (st.plus a) hk⟩
  | ow d =>
    obtain ⟨a, q, m, z, p, n, o⟩ := h
    obtain ⟨ob, ho⟩ := hd o
    exact ⟨a, q, e.oldM a m, z, p, cn a n (by rw [ho]; simp), o.st st (by rw [ho]; exact e.own n m ho)⟩
  | bw d =>
    obtain ⟨a, q, m, n, o⟩ := h
    obtain ⟨ob, ho⟩ := hd o
    exact ⟨a, q, e.oldM a m, cn a n (by rw [ho]; simp), o.st st (by rw [ho]; exact e.own n m ho)⟩
  | raw u => exact h

/-! ### the judgements -/
abbrev WE := Ev → (Dv → Prop) → Prop
abbrev WT := Ev → (Bool → Prop) → Prop
abbrev WA := Ev → (List Dv → Prop) → Prop
inductive VRs (G : Gh) (Hs : Hp) (w : Wd) : List V → List Dv → Prop
  | nil : VRs G Hs w [] []
  | cons {v : V} {vs : List V} {d : Dv} {ds : List Dv} : VR G Hs w v d → VRs G Hs w vs ds → VRs G Hs w (v :: vs) (d :: ds)
theorem VRs.ext {G : Gh} {Hs Hs' : Hp} {w w' : Wd} (e : Ext w w') (cm : ∀ a, w.C a → w.M a) (hs : ∀ a, Hs a = none → Hs' a = none) : ∀ {vs : List V} {ds : List Dv}, VRs G Hs w vs ds → VRs G Hs' w' vs ds
  | _, _, .nil => .nil
  | _, _, .cons h r => .cons (h.ext e cm hs) (VRs.ext e cm hs r)
theorem VRs.length {G : Gh} {Hs : Hp} {w : Wd} : ∀ {vs : List V} {ds : List Dv}, VRs G Hs w vs ds → vs.length = ds.length
  | _, _, .nil => rfl
  | _, _, .cons _ r => by rw [List.length_cons, List.length_cons, VRs.length r]

def tV (G : Gh) (f : WE) (c : Nat) : TE := fun σ H Q => ∃ (env : Ev) (M C : Addr → Prop) (b : Nat) (P : Dv → Prop), b + c ≤ cap ∧ ER (G.at b) ⟨H, M, C⟩ env σ ∧ f env P ∧ ∀ dv, P dv → ∀ b' w' v, b' ≤ b + c → ER (G.at b') w' env σ → Ext ⟨H, M, C⟩ w' → VR G H w' v dv → Q v w'.H
def tT (G : Gh) (f : WT) (c : Nat) : TT := fun σ H Q => ∃ (env : Ev) (M C : Addr → Prop) (b : Nat) (P : Bool → Prop), b + c ≤ cap ∧ ER (G.at b) ⟨H, M, C⟩ env σ ∧ f env P ∧ ∀ k, P k → ∀ b' w', b' ≤ b + c → ER (G.at b') w' env σ → Ext ⟨H, M, C⟩ w' → Q k w'.H
def tA (G : Gh) (f : WA) (c : Nat) : TA := fun σ H Q => ∃ (env : Ev) (M C : Addr → Prop) (b : Nat) (P : List Dv → Prop), b + c ≤ cap ∧ ER (G.at b) ⟨H, M, C⟩ env σ ∧ f env P ∧ ∀ ds, P ds → ∀ b' w' vs, b' ≤ b + c → ER (G.at b') w' env σ → Ext ⟨H, M, C⟩ w' → VRs G H w' vs ds → Q vs w'.H
abbrev DE (X : Cx) (G : Gh) (e : Expr) (f : WE) (c : Nat) : Prop := PE X e (tV G f c)
abbrev DT (X : Cx) (G : Gh) (e : Expr) (f : WT) (c : Nat) : Prop := PT X e (tT G f c)
abbrev DW (X : Cx) (G : Gh) (e : Expr) (f : WT) (c : Nat) : Prop := PW X e (tT G f c)
abbrev DA (X : Cx) (G : Gh) (es : List Expr) (f : WA) (c : Nat) : Prop := PA X es (tA G f c)

structure DEnds where
  nx : Ev → Prop
  rt : Dv → Prop
  bk : Ev → Prop
  ct : Ev → Prop
abbrev WS := Ev → DEnds → Prop
/-- what the statement's ends are worth -/
structure Lift (G : Gh) (B : Nat) (T : Ends) (De : DEnds) : Prop where
  nx : ∀ env, De.nx env → ∀ b w σ, b ≤ B → ER (G.at b) w env σ → T.nx σ w.H
  rt : ∀ dv, De.rt dv → ∀ b w Hs v, b ≤ B → EH (G.at b) w → VR G Hs w v dv → (∀ a, G.H0 a ≠ none → Hs a ≠ none) → T.rt v w.H
  bk : ∀ env, De.bk env → ∀ b w σ, b ≤ B → ER (G.at b) w env σ → T.bk σ w.H
  ct : ∀ env, De.ct env → ∀ b w σ, b ≤ B → ER (G.at b) w env σ → T.ct σ w.H
theorem Lift.mono {G : Gh} {B B' : Nat} {T : Ends} {De : DEnds} (h : Lift G B T De) (l : B' ≤ B) : Lift G B' T De :=
  ⟨fun e q b w σ hb => h.nx e q b w σ (Nat.le_trans hb l), fun d q b w Hs v hb => h.rt d q b w Hs v (Nat.le_trans hb l), fun e q b w σ hb => h.bk e q b w σ (Nat.le_trans hb l), fun e q b w σ hb => h.ct e q b w σ (Nat.le_trans hb l)⟩
def tS (G : Gh) (f : WS) (c : Nat) : TS := fun T σ H => ∃ (env : Ev) (M C : Addr → Prop) (b : Nat) (De : DEnds), b + c ≤ cap ∧ ER (G.at b) ⟨H, M, C⟩ env σ ∧ f env De ∧ Lift G (b + c) T De
abbrev DS (X : Cx) (G : Gh) (st : Stmt) (f : WS) (c : Nat) : Prop := PS X st (tS G f c)
abbrev DSs (X : Cx) (G : Gh) (st : List Stmt) (f : WS) (c : Nat) : Prop := PSs X st (tS G f c)
end DL
namespace DL
open PySem PySem.Spec PyProof.Rows L2

theorem PE_imp {X : Cx} {e : Expr} {t t' : TE} (h : PE X e t) (i : ∀ σ H Q, t' σ H Q → t σ H Q) : PE X e t' := ⟨fun pins s σ H Q I q => h.run pins s σ H Q I (i σ H Q q)⟩
theorem PT_imp {X : Cx} {e : Expr} {t t' : TT} (h : PT X e t) (i : ∀ σ H Q, t' σ H Q → t σ H Q) : PT X e t' := ⟨fun pins s σ H Q I q => h.run pins s σ H Q I (i σ H Q q)⟩
theorem PW_imp {X : Cx} {e : Expr} {t t' : TT} (h : PW X e t) (i : ∀ σ H Q, t' σ H Q → t σ H Q) : PW X e t' := ⟨fun wh pins s σ H Q I q => h.run wh pins s σ H Q I (i σ H Q q)⟩
theorem PA_imp {X : Cx} {e : List Expr} {t t' : TA} (h : PA X e t) (i : ∀ σ H Q, t' σ H Q → t σ H Q) : PA X e t' := ⟨fun pos pins s σ H Q I q => h.run pos pins s σ H Q I (i σ H Q q)⟩
theorem PS_imp {X : Cx} {e : Stmt} {t t' : TS} (h : PS X e t) (i : ∀ σ H Q, t' Q σ H → t Q σ H) : PS X e t' := ⟨fun pins s σ H Q I q => h.run pins s σ H Q I (i σ H Q q)⟩
theorem PSs_imp {X : Cx} {e : List Stmt} {t t' : TS} (h : PSs X e t) (i : ∀ σ H Q, t' Q σ H → t Q σ H) : PSs X e t' := ⟨fun pins s σ H Q I q => h.run pins s σ H Q I (i σ H Q q)⟩

/-- what is left to do with an expression's value -/
def Fin (G : Gh) (b : Nat) (σ : L2.St) (env : Ev) (w : Wd) (Q : VK) (P : Dv → Prop) : Prop := ∀ dv, P dv → ∀ b' w' v, b' ≤ b → ER (G.at b') w' env σ → Ext w w' → VR G w.H w' v dv → Q v w'.H
theorem VR.hs {G : Gh} {Hs Hs' : Hp} {w : Wd} {v : V} {dv : Dv} (h : VR G Hs w v dv) (e : ∀ a, Hs a = none → Hs' a = none) : VR G Hs' w v dv := by
  cases dv with
  | nw d => obtain ⟨a, q, z, r⟩ := h; exact ⟨a, q, e a z, r⟩
  | fz d => exact h
  | ow d => exact h
  | bw d => exact h
  | raw d => exact h
theorem Fin.ext {G : Gh} {b b2 : Nat} {σ : L2.St} {env : Ev} {w w2 : Wd} {Q : VK} {P : Dv → Prop} (f : Fin G b σ env w Q P) (e : Ext w w2) (l : b2 ≤ b) : Fin G b2 σ env w2 Q P :=
  fun dv p b' w' v hb er e' r => f dv p b' w' v (Nat.le_trans hb l) er (e.trans e') (r.hs fun a h => e.free h)
theorem Fin.now {G : Gh} {b : Nat} {σ : L2.St} {env : Ev} {w : Wd} {Q : VK} {P : Dv → Prop} (f : Fin G b σ env w Q P) {dv : Dv} (p : P dv) {v : V} (er : ER (G.at b) w env σ) (r : VR G w.H w v dv) : Q v w.H := f dv p b w v (Nat.le_refl _) er (Ext.refl w) r
/-- the start -/
theorem Fin.of {G : Gh} {b c : Nat} {σ : L2.St} {env : Ev} {w : Wd} {Q : VK} {P : Dv → Prop} (f : ∀ dv, P dv → ∀ b' w' v, b' ≤ b + c → ER (G.at b') w' env σ → Ext w w' → VR G w.H w' v dv → Q v w'.H) : Fin G (b + c) σ env w Q P := f
/-- one operand -/
theorem tV.one {G : Gh} {c : Nat} {wa : WE} {K : Ev → Dv → (Dv → Prop) → Prop} {σ : L2.St} {H : Hp} {Q : VK} {R : V → Hp → Prop} (h : tV G (fun env P => wa env fun x => K env x P) c σ H Q)
    (fin : ∀ {b : Nat} env w x dx P, ER (G.at b) w env σ → VR G H w x dx → K env dx P → Fin G b σ env w Q P → R x w.H) : tV G wa c σ H R := by
  obtain ⟨env, M, C, b, P, hb, er, hw, hf⟩ := h
  refine ⟨env, M, C, b, _, hb, er, hw, fun dx hx b1 w1 x hb1 er1 e1 r1 => fin env w1 x dx P er1 r1 hx (Fin.ext (w := ⟨H, M, C⟩) hf e1 hb1)⟩
/-- two operands, one after another -/
theorem tV.two {G : Gh} {ca cb : Nat} {wa wb : WE} {K : Ev → Dv → Dv → (Dv → Prop) → Prop} {σ : L2.St} {H : Hp} {Q : VK} {R : V → V → Hp → Prop} (h : tV G (fun env P => wa env fun x => wb env fun y => K env x y P) (ca + cb) σ H Q)
    (fin : ∀ {b : Nat} env w x y dx dy P, ER (G.at b) w env σ → VR G H w x dx → VR G H w y dy → K env dx dy P → Fin G b σ env w Q P → R x y w.H) : tV G wa ca σ H fun x H1 => tV G wb cb σ H1 fun y H2 => R x y H2 := by
  obtain ⟨env, M, C, b, P, hb, er, hw, hf⟩ := h
  refine ⟨env, M, C, b, _, by omega, er, hw, fun dx hx b1 w1 x hb1 er1 e1 r1 => ⟨env, w1.M, w1.C, b1, _, by omega, er1, hx, fun dy hy b2 w2 y hb2 er2 e2 r2 => ?_⟩⟩
  exact fin env w2 x y dx dy P er2 (r1.ext e2 er1.cm fun _ z => z) (r2.hs fun a z => e1.free z) hy (Fin.ext (Fin.ext (w := ⟨H, M, C⟩) hf e1 (Nat.le_refl _)) e2 (by omega))

theorem tV.twoX {G : Gh} {ca cb cc : Nat} {wa wb : WE} {K : Ev → Dv → Dv → (Dv → Prop) → Prop} {σ : L2.St} {H : Hp} {Q : VK} {R : V → V → Hp → Prop} (h : tV G (fun env P => wa env fun x => wb env fun y => K env x y P) (ca + cb + cc) σ H Q)
    (fin : ∀ {b : Nat} env w x y dx dy P, b + cc ≤ cap → ER (G.at b) w env σ → VR G H w x dx → VR G H w y dy → K env dx dy P → Fin G (b + cc) σ env w Q P → R x y w.H) : tV G wa ca σ H fun x H1 => tV G wb cb σ H1 fun y H2 => R x y H2 := by
  obtain ⟨env, M, C, b, P, hb, er, hw, hf⟩ := h
  refine ⟨env, M, C, b, _, by omega, er, hw, fun dx hx b1 w1 x hb1 er1 e1 r1 => ⟨env, w1.M, w1.C, b1, _, by omega, er1, hx, fun dy hy b2 w2 y hb2 er2 e2 r2 => ?_⟩⟩
  exact fin env w2 x y dx dy P (by omega) er2 (r1.ext e2 er1.cm fun _ z => z) (r2.hs fun a z => e1.free z) hy (Fin.ext (Fin.ext (w := ⟨H, M, C⟩) hf e1 (Nat.le_refl _)) e2 (by omega))

/-! ### the values that pure operations give -/
def mkDv : D → Dv
  | .list ds => .nw (.list ds)
  | .dict es => .nw (.dict es)
  | .none => .fz .none
  | .bool b => .fz (.bool b)
  | .int i => .fz (.int i)
  | .str x => .fz (.str x)
  | .tuple ds => .fz (.tuple ds)
def VN (w : Wd) (H' : Hp) (v : V) : D → Prop
  | .list ds => ∃ a, v = .ref a ∧ w.H a = none ∧ Ow (Wd.plus ⟨H', w.M, w.C⟩ a) a (.list ds)
  | .dict es => ∃ a, v = .ref a ∧ w.H a = none ∧ Ow (Wd.plus ⟨H', w.M, w.C⟩ a) a (.dict es)
  | d => Rp ⟨H', w.M, w.C⟩ v d
theorem same_new {H : Hp} {p : Addr} {o : HO} (h : H p = none) : Same H (upd H p o) := fun b x e => by
  rw [upd_ne (ne_of_none e h)]; exact e
theorem Ext.plus {w : Wd} {H' : Hp} {a : Addr} (s : Same w.H H') (n : w.H a = none) : Ext w (Wd.plus ⟨H', w.M, w.C⟩ a) := ⟨fun b o _ h => .inl (s b o h), fun b h z => h (s.free z), fun _ h => .inl h, fun b h => h.elim .inl fun q => .inr (by rw [q]; exact n), fun _ h => .inl h⟩
theorem EH.plus {G : Gh} {w : Wd} {H' : Hp} {a : Addr} (h : EH G w) (s : Same w.H H') (n : w.H a = none) (t : H' a ≠ none) (t' : ∀ xs, H' a ≠ some (.tup xs)) : EH G (Wd.plus ⟨H', w.M, w.C⟩ a) :=
  ⟨(h.same s).kp, fun b m => .inl (h.m0 b m), h.nc, h.cp, fun b c => .inl (h.cm b c), fun b m => m.elim ((h.same s).md b) fun q => by rw [q]; exact t, (h.same s).hd, fun p hp => p.st _ _ ((Ext.plus s n).st h.cm) (h.gk p hp), (h.same s).si, fun b xs m => m.elim ((h.same s).mt b xs) fun q => by rw [q]; exact t' xs⟩
/-- a pure step's end -/
theorem Fin.pure {G : Gh} {b : Nat} {σ : L2.St} {env : Ev} {w : Wd} {Q : VK} {P : Dv → Prop} (f : Fin G b σ env w Q P) (er : ER (G.at b) w env σ) {d : D} (p : P (mkDv d)) {v : V} {H' : Hp} (s : Same w.H H') (r : VN w H' v d) : Q v H' := by
  have nm : ∀ a, w.H a = none → ¬ w.M a := fun a z m => er.md a m z
  cases d with
  | list ds =>
    refine f _ p b ⟨H', w.M, w.C⟩ v (Nat.le_refl _) (er.same s) (Ext.same s) ?_
    obtain ⟨a, q, z, o⟩ := r
    exact ⟨a, q, z, ⟨fun t => (nomatch t), fun m => (nm a z m).elim⟩, fun c => nm a z (er.cm a c), o⟩
  | dict ds =>
    obtain ⟨a, q, z, o⟩ := r
    have t : H' a ≠ none := by cases o with | dK h _ _ => (rw [show H' a = some _ from h]; simp) | dT h _ _ => (rw [show H' a = some _ from h]; simp)
    refine f _ p b (Wd.plus ⟨H', w.M, w.C⟩ a) v (Nat.le_refl _) (er.ext' (Ext.plus s z) (er.toEH.plus s z t fun xs => o.ntup xs)) (Ext.plus s z) ?_
    have st : St1 (Wd.plus ⟨H', w.M, w.C⟩ a) (Wd.plus (Wd.plus ⟨H', w.M, w.C⟩ a) a) := ⟨fun b x nb h => .inl h, fun b m => m.elim (fun m => .inl m) fun q => .inl (.inr q)⟩
    exact ⟨a, q, z, ⟨fun _ => .inr rfl, fun _ => rfl⟩, fun c => nm a z (er.cm a c), o.st st rfl⟩
  | none => exact f _ p b ⟨H', w.M, w.C⟩ v (Nat.le_refl _) (er.same s) (Ext.same s) r
  | bool _ => exact f _ p b ⟨H', w.M, w.C⟩ v (Nat.le_refl _) (er.same s) (Ext.same s) r
  | int _ => exact f _ p b ⟨H', w.M, w.C⟩ v (Nat.le_refl _) (er.same s) (Ext.same s) r
  | str _ => exact f _ p b ⟨H', w.M, w.C⟩ v (Nat.le_refl _) (er.same s) (Ext.same s) r
  | tuple _ => exact f _ p b ⟨H', w.M, w.C⟩ v (Nat.le_refl _) (er.same s) (Ext.same s) r
theorem Fin.rp {G : Gh} {b : Nat} {σ : L2.St} {env : Ev} {w : Wd} {Q : VK} {P : Dv → Prop} (f : Fin G b σ env w Q P) (er : ER (G.at b) w env σ) {d : D} (p : P (.fz d)) {v : V} {H' : Hp} (s : Same w.H H') (r : Rp ⟨H', w.M, w.C⟩ v d) : Q v H' :=
  f _ p b ⟨H', w.M, w.C⟩ v (Nat.le_refl _) (er.same s) (Ext.same s) r
theorem st_new {w : Wd} {p : Addr} {o : HO} (n : w.H p = none) : St1 w (Wd.plus ⟨upd w.H p o, w.M, w.C⟩ p) := ⟨fun b x _ h => .inl (by
  show upd w.H p o b = some x
  rw [upd_ne (ne_of_none h n)]; exact h), fun b m => m.elim .inl fun q => .inr (by rw [q]; exact n)⟩
/-! ### names and constants -/
def Sl.dv : Sl → Option Dv
  | .no => none
  | .fz d => some (.fz d)
  | .raw v => some (.raw v)
  | .own d => some (.ow d)
  | .bw d => some (.bw d)
def wName (i : Nat) : WE := fun env P => ∃ dv, (env[i]?).bind Sl.dv = some dv ∧ P dv
def wC (dv : Dv) : WE := fun _ P => P dv
section
variable {X : Cx} {G : Gh} {a b : Expr} {wa wb : WE} {ca cb : Nat} {pos : Pos}
theorem SlR.vr {w : Wd} {Hs : Hp} {ov : Option V} {s : Sl} {dv : Dv} (h : SlR G w ov s) (e : s.dv = some dv) : ∃ v, ov = some v ∧ VR G Hs w v dv := by
  cases s with
  | no => cases e
  | fz d => cases e; exact h
  | raw v => cases e; exact ⟨v, h, rfl⟩
  | own d => cases e; obtain ⟨a, q, m, n, p, z, o⟩ := h; exact ⟨_, q, a, rfl, m, z, p, n, o⟩
  | bw d => cases e; obtain ⟨a, q, m, n, p, o⟩ := h; exact ⟨_, q, a, rfl, m, n, o⟩
theorem de_name (i : Nat) {x : Str} (hN : X.N[i]? = some x := by rfl) (hv : Vis X.env.scope x := by first | exact Or.inl rfl | exact Or.inr (Or.inl rfl) | exact Or.inr (Or.inr rfl)) (hd : (x == ("__debug__" : Str)) = false := by decide)
    (hcd : (x == ("__classdict__" : Str)) = false := by decide) : DE X G (.Name x pos) (wName i) 0 := by
  refine PE_imp (pe_var hN hv hd hcd) fun σ H Q h => ?_
  obtain ⟨env, M, C, b0, P, hb0, er, ⟨dv, e, p⟩, hf⟩ := h
  cases q : env[i]? with
  | none => rw [q] at e; cases e
  | some s =>
    rw [q] at e
    have hi : i < σ.length := by
      have := er.len
      have := (List.getElem?_eq_some_iff.mp q).1
      omega
    obtain ⟨v, hv, r⟩ := SlR.vr (Hs := H) (er.sl i s σ[i] q (List.getElem?_eq_getElem hi)) e
    refine ⟨v, ?_, Fin.now (b := b0) (w := ⟨H, M, C⟩) hf p er r⟩
    rw [List.getElem?_eq_getElem hi, hv]
theorem de_const {e : Expr} {v : V} {d : D} (h : PE X e (tC v)) (r : ∀ w, Rp w v d) : DE X G e (wC (.fz d)) 0 :=
  PE_imp h fun σ H Q h => by
    obtain ⟨env, M, C, b0, P, hb0, er, p, hf⟩ := h
    exact Fin.now (b := b0) (w := ⟨H, M, C⟩) hf p er (r _)
theorem de_int {i j} : DE X G (.Constant (.int i) j pos) (wC (.fz (.int i))) 0 := de_const pe_int fun _ => .int i
theorem de_bl {i j} : DE X G (.Constant (.bool i) j pos) (wC (.fz (.bool i))) 0 := de_const pe_bl fun _ => .bl i
theorem de_non {j} : DE X G (.Constant .none j pos) (wC (.fz .none)) 0 := de_const pe_non fun _ => .non
theorem de_str {i j} : DE X G (.Constant (.str i) j pos) (wC (.fz (.str i))) 0 := de_const pe_str fun _ => .str i
theorem de_gint {x : Str} {i : Int} {t : Tok} (hg : Gl X x) (hm : X.mg x = some (.int i t)) (hd : (x == ("__debug__" : Str)) = false := by decide) : DE X G (.Name x pos) (wC (.fz (.int i))) 0 := de_const (pe_glob (v := .int i) hg hm ⟨t, rfl⟩ hd) fun _ => .int i
theorem de_gstr {x : Str} {i : Str} {t : Tok} (hg : Gl X x) (hm : X.mg x = some (.str i t)) (hd : (x == ("__debug__" : Str)) = false := by decide) : DE X G (.Name x pos) (wC (.fz (.str i))) 0 := de_const (pe_glob (v := .str i) hg hm ⟨t, rfl⟩ hd) fun _ => .str i
/-- a name of the module as a bare value: a class, a def -/
theorem de_graw {x : Str} {v : V} {u : Value} (hg : Gl X x) (hm : X.mg x = some u) (r : RelV v u) (hd : (x == ("__debug__" : Str)) = false := by decide) : DE X G (.Name x pos) (wC (.raw v)) 0 :=
  PE_imp (pe_glob hg hm r hd) fun σ H Q h => by
    obtain ⟨env, M, C, b0, P, hb0, er, p, hf⟩ := h
    exact Fin.now (b := b0) (w := ⟨H, M, C⟩) hf p er rfl
theorem de_bltn {x : Str} {v : V} {u : Value} (hg : Gl X x) (hm : X.mg x = none) (hv : bootBuiltins x = some u) (r : RelV v u) (hn : x ≠ "__name__" := by decide) (hd : (x == ("__debug__" : Str)) = false := by decide) : DE X G (.Name x pos) (wC (.raw v)) 0 :=
  PE_imp (pe_bltn hg hm hv r hn hd) fun σ H Q h => by
    obtain ⟨env, M, C, b0, P, hb0, er, p, hf⟩ := h
    exact Fin.now (b := b0) (w := ⟨H, M, C⟩) hf p er rfl

/-! ### operators -/
def k2 (f : D → D → Option D) (x y : Dv) (P : Dv → Prop) : Prop := ∃ d, (x.val.bind fun a => y.val.bind fun b => f a b) = some d ∧ P (mkDv d)
def w2 (f : D → D → Option D) (wa wb : WE) : WE := fun env P => wa env fun x => wb env fun y => k2 f x y P
def Wk (w : Wd) : Prop := ∀ a, w.M a → w.H a ≠ none
def rV2 (f : D → D → Option D) : R2 := fun x y H Q => ∃ w dx dy d, w.H = H ∧ Wk w ∧ Rq w x dx ∧ Rq w y dy ∧ f dx dy = some d ∧ ∀ v H', Same H H' → VN w H' v d → Q v H'
theorem k2.get {f : D → D → Option D} {x y : Dv} {P : Dv → Prop} (h : k2 f x y P) : ∃ dx dy d, x.val = some dx ∧ y.val = some dy ∧ f dx dy = some d ∧ P (mkDv d) := by
  obtain ⟨d, e, p⟩ := h
  cases hx : x.val with
  | none => rw [hx] at e; cases e
  | some dx =>
    cases hy : y.val with
    | none => rw [hx, hy] at e; cases e
    | some dy => rw [hx, hy] at e; exact ⟨dx, dy, d, rfl, rfl, e, p⟩
theorem rd2 {f : D → D → Option D} {σ : L2.St} {H : Hp} {Q : VK} (h : tV G (w2 f wa wb) (ca + cb) σ H Q) : tOp (rV2 f) (tV G wa ca) (tV G wb cb) σ H Q :=
  tV.two h fun env w x y dx dy P er rx ry k hf => by
    obtain ⟨ex, ey, d, h1, h2, h3, p⟩ := k.get
    exact ⟨w, ex, ey, d, rfl, er.md, rx.rq h1, ry.rq h2, h3, fun v H' s r => hf.pure er p s r⟩
theorem de_op {op : Operator} {f : D → D → Option D} (ho : OpR X (binaryOp op) (rV2 f)) (ha : DE X G a wa ca) (hb : DE X G b wb cb) : DE X G (.BinOp a op b pos) (w2 f wa wb) (ca + cb) := PE_imp (pe_op ho ha hb) fun _ _ _ h => rd2 h
theorem de_cmp {op : CmpOp} {f : D → D → Option D} (ho : OpR X (compareOp op) (rV2 f)) (ha : DE X G a wa ca) (hb : DE X G b wb cb) (hm : behindInMarks op b = false) : DE X G (.Compare a [op] [b] pos) (w2 f wa wb) (ca + cb) := PE_imp (pe_cmpR ho ha hb hm) fun _ _ _ h => rd2 h
def wTest (wa : WE) : WT := fun env P => wa env fun x => ∃ k, x = .fz (.bool k) ∧ P k
theorem tT.of {σ : L2.St} {H : Hp} {Q : Bool → Hp → Prop} (h : tT G (wTest wa) ca σ H Q) : tV G wa ca σ H fun x H1 => ∃ k, x = .bl k ∧ Q k H1 := by
  obtain ⟨env, M, C, b0, P, hb0, er, hw, hf⟩ := h
  refine ⟨env, M, C, b0, _, hb0, er, hw, fun dx hx b1 w1 x hb1 er1 e1 r1 => ?_⟩
  obtain ⟨k, rfl, p⟩ := hx
  cases r1
  exact ⟨k, rfl, hf k p b1 w1 hb1 er1 e1⟩
theorem dt_cmp {op : CmpOp} {f : D → D → Option D} (ho : OpR X (compareOp op) (rV2 f)) (ha : DE X G a wa ca) (hb : DE X G b wb cb) (hm : behindInMarks op b = false) : DT X G (.Compare a [op] [b] pos) (wTest (w2 f wa wb)) (ca + cb) :=
  PT_imp (pt_cmpR ho ha hb hm) fun _ _ _ h => rd2 (tT.of h)
/-- an expression that gives a truth value, as a test -/
theorem dt_val {e : Expr} (h : DE X G e wa ca) (he : ∀ whole, isTrue e X.env whole = (do let v ← whole; standAt e.pos; holding [v] (truthy v)) := by intro _; rfl) : DT X G e (wTest wa) ca :=
  PT_imp (pt_val h he) fun _ _ _ h => tT.of h
end

/-! ### and, or, not, if .. else -/
section
variable {X : Cx} {G : Gh} {a b c : Expr} {ta tb : WT} {wa wb : WE} {ca cb cc : Nat} {pos : Pos} {rest : List Expr}
def wNot (t : WT) : WT := fun env P => t env fun b => P (!b)
def wAnd (t u : WT) : WT := fun env P => t env fun b => if b = true then u env P else P false
def wOr (t u : WT) : WT := fun env P => t env fun b => if b = true then P true else u env P
theorem dt_not (ha : DT X G a ta ca) : DT X G (.UnaryOp .Not a pos) (wNot ta) ca := PT_imp (pt_not ha) fun σ H Q h => by
  obtain ⟨env, M, C, b0, P, hb0, er, hw, hf⟩ := h
  exact ⟨env, M, C, b0, _, hb0, er, hw, fun b hb b1 w1 hb1 er1 e1 => hf _ hb b1 w1 hb1 er1 e1⟩
theorem dw_and1 (ha : DT X G a ta ca) : DW X G (.BoolOp .And [a] pos) ta ca := pw_and1 ha
theorem dw_or1 (ha : DT X G a ta ca) : DW X G (.BoolOp .Or [a] pos) ta ca := pw_or1 ha
theorem dw_and (ha : DT X G a ta ca) (hb : DW X G (.BoolOp .And (b :: rest) pos) tb cb) : DW X G (.BoolOp .And (a :: b :: rest) pos) (wAnd ta tb) (ca + cb) := PW_imp (pw_and ha hb) fun σ H Q h => by
  obtain ⟨env, M, C, b0, P, hb0, er, hw, hf⟩ := h
  refine ⟨env, M, C, b0, _, by omega, er, hw, fun k hk b1 w1 hb1 er1 e1 => ?_⟩
  cases k with
  | true =>
    rw [if_pos rfl] at hk ⊢
    exact ⟨env, w1.M, w1.C, b1, P, by omega, er1, hk, fun b' p b2 w' hb2 er' e' => hf b' p b2 w' (by omega) er' (e1.trans e')⟩
  | false =>
    rw [if_neg Bool.false_ne_true] at hk ⊢
    exact hf _ hk b1 w1 (by omega) er1 e1
theorem dw_or (ha : DT X G a ta ca) (hb : DW X G (.BoolOp .Or (b :: rest) pos) tb cb) : DW X G (.BoolOp .Or (a :: b :: rest) pos) (wOr ta tb) (ca + cb) := PW_imp (pw_or ha hb) fun σ H Q h => by
  obtain ⟨env, M, C, b0, P, hb0, er, hw, hf⟩ := h
  refine ⟨env, M, C, b0, _, by omega, er, hw, fun k hk b1 w1 hb1 er1 e1 => ?_⟩
  cases k with
  | false =>
    rw [if_neg Bool.false_ne_true] at hk ⊢
    exact ⟨env, w1.M, w1.C, b1, P, by omega, er1, hk, fun b' p b2 w' hb2 er' e' => hf b' p b2 w' (by omega) er' (e1.trans e')⟩
  | true =>
    rw [if_pos rfl] at hk ⊢
    exact hf _ hk b1 w1 (by omega) er1 e1
/-! .. as values -/
def wNotV (wa : WE) : WE := fun env P => wa env fun x => ∃ k, x = .fz (.bool k) ∧ P (.fz (.bool (!k)))
def wAndV (wa wb : WE) : WE := fun env P => wa env fun x => ∃ k, x = .fz (.bool k) ∧ if k = true then wb env P else P (.fz (.bool false))
def wOrV (wa wb : WE) : WE := fun env P => wa env fun x => ∃ k, x = .fz (.bool k) ∧ if k = true then P (.fz (.bool true)) else wb env P
theorem de_not (ha : DE X G a wa ca) : DE X G (.UnaryOp .Not a pos) (wNotV wa) ca := PE_imp (pe_not ha) fun σ H Q h => by
  obtain ⟨env, M, C, b0, P, hb0, er, hw, hf⟩ := h
  refine ⟨env, M, C, b0, _, by omega, er, hw, fun dv hd b1 w1 v hb1 er1 e1 r1 => ?_⟩
  obtain ⟨k, rfl, p⟩ := hd
  cases r1
  exact ⟨k, rfl, hf _ p b1 w1 _ hb1 er1 e1 (.bl _)⟩
theorem de_one {op} (ha : DE X G a wa ca) : DE X G (.BoolOp op [a] pos) wa ca := pe_one ha
theorem de_and (ha : DE X G a wa ca) (hb : DE X G (.BoolOp .And (b :: rest) pos) wb cb) : DE X G (.BoolOp .And (a :: b :: rest) pos) (wAndV wa wb) (ca + cb) := PE_imp (pe_and ha hb) fun σ H Q h => by
  obtain ⟨env, M, C, b0, P, hb0, er, hw, hf⟩ := h
  refine ⟨env, M, C, b0, _, by omega, er, hw, fun dv hd b1 w1 v hb1 er1 e1 r1 => ?_⟩
  obtain ⟨k, rfl, hk⟩ := hd
  cases r1
  refine ⟨k, rfl, ?_⟩
  cases k with
  | true =>
    rw [if_pos rfl] at hk ⊢
    exact ⟨env, w1.M, w1.C, b1, P, by omega, er1, hk, Fin.ext (w := ⟨H, M, C⟩) hf e1 (by omega)⟩
  | false =>
    rw [if_neg Bool.false_ne_true] at hk ⊢
    exact hf _ hk b1 w1 _ (by omega) er1 e1 (.bl _)
theorem de_or (ha : DE X G a wa ca) (hb : DE X G (.BoolOp .Or (b :: rest) pos) wb cb) : DE X G (.BoolOp .Or (a :: b :: rest) pos) (wOrV wa wb) (ca + cb) := PE_imp (pe_or ha hb) fun σ H Q h => by
  obtain ⟨env, M, C, b0, P, hb0, er, hw, hf⟩ := h
  refine ⟨env, M, C, b0, _, by omega, er, hw, fun dv hd b1 w1 v hb1 er1 e1 r1 => ?_⟩
  obtain ⟨k, rfl, hk⟩ := hd
  cases r1
  refine ⟨k, rfl, ?_⟩
  cases k with
  | false =>
    rw [if_neg Bool.false_ne_true] at hk ⊢
    exact ⟨env, w1.M, w1.C, b1, P, by omega, er1, hk, Fin.ext (w := ⟨H, M, C⟩) hf e1 (by omega)⟩
  | true =>
    rw [if_pos rfl] at hk ⊢
    exact hf _ hk b1 w1 _ (by omega) er1 e1 (.bl _)
def wIf (t : WT) (wa wb : WE) : WE := fun env P => t env fun k => if k = true then wa env P else wb env P
theorem de_if (hc : DT X G c ta cc) (ha : DE X G a wa ca) (hb : DE X G b wb cb) : DE X G (.IfExp c a b pos) (wIf ta wa wb) (cc + (ca + cb)) := PE_imp (pe_ifExp hc ha hb) fun σ H Q h => by
  obtain ⟨env, M, C, b0, P, hb0, er, hw, hf⟩ := h
  refine ⟨env, M, C, b0, _, by omega, er, hw, fun k hk b1 w1 hb1 er1 e1 => ?_⟩
  cases k with
  | true =>
    rw [if_pos rfl] at hk ⊢
    exact ⟨env, w1.M, w1.C, b1, P, by omega, er1, hk, Fin.ext (w := ⟨H, M, C⟩) hf e1 (by omega)⟩
  | false =>
    rw [if_neg Bool.false_ne_true] at hk ⊢
    exact ⟨env, w1.M, w1.C, b1, P, by omega, er1, hk, Fin.ext (w := ⟨H, M, C⟩) hf e1 (by omega)⟩
/-! chains: a op b op' c -/
def wChain (f g : D → D → Option D) (wa wb wc : WE) : WE := fun env P => wa env fun x => wb env fun y => ∃ k, (x.val.bind fun a => y.val.bind fun b => f a b) = some (.bool k) ∧ if k = true then wc env fun z => k2 g y z P else P (.fz (.bool false))
theorem rdChain {wc : WE} {f g : D → D → Option D} {σ : L2.St} {H : Hp} {Q : VK} (h : tV G (wChain f g wa wb wc) (ca + cb + cc) σ H Q) : tChain (rV2 f) (rV2 g) (tV G wa ca) (tV G wb cb) (tV G wc cc) σ H Q :=
  tV.twoX h fun {b0} env w x y dx dy P hb0 er rx ry k hf => by
    obtain ⟨kk, e, hk⟩ := k
    obtain ⟨ex, ey, d, h1, h2, h3, _⟩ := k2.get (P := fun v => v = .fz (.bool kk)) ⟨_, e, rfl⟩
    have hd : d = .bool kk := by
      rw [h1, h2] at e
      exact Option.some.inj (h3.symm.trans e)
    subst hd
    refine ⟨w, ex, ey, _, rfl, er.md, rx.rq h1, ry.rq h2, h3, fun v H' s r => ?_⟩
    cases (show Rp ⟨H', w.M, w.C⟩ v (.bool kk) from r)
    refine ⟨kk, rfl, ?_⟩
    cases kk with
    | false =>
      rw [if_neg Bool.false_ne_true] at hk ⊢
      exact (hf.ext (Ext.refl _) (Nat.le_add_right _ _)).rp er hk s (.bl _)
    | true =>
      rw [if_pos rfl] at hk ⊢
      refine ⟨env, w.M, w.C, b0, _, hb0, er.same s, hk, fun dz hz b3 w3 z hb3 er3 e3 r3 => ?_⟩
      obtain ⟨fy, ez, d, q1, q2, q3, p⟩ := k2.get hz
      have ry3 := ry.ext (Hs' := H) ((Ext.same s).trans e3) er.cm fun _ q => q
      exact ⟨w3, fy, ez, d, rfl, er3.md, ry3.rq q1, r3.rq q2, q3, fun v H'' s' r' => (Fin.ext (Fin.ext hf (Ext.same s) (Nat.le_refl _)) e3 hb3).pure er3 p s' r'⟩
theorem de_chain {op op' : CmpOp} {wc : WE} {f g : D → D → Option D} (ho : OpR X (compareOp op) (rV2 f)) (ho' : OpR X (compareOp op') (rV2 g)) (ha : DE X G a wa ca) (hb : DE X G b wb cb) (hc : DE X G c wc cc)
    (hm : lastMarks [op, op'] [b, c] = false := by with_unfolding_all rfl) : DE X G (.Compare a [op, op'] [b, c] pos) (wChain f g wa wb wc) (ca + cb + cc) := PE_imp (pe_chain ho ho' ha hb hc hm) fun _ _ _ h => rdChain h
theorem dt_chain {op op' : CmpOp} {wc : WE} {f g : D → D → Option D} (ho : OpR X (compareOp op) (rV2 f)) (ho' : OpR X (compareOp op') (rV2 g)) (ha : DE X G a wa ca) (hb : DE X G b wb cb) (hc : DE X G c wc cc)
    (hm : lastMarks [op, op'] [b, c] = false := by with_unfolding_all rfl) : DT X G (.Compare a [op, op'] [b, c] pos) (wTest (wChain f g wa wb wc)) (ca + cb + cc) := PT_imp (pt_chain ho ho' ha hb hc hm) fun _ _ _ h => rdChain (tT.of h)
end
end DL
namespace DL
open PySem PySem.Spec PyProof.Rows L2

/-! ### data without dicts: the layer's own relation -/
mutual
theorem Rp.dp {K : PySem.W.Frag} {w : Wd} : ∀ {d : D} {v : V}, Rp w v d → d.canLay0 = true → Dp K w.H v d
  | .none, _, h, _ => by cases h; exact .non
  | .bool b, _, h, _ => by cases h; exact .bl b
  | .int i, _, h, _ => by cases h; exact .int i
  | .str x, _, h, _ => by cases h; exact .str x
  | .list ds, _, h, c => by
    cases h with
    | lst n r q => exact .lst (SqL.of r) (RpL.dp q c)
  | .tuple ds, _, h, c => by
    cases h with
    | tup n r q => exact .tup (SqT.of r) (RpL.dp q c)
  | .dict _, _, _, c => by cases c
theorem RpL.dp {K : PySem.W.Frag} {w : Wd} : ∀ {ds : List D} {vs : List V}, RpL w vs ds → PyData.canLayAll0 ds = true → DpAll K w.H vs ds
  | [], _, h, _ => by cases h; exact .nil
  | d :: ds, _, h, c => by
    rw [PyData.canLayAll0, Bool.and_eq_true] at c
    cases h with
    | cons a b => exact .cons (Rp.dp a c.1) (RpL.dp b c.2)
end
theorem Rq.dp {K : PySem.W.Frag} {w : Wd} {v : V} {d : D} (h : Rq w v d) (c : d.canLay0 = true) : Dp K w.H v d := by
  cases h with
  | non => exact .non
  | bl b => exact .bl b
  | int b => exact .int b
  | str b => exact .str b
  | lst r q => exact .lst (SqL.of r) (RpL.dp q c)
  | tup _ r q => exact .tup (SqT.of r) (RpL.dp q c)
  | dK _ _ _ => cases c
  | dT _ _ _ => cases c

/-! ### arithmetic -/
def addD : D → D → Option D
  | .int i, .int j => some (.int (i + j))
  | .str a, .str b => if a.length + b.length ≤ sizeLine then some (.str (a ++ b)) else none
  | .list a, .list b => if a.length + b.length ≤ sizeLine then some (.list (a ++ b)) else none
  | .tuple a, .tuple b => if a.length + b.length ≤ sizeLine then some (.tuple (a ++ b)) else none
  | _, _ => none
def subD : D → D → Option D
  | .int i, .int j => some (.int (i - j))
  | _, _ => none
/-- a product: one of both within 64 bits; a list or tuple some times -/
def mulD : D → D → Option D
  | .int i, .int j => if ((-(2 ^ 64) < i ∧ i < 2 ^ 64) ∨ (-(2 ^ 64) < j ∧ j < 2 ^ 64)) then some (.int (i * j)) else none
  | .list a, .int k => if -(2 ^ 63) ≤ k ∧ k < 2 ^ 63 ∧ a.length * k.toNat ≤ sizeLine then some (.list (List.replicate k.toNat a).flatten) else none
  | .tuple a, .int k => if a ≠ [] ∧ 2 ≤ k ∧ k ≤ 1000 ∧ a.length ≤ 1000 then some (.tuple (List.replicate k.toNat a).flatten) else none
  | _, _ => none
def modD : D → D → Option D
  | .int i, .int j => if 0 < j then some (.int (i % j)) else none
  | _, _ => none
def fdivD : D → D → Option D
  | .int i, .int j => if 0 < j ∧ j < 1073741824 then some (.int (i / j)) else none
  | _, _ => none
def negD : D → Option D
  | .int i => some (.int (-i))
  | _ => none
section
variable {X : Cx}
theorem newL {w : Wd} {p : Addr} {xs : List V} {ds : List D} (n : w.H p = none) (r : RpL w xs ds) : VN w (upd w.H p (.lst xs)) (.ref p) (.list ds) :=
  ⟨p, rfl, n, .lst upd_same (r.st (st_new n))⟩
theorem newT {w : Wd} (k : Wk w) {p : Addr} {xs : List V} {ds : List D} (n : w.H p = none) (r : RpL w xs ds) : Rp ⟨upd w.H p (.tup xs), w.M, w.C⟩ (.ref p) (.tuple ds) :=
  .tup (fun m => k p m n) upd_same (r.st (St1.same (same_new n)))
theorem RpL.nil_iff {w : Wd} {xs : List V} {ds : List D} (r : RpL w xs ds) : xs = [] ↔ ds = [] := by
  cases r <;> simp
theorem of_if {c : Prop} [Decidable c] {α : Type} {a b : α} (h : (if c then some a else none) = some b) : c ∧ a = b := by
  by_cases hc : c
  · rw [if_pos hc] at h; exact ⟨hc, Option.some.inj h⟩
  · rw [if_neg hc] at h; cases h
theorem op_addD : OpR X (binaryOp .Add) (rV2 addD) := by
  intro pins s σ H x y v u Q I rx ry ⟨w, dx, dy, d, eH, wk, qx, qy, hf, hq⟩
  subst eH
  cases dx with
  | int i =>
    cases dy with
    | int j =>
      cases qx; cases qy; cases hf
      exact op_add pins s σ _ _ _ v u Q I rx ry ⟨i, j, rfl, rfl, hq _ _ (Same.refl _) (.int _)⟩
    | _ => cases hf
  | str i =>
    cases dy with
    | str j =>
      cases qx; cases qy
      obtain ⟨c, rfl⟩ := of_if hf
      exact op_add_str pins s σ _ _ _ v u Q I rx ry ⟨i, j, rfl, rfl, c, hq _ _ (Same.refl _) (.str _)⟩
    | _ => cases hf
  | list a =>
    cases dy with
    | list b =>
      obtain ⟨c, rfl⟩ := of_if hf
      cases qx with
      | lst h1 r1 =>
        cases qy with
        | lst h2 r2 =>
          exact op_cat pins s σ _ _ _ v u Q I rx ry ⟨_, _, _, _, rfl, rfl, h1, h2, by rw [r1.length, r2.length]; exact c, fun p n => hq _ _ (same_new n) (newL n (r1.append r2))⟩
    | _ => cases hf
  | tuple a =>
    cases dy with
    | tuple b =>
      obtain ⟨c, rfl⟩ := of_if hf
      cases qx with
      | tup n1 h1 r1 =>
        cases qy with
        | tup n2 h2 r2 =>
          refine op_catA pins s σ _ _ _ v u Q I rx ry ⟨_, _, _, _, rfl, rfl, SqT.of h1, SqT.of h2, by rw [r1.length, r2.length]; exact c, fun e => ?_, fun e e' => ?_, fun e e' p n => ?_⟩
          · have z := r1.nil_iff.mp e
            subst z
            exact hq _ _ (Same.refl _) (.tup n2 h2 r2)
          · have z := r2.nil_iff.mp e'
            subst z
            exact hq _ _ (Same.refl _) (by rw [List.append_nil]; exact .tup n1 h1 r1)
          · exact hq _ _ (same_new n) (newT wk n (r1.append r2))
    | _ => cases hf
  | _ => cases dy <;> cases hf
theorem op_subD : OpR X (binaryOp .Sub) (rV2 subD) := by
  intro pins s σ H x y v u Q I rx ry ⟨w, dx, dy, d, eH, wk, qx, qy, hf, hq⟩
  subst eH
  cases dx with
  | int i =>
    cases dy with
    | int j =>
      cases qx; cases qy; cases hf
      exact op_sub pins s σ _ _ _ v u Q I rx ry ⟨i, j, rfl, rfl, hq _ _ (Same.refl _) (.int _)⟩
    | _ => cases hf
  | _ => cases dy <;> cases hf
theorem op_mulD : OpR X (binaryOp .Mult) (rV2 mulD) := by
  intro pins s σ H x y v u Q I rx ry ⟨w, dx, dy, d, eH, wk, qx, qy, hf, hq⟩
  subst eH
  cases dx with
  | int i =>
    cases dy with
    | int j =>
      cases qx; cases qy
      obtain ⟨c, rfl⟩ := of_if hf
      exact op_mul pins s σ _ _ _ v u Q I rx ry ⟨i, j, rfl, rfl, c, hq _ _ (Same.refl _) (.int _)⟩
    | _ => cases hf
  | list a =>
    cases dy with
    | int k =>
      obtain ⟨⟨c1, c2, c3⟩, rfl⟩ := of_if hf
      cases qy
      cases qx with
      | lst h1 r1 => exact op_rep pins s σ _ _ _ v u Q I rx ry ⟨_, k, _, rfl, rfl, h1, c1, c2, by rw [r1.length]; exact c3, fun p n => hq _ _ (same_new n) (newL n (r1.rep _))⟩
    | _ => cases hf
  | tuple a =>
    cases dy with
    | int k =>
      cases qy
      cases qx with
      | tup n1 h1 r1 =>
        by_cases hc : a ≠ [] ∧ 2 ≤ k ∧ k ≤ 1000 ∧ a.length ≤ 1000
        · have e : d = .tuple (List.replicate k.toNat a).flatten := by
            simp only [mulD, if_pos hc] at hf
            exact (Option.some.inj hf).symm
          subst e
          exact op_repT pins s σ _ _ _ v u Q I rx ry ⟨_, k, _, rfl, rfl, SqT.of h1, fun z => hc.1 (r1.nil_iff.mp z), hc.2.1, hc.2.2.1, by rw [r1.length]; exact hc.2.2.2, fun p n => hq _ _ (same_new n) (newT wk n (r1.rep _))⟩
        · simp only [mulD, if_neg hc] at hf
          cases hf
    | _ => cases hf
  | _ => cases dy <;> cases hf
theorem op_modD : OpR X (binaryOp .Mod) (rV2 modD) := by
  intro pins s σ H x y v u Q I rx ry ⟨w, dx, dy, d, eH, wk, qx, qy, hf, hq⟩
  subst eH
  cases dx with
  | int i =>
    cases dy with
    | int j =>
      cases qx; cases qy
      obtain ⟨c, rfl⟩ := of_if hf
      exact op_mod pins s σ _ _ _ v u Q I rx ry ⟨i, j, rfl, rfl, c, hq _ _ (Same.refl _) (.int _)⟩
    | _ => cases hf
  | _ => cases dy <;> cases hf
theorem op_fdivD : OpR X (binaryOp .FloorDiv) (rV2 fdivD) := by
  intro pins s σ H x y v u Q I rx ry ⟨w, dx, dy, d, eH, wk, qx, qy, hf, hq⟩
  subst eH
  cases dx with
  | int i =>
    cases dy with
    | int j =>
      cases qx; cases qy
      obtain ⟨c, rfl⟩ := of_if hf
      exact op_fdiv pins s σ _ _ _ v u Q I rx ry ⟨i, j, rfl, rfl, c, hq _ _ (Same.refl _) (.int _)⟩
    | _ => cases hf
  | _ => cases dy <;> cases hf

/-! ### comparisons -/
def eqS : D → D → Option Bool
  | .str x, .str y => some (decide (x = y))
  | _, _ => none
def eqD (a b : D) : Option D := if SeqAt.shaped a = true ∧ SeqAt.shaped b = true then some (.bool (a.eqv b)) else (eqS a b).map fun k => .bool k
def neD (a b : D) : Option D := if SeqAt.shaped a = true ∧ SeqAt.shaped b = true then some (.bool (!a.eqv b)) else (eqS a b).map fun k => .bool (!k)
theorem eqS_get {a b : D} {k : Bool} (h : eqS a b = some k) : ∃ x y, a = .str x ∧ b = .str y ∧ k = decide (x = y) := by
  unfold eqS at h
  split at h
  · cases h; exact ⟨_, _, rfl, rfl, rfl⟩
  · cases h
theorem op_eqDD (hu : X.A.units + 64 < cLine) : OpR X (compareOp .Eq) (rV2 eqD) := by
  intro pins s σ H x y v u Q I rx ry ⟨w, dx, dy, d, eH, wk, qx, qy, hf, hq⟩
  subst eH
  unfold eqD at hf
  by_cases c : SeqAt.shaped dx = true ∧ SeqAt.shaped dy = true
  · rw [if_pos c] at hf; cases hf
    exact op_eqD hu pins s σ _ _ _ v u Q I rx ry ⟨dx, dy, qx.dp (SeqAt.canLay_of_shaped c.1), qy.dp (SeqAt.canLay_of_shaped c.2), c.1, c.2, hq _ _ (Same.refl _) (.bl _)⟩
  · rw [if_neg c] at hf
    obtain ⟨k, h1, rfl⟩ := Option.map_eq_some_iff.mp hf
    obtain ⟨i, j, rfl, rfl, rfl⟩ := eqS_get h1
    cases qx; cases qy
    exact op_eq pins s σ _ _ _ v u Q I rx ry ⟨rfl, by rw [show decide (V.str i = V.str j) = decide (i = j) by simp]; exact hq _ _ (Same.refl _) (.bl _)⟩
theorem op_neDD (hu : X.A.units + 64 < cLine) : OpR X (compareOp .NotEq) (rV2 neD) := by
  intro pins s σ H x y v u Q I rx ry ⟨w, dx, dy, d, eH, wk, qx, qy, hf, hq⟩
  subst eH
  unfold neD at hf
  by_cases c : SeqAt.shaped dx = true ∧ SeqAt.shaped dy = true
  · rw [if_pos c] at hf; cases hf
    exact op_neD hu pins s σ _ _ _ v u Q I rx ry ⟨dx, dy, qx.dp (SeqAt.canLay_of_shaped c.1), qy.dp (SeqAt.canLay_of_shaped c.2), c.1, c.2, hq _ _ (Same.refl _) (.bl _)⟩
  · rw [if_neg c] at hf
    obtain ⟨k, h1, rfl⟩ := Option.map_eq_some_iff.mp hf
    obtain ⟨i, j, rfl, rfl, rfl⟩ := eqS_get h1
    cases qx; cases qy
    exact op_ne pins s σ _ _ _ v u Q I rx ry ⟨rfl, by rw [show decide (V.str i = V.str j) = decide (i = j) by simp]; exact hq _ _ (Same.refl _) (.bl _)⟩
theorem eq_strs (x y : Str) : eqD (.str x) (.str y) = some (.bool (decide (x = y))) := by
  unfold eqD
  by_cases c : SeqAt.shaped (.str x) = true ∧ SeqAt.shaped (.str y) = true
  · rw [if_pos c]
    congr 2
  · rw [if_neg c]; rfl
theorem ne_strs (x y : Str) : neD (.str x) (.str y) = some (.bool (!decide (x = y))) := by
  unfold neD
  by_cases c : SeqAt.shaped (.str x) = true ∧ SeqAt.shaped (.str y) = true
  · rw [if_pos c]
    congr 3
  · rw [if_neg c]; rfl
/-- the ints of a tuple of ints -/
def intsOf : List D → Option (List Int)
  | [] => some []
  | .int i :: r => (intsOf r).map (i :: ·)
  | _ :: _ => none
theorem intsOf_rp {w : Wd} : ∀ {ds : List D} {vs : List V} {ns : List Int}, intsOf ds = some ns → RpL w vs ds → vs = ns.map V.int
  | [], _, _, e, r => by cases e; cases r; rfl
  | d :: ds, _, ns, e, r => by
    cases d with
    | int i =>
      simp only [intsOf, Option.map_eq_some_iff] at e
      obtain ⟨ms, e1, rfl⟩ := e
      cases r with
      | cons a b =>
        cases a
        rw [intsOf_rp e1 b]
        rfl
    | _ => cases e
def ltD : D → D → Option D
  | .int i, .int j => some (.bool (decide (i < j)))
  | .str i, .str j => some (.bool (decide (i.cps.toList < j.cps.toList)))
  | .tuple a, .tuple b => match intsOf a, intsOf b with
    | some ns, some ms => some (.bool (HT.lexLt ns ms))
    | _, _ => none
  | _, _ => none
def cmpI (p : Int → Int → Bool) : D → D → Option D
  | .int i, .int j => some (.bool (p i j))
  | _, _ => none
def leD : D → D → Option D := cmpI fun i j => decide (i ≤ j)
def gtD : D → D → Option D := cmpI fun i j => decide (j < i)
def geD : D → D → Option D := cmpI fun i j => decide (j ≤ i)
theorem op_cmpI {op : CmpOp} {p : Int → Int → Bool} (ho : OpR X (compareOp op) (rI0 fun i j => .bl (p i j))) : OpR X (compareOp op) (rV2 (cmpI p)) := by
  intro pins s σ H x y v u Q I rx ry ⟨w, dx, dy, d, eH, wk, qx, qy, hf, hq⟩
  subst eH
  cases dx with
  | int i =>
    cases dy with
    | int j =>
      cases qx; cases qy; cases hf
      exact ho pins s σ _ _ _ v u Q I rx ry ⟨i, j, rfl, rfl, hq _ _ (Same.refl _) (.bl _)⟩
    | _ => cases hf
  | _ => cases dy <;> cases hf
theorem op_leD : OpR X (compareOp .LtE) (rV2 leD) := op_cmpI op_le
theorem op_gtD : OpR X (compareOp .Gt) (rV2 gtD) := op_cmpI op_gt
theorem op_geD : OpR X (compareOp .GtE) (rV2 geD) := op_cmpI op_ge
theorem op_ltD (hu : X.A.units < cLine) : OpR X (compareOp .Lt) (rV2 ltD) := by
  intro pins s σ H x y v u Q I rx ry ⟨w, dx, dy, d, eH, wk, qx, qy, hf, hq⟩
  subst eH
  cases dx with
  | int i =>
    cases dy with
    | int j =>
      cases qx; cases qy; cases hf
      exact op_lt pins s σ _ _ _ v u Q I rx ry ⟨i, j, rfl, rfl, hq _ _ (Same.refl _) (.bl _)⟩
    | _ => cases hf
  | str i =>
    cases dy with
    | str j =>
      cases qx; cases qy; cases hf
      exact op_lt_str pins s σ _ _ _ v u Q I rx ry ⟨i, j, rfl, rfl, hq _ _ (Same.refl _) (.bl _)⟩
    | _ => cases hf
  | tuple a =>
    cases dy with
    | tuple b =>
      cases ha : intsOf a with
      | none => simp only [ltD, ha] at hf; cases hf
      | some ns =>
        cases hb : intsOf b with
        | none => simp only [ltD, ha, hb] at hf; cases hf
        | some ms =>
          simp only [ltD, ha, hb] at hf
          cases hf
          cases qx with
          | tup n1 h1 r1 =>
            cases qy with
            | tup n2 h2 r2 =>
              have e1 := intsOf_rp ha r1
              have e2 := intsOf_rp hb r2
              subst e1 e2
              exact op_ltT hu pins s σ _ _ _ v u Q I rx ry ⟨_, _, ns, ms, rfl, rfl, SqT.of h1, SqT.of h2, hq _ _ (Same.refl _) (.bl _)⟩
    | _ => cases hf
  | _ => cases dy <;> cases hf
/-- is, is not: None on the right, or two truth values -/
def isNone : D → Bool
  | .none => true
  | _ => false
def isD : D → D → Option D
  | .bool a, .bool b => some (.bool (a == b))
  | d, .none => some (.bool (isNone d))
  | _, _ => none
def isNotD : D → D → Option D
  | .bool a, .bool b => some (.bool (!(a == b)))
  | d, .none => some (.bool (!isNone d))
  | _, _ => none
theorem Rq.isN {w : Wd} {v : V} {d : D} (h : Rq w v d) : decide (v = .non) = isNone d := by
  cases h <;> rfl
theorem op_isD : OpR X (compareOp .Is) (rV2 isD) := by
  intro pins s σ H x y v u Q I rx ry ⟨w, dx, dy, d, eH, wk, qx, qy, hf, hq⟩
  subst eH
  cases dy with
  | none =>
    cases qy
    have e : d = .bool (isNone dx) := by cases dx <;> (cases hf; rfl)
    subst e
    refine op_isN pins s σ _ _ _ v u Q I rx ry ⟨rfl, ?_⟩
    rw [qx.isN]
    exact hq _ _ (Same.refl _) (.bl _)
  | bool b =>
    cases dx with
    | bool a =>
      cases qx; cases qy; cases hf
      refine op_is_bl pins s σ _ _ _ v u Q I rx ry ⟨a, b, rfl, rfl, ?_⟩
      have := hq (.bl (a == b)) _ (Same.refl _) (.bl _)
      rwa [← Bool.beq_eq_decide_eq]
    | _ => cases hf
  | _ => cases dx <;> cases hf
theorem op_isNotD : OpR X (compareOp .IsNot) (rV2 isNotD) := by
  intro pins s σ H x y v u Q I rx ry ⟨w, dx, dy, d, eH, wk, qx, qy, hf, hq⟩
  subst eH
  cases dy with
  | none =>
    cases qy
    have e : d = .bool (!isNone dx) := by cases dx <;> (cases hf; rfl)
    subst e
    refine op_notN pins s σ _ _ _ v u Q I rx ry ⟨rfl, ?_⟩
    rw [qx.isN]
    exact hq _ _ (Same.refl _) (.bl _)
  | bool b =>
    cases dx with
    | bool a =>
      cases qx; cases qy; cases hf
      refine op_isnot_bl pins s σ _ _ _ v u Q I rx ry ⟨a, b, rfl, rfl, ?_⟩
      have := hq (.bl (!(a == b))) _ (Same.refl _) (.bl _)
      rwa [← Bool.beq_eq_decide_eq]
    | _ => cases hf
  | _ => cases dx <;> cases hf
end
end DL
namespace DL
open PySem PySem.Spec PyProof.Rows L2

/-! ### dicts as lists of pairs of data -/
def dlook (es : List (D × D)) (k : D) : Option D := (es.find? fun p => p.1.eqv k).map (·.2)
def dput (es : List (D × D)) (k v : D) : List (D × D) := if (es.any fun p => p.1.eqv k) = true then es.map (fun p => if p.1.eqv k = true then (p.1, v) else p) else es ++ [(k, v)]
def tD (ks : List Key) : D := .tuple (ks.map kD)
theorem kD_eqv (a b : Key) : (kD a).eqv (kD b) = decide (a = b) := by
  cases a with
  | inl i =>
    cases b with
    | inl j =>
      show (i == j) = _
      by_cases h : i = j
      · subst h; simp
      · rw [decide_eq_false fun z => h (Sum.inl.inj z)]; exact beq_eq_false_iff_ne.mpr h
    | inr y => rw [decide_eq_false fun z => nomatch z]; simp [kD, PyData.eqv]
  | inr x =>
    cases b with
    | inl j => rw [decide_eq_false fun z => nomatch z]; simp [kD, PyData.eqv]
    | inr y =>
      simp only [kD, PyData.eqv]
      by_cases h : x = y
      · subst h; simp
      · rw [decide_eq_false fun z => h (Sum.inr.inj z)]; exact beq_eq_false_iff_ne.mpr h
theorem tD_eqvAll : ∀ a b : List Key, PyData.eqvAll (a.map kD) (b.map kD) = decide (a = b)
  | [], [] => by simp [PyData.eqvAll]
  | [], _ :: _ => by simp [PyData.eqvAll]
  | _ :: _, [] => by simp [PyData.eqvAll]
  | x :: a, y :: b => by
    simp only [List.map_cons, PyData.eqvAll, kD_eqv, tD_eqvAll a b]
    by_cases h1 : x = y <;> by_cases h2 : a = b <;> simp [h1, h2]
theorem tD_eqv (a b : List Key) : (tD a).eqv (tD b) = decide (a = b) := by simp only [tD, PyData.eqv, tD_eqvAll]
section
variable {κ : Type} [DecidableEq κ] {enc : κ → D} (he : ∀ a b, (enc a).eqv (enc b) = decide (a = b)) {w : Wd}
include he
theorem look_of : ∀ (kvs : List (κ × V)) (es : List (D × D)) (k : κ), es.map (·.1) = kvs.map (fun p => enc p.1) → RpL w (kvs.map (·.2)) (es.map (·.2)) →
    (∃ v d, valV kvs k = some v ∧ dlook es (enc k) = some d ∧ Rp w v d) ∨ (valV kvs k = none ∧ dlook es (enc k) = none)
  | [], es, k, e, _ => by
    cases es with
    | nil => exact .inr ⟨rfl, rfl⟩
    | cons p r => simp at e
  | (k', v) :: kvs, es, k, e, r => by
    cases es with
    | nil => simp at e
    | cons p es =>
      obtain ⟨pk, pd⟩ := p
      simp only [List.map_cons, List.cons.injEq] at e
      obtain ⟨e1, e2⟩ := e
      subst e1
      cases r with
      | cons r1 r2 =>
        by_cases h : k' = k
        · refine .inl ⟨v, pd, valV_pos h, ?_, r1⟩
          simp [dlook, List.find?_cons, he, h]
        · have q := look_of kvs es k e2 r2
          rw [valV_neg (p := (k', v)) h]
          have z : dlook ((enc k', pd) :: es) (enc k) = dlook es (enc k) := by simp [dlook, List.find?_cons, he, h]
          rw [z]
          exact q
theorem any_of : ∀ (kvs : List (κ × V)) (es : List (D × D)) (k : κ), es.map (·.1) = kvs.map (fun p => enc p.1) → (es.any fun p => p.1.eqv (enc k)) = kvs.any fun p => decide (p.1 = k)
  | [], es, k, e => by
    cases es with
    | nil => rfl
    | cons p r => simp at e
  | (k', v) :: kvs, es, k, e => by
    cases es with
    | nil => simp at e
    | cons p es =>
      obtain ⟨pk, pd⟩ := p
      simp only [List.map_cons, List.cons.injEq] at e
      obtain ⟨e1, e2⟩ := e
      subst e1
      simp only [List.any_cons, he, any_of kvs es k e2]
theorem put_keys (kvs : List (κ × V)) (es : List (D × D)) (k : κ) (v : V) (d : D) (e : es.map (·.1) = kvs.map (fun p => enc p.1)) : (dput es (enc k) d).map (·.1) = (putK kvs k v).map (fun p => enc p.1) := by
  unfold dput putK
  rw [any_of he kvs es k e]
  by_cases h : (kvs.any fun p => decide (p.1 = k)) = true
  · rw [if_pos h, if_pos h, List.map_map, List.map_map]
    have a : ((fun p : D × D => p.1) ∘ fun p => if p.1.eqv (enc k) = true then (p.1, d) else p) = fun p => p.1 := by funext p; simp only [Function.comp]; split <;> rfl
    have b : ((fun p : κ × V => enc p.1) ∘ fun p => if p.1 = k then (p.1, v) else p) = fun p => enc p.1 := by funext p; simp only [Function.comp]; split <;> rfl
    rw [a, b, e]
  · rw [if_neg h, if_neg h, List.map_append, List.map_append, e]
    rfl
theorem put_vals {v : V} {d : D} (r : Rp w v d) (kvs : List (κ × V)) (es : List (D × D)) (k : κ) (e : es.map (·.1) = kvs.map (fun p => enc p.1)) (q : RpL w (kvs.map (·.2)) (es.map (·.2))) : RpL w ((putK kvs k v).map (·.2)) ((dput es (enc k) d).map (·.2)) := by
  unfold dput putK
  rw [any_of he kvs es k e]
  by_cases h : (kvs.any fun p => decide (p.1 = k)) = true
  · rw [if_pos h, if_pos h]
    clear h
    induction kvs generalizing es with
    | nil =>
      cases es with
      | nil => exact .nil
      | cons p r => simp at e
    | cons p kvs ih =>
      cases es with
      | nil => simp at e
      | cons p' es =>
        obtain ⟨k', v'⟩ := p
        obtain ⟨pk, pd⟩ := p'
        simp only [List.map_cons, List.cons.injEq] at e
        obtain ⟨e1, e2⟩ := e
        subst e1
        cases q with
        | cons q1 q2 =>
          have t := ih es e2 q2
          simp only [List.map_cons, he]
          by_cases z : k' = k
          · simp only [z, decide_true, if_true]
            exact .cons r t
          · simp only [z, decide_false, if_false]
            exact .cons q1 t
  · rw [if_neg h, if_neg h, List.map_append, List.map_append]
    exact q.append (.cons r .nil)
end
/-- the key of a dict: an int or a text; a tuple of such -/
def keyD? : D → Option Key
  | .int i => some (.inl i)
  | .str x => some (.inr x)
  | _ => none
def keysD? : List D → Option (List Key)
  | [] => some []
  | d :: r => (keyD? d).bind fun k => (keysD? r).map (k :: ·)
theorem keyD?_eq {d : D} {k : Key} (h : keyD? d = some k) : d = kD k := by
  cases d <;> first | (cases h; rfl) | cases h
theorem keysD?_eq : ∀ {ds : List D} {ks : List Key}, keysD? ds = some ks → ds = ks.map kD
  | [], _, h => by cases h; rfl
  | d :: r, ks, h => by
    simp only [keysD?, Option.bind_eq_some_iff, Option.map_eq_some_iff] at h
    obtain ⟨k, h1, ks', h2, rfl⟩ := h
    rw [keyD?_eq h1, keysD?_eq h2]
    rfl
theorem Rq.key {w : Wd} {v : V} {k : Key} (h : Rq w v (kD k)) : v = kV k := by
  cases k with
  | inl i => cases h; rfl
  | inr x => cases h; rfl
theorem Rp.key {w : Wd} {v : V} {k : Key} (h : Rp w v (kD k)) : v = kV k := by
  cases k with
  | inl i => cases h; rfl
  | inr x => cases h; rfl
theorem RpL.keys {w : Wd} : ∀ {ks : List Key} {vs : List V}, RpL w vs (ks.map kD) → vs = ks.map kV
  | [], _, h => by cases h; rfl
  | k :: ks, _, h => by
    cases h with
    | cons a b => rw [a.key, RpL.keys b]; rfl
/-! the empty dict takes keys of both kinds -/
section
variable {X : Cx} {pins : List (Addr × Obj)} {σ : L2.St} {H : Hp} {s : Shared} {a b : Addr} {A : Around} {E : Value → Shared → Prop}
theorem dK0 (I : Inv X pins σ H s) (e : Rd H a (.dK [])) : (a == sysModules) = false ∧ s.heap.DictOfH (tupleKind (mixKind X.prog X.w)) a [] := by
  obtain ⟨_, hd, vs, rel, o, es, ep, h1, h2, h3, h4, h5, h6⟩ := dk_rd I.hok e
  cases rel
  have z : es.toList = [] := by
    generalize es.toList = l at h5
    cases h5; rfl
  exact ⟨hd, o, es, ep, h1, h2, h3, z, fun x hx => (List.not_mem_nil hx).elim, List.nodup_nil⟩
theorem dT0 (I : Inv X pins σ H s) (e : Rd H a (.dT [])) : (a == sysModules) = false ∧ s.heap.DictOf (mixKind X.prog X.w) a [] := by
  obtain ⟨_, hd, xs, rel, o, es, ep, h1, h2, h3, h4, h5, h6⟩ := dt_rd I.hok e
  cases rel
  have z : es = #[] := by simpa using h4
  subst z
  exact ⟨hd, o, #[], ep, h1, h2, h3, fun e he => by simp at he, Pairs.nil, List.nodup_nil⟩
/-- what the dict at a has at the key y, the empty one of any kind -/
def DG (H : Hp) (a : Addr) (y : V) (r : Option V) : Prop :=
  DGet H a y r ∨ (Rd H a (.dK []) ∧ (∃ (b : Addr) (k : List Key), y = .ref b ∧ H b = some (.tup (k.map kV))) ∧ r = none) ∨ (Rd H a (.dT []) ∧ (∃ k : Key, y = kV k) ∧ r = none)
theorem g_in {y : V} {u : Value} {o : Option V} {Q : Value → Shared → Prop} (hu : A.units + 1 < cLine) (I : Inv X pins σ H s) (g : DG H a y o) (ry : RelV y u) (h : ∀ s', Inv X pins σ H s' → Q (.bool o.isSome) s') :
    wpAny (model X.prog X.w) A (compareOp .In u (.ref a)) Q E s := by
  rcases g with g | ⟨e, ⟨b, k, rfl, eb⟩, rfl⟩ | ⟨e, ⟨k, rfl⟩, rfl⟩
  · exact d_in hu I g ry h
  · cases (show u = Value.ref b from ry)
    obtain ⟨hd, dd⟩ := dK0 I e
    exact wpAny_in_heap (tupleKind_room_in1 hu) (key_of I.hok eb) hd dd (h _ (I.tok _))
  · obtain ⟨hd, dd⟩ := dT0 I e
    exact wpAny_in_of (kV_is ry) hd dd.mapOf (h _ (I.tok _))
theorem g_notIn {y : V} {u : Value} {o : Option V} {Q : Value → Shared → Prop} (hu : A.units + 1 < cLine) (I : Inv X pins σ H s) (g : DG H a y o) (ry : RelV y u) (h : ∀ s', Inv X pins σ H s' → Q (.bool (!o.isSome)) s') :
    wpAny (model X.prog X.w) A (compareOp .NotIn u (.ref a)) Q E s := by
  rcases g with g | ⟨e, ⟨b, k, rfl, eb⟩, rfl⟩ | ⟨e, ⟨k, rfl⟩, rfl⟩
  · exact d_notIn hu I g ry h
  · cases (show u = Value.ref b from ry)
    obtain ⟨hd, dd⟩ := dK0 I e
    exact wpAny_notIn_heap (tupleKind_room_in1 hu) (key_of I.hok eb) hd dd (h _ (I.tok _))
  · obtain ⟨hd, dd⟩ := dT0 I e
    exact wpAny_notIn_of (kV_is ry) hd dd.mapOf (h _ (I.tok _))
theorem g_get2 {y d : V} {u r : Value} {o : Option V} {Q : Value → Shared → Prop} (hu : A.units + 1 < cLine) (I : Inv X pins σ H s) (g : DG H a y o) (ry : RelV y u) (rd : RelV d r) (h : ∀ w' s', Inv X pins σ H s' → RelV (o.getD d) w' → Q w' s') :
    wpAny (model X.prog X.w) A (call (.builtin "dict.get") [.ref a, u, r]) Q E s := by
  rcases g with g | ⟨e, ⟨b, k, rfl, eb⟩, rfl⟩ | ⟨e, ⟨k, rfl⟩, rfl⟩
  · exact d_get2 hu I g ry rd h
  · cases (show u = Value.ref b from ry)
    obtain ⟨hd, dd⟩ := dK0 I e
    exact call_meetsIn PySem.F.slot_dict_get dd.typeIs PySem.F.entry_dict_get (PySem.F.args_dict_get_3 _ _ _) (meetsH_dict_get_default (tupleKind (mixKind X.prog X.w)) a b hd r) ⟨tupleKind_room_in1 hu, k, [], key_of I.hok eb, dd, h _ _ (I.tok _) rd⟩
  · obtain ⟨hd, dd⟩ := dT0 I e
    exact call_meetsIn PySem.F.slot_dict_get dd.typeIs PySem.F.entry_dict_get (PySem.F.args_dict_get_3 _ _ _) (meets_dict_get_default (mixKind X.prog X.w) a (kV_is ry) hd r) ⟨_, dd.mapOf, h _ _ (I.tok _) rd⟩
end
def isT : D → Bool
  | .tuple _ => true
  | _ => false
/-- a look for the key k: some r if the key is of a kind that the dict's keys are of -/
def dfind (es : List (D × D)) (k : D) : Option (Option D) :=
  match k with
  | .tuple ds => (keysD? ds).bind fun _ => if (es.all fun p => isT p.1) = true then some (dlook es k) else none
  | d => (keyD? d).bind fun _ => if (es.all fun p => !isT p.1) = true then some (dlook es k) else none
theorem dfind_dg {w : Wd} {a : Addr} {v : V} {es : List (D × D)} {k : D} {r : Option D} (h : Rq w (.ref a) (.dict es)) (hk : Rq w v k) (e : dfind es k = some r) :
    (∃ u d, DG w.H a v (some u) ∧ r = some d ∧ Rp w u d) ∨ (DG w.H a v none ∧ r = none) := by
  have notT : ∀ q : Key, isT (kD q) = false := fun q => by cases q <;> rfl
  have plain : ∀ q : Key, k = kD q → dfind es k = (if (es.all fun p => !isT p.1) = true then some (dlook es k) else none) := fun q z => by subst z; cases q <;> rfl
  cases hT : isT k with
  | true =>
    cases k with
    | tuple ds =>
      simp only [dfind, Option.bind_eq_some_iff] at e
      obtain ⟨ks, e1, e⟩ := e
      obtain ⟨c, rfl⟩ := of_if e
      have e2 := keysD?_eq e1
      subst e2
      cases hk with
      | @tup b xs _ nb hb rb =>
        have ex := RpL.keys rb
        subst ex
        cases h with
        | @dK _ kvs _ hr hks hvs =>
          cases es with
          | nil =>
            cases kvs with
            | nil => exact .inr ⟨.inr (.inl ⟨hr, ⟨b, ks, rfl, hb⟩, rfl⟩), rfl⟩
            | cons p r => simp at hks
          | cons p es =>
            cases kvs with
            | nil => simp at hks
            | cons q kvs =>
              simp only [List.map_cons, List.cons.injEq] at hks
              simp only [List.all_cons, Bool.and_eq_true, hks.1, notT] at c
              cases c.1
        | @dT _ kvs _ hr hks hvs =>
          rcases look_of (enc := tD) tD_eqv kvs es ks hks hvs with ⟨u, d, g1, g2, g3⟩ | ⟨g1, g2⟩
          · exact .inl ⟨u, d, .inl (.inr ⟨kvs, ks, b, hr, rfl, hb, g1.symm⟩), g2, g3⟩
          · exact .inr ⟨.inl (.inr ⟨kvs, ks, b, hr, rfl, hb, g1.symm⟩), g2⟩
    | _ => cases hT
  | false =>
    have hq : ∃ q, k = kD q := by
      cases k with
      | int i => exact ⟨.inl i, rfl⟩
      | str x => exact ⟨.inr x, rfl⟩
      | tuple ds => cases hT
      | none => cases e
      | bool _ => cases e
      | list _ => cases e
      | dict _ => cases e
    obtain ⟨q, rfl⟩ := hq
    rw [plain q rfl] at e
    obtain ⟨c, rfl⟩ := of_if e
    have ev := hk.key
    subst ev
    cases h with
    | @dK _ kvs _ hr hks hvs =>
      rcases look_of (enc := kD) kD_eqv kvs es q hks hvs with ⟨u, d, g1, g2, g3⟩ | ⟨g1, g2⟩
      · exact .inl ⟨u, d, .inl (.inl ⟨kvs, q, hr, rfl, g1.symm⟩), g2, g3⟩
      · exact .inr ⟨.inl (.inl ⟨kvs, q, hr, rfl, g1.symm⟩), g2⟩
    | @dT _ kvs _ hr hks hvs =>
      cases es with
      | nil =>
        cases kvs with
        | nil => exact .inr ⟨.inr (.inr ⟨hr, ⟨q, rfl⟩, rfl⟩), rfl⟩
        | cons p r => simp at hks
      | cons p es =>
        cases kvs with
        | nil => simp at hks
        | cons q' kvs =>
          simp only [List.map_cons, List.cons.injEq] at hks
          simp only [List.all_cons, Bool.and_eq_true, hks.1, isT] at c
          cases c.1

/-! ### in, not in -/
def inD : D → D → Option Bool
  | d, .list ds => if SeqAt.shaped d = true ∧ SeqAt.shaped (.list ds) = true then some (ds.any fun z => z.eqv d) else none
  | d, .tuple ds => if SeqAt.shaped d = true ∧ SeqAt.shaped (.tuple ds) = true then some (ds.any fun z => z.eqv d) else none
  | d, .dict es => (dfind es d).map Option.isSome
  | .str x, .str y => some (!(Builtin.Str.occurrences y x 0 y.length 1).isEmpty)
  | _, _ => none
def inV' (a b : D) : Option D := (inD a b).map fun k => .bool k
def notInV (a b : D) : Option D := (inD a b).map fun k => .bool (!k)
section
variable {X : Cx}
theorem op_inDD (hu : X.A.units + 65 < cLine) : OpR X (compareOp .In) (rV2 inV') := by
  intro pins s σ H x y v u Q I rx ry ⟨w, dx, dy, d, eH, wk, qx, qy, hf, hq⟩
  subst eH
  obtain ⟨k, hk, rfl⟩ := Option.map_eq_some_iff.mp hf
  have fin : Q (.bl k) w.H := hq _ _ (Same.refl _) (.bl _)
  cases dy with
  | list ds =>
    obtain ⟨c, rfl⟩ := of_if (show (if SeqAt.shaped dx = true ∧ SeqAt.shaped (.list ds) = true then some (ds.any fun z => z.eqv dx) else none) = some k by cases dx <;> exact hk)
    exact op_inD hu pins s σ _ _ _ v u Q I rx ry ⟨dx, ds, qx.dp (SeqAt.canLay_of_shaped c.1), qy.dp (SeqAt.canLay_of_shaped c.2), c.1, c.2, fin⟩
  | tuple ds =>
    obtain ⟨c, rfl⟩ := of_if (show (if SeqAt.shaped dx = true ∧ SeqAt.shaped (.tuple ds) = true then some (ds.any fun z => z.eqv dx) else none) = some k by cases dx <;> exact hk)
    obtain ⟨as, r1⟩ := Dp.reads I dx x v (qx.dp (SeqAt.canLay_of_shaped c.1)) rx
    obtain ⟨bs, r2⟩ := Dp.reads I (.tuple ds) y u (qy.dp (SeqAt.canLay_of_shaped c.2)) ry
    exact SeqAt.in_tuple_reads r2 r1 (SeqAt.canLay_of_shaped c.2) (SeqAt.canLay_of_shaped c.1) (room_in_shaped c.1 hu) ⟨.bl _, _, I, rfl, fin⟩
  | dict es =>
    obtain ⟨r, e1, rfl⟩ := Option.map_eq_some_iff.mp (show (dfind es dx).map Option.isSome = some k by cases dx <;> exact hk)
    obtain ⟨a, rfl⟩ : ∃ a, y = .ref a := by cases qy <;> exact ⟨_, rfl⟩
    cases (show u = Value.ref a from ry)
    rcases dfind_dg qy qx e1 with ⟨z, d', g, rfl, _⟩ | ⟨g, rfl⟩
    · exact g_in (by omega) I g rx fun s' I' => ⟨.bl true, _, I', rfl, fin⟩
    · exact g_in (by omega) I g rx fun s' I' => ⟨.bl false, _, I', rfl, fin⟩
  | str j =>
    cases dx with
    | str i =>
      cases qx; cases qy; cases hk
      exact op_in_str pins s σ _ _ _ v u Q I rx ry ⟨i, j, rfl, rfl, fin⟩
    | _ => cases hk
  | _ => cases dx <;> cases hk
theorem op_notInDD (hu : X.A.units + 65 < cLine) : OpR X (compareOp .NotIn) (rV2 notInV) := by
  intro pins s σ H x y v u Q I rx ry ⟨w, dx, dy, d, eH, wk, qx, qy, hf, hq⟩
  subst eH
  obtain ⟨k, hk, rfl⟩ := Option.map_eq_some_iff.mp hf
  have fin : Q (.bl (!k)) w.H := hq _ _ (Same.refl _) (.bl _)
  cases dy with
  | list ds =>
    obtain ⟨c, rfl⟩ := of_if (show (if SeqAt.shaped dx = true ∧ SeqAt.shaped (.list ds) = true then some (ds.any fun z => z.eqv dx) else none) = some k by cases dx <;> exact hk)
    exact op_notInD hu pins s σ _ _ _ v u Q I rx ry ⟨dx, ds, qx.dp (SeqAt.canLay_of_shaped c.1), qy.dp (SeqAt.canLay_of_shaped c.2), c.1, c.2, fin⟩
  | tuple ds =>
    obtain ⟨c, rfl⟩ := of_if (show (if SeqAt.shaped dx = true ∧ SeqAt.shaped (.tuple ds) = true then some (ds.any fun z => z.eqv dx) else none) = some k by cases dx <;> exact hk)
    obtain ⟨as, r1⟩ := Dp.reads I dx x v (qx.dp (SeqAt.canLay_of_shaped c.1)) rx
    obtain ⟨bs, r2⟩ := Dp.reads I (.tuple ds) y u (qy.dp (SeqAt.canLay_of_shaped c.2)) ry
    exact SeqAt.notIn_tuple_reads r2 r1 (SeqAt.canLay_of_shaped c.2) (SeqAt.canLay_of_shaped c.1) (room_in_shaped c.1 hu) ⟨.bl _, _, I, rfl, fin⟩
  | dict es =>
    obtain ⟨r, e1, rfl⟩ := Option.map_eq_some_iff.mp (show (dfind es dx).map Option.isSome = some k by cases dx <;> exact hk)
    obtain ⟨a, rfl⟩ : ∃ a, y = .ref a := by cases qy <;> exact ⟨_, rfl⟩
    cases (show u = Value.ref a from ry)
    rcases dfind_dg qy qx e1 with ⟨z, d', g, rfl, _⟩ | ⟨g, rfl⟩
    · exact g_notIn (by omega) I g rx fun s' I' => ⟨.bl false, _, I', rfl, fin⟩
    · exact g_notIn (by omega) I g rx fun s' I' => ⟨.bl true, _, I', rfl, fin⟩
  | str j =>
    cases dx with
    | str i =>
      cases qx; cases qy; cases hk
      exact op_notIn_str pins s σ _ _ _ v u Q I rx ry ⟨i, j, rfl, rfl, fin⟩
    | _ => cases hk
  | _ => cases dx <;> cases hk

/-! ### subscripts -/
def ixD : D → D → Option D
  | .list ds, .int i => atI ds i
  | .tuple ds, .int i => atI ds i
  | .str z, .int i => if z.length ≤ sizeLine then (atI z.cps.toList i).map fun c => .str ⟨#[c]⟩ else none
  | .dict es, k => (dfind es k).bind id
  | _, _ => none
def kE (f : D → D → Option D) (x y : Dv) (P : Dv → Prop) : Prop := ∃ d, (x.val.bind fun a => y.val.bind fun b => f a b) = some d ∧ P (.fz d)
def wIx (wa wb : WE) : WE := fun env P => wa env fun x => wb env fun y => kE ixD x y P
theorem kE.get {f : D → D → Option D} {x y : Dv} {P : Dv → Prop} (h : kE f x y P) : ∃ dx dy d, x.val = some dx ∧ y.val = some dy ∧ f dx dy = some d ∧ P (.fz d) := by
  obtain ⟨d, e, p⟩ := h
  cases hx : x.val with
  | none => rw [hx] at e; cases e
  | some dx =>
    cases hy : y.val with
    | none => rw [hx, hy] at e; cases e
    | some dy => rw [hx, hy] at e; exact ⟨dx, dy, d, rfl, rfl, e, p⟩
def rE2 (f : D → D → Option D) : R2 := fun x y H Q => ∃ w dx dy d, w.H = H ∧ Rq w x dx ∧ Rq w y dy ∧ f dx dy = some d ∧ ∀ v, Rp w v d → Q v H
theorem atI_rp {w : Wd} {vs : List V} {ds : List D} {i : Int} {d : D} (r : RpL w vs ds) (h : atI ds i = some d) : ∃ v, atI vs i = some v ∧ Rp w v d := by
  unfold atI at h ⊢
  rw [r.length]
  cases e : ixN ds.length i with
  | none => rw [e] at h; cases h
  | some j =>
    rw [e] at h
    obtain ⟨v, h1, h2⟩ := r.get (show ds[j]? = some d from h)
    exact ⟨v, h1, h2⟩
theorem ix_D (hu : X.A.units + 1 < cLine) : IxR X (rE2 ixD) := by
  intro value slice pins s σ H x y v u Q I rx ry ⟨w, dx, dy, d, eH, qx, qy, hf, hq⟩ hs
  subst eH
  cases dx with
  | list ds =>
    cases dy with
    | int i =>
      cases qy
      cases qx with
      | lst h1 r1 =>
        obtain ⟨z, g1, g2⟩ := atI_rp r1 hf
        exact ix_list value slice pins s σ _ _ _ v u Q I rx ry ⟨_, _, i, z, rfl, rfl, SqL.of h1, g1, hq _ g2⟩ hs
    | _ => cases hf
  | tuple ds =>
    cases dy with
    | int i =>
      cases qy
      cases qx with
      | tup n1 h1 r1 =>
        obtain ⟨z, g1, g2⟩ := atI_rp r1 hf
        exact ix_tup value slice pins s σ _ _ _ v u Q I rx ry ⟨_, _, i, z, rfl, rfl, SqT.of h1, g1, hq _ g2⟩ hs
    | _ => cases hf
  | str z =>
    cases dy with
    | int i =>
      cases qy; cases qx
      obtain ⟨c, hf⟩ : z.length ≤ sizeLine ∧ (atI z.cps.toList i).map (fun c => PyData.str ⟨#[c]⟩) = some d := by
        by_cases c : z.length ≤ sizeLine
        · simp only [ixD, if_pos c] at hf; exact ⟨c, hf⟩
        · simp only [ixD, if_neg c] at hf; cases hf
      obtain ⟨ch, e1, rfl⟩ := Option.map_eq_some_iff.mp hf
      exact ix_str value slice pins s σ _ _ _ v u Q I rx ry ⟨z, i, ch, rfl, rfl, c, e1, hq _ (.str _)⟩ hs
    | _ => cases hf
  | dict es =>
    obtain ⟨r, e1, e2⟩ := Option.bind_eq_some_iff.mp (show (dfind es dy).bind id = some d by cases dy <;> exact hf)
    cases (show r = some d from e2)
    obtain ⟨a, rfl⟩ : ∃ a, x = .ref a := by cases qx <;> exact ⟨_, rfl⟩
    cases (show v = Value.ref a from rx)
    rcases dfind_dg qx qy e1 with ⟨z, d', g, e3, rz⟩ | ⟨_, e3⟩
    · cases e3
      have g' : DGet w.H a y (some z) := by
        rcases g with g | ⟨_, _, g⟩ | ⟨_, _, g⟩
        · exact g
        · cases g
        · cases g
      exact tail_any (dict_typeIs I g') PySem.F.slot_dict_getitem.lookup (d_getItem hu I g' ry fun w' s' I' r' => ⟨z, _, I', r', hq _ rz⟩) hs
    · cases e3
  | _ => cases dy <;> cases hf
theorem de_ix {G : Gh} {a b : Expr} {wa wb : WE} {ca cb : Nat} {pos : Pos} (hu : X.A.units + 1 < cLine) (ha : DE X G a wa ca) (hb : DE X G b wb cb) (hs : PlainIx b := by intro _ _; rfl) : DE X G (.Subscript a b pos) (wIx wa wb) (ca + cb) :=
  PE_imp (pe_ix (ix_D hu) ha hb hs) fun σ H Q h => tV.two h fun env w x y dx dy P er rx ry k hf => by
    obtain ⟨ex, ey, d, h1, h2, h3, p⟩ := k.get
    exact ⟨w, ex, ey, d, rfl, rx.rq h1, ry.rq h2, h3, fun v r => hf.rp er p (Same.refl _) r⟩

/-! ### slices -/
def cutD (ds : List D) (lo hi : Option Int) : List D := (ds.drop (HT.sIx ds.length 0 lo)).take (HT.sIx ds.length ds.length hi - HT.sIx ds.length 0 lo)
theorem cut_rp {w : Wd} {vs : List V} {ds : List D} (r : RpL w vs ds) (lo hi : Option Int) : RpL w (cutV vs lo hi) (cutD ds lo hi) := by
  unfold cutV cutD
  rw [r.length]
  exact (r.drop _).take _
abbrev WO := Ev → (Option Int → Prop) → Prop
def tO (G : Gh) (f : WO) (c : Nat) : TO := fun σ H Q => ∃ (env : Ev) (M C : Addr → Prop) (b : Nat) (P : Option Int → Prop), b + c ≤ cap ∧ ER (G.at b) ⟨H, M, C⟩ env σ ∧ f env P ∧ ∀ o, P o → ∀ b' w', b' ≤ b + c → ER (G.at b') w' env σ → Ext ⟨H, M, C⟩ w' → Q o w'.H
def wNoPart : WO := fun _ P => P none
def wPart (wa : WE) : WO := fun env P => wa env fun x => ∃ i, x.val = some (.int i) ∧ P (some i)
theorem do_none {G : Gh} : PO X none (tO G wNoPart 0) := ⟨fun pins s σ H Q I h => po_none.run pins s σ H Q I (by
  obtain ⟨env, M, C, b, P, hb, er, p, hf⟩ := h
  exact hf _ p b _ (Nat.le_refl _) er (Ext.refl _))⟩
theorem do_some {G : Gh} {a : Expr} {wa : WE} {ca : Nat} (ha : DE X G a wa ca) : PO X (some a) (tO G (wPart wa) ca) := ⟨fun pins s σ H Q I h => (po_some ha).run pins s σ H Q I (by
  obtain ⟨env, M, C, b, P, hb, er, hw, hf⟩ := h
  refine ⟨env, M, C, b, _, hb, er, hw, fun dv ⟨i, e, p⟩ b1 w1 v hb1 er1 e1 r1 => ?_⟩
  have q := r1.rq e
  cases q
  exact ⟨i, rfl, hf _ p b1 w1 hb1 er1 e1⟩)⟩
def slD : D → Option Int → Option Int → Option D
  | .list ds, lo, hi => some (.list (cutD ds lo hi))
  | .tuple ds, lo, hi => some (.tuple (cutD ds lo hi))
  | _, _, _ => none
def wSl (wa : WE) (wl wh : WO) : WE := fun env P => wa env fun x => wl env fun lo => wh env fun hi => ∃ d, (x.val.bind fun a => slD a lo hi) = some d ∧ P (mkDv d)
def rSlD : V → Option Int → Option Int → Hp → VK → Prop := fun x lo hi H Q => ∃ w dx d, w.H = H ∧ Wk w ∧ Rq w x dx ∧ slD dx lo hi = some d ∧ ∀ v H', Same H H' → VN w H' v d → Q v H'
theorem sl_D : L2.SlR X rSlD := by
  intro pins s σ H x v vl vu lo hi sl Q I rx hs pl pu ⟨w, dx, d, eH, wk, qx, hf, hq⟩
  subst eH
  cases dx with
  | list ds =>
    cases hf
    cases qx with
    | lst h1 r1 => exact sl_list pins s σ _ _ v vl vu lo hi sl Q I rx hs pl pu ⟨_, _, rfl, SqL.of h1, fun p n => hq _ _ (same_new n) (newL n (cut_rp r1 lo hi))⟩
  | tuple ds =>
    cases hf
    cases qx with
    | tup n1 h1 r1 =>
      refine sl_tupA pins s σ _ _ v vl vu lo hi sl Q I rx hs pl pu ⟨_, _, rfl, SqT.of h1, fun e => ?_, fun e p n => hq _ _ (same_new n) (newT wk n (cut_rp r1 lo hi))⟩
      have z : cutD ds lo hi = ds := by
        unfold cutD
        rw [r1.length] at e
        rw [e.1, e.2, List.drop_zero, Nat.sub_zero, List.take_length]
      exact hq _ _ (Same.refl _) (by rw [z]; exact .tup n1 h1 r1)
  | _ => cases hf
theorem de_slice {G : Gh} {a : Expr} {lo hi : Option Expr} {wa : WE} {wl wh : WO} {ca cb cc : Nat} {pos p2 : Pos} (ha : DE X G a wa ca) (hl : PO X lo (tO G wl cb)) (hh : PO X hi (tO G wh cc)) : DE X G (.Subscript a (.Slice lo hi none p2) pos) (wSl wa wl wh) (ca + cb + cc) :=
  PE_imp (pe_slice sl_D ha hl hh) fun σ H Q h => by
    obtain ⟨env, M, C, b, P, hb, er, hw, hf⟩ := h
    refine ⟨env, M, C, b, _, by omega, er, hw, fun dx hx b1 w1 x hb1 er1 e1 r1 => ⟨env, w1.M, w1.C, b1, _, by omega, er1, hx, fun lo hl b2 w2 hb2 er2 e2 => ⟨env, w2.M, w2.C, b2, _, by omega, er2, hl, fun hi hh b3 w3 hb3 er3 e3 => ?_⟩⟩⟩
    obtain ⟨d, e, p⟩ := hh
    obtain ⟨dx', e4, e5⟩ := Option.bind_eq_some_iff.mp e
    have r3 := r1.ext (Hs' := H) (e2.trans e3) er1.cm fun _ z => z
    exact ⟨w3, dx', d, rfl, er3.md, r3.rq e4, e5, fun v H' s r => (Fin.ext (Fin.ext (Fin.ext (w := ⟨H, M, C⟩) hf e1 (Nat.le_refl _)) e2 (Nat.le_refl _)) e3 (by omega)).pure er3 p s r⟩
end
end DL
namespace DL
open PySem PySem.Spec PyProof.Rows L2

/-! ### argument lists and displays -/
def wNil : WA := fun _ P => P []
def wCons (wa : WE) (wr : WA) : WA := fun env P => wa env fun x => wr env fun xs => P (x :: xs)
section
variable {X : Cx} {G : Gh} {e : Expr} {es : List Expr} {wa : WE} {wr : WA} {ca cb : Nat} {pos : Pos}
theorem da_nil : DA X G [] wNil 0 := PA_imp pa_nil fun σ H Q h => by
  obtain ⟨env, M, C, b, P, hb, er, p, hf⟩ := h
  exact hf _ p b _ _ (Nat.le_refl _) er (Ext.refl _) .nil
theorem da_cons (ha : DE X G e wa ca) (hr : DA X G es wr cb) (hs : starEach (e :: es) X.env = (false, eval e X.env) :: starEach es X.env := by rfl) : DA X G (e :: es) (wCons wa wr) (ca + cb) := PA_imp (pa_cons ha hr hs) fun σ H Q h => by
  obtain ⟨env, M, C, b, P, hb, er, hw, hf⟩ := h
  refine ⟨env, M, C, b, _, by omega, er, hw, fun dx hx b1 w1 x hb1 er1 e1 r1 => ⟨env, w1.M, w1.C, b1, _, by omega, er1, hx, fun ds hd b2 w2 xs hb2 er2 e2 r2 => ?_⟩⟩
  refine hf _ hd b2 w2 _ (by omega) er2 (e1.trans e2) (.cons (r1.ext e2 er1.cm fun _ z => z) ?_)
  exact r2.ext (Ext.refl w2) er2.cm fun a z => e1.free z
/-- the data of values that may be kept -/
def keptL : List Dv → Option (List D)
  | [] => some []
  | x :: r => x.kept.bind fun d => (keptL r).map (d :: ·)
def valL : List Dv → Option (List D)
  | [] => some []
  | x :: r => x.val.bind fun d => (valL r).map (d :: ·)
theorem VRs.rp {Hs : Hp} {w : Wd} : ∀ {vs : List V} {ds : List Dv} {es : List D}, VRs G Hs w vs ds → keptL ds = some es → RpL w vs es
  | _, _, _, .nil, e => by cases e; exact .nil
  | _, _, _, .cons h r, e => by
    simp only [keptL, Option.bind_eq_some_iff, Option.map_eq_some_iff] at e
    obtain ⟨d, e1, es', e2, rfl⟩ := e
    exact .cons (VR.rp h e1) (VRs.rp r e2)
def wTup (wr : WA) : WE := fun env P => wr env fun xs => ∃ ds, keptL xs = some ds ∧ ds.length ≤ sizeLine ∧ P (.fz (.tuple ds))
def wLst (wr : WA) : WE := fun env P => wr env fun xs => ∃ ds, keptL xs = some ds ∧ ds.length ≤ sizeLine ∧ P (.nw (.list ds))
theorem tA.one {K : Ev → List Dv → (Dv → Prop) → Prop} {σ : L2.St} {H : Hp} {Q : VK} {R : List V → Hp → Prop} (h : tV G (fun env P => wr env fun x => K env x P) ca σ H Q)
    (fin : ∀ {b : Nat} env w x dx P, ER (G.at b) w env σ → VRs G H w x dx → K env dx P → Fin G b σ env w Q P → R x w.H) : tA G wr ca σ H R := by
  obtain ⟨env, M, C, b, P, hb, er, hw, hf⟩ := h
  exact ⟨env, M, C, b, _, hb, er, hw, fun dx hx b1 w1 x hb1 er1 e1 r1 => fin env w1 x dx P er1 r1 hx (Fin.ext (w := ⟨H, M, C⟩) hf e1 hb1)⟩
theorem de_tup {x1} (h : DA X G es wr ca) : DE X G (.Tuple es x1 pos) (wTup wr) ca := PE_imp (pe_tup h) fun σ H Q h => tA.one h fun env w xs dxs P er rs k hf => by
  obtain ⟨ds, e, z, p⟩ := k
  have r := rs.rp e
  exact ⟨by rw [r.length]; exact z, fun q n => hf.rp er p (same_new n) (newT er.md n r)⟩
theorem de_lst (h : DA X G es wr ca) : DE X G (.List es pos) (wLst wr) ca := PE_imp (pe_lst h) fun σ H Q h => tA.one h fun env w xs dxs P er rs k hf => by
  obtain ⟨ds, e, z, p⟩ := k
  have r := rs.rp e
  exact ⟨by rw [r.length]; exact z, fun q n => hf.pure er (d := .list ds) p (same_new n) (newL n r)⟩
theorem de_dnewK : DE X G (.Dict [] [] pos) (wC (.nw (.dict []))) 0 := PE_imp pe_dnewK fun σ H Q h => by
  obtain ⟨env, M, C, b, P, hb, er, p, hf⟩ := h
  exact fun q n => Fin.pure (b := b) (w := ⟨H, M, C⟩) hf er (d := .dict []) p (same_new n) ⟨q, rfl, n, .dK upd_same rfl .nil⟩
theorem de_dnewT : DE X G (.Dict [] [] pos) (wC (.nw (.dict []))) 0 := PE_imp pe_dnewT fun σ H Q h => by
  obtain ⟨env, M, C, b, P, hb, er, p, hf⟩ := h
  exact fun q n => Fin.pure (b := b) (w := ⟨H, M, C⟩) hf er (d := .dict []) p (same_new n) ⟨q, rfl, n, .dT upd_same rfl .nil⟩

/-! ### calls of built-ins by values -/
inductive RqL (w : Wd) : List V → List D → Prop
  | nil : RqL w [] []
  | cons {v : V} {vs : List V} {d : D} {ds : List D} : Rq w v d → RqL w vs ds → RqL w (v :: vs) (d :: ds)
theorem VRs.rq {Hs : Hp} {w : Wd} : ∀ {vs : List V} {ds : List Dv} {es : List D}, VRs G Hs w vs ds → valL ds = some es → RqL w vs es
  | _, _, _, .nil, e => by cases e; exact .nil
  | _, _, _, .cons h r, e => by
    simp only [valL, Option.bind_eq_some_iff, Option.map_eq_some_iff] at e
    obtain ⟨d, e1, es', e2, rfl⟩ := e
    exact .cons (VR.rq h e1) (VRs.rq r e2)
def rB (f : List D → Option D) : List V → Hp → VK → Prop := fun xs H Q => ∃ w ds d, w.H = H ∧ Wk w ∧ RqL w xs ds ∧ f ds = some d ∧ ∀ v H', Same H H' → VN w H' v d → Q v H'
def wB (f : List D → Option D) (wr : WA) : WE := fun env P => wr env fun xs => ∃ d, (valL xs).bind f = some d ∧ P (mkDv d)
theorem rdB {f : List D → Option D} {σ : L2.St} {H : Hp} {Q : VK} (h : tV G (wB f wr) ca σ H Q) : tCB (rB f) (tA G wr ca) σ H Q := tA.one h fun env w xs dxs P er rs k hf => by
  obtain ⟨d, e, p⟩ := k
  obtain ⟨ds, e1, e2⟩ := Option.bind_eq_some_iff.mp e
  exact ⟨w, ds, d, rfl, er.md, rs.rq e1, e2, fun v H' s r => hf.pure er p s r⟩
theorem de_callB {x : Str} {id : String} {p : Pos} {f : List D → Option D} (hc : CallR X (.builtin id) (rB f)) (hg : Gl X x) (hm : X.mg x = none) (hv : bootBuiltins x = some (.builtin id)) (ha : DA X G (e :: es) wr ca) (hn : x ≠ "__name__" := by decide) (hdb : (x == ("__debug__" : Str)) = false := by decide)
    (he : starEach (e :: es) X.env = (false, eval e X.env) :: starEach es X.env := by rfl) (hpl : (backTo pos (starEach es X.env)).any (·.1) = false := by rfl) : DE X G (.Call (.Name x p) (e :: es) [] pos) (wB f wr) ca :=
  PE_imp (pe_callB hc hg hm hv ha hn hdb he hpl) fun _ _ _ h => rdB h
theorem de_callTy {x : Str} {T : String} {p : Pos} {f : List D → Option D} (hc : CallR X (.type T) (rB f)) (hg : Gl X x) (hm : X.mg x = none) (hv : bootBuiltins x = some (.type T)) (ha : DA X G (e :: es) wr ca) (hn : x ≠ "__name__" := by decide) (hdb : (x == ("__debug__" : Str)) = false := by decide)
    (he : starEach (e :: es) X.env = (false, eval e X.env) :: starEach es X.env := by rfl) (hpl : (backTo pos (starEach es X.env)).any (·.1) = false := by rfl) : DE X G (.Call (.Name x p) (e :: es) [] pos) (wB f wr) ca :=
  PE_imp (pe_callTy hc hg hm hv ha hn hdb he hpl) fun _ _ _ h => rdB h
end
end DL
namespace DL
open PySem PySem.Spec PyProof.Rows L2

/-! ### slots are set -/
section
variable {G : Gh} {w w' : Wd} {env : Ev} {σ : L2.St}
theorem get_set {α : Type} {l : List α} {i j : Nat} {x y : α} (h : (l.set i x)[j]? = some y) : (j = i ∧ y = x) ∨ (j ≠ i ∧ l[j]? = some y) := by
  by_cases e : j = i
  · subst e
    by_cases hl : j < l.length
    · rw [List.getElem?_set_self hl] at h; exact .inl ⟨rfl, (Option.some.inj h).symm⟩
    · rw [List.getElem?_eq_none (by simpa using hl)] at h; cases h
  · rw [List.getElem?_set_ne (Ne.symm e)] at h; exact .inr ⟨e, h⟩
theorem ER.setSl {s : Sl} {v : Option V} (er : ER G w env σ) (h : SlR G w v s) (ns : ∀ d, s ≠ .own d) (i : Nat) : ER G w (env.set i s) (σ.set i v) where
  toEH := er.toEH
  len := by rw [List.length_set, List.length_set]; exact er.len
  sl := fun j s' ov h1 h2 => by
    rcases get_set h1 with ⟨rfl, rfl⟩ | ⟨n1, q1⟩
    · rcases get_set h2 with ⟨_, rfl⟩ | ⟨n2, _⟩
      · exact h
      · exact absurd rfl n2
    · rcases get_set h2 with ⟨n2, _⟩ | ⟨_, q2⟩
      · exact absurd n2 n1
      · exact er.sl j s' ov q1 q2
  od := fun j k d e a h1 h2 h3 h4 => by
    rcases get_set h1 with ⟨_, q⟩ | ⟨n1, q1⟩
    · exact absurd q.symm (ns d)
    · rcases get_set h2 with ⟨_, q⟩ | ⟨n2, q2⟩
      · exact absurd q.symm (ns e)
      · rcases get_set h3 with ⟨z, _⟩ | ⟨_, q3⟩
        · exact absurd z n1
        · rcases get_set h4 with ⟨z, _⟩ | ⟨_, q4⟩
          · exact absurd z n2
          · exact er.od j k d e a q1 q2 q3 q4
theorem ER.setFz {d : D} {v : V} (er : ER G w env σ) (h : Rp w v d) (i : Nat) : ER G w (env.set i (.fz d)) (σ.set i (some v)) := er.setSl (s := .fz d) ⟨v, rfl, h⟩ (fun _ z => nomatch z) i
theorem ER.setRaw {v : V} (er : ER G w env σ) (i : Nat) : ER G w (env.set i (.raw v)) (σ.set i (some v)) := er.setSl (s := .raw v) rfl (fun _ z => nomatch z) i
theorem ER.setNo {v : Option V} (er : ER G w env σ) (i : Nat) : ER G w (env.set i .no) (σ.set i v) := er.setSl (s := .no) trivial (fun _ z => nomatch z) i
theorem ER.lt (er : ER G w env σ) {i : Nat} {s : Sl} (h : env[i]? = some s) : i < σ.length := by
  have := (List.getElem?_eq_some_iff.mp h).1
  have := er.len
  omega
theorem ER.at (er : ER G w env σ) {i : Nat} {s : Sl} (h : env[i]? = some s) : ∃ ov, σ[i]? = some ov ∧ SlR G w ov s := ⟨σ[i]'(er.lt h), List.getElem?_eq_getElem (er.lt h), er.sl i s _ h (List.getElem?_eq_getElem (er.lt h))⟩
/-- a new list or dict becomes a local's own -/
theorem ER.setNw {d : D} {a : Addr} {b0 b1 : Nat} (er : ER (G.at b0) w env σ) (er' : ER (G.at b1) w' env σ) (e : Ext w w') (hs : w.H a = none) (nc : ¬ w'.C a) (o : Ow (w'.plus a) a d) (i : Nat) :
    ER (G.at b1) (w'.plus a) (env.set i (.own d)) (σ.set i (some (.ref a))) := by
  have st0 : St1 w (w'.plus a) := ⟨(e.st er.cm).keep, fun b z => z.elim (e.newM b) fun q => .inr (by rw [q]; exact hs)⟩
  have hdO : ∀ {u : Wd} {b d}, Ow u b d → ∃ ob, u.H b = some ob := fun o => by cases o <;> exact ⟨_, by assumption⟩
  have hH0 : G.H0 a = none := by
    cases q : G.H0 a with
    | none => rfl
    | some x => exact absurd hs (er.hd a (by rw [q]; simp))
  have hPt : G.Pt a = none := by
    cases q : G.Pt a with
    | none => rfl
    | some x => rcases er.kp a x q with z | ⟨_, _, ob, z⟩ <;> (rw [hs] at z; cases z)
  refine ⟨⟨er'.kp, fun b m => .inl (er'.m0 b m), er'.nc, er'.cp, fun b c => .inl (er'.cm b c), fun b z => z.elim (er'.md b) fun q => ?_, er'.hd, fun p hp => p.st _ _ st0 (er.gk p hp), er'.si, fun b xs z => z.elim (er'.mt b xs) fun q => by subst q; exact o.ntup xs⟩, by rw [List.length_set, List.length_set]; exact er.len, fun j s ov h1 h2 => ?_, fun j k d1 d2 b h1 h2 h3 h4 => ?_⟩
  · subst q
    obtain ⟨ob, h⟩ := hdO o
    show w'.H b ≠ none
    rw [show w'.H b = some ob from h]; simp
  · rcases get_set h1 with ⟨rfl, rfl⟩ | ⟨n1, q1⟩
    · rcases get_set h2 with ⟨_, rfl⟩ | ⟨n2, _⟩
      · exact ⟨a, rfl, .inr rfl, nc, hPt, hH0, o⟩
      · exact absurd rfl n2
    · rcases get_set h2 with ⟨n2, _⟩ | ⟨_, q2⟩
      · exact absurd n2 n1
      · have s0 := er.sl j s ov q1 q2
        have s1 := er'.sl j s ov q1 q2
        cases s with
        | no => trivial
        | fz d => obtain ⟨v, z, r⟩ := s0; exact ⟨v, z, r.st st0⟩
        | raw v => exact s0
        | own d =>
          obtain ⟨b, z, m, n, p, h0, ob⟩ := s0
          obtain ⟨b', z', m', n', _, _, _⟩ := s1
          rw [z] at z'
          cases z'
          obtain ⟨x, hx⟩ := hdO ob
          exact ⟨b, z, .inl m', n', p, h0, ob.st st0 (by show w'.H b = w.H b; rw [hx]; exact e.own n m hx)⟩
        | bw d =>
          obtain ⟨b, z, m, n, p, ob⟩ := s0
          obtain ⟨b', z', m', n', _, _⟩ := s1
          rw [z] at z'
          cases z'
          obtain ⟨x, hx⟩ := hdO ob
          exact ⟨b, z, .inl m', n', p, ob.st st0 (by show w'.H b = w.H b; rw [hx]; exact e.own n m hx)⟩
  · have ne : ∀ {m : Nat} {dd : D}, env[m]? = some (.own dd) → σ[m]? = some (some (.ref a)) → False := fun {m dd} g1 g2 => by
      obtain ⟨b, z, _, _, _, _, ob⟩ := er.sl m _ _ g1 g2
      cases z
      obtain ⟨x, hx⟩ := hdO ob
      rw [hs] at hx; cases hx
    rcases get_set h1 with ⟨rfl, q⟩ | ⟨n1, q1⟩
    · rcases get_set h2 with ⟨rfl, _⟩ | ⟨n2, q2⟩
      · rfl
      · rcases get_set h3 with ⟨_, z⟩ | ⟨z, _⟩
        · cases z
          rcases get_set h4 with ⟨z, _⟩ | ⟨_, q4⟩
          · exact absurd z n2
          · exact (ne q2 q4).elim
        · exact absurd rfl z
    · rcases get_set h3 with ⟨z, _⟩ | ⟨_, q3⟩
      · exact absurd z n1
      · rcases get_set h2 with ⟨rfl, _⟩ | ⟨n2, q2⟩
        · rcases get_set h4 with ⟨_, z⟩ | ⟨z, _⟩
          · cases z
            exact (ne q1 q3).elim
          · exact absurd rfl z
        · rcases get_set h4 with ⟨z, _⟩ | ⟨_, q4⟩
          · exact absurd z n2
          · exact er.od j k d1 d2 b q1 q2 q3 q4
end

/-! ### blocks and small statements -/
section
variable {X : Cx} {G : Gh} {st : Stmt} {rest body : List Stmt} {f g : WS} {e a b c : Expr} {wa wb : WE} {ta : WT} {ca cb cc : Nat} {pos : Pos}
def wNext : WS := fun env De => De.nx env
def wSeq (f g : WS) : WS := fun env De => f env { De with nx := fun e => g e De }
theorem dss_nil : DSs X G [] wNext 0 := PSs_imp pss_nil fun σ H T h => by
  obtain ⟨env, M, C, b0, De, hb0, er, hw, lf⟩ := h
  exact lf.nx env hw b0 _ σ (Nat.le_refl _) er
theorem dss_cons (h1 : DS X G st f ca) (h2 : DSs X G rest g cb) : DSs X G (st :: rest) (wSeq f g) (ca + cb) := PSs_imp (pss_cons h1 h2) fun σ H T h => by
  obtain ⟨env, M, C, b0, De, hb0, er, hw, lf⟩ := h
  have lm := lf.mono (B' := b0 + ca) (by omega)
  exact ⟨env, M, C, b0, _, by omega, er, hw, ⟨fun env' q b w σ' hb er' => ⟨env', w.M, w.C, b, De, by omega, er', q, lf.mono (by omega)⟩, lm.rt, lm.bk, lm.ct⟩⟩
theorem dss_one (h1 : DS X G st f ca) : DSs X G [st] f ca := pss_one h1
theorem ds_pass : DS X G (.Pass pos) wNext 0 := PS_imp ps_pass fun σ H T h => by
  obtain ⟨env, M, C, b0, De, hb0, er, hw, lf⟩ := h
  exact lf.nx env hw b0 _ σ (Nat.le_refl _) er
def wBreak : WS := fun env De => De.bk env
def wCont : WS := fun env De => De.ct env
theorem ds_break : DS X G (.Break pos) wBreak 0 := PS_imp ps_break fun σ H T h => by
  obtain ⟨env, M, C, b0, De, hb0, er, hw, lf⟩ := h
  exact lf.bk env hw b0 _ σ (Nat.le_refl _) er
theorem ds_continue : DS X G (.Continue pos) wCont 0 := PS_imp ps_continue fun σ H T h => by
  obtain ⟨env, M, C, b0, De, hb0, er, hw, lf⟩ := h
  exact lf.ct env hw b0 _ σ (Nat.le_refl _) er
/-- a statement that is never reached -/
def wNever : WS := fun _ _ => False
theorem ds_never : DS X G st wNever 0 := PS_imp ps_never fun σ H T h => by
  obtain ⟨env, M, C, b0, De, hb0, er, hw, lf⟩ := h
  exact hw
def wDrop (wa : WE) : WS := fun env De => wa env fun _ => De.nx env
theorem ds_expr (he : DE X G e wa ca) (hs : swapsWith e none pos.line X.env = pure false := by rfl) : DS X G (.Expr e pos) (wDrop wa) ca := PS_imp (ps_expr he hs) fun σ H T h => by
  obtain ⟨env, M, C, b0, De, hb0, er, hw, lf⟩ := h
  exact ⟨env, M, C, b0, _, hb0, er, hw, fun dv p b' w' v hb' er' e' r => lf.nx env p b' w' σ hb' er'⟩
def wRet (wa : WE) : WS := fun env De => wa env De.rt
theorem ds_ret (he : DE X G e wa ca) : DS X G (.Return (some e) pos) (wRet wa) ca := PS_imp (ps_ret he) fun σ H T h => by
  obtain ⟨env, M, C, b0, De, hb0, er, hw, lf⟩ := h
  exact ⟨env, M, C, b0, _, hb0, er, hw, fun dv p b' w' v hb' er' e' r => lf.rt dv p b' w' H v hb' er'.toEH r er.hd⟩
def wRetN : WS := fun _ De => De.rt (.fz .none)
theorem ds_retN : DS X G (.Return none pos) wRetN 0 := PS_imp ps_retN fun σ H T h => by
  obtain ⟨env, M, C, b0, De, hb0, er, hw, lf⟩ := h
  exact lf.rt _ hw b0 ⟨H, M, C⟩ H .non (Nat.le_refl _) er.toEH .non er.hd
def wIfS (t : WT) (f g : WS) : WS := fun env De => t env fun k => if k = true then f env De else g env De
theorem ds_if {x y : List Stmt} (hc : DT X G c ta cc) (ha : DSs X G x f ca) (hb : DSs X G y g cb) : DS X G (.If c x y pos) (wIfS ta f g) (cc + (ca + cb)) := PS_imp (ps_if hc ha hb) fun σ H T h => by
  obtain ⟨env, M, C, b0, De, hb0, er, hw, lf⟩ := h
  refine ⟨env, M, C, b0, _, by omega, er, hw, fun k hk b1 w1 hb1 er1 e1 => ?_⟩
  cases k with
  | true =>
    rw [if_pos rfl] at hk ⊢
    exact ⟨env, w1.M, w1.C, b1, De, by omega, er1, hk, lf.mono (by omega)⟩
  | false =>
    rw [if_neg Bool.false_ne_true] at hk ⊢
    exact ⟨env, w1.M, w1.C, b1, De, by omega, er1, hk, lf.mono (by omega)⟩

/-! ### name = value -/
/-- how a value is kept in a slot -/
inductive Kp where | fz | own | raw
def store (k : Kp) (i : Nat) (x : Dv) (env : Ev) (N : Ev → Prop) : Prop := match k with
  | .fz => ∃ d, x.kept = some d ∧ N (env.set i (.fz d))
  | .own => ∃ d, x = .nw d ∧ N (env.set i (.own d))
  | .raw => ∃ v, x = .raw v ∧ N (env.set i (.raw v))
def wSet (k : Kp) (i : Nat) (wa : WE) : WS := fun env De => wa env fun x => store k i x env De.nx
theorem stored {k : Kp} {i : Nat} {x : Dv} {env : Ev} {N : Ev → Prop} {σ : L2.St} {w w' : Wd} {v : V} {b0 b1 : Nat} (h : store k i x env N) (er : ER (G.at b0) w env σ) (er' : ER (G.at b1) w' env σ) (e : Ext w w') (r : VR G w.H w' v x) :
    ∃ env' w'', N env' ∧ w''.H = w'.H ∧ ER (G.at b1) w'' env' (σ.set i (some v)) := by
  cases k with
  | fz =>
    obtain ⟨d, h1, h2⟩ := h
    exact ⟨_, w', h2, rfl, er'.setFz (r.rp h1) i⟩
  | own =>
    obtain ⟨d, rfl, h2⟩ := h
    obtain ⟨a, rfl, hs, nm, nc, o⟩ := r
    exact ⟨_, w'.plus a, h2, rfl, ER.setNw er er' e hs nc o i⟩
  | raw =>
    obtain ⟨u, rfl, h2⟩ := h
    obtain rfl : v = u := r
    exact ⟨_, w', h2, rfl, er'.setRaw i⟩
theorem rdSet {k : Kp} {i : Nat} {σ : L2.St} {H : Hp} {T : Ends} {te : TE} (h : tS G (wSet k i wa) ca T σ H) (imp : ∀ Q, tV G wa ca σ H Q → te σ H Q) : tAsg te (gName i) T σ H := by
  obtain ⟨env, M, C, b0, De, hb0, er, hw, lf⟩ := h
  refine imp _ ⟨env, M, C, b0, _, hb0, er, hw, fun dv p b' w' v hb' er' e' r => ?_⟩
  obtain ⟨env', w'', n, e1, er''⟩ := stored p er er' e' r
  show T.nx (σ.set i (some v)) w'.H
  rw [← e1]
  exact lf.nx env' n b' w'' _ hb' er''
theorem ds_set (k : Kp) (i : Nat) {x : Str} {pos' : Pos} (hN : X.N.Nodup) (he : DE X G e wa ca) (hi : X.N[i]? = some x := by rfl) (hx : Loc X.env.scope x := by first | exact Or.inl rfl | exact Or.inr rfl) (hs : swapsWith e (some (.Name x pos')) pos.line X.env = pure false := by rfl)
    (hf : X.fn x = true ∨ X.env.scope.names.lookup x = some .local := by first | exact .inl rfl | exact .inr rfl | assumption) : DS X G (.Assign [.Name x pos'] e pos) (wSet k i wa) ca :=
  PS_imp (ps_set hN hi hx he hs hf) fun σ H T h => rdSet h fun _ q => q

/-! ### while -/
def wWh (t : WT) (f : WS) : Nat → WS
  | 0 => fun _ _ => False
  | n + 1 => fun env De => t env fun k => if k = true then f env { nx := fun e => wWh t f n e De, ct := fun e => wWh t f n e De, bk := De.nx, rt := De.rt } else De.nx env
def wWhile (t : WT) (f : WS) : WS := fun env De => ∃ n, wWh t f n env De
theorem ds_while (hp : PassesOwn (model X.prog X.w) X.A X.env X.xe) (hc : DT X G c ta cc) (hb : DSs X G body f cb) (h0 : cc + cb = 0 := by rfl) : DS X G (.While c body [] pos) (wWhile ta f) 0 := PS_imp (ps_while hp hc hb) fun σ H T h => by
  obtain ⟨env, M, C, b0, De, hb0, er, ⟨n, hw⟩, lf⟩ := h
  refine ⟨fun m σ H => ∃ env M C b, b ≤ b0 ∧ ER (G.at b) ⟨H, M, C⟩ env σ ∧ wWh ta f m env De, ⟨n, env, M, C, b0, Nat.le_refl _, er, hw⟩, fun m σ1 H1 hm => ?_⟩
  obtain ⟨env1, M1, C1, b1, hb1, er1, hw1⟩ := hm
  cases m with
  | zero => exact hw1.elim
  | succ m =>
    refine ⟨env1, M1, C1, b1, _, by omega, er1, hw1, fun k hk b2 w2 hb2 er2 e2 => ?_⟩
    cases k with
    | true =>
      rw [if_pos rfl] at hk ⊢
      refine ⟨fun σ' H' => ∃ env M C b, b ≤ b0 ∧ ER (G.at b) ⟨H', M, C⟩ env σ' ∧ wWh ta f m env De, fun σ' H' q => ⟨m, Nat.lt_succ_self m, q⟩, ?_⟩
      have lm := lf.mono (B' := b2 + cb) (by omega)
      exact ⟨env1, w2.M, w2.C, b2, _, by omega, er2, hk, ⟨fun env' q b w σ' hb er' => ⟨env', w.M, w.C, b, by omega, er', q⟩, lm.rt, fun env' q b w σ' hb er' => lm.nx env' q b w σ' hb er', fun env' q b w σ' hb er' => ⟨env', w.M, w.C, b, by omega, er', q⟩⟩⟩
    | false =>
      rw [if_neg Bool.false_ne_true] at hk ⊢
      exact lf.nx env1 hk b2 w2 σ1 (by omega) er2
/-- a loop that draws: at most many turns -/
def many : Nat := 2 ^ 64
def wWhileE (t : WT) (f : WS) : WS := fun env De => ∃ n, n ≤ many ∧ wWh t f n env De
theorem mul_step {n m a b : Nat} (h : m + 1 ≤ n) (q : b ≤ a) : b + (n - (m + 1)) * a + a ≤ b + (n - m) * a := by
  have e : n - m = (n - (m + 1)) + 1 := by omega
  rw [e, Nat.add_mul, Nat.one_mul]; omega
theorem le_many {n a : Nat} (h : n ≤ many) : n * a ≤ many * a := Nat.mul_le_mul_right a h
theorem ds_whileE (hp : PassesOwn (model X.prog X.w) X.A X.env X.xe) (hc : DT X G c ta cc) (hb : DSs X G body f cb) : DS X G (.While c body [] pos) (wWhileE ta f) (many * (cc + cb)) := PS_imp (ps_while hp hc hb) fun σ H T h => by
  obtain ⟨env, M, C, b0, De, hb0, er, ⟨n, hn, hw⟩, lf⟩ := h
  have hn' := le_many (a := cc + cb) hn
  refine ⟨fun m σ H => ∃ env M C b, b + m * (cc + cb) ≤ b0 + n * (cc + cb) ∧ ER (G.at b) ⟨H, M, C⟩ env σ ∧ wWh ta f m env De, ⟨n, env, M, C, b0, Nat.le_refl _, er, hw⟩, fun m σ1 H1 hm => ?_⟩
  obtain ⟨env1, M1, C1, b1, hb1, er1, hw1⟩ := hm
  cases m with
  | zero => exact hw1.elim
  | succ m =>
    rw [Nat.add_mul, Nat.one_mul] at hb1
    refine ⟨env1, M1, C1, b1, _, by omega, er1, hw1, fun k hk b2 w2 hb2 er2 e2 => ?_⟩
    cases k with
    | true =>
      rw [if_pos rfl] at hk ⊢
      refine ⟨fun σ' H' => ∃ env M C b, b + m * (cc + cb) ≤ b0 + n * (cc + cb) ∧ ER (G.at b) ⟨H', M, C⟩ env σ' ∧ wWh ta f m env De, fun σ' H' q => ⟨m, Nat.lt_succ_self m, q⟩, ?_⟩
      have lm := lf.mono (B' := b2 + cb) (by omega)
      exact ⟨env1, w2.M, w2.C, b2, _, by omega, er2, hk, ⟨fun env' q b w σ' hb er' => ⟨env', w.M, w.C, b, by omega, er', q⟩, lm.rt, fun env' q b w σ' hb er' => lm.nx env' q b w σ' hb er', fun env' q b w σ' hb er' => ⟨env', w.M, w.C, b, by omega, er', q⟩⟩⟩
    | false =>
      rw [if_neg Bool.false_ne_true] at hk ⊢
      exact lf.nx env1 hk b2 w2 σ1 (by omega) er2

/-! ### what is walked -/
def Gh.more (G : Gh) (l : List Fx) : Gh := { G with gs := l ++ G.gs }
theorem EH.more {w : Wd} {b : Nat} {l : List Fx} (h : EH (G.at b) w) (q : ∀ p ∈ l, p.P w) : EH ((G.more l).at b) w := ⟨h.kp, h.m0, h.nc, h.cp, h.cm, h.md, h.hd, fun p hp => (List.mem_append.mp hp).elim (q p) (h.gk p), h.si, h.mt⟩
theorem EH.fewer {w : Wd} {b : Nat} {l : List Fx} (h : EH ((G.more l).at b) w) : EH (G.at b) w := ⟨h.kp, h.m0, h.nc, h.cp, h.cm, h.md, h.hd, fun p hp => h.gk p (List.mem_append_right _ hp), h.si, h.mt⟩
theorem EH.those {w : Wd} {b : Nat} {l : List Fx} (h : EH ((G.more l).at b) w) : ∀ p ∈ l, p.P w := fun p hp => h.gk p (List.mem_append_left _ hp)
theorem ER.more {w : Wd} {b : Nat} {env : Ev} {σ : L2.St} {l : List Fx} (h : ER (G.at b) w env σ) (q : ∀ p ∈ l, p.P w) : ER ((G.more l).at b) w env σ := ⟨h.toEH.more q, h.len, h.sl, h.od⟩
theorem ER.fewer {w : Wd} {b : Nat} {env : Ev} {σ : L2.St} {l : List Fx} (h : ER ((G.more l).at b) w env σ) : ER (G.at b) w env σ := ⟨h.toEH.fewer, h.len, h.sl, h.od⟩
/-- J walks the data ds while the values l stand -/
structure Walk (J : It) (l : List Fx) (ds : List D) : Prop where
  go : ∀ (w : Wd) (i : Nat), (∀ p ∈ l, p.P w) → i < ds.length → J.go i w.H
  stop : ∀ (w : Wd) (i : Nat), (∀ p ∈ l, p.P w) → ds.length ≤ i → J.stop i w.H
  yld : ∀ (w : Wd) (i : Nat) (x : V) (H' : Hp), Wk w → (∀ p ∈ l, p.P w) → i < ds.length → J.yld i w.H x H' → Same w.H H' ∧ ∃ d, ds[i]? = some d ∧ Rp ⟨H', w.M, w.C⟩ x d
abbrev WI := Ev → (List D → Prop) → Prop
def tI (G : Gh) (f : WI) (c : Nat) : TI := fun σ H R => ∃ (env : Ev) (M C : Addr → Prop) (b : Nat) (P : List D → Prop), b + c ≤ cap ∧ ER (G.at b) ⟨H, M, C⟩ env σ ∧ f env P ∧ ∀ ds, P ds → ∀ (b' : Nat) (w' : Wd) (J : It) (l : List Fx), b' ≤ b + c → ER (G.at b') w' env σ → Ext ⟨H, M, C⟩ w' → (∀ p ∈ l, p.P w') → Walk J l ds → ds.length ≤ many → R J w'.H
abbrev DI (X : Cx) (G : Gh) (tg iter : Expr) (f : WI) (c : Nat) : Prop := PI X tg iter (tI G f c)

/-! ### targets -/
/-- the slots ix may have been set, no other ones -/
def Eqx (ix : List Nat) (σ σ' : L2.St) : Prop := σ'.length = σ.length ∧ ∀ j, j ∉ ix → σ'[j]? = σ[j]?
theorem Eqx.refl (ix : List Nat) (σ : L2.St) : Eqx ix σ σ := ⟨rfl, fun _ _ => rfl⟩
theorem Eqx.trans {ix jx : List Nat} {σ σ1 σ2 : L2.St} (a : Eqx ix σ σ1) (b : Eqx jx σ1 σ2) : Eqx (ix ++ jx) σ σ2 := ⟨b.1.trans a.1, fun j h => (b.2 j fun z => h (List.mem_append_right _ z)).trans (a.2 j fun z => h (List.mem_append_left _ z))⟩
theorem Eqx.set (i : Nat) (σ : L2.St) (v : Option V) : Eqx [i] σ (σ.set i v) := ⟨List.length_set, fun j h => List.getElem?_set_ne fun z => h (by simp [z])⟩
abbrev GD := D → Ev → Option Ev
def tG (G : Gh) (ix : List Nat) (g : GD) : TG := fun v σ H Q => ∃ (env env' : Ev) (M C : Addr → Prop) (b : Nat) (d : D), ER (G.at b) ⟨H, M, C⟩ env σ ∧ Rp ⟨H, M, C⟩ v d ∧ g d env = some env' ∧ ∀ σ', ER (G.at b) ⟨H, M, C⟩ env' σ' → Eqx ix σ σ' → Q σ' H
def tGs (G : Gh) (ix : List Nat) (g : List D → Ev → Option Ev) : TGs := fun vs σ H Q => ∃ (env env' : Ev) (M C : Addr → Prop) (b : Nat) (ds : List D), ER (G.at b) ⟨H, M, C⟩ env σ ∧ RpL ⟨H, M, C⟩ vs ds ∧ g ds env = some env' ∧ ∀ σ', ER (G.at b) ⟨H, M, C⟩ env' σ' → Eqx ix σ σ' → Q σ' H
def gN (i : Nat) : GD := fun d env => some (env.set i (.fz d))
def gNil' : List D → Ev → Option Ev
  | [], env => some env
  | _, _ => none
def gCons' (g : GD) (r : List D → Ev → Option Ev) : List D → Ev → Option Ev
  | d :: ds, env => (g d env).bind (r ds)
  | _, _ => none
def gTup' (n : Nat) (r : List D → Ev → Option Ev) : GD
  | .tuple ds, env => if ds.length = n then r ds env else none
  | _, _ => none
theorem PG_imp {e : Expr} {t t' : TG} (h : PG X e t) (i : ∀ v σ H Q, t' v σ H Q → t v σ H Q) : PG X e t' := ⟨fun pins s σ H v u Q I r q => h.run pins s σ H v u Q I r (i v σ H Q q)⟩
theorem PGs_imp {e : List Expr} {t t' : TGs} (h : PGs X e t) (i : ∀ v σ H Q, t' v σ H Q → t v σ H Q) : PGs X e t' := ⟨fun pins s σ H v u Q I r q => h.run pins s σ H v u Q I r (i v σ H Q q)⟩
theorem dg_name (i : Nat) {x : Str} (hN : X.N.Nodup) (hi : X.N[i]? = some x := by rfl) (hx : Loc X.env.scope x := by first | exact Or.inl rfl | exact Or.inr rfl) (hf : X.fn x = true ∨ X.env.scope.names.lookup x = some .local := by first | exact .inl rfl | exact .inr rfl | assumption) : PG X (.Name x pos) (tG G [i] (gN i)) :=
  PG_imp (pg_name hN hi hx hf) fun v σ H Q h => by
    obtain ⟨env, env', M, C, b0, d, er, r, e, q⟩ := h
    cases e
    exact q _ (er.setFz r i) (Eqx.set i σ _)
theorem dgs_nil : PGs X [] (tGs G [] gNil') := PGs_imp pgs_nil fun v σ H Q h => by
  obtain ⟨env, env', M, C, b0, d, er, r, e, q⟩ := h
  cases r with
  | nil => cases e; exact ⟨rfl, q _ er (Eqx.refl _ _)⟩
  | cons _ _ => cases e
theorem dgs_cons {es : List Expr} {ix jx : List Nat} {g : GD} {r : List D → Ev → Option Ev} (h1 : PG X e (tG G ix g)) (h2 : PGs X es (tGs G jx r)) (hs : (assignEach (e :: es) X.env).map (·.2) = assign e X.env :: (assignEach es X.env).map (·.2) := by rfl) : PGs X (e :: es) (tGs G (ix ++ jx) (gCons' g r)) :=
  PGs_imp (pgs_cons h1 h2 hs) fun v σ H Q h => by
    obtain ⟨env, env', M, C, b0, d, er, rr, e, q⟩ := h
    cases rr with
    | nil => cases e
    | @cons v0 vs d0 ds a b =>
      obtain ⟨env1, e1, e2⟩ := Option.bind_eq_some_iff.mp e
      exact ⟨v0, vs, rfl, env, env1, M, C, b0, d0, er, a, e1, fun σ1 er1 x1 => ⟨env1, env', M, C, b0, ds, er1, b, e2, fun σ2 er2 x2 => q σ2 er2 (x1.trans x2)⟩⟩
theorem dg_tup {es : List Expr} {ix : List Nat} {k n : Nat} {r : List D → Ev → Option Ev} (hc : X.calm = true) (h : PGs X es (tGs G ix r)) (hn : (assignEach es X.env).length = n := by rfl) (hst : (assignEach es X.env).findIdx? (·.1) = none := by rfl) : PG X (.Tuple es k pos) (tG G ix (gTup' n r)) :=
  PG_imp (pg_tup hc h hn hst) fun v σ H Q h => by
    obtain ⟨env, env', M, C, b0, d, er, rr, e, q⟩ := h
    cases d with
    | tuple ds =>
      cases rr with
      | @tup a xs _ nm hr rl =>
        by_cases hl : ds.length = n
        · simp only [gTup', if_pos hl] at e
          exact ⟨a, xs, rfl, SqT.of hr, by rw [rl.length]; exact hl, env, env', M, C, b0, ds, er, rl, e, q⟩
        · simp only [gTup', if_neg hl] at e
          cases e
    | _ => cases e

/-! ### for -/
def wFor (g : GD) (f : WS) : List D → WS
  | [] => fun env De => De.nx env
  | d :: r => fun env De => ∃ env', g d env = some env' ∧ f env' { nx := fun e => wFor g f r e De, ct := fun e => wFor g f r e De, bk := De.nx, rt := De.rt }
def wForI (wi : WI) (g : GD) (f : WS) : WS := fun env De => wi env fun ds => wFor g f ds env De
theorem ds_for {iter tg : Expr} {ix : List Nat} {wi : WI} {gd : GD} (hp : PassesOwn (model X.prog X.w) X.A X.env X.xe) (hc : X.calm = true) (hi : DI X G tg iter wi ca) (hg : ∀ l, PG X tg (tG (G.more l) ix gd)) (hb : ∀ l, DSs X (G.more l) body f cb)
    (hs : ∀ x, foldedSetIterable iter X.env x = pure x := by intro _; rfl) : DS X G (.For tg iter body [] pos) (wForI wi gd f) (ca + many * cb) := by
  have hg' : PG X tg (fun v σ H Q => ∃ l, tG (G.more l) ix gd v σ H Q) := ⟨fun pins s σ H v u Q I r ⟨l, q⟩ => (hg l).run pins s σ H v u Q I r q⟩
  have hb' : PSs X body (fun T σ H => ∃ l, tS (G.more l) f cb T σ H) := ⟨fun pins s σ H T I ⟨l, q⟩ => (hb l).run pins s σ H T I q⟩
  refine PS_imp (ps_for hp hc hi hg' hb' hs) fun σ H T h => ?_
  obtain ⟨env, M, C, b0, De, hb0, er, hw, lf⟩ := h
  refine ⟨env, M, C, b0, _, by omega, er, hw, fun ds hds b00 w0 J l hb00 er0 e0 hl wk hz => ?_⟩
  have hz' := le_many (a := cb) hz
  refine ⟨fun i m σ H => m = ds.length - i ∧ i ≤ ds.length ∧ ∃ env M C b, b + m * cb ≤ b00 + ds.length * cb ∧ ER ((G.more l).at b) ⟨H, M, C⟩ env σ ∧ wFor gd f (ds.drop i) env De, ⟨ds.length, by simp, Nat.zero_le _, env, w0.M, w0.C, b00, Nat.le_refl _, er0.more hl, hds⟩, fun i m σ1 H1 hW => ?_⟩
  obtain ⟨rfl, hi1, env1, M1, C1, b1, hb1, er1, hw1⟩ := hW
  have ok1 := er1.toEH.those
  by_cases hlt : i < ds.length
  · rw [List.drop_eq_getElem_cons hlt] at hw1
    obtain ⟨env2, hg2, hw2⟩ := hw1
    have hb1' : b1 + (ds.length - (i + 1)) * cb + cb ≤ b00 + ds.length * cb := by
      rw [show ds.length - i = (ds.length - (i + 1)) + 1 by omega, Nat.add_mul, Nat.one_mul] at hb1; omega
    refine .inr ⟨wk.go ⟨H1, M1, C1⟩ i ok1 hlt, fun σ' H' => ∃ env M C b, b + (ds.length - (i + 1)) * cb ≤ b00 + ds.length * cb ∧ ER ((G.more l).at b) ⟨H', M, C⟩ env σ' ∧ wFor gd f (ds.drop (i + 1)) env De, fun σ' H' q => ⟨ds.length - (i + 1), by omega, rfl, hlt, q⟩, fun x H' hy => ?_⟩
    obtain ⟨sm, d, hd, rx⟩ := wk.yld ⟨H1, M1, C1⟩ i x H' er1.md ok1 hlt hy
    have hd' : d = ds[i] := by rw [List.getElem?_eq_getElem hlt] at hd; exact (Option.some.inj hd).symm
    subst hd'
    refine ⟨l, env1, env2, M1, C1, b1, ds[i], er1.same sm, rx, hg2, fun σ2 er2 _ => ⟨l, env2, M1, C1, b1, _, by omega, er2, hw2, ?_⟩⟩
    have lm := lf.mono (B' := b1 + cb) (by omega)
    exact ⟨fun env' q b w σ' hb er' => ⟨env', w.M, w.C, b, by omega, er', q⟩, fun dv q b w Hs v hb eh r hh => lm.rt dv q b w Hs v hb eh.fewer (by cases dv <;> exact r) hh, fun env' q b w σ' hb er' => lm.nx env' q b w σ' hb er'.fewer, fun env' q b w σ' hb er' => ⟨env', w.M, w.C, b, by omega, er', q⟩⟩
  · rw [List.drop_eq_nil_of_le (by omega)] at hw1
    have l0 : ds.length - i = 0 := by omega
    rw [l0, Nat.zero_mul] at hb1
    exact .inl ⟨wk.stop ⟨H1, M1, C1⟩ i ok1 (by omega), lf.nx env1 hw1 b1 ⟨H1, M1, C1⟩ σ1 (by omega) er1.fewer⟩
end
end DL
namespace DL
open PySem PySem.Spec PyProof.Rows L2 RZ
section
variable {X : Cx} {G : Gh} {tg e e2 : Expr} {wa : WE} {wr : WA} {ca : Nat} {pos p : Pos}
theorem walk_list {K : PySem.W.Frag} {a : Addr} {ds : List D} : Walk (Itl K a) [fx (.ref a) (.list ds)] ds where
  go := fun w i h hi => by
    cases h _ (List.mem_singleton.mpr rfl) with
    | @lst _ xs _ _ hr rl => exact ⟨xs, xs[i]'(by rw [rl.length]; exact hi), SqL.of hr, List.getElem?_eq_getElem _⟩
  stop := fun w i h hi => by
    cases h _ (List.mem_singleton.mpr rfl) with
    | @lst _ xs _ _ hr rl => exact ⟨xs, SqL.of hr, by rw [rl.length]; exact hi⟩
  yld := fun w i x H' wk h hi hy => by
    obtain ⟨rfl, q⟩ := hy
    cases h _ (List.mem_singleton.mpr rfl) with
    | @lst _ xs _ _ hr rl =>
      obtain ⟨d, h1, h2⟩ := rl.getV (q xs (SqL.of hr))
      exact ⟨Same.refl _, d, h1, h2⟩
theorem walk_tup {K : PySem.W.Frag} {a : Addr} {ds : List D} : Walk (Itt K a) [fx (.ref a) (.tuple ds)] ds where
  go := fun w i h hi => by
    cases h _ (List.mem_singleton.mpr rfl) with
    | @tup _ xs _ _ hr rl => exact ⟨xs, xs[i]'(by rw [rl.length]; exact hi), SqT.of hr, List.getElem?_eq_getElem _⟩
  stop := fun w i h hi => by
    cases h _ (List.mem_singleton.mpr rfl) with
    | @tup _ xs _ _ hr rl => exact ⟨xs, SqT.of hr, by rw [rl.length]; exact hi⟩
  yld := fun w i x H' wk h hi hy => by
    obtain ⟨rfl, q⟩ := hy
    cases h _ (List.mem_singleton.mpr rfl) with
    | @tup _ xs _ _ hr rl =>
      obtain ⟨d, h1, h2⟩ := rl.getV (q xs (SqT.of hr))
      exact ⟨Same.refl _, d, h1, h2⟩
def rangeD (lo : Int) (n : Nat) : List D := (List.range n).map fun i => .int (lo + (i : Nat))
theorem rangeD_length (lo : Int) (n : Nat) : (rangeD lo n).length = n := by simp [rangeD]
theorem walk_range (lo : Int) (n : Nat) : Walk (Itr lo n) [] (rangeD lo n) where
  go := fun w i h hi => by rw [rangeD_length] at hi; exact hi
  stop := fun w i h hi => by rw [rangeD_length] at hi; exact hi
  yld := fun w i x H' wk h hi hy => by
    obtain ⟨rfl, rfl⟩ := hy
    rw [rangeD_length] at hi
    refine ⟨Same.refl _, .int (lo + i), ?_, .int _⟩
    simp [rangeD, hi]
theorem zip_get {α : Type} {f : D → D → α} {a b : List D} {i : Nat} {x y : D} (h1 : a[i]? = some x) (h2 : b[i]? = some y) : (List.zipWith f a b)[i]? = some (f x y) := by
  rw [List.getElem?_zipWith, h1, h2]
def pairD (x y : D) : D := .tuple [x, y]
theorem zip_lt {a b : List D} {i : Nat} (h : i < (List.zipWith pairD a b).length) : i < a.length ∧ i < b.length := by
  rw [List.length_zipWith] at h; omega
theorem newPair {w : Wd} (k : Wk w) {T : Addr} {x y : V} {d e : D} (n : w.H T = none) (r1 : Rp w x d) (r2 : Rp w y e) : Rp ⟨upd w.H T (.tup [x, y]), w.M, w.C⟩ (.ref T) (pairD d e) := newT k n (.cons r1 (.cons r2 .nil))
theorem walk_zipL {K : PySem.W.Frag} {a b : Addr} {ds es : List D} : Walk (Itz K a b) [fx (.ref a) (.list ds), fx (.ref b) (.list es)] (List.zipWith pairD ds es) where
  go := fun w i h hi => by
    obtain ⟨l1, l2⟩ := zip_lt hi
    cases h _ (List.mem_cons_self ..) with
    | @lst _ xs _ _ hr rl =>
      cases h _ (List.mem_cons_of_mem _ (List.mem_singleton.mpr rfl)) with
      | @lst _ ys _ _ hr2 rl2 => exact ⟨xs, ys, xs[i]'(by rw [rl.length]; exact l1), ys[i]'(by rw [rl2.length]; exact l2), SqL.of hr, SqL.of hr2, List.getElem?_eq_getElem _, List.getElem?_eq_getElem _⟩
  stop := fun w i h hi => by
    rw [List.length_zipWith] at hi
    cases h _ (List.mem_cons_self ..) with
    | @lst _ xs _ _ hr rl =>
      cases h _ (List.mem_cons_of_mem _ (List.mem_singleton.mpr rfl)) with
      | @lst _ ys _ _ hr2 rl2 =>
        refine ⟨xs, ys, SqL.of hr, SqL.of hr2, ?_⟩
        rw [rl.length, rl2.length]; omega
  yld := fun w i x H' wk h hi hy => by
    obtain ⟨T, x1, y1, rfl, nT, rfl, q1, q2⟩ := hy
    cases h _ (List.mem_cons_self ..) with
    | @lst _ xs _ _ hr rl =>
      cases h _ (List.mem_cons_of_mem _ (List.mem_singleton.mpr rfl)) with
      | @lst _ ys _ _ hr2 rl2 =>
        obtain ⟨d1, g1, r1⟩ := rl.getV (q1 xs (SqL.of hr))
        obtain ⟨d2, g2, r2⟩ := rl2.getV (q2 ys (SqL.of hr2))
        exact ⟨same_new nT, pairD d1 d2, zip_get g1 g2, newPair wk nT r1 r2⟩
theorem walk_zipT {K : PySem.W.Frag} {a b : Addr} {ds es : List D} : Walk (ItzT K a b) [fx (.ref a) (.tuple ds), fx (.ref b) (.tuple es)] (List.zipWith pairD ds es) where
  go := fun w i h hi => by
    obtain ⟨l1, l2⟩ := zip_lt hi
    cases h _ (List.mem_cons_self ..) with
    | @tup _ xs _ _ hr rl =>
      cases h _ (List.mem_cons_of_mem _ (List.mem_singleton.mpr rfl)) with
      | @tup _ ys _ _ hr2 rl2 => exact ⟨xs, ys, xs[i]'(by rw [rl.length]; exact l1), ys[i]'(by rw [rl2.length]; exact l2), SqT.of hr, SqT.of hr2, List.getElem?_eq_getElem _, List.getElem?_eq_getElem _⟩
  stop := fun w i h hi => by
    rw [List.length_zipWith] at hi
    cases h _ (List.mem_cons_self ..) with
    | @tup _ xs _ _ hr rl =>
      cases h _ (List.mem_cons_of_mem _ (List.mem_singleton.mpr rfl)) with
      | @tup _ ys _ _ hr2 rl2 =>
        refine ⟨xs, ys, SqT.of hr, SqT.of hr2, ?_⟩
        rw [rl.length, rl2.length]; omega
  yld := fun w i x H' wk h hi hy => by
    obtain ⟨T, x1, y1, rfl, nT, rfl, q1, q2⟩ := hy
    cases h _ (List.mem_cons_self ..) with
    | @tup _ xs _ _ hr rl =>
      cases h _ (List.mem_cons_of_mem _ (List.mem_singleton.mpr rfl)) with
      | @tup _ ys _ _ hr2 rl2 =>
        obtain ⟨d1, g1, r1⟩ := rl.getV (q1 xs (SqT.of hr))
        obtain ⟨d2, g2, r2⟩ := rl2.getV (q2 ys (SqT.of hr2))
        exact ⟨same_new nT, pairD d1 d2, zip_get g1 g2, newPair wk nT r1 r2⟩
def enumD : Nat → List D → List D
  | _, [] => []
  | i, d :: r => pairD (.int (i : Nat)) d :: enumD (i + 1) r
theorem enumD_length : ∀ (i : Nat) (ds : List D), (enumD i ds).length = ds.length
  | _, [] => rfl
  | i, d :: r => by rw [enumD, List.length_cons, List.length_cons, enumD_length]
theorem enumD_get : ∀ (i : Nat) (ds : List D) (j : Nat) (d : D), ds[j]? = some d → (enumD i ds)[j]? = some (pairD (.int ((i + j : Nat) : Int)) d)
  | _, [], _, _, h => by simp at h
  | i, d :: r, 0, _, h => by simp at h; subst h; rfl
  | i, d :: r, j + 1, _, h => by
    simp only [List.getElem?_cons_succ] at h
    simp only [enumD, List.getElem?_cons_succ]
    rw [enumD_get (i + 1) r j _ h, show i + 1 + j = i + (j + 1) by omega]
theorem walk_enumL {K : PySem.W.Frag} {a : Addr} {ds : List D} : Walk (Ite K a) [fx (.ref a) (.list ds)] (enumD 0 ds) where
  go := fun w i h hi => by
    rw [enumD_length] at hi
    cases h _ (List.mem_singleton.mpr rfl) with
    | @lst _ xs _ _ hr rl => exact ⟨xs, xs[i]'(by rw [rl.length]; exact hi), SqL.of hr, List.getElem?_eq_getElem _⟩
  stop := fun w i h hi => by
    rw [enumD_length] at hi
    cases h _ (List.mem_singleton.mpr rfl) with
    | @lst _ xs _ _ hr rl => exact ⟨xs, SqL.of hr, by rw [rl.length]; exact hi⟩
  yld := fun w i x H' wk h hi hy => by
    obtain ⟨T, x1, rfl, nT, rfl, q⟩ := hy
    cases h _ (List.mem_singleton.mpr rfl) with
    | @lst _ xs _ _ hr rl =>
      obtain ⟨d, h1, h2⟩ := rl.getV (q xs (SqL.of hr))
      have g := enumD_get 0 ds i d h1
      rw [Nat.zero_add] at g
      exact ⟨same_new nT, _, g, newPair wk nT (.int _) h2⟩

theorem PI_imp {tg iter : Expr} {t t' : TI} (h : PI X tg iter t) (i : ∀ σ H R, t' σ H R → t σ H R) : PI X tg iter t' := ⟨fun pins s σ H R I q => h.run pins s σ H R I (i σ H R q)⟩
/-- lists and tuples have their bounds -/
def Szd (H : Hp) : Prop := (∀ a xs, H a = some (.lst xs) → xs.length ≤ sizeLine) ∧ ∀ a xs, H a = some (.tup xs) → xs.length ≤ sizeLine
theorem szd_of {pins : List (Addr × Obj)} {σ : L2.St} {H : Hp} {s : Shared} (I : Inv X pins σ H s) : Szd H := ⟨fun a xs h => (I.hok a _ h).1, fun a xs h => (I.hok a _ h).1⟩
theorem size_many {n : Nat} (h : n ≤ sizeLine) : n ≤ many := Nat.le_trans h (by decide +kernel)
theorem PI_sz {tg iter : Expr} {t t' : TI} (h : PI X tg iter t) (i : ∀ σ H R, t' σ H R → t σ H fun J H1 => Szd H1 → R J H1) : PI X tg iter t' := ⟨fun pins s σ H R I q => thn (h.run pins s σ H _ I (i σ H R q)) fun v s1 hq => thn hq fun itv s2 pie => by
  obtain ⟨it, fp, tn, J, H', e, I', T, z, f, r⟩ := pie
  exact ⟨it, fp, tn, J, H', e, I', T, z, f, r (szd_of I')⟩⟩
/-- what a list or a tuple holds -/
def seqD : D → Option (List D)
  | .list ds => some ds
  | .tuple ds => some ds
  | _ => none
def wSrc (wa : WE) : WI := fun env P => wa env fun x => ∃ ds, x.kept.bind seqD = some ds ∧ P ds
theorem di_val (he : DE X G e wa ca) : DI X G tg e (wSrc wa) ca := by
  refine ⟨fun pins s σ H R I h => ?_⟩
  obtain ⟨env, M, C, b0, P, hb0, er, hw, hf⟩ := h
  refine thn (he.run pins s σ H (fun v H1 => ∃ w' d ds, w'.H = H1 ∧ Rp w' v d ∧ seqD d = some ds ∧ ∀ (J : It) (l : List Fx), (∀ p ∈ l, p.P w') → Walk J l ds → ds.length ≤ many → R J H1) I ⟨env, M, C, b0, _, hb0, er, hw, fun dv hd b' w' v hb' er' e' r => ?_⟩) fun u s1 hq => ?_
  · obtain ⟨ds, h1, p⟩ := hd
    obtain ⟨d, h2, h3⟩ := Option.bind_eq_some_iff.mp h1
    exact ⟨w', d, ds, rfl, r.rp h2, h3, fun J l hl wk hz => hf ds p b' w' J l hb' er' e' hl wk hz⟩
  · obtain ⟨x, H1, I1, r1, w', d, ds, rfl, rp, hd, go⟩ := hq
    have fin : ∀ b, b ∈ [s1.heap.objs.size] → FpOk X pins w'.H b := fun b hb => by
      have eb : b = s1.heap.objs.size := List.mem_singleton.mp hb
      rw [eb]
      exact I1.fpOk (Nat.le_refl _) (I1.hok.fresh (Nat.le_refl _))
    cases d with
    | list ds' =>
      cases hd
      cases rp with
      | @lst a xs _ nm hr rl =>
        cases r1
        obtain ⟨its, rv, pl, _⟩ := I1.list (SqL.of hr)
        refine wpAny_pyIter_list pl.isList ⟨_, [s1.heap.objs.size], _, Itl X.K a, w'.H, rfl, I1.kept (t' := s1.toks) fun b o q => Heap.get?_push_of_some _ q, turn_list a _, ⟨_, Heap.get?_push_size _ rfl, rfl, rfl⟩, fin, ?_⟩
        exact go _ [fx (.ref a) (.list ds)] (fun p hp => by rw [List.mem_singleton.mp hp]; exact .lst nm hr rl) walk_list (by rw [← rl.length]; exact size_many ((szd_of I1).1 _ _ hr))
    | tuple ds' =>
      cases hd
      cases rp with
      | @tup a xs _ nm hr rl =>
        cases r1
        obtain ⟨its, rv, pl, _⟩ := I1.tuple (SqT.of hr)
        refine wpAny_pyIter_tuple (show s1.heap.IsTuple a its.toArray from pl) ⟨_, [s1.heap.objs.size], _, Itt X.K a, w'.H, rfl, I1.kept (t' := s1.toks) fun b o q => Heap.get?_push_of_some _ q, turn_tuple a _, ⟨_, Heap.get?_push_size _ rfl, rfl, rfl⟩, fin, ?_⟩
        exact go _ [fx (.ref a) (.tuple ds)] (fun p hp => by rw [List.mem_singleton.mp hp]; exact .tup nm hr rl) walk_tup (by rw [← rl.length]; exact size_many ((szd_of I1).2 _ _ hr))
    | _ => cases hd
/-- range(n), range(a, b) -/
def rng1 : List D → Option (List D)
  | [.int j] => if -(2 ^ 62) ≤ j ∧ j < 2 ^ 62 then some (rangeD 0 j.toNat) else none
  | _ => none
def rng2 : List D → Option (List D)
  | [.int i, .int j] => if -(2 ^ 62) ≤ i ∧ i < 2 ^ 62 ∧ -(2 ^ 62) ≤ j ∧ j < 2 ^ 62 then some (rangeD i (j - i).toNat) else none
  | _ => none
def wRng (f : List D → Option (List D)) (wr : WA) : WI := fun env P => wr env fun xs => ∃ ds, (valL xs).bind f = some ds ∧ P ds
theorem tA.src {K : Ev → List Dv → (List D → Prop) → Prop} {σ : L2.St} {H : Hp} {R : It → Hp → Prop} {R' : List V → Hp → Prop} (h : tI G (fun env P => wr env fun x => K env x P) ca σ H R)
    (fin : ∀ {b : Nat} env w x dx P, ER (G.at b) w env σ → VRs G H w x dx → K env dx P → (∀ ds, P ds → ∀ (J : It) (l : List Fx), (∀ p ∈ l, p.P w) → Walk J l ds → ds.length ≤ many → R J w.H) → R' x w.H) : tA G wr ca σ H R' := by
  obtain ⟨env, M, C, b0, P, hb0, er, hw, hf⟩ := h
  exact ⟨env, M, C, b0, _, hb0, er, hw, fun dx hx b1 w1 x hb1 er1 e1 r1 => fin env w1 x dx P er1 r1 hx fun ds p J l hl wk hz => hf ds p b1 w1 J l hb1 er1 e1 hl wk hz⟩
theorem rng1_get {es ds : List D} (h : rng1 es = some ds) : ∃ j, es = [.int j] ∧ (-(2 ^ 62) ≤ j ∧ j < 2 ^ 62) ∧ ds = rangeD 0 j.toNat := by
  unfold rng1 at h
  split at h
  · obtain ⟨c, rfl⟩ := of_if h
    exact ⟨_, rfl, c, rfl⟩
  · cases h
theorem rng2_get {es ds : List D} (h : rng2 es = some ds) : ∃ i j, es = [.int i, .int j] ∧ (-(2 ^ 62) ≤ i ∧ i < 2 ^ 62 ∧ -(2 ^ 62) ≤ j ∧ j < 2 ^ 62) ∧ ds = rangeD i (j - i).toNat := by
  unfold rng2 at h
  split at h
  · obtain ⟨c, rfl⟩ := of_if h
    exact ⟨_, _, rfl, c, rfl⟩
  · cases h
theorem di_range1 (hg : Gl X "range") (hm : X.mg "range" = none) (ha : DA X G [e] wr ca) (hs : starEach [e] X.env = [(false, eval e X.env)] := by rfl) : DI X G tg (.Call (.Name "range" p) [e] [] pos) (wRng rng1 wr) ca :=
  PI_imp (pi_range1 hg hm ha hs) fun σ H R h => tA.src h fun env w xs dxs P er rs k go => by
    obtain ⟨ds, h1, pp⟩ := k
    obtain ⟨es, h2, h3⟩ := Option.bind_eq_some_iff.mp h1
    obtain ⟨j, rfl, c, rfl⟩ := rng1_get h3
    cases rs.rq h2 with
    | cons a b =>
      cases a; cases b
      exact ⟨j, rfl, c.1, c.2, go _ pp _ [] (fun p hp => nomatch hp) (walk_range 0 j.toNat) (by rw [rangeD_length]; show j.toNat ≤ 2 ^ 64; omega)⟩
theorem di_range2 (hg : Gl X "range") (hm : X.mg "range" = none) (ha : DA X G [e, e2] wr ca) (hs : starEach [e, e2] X.env = [(false, eval e X.env), (false, eval e2 X.env)] := by rfl) (hs2 : starEach [e2] X.env = [(false, eval e2 X.env)] := by rfl) : DI X G tg (.Call (.Name "range" p) [e, e2] [] pos) (wRng rng2 wr) ca :=
  PI_imp (pi_range2 hg hm ha hs hs2) fun σ H R h => tA.src h fun env w xs dxs P er rs k go => by
    obtain ⟨ds, h1, pp⟩ := k
    obtain ⟨es, h2, h3⟩ := Option.bind_eq_some_iff.mp h1
    obtain ⟨i, j, rfl, c, rfl⟩ := rng2_get h3
    cases rs.rq h2 with
    | cons a b =>
      cases a
      cases b with
      | cons a b =>
        cases a; cases b
        exact ⟨i, j, rfl, c, go _ pp _ [] (fun p hp => nomatch hp) (walk_range i _) (by rw [rangeD_length]; show (j - i).toNat ≤ 2 ^ 64; omega)⟩
/-- zip of two lists, of two tuples -/
def zipD : List D → Option (List D)
  | [.list a, .list b] => some (List.zipWith pairD a b)
  | [.tuple a, .tuple b] => some (List.zipWith pairD a b)
  | _ => none
def wZip (wr : WA) : WI := fun env P => wr env fun xs => ∃ ds, (keptL xs).bind zipD = some ds ∧ P ds
theorem di_zip {elts : List Expr} {kk : Nat} {tpos : Pos} (hg : Gl X "zip") (hm : X.mg "zip" = none) (ha : DA X G [e, e2] wr ca) (hs : starEach [e, e2] X.env = (false, eval e X.env) :: starEach [e2] X.env := by rfl) (hpl : (backTo pos (starEach [e2] X.env)).any (·.1) = false := by rfl) :
    DI X G (.Tuple elts kk tpos) (.Call (.Name "zip" p) [e, e2] [] pos) (wZip wr) ca :=
  PI_sz (pi_zipA hg hm ha hs hpl) fun σ H R h => tA.src h fun env w xs dxs P er rs k go => by
    obtain ⟨ds, h1, pp⟩ := k
    obtain ⟨es, h2, h3⟩ := Option.bind_eq_some_iff.mp h1
    have rp := rs.rp h2
    unfold zipD at h3
    split at h3
    · cases h3
      cases rp with
      | cons a b =>
        cases b with
        | cons a2 b =>
          cases b
          have w1 := a
          have w2 := a2
          cases a with
          | lst n1 g1 q1 =>
            cases a2 with
            | lst n2 g2 q2 =>
              exact ⟨_, _, _, _, rfl, .inl ⟨SqL.of g1, SqL.of g2, fun sz => go _ pp _ _ (fun p hp => by
                rcases List.mem_cons.mp hp with rfl | hp
                · exact w1
                · rw [List.mem_singleton.mp hp]; exact w2) walk_zipL (by rw [List.length_zipWith, ← q1.length]; exact Nat.le_trans (Nat.min_le_left _ _) (size_many (sz.1 _ _ g1)))⟩⟩
    · cases h3
      cases rp with
      | cons a b =>
        cases b with
        | cons a2 b =>
          cases b
          have w1 := a
          have w2 := a2
          cases a with
          | tup n1 g1 q1 =>
            cases a2 with
            | tup n2 g2 q2 =>
              exact ⟨_, _, _, _, rfl, .inr ⟨SqT.of g1, SqT.of g2, fun sz => go _ pp _ _ (fun p hp => by
                rcases List.mem_cons.mp hp with rfl | hp
                · exact w1
                · rw [List.mem_singleton.mp hp]; exact w2) walk_zipT (by rw [List.length_zipWith, ← q1.length]; exact Nat.le_trans (Nat.min_le_left _ _) (size_many (sz.2 _ _ g1)))⟩⟩
    · cases h3
end
end DL
namespace DL
open PySem PySem.Spec PyProof.Rows L2

def wipeE (env : Ev) : List Nat → Ev
  | [] => env
  | v :: vs => (wipeE env vs).set v .no
theorem ER.wipe {G : Gh} {w : Wd} {env : Ev} {σ : L2.St} (er : ER G w env σ) : ∀ vs : List Nat, ER G w (wipeE env vs) (L2.wipe σ vs)
  | [] => er
  | v :: vs => (ER.wipe er vs).setNo v
theorem wipe_in {σ : L2.St} {i : Nat} : ∀ {vs : List Nat}, i ∈ vs → i < σ.length → (L2.wipe σ vs)[i]? = some none
  | v :: vs, h, hl => by
    unfold L2.wipe
    by_cases e : v = i
    · subst e
      rw [List.getElem?_set_self (by rw [wipe_length]; exact hl)]
    · rw [List.getElem?_set_ne e]
      rcases List.mem_cons.mp h with q | q
      · exact absurd q.symm e
      · exact wipe_in q hl
theorem wipe_eqx {σ σ' : L2.St} {ix vs : List Nat} (h : Eqx ix (L2.wipe σ vs) σ') (hs : ∀ i ∈ ix, i ∈ vs) : L2.wipe σ' vs = L2.wipe σ vs := by
  have hl : σ'.length = σ.length := by rw [h.1, wipe_length]
  refine List.ext_getElem? fun i => ?_
  by_cases hi : i ∈ vs
  · by_cases hb : i < σ.length
    · rw [wipe_in hi (by rw [hl]; exact hb), wipe_in hi hb]
    · rw [List.getElem?_eq_none (by rw [wipe_length]; omega), List.getElem?_eq_none (by rw [wipe_length]; omega)]
  · rw [wipe_out hi]
    exact h.2 i fun z => hi (hs i z)
theorem EH.poke {G : Gh} {w : Wd} {a : Addr} {o : HO} (h : EH G w) (m : w.M a) (c : ¬ w.C a) (p : G.Pt a = none) (nt : ∀ xs, o ≠ .tup xs) : EH G ⟨upd w.H a o, w.M, w.C⟩ := by
  have ne : ∀ b x, G.Pt b = some x → b ≠ a := fun b x q z => by rw [z, p] at q; cases q
  have st : St1 w ⟨upd w.H a o, w.M, w.C⟩ := ⟨fun b x n q => .inl (by show upd w.H a o b = some x; rw [upd_ne (fun z => n (by rw [z]; exact m))]; exact q), fun b m => .inl m⟩
  have up : ∀ b, w.H b ≠ none → upd w.H a o b ≠ none := fun b q => by
    by_cases z : b = a
    · rw [z, upd_same]; simp
    · rw [upd_ne z]; exact q
  refine ⟨fun b x q => ?_, h.m0, h.nc, h.cp, h.cm, fun b q => up b (h.md b q), fun b q => up b (h.hd b q), fun p hp => p.st _ _ st (h.gk p hp), G.stab _ _ _ _ h.si fun b x q z => ?_, fun b xs q z => ?_⟩
  · show upd w.H a o b = some x ∨ _
    rw [upd_ne (ne b x q)]
    exact (h.kp b x q).elim .inl fun ⟨q1, q2, ob, q3⟩ => .inr ⟨q1, q2, ob, by show upd w.H a o b = _; rw [upd_ne (ne b x q)]; exact q3⟩
  · show upd w.H a o b = some x
    rw [upd_ne (fun y => c (by rw [← y]; exact q))]; exact z
  · have z' : upd w.H a o b = some (.tup xs) := z
    by_cases y : b = a
    · rw [y, upd_same] at z'; exact nt xs (Option.some.inj z')
    · rw [upd_ne y] at z'; exact h.mt b xs q z'
section
variable {X : Cx} {G : Gh} {elt tg iter : Expr} {ifs : List Expr} {scope : Scope} {own : List (Str × Nat)} {pos : Pos} {ix : List Nat} {wi : WI} {gd : GD} {wt : WT} {we : WE} {ci ct ce : Nat}
def wYes : WT := fun _ P => P true
theorem dts_nil : PTs X [] (tT G wYes 0) := ⟨fun pins s σ H Q I h => pts_nil.run pins s σ H Q I (by
  obtain ⟨env, M, C, b0, P, hb0, er, p, hf⟩ := h
  exact hf _ p b0 _ (Nat.le_refl _) er (Ext.refl _))⟩
theorem dts_one {c : Expr} (h : DT X G c wt ct) : PTs X [c] (tT G wt ct) := pts_one h
def wLcL (gd : GD) (wt : WT) (we : WE) (env : Ev) (P : Dv → Prop) : List D → List D → Prop
  | [], acc => P (.nw (.list acc))
  | d :: r, acc => ∃ env', gd d env = some env' ∧ wt env' fun b => if b = true then we env' fun y => ∃ dy, y.kept = some dy ∧ acc.length < sizeLine ∧ wLcL gd wt we env P r (acc ++ [dy]) else wLcL gd wt we env P r acc
def wLc (wi : WI) (gd : GD) (wt : WT) (we : WE) (vs : List Nat) : WE := fun env P => wi env fun ds => wLcL gd wt we (wipeE env vs) P ds []
/-- the readings with the values that are walked kept aside -/
def gE (G : Gh) (ix : List Nat) (gd : GD) : TG := fun v σ H Q => ∃ l, tG (G.more l) ix gd v σ H Q
def ttE (G : Gh) (wt : WT) (ct : Nat) : TT := fun σ H Q => ∃ l, tT (G.more l) wt ct σ H Q
def teE (G : Gh) (we : WE) (ce : Nat) : TE := fun σ H Q => ∃ l, tV (G.more l) we ce σ H Q
theorem rdLc {vs : List Nat} {σ : L2.St} {H : Hp} {Q : VK} (h : tV G (wLc wi gd wt we vs) (ci + many * (ct + ce)) σ H Q) (hix : ∀ i ∈ ix, i ∈ vs) : tLc (tI G wi ci) (gE G ix gd) (ttE G wt ct) (teE G we ce) vs σ H Q := by
  obtain ⟨env, M, C, b0, P, hb0, er, hw, hf⟩ := h
  refine ⟨env, M, C, b0, _, by omega, er, hw, fun ds hds b1 w1 J l hb1 er1 e1 hl wk hz L nL => ?_⟩
  have hz' := le_many (a := ct + ce) hz
  have nM1 : ¬ w1.M L := fun m => er1.md L m nL
  have nC1 : ¬ w1.C L := fun c => nM1 (er1.cm L c)
  have pL : G.Pt L = none := by
    cases q : G.Pt L with
    | none => rfl
    | some x => rcases er1.kp L x q with z | ⟨_, _, ob, z⟩ <;> (rw [nL] at z; cases z)
  refine ⟨fun i m H => m = ds.length - i ∧ i ≤ ds.length ∧ ∃ (M C : Addr → Prop) (b : Nat) (accV : List V) (acc : List D), b + m * (ct + ce) ≤ b1 + ds.length * (ct + ce) ∧ ER ((G.more l).at b) ⟨H, M, C⟩ (wipeE env vs) (L2.wipe σ vs) ∧ Ext w1 ⟨H, M, C⟩ ∧ M L ∧ ¬ C L ∧ H L = some (.lst accV) ∧ RpL ⟨H, M, C⟩ accV acc ∧ wLcL gd wt we (wipeE env vs) P (ds.drop i) acc, ?_, fun i m H2 hW => ?_⟩
  · refine ⟨ds.length, by simp, Nat.zero_le _, fun b => w1.M b ∨ b = L, w1.C, b1, [], [], Nat.le_refl _, ?_, ?_, .inr rfl, nC1, upd_same, .nil, hds⟩
    · exact ((er1.more hl).ext' (Ext.plus (same_new nL) nL) ((er1.more hl).toEH.plus (same_new nL) nL (by rw [upd_same]; simp) (fun _ => by rw [upd_same]; exact fun z => nomatch z))).wipe vs
    · exact Ext.plus (same_new nL) nL
  · obtain ⟨rfl, hi, M2, C2, b2, accV, acc, hb2, er2, e2, mL, cL, hL, rl, hw2⟩ := hW
    have ok2 := er2.toEH.those
    by_cases hlt : i < ds.length
    · rw [List.drop_eq_getElem_cons hlt] at hw2
      obtain ⟨env3, hg3, hw3⟩ := hw2
      have hb2' : b2 + (ds.length - (i + 1)) * (ct + ce) + (ct + ce) ≤ b1 + ds.length * (ct + ce) := by
        rw [show ds.length - i = (ds.length - (i + 1)) + 1 by omega, Nat.add_mul, Nat.one_mul] at hb2; omega
      refine .inr ⟨wk.go ⟨H2, M2, C2⟩ i ok2 hlt, fun H' => ∃ (M C : Addr → Prop) (b : Nat) (accV : List V) (acc : List D), b + (ds.length - (i + 1)) * (ct + ce) ≤ b1 + ds.length * (ct + ce) ∧ ER ((G.more l).at b) ⟨H', M, C⟩ (wipeE env vs) (L2.wipe σ vs) ∧ Ext w1 ⟨H', M, C⟩ ∧ M L ∧ ¬ C L ∧ H' L = some (.lst accV) ∧ RpL ⟨H', M, C⟩ accV acc ∧ wLcL gd wt we (wipeE env vs) P (ds.drop (i + 1)) acc,
        fun H' q => ⟨ds.length - (i + 1), by omega, rfl, hlt, q⟩, fun x H' hy => ?_⟩
      obtain ⟨sm, d, hd, rx⟩ := wk.yld ⟨H2, M2, C2⟩ i x H' er2.md ok2 hlt hy
      have hd' : d = ds[i] := by rw [List.getElem?_eq_getElem hlt] at hd; exact (Option.some.inj hd).symm
      subst hd'
      have hL' : H' L = some (.lst accV) := sm _ _ hL
      refine ⟨l, wipeE env vs, env3, M2, C2, b2, ds[i], er2.same sm, rx, hg3, fun σ3 er3 x3 => ⟨wipe_eqx x3 hix, l, env3, M2, C2, b2, _, by omega, er3, hw3, fun b hb b4 w4 hb4 er4 e4 => ?_⟩⟩
      have ex4 : Ext w1 w4 := (e2.trans (Ext.same (w := ⟨H2, M2, C2⟩) sm)).trans e4
      have cL4 : ¬ w4.C L := fun c => (e4.newC L c).elim cL fun q => by have q' : H' L = none := q; rw [hL'] at q'; cases q'
      have hL4 : w4.H L = some (.lst accV) := e4.own (w := ⟨H', M2, C2⟩) cL mL hL'
      have rl4 : RpL w4 accV acc := (rl.st (St1.same (w := ⟨H2, M2, C2⟩) sm)).st (e4.st er3.cm)
      have back : ∀ {b5 : Nat} {w5 : Wd}, EH ((G.more l).at b5) w5 → Ext w1 w5 → ER ((G.more l).at b5) w5 (wipeE env vs) (L2.wipe σ vs) := fun {b5 w5} eh5 e5 => by
        have z := ((er1.wipe vs).ext' e5 eh5.fewer)
        exact ⟨eh5, z.len, z.sl, z.od⟩
      cases b with
      | false =>
        rw [if_neg Bool.false_ne_true] at hb
        refine iteF ?_
        exact ⟨w4.M, w4.C, b4, accV, acc, by omega, back er4.toEH ex4, ex4, e4.oldM L mL, cL4, hL4, rl4, hb⟩
      | true =>
        rw [if_pos rfl] at hb
        refine iteT ?_
        refine ⟨l, env3, w4.M, w4.C, b4, _, by omega, er4, hb, fun y hy b5 w5 v5 hb5 er5 e5 r5 => ?_⟩
        obtain ⟨dy, hk, hz5, hn⟩ := hy
        have ex5 := ex4.trans e5
        have mL4 : w4.M L := e4.oldM L mL
        have cL5 : ¬ w5.C L := fun c => (e5.newC L c).elim cL4 fun q => by rw [hL4] at q; cases q
        have hL5 : w5.H L = some (.lst accV) := e5.own cL4 mL4 hL4
        have mL5 : w5.M L := e5.oldM L mL4
        have rl5 : RpL w5 accV acc := rl4.st (e5.st er4.cm)
        have ry : Rp w5 v5 dy := r5.rp hk
        have ex6 : Ext w1 ⟨upd w5.H L (.lst (accV ++ [v5])), w5.M, w5.C⟩ := by
          refine ⟨fun a o n h => ?_, fun a h => ?_, ex5.newC, ex5.newM, ex5.oldM⟩
          · have ne : a ≠ L := fun z => by rw [z, nL] at h; cases h
            show upd w5.H L _ a = some o ∨ _
            rw [upd_ne ne]
            exact (ex5.keep a o n h).elim .inl fun ⟨q1, q2, ob, q3⟩ => .inr ⟨q1, q2, ob, by show upd w5.H L _ a = _; rw [upd_ne ne]; exact q3⟩
          · have ne : a ≠ L := fun z => h (by rw [z]; exact nL)
            show upd w5.H L _ a ≠ none
            rw [upd_ne ne]
            exact ex5.dom a h
        have st : St1 w5 ⟨upd w5.H L (.lst (accV ++ [v5])), w5.M, w5.C⟩ := ⟨fun a o n h => .inl (by show upd w5.H L _ a = some o; rw [upd_ne (fun z => n (by rw [z]; exact mL5))]; exact h), fun a m => .inl m⟩
        exact ⟨accV, hL5, by rw [rl5.length]; exact hz5, w5.M, w5.C, b5, accV ++ [v5], acc ++ [dy], by omega, back (er5.toEH.poke mL5 cL5 pL (fun _ z => nomatch z)) ex6, ex6, mL5, cL5, upd_same, (rl5.append (.cons ry .nil)).st st, hn⟩
    · rw [List.drop_eq_nil_of_le (by omega)] at hw2
      refine .inl ⟨wk.stop ⟨H2, M2, C2⟩ i ok2 (by omega), ?_⟩
      -- the new list is nobody's own any more
      have eh := er2.toEH.fewer
      have nw1 : ∀ a, w1.M a → a ≠ L := fun a m z => nM1 (by rw [← z]; exact m)
      have st : St1 ⟨H2, M2, C2⟩ ⟨H2, fun a => M2 a ∧ a ≠ L, C2⟩ := ⟨fun a o _ h => .inl h, fun a m => .inl m.1⟩
      have ex : Ext w1 ⟨H2, fun a => M2 a ∧ a ≠ L, C2⟩ := ⟨fun a o n h => e2.keep a o n h, e2.dom, e2.newC, fun a m => e2.newM a m.1, fun a m => ⟨e2.oldM a m, nw1 a m⟩⟩
      have eh' : EH (G.at b2) ⟨H2, fun a => M2 a ∧ a ≠ L, C2⟩ := ⟨eh.kp, fun a m => ⟨eh.m0 a m, nw1 a (er1.m0 a m)⟩, eh.nc, eh.cp, fun a c => ⟨eh.cm a c, fun z => cL (by rw [← z]; exact c)⟩, fun a m => eh.md a m.1, eh.hd, fun p hp => p.st _ _ st (eh.gk p hp), eh.si, fun a xs m => eh.mt a xs m.1⟩
      have st2 : St1 ⟨H2, M2, C2⟩ (Wd.plus ⟨H2, fun a => M2 a ∧ a ≠ L, C2⟩ L) := ⟨fun a o _ h => .inl h, fun a m => .inl (Or.elim m (fun q => q.1) fun q => by rw [q]; exact mL)⟩
      refine hf _ hw2 b2 ⟨H2, fun a => M2 a ∧ a ≠ L, C2⟩ _ (by rw [show ds.length - i = 0 by omega, Nat.zero_mul] at hb2; omega) (er1.ext' ex eh') (e1.trans ex) ⟨L, rfl, e1.free nL, ⟨fun t => (nomatch t), fun m => (m.2 rfl).elim⟩, cL, .lst hL (rl.st st2)⟩
theorem de_lc {vs : List Nat} (hc : X.calm = true) (hN : X.N.Nodup) (hi : DI X G tg iter wi ci) (ok : BlkOk X.N X.env.scope scope own)
    (hg : ∀ (l : List Fx) (s : Shared) (H : Hp) (C : Addr) (cl : List (Str × Addr)) (fp : List Addr), PG (X.blk s H scope (compEnvC scope cl C X.env) fp) tg (tG (G.more l) ix gd))
    (ht : ∀ (l : List Fx) (s : Shared) (H : Hp) (C : Addr) (cl : List (Str × Addr)) (fp : List Addr), PTs (X.blk s H scope (compEnvC scope cl C X.env) fp) ifs (tT (G.more l) wt ct))
    (he : ∀ (l : List Fx) (s : Shared) (H : Hp) (C : Addr) (cl : List (Str × Addr)) (fp : List Addr), DE (X.blk s H scope (compEnvC scope cl C X.env) fp) (G.more l) elt we ce)
    (hix : ∀ i ∈ ix, i ∈ vs) (hs : ∀ x, foldedSetIterable iter X.env x = pure x := by intro _; rfl) (hvs : own.map (·.2) = vs := by rfl) : DE X G (.ListComp elt [⟨tg, iter, ifs, 0⟩] scope pos) (wLc wi gd wt we vs) (ci + many * (ct + ce)) := by
  subst hvs
  exact PE_imp (pe_lc hc hN hi ok (fun s H C cl fp => ⟨fun pins s' σ H' v u Q I r ⟨l, q⟩ => (hg l s H C cl fp).run pins s' σ H' v u Q I r q⟩)
    (fun s H C cl fp => ⟨fun pins s' σ H' Q I ⟨l, q⟩ => (ht l s H C cl fp).run pins s' σ H' Q I q⟩) (fun s H C cl fp => ⟨fun pins s' σ H' Q I ⟨l, q⟩ => (he l s H C cl fp).run pins s' σ H' Q I q⟩) hs) fun σ H Q h => rdLc h hix
theorem ds_setLc (k : Kp) (i : Nat) {vs : List Nat} {y : Str} {py spos : Pos} (hc : X.calm = true) (hN : X.N.Nodup) (hy : X.N[i]? = some y) (hyl : X.env.scope.names.lookup y = some .local)
    (hsw : swapsWith (.ListComp elt [⟨tg, iter, ifs, 0⟩] scope pos) (some (.Name y py)) spos.line X.env = pure true) (hi : DI X G tg iter wi ci) (ok : BlkOk X.N X.env.scope scope own)
    (hg : ∀ (l : List Fx) (s : Shared) (H : Hp) (C : Addr) (cl : List (Str × Addr)) (fp : List Addr), PG (X.blk s H scope (compEnvC scope cl C X.env) fp) tg (tG (G.more l) ix gd))
    (ht : ∀ (l : List Fx) (s : Shared) (H : Hp) (C : Addr) (cl : List (Str × Addr)) (fp : List Addr), PTs (X.blk s H scope (compEnvC scope cl C X.env) fp) ifs (tT (G.more l) wt ct))
    (he : ∀ (l : List Fx) (s : Shared) (H : Hp) (C : Addr) (cl : List (Str × Addr)) (fp : List Addr), DE (X.blk s H scope (compEnvC scope cl C X.env) fp) (G.more l) elt we ce)
    (hix : ∀ i ∈ ix, i ∈ vs) (hs : ∀ x, foldedSetIterable iter X.env x = pure x := by intro _; rfl) (hvs : own.map (·.2) = vs := by rfl) : DS X G (.Assign [.Name y py] (.ListComp elt [⟨tg, iter, ifs, 0⟩] scope pos) spos) (wSet k i (wLc wi gd wt we vs)) (ci + many * (ct + ce)) := by
  subst hvs
  exact PS_imp (ps_setLc hc hN hy hyl hsw hi ok (fun s H C cl fp => ⟨fun pins s' σ H' v u Q I r ⟨l, q⟩ => (hg l s H C cl fp).run pins s' σ H' v u Q I r q⟩)
    (fun s H C cl fp => ⟨fun pins s' σ H' Q I ⟨l, q⟩ => (ht l s H C cl fp).run pins s' σ H' Q I q⟩) (fun s H C cl fp => ⟨fun pins s' σ H' Q I ⟨l, q⟩ => (he l s H C cl fp).run pins s' σ H' Q I q⟩) hs) fun σ H T h => rdSet h fun Q q => rdLc q hix
end
end DL
namespace DL
open PySem PySem.Spec PyProof.Rows L2

/-! ### a def's promise, where no repr runs around -/
structure FnG (P : Program) (w : World) (K : PySem.W.Frag) (mg : Str → Option Value) (base : Heap) (CX : CXT) (k : Nat) (f : Addr) (fd : FuncData) (ps : List Str) (sp : Sp) : Prop where
  len : ∀ vs H Q E, sp vs H Q E → vs.length = ps.length
  run : ∀ (A : Around) (outer : List Env) (s : Shared) (H : Hp) (args : Args) (us : List Value) (vs : List V) (Q : VK) (E : XK), A.guards = some [] → Room k A → Env0 P w K mg base A outer s H → BindsTo s fd args (ps.zip us) → Vals vs us → sp vs H Q E →
    codeAny (model P w) A (.call (.ref f) args) (CR CX outer P w H s Q E) s
theorem FnG.mono {P : Program} {w : World} {K : PySem.W.Frag} {mg : Str → Option Value} {base : Heap} {CX : CXT} {j k : Nat} {f : Addr} {fd : FuncData} {ps : List Str} {sp : Sp} (F : FnG P w K mg base CX j f fd ps sp) (h : j ≤ k) : FnG P w K mg base CX k f fd ps sp :=
  ⟨F.len, fun A outer s H args us vs Q E g r => F.run A outer s H args us vs Q E g (r.mono h)⟩
theorem fnG_of {CX : CXT} {P : Program} {w : World} {K : PySem.W.Frag} {mg : Str → Option Value} {base : Heap} {k : Nat} {f : Addr} {name qual : Str} {params : Arguments} {body : List Stmt} {scope : Scope} {dV kV doc pm cdv ct oc : Value} {an od : Option Addr}
    {osl : Array (Option Value)} {N ps : List Str} {sp : Sp} (hlk : K.lookup f = some ⟨oc, od, .func (PySem.W.fnOf name qual params body scope dV kV doc pm an cdv ct), osl⟩) (hco : PySem.W.codeIn K cdv qual = true) (S : FnScope N ps scope)
    (hlen : ∀ vs H Q E, sp vs H Q E → vs.length = ps.length)
    (hb : ∀ (A : Around) (outer : List Env) (s : Shared) (H : Hp) (vs : List V) (Q : VK) (E : XK), A.guards = some [] → Room k (A.deeper (envOfC qual scope s.heap.objs.size f cdv)) → sp vs H Q E →
      ∃ t, PSs (cxOf CX P w K mg base N qual scope f cdv A outer s H E) body t ∧ t { nx := fun _ H' => Q .non H', rt := Q } (L2.start N vs) H) :
    FnG P w K mg base CX (k + 1) f (PySem.W.fnOf name qual params body scope dV kV doc pm an cdv ct) ps sp := by
  refine ⟨hlen, fun A outer s H args us vs Q E hgd hroom env0 hbind hvals hs => ?_⟩
  have inK : K.In s.heap := env0.mod.kin.keeps fun b o q => (env0.bs b o q).1
  have nol : s.heap.NoLimit := env0.mod.nolimit.keeps fun b o q => (env0.bs b o q).1
  have kinds : ∀ y ∈ ps.zip us, scope.names.lookup y.1 = some .local ∨ (scope.names.lookup y.1 = some .cell ∧ ((cellsFrom (s.heap.objs.size + 1) scope.names []).lookup y.1).isSome = true) := by
    rintro ⟨n, v⟩ hy
    exact (S.par n (List.of_mem_zip hy).1).imp id fun q => ⟨q, PySem.W.cellsFrom_some _ _ _ (.inl q)⟩
  refine codeAny_call_function hroom.depth (inK _ _ hlk) rfl S.co S.gen rfl (PySem.W.codeRec_of inK hco) (hbind _ _ _ _ (wpAny_newFunctionEnv_cells S.kind kinds fun env he s1 x => ?_))
  subst he
  refine ⟨nol.keeps x.toInCall.keep, codeAny_func ?_⟩
  obtain ⟨t, pt, ht⟩ := hb A outer s H vs Q E hgd (hroom.deeper _) hs
  have inv0 := inv_start (CX := CX) (E := E) S hroom.hd env0 (hlen _ _ _ _ hs) hvals x
  refine wpAny_mono (pt.run [] s1 (L2.start N vs) H _ inv0 ht) (fun fl s2 q => ?_) fun e s2 q => q
  cases fl with
  | ret u => obtain ⟨v, σ2, H2, J, rv, q⟩ := q; exact ⟨v, H2, J.os, J.bare, J.base, J.hok, rv, q⟩
  | next => obtain ⟨σ2, H2, J, q⟩ := q; exact ⟨.non, H2, J.os, J.bare, J.base, J.hok, rfl, q⟩
  | brk => obtain ⟨_, _, _, q⟩ := q; exact q.elim
  | cont => obtain ⟨_, _, _, q⟩ := q; exact q.elim

/-! ### promises over data -/
inductive Ag where
  | fz (d : D) | bw (d : D) | raw (v : V)
def AR (w : Wd) (v : V) : Ag → Prop
  | .fz d => Rp w v d
  | .bw d => ∃ a, v = .ref a ∧ w.M a ∧ ¬ w.C a ∧ Ow w a d
  | .raw u => v = u
inductive ARs (w : Wd) : List V → List Ag → Prop
  | nil : ARs w [] []
  | cons {v : V} {vs : List V} {a : Ag} {as : List Ag} : AR w v a → ARs w vs as → ARs w (v :: vs) (a :: as)
theorem ARs.length {w : Wd} : ∀ {vs : List V} {as : List Ag}, ARs w vs as → vs.length = as.length
  | _, _, .nil => rfl
  | _, _, .cons _ r => by rw [List.length_cons, List.length_cons, ARs.length r]
def Dv.ag : Dv → Ag
  | .fz d => .fz d
  | .nw d => if isDct d = true then .bw d else .fz d
  | .ow d => .bw d
  | .bw d => .bw d
  | .raw v => .raw v
def Ag.sl : Ag → Sl
  | .fz d => .fz d
  | .bw d => .bw d
  | .raw v => .raw v
theorem VR.ar {G : Gh} {Hs : Hp} {w : Wd} {v : V} {dv : Dv} (h : VR G Hs w v dv) : AR w v dv.ag := by
  cases dv with
  | fz d => exact h
  | nw d =>
    by_cases q : isDct d = true
    · obtain ⟨a, rfl, z, m, n, o⟩ := h
      simp only [Dv.ag, if_pos q]
      exact ⟨a, rfl, m.mp q, n, o.st (St1.less w a) rfl⟩
    · simp only [Dv.ag, if_neg q]
      exact VR.rp h (by simp only [Dv.kept, if_neg q])
  | ow d => obtain ⟨a, e, m, _, _, n, o⟩ := h; exact ⟨a, e, m, n, o⟩
  | bw d => obtain ⟨a, e, m, n, o⟩ := h; exact ⟨a, e, m, n, o⟩
  | raw u => exact h
theorem VRs.ars {G : Gh} {Hs : Hp} {w : Wd} : ∀ {vs : List V} {ds : List Dv}, VRs G Hs w vs ds → ARs w vs (ds.map Dv.ag)
  | _, _, .nil => .nil
  | _, _, .cons h r => .cons h.ar (VRs.ars r)
/-- C is part of M, M of what there is -/
structure Wf (w : Wd) : Prop where
  cm : ∀ a, w.C a → w.M a
  md : ∀ a, w.M a → w.H a ≠ none
  mt : ∀ a xs, w.M a → w.H a ≠ some (.tup xs)
abbrev Spec := List Ag → (D → Prop) → Prop
abbrev SInv := Nat → (Addr → Prop) → Hp → Prop
def Stab (SI : SInv) : Prop := ∀ b C H H', SI b C H → (∀ a o, C a → H a = some o → H' a = some o) → SI b C H'
def spF (SI : SInv) (c : Nat) (spec : Spec) : Sp := fun vs H Q _ => ∃ (as : List Ag) (M C : Addr → Prop) (b : Nat) (Pd : D → Prop), b + c ≤ cap ∧ Wf ⟨H, M, C⟩ ∧ SI b C H ∧ ARs ⟨H, M, C⟩ vs as ∧ spec as Pd ∧ ∀ d, Pd d → ∀ b' w' v, b' ≤ b + c → Ext ⟨H, M, C⟩ w' → SI b' w'.C w'.H → Wf w' → Rp w' v d → Q v w'.H
/-- the state's promise: none -/
def SI0 : SInv := fun _ _ _ => True
theorem stab0 : Stab SI0 := fun _ _ _ _ _ _ => trivial
theorem EH.ext {G : Gh} {b b' : Nat} {w w' : Wd} (h : EH (G.at b) w) (e : Ext w w') (si : G.SI b' w'.C w'.H) (wf : Wf w') : EH (G.at b') w' where
  kp := fun a o q => by
    have nc : ¬ w.C a := fun c => by rw [h.cp a c] at q; cases q
    rcases h.kp a o q with z | ⟨n, d, ob, z⟩
    · exact (e.keep a o nc z).imp id fun ⟨m, r⟩ => ⟨fun k => m (h.m0 a k), r⟩
    · exact .inr ⟨n, d, ob, (e.lk nc z).exact no_dct_frz⟩
  m0 := fun a m => e.oldM a (h.m0 a m)
  nc := fun a c => (e.newC a c).elim (h.nc a) fun q => .inr (by
    cases z : G.H0 a with
    | none => rfl
    | some o => exact absurd q (h.hd a (by rw [z]; simp)))
  cp := fun a c => (e.newC a c).elim (h.cp a) fun q => by
    cases z : G.Pt a with
    | none => rfl
    | some o => rcases h.kp a o z with y | ⟨_, _, ob, y⟩ <;> (rw [q] at y; cases y)
  cm := wf.cm
  md := wf.md
  hd := fun a q => e.dom a (h.hd a q)
  gk := fun p hp => p.st _ _ (e.st h.cm) (h.gk p hp)
  si := si
  mt := wf.mt
theorem EH.wf {G : Gh} {w : Wd} (h : EH G w) : Wf w := ⟨h.cm, h.md, h.mt⟩

/-! ### the body of a def -/
open Classical in
noncomputable def ghPt (C : Addr → Prop) (H : Hp) : Hp := fun a => if C a then none else H a
noncomputable def ghOf (SI : SInv) (st : Stab SI) (H : Hp) (M C : Addr → Prop) (mh : ∀ a, M a → H a ≠ none) : Gh where
  b := 0
  Pt := ghPt C H
  H0 := H
  M0 := M
  mh := mh
  C0 := C
  gs := []
  SI := SI
  stab := st
theorem ghOf_pt {H : Hp} {C : Addr → Prop} {a : Addr} (n : ¬ C a) : ghPt C H a = H a := if_neg n
theorem ghOf_pt0 {H : Hp} {C : Addr → Prop} {a : Addr} (n : C a) : ghPt C H a = none := if_pos n
def env0 (n : Nat) (as : List Ag) : Ev := as.map Ag.sl ++ List.replicate (n - as.length) .no
theorem start_er {SI : SInv} {st : Stab SI} {H : Hp} {M C : Addr → Prop} {N : List Str} {vs : List V} {as : List Ag} {b : Nat} (wf : Wf ⟨H, M, C⟩) (si : SI b C H) (r : ARs ⟨H, M, C⟩ vs as) : ER ((ghOf SI st H M C wf.md).at b) ⟨H, M, C⟩ (env0 N.length as) (L2.start N vs) := by
  have hl := r.length
  refine ⟨⟨fun a o q => ?_, fun a m => m, fun a c => .inl c, fun a c => ghOf_pt0 c, wf.cm, wf.md, fun a q => q, fun p hp => (nomatch hp), si, wf.mt⟩, ?_, fun i s ov h1 h2 => ?_, fun i j d e a h1 h2 _ _ => ?_⟩
  · by_cases c : C a
    · have q' := (ghOf_pt0 (H := H) c).symm.trans q; cases q'
    · exact .inl ((ghOf_pt c).symm.trans q)
  · unfold env0 L2.start
    rw [List.length_append, List.length_append, List.length_map, List.length_map, List.length_replicate, List.length_replicate, hl]
  · unfold env0 at h1
    unfold L2.start at h2
    by_cases hi : i < as.length
    · rw [List.getElem?_append_left (by rw [List.length_map]; exact hi), List.getElem?_map] at h1
      rw [List.getElem?_append_left (by rw [List.length_map, hl]; exact hi), List.getElem?_map] at h2
      have get : ∀ {vs : List V} {as : List Ag} {i : Nat} {a : Ag} {v : V}, ARs ⟨H, M, C⟩ vs as → as[i]? = some a → vs[i]? = some v → AR ⟨H, M, C⟩ v a := by
        intro vs as i a v r
        induction r generalizing i with
        | nil => intro h; simp at h
        | cons h r ih =>
          cases i with
          | zero => intro h1 h2; simp at h1 h2; subst h1; subst h2; exact h
          | succ i => intro h1 h2; exact ih (by simpa using h1) (by simpa using h2)
      obtain ⟨ag, g1, rfl⟩ := Option.map_eq_some_iff.mp h1
      obtain ⟨v, g2, rfl⟩ := Option.map_eq_some_iff.mp h2
      have q := get r g1 g2
      cases ag with
      | fz d => exact ⟨v, rfl, q⟩
      | raw u => exact congrArg some q
      | bw d =>
        obtain ⟨a, rfl, m, n, o⟩ := q
        have hd : ∃ ob, H a = some ob := by cases o <;> exact ⟨_, by assumption⟩
        obtain ⟨ob, ho⟩ := hd
        exact ⟨a, rfl, m, n, ⟨ob, (ghOf_pt n).trans ho⟩, o⟩
    · rw [List.getElem?_append_right (by rw [List.length_map]; omega), List.getElem?_replicate] at h1
      split at h1
      · cases h1; trivial
      · cases h1
  · exfalso
    unfold env0 at h1
    by_cases hi : i < as.length
    · rw [List.getElem?_append_left (by rw [List.length_map]; exact hi), List.getElem?_map] at h1
      obtain ⟨ag, _, g⟩ := Option.map_eq_some_iff.mp h1
      cases ag <;> cases g
    · rw [List.getElem?_append_right (by rw [List.length_map]; omega), List.getElem?_replicate] at h1
      split at h1 <;> cases h1
/-- the data that a def hands back -/
def Dv.ret : Dv → Option D
  | .fz d => some d
  | .nw d => some d
  | .ow d => some d
  | _ => none
def endsOf (Qd : D → Prop) : DEnds := { nx := fun _ => Qd .none, rt := fun dv => ∃ d, dv.ret = some d ∧ Qd d, bk := fun _ => False, ct := fun _ => False }
/-- a def of the text keeps its promise over data -/
theorem fn_data {SI : SInv} (st : Stab SI) {P : Program} {w : World} {K : PySem.W.Frag} {mg : Str → Option Value} {base : Heap} {x qual : Str} {stm : Stmt} {f : Addr} {fd : FuncData} {N ps : List Str} {k c c' : Nat} {spec : Spec} {ws : WS}
    (F : Fun K x qual stm f fd) (S : FnScope N ps (defScope stm)) (hlen : ∀ as Q, spec as Q → as.length = ps.length)
    (hbody : ∀ (G : Gh) (cdv : Value) (A : Around) (outer : List Env) (s : Shared) (H : Hp) (E : XK), G.SI = SI → A.guards = some [] → Room k (A.deeper (envOfC qual (defScope stm) s.heap.objs.size f cdv)) → DSs (cxOf CX0 P w K mg base N qual (defScope stm) f cdv A outer s H E).nox G (defBody stm) ws c)
    (hspec : ∀ as Q, spec as Q → ws (env0 N.length as) (endsOf Q)) (hcc : c ≤ c' := by decide +kernel) : FnG P w K mg base CX0 (k + 1) f fd ps (spF SI c' spec) := by
  obtain ⟨oc, od, kV, doc, pm, an, cdv, ct, osl, rfl, lk, hcd⟩ := F.ex
  refine fnG_of lk hcd S (fun vs H Q E h => ?_) fun A outer s H vs Q E hgd hr h => ?_
  · obtain ⟨as, M, C, b, Pd, _, _, _, r, q, _⟩ := h
    rw [r.length]; exact hlen _ _ q
  · obtain ⟨as, M, C, b, Pd, hb, wf, si, r, q, hq⟩ := h
    refine ⟨_, (hbody (ghOf SI st H M C wf.md) cdv A outer s H E rfl hgd hr).nox, env0 N.length as, M, C, b, _, by omega, start_er wf si r, hspec as _ q, ?_⟩
    -- what the ends are worth
    have fin : ∀ (b' : Nat) (w' : Wd), EH ((ghOf SI st H M C wf.md).at b') w' → Ext ⟨H, M, C⟩ ⟨w'.H, fun a => M a ∨ w'.C a, w'.C⟩ ∧ Wf ⟨w'.H, fun a => M a ∨ w'.C a, w'.C⟩ ∧ St1 w' ⟨w'.H, fun a => M a ∨ w'.C a, w'.C⟩ := fun b' w' eh => by
      refine ⟨⟨fun a o n h => ?_, eh.hd, eh.nc, fun a m => m.elim .inl fun c => (eh.nc a c).imp (wf.cm a) id, fun a m => .inl m⟩, ⟨fun a c => .inr c, fun a m => eh.md a (m.elim (eh.m0 a) (eh.cm a)), fun a xs m => eh.mt a xs (m.elim (eh.m0 a) (eh.cm a))⟩, ⟨fun a o _ h => .inl h, fun a m => .inl (Or.elim m (eh.m0 a) (eh.cm a))⟩⟩
      exact eh.kp a o ((ghOf_pt n).trans h)
    refine ⟨fun env' q b' w' σ' hb' er' => ?_, fun dv q b' w' Hs v hb' eh rv hh => ?_, fun _ q => q.elim, fun _ q => q.elim⟩
    · obtain ⟨e1, e2, e3⟩ := fin b' w' er'.toEH
      exact hq _ q b' ⟨w'.H, fun a => M a ∨ w'.C a, w'.C⟩ .non (by omega) e1 er'.si e2 .non
    · obtain ⟨e1, e2, e3⟩ := fin b' w' eh
      obtain ⟨d, hd, q⟩ := q
      refine hq _ q b' ⟨w'.H, fun a => M a ∨ w'.C a, w'.C⟩ v (by omega) e1 eh.si e2 ?_
      have fresh : ∀ {a : Addr}, H a = none → ¬ w'.C a → ¬ (M a ∨ w'.C a) := fun h0 nc m => m.elim (fun m => wf.md _ m h0) nc
      cases dv with
      | fz d' => cases hd; exact Rp.st e3 rv
      | nw d' =>
        cases hd
        obtain ⟨a, rfl, z, m, n, o⟩ := rv
        have h0 : H a = none := by
          cases y : H a with
          | none => rfl
          | some o => exact absurd z (hh a (by show H a ≠ none; rw [y]; simp))
        exact ((o.st (St1.less w' a) rfl).st e3 rfl).rp (fresh h0 n)
      | ow d' =>
        cases hd
        obtain ⟨a, rfl, m, z, p, n, o⟩ := rv
        exact (o.st e3 rfl).rp (fresh z n)
      | bw d' => cases hd
      | raw u => cases hd

theorem FnG.sp {P : Program} {w : World} {K : PySem.W.Frag} {mg : Str → Option Value} {base : Heap} {CX : CXT} {k : Nat} {f : Addr} {fd : FuncData} {ps : List Str} {sp sp' : Sp} (F : FnG P w K mg base CX k f fd ps sp) (h : ∀ vs H Q E, sp' vs H Q E → sp vs H Q E) : FnG P w K mg base CX k f fd ps sp' :=
  ⟨fun vs H Q E q => F.len vs H Q E (h vs H Q E q), fun A outer s H args us vs Q E g r e b v q => F.run A outer s H args us vs Q E g r e b v (h vs H Q E q)⟩
/-- a def that knows nothing of the law's state -/
theorem fn_pure {P : Program} {w : World} {K : PySem.W.Frag} {mg : Str → Option Value} {base : Heap} {x qual : Str} {stm : Stmt} {f : Addr} {fd : FuncData} {N ps : List Str} {k c : Nat} {spec : Spec} {ws : WS}
    (F : Fun K x qual stm f fd) (S : FnScope N ps (defScope stm)) (hlen : ∀ as Q, spec as Q → as.length = ps.length)
    (hbody : ∀ (G : Gh) (cdv : Value) (A : Around) (outer : List Env) (s : Shared) (H : Hp) (E : XK), G.SI = SI0 → A.guards = some [] → Room k (A.deeper (envOfC qual (defScope stm) s.heap.objs.size f cdv)) → DSs (cxOf CX0 P w K mg base N qual (defScope stm) f cdv A outer s H E).nox G (defBody stm) ws c)
    (hspec : ∀ as Q, spec as Q → ws (env0 N.length as) (endsOf Q)) (hcc : c ≤ cap := by decide +kernel) : FnG P w K mg base CX0 (k + 1) f fd ps (spF SI0 0 spec) :=
  (fn_data (c' := c) stab0 F S hlen hbody hspec (Nat.le_refl _)).sp fun vs H Q E h => by
    obtain ⟨as, M, C, b, Pd, hb, wf, si, r, q, hq⟩ := h
    exact ⟨as, M, C, 0, Pd, by omega, wf, trivial, r, q, fun d pd b' w' v hb' e _ wf' rv => hq d pd 0 w' v (Nat.zero_le _) e trivial wf' rv⟩

/-! ### calls -/
def wCall (spec : Spec) (wr : WA) : WE := fun env P => wr env fun xs => spec (xs.map Dv.ag) fun d => P (.fz d)
section
variable {X : Cx} {G : Gh} {k : Nat} {f : Addr} {fd : FuncData} {ps : List Str} {spec : Spec} {x : Str} {e : Expr} {es : List Expr} {wr : WA} {ca c : Nat} {p pos : Pos}
theorem run_fnG {sp : Sp} {pins : List (Addr × Obj)} {σ : L2.St} {H : Hp} {s : Shared} {Q : VK} {us : List Value} {vs : List V} (F : FnG X.prog X.w X.K X.mg X.base CX0 k f fd ps sp) (hgd : X.A.guards = some []) (hr : Room k X.A) (hb : Binds X.K fd ps [])
    (I : Inv X pins σ H s) (r : Vals vs us) (h : sp vs H Q E0) : wpAny (model X.prog X.w) X.A (call (.ref f) us) (EP X pins σ Q) X.xe s := by
  have hl : (us ++ []).length = ps.length := by rw [List.append_nil, ← r.length]; exact F.len _ _ _ _ h
  have bd := hb s us I.kIn hl
  rw [List.append_nil] at bd
  refine wpAny_call (codeAny_mono (F.run X.A X.stack s H ⟨us, []⟩ us vs Q E0 hgd hr I.env0 bd r h) fun r s' hq => ?_)
  cases r with
  | error e => exact False.elim hq
  | ok fl => cases fl with
    | ret u => exact I.after hq
    | next => exact False.elim hq
    | brk => exact False.elim hq
    | cont => exact False.elim hq
theorem pe_callG {sp : Sp} {t : TA} (F : FnG X.prog X.w X.K X.mg X.base CX0 k f fd ps sp) (hgd : X.A.guards = some []) (hr : Room k X.A) (hg : Gl X x) (hm : X.mg x = some (.ref f)) (hk : PySem.W.keepIn X.K (.ref f) = true) (hb : Binds X.K fd ps [])
    (ha : PA X (e :: es) t) (hdb : (x == ("__debug__" : Str)) = false := by decide) (he : starEach (e :: es) X.env = (false, eval e X.env) :: starEach es X.env := by rfl) (hpl : (backTo pos (starEach es X.env)).any (·.1) = false := by rfl) :
    PE X (.Call (.Name x p) (e :: es) [] pos) (tCall sp [] E0 t) := by
  refine ⟨fun pins s σ H Q I h => wpAny_Call_Name_kw (ld_glob I hg hm ?_ hdb)⟩
  exact PySem.W.callWith_K (h₀ := X.base) I.ok.mod.kin hk (thn (ha.run pos pins s σ H _ I h) fun us s1 ⟨vs, H1, I1, r, q⟩ => ⟨I1.kIn, run_fnG F hgd hr hb I1 r (by have q' : sp (vs ++ []) H1 Q E0 := q; rw [List.append_nil] at q'; exact q')⟩) he hpl
/-- a pure def is called: it knows nothing of the law's state -/
theorem rd_pure {σ : L2.St} {H : Hp} {Q : VK} (h : tV G (wCall spec wr) ca σ H Q) : tCall (spF SI0 0 spec) [] E0 (tA G wr ca) σ H Q := tA.one h fun {b0} env w xs dxs P er rs kk hf => by
  rw [List.append_nil]
  have up : St1 w ⟨w.H, w.M, fun _ => False⟩ := ⟨fun a o _ h => .inl h, fun a m => .inl m⟩
  have ars : ∀ {vs : List V} {as : List Ag}, ARs w vs as → ARs ⟨w.H, w.M, fun _ => False⟩ vs as := by
    intro vs as r
    induction r with
    | nil => exact .nil
    | @cons v vs a as h r ih =>
      refine .cons ?_ ih
      cases a with
      | fz d => exact Rp.st up h
      | raw u => exact h
      | bw d => obtain ⟨b, e, m, n, o⟩ := h; exact ⟨b, e, m, fun z => z, o.st up rfl⟩
  refine ⟨_, w.M, fun _ => False, 0, _, Nat.zero_le _, ⟨fun a c => c.elim, er.md, er.mt⟩, trivial, ars rs.ars, kk, fun d pd _ w' v _ e _ wf r => ?_⟩
  have ex : Ext w ⟨w'.H, w.M, w.C⟩ := ⟨fun a o n h => e.keep a o (fun z => z) h, e.dom, fun a c => .inl c, fun a m => .inl m, fun a m => m⟩
  have si : G.SI b0 w.C w'.H := G.stab _ _ _ _ er.si fun a o c h => (e.keep a o (fun z => z) h).elim id fun q => absurd (er.cm a c) q.1
  refine hf _ pd b0 ⟨w'.H, w.M, w.C⟩ v (Nat.le_refl _) (er.ext' ex (er.toEH.ext ex si ⟨er.cm, fun a m => e.dom a (er.md a m), fun a xs m => e.ntup (fun z => z) m (er.md a m) (er.mt a xs m)⟩)) ex ?_
  have down : St1 w' ⟨w'.H, w.M, w.C⟩ := ⟨fun a o _ h => .inl h, fun a m => .inl (e.oldM a m)⟩
  exact Rp.st down r
/-- a def that draws is called -/
theorem rd_eff {σ : L2.St} {H : Hp} {Q : VK} {SI : SInv} (hS : G.SI = SI) (h : tV G (wCall spec wr) (ca + c) σ H Q) : tCall (spF SI c spec) [] E0 (tA G wr ca) σ H Q := by
  subst hS
  obtain ⟨env, M, C, b0, P, hb0, er, hw, hf⟩ := h
  refine ⟨env, M, C, b0, _, by omega, er, hw, fun ds hd b1 w1 xs hb1 er1 e1 r1 => ?_⟩
  show spF G.SI c spec (xs ++ []) w1.H Q E0
  rw [List.append_nil]
  exact ⟨_, w1.M, w1.C, b1, _, by omega, er1.toEH.wf, er1.si, r1.ars, hd, fun d pd b' w' v hb' e si wf r => hf _ pd b' w' v (by omega) (er1.ext' e (er1.toEH.ext e si wf)) (e1.trans e) r⟩
theorem de_call (F : FnG X.prog X.w X.K X.mg X.base CX0 k f fd ps (spF SI0 0 spec)) (hgd : X.A.guards = some []) (hr : Room k X.A) (hg : Gl X x) (hm : X.mg x = some (.ref f)) (hk : PySem.W.keepIn X.K (.ref f) = true) (hb : Binds X.K fd ps [])
    (ha : DA X G (e :: es) wr ca) (hdb : (x == ("__debug__" : Str)) = false := by decide) (he : starEach (e :: es) X.env = (false, eval e X.env) :: starEach es X.env := by rfl) (hpl : (backTo pos (starEach es X.env)).any (·.1) = false := by rfl) :
    DE X G (.Call (.Name x p) (e :: es) [] pos) (wCall spec wr) ca := PE_imp (pe_callG F hgd hr hg hm hk hb ha hdb he hpl) fun _ _ _ h => rd_pure h
theorem de_callE {SI : SInv} (hS : G.SI = SI) (F : FnG X.prog X.w X.K X.mg X.base CX0 k f fd ps (spF SI c spec)) (hgd : X.A.guards = some []) (hr : Room k X.A) (hg : Gl X x) (hm : X.mg x = some (.ref f)) (hk : PySem.W.keepIn X.K (.ref f) = true) (hb : Binds X.K fd ps [])
    (ha : DA X G (e :: es) wr ca) (hdb : (x == ("__debug__" : Str)) = false := by decide) (he : starEach (e :: es) X.env = (false, eval e X.env) :: starEach es X.env := by rfl) (hpl : (backTo pos (starEach es X.env)).any (·.1) = false := by rfl) :
    DE X G (.Call (.Name x p) (e :: es) [] pos) (wCall spec wr) (ca + c) := PE_imp (pe_callG F hgd hr hg hm hk hb ha hdb he hpl) fun _ _ _ h => rd_eff hS h
end
end DL
namespace DL
open PySem PySem.Spec PyProof.Rows L2
section
variable {X : Cx} {G : Gh}
theorem RqL.one' {w : Wd} {xs : List V} {d : D} (h : RqL w xs [d]) : ∃ x, xs = [x] ∧ Rq w x d := by
  cases h with
  | cons a b => cases b; exact ⟨_, rfl, a⟩
/-! ### len -/
def lenD : List D → Option D
  | [.list ds] => some (.int ds.length)
  | [.tuple ds] => some (.int ds.length)
  | [.dict es] => some (.int es.length)
  | [.str x] => if x.length ≤ sizeLine then some (.int x.length) else none
  | _ => none
theorem call_lenDD : CallR X (.builtin "len") (rB lenD) := by
  intro pins s σ H xs us Q I r ⟨w, ds, d, eH, wk, qx, hf, hq⟩
  subst eH
  unfold lenD at hf
  split at hf
  · cases hf
    obtain ⟨x, rfl, q⟩ := qx.one'
    cases q with
    | lst h r1 => exact call_len_seq pins s σ _ _ us Q I r ⟨_, _, rfl, .inl (SqL.of h), by rw [r1.length]; exact hq _ _ (Same.refl _) (.int _)⟩
  · cases hf
    obtain ⟨x, rfl, q⟩ := qx.one'
    cases q with
    | tup n h r1 => exact call_len_seq pins s σ _ _ us Q I r ⟨_, _, rfl, .inr (SqT.of h), by rw [r1.length]; exact hq _ _ (Same.refl _) (.int _)⟩
  · cases hf
    obtain ⟨x, rfl, q⟩ := qx.one'
    obtain ⟨u, rfl, ru⟩ := vals1 r
    rename_i es
    cases q with
    | @dK a kvs _ h k1 k2 =>
      cases (show u = Value.ref a from ru)
      have el : es.length = kvs.length := by have := congrArg List.length k1; simpa using this
      exact d_len I h fun t s' I' => ⟨.int es.length, _, I', ⟨t, by rw [el]⟩, hq _ _ (Same.refl _) (.int _)⟩
    | @dT a kvs _ h k1 k2 =>
      cases (show u = Value.ref a from ru)
      have el : es.length = kvs.length := by have := congrArg List.length k1; simpa using this
      obtain ⟨z, hd, xs', rel, dd⟩ := dt_rd I.hok h
      have el2 : kvs.length = xs'.length := Paired.length rel
      refine call_len_dictH hd dd (by rw [← el2]; rw [sizeLine_eq] at z; omega) ⟨.int es.length, _, I.tok _, ⟨_, by rw [el, el2]⟩, hq _ _ (Same.refl _) (.int _)⟩
  · obtain ⟨c, rfl⟩ := of_if hf
    obtain ⟨x, rfl, q⟩ := qx.one'
    cases q
    exact call_len_str pins s σ _ _ us Q I r ⟨_, rfl, c, hq _ _ (Same.refl _) (.int _)⟩
  · cases hf

/-! ### all, any, sum -/
def boolsOf : List D → Option (List Bool)
  | [] => some []
  | .bool b :: r => (boolsOf r).map (b :: ·)
  | _ :: _ => none
theorem boolsOf_rp {w : Wd} : ∀ {ds : List D} {vs : List V} {bs : List Bool}, boolsOf ds = some bs → RpL w vs ds → vs = bs.map V.bl
  | [], _, _, e, r => by cases e; cases r; rfl
  | d :: ds, _, bs, e, r => by
    cases d with
    | bool b =>
      simp only [boolsOf, Option.map_eq_some_iff] at e
      obtain ⟨ms, e1, rfl⟩ := e
      cases r with
      | cons a b => cases a; rw [boolsOf_rp e1 b]; rfl
    | _ => cases e
def onBools (f : List Bool → Bool) : List D → Option D
  | [.list ds] => (boolsOf ds).map fun bs => .bool (f bs)
  | _ => none
def allD : List D → Option D := onBools fun bs => bs.all id
def anyD : List D → Option D := onBools fun bs => bs.any id
theorem call_bools {id : String} {g : List Bool → Bool} (hc : CallR X (.builtin id) (fun vs H Q => ∃ (a : Addr) (bs : List Bool), vs = [V.ref a] ∧ SqL X.K H a (bs.map V.bl) ∧ Q (.bl (g bs)) H)) : CallR X (.builtin id) (rB (onBools g)) := by
  intro pins s σ H xs us Q I r ⟨w, ds, d, eH, wk, qx, hf, hq⟩
  subst eH
  unfold onBools at hf
  split at hf
  · obtain ⟨bs, e1, rfl⟩ := Option.map_eq_some_iff.mp hf
    obtain ⟨x, rfl, q⟩ := qx.one'
    cases q with
    | lst h r1 =>
      have e2 := boolsOf_rp e1 r1
      subst e2
      exact hc pins s σ _ _ us Q I r ⟨_, bs, rfl, SqL.of h, hq _ _ (Same.refl _) (.bl _)⟩
  · cases hf
theorem call_allD (hc : X.calm = true) : CallR X (.builtin "all") (rB allD) := call_bools (cr_all hc)
theorem call_anyD (hc : X.calm = true) : CallR X (.builtin "any") (rB anyD) := call_bools (cr_any hc)
def sumD : List D → Option D
  | [.list ds] => (intsOf ds).map fun ns => .int ns.sum
  | _ => none
theorem call_sumD (hc : X.calm = true) : CallR X (.builtin "sum") (rB sumD) := by
  intro pins s σ H xs us Q I r ⟨w, ds, d, eH, wk, qx, hf, hq⟩
  subst eH
  unfold sumD at hf
  split at hf
  · obtain ⟨ns, e1, rfl⟩ := Option.map_eq_some_iff.mp hf
    obtain ⟨x, rfl, q⟩ := qx.one'
    cases q with
    | lst h r1 =>
      have e2 := intsOf_rp e1 r1
      subst e2
      exact cr_sum hc pins s σ _ _ us Q I r ⟨_, ns, rfl, SqL.of h, hq _ _ (Same.refl _) (.int _)⟩
  · cases hf

/-! ### list(..), tuple(..), int(..) -/
def listD : List D → Option D
  | [.list ds] => some (.list ds)
  | [.tuple ds] => some (.list ds)
  | _ => none
def tupleD : List D → Option D
  | [.list ds] => some (.tuple ds)
  | [.tuple ds] => some (.tuple ds)
  | _ => none
def intD : List D → Option D
  | [.int i] => some (.int i)
  | [.bool b] => some (.int (if b then 1 else 0))
  | _ => none
theorem call_listD : CallR X (.type "list") (rB listD) := by
  intro pins s σ H xs us Q I r ⟨w, ds, d, eH, wk, qx, hf, hq⟩
  subst eH
  unfold listD at hf
  split at hf
  · cases hf
    obtain ⟨x, rfl, q⟩ := qx.one'
    cases q with
    | lst h r1 => exact call_list_of pins s σ _ _ us Q I r ⟨_, _, rfl, .inl (SqL.of h), fun l n => hq _ _ (same_new n) (newL n r1)⟩
  · cases hf
    obtain ⟨x, rfl, q⟩ := qx.one'
    cases q with
    | tup nn h r1 => exact call_list_of pins s σ _ _ us Q I r ⟨_, _, rfl, .inr (SqT.of h), fun l n => hq _ _ (same_new n) (newL n r1)⟩
  · cases hf
theorem call_tupleD : CallR X (.type "tuple") (rB tupleD) := by
  intro pins s σ H xs us Q I r ⟨w, ds, d, eH, wk, qx, hf, hq⟩
  subst eH
  unfold tupleD at hf
  split at hf
  · cases hf
    obtain ⟨x, rfl, q⟩ := qx.one'
    cases q with
    | lst h r1 => exact call_tuple_of pins s σ _ _ us Q I r ⟨_, _, rfl, .inl ⟨SqL.of h, fun l n => hq _ _ (same_new n) (newT wk n r1)⟩⟩
  · cases hf
    obtain ⟨x, rfl, q⟩ := qx.one'
    cases q with
    | tup nn h r1 => exact call_tuple_of pins s σ _ _ us Q I r ⟨_, _, rfl, .inr ⟨SqT.of h, hq _ _ (Same.refl _) (.tup nn h r1)⟩⟩
  · cases hf
theorem call_intD : CallR X (.type "int") (rB intD) := by
  intro pins s σ H xs us Q I r ⟨w, ds, d, eH, wk, qx, hf, hq⟩
  subst eH
  unfold intD at hf
  split at hf
  · cases hf
    obtain ⟨x, rfl, q⟩ := qx.one'
    cases q
    exact call_int1 pins s σ _ _ us Q I r (.inl ⟨_, rfl, hq _ _ (Same.refl _) (.int _)⟩)
  · cases hf
    obtain ⟨x, rfl, q⟩ := qx.one'
    cases q
    exact call_int1 pins s σ _ _ us Q I r (.inr ⟨_, rfl, hq _ _ (Same.refl _) (.int _)⟩)
  · cases hf
/-- list(range(..)) -/
def lrng (f : List D → Option (List D)) : List D → Option D := fun ds => (f ds).bind fun r => if r.length ≤ 2 ^ 24 then some (.list r) else none

/-! ### isinstance(x, T), T a built-in class -/
def tyD : D → String
  | .none => "NoneType"
  | .bool _ => "bool"
  | .int _ => "int"
  | .str _ => "str"
  | .list _ => "list"
  | .tuple _ => "tuple"
  | .dict _ => "dict"
theorem Rq.ty {pins : List (Addr × Obj)} {σ : L2.St} {s : Shared} {w : Wd} {x : V} {u : Value} {d : D} (I : Inv X pins σ w.H s) (rx : RelV x u) (h : Rq w x d) : ∃ P : Heap → Prop, PySem.W.KitX X.K u (.type (tyD d)) P ∧ P s.heap ∧ u ≠ .builtin "__main__.__loader__#opaque" := by
  cases h with
  | non => exact kit_of I rx (.base .non)
  | bl b => exact kit_of I rx (.base (.bl b))
  | int b => exact kit_of I rx (.base (.int b))
  | str b => exact kit_of I rx (.base (.str b))
  | lst h _ => exact kit_of I rx (.base (.lst h))
  | tup _ h _ => exact kit_of I rx (.base (.tup h))
  | dK h _ _ =>
    rcases h with h | ⟨o, h⟩
    · exact kit_of I rx (.base (.dK h))
    · exact kit_of I rx (.fDict h)
  | @dT a kvs _ h _ _ =>
    cases (show u = Value.ref a from rx)
    obtain ⟨z, hd, xs, rel, o, es, ep, h1, h2, _⟩ := dt_rd I.hok h
    exact ⟨_, PySem.W.kitx_dict, ⟨o, h1, h2.1⟩, fun z => nomatch z⟩
def wIsi (g : D → Bool) (wa : WE) : WE := fun env P => wa env fun x => ∃ d, x.val = some d ∧ P (.fz (.bool (g d)))
theorem de_isi {T : Str} {tn : String} {g : D → Bool} {e : Expr} {wa : WE} {ca : Nat} {p p2 pos : Pos} (hk : ∀ d, kitB (tyD d) tn = some (g d)) (hg : Gl X "isinstance") (hm : X.mg "isinstance" = none) (hgT : Gl X T) (hmT : X.mg T = none) (hvT : bootBuiltins T = some (.type tn)) (ha : DE X G e wa ca)
    (hnT : T ≠ "__name__" := by decide) (hdT : (T == ("__debug__" : Str)) = false := by decide) (hs : starEach [e, .Name T p2] X.env = (false, eval e X.env) :: starEach [.Name T p2] X.env := by rfl) (hs2 : starEach [.Name T p2] X.env = (false, eval (.Name T p2) X.env) :: starEach [] X.env := by rfl) (hpl : (backTo pos (starEach [.Name T p2] X.env)).any (·.1) = false := by rfl) :
    DE X G (.Call (.Name "isinstance" p) [e, .Name T p2] [] pos) (wIsi g wa) ca := by
  have hc : CallR X (.builtin "isinstance") (fun xs H Q => ∃ w x d, w.H = H ∧ xs = [x, .ty tn] ∧ Rq w x d ∧ Q (.bl (g d)) H) := by
    intro pins s σ H xs us Q I r h
    obtain ⟨w, x, d, eH, e2, q, hq⟩ := h
    subst eH e2
    obtain ⟨u1, u2, rfl, r1, r2⟩ := vals2 r
    cases (show u2 = Value.type tn from r2)
    obtain ⟨P, Z, pp, hx⟩ := q.ty I r1
    exact PySem.W.kia_one Z I.kIn pp (kit_ty (hk d)) hx fun tk => ⟨.bl (g d), _, I.tok tk, rfl, hq⟩
  refine PE_imp (pe_callB hc hg hm (by decide +kernel) (pa_cons ha (pa_cons (pe_bltn (v := .ty tn) hgT hmT hvT rfl hnT hdT) pa_nil hs2) hs) (by decide) (by decide) hs hpl) fun σ H Q h => ?_
  obtain ⟨env, M, C, b0, P, hb0, er, hw, hf⟩ := h
  refine ⟨env, M, C, b0, _, hb0, er, hw, fun dv hd b1 w1 v hb1 er1 e1 r1 => ?_⟩
  obtain ⟨d, h1, p⟩ := hd
  exact ⟨w1, v, d, rfl, rfl, r1.rq h1, hf _ p b1 w1 _ hb1 er1 e1 (.bl _)⟩
def isInt : D → Bool
  | .int _ => true
  | .bool _ => true
  | _ => false
def isBool : D → Bool
  | .bool _ => true
  | _ => false
def isTuple : D → Bool
  | .tuple _ => true
  | _ => false
def isList : D → Bool
  | .list _ => true
  | _ => false
def isStr : D → Bool
  | .str _ => true
  | _ => false
theorem kit7 {T : String} {b1 b2 b3 b4 b5 b6 b7 : Bool} (h1 : kitB "NoneType" T = some b1) (h2 : kitB "bool" T = some b2) (h3 : kitB "int" T = some b3) (h4 : kitB "str" T = some b4) (h5 : kitB "list" T = some b5) (h6 : kitB "tuple" T = some b6) (h7 : kitB "dict" T = some b7) (g : D → Bool)
    (g1 : g .none = b1) (g2 : ∀ b, g (.bool b) = b2) (g3 : ∀ i, g (.int i) = b3) (g4 : ∀ i, g (.str i) = b4) (g5 : ∀ i, g (.list i) = b5) (g6 : ∀ i, g (.tuple i) = b6) (g7 : ∀ i, g (.dict i) = b7) (d : D) : kitB (tyD d) T = some (g d) := by
  cases d with
  | none => rw [g1]; exact h1
  | bool _ => rw [g2]; exact h2
  | int _ => rw [g3]; exact h3
  | str _ => rw [g4]; exact h4
  | list _ => rw [g5]; exact h5
  | tuple _ => rw [g6]; exact h6
  | dict _ => rw [g7]; exact h7
theorem kit_int (d : D) : kitB (tyD d) "int" = some (isInt d) := kit7 (by decide +kernel) (by decide +kernel) (by decide +kernel) (by decide +kernel) (by decide +kernel) (by decide +kernel) (by decide +kernel) isInt rfl (fun _ => rfl) (fun _ => rfl) (fun _ => rfl) (fun _ => rfl) (fun _ => rfl) (fun _ => rfl) d
theorem kit_bool (d : D) : kitB (tyD d) "bool" = some (isBool d) := kit7 (by decide +kernel) (by decide +kernel) (by decide +kernel) (by decide +kernel) (by decide +kernel) (by decide +kernel) (by decide +kernel) isBool rfl (fun _ => rfl) (fun _ => rfl) (fun _ => rfl) (fun _ => rfl) (fun _ => rfl) (fun _ => rfl) d
theorem kit_tuple (d : D) : kitB (tyD d) "tuple" = some (isTuple d) := kit7 (by decide +kernel) (by decide +kernel) (by decide +kernel) (by decide +kernel) (by decide +kernel) (by decide +kernel) (by decide +kernel) isTuple rfl (fun _ => rfl) (fun _ => rfl) (fun _ => rfl) (fun _ => rfl) (fun _ => rfl) (fun _ => rfl) d
theorem kit_list (d : D) : kitB (tyD d) "list" = some (isList d) := kit7 (by decide +kernel) (by decide +kernel) (by decide +kernel) (by decide +kernel) (by decide +kernel) (by decide +kernel) (by decide +kernel) isList rfl (fun _ => rfl) (fun _ => rfl) (fun _ => rfl) (fun _ => rfl) (fun _ => rfl) (fun _ => rfl) d
theorem kit_str (d : D) : kitB (tyD d) "str" = some (isStr d) := kit7 (by decide +kernel) (by decide +kernel) (by decide +kernel) (by decide +kernel) (by decide +kernel) (by decide +kernel) (by decide +kernel) isStr rfl (fun _ => rfl) (fun _ => rfl) (fun _ => rfl) (fun _ => rfl) (fun _ => rfl) (fun _ => rfl) d
/-- list(range(..)) as a list -/
def wLrng (f : List D → Option (List D)) (wr : WA) : WE := fun env P => wr env fun xs => ∃ ds, (valL xs).bind f = some ds ∧ ds.length ≤ 2 ^ 24 ∧ P (.nw (.list ds))
theorem rg_rp {w : Wd} (a : Int) (n : Nat) : RpL w ((List.range n).map fun i => V.int (a + (i : Nat))) (rangeD a n) := by
  unfold rangeD
  induction List.range n with
  | nil => exact .nil
  | cons i r ih => exact .cons (.int _) ih
theorem de_lrng1 {e : Expr} {wa : WE} {ca : Nat} {p p2 pos pos2 : Pos} (hc : X.calm = true) (hg : Gl X "list") (hm : X.mg "list" = none) (hg2 : Gl X "range") (hm2 : X.mg "range" = none) (ha : DE X G e wa ca) (na : starEach [e] X.env = (false, eval e X.env) :: starEach [] X.env := by rfl)
    (nb : starEach [.Call (.Name "range" p2) [e] [] pos2] X.env = (false, eval (.Call (.Name "range" p2) [e] [] pos2) X.env) :: starEach [] X.env := by rfl) : DE X G (.Call (.Name "list" p) [.Call (.Name "range" p2) [e] [] pos2] [] pos) (wLrng rng1 (wCons wa wNil)) ca :=
  PE_imp (pe_listRg hc hg hm (prg_1 hg2 hm2 ha na) nb) fun σ H Q h => by
    obtain ⟨env, M, C, b0, P, hb0, er, hw, hf⟩ := h
    refine ⟨env, M, C, b0, _, hb0, er, hw, fun dv hd b1 w1 v hb1 er1 e1 r1 => ?_⟩
    obtain ⟨ds, h1, h4, p⟩ := hd
    obtain ⟨es, h2, h3⟩ := Option.bind_eq_some_iff.mp h1
    obtain ⟨j, rfl, c, rfl⟩ := rng1_get h3
    have hv : dv.val = some (.int j) := by
      simp only [valL, Option.bind_eq_some_iff, Option.map_eq_some_iff] at h2
      obtain ⟨d, q1, _, q2, q3⟩ := h2
      cases q2; cases q3; exact q1
    have q := r1.rq hv
    cases q
    rw [rangeD_length] at h4
    refine ⟨j, rfl, ⟨by omega, by omega, c.1, c.2, by rw [Int.sub_zero]; exact h4⟩, fun l n => ?_⟩
    have fin := Fin.pure (Fin.ext (w := ⟨H, M, C⟩) hf e1 hb1) er1 (d := .list (rangeD 0 j.toNat)) p (same_new n) (newL n (rg_rp 0 j.toNat))
    have e2 : rgV 0 j = (List.range j.toNat).map fun i => V.int (0 + (i : Nat)) := by unfold rgV; rw [Int.sub_zero]
    rw [e2]
    exact fin
end
end DL
namespace DL
open PySem PySem.Spec PyProof.Rows L2
theorem Ow.there {w : Wd} {a : Addr} {d : D} (o : Ow w a d) : ∃ ob, w.H a = some ob := by cases o <;> exact ⟨_, by assumption⟩
section
variable {G : Gh} {w w' : Wd} {env : Ev} {σ : L2.St}
/-- the slot of an own thing -/
theorem ER.ownAt (er : ER G w env σ) {i : Nat} {d : D} (h : env[i]? = some (.own d)) : ∃ a, σ[i]? = some (some (.ref a)) ∧ w.M a ∧ ¬ w.C a ∧ G.Pt a = none ∧ G.H0 a = none ∧ Ow w a d := by
  obtain ⟨ov, h1, a, rfl, r⟩ := er.at h
  exact ⟨a, h1, r⟩
/-- an own thing has changed -/
theorem ER.mut (er : ER G w env σ) {i : Nat} {d d' : D} {a : Addr} {o : HO} (h : env[i]? = some (.own d)) (hs : σ[i]? = some (some (.ref a))) (no : Ow ⟨upd w.H a o, w.M, w.C⟩ a d') : ER G ⟨upd w.H a o, w.M, w.C⟩ (env.set i (.own d')) σ := by
  obtain ⟨a', h1, m, c, p, z, _⟩ := er.ownAt h
  rw [hs] at h1
  cases h1
  have st : St1 w ⟨upd w.H a o, w.M, w.C⟩ := ⟨fun b x n q => .inl (by show upd w.H a o b = some x; rw [upd_ne (fun z => n (by rw [z]; exact m))]; exact q), fun b m => .inl m⟩
  refine ⟨er.toEH.poke m c p (fun xs z => no.ntup xs (by show upd w.H a o a = _; rw [upd_same, z])), by rw [List.length_set]; exact er.len, fun j s ov q1 q2 => ?_, fun j k d1 d2 b q1 q2 q3 q4 => ?_⟩
  · rcases get_set q1 with ⟨rfl, rfl⟩ | ⟨ne, q1⟩
    · rw [hs] at q2; cases q2
      exact ⟨a, rfl, m, c, p, z, no⟩
    · have s0 := er.sl j s ov q1 q2
      cases s with
      | no => trivial
      | fz d => obtain ⟨v, y, r⟩ := s0; exact ⟨v, y, r.st st⟩
      | raw v => exact s0
      | own d =>
        obtain ⟨b, rfl, mb, cb, pb, zb, ob⟩ := s0
        have nb : b ≠ a := fun y => ne (er.od j i _ _ a q1 h (by rw [← y]; exact q2) hs)
        exact ⟨b, rfl, mb, cb, pb, zb, ob.st st (by show upd w.H a o b = w.H b; rw [upd_ne nb])⟩
      | bw d =>
        obtain ⟨b, rfl, mb, cb, ⟨x, pb⟩, ob⟩ := s0
        have nb : b ≠ a := fun y => by rw [y, p] at pb; cases pb
        exact ⟨b, rfl, mb, cb, ⟨x, pb⟩, ob.st st (by show upd w.H a o b = w.H b; rw [upd_ne nb])⟩
  · have own : ∀ {j : Nat} {d1 : D}, (env.set i (.own d'))[j]? = some (.own d1) → ∃ d0, env[j]? = some (.own d0) := fun {j d1} q => by
      rcases get_set q with ⟨rfl, _⟩ | ⟨_, q⟩
      · exact ⟨d, h⟩
      · exact ⟨_, q⟩
    obtain ⟨e1, g1⟩ := own q1
    obtain ⟨e2, g2⟩ := own q2
    exact er.od j k e1 e2 b g1 g2 q3 q4
/-- an own thing is frozen -/
theorem ER.freeze (er : ER G w env σ) {i : Nat} {d : D} {a : Addr} (h : env[i]? = some (.own d)) (hs : σ[i]? = some (some (.ref a))) : ER G ⟨w.H, fun b => w.M b ∧ b ≠ a, w.C⟩ (env.set i (.fz d)) σ ∧ Rp ⟨w.H, fun b => w.M b ∧ b ≠ a, w.C⟩ (.ref a) d := by
  obtain ⟨a', h1, m, c, p, z, o⟩ := er.ownAt h
  rw [hs] at h1
  cases h1
  have st : St1 w ⟨w.H, fun b => w.M b ∧ b ≠ a, w.C⟩ := ⟨fun b x n q => .inl q, fun b m => .inl m.1⟩
  have rp : Rp ⟨w.H, fun b => w.M b ∧ b ≠ a, w.C⟩ (.ref a) d := (o.st st rfl).rp fun q => q.2 rfl
  refine ⟨⟨⟨er.kp, fun b q => ⟨er.m0 b q, fun y => G.mh b q (by rw [y]; exact z)⟩, er.nc, er.cp, fun b q => ⟨er.cm b q, fun y => c (by rw [← y]; exact q)⟩, fun b q => er.md b q.1, er.hd, fun p hp => p.st _ _ st (er.gk p hp), er.si, fun b xs q => er.mt b xs q.1⟩, by rw [List.length_set]; exact er.len, fun j s ov q1 q2 => ?_, fun j k d1 d2 b q1 q2 q3 q4 => ?_⟩, rp⟩
  · rcases get_set q1 with ⟨rfl, rfl⟩ | ⟨ne, q1⟩
    · rw [hs] at q2; cases q2
      exact ⟨_, rfl, rp⟩
    · have s0 := er.sl j s ov q1 q2
      cases s with
      | no => trivial
      | fz d => obtain ⟨v, y, r⟩ := s0; exact ⟨v, y, r.st st⟩
      | raw v => exact s0
      | own d =>
        obtain ⟨b, rfl, mb, cb, pb, zb, ob⟩ := s0
        exact ⟨b, rfl, ⟨mb, fun y => ne (er.od j i _ _ a q1 h (by rw [← y]; exact q2) hs)⟩, cb, pb, zb, ob.st st rfl⟩
      | bw d =>
        obtain ⟨b, rfl, mb, cb, ⟨x, pb⟩, ob⟩ := s0
        exact ⟨b, rfl, ⟨mb, fun y => by rw [y, p] at pb; cases pb⟩, cb, ⟨x, pb⟩, ob.st st rfl⟩
  · rcases get_set q1 with ⟨_, y⟩ | ⟨_, q1⟩
    · cases y
    · rcases get_set q2 with ⟨_, y⟩ | ⟨_, q2⟩
      · cases y
      · exact er.od j k d1 d2 b q1 q2 q3 q4
/-- something new is somebody's own while an expression goes on -/
theorem ER.held {d : D} {a : Addr} {b0 b1 : Nat} (er : ER (G.at b0) w env σ) (er' : ER (G.at b1) w' env σ) (e : Ext w w') (hs : w.H a = none) (t : w'.H a ≠ none) (t' : ∀ xs, w'.H a ≠ some (.tup xs)) : ER (G.at b1) (w'.plus a) env σ ∧ Ext w (w'.plus a) := by
  have ex : Ext w (w'.plus a) := ⟨e.keep, e.dom, e.newC, fun b m => m.elim (e.newM b) fun q => .inr (by rw [q]; exact hs), fun b m => .inl (e.oldM b m)⟩
  exact ⟨er.ext' ex (er.toEH.ext ex er'.si ⟨fun b c => .inl (er'.cm b c), fun b m => m.elim (er'.md b) fun q => by rw [q]; exact t, fun b xs m => m.elim (er'.mt b xs) fun q => by rw [q]; exact t' xs⟩), ex⟩
end

/-! ### x.append(e), x = y.pop(), d[k] = e of own things -/
section
variable {X : Cx} {G : Gh} {e k o : Expr} {we wk : WE} {ca cb : Nat} {pos p1 p2 p3 : Pos}
def wApp (i : Nat) (we : WE) : WS := fun env De => ∃ ds, env[i]? = some (.own (.list ds)) ∧ we env fun x => ∃ d, x.kept = some d ∧ ds.length < sizeLine ∧ De.nx (env.set i (.own (.list (ds ++ [d]))))
theorem ds_append (i : Nat) {x : Str} (he : DE X G e we ca) (hN : X.N[i]? = some x := by rfl) (hv : Vis X.env.scope x := by first | exact Or.inl rfl | exact Or.inr (Or.inl rfl) | exact Or.inr (Or.inr rfl)) (hd : (x == ("__debug__" : Str)) = false := by decide) (hcd : (x == ("__classdict__" : Str)) = false := by decide)
    (hbase : attributeBase (.Name x p1) "append" X.env (eval (.Name x p1) X.env) = eval (.Name x p1) X.env := by rfl)
    (hfew : ((backTo p3 (starEach [e] X.env)).all (fun x => !x.1) && (backToKw p3 (keywordEach [] X.env)).all (fun x => x.1.isSome)
      && decide ([e].length + ([] : List Keyword).length + (if ([] : List Keyword).isEmpty then 0 else 1) < 30)) = true := by rfl)
    (hline : (p2.endLine == p3.line) = true := by rfl) (hs : starEach [e] X.env = (false, eval e X.env) :: starEach [] X.env := by rfl) (hplain : (backTo p3 (starEach [] X.env)).any (·.1) = false := by rfl)
    (hsw : swapsWith (.Call (.Attribute (.Name x p1) "append" p2) [e] [] p3) none pos.line X.env = pure false := by rfl) :
    DS X G (.Expr (.Call (.Attribute (.Name x p1) "append" p2) [e] [] p3) pos) (wApp i we) ca :=
  PS_imp (ps_expr (pe_bm PySem.F.plainAttrs_list PySem.F.slot_list_append PySem.F.type_list_append mt_append (pe_var hN hv hd hcd) (pa_cons he pa_nil hs) hbase hfew hline hs hplain) hsw) fun σ H T h => by
    obtain ⟨env, M, C, b0, De, hb0, er, ⟨ds, hi, hw⟩, lf⟩ := h
    obtain ⟨a, h1, m, c, p, z, ob⟩ := er.ownAt hi
    cases ob with
    | @lst xs _ hx rl =>
      refine ⟨.ref a, h1, .inl ⟨rfl, xs, SqL.of hx⟩, env, M, C, b0, _, hb0, er, hw, fun dv hd b1 w1 v hb1 er1 e1 r1 => ?_⟩
      obtain ⟨d, hk, hz, n⟩ := hd
      obtain ⟨a', h1', m', c', p', z', ob'⟩ := er1.ownAt hi
      rw [h1] at h1'
      cases h1'
      cases ob' with
      | @lst xs' _ hx' rl' =>
        refine ⟨a, xs', v, rfl, rfl, hx', by rw [rl'.length]; exact hz, ?_⟩
        have st : St1 w1 ⟨upd w1.H a (.lst (xs' ++ [v])), w1.M, w1.C⟩ := ⟨fun b x n q => .inl (by show upd w1.H a _ b = some x; rw [upd_ne (fun z => n (by rw [z]; exact m'))]; exact q), fun b m => .inl m⟩
        exact lf.nx _ n b1 ⟨upd w1.H a (.lst (xs' ++ [v])), w1.M, w1.C⟩ σ hb1 (er1.mut hi h1 (.lst upd_same ((rl'.append (.cons (r1.rp hk) .nil)).st st)))
/-- x.append(y), y an own thing: y is frozen -/
def wAppF (i j : Nat) : WS := fun env De => ∃ ds d, env[i]? = some (.own (.list ds)) ∧ env[j]? = some (.own d) ∧ i ≠ j ∧ ds.length < sizeLine ∧ De.nx ((env.set j (.fz d)).set i (.own (.list (ds ++ [d]))))
theorem ds_appendF (i j : Nat) {x y : Str} {py : Pos} (hN : X.N[i]? = some x := by rfl) (hv : Vis X.env.scope x := by first | exact Or.inl rfl | exact Or.inr (Or.inl rfl) | exact Or.inr (Or.inr rfl)) (hNy : X.N[j]? = some y := by rfl) (hvy : Vis X.env.scope y := by first | exact Or.inl rfl | exact Or.inr (Or.inl rfl) | exact Or.inr (Or.inr rfl))
    (hd : (x == ("__debug__" : Str)) = false := by decide) (hcd : (x == ("__classdict__" : Str)) = false := by decide) (hdy : (y == ("__debug__" : Str)) = false := by decide) (hcdy : (y == ("__classdict__" : Str)) = false := by decide)
    (hbase : attributeBase (.Name x p1) "append" X.env (eval (.Name x p1) X.env) = eval (.Name x p1) X.env := by rfl)
    (hfew : ((backTo p3 (starEach [.Name y py] X.env)).all (fun x => !x.1) && (backToKw p3 (keywordEach [] X.env)).all (fun x => x.1.isSome)
      && decide ([Expr.Name y py].length + ([] : List Keyword).length + (if ([] : List Keyword).isEmpty then 0 else 1) < 30)) = true := by rfl)
    (hline : (p2.endLine == p3.line) = true := by rfl) (hs : starEach [.Name y py] X.env = (false, eval (.Name y py) X.env) :: starEach [] X.env := by rfl) (hplain : (backTo p3 (starEach [] X.env)).any (·.1) = false := by rfl)
    (hsw : swapsWith (.Call (.Attribute (.Name x p1) "append" p2) [.Name y py] [] p3) none pos.line X.env = pure false := by rfl) :
    DS X G (.Expr (.Call (.Attribute (.Name x p1) "append" p2) [.Name y py] [] p3) pos) (wAppF i j) 0 :=
  PS_imp (ps_expr (pe_bm PySem.F.plainAttrs_list PySem.F.slot_list_append PySem.F.type_list_append mt_append (pe_var hN hv hd hcd) (pa_cons (pe_var hNy hvy hdy hcdy) pa_nil hs) hbase hfew hline hs hplain) hsw) fun σ H T h => by
    obtain ⟨env, M, C, b0, De, hb0, er, ⟨ds, d, hi, hj, hij, hz, n⟩, lf⟩ := h
    obtain ⟨a, h1, m, c, p, z, ob⟩ := er.ownAt hi
    obtain ⟨b, h2, mb, cb, pb, zb, _⟩ := er.ownAt hj
    obtain ⟨er1, rp⟩ := er.freeze hj h2
    have hi' : (env.set j (.fz d))[i]? = some (.own (.list ds)) := by rw [List.getElem?_set_ne hij.symm]; exact hi
    obtain ⟨a', h1', m', c', _, _, ob'⟩ := er1.ownAt hi'
    rw [h1] at h1'
    cases h1'
    cases ob' with
    | @lst xs _ hx rl =>
      refine ⟨.ref a, h1, .inl ⟨rfl, xs, SqL.of hx⟩, .ref b, h2, a, xs, .ref b, rfl, rfl, hx, by rw [rl.length]; exact hz, ?_⟩
      have st : St1 ⟨H, fun q => M q ∧ q ≠ b, C⟩ ⟨upd H a (.lst (xs ++ [.ref b])), fun q => M q ∧ q ≠ b, C⟩ := ⟨fun b x n q => .inl (by show upd H a _ b = some x; rw [upd_ne (fun z => n (by rw [z]; exact m'))]; exact q), fun b m => .inl m⟩
      exact lf.nx _ n b0 ⟨upd H a (.lst (xs ++ [.ref b])), fun q => M q ∧ q ≠ b, C⟩ σ (Nat.le_refl _) (er1.mut hi' h1 (.lst upd_same ((rl.append (.cons rp .nil)).st st)))
/-- y = x.pop() -/
def wPop (j i : Nat) : WS := fun env De => ∃ ds d, env[i]? = some (.own (.list (ds ++ [d]))) ∧ De.nx ((env.set i (.own (.list ds))).set j (.fz d))
theorem ds_pop (j i : Nat) {x y : Str} {py : Pos} (hnd : X.N.Nodup) (hN : X.N[i]? = some x := by rfl) (hv : Vis X.env.scope x := by first | exact Or.inl rfl | exact Or.inr (Or.inl rfl) | exact Or.inr (Or.inr rfl)) (hd : (x == ("__debug__" : Str)) = false := by decide) (hcd : (x == ("__classdict__" : Str)) = false := by decide)
    (hj : X.N[j]? = some y := by rfl) (hx : Loc X.env.scope y := by first | exact Or.inl rfl | exact Or.inr rfl) (hbase : attributeBase (.Name x p1) "pop" X.env (eval (.Name x p1) X.env) = eval (.Name x p1) X.env := by rfl) (hline : (p2.endLine == p3.line) = true := by rfl)
    (hs : swapsWith (.Call (.Attribute (.Name x p1) "pop" p2) [] [] p3) (some (.Name y py)) pos.line X.env = pure false := by rfl) (hf : X.fn y = true ∨ X.env.scope.names.lookup y = some .local := by first | exact .inl rfl | exact .inr rfl | assumption) :
    DS X G (.Assign [.Name y py] (.Call (.Attribute (.Name x p1) "pop" p2) [] [] p3) pos) (wPop j i) 0 :=
  PS_imp (ps_set hnd hj hx (pe_bm0 PySem.F.plainAttrs_list PySem.F.slot_list_pop PySem.F.type_list_pop mt_pop (pe_var hN hv hd hcd) hbase hline) hs hf) fun σ H T h => by
    obtain ⟨env, M, C, b0, De, hb0, er, ⟨ds, d, hi, n⟩, lf⟩ := h
    obtain ⟨a, h1, m, c, p, z, ob⟩ := er.ownAt hi
    cases ob with
    | @lst xs _ hx rl =>
      have hl : xs.length = ds.length + 1 := by rw [rl.length, List.length_append]; rfl
      obtain ⟨v, hv, rv⟩ := rl.get (i := ds.length) (d := d) (by rw [List.getElem?_append_right (Nat.le_refl _), Nat.sub_self]; rfl)
      refine ⟨.ref a, h1, .inl ⟨rfl, xs, SqL.of hx⟩, a, xs, v, rfl, rfl, hx, by rw [hl]; exact hv, ?_⟩
      have st : St1 ⟨H, M, C⟩ ⟨upd H a (.lst xs.dropLast), M, C⟩ := ⟨fun b x n q => .inl (by show upd H a _ b = some x; rw [upd_ne (fun z => n (by rw [z]; exact m))]; exact q), fun b m => .inl m⟩
      have er1 := er.mut hi h1 (d' := .list ds) (o := .lst xs.dropLast) (.lst upd_same (by have := rl.dropLast; rw [List.dropLast_concat] at this; exact this.st st))
      exact lf.nx _ n b0 _ _ (Nat.le_refl _) (er1.setFz (rv.st st) j)
/-- d[k] = e, d an own dict -/
def putOk (es : List (D × D)) (k : D) : Bool := (dfind es k).isSome
def wPut (i : Nat) (wk we : WE) : WS := fun env De => ∃ es, env[i]? = some (.own (.dict es)) ∧ we env fun v => wk env fun k => ∃ dv dk, v.kept = some dv ∧ k.val = some dk ∧ putOk es dk = true ∧ es.length < sizeLine ∧ De.nx (env.set i (.own (.dict (dput es dk dv))))
theorem Inv.swapD {pins : List (Addr × Obj)} {σ : L2.St} {H : Hp} {s : Shared} {a : Addr} (I : Inv X pins σ H s) (h : (H a = some (.dT []) ∨ H a = some (.dK []))) : Inv X pins σ (upd H a (.dK [])) s ∧ Inv X pins σ (upd H a (.dT [])) s := by
  have mu : Mut (H a) := by rcases h with h | h <;> (rw [h]; trivial)
  have okK : ObjOk X.prog X.w (upd H a (.dK [])) s.heap a (.dK []) := by
    rcases h with h | h
    · obtain ⟨hd, dd⟩ := dT0 I (.inl h)
      exact ⟨Nat.zero_le _, hd, [], .nil, dd⟩
    · obtain ⟨z, y, vs, r, dd⟩ := I.hok a _ h
      exact ⟨z, y, vs, r, dd⟩
  have okT : ObjOk X.prog X.w (upd H a (.dT [])) s.heap a (.dT []) := by
    rcases h with h | h
    · obtain ⟨z, y, xs, r, dd⟩ := I.hok a _ h
      cases r
      exact ⟨z, y, [], .nil, dd⟩
    · obtain ⟨hd, o, es, ep, h1, h2, h3, h4, h5, h6⟩ := dK0 I (.inl h)
      exact ⟨Nat.zero_le _, hd, [], .nil, o, es, ep, h1, h2, h3, h4, h6⟩
  have there : ∃ u, s.heap.get? a = some u := by
    obtain ⟨_, _, _, _, o, _, _, e, _⟩ := okK
    exact ⟨o, e⟩
  exact ⟨I.write (t' := s.toks) mu (.inl rfl) (fun b u _ q => q) there okK, I.write (t' := s.toks) mu (.inl rfl) (fun b u _ q => q) there okT⟩
theorem ds_put (i : Nat) {x : Str} {px pt : Pos} (hu : X.A.units + 1 < cLine) (hk : DE X G k wk cb) (he : DE X G e we ca) (hN : X.N[i]? = some x := by rfl) (hv : Vis X.env.scope x := by first | exact Or.inl rfl | exact Or.inr (Or.inl rfl) | exact Or.inr (Or.inr rfl)) (hd : (x == ("__debug__" : Str)) = false := by decide) (hcd : (x == ("__classdict__" : Str)) = false := by decide)
    (hs : swapsWith e (some (.Subscript (.Name x px) k pt)) pos.line X.env = pure false := by rfl) : DS X G (.Assign [.Subscript (.Name x px) k pt] e pos) (wPut i wk we) (ca + cb) := by
  refine ⟨fun pins s σ H T I h => ?_⟩
  obtain ⟨env, M, C, b0, De, hb0, er, ⟨es, hi, hw⟩, lf⟩ := h
  have hx : PE X (.Name x px) (tVar i) := pe_var hN hv hd hcd
  obtain ⟨a, ha, m, c, p, z, _⟩ := er.ownAt hi
  have q0 : tV G we ca σ H fun v H1 => tV G wk cb σ H1 fun y H3 => ∃ (b3 : Nat) (w3 : Wd) (d dk : D), b3 ≤ b0 + (ca + cb) ∧ w3.H = H3 ∧ ER (G.at b3) w3 env σ ∧ Rp w3 v d ∧ Rq w3 y dk ∧ putOk es dk = true ∧ es.length < sizeLine ∧ De.nx (env.set i (.own (.dict (dput es dk d)))) :=
    ⟨env, M, C, b0, _, by omega, er, hw, fun dv hd b1 w1 v hb1 er1 e1 r1 => ⟨env, w1.M, w1.C, b1, _, by omega, er1, hd, fun dk hk b3 w3 y hb3 er3 e3 r3 => by
      obtain ⟨d1, d2, k1, k2, k3, k4, n⟩ := hk
      exact ⟨b3, w3, d1, d2, by omega, rfl, er3, (r1.ext (Hs' := H) e3 er1.cm fun _ z => z).rp k1, r3.rq k2, k3, k4, n⟩⟩⟩
  refine wpAny_Assign_Subscript (thn (he.run pins s σ H _ I q0) fun r s1 ⟨v, H1, I1, rv, q1⟩ => thn (hx.run pins s1 σ H1 (fun x H2 => x = .ref a ∧ H2 = H1) I1 ⟨.ref a, ha, rfl, rfl⟩) fun u s2 ⟨x2, H2, I2, rx, ex, eH⟩ => ?_) hs
  subst ex eH
  refine thn (hk.run pins s2 σ H2 _ I2 q1) fun iv s3 ⟨y, H3, I3, ry, q3⟩ => ?_
  obtain rfl : u = Value.ref a := rx
  obtain ⟨b3, w3, d, dk, hb3, rfl, er3, rd, rk, ok, hz, n⟩ := q3
  obtain ⟨a', ha', m3, c3, p3, z3, ob⟩ := er3.ownAt hi
  rw [ha] at ha'
  cases ha'
  have st : ∀ o, St1 w3 ⟨upd w3.H a o, w3.M, w3.C⟩ := fun o => ⟨fun b x n q => .inl (by show upd w3.H a _ b = some x; rw [upd_ne (fun z => n (by rw [z]; exact m3))]; exact q), fun b m => .inl m⟩
  obtain ⟨rr, hr⟩ := Option.isSome_iff_exists.mp ok
  have finK : ∀ (q : Key) (kvs : List (Key × V)), dk = kD q → es.map (·.1) = kvs.map (fun p => kD p.1) → RpL w3 (kvs.map (·.2)) (es.map (·.2)) → T.nx σ (upd w3.H a (.dK (putK kvs q v))) := fun q kvs e1 k1 k2 => by
    subst e1
    exact lf.nx _ n b3 _ σ hb3 (er3.mut hi ha (.dK upd_same (put_keys kD_eqv kvs es q v d k1) ((put_vals kD_eqv rd kvs es q k1 k2).st (st _))))
  have finT : ∀ (q : List Key) (kvs : List (List Key × V)), dk = tD q → es.map (·.1) = kvs.map (fun p => .tuple (p.1.map kD)) → RpL w3 (kvs.map (·.2)) (es.map (·.2)) → T.nx σ (upd w3.H a (.dT (putK kvs q v))) := fun q kvs e1 k1 k2 => by
    subst e1
    exact lf.nx _ n b3 _ σ hb3 (er3.mut hi ha (.dT upd_same (put_keys tD_eqv kvs es q v d k1) ((put_vals tD_eqv rd kvs es q k1 k2).st (st _))))
  have notT : ∀ q : Key, isT (kD q) = false := fun q => by cases q <;> rfl
  cases hT : isT dk with
  | true =>
    cases dk with
    | tuple ds =>
      simp only [dfind, Option.bind_eq_some_iff] at hr
      obtain ⟨ks, e1, hr⟩ := hr
      obtain ⟨cc, _⟩ := of_if hr
      have e2 := keysD?_eq e1
      subst e2
      cases rk with
      | @tup b xs _ nb hb rb =>
        have exs := RpL.keys rb
        subst exs
        cases ob with
        | @dT kvs _ hh k1 k2 => exact d_setItem hu I3 (DPut.t hh hb (by have := congrArg List.length k1; simp at this; omega)) ry rv fun s4 I4 => ⟨σ, _, I4, finT ks kvs rfl k1 k2⟩
        | @dK kvs _ hh k1 k2 =>
          have e0 : es = [] := by
            cases es with
            | nil => rfl
            | cons e0 es =>
              cases kvs with
              | nil => simp at k1
              | cons q kvs =>
                simp only [List.map_cons, List.cons.injEq] at k1
                simp only [List.all_cons, Bool.and_eq_true, k1.1, notT] at cc
                cases cc.1
          subst e0
          have e3 : kvs = [] := by cases kvs with | nil => rfl | cons q r => simp at k1
          subst e3
          have nba : b ≠ a := fun y => by rw [y, hh] at hb; cases hb
          have I3' := (Inv.swapD I3 (.inr hh)).2
          refine d_setItem hu I3' (DPut.t (k := ks) upd_same (by rw [upd_ne nba]; exact hb) hz) ry rv fun s4 I4 => ⟨σ, _, I4, ?_⟩
          rw [upd_upd]
          exact finT ks [] rfl rfl .nil
    | _ => cases hT
  | false =>
    obtain ⟨q, rfl⟩ : ∃ q, dk = kD q := by
      cases dk with
      | int i => exact ⟨.inl i, rfl⟩
      | str x => exact ⟨.inr x, rfl⟩
      | tuple ds => cases hT
      | none => cases hr
      | bool _ => cases hr
      | list _ => cases hr
      | dict _ => cases hr
    have ev := rk.key
    subst ev
    have cc : (es.all fun p => !isT p.1) = true := by
      have := hr
      cases q <;> exact (of_if this).1
    cases ob with
    | @dK kvs _ hh k1 k2 => exact d_setItem hu I3 (DPut.k hh (by have := congrArg List.length k1; simp at this; omega)) ry rv fun s4 I4 => ⟨σ, _, I4, finK q kvs rfl k1 k2⟩
    | @dT kvs _ hh k1 k2 =>
      have e0 : es = [] := by
        cases es with
        | nil => rfl
        | cons e0 es =>
          cases kvs with
          | nil => simp at k1
          | cons q' kvs =>
            simp only [List.map_cons, List.cons.injEq] at k1
            simp only [List.all_cons, Bool.and_eq_true, k1.1, isT] at cc
            cases cc.1
      subst e0
      have e3 : kvs = [] := by cases kvs with | nil => rfl | cons q r => simp at k1
      subst e3
      have I3' := (Inv.swapD I3 (.inl hh)).1
      refine d_setItem hu I3' (DPut.k (k := q) upd_same hz) ry rv fun s4 I4 => ⟨σ, _, I4, ?_⟩
      rw [upd_upd]
      exact finK q [] rfl rfl .nil
end
end DL
namespace DL
open PySem PySem.Spec PyProof.Rows L2
theorem Room.u65 {k : Nat} {A : Around} (r : Room k A) : A.units + 65 < cLine := by have := r.un; omega
theorem Room.u1 {k : Nat} {A : Around} (r : Room k A) : A.units + 1 < cLine := by have := r.un; omega
section
variable {X : Cx} {G : Gh} {e e2 : Expr} {wa wb : WE} {ca cb : Nat} {pos : Pos}
/-! ### unary minus, powers -/
def w1 (f : D → Option D) (wa : WE) : WE := fun env P => wa env fun x => ∃ d, x.val.bind f = some d ∧ P (mkDv d)
theorem de_neg (ha : DE X G e wa ca) : DE X G (.UnaryOp .USub e pos) (w1 negD wa) ca := PE_imp (pe_un un_neg ha) fun σ H Q h => tV.one h fun env w x dx P er rx k hf => by
  obtain ⟨d, h1, p⟩ := k
  obtain ⟨dx', h2, h3⟩ := Option.bind_eq_some_iff.mp h1
  have q := rx.rq h2
  cases dx' with
  | int i =>
    cases q; cases h3
    exact ⟨i, rfl, hf.pure er p (Same.refl _) (.int _)⟩
  | _ => cases h3
def powD : D → D → Option D
  | .int i, .int j => if 0 ≤ j ∧ j ≤ 1000000 ∧ i.natAbs < 2 ^ 64 then some (.int (i ^ j.toNat)) else none
  | _, _ => none
theorem op_powD : OpR X (binaryOp .Pow) (rV2 powD) := by
  intro pins s σ H x y v u Q I rx ry ⟨w, dx, dy, d, eH, wk, qx, qy, hf, hq⟩
  subst eH
  cases dx with
  | int i =>
    cases dy with
    | int j =>
      cases qx; cases qy
      obtain ⟨c, rfl⟩ := of_if hf
      exact op_pow pins s σ _ _ _ v u Q I rx ry ⟨i, j, rfl, rfl, c, hq _ _ (Same.refl _) (.int _)⟩
    | _ => cases hf
  | _ => cases dy <;> cases hf

/-! ### several targets at once: a, b = x, y -/
/-- as VR, but what is new is held meanwhile -/
def VRo (G : Gh) (Hs : Hp) (w : Wd) (v : V) : Dv → Prop
  | .nw d => ∃ a, v = .ref a ∧ Hs a = none ∧ w.M a ∧ ¬ w.C a ∧ Ow w a d
  | dv => VR G Hs w v dv
theorem VRo.ext {Hs : Hp} {w w' : Wd} {v : V} {dv : Dv} (h : VRo G Hs w v dv) (ex : Ext w w') (cm : ∀ a, w.C a → w.M a) : VRo G Hs w' v dv := by
  cases dv with
  | nw d =>
    obtain ⟨a, q, z, m, n, o⟩ := h
    obtain ⟨ob, ho⟩ := o.there
    exact ⟨a, q, z, ex.oldM a m, fun c => (ex.newC a c).elim n (by rw [ho]; simp), o.st (ex.st cm) (by rw [ho]; exact ex.own n m ho)⟩
  | fz d => exact VR.ext (G := G) (Hs := Hs) (Hs' := Hs) (dv := .fz d) h ex cm fun _ z => z
  | ow d => exact VR.ext (G := G) (Hs := Hs) (Hs' := Hs) (dv := .ow d) h ex cm fun _ z => z
  | bw d => exact VR.ext (G := G) (Hs := Hs) (Hs' := Hs) (dv := .bw d) h ex cm fun _ z => z
  | raw d => exact VR.ext (G := G) (Hs := Hs) (Hs' := Hs) (dv := .raw d) h ex cm fun _ z => z
/-- an expression's value, held -/
theorem tV.held {wa : WE} {K : Ev → Dv → Prop} {σ : L2.St} {w : Wd} {env : Ev} {R : V → Hp → Prop} {b : Nat} (hb : b + ca ≤ cap) (er : ER (G.at b) w env σ) (h : wa env (K env)) (fin : ∀ b' w' x dx, b' ≤ b + ca → ER (G.at b') w' env σ → Ext w w' → VRo G w.H w' x dx → K env dx → R x w'.H) : tV G wa ca σ w.H R := by
  refine ⟨env, w.M, w.C, b, _, hb, er, h, fun dv k b' w' v hb' er' e' r => ?_⟩
  cases dv with
  | nw d =>
    obtain ⟨a, rfl, z, m, n, o⟩ := r
    obtain ⟨ob, ho⟩ := o.there
    obtain ⟨er2, e2⟩ := ER.held (d := d) er er' e' z (by rw [show w'.H a = some ob from ho]; simp) (fun xs => (show w'.H a ≠ some (.tup xs) from o.ntup xs))
    exact fin b' (w'.plus a) _ (.nw d) hb' er2 e2 ⟨a, rfl, z, .inr rfl, n, o⟩ k
  | fz d => exact fin b' w' v (.fz d) hb' er' e' r k
  | ow d => exact fin b' w' v (.ow d) hb' er' e' r k
  | bw d => exact fin b' w' v (.bw d) hb' er' e' r k
  | raw d => exact fin b' w' v (.raw d) hb' er' e' r k
/-- a held value comes into a slot -/
theorem storeO {k : Kp} {i : Nat} {x : Dv} {env : Ev} {N : Ev → Prop} {σ : L2.St} {w0 w : Wd} {env0 : Ev} {σ0 : L2.St} {v : V} {b0 b1 : Nat} (h : store k i x env N) (er0 : ER (G.at b0) w0 env0 σ0) (er : ER (G.at b1) w env σ) (r : VRo G w0.H w v x) (nd : ∀ (a : Addr) (d : D) (j : Nat), (∃ dd, x = .nw dd) → v = .ref a → env[j]? = some (Sl.own d) → σ[j]? ≠ some (some (V.ref a))) :
    ∃ env' w', N env' ∧ w'.H = w.H ∧ ER (G.at b1) w' env' (σ.set i (some v)) ∧ (∀ a, w'.M a → w.M a) ∧ (∀ a, w.M a → w'.M a ∨ (v = .ref a ∧ ∃ d, x = .nw d)) ∧ w'.C = w.C ∧ ∃ sl, env' = env.set i sl ∧ ((∃ d, sl = Sl.own d) → ∃ d, x = .nw d) := by
  have fr : ∀ a, w0.H a = none → G.Pt a = none ∧ G.H0 a = none := fun a z => ⟨by
      cases q : G.Pt a with
      | none => rfl
      | some x => rcases er0.kp a x q with y | ⟨_, _, ob, y⟩ <;> (rw [z] at y; cases y), by
      cases q : G.H0 a with
      | none => rfl
      | some x => exact absurd z (er0.hd a (by rw [q]; simp))⟩
  cases k with
  | fz =>
    obtain ⟨d, h1, h2⟩ := h
    cases x with
    | nw d' =>
      simp only [Dv.kept] at h1
      by_cases q : isDct d' = true
      · rw [if_pos q] at h1; cases h1
      · rw [if_neg q] at h1; cases h1
        obtain ⟨a, rfl, z, m, n, o⟩ := r
        have st : St1 w ⟨w.H, fun b => w.M b ∧ b ≠ a, w.C⟩ := ⟨fun b x n q => .inl q, fun b m => .inl m.1⟩
        have rp : Rp ⟨w.H, fun b => w.M b ∧ b ≠ a, w.C⟩ (.ref a) d := (o.st st rfl).rp fun q => q.2 rfl
        have er' : ER (G.at b1) ⟨w.H, fun b => w.M b ∧ b ≠ a, w.C⟩ env σ := by
          refine ⟨⟨er.kp, fun b q => ⟨er.m0 b q, fun y => G.mh b q (by rw [y]; exact (fr a z).2)⟩, er.nc, er.cp, fun b q => ⟨er.cm b q, fun y => n (by rw [← y]; exact q)⟩, fun b q => er.md b q.1, er.hd, fun p hp => p.st _ _ st (er.gk p hp), er.si, fun b xs q => er.mt b xs q.1⟩, er.len, fun j s ov q1 q2 => ?_, er.od⟩
          have s0 := er.sl j s ov q1 q2
          cases s with
          | no => trivial
          | fz d => obtain ⟨v, y, r⟩ := s0; exact ⟨v, y, r.st st⟩
          | raw v => exact s0
          | own d =>
            obtain ⟨b, rfl, mb, cb, pb, zb, ob⟩ := s0
            exact ⟨b, rfl, ⟨mb, fun y => nd a d j ⟨_, rfl⟩ rfl q1 (by rw [← y]; exact q2)⟩, cb, pb, zb, ob.st st rfl⟩
          | bw d =>
            obtain ⟨b, rfl, mb, cb, ⟨x, pb⟩, ob⟩ := s0
            exact ⟨b, rfl, ⟨mb, fun y => by rw [y, (fr a z).1] at pb; cases pb⟩, cb, ⟨x, pb⟩, ob.st st rfl⟩
        exact ⟨_, ⟨w.H, fun b => w.M b ∧ b ≠ a, w.C⟩, h2, rfl, er'.setFz rp i, fun b m => m.1, fun b m => by
          by_cases y : b = a
          · exact .inr ⟨by rw [y], _, rfl⟩
          · exact .inl ⟨m, y⟩, rfl, _, rfl, fun ⟨_, q⟩ => (nomatch q)⟩
    | fz d' => exact ⟨_, w, h2, rfl, er.setFz (VR.rp (G := G) (Hs := w0.H) (dv := .fz d') r h1) i, fun _ m => m, fun _ m => .inl m, rfl, _, rfl, fun ⟨_, q⟩ => (nomatch q)⟩
    | ow d' => cases h1
    | bw d' => cases h1
    | raw d' => cases h1
  | own =>
    obtain ⟨d, rfl, h2⟩ := h
    obtain ⟨a, rfl, z, m, n, o⟩ := r
    refine ⟨_, w, h2, rfl, ⟨er.toEH, by rw [List.length_set, List.length_set]; exact er.len, fun j s ov q1 q2 => ?_, fun j k d1 d2 b q1 q2 q3 q4 => ?_⟩, fun _ m => m, fun _ m => .inl m, rfl, _, rfl, fun _ => ⟨_, rfl⟩⟩
    · rcases get_set q1 with ⟨rfl, rfl⟩ | ⟨n1, q1⟩
      · rcases get_set q2 with ⟨_, rfl⟩ | ⟨n2, _⟩
        · exact ⟨a, rfl, m, n, (fr a z).1, (fr a z).2, o⟩
        · exact absurd rfl n2
      · rcases get_set q2 with ⟨n2, _⟩ | ⟨_, q2⟩
        · exact absurd n2 n1
        · exact er.sl j s ov q1 q2
    · rcases get_set q1 with ⟨ej, _⟩ | ⟨n1, g1⟩
      · rcases get_set q2 with ⟨ek, _⟩ | ⟨n2, g2⟩
        · rw [ej, ek]
        · rcases get_set q3 with ⟨_, y⟩ | ⟨y, _⟩
          · rcases get_set q4 with ⟨y, _⟩ | ⟨_, g4⟩
            · exact absurd y n2
            · rw [V.ref.inj (Option.some.inj y)] at g4
              exact (nd _ _ k ⟨_, rfl⟩ rfl g2 g4).elim
          · exact absurd ej y
      · rcases get_set q3 with ⟨y, _⟩ | ⟨_, g3⟩
        · exact absurd y n1
        · rcases get_set q2 with ⟨ek, _⟩ | ⟨n2, g2⟩
          · rcases get_set q4 with ⟨_, y⟩ | ⟨y, _⟩
            · rw [V.ref.inj (Option.some.inj y)] at g3
              exact (nd _ _ j ⟨_, rfl⟩ rfl g1 g3).elim
            · exact absurd ek y
          · rcases get_set q4 with ⟨y, _⟩ | ⟨_, g4⟩
            · exact absurd y n2
            · exact er.od j k d1 d2 b g1 g2 g3 g4
  | raw =>
    obtain ⟨u, rfl, h2⟩ := h
    obtain rfl : v = u := r
    exact ⟨_, w, h2, rfl, er.setRaw i, fun _ m => m, fun _ m => .inl m, rfl, _, rfl, fun ⟨_, q⟩ => (nomatch q)⟩
theorem VRo.less {Hs : Hp} {w w' : Wd} {v : V} {dv : Dv} {U : Addr → Prop} (h : VRo G Hs w v dv) (eH : w'.H = w.H) (eC : w'.C = w.C) (h1 : ∀ a, w'.M a → w.M a) (h2 : ∀ a, w.M a → w'.M a ∨ U a) (ne : ∀ a, U a → Hs a ≠ none) (nb : dv.kept ≠ none ∨ (∃ d, dv = .nw d) ∨ ∃ v, dv = .raw v) : VRo G Hs w' v dv := by
  have st : St1 w w' := ⟨fun a o _ q => .inl (by rw [eH]; exact q), fun a m => .inl (h1 a m)⟩
  cases dv with
  | nw d =>
    obtain ⟨a, q, z, m, n, o⟩ := h
    exact ⟨a, q, z, (h2 a m).elim id fun y => absurd z (ne a y), by rw [eC]; exact n, o.st st (by rw [eH])⟩
  | fz d => exact Rp.st st h
  | raw d => exact h
  | ow d =>
    rcases nb with q | ⟨_, q⟩ | ⟨_, q⟩
    · exact (q rfl).elim
    · cases q
    · cases q
  | bw d =>
    rcases nb with q | ⟨_, q⟩ | ⟨_, q⟩
    · exact (q rfl).elim
    · cases q
    · cases q
theorem store_nb {k : Kp} {i : Nat} {x : Dv} {env : Ev} {N : Ev → Prop} (h : store k i x env N) : x.kept ≠ none ∨ (∃ d, x = .nw d) ∨ ∃ v, x = .raw v := by
  cases k with
  | fz => obtain ⟨d, q, _⟩ := h; exact .inl (by rw [q]; simp)
  | own => obtain ⟨d, q, _⟩ := h; exact .inr (.inl ⟨d, q⟩)
  | raw => obtain ⟨d, q, _⟩ := h; exact .inr (.inr ⟨d, q⟩)
/-- no own slot holds what is new -/
theorem ER.notNew {w : Wd} {env : Ev} {σ : L2.St} (er : ER G w env σ) {a : Addr} {d : D} {j : Nat} (h : env[j]? = some (.own d)) (z : w.H a = none) : σ[j]? ≠ some (some (.ref a)) := fun q => by
  obtain ⟨b, h1, _, _, _, _, o⟩ := er.ownAt h
  rw [q] at h1
  cases h1
  obtain ⟨ob, ho⟩ := o.there
  rw [z] at ho; cases ho
def wPar2 (k1 : Kp) (i : Nat) (k2 : Kp) (j : Nat) (wa wb : WE) : WS := fun env De => wa env fun x => wb env fun y => store k1 i x env fun env1 => store k2 j y env1 De.nx
theorem ds_par2 (k1 : Kp) (i : Nat) (k2 : Kp) (j : Nat) {x y : Str} {px py pt : Pos} {kt kk pt2} (hc : X.calm = true) (hN : X.N.Nodup) (ha : DE X G e wa ca) (hb : DE X G e2 wb cb) (hi : X.N[i]? = some x := by rfl) (hj : X.N[j]? = some y := by rfl) (hij : i ≠ j := by decide)
    (hx : X.env.scope.names.lookup x = some .local := by rfl) (hy : X.env.scope.names.lookup y = some .local := by rfl) (ne : starEach [e, e2] X.env = (false, eval e X.env) :: starEach [e2] X.env := by rfl) (ne2 : starEach [e2] X.env = (false, eval e2 X.env) :: starEach [] X.env := by rfl)
    (hw : swappedStores [.Tuple [.Name x px, .Name y py] kt pt] (.Tuple [e, e2] kk pt2) X.env = pure (some [x, y]) := by rfl)
    (hs : swapsWithSole [.Tuple [.Name x px, .Name y py] kt pt] (.Tuple [e, e2] kk pt2) pos.line X.env = pure false := by rfl) :
    DS X G (.Assign [.Tuple [.Name x px, .Name y py] kt pt] (.Tuple [e, e2] kk pt2) pos) (wPar2 k1 i k2 j wa wb) (ca + cb) :=
  PS_imp (ps_par hc hN hi hj hij hx hy (pa_cons ha (pa_cons hb pa_nil ne2) ne) hw hs) fun σ H T h => by
    obtain ⟨env, M, C, b0, De, hb0, er, hp, lf⟩ := h
    suffices q : tV G wa ca σ H fun v1 H1 => tV G wb cb σ H1 fun v2 H2 => ∃ v w, [v1, v2] = [v, w] ∧ T.nx ((σ.set i (some v)).set j (some w)) H2 from q
    refine tV.held (K := fun env x => wb env fun y => store k1 i x env fun env1 => store k2 j y env1 De.nx) (w := ⟨H, M, C⟩) (b := b0) (by omega) er hp fun b1 w1 v1 d1 hb1 er1 e1 r1 hq => ?_
    refine tV.held (K := fun env y => store k1 i d1 env fun env1 => store k2 j y env1 De.nx) (b := b1) (by omega) er1 hq fun b2 w2 v2 d2 hb2 er2 e2' r2 hs => ?_
    refine ⟨v1, v2, rfl, ?_⟩
    have r1' := r1.ext e2' er1.cm
    have new1 : ∀ a d, v1 = .ref a → d1 = .nw d → H a = none ∧ w1.H a ≠ none := fun a d ea ed => by
      subst ed
      obtain ⟨b, q, z, _, _, o⟩ := r1
      rw [ea] at q; cases q
      obtain ⟨ob, ho⟩ := o.there
      exact ⟨z, by rw [ho]; simp⟩
    obtain ⟨env1, w3, hn, eH, er3, g1, g2, eC, sl, esl, hsl⟩ := storeO hs er er2 r1' fun a d m ⟨dd, ed⟩ ea hm => er.notNew hm (new1 a dd ea ed).1
    -- the second value stands in the world behind the first store
    have r2' : VRo G w1.H w3 v2 d2 := VRo.less r2 eH eC g1 g2 (fun a ⟨ea, dd, ed⟩ => (new1 a dd ea ed).2) (store_nb hn)
    obtain ⟨env2, w4, hn2, eH2, er4, _⟩ := storeO hn er1 er3 r2' fun a d m ⟨dd, ed⟩ ea hm hq => by
      subst ed
      obtain ⟨b, q, z, _, _, o⟩ := r2
      rw [ea] at q; cases q
      rw [esl] at hm
      rcases get_set hm with ⟨em, es⟩ | ⟨nm, hm⟩
      · rcases get_set hq with ⟨_, y⟩ | ⟨y, _⟩
        · obtain ⟨dd', ed'⟩ := hsl ⟨d, es.symm⟩
          exact (new1 _ dd' (Option.some.inj y).symm ed').2 z
        · exact absurd em y
      · rcases get_set hq with ⟨y, _⟩ | ⟨_, hq⟩
        · exact absurd y nm
        · exact er1.notNew hm z hq
    rw [← eH, ← eH2]
    exact lf.nx env2 hn2 b2 w4 _ (by omega) er4
end
end DL
namespace DL
open PySem PySem.Spec PyProof.Rows L2 PySem.W PySem.SeqAt PySem.Calls
/-! ### sorting tuples, the first of which is the empty one -/
section
variable {prog : Program} {w : World} {A : Around} {E : Value → Shared → Prop} {s : Shared}
theorem call_tuple_lt {Q : Value → Shared → Prop} {l b : Addr} {items items2 : Array Value} {e r : Nat → Bool} (hl : s.heap.IsTuple l items) (hb : s.heap.IsTuple b items2)
    (he : ∀ j (h1 : j < items.size) (h2 : j < items2.size), EqAt A.in1 s items[j] items2[j] (e j)) (hr : ∀ j (h1 : j < items.size) (h2 : j < items2.size), e j = false → RcLt A.in1 s items[j] items2[j] (r j))
    (h : Q (.bool (firstLt e r (decide (items.size < items2.size)) (List.range (min items.size items2.size)))) s) : wpAny (model prog w) A (call (.builtin "tuple.__lt__") [.ref l, .ref b]) Q E s := by
  obtain ⟨⟨cls, dd, data, sl⟩, ho, hc, n, hd⟩ := id hl
  obtain ⟨⟨cls2, dd2, data2, sl2⟩, ho2, hc2, n2, hd2⟩ := id hb
  simp only at hc hd hc2 hd2
  subst hc hd hc2 hd2
  exact call_meets F.slot_tuple_lt ⟨_, ho, rfl⟩ F.entry_tuple_lt (F.args_tuple_lt_2 _ _) (tuple_ltAt l b items items2 n n2 dd dd2 sl sl2 e r) ⟨ho, ho2, he, hr, h⟩
theorem oneLt_tup {xs ys : List PyData} {a b : Value} {as bs : List Addr} {Q : Bool → Shared → Prop} (ra : Reads s.heap a (.tuple xs) as) (rb : Reads s.heap b (.tuple ys) bs) (h : alike (.tuple xs) (.tuple ys) = true)
    (hu : A.units + min (PyData.tuple xs).depth (PyData.tuple ys).depth < cLine) (hq : Q (dataLt (.tuple xs) (.tuple ys)) s) : wpAny (model prog w) A (oneLt' true a b) Q E s := by
  have hal : alikeAll xs ys = true := by simpa [alike] using h
  cases ra with
  | @tuple l o vs n _ as₁ h1 h2 h3 h4 =>
    cases rb with
    | @tuple l' o' vs' n' _ bs₁ k1 k2 k3 k4 =>
      have n1 : vs.size = xs.length := by simpa using ReadsAll.length _ _ _ h4
      have n2 : vs'.size = ys.length := by simpa using ReadsAll.length _ _ _ k4
      rw [dataLt_tuple, ← firstLt_toks xs ys hal, ← n1, ← n2] at hq
      rw [oneLt'_eq]
      simp only [if_true]
      refine wpAny_bind (wpAny_cRoomFor (room_here hu) ?_)
      refine wpAny_bind (wpAny_callSpecialIfBound?_slot (T := "tuple") ⟨_, h1, h2⟩ F.slot_tuple_lt (call_tuple_lt (e := pairEq xs ys) (r := fun j => dataLt (xs.getD j .none) (ys.getD j .none)) ⟨_, h1, h2, _, h3⟩ ⟨_, k1, k2, _, k3⟩ (fun j j1 j2 => ?_) (fun j j1 j2 hj => ?_) ?_))
      · have := eqAt_alikeAll xs ys A.in1 s vs.toList vs'.toList _ _ h4 k4 hal (room_in hu) j (by simpa using j1) (by simpa using j2)
        simpa using this
      · have := rcLt_alikeAll xs ys A.in1 s vs.toList vs'.toList _ _ h4 k4 hal (room_in hu) j (by simpa using j1) (by simpa using j2) hj
        simpa using this
      · exact wpAny_truthy_bool hq
end
section
variable {M : Model} {A : Around} {E : Value → Shared → Prop} {s : Shared}
theorem first_tup {v : Value} {xs : List PyData} {as : List Addr} {Q : Option Value → Shared → Prop} (r : Reads s.heap v (.tuple xs) as) (h : ∀ f, (xs = [] → f = none) → Q f s) : wpAny M A (firstOfTuple' v) Q E s := by
  cases r with
  | @tuple a o ys n _ _ ho hc hd hr =>
    rw [kas_first_eq]
    refine wpAny_bind (Looks.here (show Looks M s.heap (typeOf (.ref a)) o.cls from (Looks.ld ho).andThen .now) ?_)
    rw [hc, if_neg (by first | decide | simp)]
    refine wpAny_bind (listItems_at ho hd (wpAny_pure (h _ fun e => ?_)))
    subst e
    have n1 : ys.size = 0 := by simpa using ReadsAll.length _ _ _ hr
    rw [Array.getElem?_eq_none (by omega)]
theorem firsts_tup : ∀ {vs : List Value} {ds : List PyData} {Q : List (Option Value) → Shared → Prop}, EachIs (fun v d => ∃ as, Reads s.heap v d as) vs ds → (∀ d ∈ ds, ∃ xs, d = .tuple xs) → (∀ fs, Q fs s) → wpAny M A (vs.mapM firstOfTuple') Q E s
  | _, _, Q, .nil, _, h => by rw [List.mapM_nil]; exact wpAny_pure (h [])
  | _, _, Q, .cons (b := d) ⟨as, r⟩ t, ht, h => by
    obtain ⟨xs, rfl⟩ := ht d (List.mem_cons_self ..)
    rw [List.mapM_cons]
    exact wpAny_bind (first_tup r fun f _ => wpAny_bind (firsts_tup (Q := fun bs s' => wpAny M A (pure (f :: bs)) Q E s') t (fun d hd => ht d (List.mem_cons_of_mem _ hd)) fun fs => wpAny_pure (h _)))
theorem kind_tupE {v : Value} {vs : List Value} {ds : List PyData} {as : List Addr} {Q : SortKind → Shared → Prop} (r : Reads s.heap v (.tuple []) as) (e : EachIs (fun v d => ∃ as, Reads s.heap v d as) vs ds) (ht : ∀ d ∈ ds, ∃ xs, d = .tuple xs) (h : Q oneType' s) : wpAny M A (keyKind' (v :: vs).toArray) Q E s := by
  rw [keyKind'_eq, List.mapM_toArray, map_eq_pure_bind]
  refine wpAny_bind (wpAny_bind ?_)
  rw [List.mapM_cons]
  refine wpAny_bind (first_tup r fun f hf => wpAny_bind (firsts_tup e ht fun fs => wpAny_pure (wpAny_pure ?_)))
  rw [hf rfl]
  rw [if_neg (by simp), if_neg (by simp)]
  have hT : ∀ u ∈ v :: vs, Looks M s.heap (typeOf u) (.type "tuple") := by
    intro u hu
    rcases List.mem_cons.mp hu with rfl | hu
    · exact looks_reads r
    · obtain ⟨d, hd, as', r'⟩ := e.left u hu
      obtain ⟨xs, rfl⟩ := ht d hd
      exact looks_reads r'
  rw [oneTypeOnly'_eq, List.mapM_toArray, map_eq_pure_bind]
  refine wpAny_bind (wpAny_bind (wpAny_bind (kas_mapM (r := Value.type "tuple") _ (fun v hv Q' hq => (hT v hv).here hq) (wpAny_pure ?_))))
  have hall2 : ((List.map (fun _ => Value.type "tuple") (v :: vs)).toArray.all fun x => x == Value.type "tuple") = true := by
    simp only [List.all_toArray, List.all_map, List.all_eq_true]
    intro _ _
    simp
  have h0 : (List.map (fun _ => Value.type "tuple") (v :: vs)).toArray[0]? = some (Value.type "tuple") := by simp
  rw [h0]
  simp only [hall2, if_true]
  exact wpAny_pure (wpAny_pure h)
end
def tupE : List D → Bool
  | .tuple [] :: r => r.all fun d => match d with | .tuple _ => true | _ => false
  | _ => false
theorem tupE_get {ds : List D} (h : tupE ds = true) : ∃ r, ds = .tuple [] :: r ∧ ∀ d ∈ r, ∃ xs, d = .tuple xs := by
  unfold tupE at h
  split at h
  · rename_i r
    refine ⟨r, rfl, fun d hd => ?_⟩
    have := List.all_eq_true.mp h d hd
    split at this
    · exact ⟨_, rfl⟩
    · cases this
  · cases h
theorem sorts_tupE {prog : Program} {w : World} {A : Around} {s : Shared} {vs : List Value} {ds : List PyData} (e : EachIs (fun v d => ∃ as, Reads s.heap v d as) vs ds) (hal : AllAlike ds) (ht : tupE ds = true) (hu : ∀ d, d ∈ ds → A.units + d.depth < cLine) : SortsAt prog w A s (dataKind s.heap ds) vs := by
  have room : ∀ {d d' : PyData}, d ∈ ds → A.units + min d.depth d'.depth < cLine := fun {d d'} hd => Nat.lt_of_le_of_lt (Nat.add_le_add_left (Nat.min_le_left _ _) _) (hu d hd)
  obtain ⟨r, e0, h1⟩ := tupE_get ht
  have hT : ∀ d ∈ ds, ∃ xs, d = .tuple xs := fun d hd => by
    rw [e0] at hd
    rcases List.mem_cons.mp hd with rfl | hd
    · exact ⟨[], rfl⟩
    · exact h1 d hd
  refine ⟨fun v hv => ?_, oneType', ?_, fun h2 E Q hq => ?_⟩
  · obtain ⟨d, hd, as, r⟩ := e.left v hv
    exact ⟨_, dataKind_some hal hd r⟩
  · intro E x y a b Q ha hb hq
    obtain ⟨d, as, hd, ra, rfl⟩ := dataKind_inv ha
    obtain ⟨d', as', hd', rb, rfl⟩ := dataKind_inv hb
    rw [keyLt'_oneType]
    obtain ⟨xs, rfl⟩ := hT d hd
    obtain ⟨ys, rfl⟩ := hT d' hd'
    exact oneLt_tup ra rb (hal _ hd _ hd') (room hd) hq
  · subst e0
    cases e with
    | cons h t =>
      obtain ⟨as, r0⟩ := h
      exact kind_tupE r0 t h1 hq
end DL
namespace DL
open PySem PySem.Spec PyProof.Rows L2 PySem.W
/-! ### sorted -/
def alikeB (ds : List D) : Bool := ds.all fun d => ds.all fun e => alike d e
def tup1 : D → Bool
  | .tuple (_ :: _) => true
  | _ => false
def plain1 : D → Bool
  | .none => false
  | .tuple _ => false
  | _ => true
def sortOk (ds : List D) : Bool := alikeB ds && (ds.all tup1 || ds.all plain1 || tupE ds) && decide (ds.length ≤ sizeLine) && ds.all (fun d => decide (d.depth ≤ 50)) && PyData.canLayAll0 ds
def sortD (ds : List D) : List D := ds.mergeSort (dataLe false id)
def sortedD : List D → Option D
  | [.list ds] => if sortOk ds = true then some (.list (sortD ds)) else none
  | [.tuple ds] => if sortOk ds = true then some (.list (sortD ds)) else none
  | _ => none
theorem sortOk_get {ds : List D} (h : sortOk ds = true) : AllAlike (ds.map id) ∧ (Sortable (ds.map id) ∨ tupE ds = true) ∧ ds.length ≤ sizeLine ∧ (∀ d ∈ ds, d.depth ≤ 50) ∧ PyData.canLayAll0 ds = true := by
  simp only [sortOk, Bool.and_eq_true, decide_eq_true_eq, Bool.or_eq_true, List.all_eq_true, alikeB] at h
  obtain ⟨⟨⟨⟨h1, h2⟩, h3⟩, h4⟩, h5⟩ := h
  rw [List.map_id]
  refine ⟨fun d hd e he => h1 d hd e he, ?_, h3, h4, h5⟩
  rcases h2 with (q | q) | q
  · refine .inl (.inl fun d hd => ?_)
    have := q d hd
    cases d with
    | tuple xs =>
      cases xs with
      | nil => cases this
      | cons x r => exact ⟨x, r, rfl⟩
    | _ => cases this
  · refine .inl (.inr fun d hd => ⟨fun z => ?_, fun xs z => ?_⟩)
    · have := q d hd; rw [z] at this; cases this
    · have := q d hd; rw [z] at this; cases this
  · exact .inr q
theorem sorts_any {prog : Program} {w : World} {A : Around} {s : Shared} {vs : List Value} {ds : List D} (e : EachIs (fun v d => ∃ as, Reads s.heap v d as) vs (ds.map id)) (hal : AllAlike (ds.map id)) (hk : Sortable (ds.map id) ∨ tupE ds = true) (hu : ∀ d, d ∈ ds.map id → A.units + d.depth < cLine) : SortsAt prog w A s (dataKind s.heap (ds.map id)) vs := by
  rcases hk with hk | hk
  · exact SortsAt.data e hal hk hu
  · exact sorts_tupE e hal (by rw [List.map_id]; exact hk) hu
section
variable {X : Cx} {G : Gh}
theorem each_of {w : Wd} : ∀ {ds : List D} {vs : List V} {us : List Value}, RpL w vs ds → Vals vs us → EachIs (fun u d => ∃ v, RelV v u ∧ Rp w v d) us ds
  | _, _, _, .nil, .nil => .nil
  | _, _, _, .cons h r, .cons q t => .cons ⟨_, q, h⟩ (each_of r t)
theorem of_each {w : Wd} : ∀ {ds : List D} {us : List Value}, EachIs (fun u d => ∃ v, RelV v u ∧ Rp w v d) us ds → ∃ vs, RpL w vs ds ∧ Vals vs us
  | _, _, .nil => ⟨[], .nil, .nil⟩
  | _, _, .cons ⟨v, q, h⟩ r => by
    obtain ⟨vs, a, b⟩ := of_each r
    exact ⟨v :: vs, .cons h a, .cons q b⟩
theorem each_reads {pins : List (Addr × Obj)} {σ : L2.St} {w : Wd} {s : Shared} (I : Inv X pins σ w.H s) : ∀ {ds : List D} {vs : List V} {us : List Value}, RpL w vs ds → Vals vs us → PyData.canLayAll0 ds = true → EachIs (fun u d => ∃ as, Reads s.heap u (id d) as) us ds
  | _, _, _, .nil, .nil, _ => .nil
  | _, _, _, .cons h r, .cons q t, c => by
    rw [PyData.canLayAll0, Bool.and_eq_true] at c
    exact .cons (Dp.reads I _ _ _ (Rp.dp (K := X.K) h c.1) q) (each_reads I r t c.2)
theorem sorted_end {pins : List (Addr × Obj)} {σ : L2.St} {w : Wd} {s : Shared} {Q : VK} {ds : List D} {us out : List Value} (I : Inv X pins σ w.H s) (hz : ds.length ≤ sizeLine) (ho : out.length = ds.length) (eo : EachIs (fun u d => ∃ v, RelV v u ∧ Rp w v d) out (ds.mergeSort (dataLe false id)))
    (hq : ∀ v H', Same w.H H' → VN w H' v (.list (sortD ds)) → Q v H') : EP X pins σ Q (.ref (s.heap.objs.size + 1)) { s with heap := sortedAll s.heap us out.toArray } := by
  obtain ⟨vs, r1, r2⟩ := of_each eo
  obtain ⟨c, hc⟩ := sortedAll_at s.heap us out.toArray
  have hp : w.H (s.heap.objs.size + 1) = none := I.hok.fresh (Nat.le_succ _)
  refine ⟨.ref (s.heap.objs.size + 1), upd w.H (s.heap.objs.size + 1) (.lst vs), I.laid (t' := s.toks) (fun b u q => sortedAll_old q) (Nat.le_succ _) ⟨?_, out, c, r2, hc⟩, rfl, hq _ _ (same_new hp) (newL hp r1)⟩
  rw [r2.length, ho]; exact hz
/-- a tuple's items, collected -/
theorem collectT {prog : Program} {w : World} {A : Around} {E : Value → Shared → Prop} {s : Shared} {l : Addr} {vs : List Value} {Q : List Value → Shared → Prop} (ht : s.heap.IsTuple l vs.toArray) (hz : vs.length ≤ sizeLine)
    (h : Q vs { s with heap := (s.heap.push (seqObj "list" #[] 0)).update s.heap.objs.size (Obj.mapSeq (· ++ vs.toArray)) }) : wpAny (model prog w) A (collect (.ref l)) Q E s := by
  obtain ⟨o, ho, hc, n, hd⟩ := id ht
  unfold collect; refine wpAny_bind (wpAny_runValue (codeAny_builtin entry_proto_collect' ?_))
  show wpAny _ _ (do again (.builtin "list.__iadd__" ⟨[← newList [], .ref l], []⟩)) _ _ s; refine wpAny_bind (wpAny_newList (wpAny_pure ⟨Code.quiet_builtin _ (by decide +kernel), codeAny_builtin entry_list_iadd' ?_⟩))
  show wpAny _ _ (Builtin.List.listExtendWith (.ref s.heap.objs.size) (.ref l) (.ref s.heap.objs.size)) _ _ { s with heap := s.heap.push (seqObj "list" #[] 0) }; unfold Builtin.List.listExtendWith
  have ho' : (s.heap.push (seqObj "list" #[] 0)).get? l = some o := Heap.get?_push_of_some _ ho
  refine wpAny_bind (wpAny_typeOf (T := "tuple") ⟨o, ho', hc⟩ ?_)
  have e2 : (Value.type "tuple" == Value.type "tuple") = true := by rfl
  rw [if_pos (by rw [e2]; simp)]; refine wpAny_bind (listItems_at ho' hd ?_)
  refine wpAny_bind (listItems_at (xs := #[]) (n := 0) (Heap.get?_push_size _ rfl) rfl ?_); rw [if_neg (by simp)]
  refine wpAny_bind (listUpdate_at (xs := #[]) (n := 0) (Heap.get?_push_size _ rfl) rfl ?_ (Nat.zero_le _) (by show (#[] ++ vs.toArray).size ≤ sizeLine + 1; simp only [Array.size_append, List.size_toArray, List.length_nil]; omega)); refine wpAny_pure ?_
  show wpAny (model prog w) A (do let o ← load s.heap.objs.size
                                  match o.data with
                                  | .seq xs _ => pure xs.toList
                                  | _ => unsupported "internal:collect") Q E { s with heap := (s.heap.push (seqObj "list" #[] 0)).update s.heap.objs.size (Obj.mapSeq (· ++ vs.toArray)) }
  refine wpAny_bind (wpAny_load (get?_update_seq (Heap.get?_push_size _ rfl) _) ?_); show wpAny _ _ (pure ((#[] : Array Value) ++ vs.toArray).toList) Q E _
  rw [show ((#[] : Array Value) ++ vs.toArray).toList = vs by simp]; exact wpAny_pure h
theorem sortedT {prog : Program} {w : World} {A : Around} {E : Value → Shared → Prop} {s : Shared} {κ : PyProof.Rows.KeyKind} {l : Addr} {vs : List Value} {Q : Value → Shared → Prop} (ht : s.heap.IsTuple l vs.toArray) (S : SortsAt prog w A.in1.in1 { s with heap := sortingHeap (copyHeap s.heap vs) (s.heap.objs.size + 1) vs } κ vs) (hL : vs.length ≤ sizeLine)
    (h : Q (.ref (s.heap.objs.size + 1)) { s with heap := sortedAll s.heap vs (sortVals κ false vs vs).toArray }) : wpAny (model prog w) A (call (.builtin "sorted") [.ref l]) Q E s := by
  refine Calls.call_function_entry kind_sorted plain_sorted entry_sorted (args_sorted1 _) ?_; unfold Builtin.«sorted»
  refine wpAny_bind (m := checkCount "sorted" 1 1 _) (wpAny_pure ?_); refine wpAny_bind (collectT ht hL ?_)
  refine wpAny_bind (wpAny_newList ?_ hL)
  have hsz : ((s.heap.push (seqObj "list" #[] 0)).update s.heap.objs.size (Obj.mapSeq (· ++ vs.toArray))).objs.size = s.heap.objs.size + 1 := by rw [Heap.size_update, size_push']
  show wpAny _ _ _ _ _ { s with heap := copyHeap s.heap vs }; rw [hsz]
  refine wpAny_bind (wpAny_holding (wpAny_call_entry_kw slot_list_sort ⟨_, copyHeap_at s.heap vs, rfl⟩ entry_list_sort ?_ (args_list_sort _)))
  refine list_sort_vals (s := { s with heap := copyHeap s.heap vs }) (copyHeap_at s.heap vs) S hL ⟨_, rfl, wpAny_pure ⟨_, rfl, h⟩⟩
theorem call_sortedD (hu : X.A.units + 65 < cLine) : CallR X (.builtin "sorted") (rB sortedD) := by
  intro pins s σ H xs us Q I r ⟨w, ds, d, eH, wk, qx, hf, hq⟩
  subst eH
  unfold sortedD at hf
  split at hf
  · obtain ⟨c, rfl⟩ := of_if hf
    obtain ⟨x, rfl, q⟩ := qx.one'
    obtain ⟨u, rfl, ru⟩ := vals1 r
    obtain ⟨h1, h2, h3, h4, h5⟩ := sortOk_get c
    cases q with
    | @lst a xs _ h rl =>
      cases (show u = Value.ref a from ru)
      obtain ⟨its, rv, pl, _⟩ := I.list (SqL.of h)
      have er : EachIs (fun u d => ∃ as, Reads (sortingHeap (copyHeap s.heap its) (s.heap.objs.size + 1) its) u (id d) as) its _ := (each_reads I rl rv h5).mono fun _ _ ⟨as, r⟩ => ⟨as, PyProof.Rows.Reads.keeps (fun _ _ => sorting_copy_old) r⟩
      have el := (each_of rl rv).length
      refine sorted_vals pl.isList (sorts_any (s := { s with heap := sortingHeap (copyHeap s.heap its) (s.heap.objs.size + 1) its }) (each_map (R := fun v d => ∃ as, Reads (sortingHeap (copyHeap s.heap its) (s.heap.objs.size + 1) its) v d as) id er) h1 h2 (bound_map fun b hb => by have := h4 b hb; show X.A.units + 2 + b.depth < cLine; omega)) (by rw [el]; exact h3) ?_
      exact sorted_end I h3 (by rw [sortVals_length false rfl]; exact el) (sortVals_data false (each_of rl rv) er h1) hq
  · obtain ⟨c, rfl⟩ := of_if hf
    obtain ⟨x, rfl, q⟩ := qx.one'
    obtain ⟨u, rfl, ru⟩ := vals1 r
    obtain ⟨h1, h2, h3, h4, h5⟩ := sortOk_get c
    cases q with
    | @tup a xs _ _ h rl =>
      cases (show u = Value.ref a from ru)
      obtain ⟨its, rv, pl, _⟩ := I.tuple (SqT.of h)
      have er : EachIs (fun u d => ∃ as, Reads (sortingHeap (copyHeap s.heap its) (s.heap.objs.size + 1) its) u (id d) as) its _ := (each_reads I rl rv h5).mono fun _ _ ⟨as, r⟩ => ⟨as, PyProof.Rows.Reads.keeps (fun _ _ => sorting_copy_old) r⟩
      have el := (each_of rl rv).length
      refine sortedT (show s.heap.IsTuple a its.toArray from pl) (sorts_any (s := { s with heap := sortingHeap (copyHeap s.heap its) (s.heap.objs.size + 1) its }) (each_map (R := fun v d => ∃ as, Reads (sortingHeap (copyHeap s.heap its) (s.heap.objs.size + 1) its) v d as) id er) h1 h2 (bound_map fun b hb => by have := h4 b hb; show X.A.units + 2 + b.depth < cLine; omega)) (by rw [el]; exact h3) ?_
      exact sorted_end I h3 (by rw [sortVals_length false rfl]; exact el) (sortVals_data false (each_of rl rv) er h1) hq
  · cases hf
/-! ### repr -/
mutual
theorem noDict : ∀ d : D, d.canLay0 = true → d.hasDict = false
  | .none, _ => by simp [PyData.hasDict]
  | .bool _, _ => by simp [PyData.hasDict]
  | .int _, _ => by simp [PyData.hasDict]
  | .str _, _ => by simp [PyData.hasDict]
  | .list xs, h => by rw [PyData.hasDict]; exact noDictAll xs h
  | .tuple xs, h => by rw [PyData.hasDict]; exact noDictAll xs h
  | .dict _, h => by cases h
theorem noDictAll : ∀ ds : List D, PyData.canLayAll0 ds = true → PyData.hasDictAll ds = false
  | [], _ => by simp [PyData.hasDictAll]
  | d :: ds, h => by
    rw [PyData.canLayAll0, Bool.and_eq_true] at h
    rw [PyData.hasDictAll, noDict d h.1, noDictAll ds h.2]; rfl
end
def reprOk (d : D) : Bool := d.canLay0 && d.showable && decide (d.depth ≤ 50) && decide (d.shown.length ≤ sizeLine)
def reprD : List D → Option D
  | [d] => if reprOk d = true then some (.str d.shown) else none
  | _ => none
theorem call_reprD (hgd : X.A.guards = some []) (hu : X.A.units + 65 < cLine) : CallR X (.builtin "repr") (rB reprD) := by
  intro pins s σ H xs us Q I r ⟨w, ds, d, eH, wk, qx, hf, hq⟩
  subst eH
  unfold reprD at hf
  split at hf
  · rename_i d0
    obtain ⟨c, rfl⟩ := of_if hf
    obtain ⟨x, rfl, q⟩ := qx.one'
    obtain ⟨u, rfl, ru⟩ := vals1 r
    simp only [reprOk, Bool.and_eq_true, decide_eq_true_eq] at c
    obtain ⟨⟨⟨c1, c2⟩, c3⟩, c4⟩ := c
    have fin : ∀ (t : Tok) (s' : Shared), Inv X pins σ w.H s' → EP X pins σ Q (.str d0.shown t) s' := fun t s' I' => ⟨.str d0.shown, _, I', ⟨t, rfl⟩, hq _ _ (Same.refl _) (.str _)⟩
    obtain ⟨as, rd⟩ := Dp.reads I d0 x u (q.dp c1) ru
    have big : ∀ a, u = .ref a → wpAny (model X.prog X.w) X.A (call (.builtin "repr") [u]) (EP X pins σ Q) X.xe s := fun a e => by
      subst e
      exact repr_of_reads' rd c2 (fun z => by rw [noDict d0 c1] at z; cases z) hgd (by omega) (fun _ _ z => z) (fun h' t tk k => fin _ _ (I.kept k)) c4
    cases rd with
    | none => exact PySem.P.repr_of_none (fin _ _ (I.tok _))
    | bool b => simp only [PyData.shown] at fin; exact PySem.P.repr_of_bool (fin _ _ (I.tok _))
    | int i t => simp only [PyData.shown] at fin; exact PySem.P.repr_of_int (by simpa [PyData.showable] using c2) (fin _ _ (I.tok _))
    | str y t => simp only [PyData.shown] at fin c4; exact PySem.P.repr_of_str (fin _ _ (I.tok _)) c4
    | list _ _ _ _ => exact big _ rfl
    | tuple _ _ _ _ => exact big _ rfl
    | dict _ _ _ _ _ => cases c1
  · cases hf
end
end DL
namespace DL
open PySem PySem.Spec PyProof.Rows L2 PySem.W
/-! ### enumerate of a tuple -/
set_option maxHeartbeats 1000000 in
theorem meets_enumT {v : Value} {o : Obj} {H : Heap → Prop} (B : Begins v o H) :
    Meets (Builtin.«enumerate.__new__» ⟨[.type "enumerate", v], []⟩) (fun _ R s => H s.heap ∧ R (.ok (.ret (.ref (s.heap.push o).objs.size))) { s with heap := (s.heap.push o).push { cls := .type "enumerate", data := .fields #[.none, .bool false, .ref s.heap.objs.size, rawInt 0, .none, .none] } }) :=
  .of_wp fun prog w A R s h => by
    obtain ⟨hp, g, d, tk, os⟩ := s
    obtain ⟨h1, h⟩ := h
    have hsub := sub_enumerate
    have q1 : ∀ {A' : Around} {E : Value → Shared → Prop} {Q : Value → Shared → Prop}, Q (.ref hp.objs.size) ⟨hp.push o, g, d, tk, os⟩ → wpAny (model prog w) A' (pyIter v) Q E ⟨hp, g, d, tk, os⟩ := fun q => B.iter prog w _ _ ⟨hp, g, d, tk, os⟩ _ h1 q
    wp_walk using q1
    refine wpAny_stack_any fun st => wpAny_pure ?_
    split
    · rename_i c _ _ _ _ _
      cases (c == Value.type "enumerate") <;> (wp_walk using q1; exact ⟨_, rfl, h⟩)
    · wp_walk using q1; exact ⟨_, rfl, h⟩
theorem enumT_begins {prog : Program} {w : World} {A : Around} {E : Value → Shared → Prop} {s : Shared} {v : Value} {o : Obj} {H : Heap → Prop} {Q : Value → Shared → Prop} (B : Begins v o H) (h1 : H s.heap)
    (h : ∀ h', IsEnum h' (s.heap.objs.size + 1) s.heap.objs.size 0 .none → h'.get? s.heap.objs.size = some o → h'.objs.size = s.heap.objs.size + 2 → (∀ b o, s.heap.get? b = some o → h'.get? b = some o) → Q (.ref (s.heap.objs.size + 1)) { s with heap := h' }) :
    wpAny (model prog w) A (call (.type "enumerate") [v]) Q E s := by
  refine callType_new F.called_enumerate (by decide) (F.typeCall_enumerate_1 _) (F.newCall_enumerate_1 _) (fun obj => F.args_object_init_2 obj _) F.entry_enumerate_new (meets_enumT B) ⟨h1, ?_⟩
  have hz : (s.heap.push o).objs.size = s.heap.objs.size + 1 := Heap.size_push ..
  show _ ∧ _; rw [hz]
  have he : IsEnum ((s.heap.push o).push { cls := .type "enumerate", data := .fields #[.none, .bool false, .ref s.heap.objs.size, rawInt 0, .none, .none] }) (s.heap.objs.size + 1) s.heap.objs.size 0 .none := by
    have q := Heap.get?_push_size (s.heap.push o) (o := { cls := .type "enumerate", data := .fields #[.none, .bool false, .ref s.heap.objs.size, rawInt 0, .none, .none] }) rfl
    rw [hz] at q; exact q
  exact ⟨⟨_, he, rfl⟩, h _ he (Heap.get?_push_of_some _ (Heap.get?_push_size _ B.free)) (by rw [Heap.size_push, hz]) fun b o x => Heap.get?_push_of_some _ (Heap.get?_push_of_some _ x)⟩
def IteT (K : PySem.W.Frag) (a : Addr) : It :=
  ⟨fun i H => ∃ (xs : List V) (x : V), SqT K H a xs ∧ xs[i]? = some x, fun i H v H' => ∃ T x, v = .ref T ∧ H T = none ∧ H' = upd H T (.tup [.int (i : Nat), x]) ∧ ∀ xs, SqT K H a xs → xs[i]? = some x, fun i H => ∃ xs : List V, SqT K H a xs ∧ xs.length ≤ i⟩
theorem cls_ne {h : Heap} {a b : Addr} {o u : Obj} {c d : String} (h1 : h.get? a = some o) (h2 : h.get? b = some u) (e1 : o.cls = .type c) (e2 : u.cls = .type d) (n : c ≠ d) : a ≠ b := fun z => by
  rw [z, h2] at h1; cases h1; rw [e1] at e2; cases e2; exact n rfl
/-- a tuple's iterator that is at the end -/
theorem drawsEnd {prog : Program} {w : World} {A : Around} (hh : A.handled = none) (it t : Addr) (items : Array Value) (i : Nat) (hi : items.size ≤ i) : Draws prog w A it [it, t] i (fun _ _ => False) (fun j h => j = i ∧ h.IsTupleIter it t j ∧ h.IsTuple t items) where
  live := fun _ _ st => let ⟨o, ho, _⟩ := st.2.1; ⟨o, ho⟩
  frame := fun _ _ _ st hk => ⟨st.1, st.2.1.at fun o e => hk it (by simp) o e, st.2.2.at fun o e => hk t (by simp) o e⟩
  item := fun j s Q E hj st _ => absurd st.1 (Nat.ne_of_lt hj)
  done := fun s Q E st hE => wpAny_nextOf_tuple_end hh st.2.1 st.2.2 (Array.getElem?_eq_none hi) hE
theorem turn_enumT {P : Program} {w : World} {K : PySem.W.Frag} {elts : List Expr} {kk : Nat} {tpos : Pos} (a e it : Addr) :
    Turn P w K (.Tuple elts kk tpos) (IteT K a) [e, it] e (fun i h => (∃ old, IsEnum h e it ((i : Nat) : Int) old) ∧ h.IsTupleIter it a i ∧ e ≠ it) where
  mem := by simp
  obj := fun i h st b hb => by
    obtain ⟨⟨old, he⟩, ⟨o, ho, hc, hd⟩, _⟩ := st
    rcases (show b = e ∨ b = it by simpa using hb) with z | z
    · rw [z]; exact ⟨_, he, fun v q => nomatch q⟩
    · rw [z]; exact ⟨o, ho, fun v q => by rw [hd] at q; cases q⟩
  keep := fun i h h' st k => let ⟨⟨old, he⟩, hi, hne⟩ := st; ⟨⟨old, k e (by simp) _ he⟩, hi.at fun o q => k it (by simp) o q, hne⟩
  item := by
    intro X hP hw hK hc i pins s σ H E I hf st hg
    subst hP hw hK
    obtain ⟨⟨old, he⟩, hit, hne⟩ := st
    obtain ⟨xs, x, hq, hx⟩ := hg
    obtain ⟨its, rv, p, hz⟩ := I.tuple hq
    obtain ⟨u, hu, ru⟩ := rv.get hx
    have hel : e < s.heap.objs.size := Heap.lt_size he
    have hil : it < s.heap.objs.size := by obtain ⟨_, q, _⟩ := hit; exact Heap.lt_size q
    have nai : a ≠ it := by obtain ⟨o1, g1, c1, _⟩ := p; obtain ⟨o2, g2, c2, _⟩ := hit; exact cls_ne g1 g2 c1 c2 (by decide)
    have nea : e ≠ a := by obtain ⟨o1, g1, c1, _⟩ := p; exact cls_ne he g1 rfl c1 (by decide)
    have hlt : i < its.toArray.size := by have := (List.getElem?_eq_some_iff.mp hu).1; simpa using this
    refine wpAny_pyNext_enum_itemD (Draws.tuple (A := X.A.in1) (I.ok.hd hc) it a nai its.toArray) he ⟨hit, p⟩ hlt hne (by simp [hne, nea]) fun y h' tk hy ho hst' hT hsz hk => ?_
    have eu : y = u := by have h1 : its.toArray[i]? = some u := by simpa using hu
                          rw [h1] at hy; exact (Option.some.inj hy).symm
    subst eu
    refine ⟨_, rfl, wpAny_letOwnedTupleGo_enum (s := { s with heap := h', toks := tk + 1 }) ho fun h'' he' sb => ?_⟩
    have hT2 : h''.get? s.heap.objs.size = some { cls := .type "tuple", data := .seq #[.int i tk, y] } := (sb.2 _ (Nat.ne_of_gt hel)).trans hT
    have new : ObjOk X.prog X.w (upd H s.heap.objs.size (.tup [.int (i : Nat), x])) h'' s.heap.objs.size (.tup [.int (i : Nat), x]) := ⟨by show 2 ≤ sizeLine; decide, [.int i tk, y], .cons ⟨_, rfl⟩ (.cons ru .nil), ⟨_, hT2, rfl, _, rfl⟩⟩
    have I1 : Inv X pins σ (upd H s.heap.objs.size (.tup [.int (i : Nat), x])) { s with heap := h'', toks := tk + 1 } :=
      I.turnedNew (ch := [e, it]) (fun b ob hb q => (sb.2 b (fun z => hb (by simp [z]))).trans (hk b ob (fun z => hb (by simp [z])) (fun z => hb (by simp [z])) q)) hf (Nat.le_refl _) new
    refine ⟨.ref s.heap.objs.size, _, I1, rfl, ⟨_, x, rfl, I.hok.fresh (Nat.le_refl _), rfl, fun ys hy => by rw [I.tuple_inj hy hq]; exact hx⟩, ⟨⟨y, ?_⟩, hst'.1.at fun o q => (sb.2 it (Ne.symm hne)).trans q, hne⟩, fun b hb => ?_⟩
    · rw [show ((i + 1 : Nat) : Int) = (i : Int) + 1 by omega]; exact he'
    · have hb' : b < s.heap.objs.size := by
        rcases (show b = e ∨ b = it by simpa using hb) with z | z
        · rw [z]; exact hel
        · rw [z]; exact hil
      rw [upd_ne (Nat.ne_of_lt hb')]; exact (hf b hb).1
  done := by
    intro X hP hw hK hc i pins s σ H E I hf st hg
    subst hP hw hK
    obtain ⟨⟨old, he⟩, hit, hne⟩ := st
    obtain ⟨xs, hq, hx⟩ := hg
    obtain ⟨its, rv, p, hz⟩ := I.tuple hq
    obtain ⟨f0, f1, f2, f3, f4, f5⟩ := hf it (by simp)
    have e1 : its.toArray.size ≤ i := by rw [List.size_toArray, ← rv.length]; exact hx
    exact wpAny_pyNext_enum_endD (drawsEnd (A := X.A.in1) (I.ok.hd hc) it a its.toArray i e1) he ⟨rfl, hit, p⟩ fun h' eb => ⟨rfl, I.turned (t' := s.toks) (fun b o hb q => eb b o hb q) f0 f1 f3 f4 f5⟩
  self := fun A i s Q E st h => let ⟨⟨_, he⟩, _⟩ := st; wpAny_pyIter_enum he h
section
variable {X : Cx} {G : Gh} {e : Expr} {wr : WA} {ca : Nat} {p pos tpos : Pos} {elts : List Expr} {kk : Nat}
def iEnumA (K : PySem.W.Frag) (ta : TA) : TI := fun σ H R => ta σ H fun vs H1 => ∃ a xs, vs = [.ref a] ∧ ((SqL K H1 a xs ∧ R (Ite K a) H1) ∨ (SqT K H1 a xs ∧ R (IteT K a) H1))
theorem pi_enumA {ta : TA} (hg : Gl X "enumerate") (hm : X.mg "enumerate" = none) (ha : PA X [e] ta) (hs : starEach [e] X.env = [(false, eval e X.env)] := by rfl) : PI X (.Tuple elts kk tpos) (.Call (.Name "enumerate" p) [e] [] pos) (iEnumA X.K ta) := by
  refine ⟨fun pins s σ H R I h => Call_ (ld_blt I hg hm boot_enumerate (PyProof.Rows.callWith_type1 (thn (ha.run pos pins s σ H _ I h) fun us s1 ⟨vs, H1, I1, r1, q1⟩ => ?_) hs rfl))⟩
  obtain ⟨a, xs, ex, hq⟩ := q1
  subst ex
  have far : ∀ b, b ∈ [s1.heap.objs.size + 1, s1.heap.objs.size] → FpOk X pins H1 b := fun b hb => by
    have hle : s1.heap.objs.size ≤ b := by
      rcases (show b = s1.heap.objs.size + 1 ∨ b = s1.heap.objs.size by simpa using hb) with z | z
      · rw [z]; exact Nat.le_add_right _ _
      · rw [z]; exact Nat.le_refl _
    exact I1.fpOk hle (I1.hok.fresh hle)
  cases r1 with
  | cons r rr =>
    cases rr; cases r
    rcases hq with ⟨hq, q⟩ | ⟨hq, q⟩
    · obtain ⟨its, rv, p', hz⟩ := I1.list hq
      exact call_enumerate_list p'.isList fun h' he hit hsz hk => wpAny_pyIter_enum he ⟨s1.heap.objs.size + 1, [s1.heap.objs.size + 1, s1.heap.objs.size], _, _, H1, rfl, I1.kept (t' := s1.toks) hk, turn_enum a (s1.heap.objs.size + 1) s1.heap.objs.size, ⟨⟨.none, he⟩, hit, Nat.succ_ne_self _⟩, far, q⟩
    · obtain ⟨its, rv, p', hz⟩ := I1.tuple hq
      exact enumT_begins (begins_tuple a its.toArray) p' fun h' he hit hsz hk => wpAny_pyIter_enum he ⟨s1.heap.objs.size + 1, [s1.heap.objs.size + 1, s1.heap.objs.size], _, _, H1, rfl, I1.kept (t' := s1.toks) hk, turn_enumT a (s1.heap.objs.size + 1) s1.heap.objs.size, ⟨⟨.none, he⟩, ⟨_, hit, rfl, rfl⟩, Nat.succ_ne_self _⟩, far, q⟩
theorem walk_enumT {K : PySem.W.Frag} {a : Addr} {ds : List D} : Walk (IteT K a) [fx (.ref a) (.tuple ds)] (enumD 0 ds) where
  go := fun w i h hi => by
    rw [enumD_length] at hi
    cases h _ (List.mem_singleton.mpr rfl) with
    | @tup _ xs _ _ hr rl => exact ⟨xs, xs[i]'(by rw [rl.length]; exact hi), SqT.of hr, List.getElem?_eq_getElem _⟩
  stop := fun w i h hi => by
    rw [enumD_length] at hi
    cases h _ (List.mem_singleton.mpr rfl) with
    | @tup _ xs _ _ hr rl => exact ⟨xs, SqT.of hr, by rw [rl.length]; exact hi⟩
  yld := fun w i x H' wk h hi hy => by
    obtain ⟨T, x1, rfl, nT, rfl, q⟩ := hy
    cases h _ (List.mem_singleton.mpr rfl) with
    | @tup _ xs _ _ hr rl =>
      obtain ⟨d, h1, h2⟩ := rl.getV (q xs (SqT.of hr))
      have g := enumD_get 0 ds i d h1
      rw [Nat.zero_add] at g
      exact ⟨same_new nT, _, g, newPair wk nT (.int _) h2⟩
def enumA : List D → Option (List D)
  | [.list a] => some (enumD 0 a)
  | [.tuple a] => some (enumD 0 a)
  | _ => none
def wEnum (wr : WA) : WI := fun env P => wr env fun xs => ∃ ds, (keptL xs).bind enumA = some ds ∧ P ds
theorem di_enum (hg : Gl X "enumerate") (hm : X.mg "enumerate" = none) (ha : DA X G [e] wr ca) (hs : starEach [e] X.env = [(false, eval e X.env)] := by rfl) : DI X G (.Tuple elts kk tpos) (.Call (.Name "enumerate" p) [e] [] pos) (wEnum wr) ca :=
  PI_sz (pi_enumA hg hm ha hs) fun σ H R h => tA.src h fun env w xs dxs P er rs k go => by
    obtain ⟨ds, h1, pp⟩ := k
    obtain ⟨es, h2, h3⟩ := Option.bind_eq_some_iff.mp h1
    have rp := rs.rp h2
    unfold enumA at h3
    split at h3
    · cases h3
      cases rp with
      | cons a b =>
        cases b
        have w1 := a
        cases a with
        | lst n1 g1 q1 => exact ⟨_, _, rfl, .inl ⟨SqL.of g1, fun sz => go _ pp _ _ (fun p hp => by rw [List.mem_singleton.mp hp]; exact w1) walk_enumL (by rw [enumD_length, ← q1.length]; exact size_many (sz.1 _ _ g1))⟩⟩
    · cases h3
      cases rp with
      | cons a b =>
        cases b
        have w1 := a
        cases a with
        | tup n1 g1 q1 => exact ⟨_, _, rfl, .inr ⟨SqT.of g1, fun sz => go _ pp _ _ (fun p hp => by rw [List.mem_singleton.mp hp]; exact w1) walk_enumT (by rw [enumD_length, ← q1.length]; exact size_many (sz.2 _ _ g1))⟩⟩
    · cases h3
end
end DL
namespace DL
open PySem PySem.Spec PyProof.Rows L2
/-! ### comprehensions with two fors -/
/-- a target sets its own slots to frozen data, and no others -/
def GOk (ix : List Nat) (g : GD) : Prop := ∀ d env env', g d env = some env' → (∀ i, i ∉ ix → env'[i]? = env[i]?) ∧ ∀ i s, i ∈ ix → env'[i]? = some s → ∃ d, s = .fz d
def GsOk (ix : List Nat) (r : List D → Ev → Option Ev) : Prop := ∀ ds env env', r ds env = some env' → (∀ i, i ∉ ix → env'[i]? = env[i]?) ∧ ∀ i s, i ∈ ix → env'[i]? = some s → ∃ d, s = .fz d
theorem gok_name (i : Nat) : GOk [i] (gN i) := fun d env env' h => by
  cases h
  refine ⟨fun j hj => List.getElem?_set_ne fun z => hj (by simp [z]), fun j s hj hs => ?_⟩
  have e : j = i := by simpa using hj
  subst e
  rcases get_set hs with ⟨_, q⟩ | ⟨q, _⟩
  · exact ⟨d, q⟩
  · exact absurd rfl q
theorem gsok_nil : GsOk [] gNil' := fun ds env env' h => by
  cases ds with
  | nil => cases h; exact ⟨fun _ _ => rfl, fun _ _ z => nomatch z⟩
  | cons _ _ => cases h
theorem gsok_cons {ix jx : List Nat} {g : GD} {r : List D → Ev → Option Ev} (h1 : GOk ix g) (h2 : GsOk jx r) : GsOk (ix ++ jx) (gCons' g r) := fun ds env env' h => by
  cases ds with
  | nil => cases h
  | cons d ds =>
    obtain ⟨e1, q1, q2⟩ := Option.bind_eq_some_iff.mp h
    have a := h1 d env e1 q1
    have b := h2 ds e1 env' q2
    refine ⟨fun i hi => (b.1 i fun z => hi (List.mem_append_right _ z)).trans (a.1 i fun z => hi (List.mem_append_left _ z)), fun i s hi hs => ?_⟩
    by_cases hj : i ∈ jx
    · exact b.2 i s hj hs
    · rw [b.1 i hj] at hs
      exact a.2 i s ((List.mem_append.mp hi).resolve_right hj) hs
theorem gok_tup {ix : List Nat} {n : Nat} {r : List D → Ev → Option Ev} (h : GsOk ix r) : GOk ix (gTup' n r) := fun d env env' q => by
  cases d with
  | tuple ds =>
    by_cases hl : ds.length = n
    · simp only [gTup', if_pos hl] at q; exact h ds env env' q
    · simp only [gTup', if_neg hl] at q; cases q
  | _ => cases q
section
variable {X : Cx} {G : Gh}
/-- a frame whose slots ix are new, in a later world -/
theorem ER.mix {w w1 w' : Wd} {b b1 b' : Nat} {env env3 : Ev} {σ σ3 : L2.St} {ix : List Nat} (er1 : ER (G.at b1) w1 env σ) (e1 : Ext w1 w') (er3 : ER (G.at b) w env3 σ3) (st : St1 w w') (hx : Eqx ix σ σ3) (h1 : ∀ i, i ∉ ix → env3[i]? = env[i]?) (h2 : ∀ i s, i ∈ ix → env3[i]? = some s → ∃ d, s = .fz d) (eh : EH (G.at b') w') : ER (G.at b') w' env3 σ3 := by
  refine ⟨eh, er3.len, fun i s ov q1 q2 => ?_, fun i j d e a q1 q2 q3 q4 => ?_⟩
  · by_cases hi : i ∈ ix
    · obtain ⟨d, rfl⟩ := h2 i s hi q1
      obtain ⟨v, z, r⟩ := er3.sl i _ ov q1 q2
      exact ⟨v, z, r.st st⟩
    · rw [h1 i hi] at q1
      rw [hx.2 i hi] at q2
      exact SlR.ext e1 er1.cm (er1.sl i s ov q1 q2)
  · have ni : ∀ {i : Nat} {d : D}, env3[i]? = some (.own d) → i ∉ ix := fun {i d} q hi => by obtain ⟨d, z⟩ := h2 i _ hi q; cases z
    rw [hx.2 i (ni q1)] at q3
    rw [hx.2 j (ni q2)] at q4
    rw [h1 i (ni q1)] at q1
    rw [h1 j (ni q2)] at q2
    exact er1.od i j d e a q1 q2 q3 q4
theorem ER.regs {w : Wd} {b : Nat} {env : Ev} {σ : L2.St} {l : List Fx} (er : ER (G.at b) w env σ) (eh : EH ((G.more l).at b) w) : ER ((G.more l).at b) w env σ := ⟨eh, er.len, er.sl, er.od⟩

def wLcI (gd : GD) (wt : WT) (we : WE) (env : Ev) (P : List D → Prop) : List D → List D → Prop
  | [], acc => P acc
  | d :: r, acc => ∃ env', gd d env = some env' ∧ wt env' fun b => if b = true then we env' fun y => ∃ dy, y.kept = some dy ∧ acc.length < sizeLine ∧ wLcI gd wt we env P r (acc ++ [dy]) else wLcI gd wt we env P r acc
def wLc2L (gd : GD) (wt : WT) (wi1 : WI) (gd1 : GD) (wt1 : WT) (we : WE) (vs1 : List Nat) (env : Ev) (P : Dv → Prop) : List D → List D → Prop
  | [], acc => P (.nw (.list acc))
  | d :: r, acc => ∃ env', gd d env = some env' ∧ wt env' fun b => if b = true then wi1 env' fun ds1 => wLcI gd1 wt1 we (wipeE env' vs1) (fun acc' => wLc2L gd wt wi1 gd1 wt1 we vs1 env P r acc') ds1 acc else wLc2L gd wt wi1 gd1 wt1 we vs1 env P r acc
def wLc2 (wi : WI) (gd : GD) (wt : WT) (wi1 : WI) (gd1 : GD) (wt1 : WT) (we : WE) (vs vs1 : List Nat) : WE := fun env P => wi env fun ds => wLc2L gd wt wi1 gd1 wt1 we vs1 (wipeE env vs) P ds []
def tiE (G : Gh) (wi : WI) (c : Nat) : TI := fun σ H R => ∃ l, tI (G.more l) wi c σ H R
def gE2 (G : Gh) (ix : List Nat) (gd : GD) : TG := fun v σ H Q => ∃ l l1, tG ((G.more l).more l1) ix gd v σ H Q
def ttE2 (G : Gh) (wt : WT) (c : Nat) : TT := fun σ H Q => ∃ l l1, tT ((G.more l).more l1) wt c σ H Q
def teE2 (G : Gh) (we : WE) (c : Nat) : TE := fun σ H Q => ∃ l l1, tV ((G.more l).more l1) we c σ H Q
/-- an own list that grows: the worlds before it know nothing of it -/
theorem Ext.grow {w1 w : Wd} {L : Addr} {o : HO} (e : Ext w1 w) (n : w1.H L = none) : Ext w1 ⟨upd w.H L o, w.M, w.C⟩ := by
  refine ⟨fun a o n' h => ?_, fun a h => ?_, e.newC, e.newM, e.oldM⟩
  · have ne : a ≠ L := fun z => by rw [z, n] at h; cases h
    show upd w.H L _ a = some o ∨ _
    rw [upd_ne ne]
    exact (e.keep a o n' h).elim .inl fun ⟨q1, q2, ob, q3⟩ => .inr ⟨q1, q2, ob, by show upd w.H L _ a = _; rw [upd_ne ne]; exact q3⟩
  · have ne : a ≠ L := fun z => h (by rw [z]; exact n)
    show upd w.H L _ a ≠ none
    rw [upd_ne ne]; exact e.dom a h
theorem St1.grow {w : Wd} {L : Addr} {o : HO} (m : w.M L) : St1 w ⟨upd w.H L o, w.M, w.C⟩ := ⟨fun a x n h => .inl (by show upd w.H L _ a = some x; rw [upd_ne (fun z => n (by rw [z]; exact m))]; exact h), fun a m => .inl m⟩
theorem St1.trans {w w1 w2 : Wd} (a : St1 w w1) (b : St1 w1 w2) : St1 w w2 := by
  refine ⟨fun x o n h => ?_, fun x m => ?_⟩
  · have n1 := a.nm n h
    rcases a.keep x o n h with q | ⟨d, ob, q⟩
    · exact b.keep x o n1 q
    · exact .inr ⟨d, ob, (b.keep x _ n1 q).exact no_dct_frz⟩
  · rcases b.newM x m with q | q
    · exact a.newM x q
    · by_cases z : w.M x
      · exact .inl z
      · refine .inr ?_
        cases y : w.H x with
        | none => rfl
        | some o => exact absurd q (a.keep x o z y).there
/-- what is known of the list that grows -/
structure Gr (w1 : Wd) (L : Addr) (w : Wd) (acc : List D) : Prop where
  ex : Ext w1 w
  m : w.M L
  c : ¬ w.C L
  ls : ∃ vs, w.H L = some (.lst vs) ∧ RpL w vs acc
theorem Gr.ext {w1 w w' : Wd} {L : Addr} {acc : List D} (g : Gr w1 L w acc) (e : Ext w w') (cm : ∀ a, w.C a → w.M a) : Gr w1 L w' acc := by
  obtain ⟨vs, h, r⟩ := g.ls
  exact ⟨g.ex.trans e, e.oldM L g.m, fun c => (e.newC L c).elim g.c (fun q => by rw [h] at q; cases q), vs, e.own g.c g.m h, r.st (e.st cm)⟩
theorem Gr.more {w1 w : Wd} {L : Addr} {acc : List D} {v : V} {d : D} (g : Gr w1 L w acc) (n : w1.H L = none) (r : Rp w v d) : ∃ vs, w.H L = some (.lst vs) ∧ vs.length = acc.length ∧ Gr w1 L ⟨upd w.H L (.lst (vs ++ [v])), w.M, w.C⟩ (acc ++ [d]) := by
  obtain ⟨vs, h, q⟩ := g.ls
  exact ⟨vs, h, q.length, g.ex.grow n, g.m, g.c, _, upd_same, (q.append (.cons r .nil)).st (St1.grow g.m)⟩
section
variable {elt tg iter tg1 iter1 : Expr} {ifs ifs1 : List Expr} {scope : Scope} {own : List (Str × Nat)} {pos : Pos} {ix ix1 : List Nat} {wi wi1 : WI} {gd gd1 : GD} {wt wt1 : WT} {we : WE} {ci ct ci1 ct1 ce : Nat}
theorem rdLc2 {vs vs1 : List Nat} {σ : L2.St} {H : Hp} {Q : VK} (h : tV G (wLc2 wi gd wt wi1 gd1 wt1 we vs vs1) (ci + many * (ct + (ci1 + many * (ct1 + ce)))) σ H Q) (hix : ∀ i ∈ ix, i ∈ vs) (hix1 : ∀ i ∈ ix1, i ∈ vs1) (ok : GOk ix gd) :
    tLc2 (tI G wi ci) (gE G ix gd) (ttE G wt ct) (tiE G wi1 ci1) (gE2 G ix1 gd1) (ttE2 G wt1 ct1) (teE2 G we ce) vs vs1 σ H Q := by
  obtain ⟨env, M, C, b0, P, hb0, er, hw, hf⟩ := h
  refine ⟨env, M, C, b0, _, by omega, er, hw, fun ds hds b1 w1 J l hb1 er1 e1 hl wk hz L nL => ?_⟩
  generalize hk : ct + (ci1 + many * (ct1 + ce)) = kk at hb0 hb1 hf
  have hz' := le_many (a := kk) hz
  have nM1 : ¬ w1.M L := fun m => er1.md L m nL
  have nC1 : ¬ w1.C L := fun c => nM1 (er1.cm L c)
  have pL : G.Pt L = none := by
    cases q : G.Pt L with
    | none => rfl
    | some x => rcases er1.kp L x q with z | ⟨_, _, ob, z⟩ <;> (rw [nL] at z; cases z)
  have back : ∀ {b5 : Nat} {w5 : Wd}, EH ((G.more l).at b5) w5 → Ext w1 w5 → ER ((G.more l).at b5) w5 (wipeE env vs) (L2.wipe σ vs) := fun {b5 w5} eh5 e5 => by
    have z := ((er1.wipe vs).ext' e5 eh5.fewer)
    exact ⟨eh5, z.len, z.sl, z.od⟩
  refine ⟨fun i m H => m = ds.length - i ∧ i ≤ ds.length ∧ ∃ (M C : Addr → Prop) (b : Nat) (acc : List D), b + m * kk ≤ b1 + ds.length * kk ∧ EH ((G.more l).at b) ⟨H, M, C⟩ ∧ Gr w1 L ⟨H, M, C⟩ acc ∧ wLc2L gd wt wi1 gd1 wt1 we vs1 (wipeE env vs) P (ds.drop i) acc, ?_, fun i m H2 hW => ?_⟩
  · refine ⟨ds.length, by simp, Nat.zero_le _, fun b => w1.M b ∨ b = L, w1.C, b1, [], Nat.le_refl _, ?_, ?_, hds⟩
    · exact (er1.more hl).toEH.plus (H' := upd w1.H L (.lst [])) (same_new nL) nL (by rw [upd_same]; simp) (fun _ => by rw [upd_same]; exact fun z => nomatch z)
    · exact ⟨Ext.plus (same_new nL) nL, .inr rfl, nC1, [], upd_same, .nil⟩
  · obtain ⟨rfl, hi, M2, C2, b2, acc, hb2, eh2, gr2, hw2⟩ := hW
    have ok2 := eh2.those
    by_cases hlt : i < ds.length
    · rw [List.drop_eq_getElem_cons hlt] at hw2
      obtain ⟨env3, hg3, hw3⟩ := hw2
      have hb2' : b2 + (ds.length - (i + 1)) * kk + kk ≤ b1 + ds.length * kk := by
        rw [show ds.length - i = (ds.length - (i + 1)) + 1 by omega, Nat.add_mul, Nat.one_mul] at hb2; omega
      refine .inr ⟨wk.go ⟨H2, M2, C2⟩ i ok2 hlt, fun H' => ∃ (M C : Addr → Prop) (b : Nat) (acc : List D), b + (ds.length - (i + 1)) * kk ≤ b1 + ds.length * kk ∧ EH ((G.more l).at b) ⟨H', M, C⟩ ∧ Gr w1 L ⟨H', M, C⟩ acc ∧ wLc2L gd wt wi1 gd1 wt1 we vs1 (wipeE env vs) P (ds.drop (i + 1)) acc,
        fun H' q => ⟨ds.length - (i + 1), by omega, rfl, hlt, q⟩, fun x H' hy => ?_⟩
      obtain ⟨sm, d, hd, rx⟩ := wk.yld ⟨H2, M2, C2⟩ i x H' eh2.md ok2 hlt hy
      have hd' : d = ds[i] := by rw [List.getElem?_eq_getElem hlt] at hd; exact (Option.some.inj hd).symm
      subst hd'
      have er2 := back eh2 gr2.ex
      have gr2' := gr2.ext (Ext.same (w := ⟨H2, M2, C2⟩) sm) eh2.cm
      refine ⟨l, wipeE env vs, env3, M2, C2, b2, ds[i], er2.same sm, rx, hg3, fun σ3 er3 x3 => ⟨wipe_eqx x3 hix, l, env3, M2, C2, b2, _, by omega, er3, hw3, fun b hb b4 w4 hb4 er4 e4 => ?_⟩⟩
      have gr4 := gr2'.ext e4 er3.cm
      cases b with
      | false =>
        rw [if_neg Bool.false_ne_true] at hb
        refine iteF ?_
        exact ⟨w4.M, w4.C, b4, acc, by omega, er4.toEH, gr4, hb⟩
      | true =>
        rw [if_pos rfl] at hb
        refine iteT ?_
        refine ⟨l, env3, w4.M, w4.C, b4, _, by omega, er4, hb, fun ds1 hds1 b5 w5 J1 l1 hb5 er5 e5 hl1 wk1 hz1 => ?_⟩
        have gr5 := gr4.ext e5 er4.cm
        have hz1' := le_many (a := ct1 + ce) hz1
        -- the inner frame in later worlds
        have back1 : ∀ {b' : Nat} {w' : Wd}, EH (((G.more l).more l1).at b') w' → Ext w1 w' → St1 w5 w' → ER (((G.more l).more l1).at b') w' (wipeE env3 vs1) (L2.wipe σ3 vs1) := fun {b' w'} eh' e' st => by
          have z := ((ER.mix (G := G.more l) ((er1.more hl).wipe vs) e' er5 st x3 (ok _ _ _ hg3).1 (ok _ _ _ hg3).2 eh'.fewer).wipe vs1)
          exact ⟨eh', z.len, z.sl, z.od⟩
        refine ⟨fun j m H => m = ds1.length - j ∧ j ≤ ds1.length ∧ ∃ (M C : Addr → Prop) (b : Nat) (acc : List D), b + m * (ct1 + ce) ≤ b5 + ds1.length * (ct1 + ce) ∧ EH (((G.more l).more l1).at b) ⟨H, M, C⟩ ∧ Gr w1 L ⟨H, M, C⟩ acc ∧ St1 w5 ⟨H, M, C⟩ ∧ wLcI gd1 wt1 we (wipeE env3 vs1) (fun acc' => wLc2L gd wt wi1 gd1 wt1 we vs1 (wipeE env vs) P (ds.drop (i + 1)) acc') (ds1.drop j) acc, ?_, fun j m H6 hW => ?_⟩
        · exact ⟨ds1.length, by simp, Nat.zero_le _, w5.M, w5.C, b5, acc, Nat.le_refl _, (er5.more hl1).toEH, gr5, ⟨fun a o _ h => .inl h, fun a m => .inl m⟩, hds1⟩
        · obtain ⟨rfl, hj, M6, C6, b6, acc6, hb6, eh6, gr6, st6, hw6⟩ := hW
          have ok6 := eh6.those
          by_cases hlt1 : j < ds1.length
          · rw [List.drop_eq_getElem_cons hlt1] at hw6
            obtain ⟨env7, hg7, hw7⟩ := hw6
            have hb6' : b6 + (ds1.length - (j + 1)) * (ct1 + ce) + (ct1 + ce) ≤ b5 + ds1.length * (ct1 + ce) := by
              rw [show ds1.length - j = (ds1.length - (j + 1)) + 1 by omega, Nat.add_mul, Nat.one_mul] at hb6; omega
            refine .inr ⟨wk1.go ⟨H6, M6, C6⟩ j ok6 hlt1, fun H' => ∃ (M C : Addr → Prop) (b : Nat) (acc : List D), b + (ds1.length - (j + 1)) * (ct1 + ce) ≤ b5 + ds1.length * (ct1 + ce) ∧ EH (((G.more l).more l1).at b) ⟨H', M, C⟩ ∧ Gr w1 L ⟨H', M, C⟩ acc ∧ St1 w5 ⟨H', M, C⟩ ∧ wLcI gd1 wt1 we (wipeE env3 vs1) (fun acc' => wLc2L gd wt wi1 gd1 wt1 we vs1 (wipeE env vs) P (ds.drop (i + 1)) acc') (ds1.drop (j + 1)) acc,
              fun H' q => ⟨ds1.length - (j + 1), by omega, rfl, hlt1, q⟩, fun x7 H7 hy7 => ?_⟩
            obtain ⟨sm7, d7, hd7, rx7⟩ := wk1.yld ⟨H6, M6, C6⟩ j x7 H7 eh6.md ok6 hlt1 hy7
            have hd7' : d7 = ds1[j] := by rw [List.getElem?_eq_getElem hlt1] at hd7; exact (Option.some.inj hd7).symm
            subst hd7'
            have er6 := back1 eh6 gr6.ex st6
            have gr6' := gr6.ext (Ext.same (w := ⟨H6, M6, C6⟩) sm7) eh6.cm
            have st6' := st6.trans (St1.same (w := ⟨H6, M6, C6⟩) sm7)
            refine ⟨l, l1, wipeE env3 vs1, env7, M6, C6, b6, ds1[j], er6.same sm7, rx7, hg7, fun σ7 er7 x7' => ⟨wipe_eqx x7' hix1, l, l1, env7, M6, C6, b6, _, by omega, er7, hw7, fun k hk b8 w8 hb8 er8 e8 => ?_⟩⟩
            have gr8 := gr6'.ext e8 er7.cm
            have st8 := st6'.trans (e8.st er7.cm)
            cases k with
            | false =>
              rw [if_neg Bool.false_ne_true] at hk
              refine iteF ?_
              exact ⟨w8.M, w8.C, b8, acc6, by omega, er8.toEH, gr8, st8, hk⟩
            | true =>
              rw [if_pos rfl] at hk
              refine iteT ?_
              refine ⟨l, l1, env7, w8.M, w8.C, b8, _, by omega, er8, hk, fun y hy b9 w9 v9 hb9 er9 e9 r9 => ?_⟩
              obtain ⟨dy, hkk, hz9, hn⟩ := hy
              have gr9 := gr8.ext e9 er8.cm
              obtain ⟨vs9, h9, l9, gr10⟩ := gr9.more nL (r9.rp hkk)
              exact ⟨vs9, h9, by rw [l9]; exact hz9, w9.M, w9.C, b9, _, by omega, er9.toEH.poke gr9.m gr9.c pL (fun _ z => nomatch z), gr10, (st8.trans (e9.st er8.cm)).trans (St1.grow gr9.m), hn⟩
          · rw [List.drop_eq_nil_of_le (show ds1.length ≤ j by omega)] at hw6
            rw [show ds1.length - j = 0 by omega, Nat.zero_mul] at hb6
            exact .inl ⟨wk1.stop ⟨H6, M6, C6⟩ j ok6 (by omega), M6, C6, b6, acc6, by rw [show many * (ct1 + ce) = kk - ct - ci1 by omega] at hz1'; omega, eh6.fewer, gr6, hw6⟩
    · rw [List.drop_eq_nil_of_le (by omega)] at hw2
      refine .inl ⟨wk.stop ⟨H2, M2, C2⟩ i ok2 (by omega), ?_⟩
      have eh := eh2.fewer
      obtain ⟨e2, mL, cL, accV, hL, rl⟩ := gr2
      have nw1 : ∀ a, w1.M a → a ≠ L := fun a m z => nM1 (by rw [← z]; exact m)
      have st : St1 ⟨H2, M2, C2⟩ ⟨H2, fun a => M2 a ∧ a ≠ L, C2⟩ := ⟨fun a o _ h => .inl h, fun a m => .inl m.1⟩
      have ex : Ext w1 ⟨H2, fun a => M2 a ∧ a ≠ L, C2⟩ := ⟨fun a o n h => e2.keep a o n h, e2.dom, e2.newC, fun a m => e2.newM a m.1, fun a m => ⟨e2.oldM a m, nw1 a m⟩⟩
      have eh' : EH (G.at b2) ⟨H2, fun a => M2 a ∧ a ≠ L, C2⟩ := ⟨eh.kp, fun a m => ⟨eh.m0 a m, nw1 a (er1.m0 a m)⟩, eh.nc, eh.cp, fun a c => ⟨eh.cm a c, fun z => cL (by rw [← z]; exact c)⟩, fun a m => eh.md a m.1, eh.hd, fun p hp => p.st _ _ st (eh.gk p hp), eh.si, fun a xs m => eh.mt a xs m.1⟩
      have st2 : St1 ⟨H2, M2, C2⟩ (Wd.plus ⟨H2, fun a => M2 a ∧ a ≠ L, C2⟩ L) := ⟨fun a o _ h => .inl h, fun a m => .inl (Or.elim m (fun q => q.1) fun q => by rw [q]; exact mL)⟩
      refine hf _ hw2 b2 ⟨H2, fun a => M2 a ∧ a ≠ L, C2⟩ _ (by rw [show ds.length - i = 0 by omega, Nat.zero_mul] at hb2; omega) (er1.ext' ex eh') (e1.trans ex) ⟨L, rfl, e1.free nL, ⟨fun t => (nomatch t), fun m => (m.2 rfl).elim⟩, cL, .lst hL (rl.st st2)⟩
theorem de_lc2 {vs vs1 : List Nat} (hc : X.calm = true) (hN : X.N.Nodup) (hi : DI X G tg iter wi ci) (ok : BlkOk X.N X.env.scope scope own) (okg : GOk ix gd)
    (hg : ∀ (l : List Fx) (s : Shared) (H : Hp) (C : Addr) (cl : List (Str × Addr)) (fp : List Addr), PG (X.blk s H scope (compEnvC scope cl C X.env) fp) tg (tG (G.more l) ix gd))
    (ht : ∀ (l : List Fx) (s : Shared) (H : Hp) (C : Addr) (cl : List (Str × Addr)) (fp : List Addr), PTs (X.blk s H scope (compEnvC scope cl C X.env) fp) ifs (tT (G.more l) wt ct))
    (hi1 : ∀ (l : List Fx) (s : Shared) (H : Hp) (C : Addr) (cl : List (Str × Addr)) (fp : List Addr), DI (X.blk s H scope (compEnvC scope cl C X.env) fp) (G.more l) tg1 iter1 wi1 ci1)
    (hg1 : ∀ (l l1 : List Fx) (s : Shared) (H : Hp) (C : Addr) (cl : List (Str × Addr)) (fp : List Addr), PG (X.blk s H scope (compEnvC scope cl C X.env) fp) tg1 (tG ((G.more l).more l1) ix1 gd1))
    (ht1 : ∀ (l l1 : List Fx) (s : Shared) (H : Hp) (C : Addr) (cl : List (Str × Addr)) (fp : List Addr), PTs (X.blk s H scope (compEnvC scope cl C X.env) fp) ifs1 (tT ((G.more l).more l1) wt1 ct1))
    (he : ∀ (l l1 : List Fx) (s : Shared) (H : Hp) (C : Addr) (cl : List (Str × Addr)) (fp : List Addr), DE (X.blk s H scope (compEnvC scope cl C X.env) fp) ((G.more l).more l1) elt we ce)
    (hix : ∀ i ∈ ix, i ∈ vs) (hix1 : ∀ i ∈ ix1, i ∈ vs1) (hv : ∀ i ∈ vs1, i ∈ vs) (hs : ∀ x, foldedSetIterable iter X.env x = pure x := by intro _; rfl) (hs1 : ∀ env x, foldedSetIterable iter1 env x = pure x := by intro _ _; rfl) (hvs : own.map (·.2) = vs := by rfl) :
    DE X G (.ListComp elt [⟨tg, iter, ifs, 0⟩, ⟨tg1, iter1, ifs1, 0⟩] scope pos) (wLc2 wi gd wt wi1 gd1 wt1 we vs vs1) (ci + many * (ct + (ci1 + many * (ct1 + ce)))) := by
  subst hvs
  exact PE_imp (pe_lc2 hc hN hi ok hv (fun s H C cl fp => ⟨fun pins s' σ H' v u Q I r ⟨l, q⟩ => (hg l s H C cl fp).run pins s' σ H' v u Q I r q⟩) (fun s H C cl fp => ⟨fun pins s' σ H' Q I ⟨l, q⟩ => (ht l s H C cl fp).run pins s' σ H' Q I q⟩)
    (fun s H C cl fp => ⟨fun pins s' σ H' Q I ⟨l, q⟩ => (hi1 l s H C cl fp).run pins s' σ H' Q I q⟩) (fun s H C cl fp => ⟨fun pins s' σ H' v u Q I r ⟨l, l1, q⟩ => (hg1 l l1 s H C cl fp).run pins s' σ H' v u Q I r q⟩) (fun s H C cl fp => ⟨fun pins s' σ H' Q I ⟨l, l1, q⟩ => (ht1 l l1 s H C cl fp).run pins s' σ H' Q I q⟩)
    (fun s H C cl fp => ⟨fun pins s' σ H' Q I ⟨l, l1, q⟩ => (he l l1 s H C cl fp).run pins s' σ H' Q I q⟩) hs hs1) fun σ H Q h => rdLc2 h hix hix1 okg
theorem ds_setLc2 (k : Kp) (i : Nat) {vs vs1 : List Nat} {y : Str} {py spos : Pos} (hc : X.calm = true) (hN : X.N.Nodup) (hy : X.N[i]? = some y) (hyl : X.env.scope.names.lookup y = some .local)
    (hsw : swapsWith (.ListComp elt [⟨tg, iter, ifs, 0⟩, ⟨tg1, iter1, ifs1, 0⟩] scope pos) (some (.Name y py)) spos.line X.env = pure true) (hi : DI X G tg iter wi ci) (ok : BlkOk X.N X.env.scope scope own) (okg : GOk ix gd)
    (hg : ∀ (l : List Fx) (s : Shared) (H : Hp) (C : Addr) (cl : List (Str × Addr)) (fp : List Addr), PG (X.blk s H scope (compEnvC scope cl C X.env) fp) tg (tG (G.more l) ix gd))
    (ht : ∀ (l : List Fx) (s : Shared) (H : Hp) (C : Addr) (cl : List (Str × Addr)) (fp : List Addr), PTs (X.blk s H scope (compEnvC scope cl C X.env) fp) ifs (tT (G.more l) wt ct))
    (hi1 : ∀ (l : List Fx) (s : Shared) (H : Hp) (C : Addr) (cl : List (Str × Addr)) (fp : List Addr), DI (X.blk s H scope (compEnvC scope cl C X.env) fp) (G.more l) tg1 iter1 wi1 ci1)
    (hg1 : ∀ (l l1 : List Fx) (s : Shared) (H : Hp) (C : Addr) (cl : List (Str × Addr)) (fp : List Addr), PG (X.blk s H scope (compEnvC scope cl C X.env) fp) tg1 (tG ((G.more l).more l1) ix1 gd1))
    (ht1 : ∀ (l l1 : List Fx) (s : Shared) (H : Hp) (C : Addr) (cl : List (Str × Addr)) (fp : List Addr), PTs (X.blk s H scope (compEnvC scope cl C X.env) fp) ifs1 (tT ((G.more l).more l1) wt1 ct1))
    (he : ∀ (l l1 : List Fx) (s : Shared) (H : Hp) (C : Addr) (cl : List (Str × Addr)) (fp : List Addr), DE (X.blk s H scope (compEnvC scope cl C X.env) fp) ((G.more l).more l1) elt we ce)
    (hix : ∀ i ∈ ix, i ∈ vs) (hix1 : ∀ i ∈ ix1, i ∈ vs1) (hv : ∀ i ∈ vs1, i ∈ vs) (hs : ∀ x, foldedSetIterable iter X.env x = pure x := by intro _; rfl) (hs1 : ∀ env x, foldedSetIterable iter1 env x = pure x := by intro _ _; rfl) (hvs : own.map (·.2) = vs := by rfl) :
    DS X G (.Assign [.Name y py] (.ListComp elt [⟨tg, iter, ifs, 0⟩, ⟨tg1, iter1, ifs1, 0⟩] scope pos) spos) (wSet k i (wLc2 wi gd wt wi1 gd1 wt1 we vs vs1)) (ci + many * (ct + (ci1 + many * (ct1 + ce)))) := by
  subst hvs
  exact PS_imp (ps_setLc2 hc hN hy hyl hsw hi ok hv (fun s H C cl fp => ⟨fun pins s' σ H' v u Q I r ⟨l, q⟩ => (hg l s H C cl fp).run pins s' σ H' v u Q I r q⟩) (fun s H C cl fp => ⟨fun pins s' σ H' Q I ⟨l, q⟩ => (ht l s H C cl fp).run pins s' σ H' Q I q⟩)
    (fun s H C cl fp => ⟨fun pins s' σ H' Q I ⟨l, q⟩ => (hi1 l s H C cl fp).run pins s' σ H' Q I q⟩) (fun s H C cl fp => ⟨fun pins s' σ H' v u Q I r ⟨l, l1, q⟩ => (hg1 l l1 s H C cl fp).run pins s' σ H' v u Q I r q⟩) (fun s H C cl fp => ⟨fun pins s' σ H' Q I ⟨l, l1, q⟩ => (ht1 l l1 s H C cl fp).run pins s' σ H' Q I q⟩)
    (fun s H C cl fp => ⟨fun pins s' σ H' Q I ⟨l, l1, q⟩ => (he l l1 s H C cl fp).run pins s' σ H' Q I q⟩) hs hs1) fun σ H T h => rdSet h fun Q q => rdLc2 q hix hix1 okg
end
end
end DL
namespace DL
open PySem PySem.Spec PyProof.Rows L2
section
variable {X : Cx} {G : Gh} {e tg : Expr} {es : List Expr} {wa : WE} {wr wk : WA} {ca cb c : Nat} {pos p kpos : Pos} {nm : Option Str} {kws : List Keyword}
/-! ### a, b = e: what is frozen is unpacked -/
def wAsgT (wa : WE) (g : GD) : WS := fun env De => wa env fun x => ∃ d env', x.kept = some d ∧ g d env = some env' ∧ De.nx env'
theorem ds_asgT {ix : List Nat} {g : GD} (he : DE X G e wa ca) (hg : PG X tg (tG G ix g)) (hs : swapsWithSole [tg] e pos.line X.env = pure false := by rfl) (hw : swappedStores [tg] e X.env = pure none := by rfl) (h1 : (assignEach [tg] X.env).map (·.2) = [assign tg X.env] := by rfl) : DS X G (.Assign [tg] e pos) (wAsgT wa g) ca :=
  PS_imp (ps_asg he hg hs hw h1) fun σ H T h => by
    obtain ⟨env, M, C, b0, De, hb0, er, hw, lf⟩ := h
    refine ⟨env, M, C, b0, _, hb0, er, hw, fun dv hd b1 w1 v hb1 er1 e1 r1 => ?_⟩
    obtain ⟨d, env', h1, h2, n⟩ := hd
    exact ⟨env, env', w1.M, w1.C, b1, d, er1, r1.rp h1, h2, fun σ' er' _ => lf.nx env' n b1 w1 σ' hb1 er'⟩
/-! ### x += i, x -= i of ints -/
def wAug (f : Int → Int → Int) (i : Nat) (wa : WE) : WS := fun env De => ∃ m, env[i]? = some (.fz (.int m)) ∧ wa env fun x => ∃ k, x.val = some (.int k) ∧ De.nx (env.set i (.fz (.int (f m k))))
theorem ds_aug {op : Operator} {f : Int → Int → Int} (ho : PIp X op (ipI f)) (i : Nat) {x : Str} {pos' : Pos} (hN : X.N.Nodup) (he : DE X G e wa ca) (hi : X.N[i]? = some x := by rfl) (hx : Loc X.env.scope x := by first | exact Or.inl rfl | exact Or.inr rfl)
    (hf : X.fn x = true ∨ X.env.scope.names.lookup x = some .local := by first | exact .inl rfl | exact .inr rfl | assumption) : DS X G (.AugAssign (.Name x pos') op e pos) (wAug f i wa) ca :=
  PS_imp (ps_aug hN hi hx he ho hf) fun σ H T h => by
    obtain ⟨env, M, C, b0, De, hb0, er, ⟨m, hm, hw⟩, lf⟩ := h
    obtain ⟨ov, h1, v, rfl, rv⟩ := er.at hm
    cases rv
    refine ⟨.int m, h1, env, M, C, b0, _, hb0, er, hw, fun dv hd b1 w1 v hb1 er1 e1 r1 => ?_⟩
    obtain ⟨k, h2, n⟩ := hd
    have q := r1.rq h2
    cases q
    exact ⟨m, k, rfl, rfl, lf.nx _ n b1 w1 _ hb1 (er1.setFz (.int _) i)⟩
abbrev addI : Int → Int → Int := fun i j => i + j
abbrev subI : Int → Int → Int := fun i j => i - j
theorem ds_augAdd (i : Nat) {x : Str} {pos' : Pos} (hN : X.N.Nodup) (he : DE X G e wa ca) (hi : X.N[i]? = some x := by rfl) (hx : Loc X.env.scope x := by first | exact Or.inl rfl | exact Or.inr rfl) (hf : X.fn x = true ∨ X.env.scope.names.lookup x = some .local := by first | exact .inl rfl | exact .inr rfl | assumption) : DS X G (.AugAssign (.Name x pos') .Add e pos) (wAug addI i wa) ca := ds_aug ip_add i hN he hi hx hf
theorem ds_augSub (i : Nat) {x : Str} {pos' : Pos} (hN : X.N.Nodup) (he : DE X G e wa ca) (hi : X.N[i]? = some x := by rfl) (hx : Loc X.env.scope x := by first | exact Or.inl rfl | exact Or.inr rfl) (hf : X.fn x = true ∨ X.env.scope.names.lookup x = some .local := by first | exact .inl rfl | exact .inr rfl | assumption) : DS X G (.AugAssign (.Name x pos') .Sub e pos) (wAug subI i wa) ca := ds_aug ip_sub i hN he hi hx hf
/-! ### calls with defaults, with keywords -/
theorem dk_nil : PK X [] (tA G wNil 0) := ⟨fun pos pins s σ H Q I h => pk_nil.run pos pins s σ H Q I (by
  obtain ⟨env, M, C, b, P, hb, er, p, hf⟩ := h
  exact hf _ p b _ _ (Nat.le_refl _) er (Ext.refl _) .nil)⟩
theorem dk_cons (ha : DE X G e wa ca) (hr : PK X kws (tA G wr cb)) : PK X (⟨nm, e, kpos⟩ :: kws) (tA G (wCons wa wr) (ca + cb)) := ⟨fun pos pins s σ H Q I h => (pk_cons ha hr).run pos pins s σ H Q I (by
  obtain ⟨env, M, C, b, P, hb, er, hw, hf⟩ := h
  refine ⟨env, M, C, b, _, by omega, er, hw, fun dx hx b1 w1 x hb1 er1 e1 r1 => ⟨env, w1.M, w1.C, b1, _, by omega, er1, hx, fun ds hd b2 w2 xs hb2 er2 e2 r2 => ?_⟩⟩
  exact hf _ hd b2 w2 _ (by omega) er2 (e1.trans e2) (.cons (r1.ext e2 er1.cm fun _ z => z) (r2.ext (Ext.refl w2) er2.cm fun a z => e1.free z)))⟩
variable {k n : Nat} {f : Addr} {fd : FuncData} {ps ks : List Str} {spec : Spec} {x : Str}
theorem ARs.append {w : Wd} : ∀ {vs us : List V} {as bs : List Ag}, ARs w vs as → ARs w us bs → ARs w (vs ++ us) (as ++ bs)
  | _, _, _, _, .nil, q => q
  | _, _, _, _, .cons h r, q => .cons h (ARs.append r q)
theorem ARs.pure {w : Wd} (C : Addr → Prop) (hC : ∀ a, ¬ C a) : ∀ {vs : List V} {as : List Ag}, ARs w vs as → ARs ⟨w.H, w.M, C⟩ vs as
  | _, _, .nil => .nil
  | _, _, .cons (a := a) h r => .cons (by
      have up : St1 w ⟨w.H, w.M, C⟩ := ⟨fun a o _ h => .inl h, fun a m => .inl m⟩
      cases a with
      | fz d => exact Rp.st up h
      | raw u => exact h
      | bw d => obtain ⟨b, e, m, n, o⟩ := h; exact ⟨b, e, m, hC b, o.st up rfl⟩) (ARs.pure C hC r)
/-- a pure def runs: from its promise to the expression's end -/
theorem pure_call {σ : L2.St} {env : Ev} {w : Wd} {b0 : Nat} {Q : VK} {P : Dv → Prop} {vs : List V} {as : List Ag} (er : ER (G.at b0) w env σ) (ars : ARs w vs as) (kk : spec as fun d => P (.fz d)) (hf : Fin G b0 σ env w Q P) : spF SI0 0 spec vs w.H Q E0 := by
  refine ⟨as, w.M, fun _ => False, 0, _, Nat.zero_le _, ⟨fun a c => c.elim, er.md, er.mt⟩, trivial, ars.pure _ fun _ z => z, kk, fun d pd _ w' v _ e _ wf r => ?_⟩
  have ex : Ext w ⟨w'.H, w.M, w.C⟩ := ⟨fun a o n h => e.keep a o (fun z => z) h, e.dom, fun a c => .inl c, fun a m => .inl m, fun a m => m⟩
  have si : G.SI b0 w.C w'.H := G.stab _ _ _ _ er.si fun a o c h => (e.keep a o (fun z => z) h).elim id fun q => absurd (er.cm a c) q.1
  refine hf _ pd b0 ⟨w'.H, w.M, w.C⟩ v (Nat.le_refl _) (er.ext' ex (er.toEH.ext ex si ⟨er.cm, fun a m => e.dom a (er.md a m), fun a xs m => e.ntup (fun z => z) m (er.md a m) (er.mt a xs m)⟩)) ex ?_
  have down : St1 w' ⟨w'.H, w.M, w.C⟩ := ⟨fun a o _ h => .inl h, fun a m => .inl (e.oldM a m)⟩
  exact Rp.st down r
theorem run_fnGd {sp : Sp} {pins : List (Addr × Obj)} {σ : L2.St} {H : Hp} {s : Shared} {Q : VK} {us ds : List Value} {vs dvs : List V} (F : FnG X.prog X.w X.K X.mg X.base CX0 k f fd ps sp) (hgd : X.A.guards = some []) (hr : Room k X.A) (hb : Binds X.K fd ps ds) (hd : Vals dvs ds)
    (I : Inv X pins σ H s) (r : Vals vs us) (h : sp (vs ++ dvs) H Q E0) : wpAny (model X.prog X.w) X.A (call (.ref f) us) (EP X pins σ Q) X.xe s := by
  have r2 := r.append hd
  have hl : (us ++ ds).length = ps.length := by rw [← r2.length]; exact F.len _ _ _ _ h
  refine wpAny_call (codeAny_mono (F.run X.A X.stack s H ⟨us, []⟩ (us ++ ds) (vs ++ dvs) Q E0 hgd hr I.env0 (hb s us I.kIn hl) r2 h) fun r s' hq => ?_)
  cases r with
  | error e => exact False.elim hq
  | ok fl => cases fl with
    | ret u => exact I.after hq
    | next => exact False.elim hq
    | brk => exact False.elim hq
    | cont => exact False.elim hq
/-- f(e, ..) of a pure def, the last parameters by their defaults -/
def wCallD (spec : Spec) (das : List Ag) (wr : WA) : WE := fun env P => wr env fun xs => spec (xs.map Dv.ag ++ das) fun d => P (.fz d)
theorem de_callD {ds : List Value} {dvs : List V} {das : List Ag} (F : FnG X.prog X.w X.K X.mg X.base CX0 k f fd ps (spF SI0 0 spec)) (hgd : X.A.guards = some []) (hr : Room k X.A) (hg : Gl X x) (hm : X.mg x = some (.ref f)) (hk : PySem.W.keepIn X.K (.ref f) = true) (hb : Binds X.K fd ps ds) (hd : Vals dvs ds) (hda : ∀ w, ARs w dvs das)
    (ha : DA X G (e :: es) wr ca) (hdb : (x == ("__debug__" : Str)) = false := by decide) (he : starEach (e :: es) X.env = (false, eval e X.env) :: starEach es X.env := by rfl) (hpl : (backTo pos (starEach es X.env)).any (·.1) = false := by rfl) :
    DE X G (.Call (.Name x p) (e :: es) [] pos) (wCallD spec das wr) ca := by
  refine ⟨fun pins s σ H Q I h => wpAny_Call_Name_kw (ld_glob I hg hm ?_ hdb)⟩
  have h' : tA G wr ca σ H fun vs H1 => spF SI0 0 spec (vs ++ dvs) H1 Q E0 := tA.one h fun env w xs dxs P er rs kk hf => pure_call er (rs.ars.append (hda w)) kk hf
  exact PySem.W.callWith_K (h₀ := X.base) I.ok.mod.kin hk (thn (ha.run pos pins s σ H _ I h') fun us s1 ⟨vs, H1, I1, r, q⟩ => ⟨I1.kIn, run_fnGd F hgd hr hb hd I1 r q⟩) he hpl
/-- f(e, .., k = v, ..): the keywords' values behind the others -/
def wCallK (n m : Nat) (spec : Spec) (wr wk : WA) : WE := fun env P => wr env fun xs => wk env fun zs => xs.length = n ∧ zs.length = m ∧ spec (xs.map Dv.ag ++ zs.map Dv.ag) fun d => P (.fz d)
theorem de_callK {m : Nat} (F : FnG X.prog X.w X.K X.mg X.base CX0 k f fd ps (spF SI0 0 spec)) (hgd : X.A.guards = some []) (hr : Room k X.A) (hg : Gl X x) (hm : X.mg x = some (.ref f)) (hk : PySem.W.keepIn X.K (.ref f) = true) (hb : KBn X.K fd ps n ks (fun us ws => us ++ ws) (fun vs zs => vs ++ zs))
    (ha : DA X G (e :: es) wr ca) (hkw : PK X kws (tA G wk cb)) (hall : (backToKw pos (keywordEach kws X.env)).all (·.1.isSome) = true := by rfl) (hks : (backToKw pos (keywordEach kws X.env)).filterMap (·.1) = ks := by rfl)
    (hdb : (x == ("__debug__" : Str)) = false := by decide) (he : starEach (e :: es) X.env = (false, eval e X.env) :: starEach es X.env := by rfl)
    (hpl : ((backTo pos (starEach (e :: es) X.env)).any (·.1) || (backToKw pos (keywordEach kws X.env)).any (·.1.isNone)) = false := by rfl) (hml : ks.length = m := by rfl) :
    DE X G (.Call (.Name x p) (e :: es) kws pos) (wCallK n m spec wr wk) (ca + cb) := by
  subst hml
  refine ⟨fun pins s σ H Q I h => wpAny_Call_Name_kw (ld_glob I hg hm ?_ hdb)⟩
  have h' : tA G wr ca σ H fun vs H1 => tA G wk cb σ H1 fun zs H2 => vs.length = n ∧ zs.length = ks.length ∧ spF SI0 0 spec (vs ++ zs) H2 Q E0 := by
    obtain ⟨env, M, C, b0, P, hb0, er, hw, hf⟩ := h
    refine ⟨env, M, C, b0, _, by omega, er, hw, fun ds hd b1 w1 xs hb1 er1 e1 r1 => ⟨env, w1.M, w1.C, b1, _, by omega, er1, hd, fun zs hz b2 w2 ys hb2 er2 e2 r2 => ?_⟩⟩
    obtain ⟨l1, l2, kk⟩ := hz
    have r1' := r1.ext (Hs' := H) e2 er1.cm fun _ z => z
    exact ⟨by rw [r1.length]; exact l1, by rw [r2.length]; exact l2, pure_call er2 (r1'.ars.append r2.ars) kk (Fin.ext (Fin.ext (w := ⟨H, M, C⟩) hf e1 (Nat.le_refl _)) e2 (by omega))⟩
  refine PySem.W.callWith_KW (h₀ := X.base) I.ok.mod.kin hk hall (thn (ha.run pos pins s σ H _ I h') fun us s1 ⟨vs, H1, I1, r, q⟩ => ?_) hpl he
  refine thn (hkw.run pos pins s1 σ H1 _ I1 q) fun ws s2 ⟨zs, H2, I2, rz, l1, l2, q2⟩ => ⟨I2.kIn, ?_⟩
  rw [hks]
  refine wpAny_call (codeAny_mono (F.run X.A X.stack s2 H2 ⟨us, ks.zip ws⟩ (us ++ ws) (vs ++ zs) Q E0 hgd hr I2.env0 (hb.to s2 us ws I2.kIn (r.length.symm.trans l1) (rz.length.symm.trans l2)) (hb.rel r rz) q2) fun r s' hq => ?_)
  cases r with
  | error e => exact False.elim hq
  | ok fl => cases fl with
    | ret u => exact I2.after hq
    | next => exact False.elim hq
    | brk => exact False.elim hq
    | cont => exact False.elim hq
/-! ### min, max -/
def minI : List Int → Option Int
  | [] => none
  | a :: r => some (r.foldl min a)
def maxI : List Int → Option Int
  | [] => none
  | a :: r => some (r.foldl max a)
theorem foldl_max : ∀ (r : List Int) (a : Int), (r.foldl max a = a ∨ r.foldl max a ∈ r) ∧ a ≤ r.foldl max a ∧ ∀ y ∈ r, y ≤ r.foldl max a
  | [], a => ⟨.inl rfl, Int.le_refl _, fun _ h => nomatch h⟩
  | x :: r, a => by
    obtain ⟨h1, h2, h3⟩ := foldl_max r (max a x)
    rw [List.foldl_cons]
    refine ⟨?_, by omega, fun y hy => ?_⟩
    · rcases h1 with h | h
      · rw [h]
        by_cases c : a ≤ x
        · rw [Int.max_eq_right c]; exact .inr (List.mem_cons_self ..)
        · rw [Int.max_eq_left (by omega)]; exact .inl rfl
      · exact .inr (List.mem_cons_of_mem _ h)
    · rcases List.mem_cons.mp hy with rfl | hy
      · omega
      · exact h3 y hy
theorem foldl_min : ∀ (r : List Int) (a : Int), (r.foldl min a = a ∨ r.foldl min a ∈ r) ∧ r.foldl min a ≤ a ∧ ∀ y ∈ r, r.foldl min a ≤ y
  | [], a => ⟨.inl rfl, Int.le_refl _, fun _ h => nomatch h⟩
  | x :: r, a => by
    obtain ⟨h1, h2, h3⟩ := foldl_min r (min a x)
    rw [List.foldl_cons]
    refine ⟨?_, by omega, fun y hy => ?_⟩
    · rcases h1 with h | h
      · rw [h]
        by_cases c : a ≤ x
        · rw [Int.min_eq_left c]; exact .inl rfl
        · rw [Int.min_eq_right (by omega)]; exact .inr (List.mem_cons_self ..)
      · exact .inr (List.mem_cons_of_mem _ h)
    · rcases List.mem_cons.mp hy with rfl | hy
      · omega
      · exact h3 y hy
theorem maxI_get {ns : List Int} {m : Int} (h : maxI ns = some m) : m ∈ ns ∧ ∀ y ∈ ns, y ≤ m := by
  cases ns with
  | nil => cases h
  | cons a r =>
    cases h
    obtain ⟨h1, h2, h3⟩ := foldl_max r a
    refine ⟨h1.elim (fun h => by rw [h]; exact List.mem_cons_self ..) fun h => List.mem_cons_of_mem _ h, fun y hy => ?_⟩
    rcases List.mem_cons.mp hy with rfl | hy
    · exact h2
    · exact h3 y hy
theorem minI_get {ns : List Int} {m : Int} (h : minI ns = some m) : m ∈ ns ∧ ∀ y ∈ ns, m ≤ y := by
  cases ns with
  | nil => cases h
  | cons a r =>
    cases h
    obtain ⟨h1, h2, h3⟩ := foldl_min r a
    refine ⟨h1.elim (fun h => by rw [h]; exact List.mem_cons_self ..) fun h => List.mem_cons_of_mem _ h, fun y hy => ?_⟩
    rcases List.mem_cons.mp hy with rfl | hy
    · exact h2
    · exact h3 y hy
def minD : List D → Option D
  | [.int i, .int j] => some (.int (if j < i then j else i))
  | [.list ds] => ((intsOf ds).bind minI).map .int
  | _ => none
def maxD : List D → Option D
  | [.int i, .int j] => some (.int (if j > i then j else i))
  | [.list ds] => ((intsOf ds).bind maxI).map .int
  | _ => none
theorem call_minD (hc : X.calm = true) : CallR X (.builtin "min") (rB minD) := by
  intro pins s σ H xs us Q I r ⟨w, ds, d, eH, wk, qx, hf, hq⟩
  subst eH
  unfold minD at hf
  split at hf
  · cases hf
    cases qx with
    | cons a b =>
      cases a
      cases b with
      | cons a b =>
        cases a; cases b
        exact call_min2 hc pins s σ _ _ us Q I r ⟨_, _, rfl, hq _ _ (Same.refl _) (.int _)⟩
  · obtain ⟨m, h1, rfl⟩ := Option.map_eq_some_iff.mp hf
    obtain ⟨ns, e1, e2⟩ := Option.bind_eq_some_iff.mp h1
    obtain ⟨x, rfl, q⟩ := qx.one'
    cases q with
    | lst h r1 =>
      have e3 := intsOf_rp e1 r1
      subst e3
      obtain ⟨g1, g2⟩ := minI_get e2
      refine cr_min hc pins s σ _ _ us Q I r ⟨_, ns, rfl, SqL.of h, List.length_pos_of_mem g1, fun k k1 k2 => ?_⟩
      have e4 : k = m := Int.le_antisymm (k2 m g1) (g2 k k1)
      subst e4
      exact hq _ _ (Same.refl _) (.int _)
  · cases hf
theorem call_maxD (hc : X.calm = true) : CallR X (.builtin "max") (rB maxD) := by
  intro pins s σ H xs us Q I r ⟨w, ds, d, eH, wk, qx, hf, hq⟩
  subst eH
  unfold maxD at hf
  split at hf
  · cases hf
    cases qx with
    | cons a b =>
      cases a
      cases b with
      | cons a b =>
        cases a; cases b
        exact call_max2 hc pins s σ _ _ us Q I r ⟨_, _, rfl, hq _ _ (Same.refl _) (.int _)⟩
  · obtain ⟨m, h1, rfl⟩ := Option.map_eq_some_iff.mp hf
    obtain ⟨ns, e1, e2⟩ := Option.bind_eq_some_iff.mp h1
    obtain ⟨x, rfl, q⟩ := qx.one'
    cases q with
    | lst h r1 =>
      have e3 := intsOf_rp e1 r1
      subst e3
      obtain ⟨g1, g2⟩ := maxI_get e2
      refine cr_max hc pins s σ _ _ us Q I r ⟨_, ns, rfl, SqL.of h, List.length_pos_of_mem g1, fun k k1 k2 => ?_⟩
      have e4 : k = m := Int.le_antisymm (g2 k k1) (k2 m g1)
      subst e4
      exact hq _ _ (Same.refl _) (.int _)
  · cases hf
end
end DL
namespace DL
open PySem PySem.Spec PyProof.Rows L2
/-! ### (*xs, ..) -/
section
variable {X : Cx} {G : Gh} {e : Expr} {es : List Expr} {wa : WE} {wr : WA} {ca cb : Nat} {pos p : Pos}
theorem VRs.of_rp {Hs : Hp} {w : Wd} : ∀ {vs : List V} {ds : List D}, RpL w vs ds → VRs G Hs w vs (ds.map .fz)
  | _, _, .nil => .nil
  | _, _, .cons h r => .cons h (VRs.of_rp r)
theorem VRs.append {Hs : Hp} {w : Wd} : ∀ {vs us : List V} {ds es : List Dv}, VRs G Hs w vs ds → VRs G Hs w us es → VRs G Hs w (vs ++ us) (ds ++ es)
  | _, _, _, _, .nil, q => q
  | _, _, _, _, .cons h r, q => .cons h (VRs.append r q)
def wStar (wa : WE) (wr : WA) : WA := fun env P => wa env fun x => ∃ ds, x.val.bind seqD = some ds ∧ wr env fun xs => P (ds.map .fz ++ xs)
theorem da_star (ha : DE X G e wa ca) (hr : DA X G es wr cb) (hs : starEach (.Starred e p :: es) X.env = (true, eval e X.env) :: starEach es X.env := by rfl) : DA X G (.Starred e p :: es) (wStar wa wr) (ca + cb) := PA_imp (StX.pa_star ha hr hs) fun σ H Q h => by
  obtain ⟨env, M, C, b, P, hb, er, hw, hf⟩ := h
  refine ⟨env, M, C, b, _, by omega, er, hw, fun dx hx b1 w1 x hb1 er1 e1 r1 => ?_⟩
  obtain ⟨ds, h1, h2⟩ := hx
  obtain ⟨d, h3, h4⟩ := Option.bind_eq_some_iff.mp h1
  have rq := r1.rq h3
  have fin : ∀ {xs : List V}, RpL w1 xs ds → tA G wr cb σ w1.H fun ys H2 => Q (xs ++ ys) H2 := fun {xs} rl =>
    ⟨env, w1.M, w1.C, b1, _, by omega, er1, h2, fun dys hy b2 w2 ys hb2 er2 e2 r2 => hf _ hy b2 w2 _ (by omega) er2 (e1.trans e2) ((VRs.of_rp (rl.st (e2.st er1.cm))).append (VRs.ext (Ext.refl w2) er2.cm (fun a z => e1.free z) r2))⟩
  cases d with
  | list ds' =>
    cases h4
    cases rq with
    | lst q1 q2 => exact ⟨_, _, rfl, .inr (SqL.of q1), fin q2⟩
  | tuple ds' =>
    cases h4
    cases rq with
    | tup q0 q1 q2 => exact ⟨_, _, rfl, .inl (SqT.of q1), fin q2⟩
  | _ => cases h4
end
/-! ### xs[::-1] -/
section
variable {prog : Program} {w : World} {A : Around} {E : Value → Shared → Prop} {s : Shared}
theorem places_rev (n : Nat) : Builtin.Slice.slicePlaces ((n : Int) - 1) (-1) (-1) = n := by
  unfold Builtin.Slice.slicePlaces
  have h1 : ¬ ((-1 : Int) > 0) := by omega
  simp only [h1, if_false, Int.neg_neg, Int.ediv_one]
  split <;> omega
theorem adjust_rev (n : Nat) : Builtin.Slice.sliceAdjust none none (-1) (n : Int) = ((n : Int) - 1, -1) := by
  unfold Builtin.Slice.sliceAdjust
  simp
theorem applied_rev {sl : Addr} {vl vu vs : Value} {n : Nat} {Q : Int × Int × Nat → Shared → Prop} (hs : s.heap.IsSliceOf sl vl vu vs) (pl : IsPart vl none) (pu : IsPart vu none) (ps : IsPart vs (some (-1)))
    (h : Q ((n : Int) - 1, -1, n) s) : wpAny (model prog w) A (Builtin.Slice.sliceApplied (.ref sl) (pure (n : Int))) Q E s := by
  obtain ⟨os, hos, hcs, hds⟩ := id hs
  unfold Builtin.Slice.sliceApplied Builtin.Slice.sliceFields
  refine wpAny_bind (wpAny_bind (wpAny_field hos hds (x := vl) rfl (wpAny_bind (wpAny_field hos hds (x := vu) rfl (wpAny_bind (wpAny_field hos hds (x := vs) rfl (wpAny_pure ?_)))))))
  refine wpAny_bind (HT.slicePart_ ps ?_)
  show wpAny _ _ (if ((-1 : Int) == 0) = true then _ else _) _ _ s
  rw [if_neg (by decide)]
  refine wpAny_bind (HT.slicePart_ pl (wpAny_bind (HT.slicePart_ pu (wpAny_bind (wpAny_pure ?_)))))
  show wpAny _ _ (match Builtin.Slice.sliceAdjust none none (-1) (n : Int) with | (lo, hi) => pure (lo, (-1 : Int), Builtin.Slice.slicePlaces lo hi (-1))) _ _ s
  rw [adjust_rev n]
  show wpAny _ _ (pure ((n : Int) - 1, (-1 : Int), Builtin.Slice.slicePlaces ((n : Int) - 1) (-1) (-1))) _ _ s
  rw [places_rev]
  exact wpAny_pure h
theorem fm_all {α β : Type} {f : α → Option β} {g : α → β} : ∀ l : List α, (∀ m ∈ l, f m = some (g m)) → l.filterMap f = l.map g
  | [], _ => rfl
  | m :: l, h => by rw [List.filterMap_cons_some (h m (List.mem_cons_self ..)), fm_all l fun x hx => h x (List.mem_cons_of_mem _ hx), List.map_cons]
theorem pick_rev (xs : Array Value) : ((List.range xs.size).filterMap fun (m : Nat) => xs[((xs.size : Int) - 1 + (m : Int) * -1).toNat]?) = xs.toList.reverse := by
  have e : ∀ m ∈ List.range xs.size, xs[((xs.size : Int) - 1 + (m : Int) * -1).toNat]? = some (xs.toList.reverse.getD m .none) := fun m hm => by
    have hm' := List.mem_range.mp hm
    have : ((xs.size : Int) - 1 + (m : Int) * -1).toNat = xs.size - 1 - m := by omega
    rw [this, List.getD_eq_getElem?_getD, List.getElem?_reverse (by simpa using hm')]
    have hl : xs.toList.length = xs.size := Array.length_toList
    rw [hl, Array.getElem?_toList, Array.getElem?_eq_getElem (by omega)]
    rfl
  rw [fm_all _ e]
  refine List.ext_getElem (by simp) fun i h1 h2 => ?_
  rw [List.getElem_map, List.getElem_range, List.getD_eq_getElem?_getD, List.getElem?_eq_getElem h2]
  rfl
theorem getItem_tuple_rev {t sl : Addr} {items : Array Value} {vl vu vs : Value} {Q : Value → Shared → Prop} (ht : IsTup s.heap t items) (hs : s.heap.IsSliceOf sl vl vu vs) (pl : IsPart vl none) (pu : IsPart vu none) (ps : IsPart vs (some (-1)))
    (h : Q (.ref s.heap.objs.size) { s with heap := s.heap.push { cls := .type "tuple", data := .seq items.toList.reverse.toArray } })
    (hsz : items.size ≤ sizeLine) : wpAny (model prog w) A (getItem (.ref t) (.ref sl)) Q E s := by
  have htake : sizeOk (.seq items.toList.reverse.toArray) := by
    show items.toList.reverse.toArray.size ≤ sizeLine
    rw [List.size_toArray, List.length_reverse, Array.length_toList]; exact hsz
  obtain ⟨os, hos, hcs, hds⟩ := id hs
  have hTs : s.TypeIs (.ref sl) "slice" := ⟨os, hos, hcs⟩
  unfold getItem
  try with_reducible refine wpAny_holding ?_
  first | refine wpAny_bind (wpAny_pure ?_) | skip
  refine wpAny_bind (wpAny_sequenceKey ht.typeIs (by decide) ?_)
  refine wpAny_bind (wpAny_callSpecial?_slot (name := Str.ofString "__getitem__") ht.typeIs PyProof.Rows.slot_tuple_getitem
    (wpAny_call_entry PyProof.Rows.slot_tuple_getitem ht.typeIs entry_tuple_getitem ?_ (args_tuple_getitem _ _)))
  show wpAny _ _ (Builtin.Tuple.tupleItemsOf (.ref t) >>= _) _ _ s
  refine wpAny_bind (tupleItemsOf_ ht ?_)
  refine wpAny_bind (wpAny_typeOf hTs ?_)
  rw [if_pos (by decide)]
  refine wpAny_bind (applied_rev hs pl pu ps ?_)
  have hno : ¬ (((items.size : Int) - 1 == 0 && (-1 : Int) == 1 && items.size == items.size) = true) := by simp
  show wpAny _ _ (if ((items.size : Int) - 1 == 0 && (-1 : Int) == 1 && items.size == items.size) = true then _ else _) _ _ s
  rw [if_neg hno, pick_rev]
  first
    | exact wpAny_bind (m := Builtin.Tuple.tupleExact _) (wpAny_newObj_type (wpAny_pure ⟨_, rfl, wpAny_pure h⟩) htake)
    | exact wpAny_bind (m := Builtin.Tuple.tupleExact _) (wpAny_newObj_type (wpAny_bind (wpAny_pure (wpAny_pure ⟨_, rfl, wpAny_pure h⟩))) htake)
    | exact wpAny_bind (wpAny_bind (m := Builtin.Tuple.tupleExact _) (wpAny_newObj_type (wpAny_pure (wpAny_pure ⟨_, rfl, wpAny_pure h⟩)) htake))
    | exact wpAny_bind (wpAny_bind (m := Builtin.Tuple.tupleExact _) (wpAny_newObj_type (wpAny_pure ⟨_, rfl, wpAny_pure h⟩) htake))
end
section
variable {X : Cx} {G : Gh} {e : Expr} {wa : WE} {ca : Nat} {pos p1 p2 p3 : Pos} {k : Nat} {te : TE}
def tRevA (K : PySem.W.Frag) (te : TE) : TE := fun σ H Q => te σ H fun x H1 => ∃ a xs, x = .ref a ∧ ((SqL K H1 a xs ∧ ∀ p, H1 p = none → Q (.ref p) (upd H1 p (.lst xs.reverse))) ∨ (SqT K H1 a xs ∧ ∀ p, H1 p = none → Q (.ref p) (upd H1 p (.tup xs.reverse))))
theorem pe_revA (he : PE X e te) : PE X (.Subscript e (.Slice none none (some (.UnaryOp .USub (.Constant (.int 1) k p1) p2)) p3) pos) (tRevA X.K te) := by
  refine ⟨fun pins s σ H Q I h => ?_⟩
  refine Subscript_ (thn (he.run pins s σ H _ I h) fun v s1 ⟨x, H1, I1, r1, q1⟩ => ?_)
  obtain ⟨a, xs, ex, hx⟩ := q1
  subst ex
  cases r1
  have hst : PO X (some (.UnaryOp .USub (.Constant (.int 1) k p1) p2)) (tPart (tUn (rU fun i => .int (-i)) (tC (.int 1)))) := po_some (pe_un un_neg pe_int)
  refine wpAny_Slice (thn (po_none.run pins s1 σ H1 (fun o H2 => o = none ∧ H2 = H1) I1 ⟨rfl, rfl⟩) fun vl s2 ⟨l, H2, I2, pl, el, e2⟩ => ?_)
  subst el e2
  refine thn (po_none.run pins s2 σ H2 (fun o H3 => o = none ∧ H3 = H2) I2 ⟨rfl, rfl⟩) fun vu s3 ⟨u, H3, I3, pu, eu, e3⟩ => ?_
  subst eu e3
  refine thn (hst.run pins s3 σ H3 (fun o H4 => o = some (-1) ∧ H4 = H3) I3 ⟨1, rfl, -1, rfl, rfl, rfl⟩) fun vs s4 ⟨o, H4, I4, ps, eo, e4⟩ => ?_
  subst eo e4
  have I5 : Inv X pins σ H4 { s4 with heap := s4.heap.push { cls := .type "slice", data := .fields #[vl, vu, vs] } } := I4.kept (t' := s4.toks) fun b ob q => Heap.get?_push_of_some _ q
  show wpAny (model X.prog X.w) X.A (subscriptTail e (.Slice none none (some (.UnaryOp .USub (.Constant (.int 1) k p1) p2)) p3) (.ref a) (.ref s4.heap.objs.size)) (EP X pins σ Q) X.xe { s4 with heap := s4.heap.push { cls := .type "slice", data := .fields #[vl, vu, vs] } }
  rcases hx with ⟨hx, q⟩ | ⟨hx, q⟩
  · obtain ⟨its, r, ht, hz⟩ := I5.list hx
    have hlen := r.length
    refine tail_any (ops := [.ref a, .ref s4.heap.objs.size]) ht.isList.typeIs (PySem.slot_list_getitem.lookup) ?_ (by with_unfolding_all rfl)
    refine wpAny_getItem_list_slice ht.isList (Heap.IsSliceOf.new _ vl vu vs) pl pu ps (by decide) ?_ (by rw [List.size_toArray]; omega)
    rw [PySem.W.krv_pick]
    refine ⟨.ref _, _, I5.laid (t' := s4.toks) (o := .lst xs.reverse) (fun b ob q => Heap.get?_push_of_some _ q) (Nat.le_refl _) ?_, rfl, q _ (I5.hok.fresh (Nat.le_refl _))⟩
    exact ⟨by rw [List.length_reverse]; exact hz, _, 0, r.reverse, Heap.get?_push_size _ rfl⟩
  · obtain ⟨its, r, ht, hz⟩ := I5.tuple hx
    have hlen := r.length
    refine tail_any (ops := [.ref a, .ref s4.heap.objs.size]) ht.typeIs (PyProof.Rows.slot_tuple_getitem.lookup) ?_ (by with_unfolding_all rfl)
    refine getItem_tuple_rev ht (Heap.IsSliceOf.new _ vl vu vs) pl pu ps ?_ (by rw [List.size_toArray]; omega)
    refine ⟨.ref _, _, I5.laid (t' := s4.toks) (o := .tup xs.reverse) (fun b ob q => Heap.get?_push_of_some _ q) (Nat.le_refl _) ?_, rfl, q _ (I5.hok.fresh (Nat.le_refl _))⟩
    exact ⟨by rw [List.length_reverse]; exact hz, _, r.reverse, IsTup.new _ _⟩
def revD : D → Option D
  | .list ds => some (.list ds.reverse)
  | .tuple ds => some (.tuple ds.reverse)
  | _ => none
def wRev (wa : WE) : WE := fun env P => wa env fun x => ∃ d, x.val.bind revD = some d ∧ P (mkDv d)
theorem de_rev (ha : DE X G e wa ca) : DE X G (.Subscript e (.Slice none none (some (.UnaryOp .USub (.Constant (.int 1) k p1) p2)) p3) pos) (wRev wa) ca := PE_imp (pe_revA ha) fun σ H Q h => by
  refine tV.one (K := fun env x P => ∃ d, x.val.bind revD = some d ∧ P (mkDv d)) h fun env w x dx P er r k hf => ?_
  obtain ⟨d, h1, p⟩ := k
  obtain ⟨d', h3, h4⟩ := Option.bind_eq_some_iff.mp h1
  have rq := r.rq h3
  cases d' with
  | list ds' =>
    cases h4
    cases rq with
    | lst q1 q2 => exact ⟨_, _, rfl, .inl ⟨SqL.of q1, fun q n => hf.pure er (d := .list ds'.reverse) p (same_new n) (newL n q2.reverse)⟩⟩
  | tuple ds' =>
    cases h4
    cases rq with
    | tup q0 q1 q2 => exact ⟨_, _, rfl, .inr ⟨SqT.of q1, fun q n => hf.rp er p (same_new n) (newT er.md n q2.reverse)⟩⟩
  | _ => cases h4
end
/-! ### a, b, c = x, y, z: what is frozen -/
section
variable {X : Cx} {G : Gh} {a b c : Expr} {wr : WA} {ca : Nat} {pos : Pos}
def wPar3 (i j l : Nat) (wr : WA) : WS := fun env De => wr env fun xs => ∃ dx dy dz, keptL xs = some [dx, dy, dz] ∧ De.nx (((env.set i (.fz dx)).set j (.fz dy)).set l (.fz dz))
theorem ds_par3 (i j l : Nat) {x y z : Str} {px py pz pt : Pos} {kt k2 pt2} (hc : X.calm = true) (hN : X.N.Nodup) (ha : DA X G [a, b, c] wr ca) (hi : X.N[i]? = some x := by rfl) (hj : X.N[j]? = some y := by rfl) (hl : X.N[l]? = some z := by rfl) (hij : i ≠ j := by decide) (hil : i ≠ l := by decide) (hjl : j ≠ l := by decide)
    (hx : X.env.scope.names.lookup x = some .local := by rfl) (hy : X.env.scope.names.lookup y = some .local := by rfl) (hz : X.env.scope.names.lookup z = some .local := by rfl)
    (hw : swappedStores [.Tuple [.Name x px, .Name y py, .Name z pz] kt pt] (.Tuple [a, b, c] k2 pt2) X.env = pure (some [x, y, z]) := by rfl)
    (hs : swapsWithSole [.Tuple [.Name x px, .Name y py, .Name z pz] kt pt] (.Tuple [a, b, c] k2 pt2) pos.line X.env = pure false := by rfl) :
    DS X G (.Assign [.Tuple [.Name x px, .Name y py, .Name z pz] kt pt] (.Tuple [a, b, c] k2 pt2) pos) (wPar3 i j l wr) ca :=
  PS_imp (ps_par3 hc hN hi hj hl hij hil hjl hx hy hz ha hw hs) fun σ H T h => by
    obtain ⟨env, M, C, b0, De, hb0, er, hw, lf⟩ := h
    refine ⟨env, M, C, b0, _, hb0, er, hw, fun ds hd b1 w1 vs hb1 er1 e1 r1 => ?_⟩
    obtain ⟨dx, dy, dz, hk, hn⟩ := hd
    have rp := r1.rp hk
    cases rp with
    | cons p1 rp =>
      cases rp with
      | cons p2 rp =>
        cases rp with
        | cons p3 rp =>
          cases rp
          exact ⟨_, _, _, rfl, lf.nx _ hn b1 w1 _ hb1 (((er1.setFz p1 i).setFz p2 j).setFz p3 l)⟩
end
end DL
namespace DL
open PySem PySem.Spec PyProof.Rows L2
/-! ### the law's own state: a dict of two lists of ints and a count -/
def stO (kc kg ks : Str) (c g : Addr) (n : Nat) : HO := .dK [(.inr kc, .ref c), (.inr kg, .ref g), (.inr ks, .int n)]
/-- a: the dict; C: what belongs to it -/
def SIB (kc kg ks : Str) (a : Addr) : SInv := fun b C H => ∃ (g c : Addr) (gs cs : List Int) (n : Nat), C a ∧ C g ∧ C c ∧ g ≠ c ∧ H a = some (stO kc kg ks c g n) ∧ H g = some (.lst (gs.map V.int)) ∧ H c = some (.lst (cs.map V.int)) ∧ n ≤ b
theorem stabB (kc kg ks : Str) (a : Addr) : Stab (SIB kc kg ks a) := fun b C H H' ⟨g, c, gs, cs, n, h1, h2, h3, h4, h5, h6, h7, h8⟩ k => ⟨g, c, gs, cs, n, h1, h2, h3, h4, k _ _ h1 h5, k _ _ h2 h6, k _ _ h3 h7, h8⟩
/-- something that is no tuple -/
def Lq (x : Option HO) : Prop := x ≠ none ∧ ∀ xs, x ≠ some (.tup xs)
/-- .. while the def that draws runs, w0 the world at its entry -/
structure StB (kc kg ks : Str) (a : Addr) (w0 : Wd) (H : Hp) (C : Addr → Prop) (g c : Addr) (gs cs : List Int) (n : Nat) : Prop where
  ex : Ext w0 ⟨H, fun x => w0.M x ∨ C x, C⟩
  cd : ∀ x, C x → Lq (H x)
  cc : ∀ x, w0.C x → C x
  ha : C a
  hg : C g
  hc : C c
  gc : g ≠ c
  da : H a = some (stO kc kg ks c g n)
  dg : H g = some (.lst (gs.map V.int))
  dc : H c = some (.lst (cs.map V.int))
section
variable {kc kg ks : Str} {a : Addr} {w0 : Wd} {H : Hp} {C : Addr → Prop} {g c : Addr} {gs cs : List Int} {n : Nat}
theorem StB.ag (h : StB kc kg ks a w0 H C g c gs cs n) : a ≠ g := fun z => by have := h.da; rw [z, h.dg] at this; cases this
theorem StB.ac (h : StB kc kg ks a w0 H C g c gs cs n) : a ≠ c := fun z => by have := h.da; rw [z, h.dc] at this; cases this
theorem StB.alloc (h : StB kc kg ks a w0 H C g c gs cs n) {p : Addr} {o : HO} (np : H p = none) : StB kc kg ks a w0 (upd H p o) C g c gs cs n := by
  have ne : ∀ {x : Addr} {u : HO}, H x = some u → x ≠ p := fun q z => by rw [z, np] at q; cases q
  exact ⟨h.ex.trans (Ext.same (w := ⟨H, fun x => w0.M x ∨ C x, C⟩) (same_new np)), fun x q => by
    have e : x ≠ p := fun z => (h.cd x q).1 (by rw [z]; exact np)
    rw [upd_ne e]; exact h.cd x q, h.cc, h.ha, h.hg, h.hc, h.gc, by rw [upd_ne (ne h.da)]; exact h.da, by rw [upd_ne (ne h.dg)]; exact h.dg, by rw [upd_ne (ne h.dc)]; exact h.dc⟩
theorem StB.same (h : StB kc kg ks a w0 H C g c gs cs n) {H' : Hp} (s : Same H H') : StB kc kg ks a w0 H' C g c gs cs n :=
  ⟨h.ex.trans (Ext.same (w := ⟨H, fun x => w0.M x ∨ C x, C⟩) s), fun x q => ⟨fun z => (h.cd x q).1 (s.free z), fun xs => ntup_same s (h.cd x q).1 ((h.cd x q).2 xs)⟩, h.cc, h.ha, h.hg, h.hc, h.gc, s _ _ h.da, s _ _ h.dg, s _ _ h.dc⟩
/-- something of the state is written -/
theorem StB.poke (h : StB kc kg ks a w0 H C g c gs cs n) {x : Addr} {o : HO} (hx : C x) (nt : ∀ xs, o ≠ .tup xs) : Ext w0 ⟨upd H x o, fun x => w0.M x ∨ C x, C⟩ ∧ ∀ y, C y → Lq (upd H x o y) := by
  have nw : ∀ b o', ¬ w0.C b → w0.H b = some o' → b ≠ x := fun b o' nc hb z => by
    rw [z] at nc hb
    rcases h.ex.newC x hx with q | q
    · exact nc q
    · rw [q] at hb; cases hb
  refine ⟨⟨fun b o' nc hb => ?_, fun b hb => ?_, h.ex.newC, h.ex.newM, h.ex.oldM⟩, fun y hy => ?_⟩
  · show upd H x o b = some o' ∨ _
    rw [upd_ne (nw b o' nc hb)]
    exact (h.ex.keep b o' nc hb).elim .inl fun ⟨q1, q2, ob, q3⟩ => .inr ⟨q1, q2, ob, by show upd H x o b = _; rw [upd_ne (nw b o' nc hb)]; exact q3⟩
  · show upd H x o b ≠ none
    by_cases e : b = x
    · rw [e, upd_same]; simp
    · rw [upd_ne e]; exact h.ex.dom b hb
  · by_cases e : y = x
    · rw [e, upd_same]; exact ⟨by simp, fun xs z => nt xs (Option.some.inj z)⟩
    · rw [upd_ne e]; exact h.cd y hy
/-- the list of great numbers: another one -/
theorem StB.newG (h : StB kc kg ks a w0 H C g c gs cs n) {p : Addr} {gs' : List Int} (np : H p = none) : StB kc kg ks a w0 (upd (upd H p (.lst (gs'.map V.int))) a (stO kc kg ks c p n)) (fun x => C x ∨ x = p) p c gs' cs n := by
  have h1 := h.alloc (o := .lst (gs'.map V.int)) np
  have ne : ∀ {x : Addr} {u : HO}, H x = some u → x ≠ p := fun q z => by rw [z, np] at q; cases q
  have npw : w0.H p = none := h.ex.free np
  have h2 : StB kc kg ks a w0 (upd H p (.lst (gs'.map V.int))) (fun x => C x ∨ x = p) g c gs cs n := by
    refine ⟨⟨h1.ex.keep, h1.ex.dom, fun b q => q.elim (h1.ex.newC b) fun z => .inr (by rw [z]; exact npw), fun b q => ?_, fun b q => .inl q⟩, fun x q => ?_, fun x q => .inl (h1.cc x q), .inl h.ha, .inl h.hg, .inl h.hc, h.gc, h1.da, h1.dg, h1.dc⟩
    · rcases q with q | q | q
      · exact .inl q
      · exact h1.ex.newM b (.inr q)
      · exact .inr (by rw [q]; exact npw)
    · rcases q with q | q
      · exact h1.cd x q
      · rw [q, upd_same]; exact ⟨by simp, fun xs z => nomatch z⟩
  obtain ⟨e1, e2⟩ := h2.poke (o := stO kc kg ks c p n) (x := a) h2.ha (fun _ z => nomatch z)
  have pa : p ≠ a := (ne h.da).symm
  exact ⟨e1, e2, fun x q => .inl (h.cc x q), .inl h.ha, .inr rfl, .inl h.hc, (ne h.dc).symm, upd_same, by rw [upd_ne pa, upd_same], by rw [upd_ne (h.ac).symm]; exact h1.dc⟩
theorem StB.setG (h : StB kc kg ks a w0 H C g c gs cs n) {gs' : List Int} : StB kc kg ks a w0 (upd H g (.lst (gs'.map V.int))) C g c gs' cs n := by
  obtain ⟨e1, e2⟩ := h.poke (o := .lst (gs'.map V.int)) h.hg (fun _ z => nomatch z)
  exact ⟨e1, e2, h.cc, h.ha, h.hg, h.hc, h.gc, by rw [upd_ne h.ag]; exact h.da, upd_same, by rw [upd_ne h.gc.symm]; exact h.dc⟩
theorem StB.setN (h : StB kc kg ks a w0 H C g c gs cs n) {n' : Nat} : StB kc kg ks a w0 (upd H a (stO kc kg ks c g n')) C g c gs cs n' := by
  obtain ⟨e1, e2⟩ := h.poke (o := stO kc kg ks c g n') h.ha (fun _ z => nomatch z)
  exact ⟨e1, e2, h.cc, h.ha, h.hg, h.hc, h.gc, upd_same, by rw [upd_ne h.ag.symm]; exact h.dg, by rw [upd_ne h.ac.symm]; exact h.dc⟩
theorem StB.start {M : Addr → Prop} {b : Nat} (wf : Wf ⟨H, M, C⟩) (h : SIB kc kg ks a b C H) : ∃ g c gs cs n, n ≤ b ∧ StB kc kg ks a ⟨H, M, C⟩ H C g c gs cs n := by
  obtain ⟨g, c, gs, cs, n, h1, h2, h3, h4, h5, h6, h7, h8⟩ := h
  exact ⟨g, c, gs, cs, n, h8, ⟨⟨fun a o _ h => .inl h, fun a h => h, fun a h => .inl h, fun a h => h.elim .inl fun q => .inl (wf.cm a q), fun a h => .inl h⟩, fun x q => ⟨wf.md x (wf.cm x q), fun xs => wf.mt x xs (wf.cm x q)⟩, fun x q => q, h1, h2, h3, h4, h5, h6, h7⟩⟩
theorem StB.nt (h : StB kc kg ks a w0 H C g c gs cs n) (wf0 : Wf w0) (x : Addr) (xs : List V) (q : w0.M x ∨ C x) : H x ≠ some (.tup xs) := by
  by_cases z : C x
  · exact (h.cd x z).2 xs
  · rcases q with q | q
    · exact h.ex.ntup (fun y => z (h.cc x y)) q (wf0.md x q) (wf0.mt x xs q)
    · exact absurd q z
/-- the end -/
theorem StB.done {b b' : Nat} {Q : VK} {Pd : D → Prop} {d : D} {v : V} (h : StB kc kg ks a w0 H C g c gs cs n) (wf0 : Wf w0) (hn : n ≤ b') (hb : b' ≤ b) (p : Pd d) (r : ∀ w, Rp w v d) (hq : ∀ d, Pd d → ∀ b' w' v, b' ≤ b → Ext w0 w' → SIB kc kg ks a b' w'.C w'.H → Wf w' → Rp w' v d → Q v w'.H) : Q v H :=
  hq d p b' ⟨H, fun x => w0.M x ∨ C x, C⟩ v hb h.ex ⟨g, c, gs, cs, n, h.ha, h.hg, h.hc, h.gc, h.da, h.dg, h.dc, hn⟩ ⟨fun x q => .inr q, fun x q => q.elim (fun m => h.ex.dom x (wf0.md x m)) (fun c => (h.cd x c).1), fun x xs q => h.nt wf0 x xs q⟩ (r _)
end
/-! ### raw rules for its body -/
section
variable {X : Cx} {o i e : Expr} {to ti tv : TE} {t : TSet} {pos p : Pos}
def sISet (to ti tv : TE) (t : TSet) : TS := fun D σ H => tv σ H fun v H1 => to σ H1 fun x H2 => ti σ H2 fun y H3 => t x y v H3 fun H4 => D.nx σ H4
theorem ps_iset (hp : PSet X t) (ho : PE X o to) (hi : PE X i ti) (hv : PE X e tv) (hs : swapsWith e (some (.Subscript o i p)) pos.line X.env = pure false := by rfl) : PS X (.Assign [.Subscript o i p] e pos) (sISet to ti tv t) := by
  refine ⟨fun pins s σ H D I h => ?_⟩
  refine wpAny_Assign_Subscript (thn (hv.run pins s σ H _ I h) fun r s1 ⟨v, H1, I1, rv, q1⟩ => thn (ho.run pins s1 σ H1 _ I1 q1) fun u s2 ⟨x, H2, I2, rx, q2⟩ => thn (hi.run pins s2 σ H2 _ I2 q2) fun iv s3 ⟨y, H3, I3, ry, q3⟩ => ?_) hs
  exact thn (hp pins s3 σ H3 x y v u iv r _ I3 rx ry rv q3) fun _ s4 ⟨H4, I4, q4⟩ => ⟨σ, H4, I4, q4⟩
def CMulB (i j : Int) : Prop := Builtin.Int.intBits i ≤ 2 ^ 20 ∧ Builtin.Int.intBits j ≤ 2 ^ 20
theorem op_mulB : OpR X (binaryOp .Mult) (rI CMulB fun i j => .int (i * j)) := opI fun _ _ _ _ _ _ _ hc q => mul_int q (.of_bits hc.1 hc.2)
def CDivB (_ j : Int) : Prop := 0 < j ∧ j < 2 ^ 1000
theorem small1000 {j : Int} (h : j < 2 ^ 63) : j < 2 ^ 1000 := Int.lt_trans h (by decide +kernel)
theorem CDivB.of {i j : Int} (h0 : 0 < j) (h : j < 2 ^ 63) : CDivB i j := ⟨h0, small1000 h⟩
theorem op_fdivB : OpR X (binaryOp .FloorDiv) (rI CDivB fun i j => .int (i / j)) := opI fun i j _ _ _ _ _ hc q => by
  obtain ⟨h1, h2⟩ := hc
  refine floordiv_int (by omega) (by rw [Int.fdiv_eq_ediv_of_nonneg i (by omega)]; exact q) (.inl (PyProof.noPylong_of_log2 ?_))
  have h3 : j.natAbs < 2 ^ 1000 := by omega
  have h4 : j.natAbs.log2 < 1000 := (Nat.log2_lt (by omega)).mpr h3
  omega
/-- a list of ints, as data, whoever owns it -/
def allW (H : Hp) : Wd := ⟨H, fun _ => False, fun _ => False⟩
def intL (ns : List Int) : D := .list (ns.map .int)
theorem ints_rp {w : Wd} : ∀ ns : List Int, RpL w (ns.map V.int) (ns.map .int)
  | [] => .nil
  | n :: r => .cons (.int n) (ints_rp r)
theorem ints_rq {H : Hp} {g : Addr} {gs : List Int} (h : H g = some (.lst (gs.map V.int))) : Rq (allW H) (.ref g) (intL gs) := .lst h (ints_rp gs)
theorem ints_shaped (gs : List Int) : SeqAt.shaped (intL gs) = true := by
  have h1 : ∀ gs : List Int, PyData.canLayAll0 (gs.map .int) = true := fun gs => by
    induction gs with
    | nil => rfl
    | cons n r ih => rw [List.map_cons, PyData.canLayAll0, ih]; rfl
  have h2 := PySem.W.depth_ints gs
  unfold SeqAt.shaped intL
  rw [show PyData.canLay0 (.list (gs.map .int)) = PyData.canLayAll0 (gs.map .int) from rfl, h1, PyData.depth, h2]
  decide
theorem ints_eqv (gs : List Int) : (intL gs).eqv (.list []) = decide (gs = []) := by
  cases gs with
  | nil => simp [intL, PyData.eqv, PyData.eqvAll]
  | cons n r => simp [intL, PyData.eqv, PyData.eqvAll]
/-- great != [] -/
theorem ne_nil {H : Hp} {g p : Addr} {gs : List Int} {Q : VK} (h1 : H g = some (.lst (gs.map V.int))) (h2 : H p = some (.lst [])) (q : ∀ H', Same H H' → Q (.bl (decide (gs ≠ []))) H') : rV2 neD (.ref g) (.ref p) H Q := by
  refine ⟨allW H, intL gs, .list [], .bool (decide (gs ≠ [])), rfl, fun _ z => z.elim, ints_rq h1, .lst h2 .nil, ?_, fun v H' s r => ?_⟩
  · unfold neD
    rw [if_pos ⟨ints_shaped gs, by decide⟩, ints_eqv, decide_not]
  · cases (show Rp ⟨H', fun _ => False, fun _ => False⟩ v (.bool (decide (gs ≠ []))) from r)
    exact q H' s

theorem ix0 (x : V) (r : List V) : ixN (x :: r).length 0 = some 0 := by
  unfold ixN
  rw [if_pos (by omega), if_pos (by rw [List.length_cons]; omega)]; rfl
theorem cap_bits {n : Nat} (h : n + 1 ≤ cap) : (67 * ((n : Int) + 1)).natAbs < 2 ^ 100010 ∧ ((n : Int) + 1).natAbs < 2 ^ 100010 := by
  have e : (2 : Nat) ^ 100010 = 1024 * cap := by decide +kernel
  rw [e]
  omega
theorem cut1 (gs : List Int) : cutV (gs.map V.int) (some 1) none = (gs.drop 1).map V.int := by
  unfold cutV
  rw [List.map_drop]
  have e1 : HT.sIx (gs.map V.int).length 0 (some 1) = min 1 (gs.map V.int).length := by
    unfold HT.sIx; simp
  have e2 : HT.sIx (gs.map V.int).length (gs.map V.int).length none = (gs.map V.int).length := rfl
  rw [e1, e2]
  cases gs with
  | nil => rfl
  | cons n r => simp [List.take_of_length_le]
section
variable {kc kg ks : Str} {a : Addr} {w0 : Wd} {H : Hp} {C : Addr → Prop} {g c : Addr} {gs cs : List Int} {n : Nat} {σ : L2.St} {Q : VK}
structure Kd (kc kg ks : Str) : Prop where
  cg : kc ≠ kg
  cs : kc ≠ ks
  gs : kg ≠ ks
theorem inr_ne {x y : Str} (h : x ≠ y) : ¬ ((Sum.inr x : Key) = Sum.inr y) := fun z => h (Sum.inr.inj z)
theorem StB.getC (S : StB kc kg ks a w0 H C g c gs cs n) (h0 : σ[0]? = some (some (.ref a))) (q : Q (.ref c) H) : tDGet (tVar 0) (tC (.str kc)) σ H Q :=
  ⟨.ref a, h0, a, .ref c, rfl, by have := DGet.k (k := .inr kc) S.da; rwa [valV_pos rfl] at this, q⟩
theorem StB.getG (S : StB kc kg ks a w0 H C g c gs cs n) (d : Kd kc kg ks) (h0 : σ[0]? = some (some (.ref a))) (q : Q (.ref g) H) : tDGet (tVar 0) (tC (.str kg)) σ H Q :=
  ⟨.ref a, h0, a, .ref g, rfl, by have := DGet.k (k := .inr kg) S.da; rwa [valV_neg (inr_ne d.cg), valV_pos rfl] at this, q⟩
theorem StB.getS (S : StB kc kg ks a w0 H C g c gs cs n) (d : Kd kc kg ks) (h0 : σ[0]? = some (some (.ref a))) (q : Q (.int n) H) : tDGet (tVar 0) (tC (.str ks)) σ H Q :=
  ⟨.ref a, h0, a, .int n, rfl, by have := DGet.k (k := .inr ks) S.da; rwa [valV_neg (inr_ne d.cs), valV_neg (inr_ne d.gs), valV_pos rfl] at this, q⟩
theorem StB.putG (S : StB kc kg ks a w0 H C g c gs cs n) (d : Kd kc kg ks) {p : Addr} : DPut H a (.str kg) (.ref p) (upd H a (stO kc kg ks c p n)) := by
  have h := DPut.k (k := .inr kg) (v := .ref p) S.da (by show 3 < sizeLine; decide)
  have e : putK [((.inr kc : Key), V.ref c), (.inr kg, .ref g), (.inr ks, .int n)] (.inr kg) (.ref p) = [(.inr kc, .ref c), (.inr kg, .ref p), (.inr ks, .int n)] := by
    unfold putK
    simp [inr_ne d.cg, inr_ne d.gs.symm]
  rw [e] at h
  exact h
theorem StB.putS (S : StB kc kg ks a w0 H C g c gs cs n) (d : Kd kc kg ks) {m : Nat} : DPut H a (.str ks) (.int m) (upd H a (stO kc kg ks c g m)) := by
  have h := DPut.k (k := .inr ks) (v := .int m) S.da (by show 3 < sizeLine; decide)
  have e : putK [((.inr kc : Key), V.ref c), (.inr kg, .ref g), (.inr ks, .int n)] (.inr ks) (.int m) = [(.inr kc, .ref c), (.inr kg, .ref g), (.inr ks, .int m)] := by
    unfold putK
    simp [inr_ne d.cs, inr_ne d.gs]
  rw [e] at h
  exact h
/-- the test m[kg] != [] -/
theorem StB.neG {Qt : Bool → Hp → Prop} (S : StB kc kg ks a w0 H C g c gs cs n) (d : Kd kc kg ks) (h0 : σ[0]? = some (some (.ref a))) (q : ∀ H', StB kc kg ks a w0 H' C g c gs cs n → Qt (decide (gs ≠ [])) H') : tTest (tOp (rV2 neD) (tDGet (tVar 0) (tC (.str kg))) (tLst tNil)) σ H Qt :=
  S.getG d h0 ⟨Nat.zero_le _, fun p np => ne_nil ((S.alloc np).dg) upd_same fun H' sm => ⟨_, rfl, q H' ((S.alloc np).same sm)⟩⟩
theorem StB.neC {Qt : Bool → Hp → Prop} (S : StB kc kg ks a w0 H C g c gs cs n) (h0 : σ[0]? = some (some (.ref a))) (q : ∀ H', StB kc kg ks a w0 H' C g c gs cs n → Qt (decide (cs ≠ [])) H') : tTest (tOp (rV2 neD) (tDGet (tVar 0) (tC (.str kc))) (tLst tNil)) σ H Qt :=
  S.getC h0 ⟨Nat.zero_le _, fun p np => ne_nil ((S.alloc np).dc) upd_same fun H' sm => ⟨_, rfl, q H' ((S.alloc np).same sm)⟩⟩
theorem bits_le {i : Int} {k : Nat} (h : i.natAbs < 2 ^ k) : Builtin.Int.intBits i ≤ k := by
  unfold Builtin.Int.intBits
  split
  · exact Nat.zero_le _
  · rename_i z
    have nz : i.natAbs ≠ 0 := fun q => z (by simpa using q)
    exact (Nat.log2_lt nz).mpr h
end
end
end DL
namespace DL
open PySem PySem.Spec PyProof.Rows L2
/-! ### the law's own call, for a def whose promise needs that no repr runs -/
theorem lawG_call {P : Program} {w : World} {K : PySem.W.Frag} {mg mb : Str → Option Value} {k : Nat} {fa a : Addr} {fd : FuncData} {x : Str} {sp : Sp} {s1 : Shared} {vs : List Value} {ns : List Int} (KX : K.In s1.heap) (hns : s1.heap.Ns mainGlobals mg) (hb : s1.heap.Ns builtinsNs mb)
    (hbb : ∀ x : Str, x ≠ "__name__" → mb x = bootBuiltins x) (hlim : s1.heap.NoLimit) (hg : s1.gens = #[]) (ha : s1.heap.get? a = some { cls := .type "list", data := .seq vs.toArray }) (hi : IntsAre vs ns) (hl : ns.length ≤ sizeLine) (hr : Room k callerA)
    (F : ∀ base : Heap, K.In base → base.Ns mainGlobals mg → FnG P w K mg base CX0 k fa fd [x] sp) (hbind : ∀ (s : Shared) (u : Value), BindsTo s fd ⟨[u], []⟩ [(x, u)]) (hsp : ∀ H : Hp, Only H → SqL K H a (ns.map V.int) → sp [.ref a] H (fun v _ => v = .bl true) fun _ _ _ => False) :
    codeAny (model P w) callerA (.call (.ref fa) ⟨[.ref a], []⟩) (fun r s' => r = .ok (.ret (.bool true)) ∧ OldK s1.heap s'.heap ∧ s'.os = s1.os ∧ AllBare s'.gens) s1 := by
  have rv := vals_ints hi; have lenV := hi.length
  have core : ∀ H : Hp, Only H → SqL K H a (ns.map V.int) → HOk P w H s1.heap → (∀ b, H b ≠ none → b = a) → (H a ≠ none → K.lookup a = none) → codeAny (model P w) callerA (.call (.ref fa) ⟨[.ref a], []⟩) (fun r s' => r = .ok (.ret (.bool true)) ∧ OldK s1.heap s'.heap ∧ s'.os = s1.os ∧ AllBare s'.gens) s1 := by
    intro H hO hS hok hA hK
    have bs : ∀ {b : Addr} {o : Obj}, s1.heap.get? b = some o → H b = none → (hidT s1.heap H).get? b = some o := fun e n => hidT_get e n
    have noA : ∀ {b : Addr} {o : Obj} {es : Array DictEntry} {ep : Nat}, s1.heap.get? b = some o → o.data = .dict es ep → H b = none := fun {b o es ep} e d => by
      cases q : H b with | none => rfl | some u =>
        obtain rfl : b = a := hA b (by rw [q]; simp)
        rw [ha] at e; cases e; cases (show Data.seq vs.toArray _ = Data.dict es ep from d)
    have nsK : ∀ {b : Addr} {m : Str → Option Value}, s1.heap.Ns b m → (hidT s1.heap H).Ns b m := fun {b m} ⟨o, es, ep, e, d, r⟩ => ⟨o, es, ep, bs e (noA e d), d, r⟩
    have hKb : K.In (hidT s1.heap H) := fun b o e => bs (KX b o e) (by
      cases q : H b with | none => rfl | some u => (obtain rfl : b = a := hA b (by rw [q]; simp)); rw [hK (by rw [q]; simp)] at e; cases e)
    have hM : Mod K mg (hidT s1.heap H) := ⟨hKb, nsK hns, ⟨mb, nsK hb, hbb⟩, let ⟨mc, h1, h2⟩ := hlim; ⟨mc, nsK h1, h2⟩⟩
    have e0 : Env0 P w K mg (hidT s1.heap H) callerA [] s1 H := ⟨rfl, hM, fun b o e => of_hidT e, Nat.le_of_eq (hidT_size _ _), trivial, fun b hb => absurd (show b ∈ ([] : List Addr) from hb) (by simp), hok, .of_eq hg⟩
    refine codeAny_mono ((F _ hKb (nsK hns)).run callerA [] s1 H ⟨[.ref a], []⟩ [.ref a] [.ref a] _ _ rfl hr e0 (hbind s1 (.ref a)) (.cons rfl .nil) (hsp H hO hS)) fun r s' h => ?_
    cases r with | error e => exact False.elim h | ok fl =>
      cases fl with
      | ret u =>
        obtain ⟨v, H', os, bare, un, hok', r', q⟩ := h
        cases (show v = .bl true from q); cases (show u = Value.bool true from r')
        refine ⟨rfl, OldK.of_keep fun b o e => ?_, os, bare⟩
        cases q : H b with
        | none => exact un.keep b o e q (by intro z; exact absurd (show b ∈ ([] : List Addr) from z) (by simp)) (by simp)
        | some u =>
          rcases hO b with z | ⟨ob, xs, z⟩
          · rw [q] at z; cases z
          · have z2 := un.frzs b ob _ z; obtain ⟨e1, _⟩ := hok b _ z; obtain ⟨e2, _⟩ := hok' b _ z2
            rw [e] at e1; cases e1; exact e2
      | _ => exact False.elim h
  cases hk : K.lookup a with
  | some o =>
    have e := KX a o hk
    rw [ha] at e; cases e
    exact core (fun _ => none) (fun _ => .inl rfl) (.inr ⟨_, vs.toArray, _, hk, rfl, rfl, rfl, by rw [List.size_toArray, lenV]; exact hl, by simpa using rv⟩) (fun b u z => by cases (show (none : Option HO) = some u from z)) (fun b z => absurd rfl z) fun z => absurd rfl z
  | none =>
    refine core (fun b => if b = a then some (.frz { cls := .type "list", data := .seq vs.toArray } (.lst (ns.map V.int))) else none) (fun b => ?_) (.inl (.inr ⟨{ cls := .type "list", data := .seq vs.toArray }, if_pos rfl⟩)) (fun b u z => ?_) (fun b z => ?_) fun _ => hk
    · by_cases hb : b = a; exact .inr ⟨_, _, if_pos hb⟩; exact .inl (if_neg hb)
    · by_cases hb : b = a
      · have z' := (if_pos hb).symm.trans z; cases z'; subst hb
        exact ⟨ha, by rw [List.length_map]; exact hl, vs, _, rv, ha⟩
      · have z' := (if_neg hb).symm.trans z; cases z'
    · by_cases hb : b = a; exact hb; exact absurd (if_neg hb) z
/-- what k_head leaves (case hc), from the promise of the law's def -/
theorem walkG {l : PySem.W.OpenLaw} {n k : Nat} {q : Program} {loose : List Str} {XP : (Str → Option Value) → Heap → Prop} {YP : World → Heap → Prop} {d : DefRec} {K : Params → PySem.W.Frag} {sp : World → Sp} {x : Str} (hn : l.most = some n) (hn2 : n ≤ sizeLine) (hdf : d.params.defaults = []) (hr : Room k callerA)
    (hY : ∀ (w : World) (h : Heap), YP w h → (K w.params).In h) (F : ∀ (w : World) (mg : Str → Option Value) (fa : Addr) (h : Heap), (K w.params).In h → h.Ns mainGlobals mg → mg d.name = some (.ref fa) → ∃ fd : FuncData, (∀ (s : Shared) (u : Value), BindsTo s fd ⟨[u], []⟩ [(x, u)]) ∧ ∀ base : Heap, (K w.params).In base → base.Ns mainGlobals mg → FnG l.prog w (K w.params) mg base CX0 k fa fd [x] (sp w))
    (hsp : ∀ (w : World) (H : Hp) (a : Addr) (ns : List Int), ns.length ≤ n → Only H → SqL (K w.params) H a (ns.map V.int) → sp w [.ref a] H (fun v _ => v = .bl true) fun _ _ _ => False) : PySem.W.WalkO q loose XP YP l.row.toRowW d [] (fun f vs => PySem.call f vs) := by
  refine Att.attach_call hn hdf fun w s0 s1 mg mb fa o pm cd doc a vs ns G Y ho hd hcd hmg hobj hints hlen hg => ?_
  have KX := hY w _ Y; obtain ⟨fd, hb, hF⟩ := F w mg fa _ KX G.T.g hmg
  exact lawG_call KX G.T.g G.T.b G.T.builtins G.T.nolimit hg hobj hints (Nat.le_trans hlen hn2) hr hF hb fun H hO hS => hsp w H a ns hlen hO hS
/-! ### the script: it stands as it was, and only its length is asked for -/
section
variable {X : Cx} {G : Gh}
/-- the script at a0 is among what is protected -/
def Scr (K : PySem.W.Frag) (G : Gh) (a0 : Addr) (n : Nat) : Prop := ∃ xs : List V, xs.length = n ∧ ((∃ o, G.Pt a0 = some (.frz o (.lst xs))) ∨ ∀ H, SqL K H a0 xs)
theorem Scr.sq {K : PySem.W.Frag} {a0 : Addr} {n b : Nat} {w : Wd} (h : Scr K G a0 n) (eh : EH (G.at b) w) : ∃ xs : List V, xs.length = n ∧ SqL K w.H a0 xs := by
  obtain ⟨xs, hl, ⟨o, ho⟩ | h⟩ := h
  · refine ⟨xs, hl, .inl (.inr ⟨o, ?_⟩)⟩
    rcases eh.kp a0 _ ho with q | ⟨_, d, _⟩
    · exact q
    · exact (no_dct_frz d).elim
  · exact ⟨xs, hl, h _⟩
def wLenS (i : Nat) (a0 : Addr) (n : Nat) : WE := fun env P => env[i]? = some (.raw (.ref a0)) ∧ P (.fz (.int n))
theorem de_lenS (i : Nat) {x : Str} {a0 : Addr} {n : Nat} {p p2 pos : Pos} (hs : Scr X.K G a0 n) (hg : Gl X "len") (hm : X.mg "len" = none) (hN : X.N[i]? = some x := by rfl) (hv : Vis X.env.scope x := by first | exact Or.inl rfl | exact Or.inr (Or.inl rfl) | exact Or.inr (Or.inr rfl)) (hd : (x == ("__debug__" : Str)) = false := by decide) (hcd : (x == ("__classdict__" : Str)) = false := by decide)
    (he : starEach [.Name x p2] X.env = (false, eval (.Name x p2) X.env) :: starEach [] X.env := by rfl) : DE X G (.Call (.Name "len" p) [.Name x p2] [] pos) (wLenS i a0 n) 0 :=
  PE_imp (pe_callB call_len_seq hg hm PySem.boot_len (pa_cons (pe_var hN hv hd hcd) pa_nil he) (by decide) (by decide) he rfl) fun σ H Q h => by
    obtain ⟨env, M, C, b0, P, hb0, er, ⟨hi, p⟩, hf⟩ := h
    obtain ⟨ov, h1, h2⟩ := er.at hi
    obtain rfl : ov = some (.ref a0) := h2
    obtain ⟨xs, hl, hq⟩ := hs.sq er.toEH
    refine ⟨.ref a0, h1, a0, xs, rfl, .inl hq, ?_⟩
    rw [hl]
    exact Fin.now (b := b0) (w := ⟨H, M, C⟩) hf p er (.int _)
end
/-! ### the law's def: its state is made, the rest draws -/
def spBeg (K : PySem.W.Frag) (SIa : Addr → SInv) : Sp := fun vs H Q _ => ∃ (a0 : Addr) (ns : List Int), vs = [.ref a0] ∧ SqL K H a0 (ns.map V.int) ∧ ns.length ≤ 63 ∧ ∀ (a : Addr) (C : Addr → Prop) (H' : Hp), Same H H' → (∀ x, C x → H x = none ∧ Lq (H' x)) → SIa a 0 C H' → Q (.ref a) H'
def spLaw (K : PySem.W.Frag) : Sp := fun vs H Q _ => ∃ (a0 : Addr) (ns : List Int), vs = [.ref a0] ∧ ns.length ≤ 63 ∧ Only H ∧ SqL K H a0 (ns.map V.int) ∧ ∀ H', Q (.bl true) H'
def lawEnds : DEnds := { nx := fun _ => False, rt := fun dv => dv = .fz (.bool true), bk := fun _ => False, ct := fun _ => False }
def lawEnv (a0 a : Addr) (m : Nat) : Ev := .raw (.ref a0) :: .raw (.ref a) :: List.replicate m .no
theorem fn_law {SIa : Addr → SInv} (st : ∀ a, Stab (SIa a)) {P : Program} {w : World} {K : PySem.W.Frag} {mg : Str → Option Value} {base : Heap} {stm s0 : Stmt} {rest : List Stmt} {f : Addr} {fd : FuncData} {N : List Str} {x : Str} {k c m : Nat} {ws : Addr → Addr → Nat → WS}
    (F : Fun K "law" "law" stm f fd) (S : FnScope N [x] (defScope stm)) (hN : N.length = m + 2) (hb : defBody stm = s0 :: rest)
    (h0 : ∀ (cdv : Value) (A : Around) (outer : List Env) (s : Shared) (H : Hp) (E : XK), A.guards = some [] → Room k (A.deeper (envOfC "law" (defScope stm) s.heap.objs.size f cdv)) → PS (cxOf CX0 P w K mg base N "law" (defScope stm) f cdv A outer s H E).nox s0 (tAsg (tCall (spBeg K SIa) [] E0 (tCons (tVar 0) tNil)) (gName 1)))
    (hrest : ∀ (a a0 : Addr) (n : Nat) (G : Gh) (cdv : Value) (A : Around) (outer : List Env) (s : Shared) (H : Hp) (E : XK), G.SI = SIa a → Scr K G a0 n → A.guards = some [] → Room k (A.deeper (envOfC "law" (defScope stm) s.heap.objs.size f cdv)) → DSs (cxOf CX0 P w K mg base N "law" (defScope stm) f cdv A outer s H E).nox G rest (ws a a0 n) c)
    (hd : ∀ (a a0 : Addr) (n : Nat), n ≤ 63 → ws a a0 n (lawEnv a0 a m) lawEnds) (hc : c ≤ cap := by decide +kernel) : FnG P w K mg base CX0 (k + 1) f fd [x] (spLaw K) := by
  obtain ⟨oc, od, kV, doc, pm, an, cdv, ct, osl, rfl, lk, hcd⟩ := F.ex
  refine fnG_of lk hcd S (fun vs H Q E h => ?_) fun A outer s H vs Q E hgd hr h => ?_
  · obtain ⟨a0, ns, rfl, _⟩ := h
    rfl
  · obtain ⟨a0, ns, rfl, hl, hO, hS, hq⟩ := h
    have dR : PSs (cxOf CX0 P w K mg base N "law" (defScope stm) f cdv A outer s H E).nox rest (fun T σ H => ∃ a a0 n G, G.SI = SIa a ∧ Scr K G a0 n ∧ tS G (ws a a0 n) c T σ H) := ⟨fun pins s' σ H' T I ⟨a, a0, n, G, h1, h2, q⟩ => (hrest a a0 n G cdv A outer s H E h1 h2 hgd hr).run pins s' σ H' T I q⟩
    have dA := (pss_cons (h0 cdv A outer s H E hgd hr) dR).nox
    rw [← hb] at dA
    refine ⟨_, dA, ?_⟩
    refine ⟨.ref a0, rfl, a0, ns, rfl, hS, hl, fun a C H' sm hC si => ?_⟩
    have eσ : (L2.start N [V.ref a0]).set 1 (some (V.ref a)) = some (.ref a0) :: some (.ref a) :: List.replicate m none := by
      unfold L2.start
      rw [hN]; rfl
    have mh : ∀ x, C x → H' x ≠ none := fun x q => (hC x q).2.1
    have mt : ∀ x xs, C x → H' x ≠ some (.tup xs) := fun x xs q => (hC x q).2.2 xs
    have wf : Wf ⟨H', C, C⟩ := ⟨fun x q => q, mh, mt⟩
    refine ⟨a, a0, ns.length, ghOf (SIa a) (st a) H' C C mh, rfl, ?_, lawEnv a0 a m, C, C, 0, lawEnds, by omega, ?_, hd a a0 _ hl, ?_⟩
    · refine ⟨ns.map V.int, List.length_map .., ?_⟩
      rcases hS with (h | ⟨o, h⟩) | h
      · rcases hO a0 with z | ⟨o, xs, z⟩
        · rw [h] at z; cases z
        · rw [h] at z; cases z
      · exact .inl ⟨o, (ghOf_pt (C := C) (H := H') fun q => by rw [(hC a0 q).1] at h; cases h).trans (sm _ _ h)⟩
      · exact .inr fun _ => .inr h
    · refine ⟨⟨fun b o q => ?_, fun b q => q, fun b q => .inl q, fun b q => ghOf_pt0 q, fun b q => q, mh, fun b q => q, fun p hp => (nomatch hp), si, mt⟩, ?_, fun i sl ov q1 q2 => ?_, fun i j d e b q1 q2 _ _ => ?_⟩
      · by_cases z : C b
        · have q' := (ghOf_pt0 (H := H') z).symm.trans q; cases q'
        · exact .inl ((ghOf_pt z).symm.trans q)
      · rw [eσ]; simp [lawEnv]
      · rw [eσ] at q2
        match i with
        | 0 =>
          cases q1; cases q2
          exact rfl
        | 1 =>
          cases q1; cases q2
          exact rfl
        | i + 2 =>
          have q1' : (List.replicate m Sl.no)[i]? = some sl := q1
          rw [List.getElem?_replicate] at q1'
          split at q1'
          · cases q1'; trivial
          · cases q1'
      · exfalso
        match i with
        | 0 => cases q1
        | 1 => cases q1
        | i + 2 =>
          have q1' : (List.replicate m Sl.no)[i]? = some (.own d) := q1
          rw [List.getElem?_replicate] at q1'
          split at q1' <;> cases q1'
    · refine ⟨fun _ q => q.elim, fun dv q b' w' Hs v hb' eh rv _ => ?_, fun _ q => q.elim, fun _ q => q.elim⟩
      obtain rfl : dv = .fz (.bool true) := q
      cases rv
      exact hq _
end DL
namespace PF
open PySem DL
/-! ### values by their kinds -/
theorem val_fz (d : D) : (Dv.fz d).val = some d := rfl
theorem val_nw (d : D) : (Dv.nw d).val = some d := rfl
theorem val_ow (d : D) : (Dv.ow d).val = some d := rfl
theorem val_bw (d : D) : (Dv.bw d).val = some d := rfl
theorem kept_fz (d : D) : (Dv.fz d).kept = some d := rfl
theorem kept_nl (ds : List D) : (Dv.nw (.list ds)).kept = some (.list ds) := rfl
theorem ag_fz (d : D) : (Dv.fz d).ag = .fz d := rfl
theorem ag_nl (ds : List D) : (Dv.nw (.list ds)).ag = .fz (.list ds) := rfl
theorem ag_ow (d : D) : (Dv.ow d).ag = .bw d := rfl
theorem ag_bw (d : D) : (Dv.bw d).ag = .bw d := rfl
theorem ag_raw (v : L2.V) : (Dv.raw v).ag = .raw v := rfl
theorem ret_fz (d : D) : (Dv.fz d).ret = some d := rfl
theorem ret_nw (d : D) : (Dv.nw d).ret = some d := rfl
theorem ret_ow (d : D) : (Dv.ow d).ret = some d := rfl
theorem dv_fz (d : D) : (Sl.fz d).dv = some (.fz d) := rfl
theorem dv_own (d : D) : (Sl.own d).dv = some (.ow d) := rfl
theorem dv_bw (d : D) : (Sl.bw d).dv = some (.bw d) := rfl
theorem dv_raw (v : L2.V) : (Sl.raw v).dv = some (.raw v) := rfl
theorem sl_fz (d : D) : (Ag.fz d).sl = .fz d := rfl
theorem sl_bw (d : D) : (Ag.bw d).sl = .bw d := rfl
theorem sl_raw (v : L2.V) : (Ag.raw v).sl = .raw v := rfl
theorem mk_none : mkDv .none = .fz .none := rfl
theorem mk_bool (b : Bool) : mkDv (.bool b) = .fz (.bool b) := rfl
theorem mk_int (i : Int) : mkDv (.int i) = .fz (.int i) := rfl
theorem mk_str (i : Str) : mkDv (.str i) = .fz (.str i) := rfl
theorem mk_tuple (i : List D) : mkDv (.tuple i) = .fz (.tuple i) := rfl
theorem mk_list (i : List D) : mkDv (.list i) = .nw (.list i) := rfl
theorem seq_list (i : List D) : seqD (.list i) = some i := rfl
theorem seq_tuple (i : List D) : seqD (.tuple i) = some i := rfl
/-! ### comprehensions over data -/
/-- a comprehension without draws: each item gives its value -/
theorem lc_map {gd : GD} {wt : WT} {we : WE} {env : Ev} {P : Dv → Prop} (f : D → D) (b : D → Bool) : ∀ (ds acc : List D), (∀ d ∈ ds, ∃ env', gd d env = some env' ∧ (∀ R : Bool → Prop, R (b d) → wt env' R) ∧ (b d = true → ∀ R : Dv → Prop, R (.fz (f d)) → we env' R)) → acc.length + ds.length ≤ sizeLine → P (.nw (.list (acc ++ (ds.filter b).map f))) → wLcL gd wt we env P ds acc
  | [], acc, _, _, p => by simpa [wLcL] using p
  | d :: r, acc, h, hl, p => by
    obtain ⟨env', h1, h2, h3⟩ := h d (List.mem_cons_self ..)
    refine ⟨env', h1, h2 _ ?_⟩
    rw [List.length_cons] at hl
    by_cases hb : b d = true
    · rw [if_pos hb]
      refine h3 hb _ ⟨f d, rfl, by omega, lc_map f b r _ (fun e he => h e (List.mem_cons_of_mem _ he)) (by rw [List.length_append, List.length_singleton]; omega) ?_⟩
      rw [List.filter_cons_of_pos hb, List.map_cons] at p
      rw [List.append_assoc]; exact p
    · rw [if_neg hb]
      refine lc_map f b r _ (fun e he => h e (List.mem_cons_of_mem _ he)) (by omega) ?_
      rw [List.filter_cons_of_neg hb] at p
      exact p
theorem lc_all {gd : GD} {we : WE} {env : Ev} {P : Dv → Prop} (f : D → D) (ds : List D) (h : ∀ d ∈ ds, ∃ env', gd d env = some env' ∧ ∀ R : Dv → Prop, R (.fz (f d)) → we env' R) (hl : ds.length ≤ sizeLine) (p : P (.nw (.list (ds.map f)))) : wLcL gd wYes we env P ds [] := by
  refine lc_map f (fun _ => true) ds [] (fun d hd => ?_) (by simpa using hl) (by rw [List.filter_eq_self.mpr (fun _ _ => rfl)]; exact p)
  obtain ⟨env', h1, h2⟩ := h d hd
  exact ⟨env', h1, fun R r => r, fun _ R r => h2 R r⟩
theorem boolsOf_map (g : D → Bool) (ds : List D) : boolsOf (ds.map fun d => .bool (g d)) = some (ds.map g) := by
  induction ds with
  | nil => rfl
  | cons d r ih => simp [boolsOf, ih]
theorem all_map (g : D → Bool) (ds : List D) : allD [.list (ds.map fun d => .bool (g d))] = some (.bool (ds.all g)) := by
  simp [allD, onBools, boolsOf_map, List.all_map]
theorem any_map (g : D → Bool) (ds : List D) : anyD [.list (ds.map fun d => .bool (g d))] = some (.bool (ds.any g)) := by
  simp [anyD, onBools, boolsOf_map, List.any_map]
/-! ### is_whole -/
def isWhole (t : D) (l : Int) (m : Option Int) : Bool := match t with
  | .int i => decide (l ≤ i) && (match m with | none => true | some k => decide (i ≤ k))
  | _ => false
def optD : Option Int → D
  | none => .none
  | some k => .int k
def sp_is_whole : DL.Spec := fun as Q => ∃ t l m, as = [.fz t, .fz (.int l), .fz (optD m)] ∧ Q (.bool (isWhole t l m))
theorem len_is_whole : ∀ as Q, sp_is_whole as Q → as.length = 3 := by rintro as Q ⟨t, l, m, rfl, _⟩; rfl
def ws_is_whole : WS := (wSeq (wIfS (wOr (wNot (wTest (wIsi DL.isInt (wName 0)))) (wOr (wTest (wIsi DL.isBool (wName 0))) (wTest (w2 ltD (wName 0) (wName 1))))) (wRet (wC (.fz (.bool false)))) wNext)
    (wRet (wOrV (w2 isD (wName 2) (wC (.fz .none))) (w2 leD (wName 0) (wName 2)))))
theorem ok_ws_is_whole : ∀ as Q, sp_is_whole as Q → ws_is_whole (env0 3 as) (endsOf Q) := by
  rintro as Q ⟨t, l, m, rfl, q⟩
  cases t with
  | int i =>
    by_cases h : l ≤ i
    · have h' : ¬ i < l := by omega
      cases m <;> simpa [ws_is_whole, env0, wSeq, wIfS, DL.wOr, DL.wNot, DL.wAnd, wTest, wIsi, wName, wC, w2, k2, kE, wRet, wRetN, wNext, wNever, wOrV, wAndV, wNotV, wIf, wB, wCons, wNil, wIx, wSet, store, wTup, wLst, wDrop, wCall, wCallD, wCallK, wApp, wAppF, wPop, wPut, wPar2, wSl, wPart, wNoPart, wAsgT, wAug, wSrc, wRng, wZip, wEnum, wLc, wLc2, wForI, gN, gTup', gCons', gNil', wYes, wBreak, wCont, wLrng, wChain, w1, wLenS, val_fz, val_nw, val_ow, val_bw, kept_fz, kept_nl, ag_fz, ag_nl, ag_ow, ag_bw, ag_raw, ret_fz, ret_nw, ret_ow, dv_fz, dv_own, dv_bw, dv_raw, sl_fz, sl_bw, sl_raw, mk_none, mk_bool, mk_int, mk_str, mk_tuple, mk_list, seq_list, seq_tuple, valL, keptL, wipeE, endsOf, pairD, rng1, rng2, zipD, enumA, DL.isInt, DL.isBool, DL.isTuple, DL.isList, DL.isStr, ltD, isD, isNotD, DL.isNone, leD, gtD, geD, cmpI, addD, subD, lenD, allD, anyD, onBools, tupleD, listD, intD, powD, minD, maxD, negD, isWhole, optD, h, h'] using q
    · have h' : i < l := by omega
      cases m <;> simpa [ws_is_whole, env0, wSeq, wIfS, DL.wOr, DL.wNot, DL.wAnd, wTest, wIsi, wName, wC, w2, k2, kE, wRet, wRetN, wNext, wNever, wOrV, wAndV, wNotV, wIf, wB, wCons, wNil, wIx, wSet, store, wTup, wLst, wDrop, wCall, wCallD, wCallK, wApp, wAppF, wPop, wPut, wPar2, wSl, wPart, wNoPart, wAsgT, wAug, wSrc, wRng, wZip, wEnum, wLc, wLc2, wForI, gN, gTup', gCons', gNil', wYes, wBreak, wCont, wLrng, wChain, w1, wLenS, val_fz, val_nw, val_ow, val_bw, kept_fz, kept_nl, ag_fz, ag_nl, ag_ow, ag_bw, ag_raw, ret_fz, ret_nw, ret_ow, dv_fz, dv_own, dv_bw, dv_raw, sl_fz, sl_bw, sl_raw, mk_none, mk_bool, mk_int, mk_str, mk_tuple, mk_list, seq_list, seq_tuple, valL, keptL, wipeE, endsOf, pairD, rng1, rng2, zipD, enumA, DL.isInt, DL.isBool, DL.isTuple, DL.isList, DL.isStr, ltD, isD, isNotD, DL.isNone, leD, gtD, geD, cmpI, addD, subD, lenD, allD, anyD, onBools, tupleD, listD, intD, powD, minD, maxD, negD, isWhole, optD, h, h'] using q
  | _ => simpa [ws_is_whole, env0, wSeq, wIfS, DL.wOr, DL.wNot, DL.wAnd, wTest, wIsi, wName, wC, w2, k2, kE, wRet, wRetN, wNext, wNever, wOrV, wAndV, wNotV, wIf, wB, wCons, wNil, wIx, wSet, store, wTup, wLst, wDrop, wCall, wCallD, wCallK, wApp, wAppF, wPop, wPut, wPar2, wSl, wPart, wNoPart, wAsgT, wAug, wSrc, wRng, wZip, wEnum, wLc, wLc2, wForI, gN, gTup', gCons', gNil', wYes, wBreak, wCont, wLrng, wChain, w1, wLenS, val_fz, val_nw, val_ow, val_bw, kept_fz, kept_nl, ag_fz, ag_nl, ag_ow, ag_bw, ag_raw, ret_fz, ret_nw, ret_ow, dv_fz, dv_own, dv_bw, dv_raw, sl_fz, sl_bw, sl_raw, mk_none, mk_bool, mk_int, mk_str, mk_tuple, mk_list, seq_list, seq_tuple, valL, keptL, wipeE, endsOf, pairD, rng1, rng2, zipD, enumA, DL.isInt, DL.isBool, DL.isTuple, DL.isList, DL.isStr, ltD, isD, isNotD, DL.isNone, leD, gtD, geD, cmpI, addD, subD, lenD, allD, anyD, onBools, tupleD, listD, intD, powD, minD, maxD, negD, isWhole] using q
/-! ### is_pair -/
def isPair (k i j : Int) : Bool := decide (0 ≤ i ∧ i < k ∧ 0 ≤ j ∧ j < k ∧ i ≠ j)
def sp_is_pair : DL.Spec := fun as Q => ∃ k i j : Int, as = [.fz (.int k), .fz (.tuple [.int i, .int j])] ∧ Q (.bool (isPair k i j))
theorem len_is_pair : ∀ as Q, sp_is_pair as Q → as.length = 2 := by rintro as Q ⟨k, i, j, rfl, _⟩; rfl
def ws_is_pair : WS := (wSeq (wIfS (wOr (wNot (wTest (wIsi DL.isTuple (wName 1)))) (wOr (wTest (w2 neD (wB lenD (wCons (wName 1) wNil)) (wC (.fz (.int 2))))) (wNot (wTest (wB allD (wCons (wLc (wSrc (wName 1)) (gN 2) wYes (wCall sp_is_whole (wCons (wName 2) (wCons (wC (.fz (.int 0))) (wCons (w2 subD (wName 0) (wC (.fz (.int 1)))) wNil)))) [2]) wNil)))))) (wRet (wC (.fz (.bool false)))) wNext)
    (wRet (w2 neD (wIx (wName 1) (wC (.fz (.int 0)))) (wIx (wName 1) (wC (.fz (.int 1)))))))
theorem int_beq (i j : Int) : (i == j) = decide (i = j) := by by_cases h : i = j <;> simp [h]
theorem ne_int (i j : Int) : neD (.int i) (.int j) = some (.bool (decide (i ≠ j))) := by
  unfold neD
  rw [if_pos ⟨by simp [SeqAt.shaped, PyData.canLay0, PyData.depth], by simp [SeqAt.shaped, PyData.canLay0, PyData.depth]⟩]
  simp only [PyData.eqv, int_beq]
  try simp
theorem eq_int (i j : Int) : eqD (.int i) (.int j) = some (.bool (decide (i = j))) := by
  unfold eqD
  rw [if_pos ⟨by simp [SeqAt.shaped, PyData.canLay0, PyData.depth], by simp [SeqAt.shaped, PyData.canLay0, PyData.depth]⟩]
  simp only [PyData.eqv, int_beq]
  try simp
theorem ix_0 (x : D) (r : List D) : ixD (.tuple (x :: r)) (.int 0) = some x := L2.atI_nat (j := 0) rfl
theorem ix_1 (x y : D) (r : List D) : ixD (.tuple (x :: y :: r)) (.int 1) = some y := L2.atI_nat (j := 1) rfl
theorem ok_ws_is_pair : ∀ as Q, sp_is_pair as Q → ws_is_pair (env0 3 as) (endsOf Q) := by
  rintro as Q ⟨k, i, j, rfl, q⟩
  have lc : ∀ P : Dv → Prop, P (.nw (.list [.bool (isWhole (.int i) 0 (some (k - 1))), .bool (isWhole (.int j) 0 (some (k - 1)))])) → wLcL (gN 2) wYes (wCall sp_is_whole (wCons (wName 2) (wCons (wC (.fz (.int 0))) (wCons (w2 subD (wName 0) (wC (.fz (.int 1)))) wNil)))) (wipeE [.fz (.int k), .fz (.tuple [.int i, .int j]), .no] [2]) P [.int i, .int j] [] := fun P p => by
    refine lc_all (fun d => .bool (isWhole d 0 (some (k - 1)))) _ (fun d hd => ⟨_, rfl, fun R r => ?_⟩) (by show 2 ≤ sizeLine; decide) p
    simp [env0, wSeq, wIfS, DL.wOr, DL.wNot, DL.wAnd, wTest, wIsi, wName, wC, w2, k2, kE, wRet, wRetN, wNext, wNever, wOrV, wAndV, wNotV, wIf, wB, wCons, wNil, wIx, wSet, store, wTup, wLst, wDrop, wCall, wCallD, wCallK, wApp, wAppF, wPop, wPut, wPar2, wSl, wPart, wNoPart, wAsgT, wAug, wSrc, wRng, wZip, wEnum, wLc, wLc2, wForI, gN, gTup', gCons', gNil', wYes, wBreak, wCont, wLrng, wChain, w1, wLenS, val_fz, val_nw, val_ow, val_bw, kept_fz, kept_nl, ag_fz, ag_nl, ag_ow, ag_bw, ag_raw, ret_fz, ret_nw, ret_ow, dv_fz, dv_own, dv_bw, dv_raw, sl_fz, sl_bw, sl_raw, mk_none, mk_bool, mk_int, mk_str, mk_tuple, mk_list, seq_list, seq_tuple, valL, keptL, wipeE, endsOf, pairD, rng1, rng2, zipD, enumA, DL.isInt, DL.isBool, DL.isTuple, DL.isList, DL.isStr, ltD, isD, isNotD, DL.isNone, leD, gtD, geD, cmpI, addD, subD, lenD, allD, anyD, onBools, tupleD, listD, intD, powD, minD, maxD, negD]
    exact ⟨d, 0, some (k - 1), rfl, r⟩
  have e : (isWhole (.int i) 0 (some (k - 1)) && isWhole (.int j) 0 (some (k - 1)) && decide (i ≠ j)) = isPair k i j := by
    simp only [isWhole, isPair]
    rw [Bool.eq_iff_iff]
    simp
    omega
  simp [ws_is_pair, env0, wSeq, wIfS, DL.wOr, DL.wNot, DL.wAnd, wTest, wIsi, wName, wC, w2, k2, kE, wRet, wRetN, wNext, wNever, wOrV, wAndV, wNotV, wIf, wB, wCons, wNil, wIx, wSet, store, wTup, wLst, wDrop, wCall, wCallD, wCallK, wApp, wAppF, wPop, wPut, wPar2, wSl, wPart, wNoPart, wAsgT, wAug, wSrc, wRng, wZip, wEnum, wLc, wLc2, wForI, gN, gTup', gCons', gNil', wYes, wBreak, wCont, wLrng, wChain, w1, wLenS, val_fz, val_nw, val_ow, val_bw, kept_fz, kept_nl, ag_fz, ag_nl, ag_ow, ag_bw, ag_raw, ret_fz, ret_nw, ret_ow, dv_fz, dv_own, dv_bw, dv_raw, sl_fz, sl_bw, sl_raw, mk_none, mk_bool, mk_int, mk_str, mk_tuple, mk_list, seq_list, seq_tuple, valL, keptL, wipeE, endsOf, pairD, rng1, rng2, zipD, enumA, DL.isInt, DL.isBool, DL.isTuple, DL.isList, DL.isStr, ltD, isD, isNotD, DL.isNone, leD, gtD, geD, cmpI, addD, subD, lenD, allD, anyD, onBools, tupleD, listD, intD, powD, minD, maxD, negD, ne_int, ix_0, ix_1]
  refine lc _ ?_
  cases h1 : isWhole (.int i) 0 (some (k - 1)) <;> cases h2 : isWhole (.int j) 0 (some (k - 1)) <;> simp [env0, wSeq, wIfS, DL.wOr, DL.wNot, DL.wAnd, wTest, wIsi, wName, wC, w2, k2, kE, wRet, wRetN, wNext, wNever, wOrV, wAndV, wNotV, wIf, wB, wCons, wNil, wIx, wSet, store, wTup, wLst, wDrop, wCall, wCallD, wCallK, wApp, wAppF, wPop, wPut, wPar2, wSl, wPart, wNoPart, wAsgT, wAug, wSrc, wRng, wZip, wEnum, wLc, wLc2, wForI, gN, gTup', gCons', gNil', wYes, wBreak, wCont, wLrng, wChain, w1, wLenS, val_fz, val_nw, val_ow, val_bw, kept_fz, kept_nl, ag_fz, ag_nl, ag_ow, ag_bw, ag_raw, ret_fz, ret_nw, ret_ow, dv_fz, dv_own, dv_bw, dv_raw, sl_fz, sl_bw, sl_raw, mk_none, mk_bool, mk_int, mk_str, mk_tuple, mk_list, seq_list, seq_tuple, valL, keptL, wipeE, endsOf, pairD, rng1, rng2, zipD, enumA, DL.isInt, DL.isBool, DL.isTuple, DL.isList, DL.isStr, ltD, isD, isNotD, DL.isNone, leD, gtD, geD, cmpI, addD, subD, lenD, allD, anyD, onBools, tupleD, listD, intD, powD, minD, maxD, negD, boolsOf] <;> simpa [← e, h1, h2] using q
theorem lc_encF {α : Type} {gd : GD} {wt : WT} {we : WE} {env : Ev} {P : Dv → Prop} (e g : α → D) (b : α → Bool) : ∀ (ps : List α) (acc : List D), (∀ p ∈ ps, ∃ env', gd (e p) env = some env' ∧ (∀ R : Bool → Prop, R (b p) → wt env' R) ∧ (b p = true → ∀ R : Dv → Prop, R (.fz (g p)) → we env' R)) → acc.length + ps.length ≤ sizeLine → P (.nw (.list (acc ++ (ps.filter b).map g))) → wLcL gd wt we env P (ps.map e) acc
  | [], acc, _, _, p => by simpa [wLcL] using p
  | d :: r, acc, h, hl, p => by
    obtain ⟨env', h1, h2, h3⟩ := h d (List.mem_cons_self ..)
    refine ⟨env', h1, h2 _ ?_⟩
    rw [List.length_cons] at hl
    by_cases hb : b d = true
    · rw [if_pos hb]
      refine h3 hb _ ⟨g d, rfl, by omega, lc_encF e g b r _ (fun e he => h e (List.mem_cons_of_mem _ he)) (by rw [List.length_append, List.length_singleton]; omega) ?_⟩
      rw [List.filter_cons_of_pos hb, List.map_cons] at p
      rw [List.append_assoc]; exact p
    · rw [if_neg hb]
      refine lc_encF e g b r _ (fun e he => h e (List.mem_cons_of_mem _ he)) (by omega) ?_
      rw [List.filter_cons_of_neg hb] at p
      exact p
theorem lc_enc {α : Type} {gd : GD} {we : WE} {env : Ev} {P : Dv → Prop} (e g : α → D) (ps : List α) (h : ∀ p ∈ ps, ∃ env', gd (e p) env = some env' ∧ ∀ R : Dv → Prop, R (.fz (g p)) → we env' R) (hl : ps.length ≤ sizeLine) (p : P (.nw (.list (ps.map g)))) : wLcL gd wYes we env P (ps.map e) [] := by
  refine lc_encF e g (fun _ => true) ps [] (fun d hd => ?_) (by simpa using hl) (by rw [List.filter_eq_self.mpr (fun _ _ => rfl)]; exact p)
  obtain ⟨env', h1, h2⟩ := h d hd
  exact ⟨env', h1, fun R r => r, fun _ R r => h2 R r⟩
theorem boolsOf_enc {α : Type} (g : α → Bool) (ps : List α) : boolsOf (ps.map fun d => .bool (g d)) = some (ps.map g) := by
  induction ps with
  | nil => rfl
  | cons d r ih => simp [boolsOf, ih]
theorem all_enc {α : Type} (g : α → Bool) (ps : List α) : (onBools fun bs => bs.all id) [.list (ps.map fun d => .bool (g d))] = some (.bool (ps.all g)) := by
  simp [onBools, boolsOf_enc, List.all_map]
theorem any_enc {α : Type} (g : α → Bool) (ps : List α) : (onBools fun bs => bs.any id) [.list (ps.map fun d => .bool (g d))] = some (.bool (ps.any g)) := by
  simp [onBools, boolsOf_enc, List.any_map]
/-! ### are_ascending -/
abbrev Pr := Int × Int
def prD (p : Pr) : D := .tuple [.int p.1, .int p.2]
def prsD (ps : List Pr) : D := .tuple (ps.map prD)
def ltP (p q : Pr) : Bool := decide (p.1 < q.1) || (decide (p.1 = q.1) && decide (p.2 < q.2))
def asc : List Pr → Bool
  | p :: q :: r => ltP p q && asc (q :: r)
  | _ => true
theorem ltD_pr (p q : Pr) : ltD (prD p) (prD q) = some (.bool (ltP p q)) := by
  simp only [prD, ltD, intsOf, Option.map_some]
  congr 2
  simp only [ltP, HT.lexLt]
  by_cases h1 : p.1 < q.1
  · have h2 : ¬ p.1 = q.1 := by omega
    simp [h1, h2]
  · by_cases h2 : p.1 = q.1
    · by_cases h3 : p.2 < q.2
      · have h4 : ¬ p.2 = q.2 := by omega
        simp [h2, h3, h4]
      · simp [h2, h3]
    · simp [h1, h2]
theorem cutD_1 (ds : List D) : cutD ds (some 1) none = ds.drop 1 := by
  unfold cutD
  have e1 : HT.sIx ds.length 0 (some 1) = min 1 ds.length := by unfold HT.sIx; simp
  have e2 : HT.sIx ds.length ds.length none = ds.length := rfl
  rw [e1, e2]
  cases ds with
  | nil => rfl
  | cons n r => simp [List.take_of_length_le]
theorem zip_pr (ps : List Pr) : List.zipWith pairD (ps.map prD) ((ps.map prD).drop 1) = (ps.zip (ps.drop 1)).map fun p => pairD (prD p.1) (prD p.2) := by
  rw [← List.map_drop, List.zipWith_map, List.zip, List.map_zipWith]
theorem asc_zip : ∀ ps : List Pr, (ps.zip (ps.drop 1)).all (fun p => ltP p.1 p.2) = asc ps
  | [] => rfl
  | [p] => rfl
  | p :: q :: r => by
    have ih := asc_zip (q :: r)
    simp only [List.drop_succ_cons, List.drop_zero, List.zip_cons_cons, List.all_cons, asc] at ih ⊢
    rw [ih]
def ascI : List Int → Bool
  | a :: b :: r => decide (a < b) && ascI (b :: r)
  | _ => true
theorem ltD_i (i j : Int) : ltD (.int i) (.int j) = some (.bool (decide (i < j))) := rfl
theorem ascI_zip : ∀ ns : List Int, (ns.zip (ns.drop 1)).all (fun p => decide (p.1 < p.2)) = ascI ns
  | [] => rfl
  | [_] => rfl
  | a :: b :: r => by
    have := ascI_zip (b :: r)
    simp only [List.drop_succ_cons, List.drop_zero, List.zip_cons_cons, List.all_cons, ascI] at this ⊢
    rw [← this]
def sp_are_ascending : DL.Spec := fun as Q => (∃ ps : List Pr, as = [.fz (prsD ps)] ∧ ps.length ≤ sizeLine ∧ Q (.bool (asc ps))) ∨ ∃ ns : List Int, as = [.fz (.tuple (ns.map .int))] ∧ ns.length ≤ sizeLine ∧ Q (.bool (ascI ns))
theorem len_are_ascending : ∀ as Q, sp_are_ascending as Q → as.length = 1 := by rintro as Q (⟨ps, rfl, _⟩ | ⟨ps, rfl, _⟩) <;> rfl
def ws_are_ascending : WS := (wRet (wB allD (wCons (wLc (wZip (wCons (wName 0) (wCons (wSl (wName 0) (wPart (wC (.fz (.int 1)))) wNoPart) wNil))) (gTup' 2 (gCons' (gN 1) (gCons' (gN 2) gNil'))) wYes (w2 ltD (wName 1) (wName 2)) [1, 2]) wNil)))
theorem ok_ws_are_ascending : ∀ as Q, sp_are_ascending as Q → ws_are_ascending (env0 3 as) (endsOf Q) := by
  rintro as Q (⟨ps, rfl, hl, q⟩ | ⟨ns, rfl, hl, q⟩)
  rotate_left
  · refine ⟨_, rfl, _, rfl, 1, rfl, .tuple ((ns.map PyData.int).drop 1), by rw [← cutD_1]; rfl, _, rfl, ?_⟩
    have e : List.zipWith pairD (ns.map PyData.int) ((ns.map PyData.int).drop 1) = (ns.zip (ns.drop 1)).map fun p => pairD (.int p.1) (.int p.2) := by
      rw [← List.map_drop, List.zipWith_map, List.zip, List.map_zipWith]
    rw [e]
    refine lc_enc _ (fun p : Int × Int => .bool (decide (p.1 < p.2))) _ (fun d hd => ⟨_, rfl, fun R r => ⟨_, rfl, _, rfl, .bool (decide (d.1 < d.2)), rfl, r⟩⟩) (by rw [List.length_zip]; omega) ?_
    refine ⟨.bool (ascI ns), ?_, .bool (ascI ns), rfl, q⟩
    rw [← ascI_zip]
    exact all_enc (fun p : Int × Int => decide (p.1 < p.2)) _
  have lc : ∀ P : Dv → Prop, P (.nw (.list ((ps.zip (ps.drop 1)).map fun p => .bool (ltP p.1 p.2)))) → wLcL (gTup' 2 (gCons' (gN 1) (gCons' (gN 2) gNil'))) wYes (w2 ltD (wName 1) (wName 2)) (wipeE [.fz (prsD ps), .no, .no] [1, 2]) P ((ps.zip (ps.drop 1)).map fun p => pairD (prD p.1) (prD p.2)) [] := fun P p => by
    refine lc_enc _ (fun p => .bool (ltP p.1 p.2)) _ (fun d hd => ⟨_, rfl, fun R r => ?_⟩) (by rw [List.length_zip]; omega) p
    simp [env0, wSeq, wIfS, DL.wOr, DL.wNot, DL.wAnd, wTest, wIsi, wName, wC, w2, k2, kE, wRet, wRetN, wNext, wNever, wOrV, wAndV, wNotV, wIf, wB, wCons, wNil, wIx, wSet, store, wTup, wLst, wDrop, wCall, wCallD, wCallK, wApp, wAppF, wPop, wPut, wPar2, wSl, wPart, wNoPart, wAsgT, wAug, wSrc, wRng, wZip, wEnum, wLc, wLc2, wForI, gN, gTup', gCons', gNil', wYes, wBreak, wCont, wLrng, wChain, w1, wLenS, val_fz, val_nw, val_ow, val_bw, kept_fz, kept_nl, ag_fz, ag_nl, ag_ow, ag_bw, ag_raw, ret_fz, ret_nw, ret_ow, dv_fz, dv_own, dv_bw, dv_raw, sl_fz, sl_bw, sl_raw, mk_none, mk_bool, mk_int, mk_str, mk_tuple, mk_list, seq_list, seq_tuple, valL, keptL, wipeE, endsOf, pairD, ltD_pr]
    exact r
  refine ⟨_, rfl, _, rfl, 1, rfl, .tuple ((ps.map prD).drop 1), by rw [← cutD_1]; rfl, _, rfl, ?_⟩
  rw [zip_pr]
  refine lc _ ⟨.bool (asc ps), ?_, .bool (asc ps), rfl, q⟩
  rw [← asc_zip]
  exact all_enc (fun p : Pr × Pr => ltP p.1 p.2) _
end PF
namespace PF
open PySem DL
/-! ### above_of: who is reached -/
inductive Rch (ps : List Pr) : Int → Int → Prop
  | one {a b : Int} : (a, b) ∈ ps → Rch ps a b
  | more {a b c : Int} : Rch ps a b → (b, c) ∈ ps → Rch ps a c
def esD (ks : List Int) : List (D × D) := ks.map fun j => (.int j, .bool true)
theorem eqv_int (i j : Int) : PyData.eqv (.int i) (.int j) = decide (i = j) := by simp only [PyData.eqv, int_beq]
theorem dlook_esD (ks : List Int) (j : Int) : dlook (esD ks) (.int j) = if j ∈ ks then some (.bool true) else none := by
  unfold dlook esD
  induction ks with
  | nil => rfl
  | cons k r ih =>
    rw [List.map_cons, List.find?_cons]
    simp only [eqv_int]
    by_cases h : k = j
    · simp [h]
    · have h' : ¬ j = k := fun z => h z.symm
      simp only [h, decide_false, List.mem_cons, h', false_or]
      exact ih
theorem dfind_esD (ks : List Int) (j : Int) : dfind (esD ks) (.int j) = some (if j ∈ ks then some (.bool true) else none) := by
  show (if ((esD ks).all fun p => !isT p.1) = true then some (dlook (esD ks) (.int j)) else none) = _
  rw [if_pos, dlook_esD]
  simp [esD, isT]
theorem dput_esD {ks : List Int} {j : Int} (h : j ∉ ks) : dput (esD ks) (.int j) (.bool true) = esD (ks ++ [j]) := by
  unfold dput
  rw [if_neg]
  · simp [esD]
  · simp only [esD, List.any_map, List.any_eq_true, not_exists, not_and, Function.comp, eqv_int, decide_eq_true_eq]
    intro x hx z
    exact h (z ▸ hx)
theorem notIn_esD (ks : List Int) (j : Int) : notInV (.int j) (.dict (esD ks)) = some (.bool (decide (j ∉ ks))) := by
  show ((dfind (esD ks) (.int j)).map Option.isSome).map (fun k => PyData.bool (!k)) = _
  rw [dfind_esD]
  by_cases h : j ∈ ks <;> simp [h]
theorem in_esD (ks : List Int) (j : Int) : inV' (.int j) (.dict (esD ks)) = some (.bool (decide (j ∈ ks))) := by
  show ((dfind (esD ks) (.int j)).map Option.isSome).map (fun k => PyData.bool k) = _
  rw [dfind_esD]
  by_cases h : j ∈ ks <;> simp [h]
/-- one look over the pairs -/
def scan (here : Int) : List Pr → List Int → List Int → List Int × List Int
  | [], ks, W => (ks, W)
  | p :: r, ks, W => if p.1 = here ∧ p.2 ∉ ks then scan here r (ks ++ [p.2]) (W ++ [p.2]) else scan here r ks W
def wa_if : WS := (wIfS (wAnd (wTest (w2 eqD (wName 6) (wName 5))) (wTest (w2 notInV (wName 7) (wName 3)))) (wSeq (wPut 3 (wName 7) (wC (.fz (.bool true))))
    (wApp 4 (wName 7))) wNext)
def wa_body : WS := (wSeq (wPop 5 4) (wForI (wSrc (wIx (wName 0) (wC (.fz (.int 1))))) (gTup' 2 (gCons' (gN 6) (gCons' (gN 7) gNil'))) wa_if))
theorem scan_for {o : D} {f k : Sl} {here : Int} {De : DEnds} : ∀ (ps : List Pr) (ks W : List Int) (x y : Sl), ks.length + ps.length < 5000 → W.length + ps.length < 5000 →
    (∀ x' y', De.nx [.fz o, f, k, .own (.dict (esD (scan here ps ks W).1)), .own (.list ((scan here ps ks W).2.map .int)), .fz (.int here), x', y']) →
    wFor (gTup' 2 (gCons' (gN 6) (gCons' (gN 7) gNil'))) wa_if (ps.map prD) [.fz o, f, k, .own (.dict (esD ks)), .own (.list (W.map .int)), .fz (.int here), x, y] De
  | [], ks, W, x, y, _, _, hn => hn x y
  | p :: r, ks, W, x, y, h1, h2, hn => by
    rw [List.length_cons] at h1 h2
    refine ⟨_, rfl, ?_⟩
    by_cases he : p.1 = here
    · by_cases hm : p.2 ∈ ks
      · have hn' := hn; simp only [scan, hm, not_true_eq_false, and_false, if_false] at hn'
        have ih := scan_for r ks W (.fz (.int p.1)) (.fz (.int p.2)) (by omega) (by omega) hn'
        simpa [wa_if, env0, wSeq, wIfS, DL.wOr, DL.wNot, DL.wAnd, wTest, wIsi, wName, wC, w2, k2, kE, wRet, wRetN, wNext, wNever, wOrV, wAndV, wNotV, wIf, wB, wCons, wNil, wIx, wSet, store, wTup, wLst, wDrop, wCall, wCallD, wCallK, wApp, wAppF, wPop, wPut, wPar2, wSl, wPart, wNoPart, wAsgT, wAug, wSrc, wRng, wZip, wEnum, wLc, wLc2, wForI, gN, gTup', gCons', gNil', wYes, wBreak, wCont, wLrng, wChain, w1, wLenS, val_fz, val_nw, val_ow, val_bw, kept_fz, kept_nl, ag_fz, ag_nl, ag_ow, ag_bw, ag_raw, ret_fz, ret_nw, ret_ow, dv_fz, dv_own, dv_bw, dv_raw, sl_fz, sl_bw, sl_raw, mk_none, mk_bool, mk_int, mk_str, mk_tuple, mk_list, seq_list, seq_tuple, valL, keptL, wipeE, endsOf, pairD, eq_int, notIn_esD, he, hm] using ih
      · have hn' := hn; simp only [scan, he, hm, not_false_eq_true, and_self, if_true] at hn'
        have ih := scan_for r (ks ++ [p.2]) (W ++ [p.2]) (.fz (.int p.1)) (.fz (.int p.2)) (by simp; omega) (by simp; omega) hn'
        have l1 : (esD ks).length < sizeLine := by rw [sizeLine_eq]; simp [esD]; omega
        have l2 : W.length < sizeLine := by rw [sizeLine_eq]; omega
        simpa [wa_if, env0, wSeq, wIfS, DL.wOr, DL.wNot, DL.wAnd, wTest, wIsi, wName, wC, w2, k2, kE, wRet, wRetN, wNext, wNever, wOrV, wAndV, wNotV, wIf, wB, wCons, wNil, wIx, wSet, store, wTup, wLst, wDrop, wCall, wCallD, wCallK, wApp, wAppF, wPop, wPut, wPar2, wSl, wPart, wNoPart, wAsgT, wAug, wSrc, wRng, wZip, wEnum, wLc, wLc2, wForI, gN, gTup', gCons', gNil', wYes, wBreak, wCont, wLrng, wChain, w1, wLenS, val_fz, val_nw, val_ow, val_bw, kept_fz, kept_nl, ag_fz, ag_nl, ag_ow, ag_bw, ag_raw, ret_fz, ret_nw, ret_ow, dv_fz, dv_own, dv_bw, dv_raw, sl_fz, sl_bw, sl_raw, mk_none, mk_bool, mk_int, mk_str, mk_tuple, mk_list, seq_list, seq_tuple, valL, keptL, wipeE, endsOf, pairD, eq_int, notIn_esD, he, hm, putOk, dfind_esD, dput_esD hm, l1, l2] using ih
    · have hn' := hn; simp only [scan, he, false_and, if_false] at hn'
      have ih := scan_for r ks W (.fz (.int p.1)) (.fz (.int p.2)) (by omega) (by omega) hn'
      simpa [wa_if, env0, wSeq, wIfS, DL.wOr, DL.wNot, DL.wAnd, wTest, wIsi, wName, wC, w2, k2, kE, wRet, wRetN, wNext, wNever, wOrV, wAndV, wNotV, wIf, wB, wCons, wNil, wIx, wSet, store, wTup, wLst, wDrop, wCall, wCallD, wCallK, wApp, wAppF, wPop, wPut, wPar2, wSl, wPart, wNoPart, wAsgT, wAug, wSrc, wRng, wZip, wEnum, wLc, wLc2, wForI, gN, gTup', gCons', gNil', wYes, wBreak, wCont, wLrng, wChain, w1, wLenS, val_fz, val_nw, val_ow, val_bw, kept_fz, kept_nl, ag_fz, ag_nl, ag_ow, ag_bw, ag_raw, ret_fz, ret_nw, ret_ow, dv_fz, dv_own, dv_bw, dv_raw, sl_fz, sl_bw, sl_raw, mk_none, mk_bool, mk_int, mk_str, mk_tuple, mk_list, seq_list, seq_tuple, valL, keptL, wipeE, endsOf, pairD, eq_int, notIn_esD, he] using ih
theorem scan_new (here : Int) : ∀ (ps : List Pr) (ks W : List Int), ks.Nodup → ∃ new, scan here ps ks W = (ks ++ new, W ++ new) ∧ (∀ x ∈ new, (here, x) ∈ ps) ∧ (∀ p ∈ ps, p.1 = here → p.2 ∈ ks ++ new) ∧ (ks ++ new).Nodup
  | [], ks, W, h => ⟨[], by simp [scan], fun _ z => (nomatch z), fun _ z => (nomatch z), by simpa using h⟩
  | p :: r, ks, W, h => by
    by_cases c : p.1 = here ∧ p.2 ∉ ks
    · have h' : (ks ++ [p.2]).Nodup := by
        rw [List.nodup_append]
        refine ⟨h, by simp, fun a ha b hb z => ?_⟩
        have e : b = p.2 := by simpa using hb
        exact c.2 (by rw [← e, ← z]; exact ha)
      obtain ⟨new, e1, e2, e3, e4⟩ := scan_new here r (ks ++ [p.2]) (W ++ [p.2]) h'
      refine ⟨p.2 :: new, ?_, fun x hx => ?_, fun q hq e => ?_, by simpa using e4⟩
      · simp only [scan, c, not_false_eq_true, and_self, if_true]
        rw [e1]; simp
      · rcases List.mem_cons.mp hx with rfl | hx
        · rw [← c.1]; exact List.mem_cons_self ..
        · exact List.mem_cons_of_mem _ (e2 x hx)
      · rcases List.mem_cons.mp hq with rfl | hq
        · simp
        · simpa using e3 q hq e
    · obtain ⟨new, e1, e2, e3, e4⟩ := scan_new here r ks W h
      refine ⟨new, by simp only [scan, c, if_false]; exact e1, fun x hx => List.mem_cons_of_mem _ (e2 x hx), fun q hq e => ?_, e4⟩
      rcases List.mem_cons.mp hq with rfl | hq
      · have hm : q.2 ∈ ks := Classical.byContradiction fun z => c ⟨e, z⟩
        exact List.mem_append_left _ hm
      · exact e3 q hq e
theorem nodup_len : ∀ (l m : List Int), l.Nodup → (∀ x ∈ l, x ∈ m) → l.length ≤ m.length
  | [], m, _, _ => Nat.zero_le _
  | x :: l, m, h, s => by
    rw [List.nodup_cons] at h
    have hx := s x (List.mem_cons_self ..)
    have ih := nodup_len l (m.erase x) h.2 fun y hy => by
      have ne : y ≠ x := fun z => h.1 (z ▸ hy)
      exact (List.mem_erase_of_ne ne).mpr (s y (List.mem_cons_of_mem _ hy))
    have hl := List.length_erase_of_mem hx
    have hp : 0 < m.length := List.length_pos_of_mem hx
    rw [List.length_cons]; omega
structure AInv (ps : List Pr) (k : Int) (ks W : List Int) : Prop where
  nd : ks.Nodup
  rch : ∀ x ∈ ks, Rch ps k x
  wt : ∀ x ∈ W, x = k ∨ x ∈ ks
  cl : ∀ x, (x = k ∨ x ∈ ks) → x ∉ W → ∀ y, (x, y) ∈ ps → y ∈ ks
theorem AInv.len {ps : List Pr} {k : Int} {ks W : List Int} (h : AInv ps k ks W) : ks.length ≤ ps.length := by
  have := nodup_len ks (ps.map (·.2)) h.nd fun x hx => by
    cases h.rch x hx with
    | one e => exact List.mem_map.mpr ⟨_, e, rfl⟩
    | more _ e => exact List.mem_map.mpr ⟨_, e, rfl⟩
  simpa using this
theorem AInv.all {ps : List Pr} {k : Int} {ks : List Int} (h : AInv ps k ks []) {j : Int} : j ∈ ks ↔ Rch ps k j := by
  refine ⟨h.rch j, fun r => ?_⟩
  induction r with
  | one e => exact h.cl k (.inl rfl) (fun z => nomatch z) _ e
  | more _ e ih => exact h.cl _ (.inr (ih)) (fun z => nomatch z) _ e
theorem ne_ints (W : List Int) : neD (.list (W.map .int)) (.list []) = some (.bool (decide (W ≠ []))) := by
  have h1 := ints_shaped W
  have h2 := ints_eqv W
  unfold intL at h1 h2
  unfold neD
  rw [if_pos ⟨h1, by decide⟩, h2, decide_not]
theorem wh_ok {o : D} {f kd : Sl} {De : DEnds} {ps : List Pr} (ho : ixD o (.int 1) = some (prsD ps)) (hz : ps.length < 1000) (k : Int)
    (fin : ∀ ks h x y, (∀ j, j ∈ ks ↔ Rch ps k j) → ks.length ≤ ps.length → ks.Nodup → De.nx [.fz o, f, kd, .own (.dict (esD ks)), .own (.list []), h, x, y]) : ∀ (m : Nat) (ks W : List Int) (h x y : Sl), AInv ps k ks W → W.length ≤ 1 + ks.length → W.length + (ps.length - ks.length) = m →
    wWh (wTest (w2 neD (wName 4) (wLst wNil))) wa_body (m + 1) [.fz o, f, kd, .own (.dict (esD ks)), .own (.list (W.map .int)), h, x, y] De
  | m, ks, W, h, x, y, I, hw, e => by
    have t : ∀ P : Bool → Prop, P (decide (W ≠ [])) → wTest (w2 neD (wName 4) (wLst wNil)) [.fz o, f, kd, .own (.dict (esD ks)), .own (.list (W.map .int)), h, x, y] P := fun P p => ⟨_, rfl, [], rfl, Nat.zero_le _, _, ne_ints W, _, rfl, p⟩
    refine t _ ?_
    by_cases hW : W = []
    · subst hW
      rw [if_neg (by simp)]
      exact fin ks h x y (fun j => I.all) I.len I.nd
    · rw [if_pos (by simpa using hW)]
      obtain ⟨W0, here, rfl⟩ : ∃ W0 here, W = W0 ++ [here] := ⟨W.dropLast, W.getLast hW, (List.dropLast_concat_getLast hW).symm⟩
      have kl := I.len
      rw [List.length_append, List.length_singleton] at hw e
      obtain ⟨new, e1, e2, e3, e4⟩ := scan_new here ps ks W0 I.nd
      refine ⟨W0.map .int, .int here, by simp, _, rfl, prsD ps, ho, ps.map prD, rfl, ?_⟩
      have hr : ∀ x ∈ new, Rch ps k x := fun x hx => by
        rcases I.wt here (by simp) with q | q
        · rw [q] at e2; exact .one (e2 x hx)
        · exact .more (I.rch here q) (e2 x hx)
      have I' : AInv ps k (ks ++ new) (W0 ++ new) := by
        refine ⟨e4, fun x hx => (List.mem_append.mp hx).elim (I.rch x) (hr x), fun x hx => ?_, fun x hx hn y hy => ?_⟩
        · rcases List.mem_append.mp hx with q | q
          · exact (I.wt x (by simp [q])).imp id fun z => List.mem_append_left _ z
          · exact .inr (List.mem_append_right _ q)
        · by_cases hh : x = here
          · exact e3 (x, y) hy hh
          · have nW : x ∉ W0 ++ [here] := fun z => (List.mem_append.mp z).elim (fun q => hn (List.mem_append_left _ q)) fun q => hh (by simpa using q)
            have hx' : x = k ∨ x ∈ ks := hx.imp id fun z => (List.mem_append.mp z).resolve_right fun q => hn (List.mem_append_right _ q)
            exact List.mem_append_left _ (I.cl x hx' nW y hy)
      have kl' := I'.len
      rw [List.length_append] at kl'
      refine scan_for ps ks W0 x y (by omega) (by omega) fun x' y' => ?_
      rw [e1]
      cases m with
      | zero => omega
      | succ m => exact wh_ok ho hz k fin m (ks ++ new) (W0 ++ new) _ x' y' I' (by rw [List.length_append, List.length_append]; omega) (by rw [List.length_append, List.length_append]; omega)
termination_by m => m
/-! .. for all kinds -/
def ordD (n : Int) (ps : List Pr) : D := .tuple [.int n, prsD ps]
/-- what above_of gives: one dict for each kind -/
structure IsAb (ps : List Pr) (n : Nat) (kss : List (List Int)) : Prop where
  len : kss.length = n
  mem : ∀ (k : Nat) (ks : List Int), kss[k]? = some ks → ∀ j, j ∈ ks ↔ Rch ps k j
  nd : ∀ ks ∈ kss, ks.Nodup
def abD (kss : List (List Int)) : D := .list (kss.map fun ks => .dict (esD ks))
def sp_above_of : DL.Spec := fun as Q => ∃ (n : Nat) (ps : List Pr), as = [.fz (ordD n ps)] ∧ n ≤ 1000 ∧ ps.length < 1000 ∧ ∀ kss, IsAb ps n kss → Q (abD kss)
theorem len_above_of : ∀ as Q, sp_above_of as Q → as.length = 1 := by rintro as Q ⟨n, ps, rfl, _⟩; rfl
def ws_above_of : WS := (wSeq (wSet .own 1 (wLst wNil))
    (wSeq (wForI (wRng rng1 (wCons (wIx (wName 0) (wC (.fz (.int 0)))) wNil)) (gN 2) (wSeq (wPar2 .own 3 .own 4 (wC (.nw (.dict []))) (wLst (wCons (wName 2) wNil)))
    (wSeq (wWhile (wTest (w2 neD (wName 4) (wLst wNil))) (wSeq (wPop 5 4)
    (wForI (wSrc (wIx (wName 0) (wC (.fz (.int 1))))) (gTup' 2 (gCons' (gN 6) (gCons' (gN 7) gNil'))) (wIfS (wAnd (wTest (w2 eqD (wName 6) (wName 5))) (wTest (w2 notInV (wName 7) (wName 3)))) (wSeq (wPut 3 (wName 7) (wC (.fz (.bool true))))
    (wApp 4 (wName 7))) wNext))))
    (wAppF 1 3))))
    (wRet (wName 1))))
def wa_kind : WS := (wSeq (wPar2 .own 3 .own 4 (wC (.nw (.dict []))) (wLst (wCons (wName 2) wNil)))
    (wSeq (wWhile (wTest (w2 neD (wName 4) (wLst wNil))) wa_body)
    (wAppF 1 3)))
theorem kinds_for {ps : List Pr} {n : Nat} {De : DEnds} (hz : ps.length < 1000) (hn : n ≤ 1000) (fin : ∀ kss s2 s3 s4 s5 s6 s7, IsAb ps n kss → De.nx [.fz (ordD n ps), .own (abD kss), s2, s3, s4, s5, s6, s7]) :
    ∀ (r k : Nat) (kss : List (List Int)) (s2 s3 s4 s5 s6 s7 : Sl), k + r = n → IsAb ps k kss → wFor (gN 2) wa_kind ((List.range' k r).map fun i => .int (i : Nat)) [.fz (ordD n ps), .own (abD kss), s2, s3, s4, s5, s6, s7] De
  | 0, k, kss, s2, s3, s4, s5, s6, s7, e, h => by
    have e' : k = n := by omega
    subst e'
    exact fin kss s2 s3 s4 s5 s6 s7 h
  | r + 1, k, kss, s2, s3, s4, s5, s6, s7, e, h => by
    rw [List.range'_succ, List.map_cons]
    refine ⟨_, rfl, _, rfl, [.int (k : Nat)], rfl, (show 1 ≤ sizeLine by decide), _, rfl, _, rfl, 1 + ps.length + 1, ?_⟩
    have I0 : AInv ps k [] [(k : Int)] := ⟨List.nodup_nil, fun _ z => (nomatch z), fun x hx => .inl (by simpa using hx), fun x hx hn => absurd (hx.elim (fun q => by simp [q]) fun q => nomatch q) hn⟩
    refine wh_ok (ps := ps) rfl hz k (fun ks h' x' y' hk hl nd => ?_) (1 + ps.length) [] [(k : Int)] _ _ _ I0 (by simp) (by simp)
    refine ⟨kss.map (fun ks => .dict (esD ks)), .dict (esD ks), rfl, rfl, by decide, by rw [sizeLine_eq, List.length_map, h.1]; omega, ?_⟩
    have h2 : IsAb ps (k + 1) (kss ++ [ks]) := by
      refine ⟨by rw [List.length_append, h.1]; rfl, fun i js hi j => ?_, fun js hj => (List.mem_append.mp hj).elim (h.nd js) fun q => by rw [List.mem_singleton.mp q]; exact nd⟩
      by_cases hlt : i < kss.length
      · rw [List.getElem?_append_left hlt] at hi; exact h.2 i js hi j
      · rw [List.getElem?_append_right (by omega)] at hi
        have hi0 : i - kss.length = 0 := by
          cases q : i - kss.length with
          | zero => rfl
          | succ m => rw [q] at hi; simp at hi
        rw [hi0] at hi
        cases hi
        have ei : i = k := by have := h.1; omega
        rw [ei]; exact hk j
    have ih := kinds_for hz hn fin r (k + 1) (kss ++ [ks]) (.fz (.int (k : Nat))) (.fz (.dict (esD ks))) (.own (.list [])) h' x' y' (by omega) h2
    have ea : abD (kss ++ [ks]) = .list (kss.map (fun ks => .dict (esD ks)) ++ [.dict (esD ks)]) := by simp [abD]
    rw [ea] at ih
    exact ih
theorem rangeD_nat (n : Nat) : rangeD 0 (n : Int).toNat = (List.range' 0 n).map fun i => .int (i : Nat) := by
  unfold rangeD
  rw [Int.toNat_natCast, List.range_eq_range']
  exact List.map_congr_left fun i _ => by simp
theorem rng1_nat {n : Nat} (h : n ≤ 1000) : rng1 [.int (n : Int)] = some ((List.range' 0 n).map fun i => .int (i : Nat)) := by
  simp only [rng1]
  rw [if_pos ⟨by omega, by omega⟩, rangeD_nat]
theorem rngV {n : Nat} (h : n ≤ 1000) : (valL [.fz (.int (n : Int))]).bind rng1 = some ((List.range' 0 n).map fun i => .int (i : Nat)) := by
  have e : valL [.fz (.int (n : Int))] = some [.int (n : Int)] := rfl
  rw [e, Option.bind_some, rng1_nat h]
theorem ok_ws_above_of : ∀ as Q, sp_above_of as Q → ws_above_of (env0 8 as) (endsOf Q) := by
  rintro as Q ⟨n, ps, rfl, hn, hz, q⟩
  refine ⟨[], rfl, Nat.zero_le _, _, rfl, _, rfl, .int n, rfl, _, rngV hn, ?_⟩
  refine kinds_for hz hn ?_ n 0 [] .no .no .no .no .no .no (by omega) ⟨rfl, fun k ks h => by simp at h, fun _ z => nomatch z⟩
  exact fun kss s2 s3 s4 s5 s6 s7 h => ⟨_, rfl, _, rfl, q kss h⟩
end PF
namespace PF
open PySem DL
/-! ### need_order of a true order -/
structure Ord (n : Nat) (ps : List Pr) : Prop where
  lo : 1 ≤ n
  hi : n ≤ 12
  pr : ∀ p ∈ ps, isPair n p.1 p.2 = true
  asc : asc ps = true
  no : ∀ k, ¬ Rch ps k k
  sm : ps.length < 1000
def sp_need_order : DL.Spec := fun as Q => ∃ (n : Nat) (ps : List Pr), as = [.fz (ordD n ps)] ∧ Ord n ps ∧ Q (ordD n ps)
theorem len_need_order : ∀ as Q, sp_need_order as Q → as.length = 1 := by rintro as Q ⟨n, ps, rfl, _⟩; rfl
def ws_need_order : WS := (wSeq (wIfS (wOr (wNot (wTest (wIsi DL.isTuple (wName 0)))) (wTest (w2 neD (wB lenD (wCons (wName 0) wNil)) (wC (.fz (.int 2)))))) wNever wNext)
    (wSeq (wIfS (wNot (wTest (wCall sp_is_whole (wCons (wIx (wName 0) (wC (.fz (.int 0)))) (wCons (wC (.fz (.int 1))) (wCons (wC (.fz (.int 12))) wNil)))))) wNever wNext)
    (wSeq (wIfS (wOr (wNot (wTest (wIsi DL.isTuple (wIx (wName 0) (wC (.fz (.int 1))))))) (wNot (wTest (wB allD (wCons (wLc (wSrc (wIx (wName 0) (wC (.fz (.int 1))))) (gN 1) wYes (wCall sp_is_pair (wCons (wIx (wName 0) (wC (.fz (.int 0)))) (wCons (wName 1) wNil))) [1]) wNil))))) wNever wNext)
    (wSeq (wIfS (wNot (wTest (wCall sp_are_ascending (wCons (wIx (wName 0) (wC (.fz (.int 1)))) wNil)))) wNever wNext)
    (wSeq (wIfS (wTest (wB anyD (wCons (wLc (wEnum (wCons (wCall sp_above_of (wCons (wName 0) wNil)) wNil)) (gTup' 2 (gCons' (gN 2) (gCons' (gN 3) gNil'))) wYes (w2 inV' (wName 2) (wName 3)) [2, 3]) wNil))) wNever wNext)
    (wRet (wName 0)))))))
theorem ix_o0 (n : Int) (ps : List Pr) : ixD (ordD n ps) (.int 0) = some (.int n) := ix_0 _ _
theorem ix_o1 (n : Int) (ps : List Pr) : ixD (ordD n ps) (.int 1) = some (prsD ps) := ix_1 _ _ _
theorem small_sz {n : Nat} (h : n < 1000) : n ≤ sizeLine := by rw [sizeLine_eq]; omega
theorem enumD_enc {α : Type} (e : α → D) : ∀ (i : Nat) (xs : List α), enumD i (xs.map e) = (xs.zipIdx i).map fun p => pairD (.int (p.2 : Nat)) (e p.1)
  | _, [] => rfl
  | i, x :: r => by rw [List.map_cons, enumD, List.zipIdx_cons, List.map_cons, enumD_enc e (i + 1) r]
theorem ifF {b : Bool} {A B : Prop} (h : b = false) (x : B) : if b = true then A else B := by subst h; rw [if_neg Bool.false_ne_true]; exact x
theorem ifT {b : Bool} {A B : Prop} (h : b = true) (x : A) : if b = true then A else B := by subst h; rw [if_pos rfl]; exact x
theorem zipIdx_get {α : Type} {xs : List α} {p : α × Nat} (h : p ∈ xs.zipIdx 0) : xs[p.2]? = some p.1 := by
  obtain ⟨h1, h2, h3⟩ := List.mem_zipIdx h
  rw [List.getElem?_eq_getElem (by omega), h3]
  simp
theorem ok_ws_need_order : ∀ as Q, sp_need_order as Q → ws_need_order (env0 4 as) (endsOf Q) := by
  rintro as Q ⟨n, ps, rfl, o, q⟩
  -- the form
  refine ⟨_, rfl, _, rfl, _, rfl, ?_⟩
  refine ⟨_, rfl, .int 2, rfl, _, ne_int 2 2, _, rfl, ?_⟩
  refine ifF (by decide) ?_
  -- the kinds
  refine ⟨_, rfl, .int n, ix_o0 _ _, .int n, 1, some 12, rfl, _, rfl, ?_⟩
  have hw : isWhole (.int n) 1 (some 12) = true := by have := o.lo; have := o.hi; simp [isWhole]; omega
  refine ifF (by rw [hw]; rfl) ?_
  -- the pairs
  refine ⟨_, rfl, prsD ps, ix_o1 _ _, _, rfl, _, rfl, ?_⟩
  refine ⟨_, rfl, prsD ps, ix_o1 _ _, ps.map prD, rfl, ?_⟩
  refine lc_enc prD (fun p => .bool (isPair n p.1 p.2)) ps (fun p hp => ⟨_, rfl, fun R r => ?_⟩) (small_sz o.sm) ?_
  · exact ⟨_, rfl, .int n, ix_o0 _ _, _, rfl, n, p.1, p.2, rfl, r⟩
  have ha : ps.all (fun p => isPair n p.1 p.2) = true := List.all_eq_true.mpr o.pr
  refine ⟨_, all_enc (fun p : Pr => isPair n p.1 p.2) ps, _, rfl, ?_⟩
  refine ifF (by rw [ha]; rfl) ?_
  -- ascending
  refine ⟨_, rfl, prsD ps, ix_o1 _ _, .inl ⟨ps, rfl, small_sz o.sm, _, rfl, ?_⟩⟩
  refine ifF (by rw [o.asc]; rfl) ?_
  -- no ring
  refine ⟨_, rfl, n, ps, rfl, by have := o.hi; omega, o.sm, fun kss hk => ?_⟩
  refine ⟨enumD 0 (kss.map fun ks => .dict (esD ks)), rfl, ?_⟩
  rw [enumD_enc]
  refine lc_enc _ (fun p => .bool (decide ((p.2 : Int) ∈ p.1))) _ (fun p hp => ⟨_, rfl, fun R r => ?_⟩) (by rw [List.length_zipIdx, hk.1]; have := o.hi; exact small_sz (by omega)) ?_
  · exact ⟨_, rfl, _, rfl, _, in_esD p.1 p.2, r⟩
  have hn : (kss.zipIdx 0).any (fun p => decide ((p.2 : Int) ∈ p.1)) = false := by
    rw [List.any_eq_false]
    intro p hp z
    have g := zipIdx_get hp
    exact o.no _ ((hk.2 p.2 p.1 g _).mp (by simpa using z))
  refine ⟨_, any_enc (fun p : List Int × Nat => decide ((p.2 : Int) ∈ p.1)) _, _, rfl, ?_⟩
  refine ifF hn ?_
  exact ⟨_, rfl, _, rfl, q⟩
end PF
namespace PF
open PySem DL
/-! ### need_kind, is_within -/
def sp_need_kind : DL.Spec := fun as Q => ∃ (n : Nat) (ps : List Pr) (k : Nat), as = [.fz (ordD n ps), .fz (.int (k : Nat))] ∧ Ord n ps ∧ k < n ∧ Q .none
theorem len_need_kind : ∀ as Q, sp_need_kind as Q → as.length = 2 := by rintro as Q ⟨n, ps, k, rfl, _⟩; rfl
def ws_need_kind : WS := (wIfS (wNot (wTest (wCall sp_is_whole (wCons (wName 1) (wCons (wC (.fz (.int 0))) (wCons (w2 subD (wIx (wCall sp_need_order (wCons (wName 0) wNil)) (wC (.fz (.int 0)))) (wC (.fz (.int 1)))) wNil)))))) wNever wNext)
theorem ok_ws_need_kind : ∀ as Q, sp_need_kind as Q → ws_need_kind (env0 2 as) (endsOf Q) := by
  rintro as Q ⟨n, ps, k, rfl, o, hk, q⟩
  refine ⟨_, rfl, _, rfl, n, ps, rfl, o, .int n, ix_o0 _ _, .int (n - 1), rfl, .int k, 0, some (n - 1), rfl, _, rfl, ?_⟩
  have hw : isWhole (.int k) 0 (some ((n : Int) - 1)) = true := by simp [isWhole]; omega
  exact ifF (by rw [hw]; rfl) q
def sp_is_within : DL.Spec := fun as Q => ∃ (n : Nat) (ps : List Pr) (i j : Nat), as = [.fz (ordD n ps), .fz (.int (i : Nat)), .fz (.int (j : Nat))] ∧ Ord n ps ∧ i < n ∧ j < n ∧ ∀ b : Bool, (b = true ↔ Rch ps i j) → Q (.bool b)
theorem len_is_within : ∀ as Q, sp_is_within as Q → as.length = 3 := by rintro as Q ⟨n, ps, i, j, rfl, _⟩; rfl
def ws_is_within : WS := (wSeq (wDrop (wCall sp_need_kind (wCons (wName 0) (wCons (wName 1) wNil))))
    (wSeq (wDrop (wCall sp_need_kind (wCons (wName 0) (wCons (wName 2) wNil))))
    (wRet (w2 inV' (wName 2) (wIx (wCall sp_above_of (wCons (wName 0) wNil)) (wName 1))))))
theorem ok_ws_is_within : ∀ as Q, sp_is_within as Q → ws_is_within (env0 3 as) (endsOf Q) := by
  rintro as Q ⟨n, ps, i, j, rfl, o, hi, hj, q⟩
  refine ⟨_, rfl, _, rfl, n, ps, i, rfl, o, hi, ?_⟩
  refine ⟨_, rfl, _, rfl, n, ps, j, rfl, o, hj, ?_⟩
  refine ⟨_, rfl, _, rfl, n, ps, rfl, by have := o.hi; omega, o.sm, fun kss hk => ?_⟩
  have hl : i < kss.length := by rw [hk.1]; exact hi
  have g : kss[i]? = some kss[i] := List.getElem?_eq_getElem hl
  refine ⟨_, rfl, .dict (esD kss[i]), ?_, .bool (decide ((j : Int) ∈ kss[i])), in_esD _ _, .bool (decide ((j : Int) ∈ kss[i])), rfl, q _ ?_⟩
  · exact L2.atI_nat (by rw [List.getElem?_map, g]; rfl)
  · rw [decide_eq_true_eq]; exact hk.2 i _ g _
/-! ### boxes -/
def boxD (xs : List Int) : D := .tuple (xs.map .int)
def okSide (x : Int) : Bool := decide (1 ≤ x) && decide (x ≤ 1000000)
def sp_is_box : DL.Spec := fun as Q => ∃ xs : List Int, as = [.fz (boxD xs)] ∧ 1 ≤ xs.length ∧ xs.length ≤ 3 ∧ Q (.bool (xs.all okSide))
theorem len_is_box : ∀ as Q, sp_is_box as Q → as.length = 1 := by rintro as Q ⟨xs, rfl, _⟩; rfl
def ws_is_box : WS := (wSeq (wIfS (wOr (wNot (wTest (wIsi DL.isTuple (wName 0)))) (wNot (wTest (wChain leD leD (wC (.fz (.int 1))) (wB lenD (wCons (wName 0) wNil)) (wC (.fz (.int 3))))))) (wRet (wC (.fz (.bool false)))) wNext)
    (wRet (wB allD (wCons (wLc (wSrc (wName 0)) (gN 1) wYes (wCall sp_is_whole (wCons (wName 1) (wCons (wC (.fz (.int 1))) (wCons (wC (.fz (.int 1000000))) wNil)))) [1]) wNil))))
theorem chain_ok {lo hi l : Int} {env : Ev} {P : Dv → Prop} (h1 : lo ≤ l) (h2 : l ≤ hi) {wb : WE} (hb : ∀ R : Dv → Prop, R (.fz (.int l)) → wb env R) (p : P (.fz (.bool true))) : wChain leD leD (wC (.fz (.int lo))) wb (wC (.fz (.int hi))) env P := by
  refine hb _ ⟨true, ?_, ?_⟩
  · show leD (.int lo) (.int l) = _
    simp [leD, cmpI, h1]
  · rw [if_pos rfl]
    refine ⟨.bool true, ?_, p⟩
    show leD (.int l) (.int hi) = _
    simp [leD, cmpI, h2]
theorem ok_ws_is_box : ∀ as Q, sp_is_box as Q → ws_is_box (env0 2 as) (endsOf Q) := by
  rintro as Q ⟨xs, rfl, h1, h3, q⟩
  refine ⟨_, rfl, _, rfl, _, rfl, ?_⟩
  refine chain_ok (l := xs.length) (by omega) (by omega) (fun R r => ⟨_, rfl, .int (xs.map PyData.int).length, rfl, by rw [List.length_map]; exact r⟩) ⟨_, rfl, ?_⟩
  refine ifF rfl ?_
  refine ⟨_, rfl, xs.map .int, rfl, ?_⟩
  refine lc_enc PyData.int (fun x => .bool (okSide x)) xs (fun x hx => ⟨_, rfl, fun R r => ?_⟩) (small_sz (by omega)) ?_
  · exact ⟨_, rfl, .int x, 1, some 1000000, rfl, r⟩
  exact ⟨_, all_enc okSide xs, _, rfl, q⟩
structure Bxs (bs : List (List Int)) : Prop where
  lo : 1 ≤ bs.length
  hi : bs.length ≤ 12
  wd : ∃ w, 1 ≤ w ∧ w ≤ 3 ∧ ∀ b ∈ bs, b.length = w
  ok : ∀ b ∈ bs, b.all okSide = true
def bxsD (bs : List (List Int)) : D := .tuple (bs.map boxD)
def sp_need_boxes : DL.Spec := fun as Q => ∃ bs : List (List Int), as = [.fz (bxsD bs)] ∧ Bxs bs ∧ Q (bxsD bs)
theorem len_need_boxes : ∀ as Q, sp_need_boxes as Q → as.length = 1 := by rintro as Q ⟨xs, rfl, _⟩; rfl
def wn_if : WS := (wIfS (wOr (wNot (wTest (wCall sp_is_box (wCons (wName 2) wNil)))) (wTest (w2 neD (wB lenD (wCons (wName 2) wNil)) (wB lenD (wCons (wIx (wName 0) (wC (.fz (.int 0)))) wNil))))) wNever wNext)
def ws_need_boxes : WS := (wSeq (wIfS (wOr (wNot (wTest (wIsi DL.isTuple (wName 0)))) (wNot (wTest (wChain leD leD (wC (.fz (.int 1))) (wB lenD (wCons (wName 0) wNil)) (wC (.fz (.int 12))))))) wNever wNext)
    (wSeq (wForI (wEnum (wCons (wName 0) wNil)) (gTup' 2 (gCons' (gN 1) (gCons' (gN 2) gNil'))) (wIfS (wOr (wNot (wTest (wCall sp_is_box (wCons (wName 2) wNil)))) (wTest (w2 neD (wB lenD (wCons (wName 2) wNil)) (wB lenD (wCons (wIx (wName 0) (wC (.fz (.int 0)))) wNil))))) wNever wNext))
    (wRet (wName 0))))
theorem boxes_for {b0 : List Int} {bs : List (List Int)} {w : Nat} (h0 : b0.length = w) (hw1 : 1 ≤ w) (hw3 : w ≤ 3) {De : DEnds} (fin : ∀ x y, De.nx [.fz (bxsD (b0 :: bs)), x, y]) : ∀ (rs : List (List Int)) (i : Nat) (x y : Sl), (∀ b ∈ rs, b.length = w ∧ b.all okSide = true) →
    wFor (gTup' 2 (gCons' (gN 1) (gCons' (gN 2) gNil'))) wn_if (enumD i (rs.map boxD)) [.fz (bxsD (b0 :: bs)), x, y] De
  | [], i, x, y, _ => fin x y
  | r :: rs, i, x, y, h => by
    obtain ⟨h1, h2⟩ := h r (List.mem_cons_self ..)
    refine ⟨_, rfl, ?_⟩
    refine ⟨_, rfl, r, rfl, by omega, by omega, _, rfl, ?_⟩
    refine ifF (by rw [h2]; rfl) ?_
    refine ⟨_, rfl, .int (r.map PyData.int).length, rfl, _, rfl, boxD b0, ix_0 _ _, .int (b0.map PyData.int).length, rfl, .bool false, ?_, _, rfl, ?_⟩
    · have e := ne_int ((r.map PyData.int).length : Nat) ((b0.map PyData.int).length : Nat)
      rw [List.length_map, List.length_map, h1, h0] at e
      simpa [h1, h0, mk_int, val_fz] using e
    · exact ifF rfl (boxes_for h0 hw1 hw3 fin rs (i + 1) _ _ fun b hb => h b (List.mem_cons_of_mem _ hb))
theorem ok_ws_need_boxes : ∀ as Q, sp_need_boxes as Q → ws_need_boxes (env0 3 as) (endsOf Q) := by
  rintro as Q ⟨bs, rfl, B, q⟩
  obtain ⟨w, w1, w3, hw⟩ := B.wd
  have l1 := B.lo
  have l2 := B.hi
  refine ⟨_, rfl, _, rfl, _, rfl, ?_⟩
  refine chain_ok (l := bs.length) (by omega) (by omega) (fun R r => ⟨_, rfl, .int (bs.map boxD).length, rfl, by rw [List.length_map]; exact r⟩) ⟨_, rfl, ?_⟩
  refine ifF rfl ?_
  cases bs with
  | nil => simp at l1
  | cons b0 bs =>
    refine ⟨_, rfl, enumD 0 ((b0 :: bs).map boxD), rfl, ?_⟩
    refine boxes_for (hw b0 (List.mem_cons_self ..)) w1 w3 ?_ (b0 :: bs) 0 .no .no fun b hb => ⟨hw b hb, B.ok b hb⟩
    exact fun x y => ⟨_, rfl, _, rfl, q⟩
/-! ### need_turned -/
def sp_need_turned : DL.Spec := fun as Q => ∃ b : Bool, as = [.fz (.bool b)] ∧ Q .none
theorem len_need_turned : ∀ as Q, sp_need_turned as Q → as.length = 1 := by rintro as Q ⟨xs, rfl, _⟩; rfl
def ws_need_turned : WS := (wIfS (wNot (wTest (wIsi DL.isBool (wName 0)))) wNever wNext)
theorem ok_ws_need_turned : ∀ as Q, sp_need_turned as Q → ws_need_turned (env0 1 as) (endsOf Q) := by
  rintro as Q ⟨b, rfl, q⟩
  exact ⟨_, rfl, _, rfl, _, rfl, ifF rfl q⟩
/-! ### does_go -/
def srt (xs : List Int) : List Int := xs.mergeSort fun a b => decide (a ≤ b)
def goes (xs ys : List Int) (t : Bool) : Bool := if t then ((srt xs).zip (srt ys)).all (fun p => decide (p.1 < p.2)) else (xs.zip ys).all fun p => decide (p.1 < p.2)
theorem alike_int (i j : Int) : PySem.W.alike (.int i) (.int j) = true := by simp [PySem.W.alike]
theorem sortOk_ints {xs : List Int} (h : xs.length < 1000) : sortOk (xs.map .int) = true := by
  have h1 : PyData.canLayAll0 (xs.map .int) = true := by
    induction xs with
    | nil => rfl
    | cons n r ih => rw [List.map_cons, PyData.canLayAll0, ih (by simp at h; omega)]; rfl
  have h2 := small_sz h
  simp only [sortOk, alikeB, h1, Bool.and_true, Bool.and_eq_true, Bool.or_eq_true, List.all_map, List.all_eq_true, Function.comp, List.length_map, decide_eq_true_eq]
  exact ⟨⟨⟨fun a _ b _ => alike_int a b, .inl (.inr fun _ _ => rfl)⟩, h2⟩, fun _ _ => by simp [PyData.depth]⟩
theorem sortD_ints (xs : List Int) : sortD (xs.map .int) = (srt xs).map .int := by
  unfold sortD srt
  rw [List.map_mergeSort]
  intro a _ b _
  have := congrFun (congrFun (PySem.W.dataLe_int (fun i : Int => i)) a) b
  exact this.symm
theorem sorted_box {xs : List Int} (h : xs.length < 1000) : sortedD [boxD xs] = some (.list ((srt xs).map .int)) := by
  show (if sortOk (xs.map .int) = true then some (PyData.list (sortD (xs.map .int))) else none) = _
  rw [if_pos (sortOk_ints h), sortD_ints]
def sp_does_go : DL.Spec := fun as Q => ∃ (xs ys : List Int) (t : Bool), as = [.fz (boxD xs), .fz (boxD ys), .fz (.bool t)] ∧ xs.length < 1000 ∧ ys.length < 1000 ∧ Q (.bool (goes xs ys t))
theorem len_does_go : ∀ as Q, sp_does_go as Q → as.length = 3 := by rintro as Q ⟨xs, ys, t, rfl, _⟩; rfl
def ws_does_go : WS := (wSeq (wIfS (wTest (wName 2)) (wPar2 .fz 0 .fz 1 (wB tupleD (wCons (wB sortedD (wCons (wName 0) wNil)) wNil)) (wB tupleD (wCons (wB sortedD (wCons (wName 1) wNil)) wNil))) wNext)
    (wRet (wB allD (wCons (wLc (wZip (wCons (wName 0) (wCons (wName 1) wNil))) (gTup' 2 (gCons' (gN 3) (gCons' (gN 4) gNil'))) wYes (w2 ltD (wName 3) (wName 4)) [3, 4]) wNil))))
theorem go_end {xs ys : List Int} {s2 : Sl} {Q : D → Prop} (h : xs.length < 1000) (q : Q (.bool ((xs.zip ys).all fun p => decide (p.1 < p.2)))) :
    (wRet (wB allD (wCons (wLc (wZip (wCons (wName 0) (wCons (wName 1) wNil))) (gTup' 2 (gCons' (gN 3) (gCons' (gN 4) gNil'))) wYes (w2 ltD (wName 3) (wName 4)) [3, 4]) wNil))) [.fz (boxD xs), .fz (boxD ys), s2, .no, .no] (endsOf Q) := by
  refine ⟨_, rfl, _, rfl, List.zipWith pairD (xs.map .int) (ys.map .int), rfl, ?_⟩
  have e : List.zipWith pairD (xs.map .int) (ys.map .int) = (xs.zip ys).map fun p => pairD (.int p.1) (.int p.2) := by rw [List.zipWith_map, List.zip, List.map_zipWith]
  rw [e]
  refine lc_enc _ (fun p : Int × Int => .bool (decide (p.1 < p.2))) _ (fun p hp => ⟨_, rfl, fun R r => ⟨_, rfl, _, rfl, _, rfl, r⟩⟩) (by rw [List.length_zip]; exact small_sz (by omega)) ?_
  exact ⟨_, all_enc (fun p : Int × Int => decide (p.1 < p.2)) _, _, rfl, q⟩
theorem srt_len (xs : List Int) : (srt xs).length = xs.length := List.length_mergeSort _
theorem ok_ws_does_go : ∀ as Q, sp_does_go as Q → ws_does_go (env0 5 as) (endsOf Q) := by
  rintro as Q ⟨xs, ys, t, rfl, h1, h2, q⟩
  refine ⟨_, rfl, t, rfl, ?_⟩
  cases t with
  | false => exact ifF rfl (go_end h1 q)
  | true =>
    refine ifT rfl ⟨_, rfl, _, sorted_box h1, .tuple ((srt xs).map .int), rfl, _, rfl, _, sorted_box h2, .tuple ((srt ys).map .int), rfl, _, rfl, _, rfl, ?_⟩
    exact go_end (by rw [srt_len]; exact h1) q
end PF
namespace PF
open PySem DL
/-! ### goes_in, order_of -/
def goB (bs : List (List Int)) (t : Bool) (i j : Nat) : Bool := goes (bs.getD i []) (bs.getD j []) t
def sp_goes_in : DL.Spec := fun as Q => ∃ (bs : List (List Int)) (i j : Nat) (t : Bool), as = [.fz (bxsD bs), .fz (.int (i : Nat)), .fz (.int (j : Nat)), .fz (.bool t)] ∧ Bxs bs ∧ i < bs.length ∧ j < bs.length ∧ Q (.bool (goB bs t i j))
theorem len_goes_in : ∀ as Q, sp_goes_in as Q → as.length = 4 := by rintro as Q ⟨bs, i, j, t, rfl, _⟩; rfl
def ws_goes_in : WS := (wSeq (wDrop (wCall sp_need_boxes (wCons (wName 0) wNil)))
    (wSeq (wIfS (wOr (wNot (wTest (wCall sp_is_whole (wCons (wName 1) (wCons (wC (.fz (.int 0))) (wCons (w2 subD (wB lenD (wCons (wName 0) wNil)) (wC (.fz (.int 1)))) wNil)))))) (wNot (wTest (wCall sp_is_whole (wCons (wName 2) (wCons (wC (.fz (.int 0))) (wCons (w2 subD (wB lenD (wCons (wName 0) wNil)) (wC (.fz (.int 1)))) wNil))))))) wNever wNext)
    (wSeq (wDrop (wCall sp_need_turned (wCons (wName 3) wNil)))
    (wRet (wCall sp_does_go (wCons (wIx (wName 0) (wName 1)) (wCons (wIx (wName 0) (wName 2)) (wCons (wName 3) wNil))))))))
theorem ix_box {bs : List (List Int)} {i : Nat} (h : i < bs.length) : ixD (bxsD bs) (.int (i : Nat)) = some (boxD (bs.getD i [])) := by
  refine L2.atI_nat ?_
  rw [List.getElem?_map, List.getD_eq_getElem?_getD, List.getElem?_eq_getElem h]; rfl
theorem Bxs.small {bs : List (List Int)} (B : Bxs bs) (i : Nat) : (bs.getD i []).length < 1000 := by
  obtain ⟨w, w1, w3, hw⟩ := B.wd
  by_cases h : i < bs.length
  · rw [List.getD_eq_getElem?_getD, List.getElem?_eq_getElem h]
    show bs[i].length < 1000
    rw [hw _ (List.getElem_mem h)]; omega
  · rw [List.getD_eq_getElem?_getD, List.getElem?_eq_none (by omega)]; decide
theorem whole_ix {i n : Nat} (h : i < n) : isWhole (.int (i : Nat)) 0 (some ((n : Int) - 1)) = true := by simp [isWhole]; omega
theorem ok_ws_goes_in : ∀ as Q, sp_goes_in as Q → ws_goes_in (env0 4 as) (endsOf Q) := by
  rintro as Q ⟨bs, i, j, t, rfl, B, hi, hj, q⟩
  have el : (bs.map boxD).length = bs.length := List.length_map ..
  refine ⟨_, rfl, bs, rfl, B, ?_⟩
  refine ⟨_, rfl, _, rfl, .int (bs.map boxD).length, rfl, .int ((bs.map boxD).length - 1), rfl, .int i, 0, some ((bs.map boxD).length - 1), rfl, _, rfl, ?_⟩
  refine ifF (by rw [el, whole_ix hi]; rfl) ?_
  refine ⟨_, rfl, _, rfl, .int (bs.map boxD).length, rfl, .int ((bs.map boxD).length - 1), rfl, .int j, 0, some ((bs.map boxD).length - 1), rfl, _, rfl, ?_⟩
  refine ifF (by rw [el, whole_ix hj]; rfl) ?_
  refine ⟨_, rfl, t, rfl, ?_⟩
  exact ⟨_, rfl, _, rfl, _, ix_box hi, _, rfl, _, rfl, _, ix_box hj, _, rfl, _, _, t, rfl, B.small i, B.small j, _, rfl, q⟩
/-- a comprehension with two fors -/
theorem lcI_enc {α : Type} {gd : GD} {wt : WT} {we : WE} {env : Ev} {P : List D → Prop} (e g : α → D) (b : α → Bool) : ∀ (ps : List α) (acc : List D), (∀ p ∈ ps, ∃ env', gd (e p) env = some env' ∧ (∀ R : Bool → Prop, R (b p) → wt env' R) ∧ (b p = true → ∀ R : Dv → Prop, R (.fz (g p)) → we env' R)) → acc.length + ps.length ≤ sizeLine → P (acc ++ (ps.filter b).map g) → wLcI gd wt we env P (ps.map e) acc
  | [], acc, _, _, p => by simpa [wLcI] using p
  | d :: r, acc, h, hl, p => by
    obtain ⟨env', h1, h2, h3⟩ := h d (List.mem_cons_self ..)
    refine ⟨env', h1, h2 _ ?_⟩
    rw [List.length_cons] at hl
    by_cases hb : b d = true
    · rw [if_pos hb]
      refine h3 hb _ ⟨g d, rfl, by omega, lcI_enc e g b r _ (fun e he => h e (List.mem_cons_of_mem _ he)) (by rw [List.length_append, List.length_singleton]; omega) ?_⟩
      rw [List.filter_cons_of_pos hb, List.map_cons] at p
      rw [List.append_assoc]; exact p
    · rw [if_neg hb]
      refine lcI_enc e g b r _ (fun e he => h e (List.mem_cons_of_mem _ he)) (by omega) ?_
      rw [List.filter_cons_of_neg hb] at p
      exact p
theorem lc2_enc {α β : Type} {gd gd1 : GD} {wi1 : WI} {wt1 : WT} {we : WE} {vs1 : List Nat} {env : Ev} {P : Dv → Prop} (e : α → D) (e1 : β → D) (qs : List β) (g : α → β → D) (b : α → β → Bool) : ∀ (ps : List α) (acc : List D),
    (∀ p ∈ ps, ∃ env', gd (e p) env = some env' ∧ (∀ R : List D → Prop, R (qs.map e1) → wi1 env' R) ∧ ∀ q ∈ qs, ∃ env2, gd1 (e1 q) (wipeE env' vs1) = some env2 ∧ (∀ R : Bool → Prop, R (b p q) → wt1 env2 R) ∧ (b p q = true → ∀ R : Dv → Prop, R (.fz (g p q)) → we env2 R)) →
    acc.length + ps.length * qs.length ≤ sizeLine → P (.nw (.list (acc ++ ps.flatMap fun p => (qs.filter (b p)).map (g p)))) → wLc2L gd wYes wi1 gd1 wt1 we vs1 env P (ps.map e) acc
  | [], acc, _, _, p => by simpa [wLc2L] using p
  | d :: r, acc, h, hl, p => by
    obtain ⟨env', h1, h2, h3⟩ := h d (List.mem_cons_self ..)
    rw [List.length_cons, Nat.add_mul, Nat.one_mul] at hl
    refine ⟨env', h1, ?_⟩
    simp only [wYes, if_true]
    refine h2 _ (lcI_enc e1 (g d) (b d) qs acc h3 (by omega) ?_)
    refine lc2_enc e e1 qs g b r _ (fun p hp => h p (List.mem_cons_of_mem _ hp)) ?_ ?_
    · have := List.length_filter_le (b d) qs
      rw [List.length_append, List.length_map]; omega
    · rw [List.flatMap_cons] at p
      rw [List.append_assoc]; exact p
def prsOf (bs : List (List Int)) (t : Bool) : List Pr := (List.range bs.length).flatMap fun i => ((List.range bs.length).filter (goB bs t i)).map fun (j : Nat) => (((i : Nat) : Int), ((j : Nat) : Int))
def sp_order_of : DL.Spec := fun as Q => ∃ (bs : List (List Int)) (t : Bool), as = [.fz (bxsD bs), .fz (.bool t)] ∧ Bxs bs ∧ Q (ordD bs.length (prsOf bs t))
theorem len_order_of : ∀ as Q, sp_order_of as Q → as.length = 2 := by rintro as Q ⟨bs, t, rfl, _⟩; rfl
def ws_order_of : WS := (wSeq (wDrop (wCall sp_need_boxes (wCons (wName 0) wNil)))
    (wSeq (wDrop (wCall sp_need_turned (wCons (wName 1) wNil)))
    (wSeq (wSet .fz 2 (wLrng rng1 (wCons (wB lenD (wCons (wName 0) wNil)) wNil)))
    (wSeq (wSet .fz 3 (wLc2 (wSrc (wName 2)) (gN 4) wYes (wSrc (wName 2)) (gN 5) (wTest (wCall sp_does_go (wCons (wIx (wName 0) (wName 4)) (wCons (wIx (wName 0) (wName 5)) (wCons (wName 1) wNil))))) (wTup (wCons (wName 4) (wCons (wName 5) wNil))) [4, 5] [5]))
    (wRet (wTup (wCons (wB lenD (wCons (wName 0) wNil)) (wCons (wB tupleD (wCons (wName 3) wNil)) wNil))))))))
theorem ok_ws_order_of : ∀ as Q, sp_order_of as Q → ws_order_of (env0 6 as) (endsOf Q) := by
  rintro as Q ⟨bs, t, rfl, B, q⟩
  have el : (bs.map boxD).length = bs.length := List.length_map ..
  have l2 := B.hi
  refine ⟨_, rfl, bs, rfl, B, ?_⟩
  refine ⟨_, rfl, t, rfl, ?_⟩
  refine ⟨_, rfl, .int (bs.map boxD).length, rfl, (List.range bs.length).map fun i => .int (i : Nat), ?_, by rw [List.length_map, List.length_range]; exact Nat.le_trans l2 (by decide), _, rfl, ?_⟩
  · have := rngV (n := bs.length) (by omega)
    rw [el]
    rw [List.range_eq_range']
    exact this
  refine ⟨_, rfl, (List.range bs.length).map fun i => .int (i : Nat), rfl, ?_⟩
  refine lc2_enc (fun i : Nat => .int (i : Nat)) (fun i : Nat => .int (i : Nat)) (List.range bs.length) (fun i j => prD (i, j)) (goB bs t) (List.range bs.length) [] (fun i hi => ⟨_, rfl, fun R r => ⟨_, rfl, _, rfl, r⟩, fun j hj => ⟨_, rfl, fun R r => ?_, fun _ R r => ?_⟩⟩) ?_ ?_
  · have hi' := List.mem_range.mp hi
    have hj' := List.mem_range.mp hj
    exact ⟨_, rfl, _, rfl, _, ix_box hi', _, rfl, _, rfl, _, ix_box hj', _, rfl, _, _, t, rfl, B.small i, B.small j, _, rfl, r⟩
  · exact ⟨_, rfl, _, rfl, _, rfl, (show 2 ≤ sizeLine by decide), r⟩
  · rw [List.length_range]
    have : bs.length * bs.length ≤ 12 * 12 := Nat.mul_le_mul l2 l2
    rw [sizeLine_eq]; simp; omega
  · refine ⟨_, rfl, ?_⟩
    refine ⟨_, rfl, .int (bs.map boxD).length, rfl, _, rfl, .tuple _, rfl, _, rfl, (show 2 ≤ sizeLine by decide), _, rfl, ?_⟩
    rw [el]
    have e : (List.range bs.length).flatMap (fun p => ((List.range bs.length).filter (goB bs t p)).map ((fun i j : Nat => prD (i, j)) p)) = (prsOf bs t).map prD := by
      unfold prsOf
      rw [List.map_flatMap]
      congr 1; funext i
      rw [List.map_map]; rfl
    show Q (.tuple [.int bs.length, .tuple ([] ++ _)])
    rw [List.nil_append, e]
    exact q
end PF
namespace DL
open PySem PF
/-! ### loops by an invariant -/
theorem wFor_inv {g : GD} {f : WS} {De : DEnds} (I : Ev → Prop) (fin : ∀ e, I e → De.nx e) : ∀ (ds : List D), (∀ d ∈ ds, ∀ (env : Ev) (De' : DEnds), I env → De'.rt = De.rt → (∀ e, I e → De'.nx e) → (∀ e, I e → De'.ct e) → ∃ env', g d env = some env' ∧ f env' De') → ∀ env, I env → wFor g f ds env De
  | [], _, env, h => fin env h
  | d :: r, st, env, h => st d (List.mem_cons_self ..) env _ h rfl (fun e he => wFor_inv I fin r (fun d hd => st d (List.mem_cons_of_mem _ hd)) e he) (fun e he => wFor_inv I fin r (fun d hd => st d (List.mem_cons_of_mem _ hd)) e he)
theorem wFor_rng {g : GD} {f : WS} {De : DEnds} {n : Nat} (I : Nat → Ev → Prop) (fin : ∀ e, I n e → De.nx e) (st : ∀ i, i < n → ∀ (env : Ev) (De' : DEnds), I i env → De'.rt = De.rt → De'.bk = De.nx → (∀ e, I (i + 1) e → De'.nx e) → (∀ e, I (i + 1) e → De'.ct e) → ∃ env', g (.int (i : Nat)) env = some env' ∧ f env' De') :
    ∀ (r k : Nat), k + r = n → ∀ env, I k env → wFor g f ((List.range' k r).map fun i => .int (i : Nat)) env De
  | 0, k, e, env, h => by
    have e' : k = n := by omega
    subst e'
    exact fin env h
  | r + 1, k, e, env, h => by
    rw [List.range'_succ, List.map_cons]
    exact st k (by omega) env _ h rfl rfl (fun e' he => wFor_rng I fin st r (k + 1) (by omega) e' he) (fun e' he => wFor_rng I fin st r (k + 1) (by omega) e' he)
/-- over a list of coded things; the invariant knows how many are done -/
theorem wFor_enc {α : Type} {g : GD} {f : WS} {De : DEnds} (c : α → D) (xs : List α) (I : Nat → Ev → Prop) (fin : ∀ e, I xs.length e → De.nx e) (st : ∀ i x, xs[i]? = some x → ∀ (env : Ev) (De' : DEnds), I i env → De'.rt = De.rt → De'.bk = De.nx → (∀ e, I (i + 1) e → De'.nx e) → (∀ e, I (i + 1) e → De'.ct e) → ∃ env', g (c x) env = some env' ∧ f env' De') :
    ∀ (ys : List α) (k : Nat), xs.drop k = ys → k ≤ xs.length → ∀ env, I k env → wFor g f (ys.map c) env De
  | [], k, e, hk, env, h => by
    have e' : k = xs.length := by have := List.drop_eq_nil_iff.mp e; omega
    subst e'
    exact fin env h
  | y :: ys, k, e, hk, env, h => by
    have hlt : k < xs.length := by
      rcases Nat.lt_or_ge k xs.length with q | q
      · exact q
      · rw [List.drop_eq_nil_iff.mpr q] at e; cases e
    rw [List.drop_eq_getElem_cons hlt] at e
    injection e with e1 e2
    refine st k y (by rw [List.getElem?_eq_getElem hlt, e1]) env _ h rfl rfl (fun e' he => ?_) (fun e' he => ?_)
    · exact wFor_enc c xs I fin st ys (k + 1) e2 hlt e' he
    · exact wFor_enc c xs I fin st ys (k + 1) e2 hlt e' he
/-- a comprehension whose items are drawn -/
theorem lc_any {α : Type} {gd : GD} {we : WE} {env : Ev} {P : Dv → Prop} (c : α → D) (good : α → Prop) : ∀ (ds acc : List D), (∀ d ∈ ds, ∃ env', gd d env = some env' ∧ ∀ R : Dv → Prop, (∀ x, good x → R (.fz (c x))) → we env' R) → acc.length + ds.length ≤ sizeLine →
    (∀ xs : List α, xs.length = ds.length → (∀ x ∈ xs, good x) → P (.nw (.list (acc ++ xs.map c)))) → wLcL gd wYes we env P ds acc
  | [], acc, _, _, p => by simpa [wLcL] using p [] rfl (fun _ z => nomatch z)
  | d :: r, acc, h, hl, p => by
    obtain ⟨env', h1, h2⟩ := h d (List.mem_cons_self ..)
    rw [List.length_cons] at hl
    refine ⟨env', h1, ?_⟩
    simp only [wYes, if_true]
    refine h2 _ fun x hx => ⟨c x, rfl, by omega, ?_⟩
    refine lc_any c good r _ (fun e he => h e (List.mem_cons_of_mem _ he)) (by rw [List.length_append, List.length_singleton]; omega) fun xs e q => ?_
    have := p (x :: xs) (by rw [List.length_cons, List.length_cons, e]) (fun y hy => (List.mem_cons.mp hy).elim (fun z => z ▸ hx) (q y))
    rw [List.append_assoc]; exact this
/-! ### data that can be shown -/
structure Rok (h n : Nat) (d : D) : Prop where
  lay : d.canLay0 = true
  sh : d.showable = true
  dp : d.depth ≤ h
  ln : d.shown.length ≤ n
theorem Rok.mono {h n h' n' : Nat} {d : D} (r : Rok h n d) (a : h ≤ h') (b : n ≤ n') : Rok h' n' d := ⟨r.lay, r.sh, Nat.le_trans r.dp a, Nat.le_trans r.ln b⟩
theorem rok_none : Rok 0 13 .none := ⟨rfl, rfl, by simp [PyData.depth], by decide +kernel⟩
theorem rok_bool (b : Bool) : Rok 0 13 (.bool b) := ⟨rfl, rfl, by simp [PyData.depth], by cases b <;> decide +kernel⟩
theorem rok_int {i : Int} (h1 : -999999999999 ≤ i) (h2 : i ≤ 999999999999) : Rok 0 13 (.int i) := by
  refine ⟨rfl, ?_, by simp [PyData.depth], PyData.shown_int_le2 h1 h2⟩
  simp only [PyData.showable, decide_eq_true_eq]
  by_cases z : i.natAbs = 0
  · rw [z]; decide
  · refine (Nat.log2_lt z).mpr (Nat.lt_of_lt_of_le (show i.natAbs < 2 ^ 40 by omega) (Nat.pow_le_pow_right (by decide) (by decide)))
theorem rokAll {h n : Nat} : ∀ {ds : List D}, (∀ d ∈ ds, Rok h n d) → PyData.canLayAll0 ds = true ∧ PyData.showableAll ds = true ∧ PyData.depthAll ds ≤ h ∧ ((PyData.shownAll ds).map (·.length)).sum ≤ ds.length * n
  | [], _ => ⟨rfl, by simp [PyData.showableAll], by simp [PyData.depthAll], by simp [PyData.shownAll]⟩
  | d :: r, H => by
    have h1 := H d (List.mem_cons_self ..)
    obtain ⟨a, b, c, e⟩ := rokAll fun x hx => H x (List.mem_cons_of_mem _ hx)
    refine ⟨by simp [PyData.canLayAll0, h1.lay, a], by simp [PyData.showableAll, h1.sh, b], ?_, ?_⟩
    · have := h1.dp
      simp only [PyData.depthAll]; omega
    · have := h1.ln
      simp only [PyData.shownAll, List.map_cons, List.sum_cons, List.length_cons, Nat.add_mul, Nat.one_mul]; omega
theorem rok_tup {h n : Nat} {ds : List D} (H : ∀ d ∈ ds, Rok h n d) : Rok (h + 1) (ds.length * (n + 2) + 3) (.tuple ds) := by
  obtain ⟨a, b, c, e⟩ := rokAll H
  refine ⟨a, by simpa [PyData.showable] using b, by simp only [PyData.depth]; omega, ?_⟩
  have h2 := tupleText_len_le (PyData.shownAll ds)
  have h3 := PyData.shownAll_length ds
  simp only [PyData.shown]
  rw [Nat.mul_add]; omega
theorem rok_lst {h n : Nat} {ds : List D} (H : ∀ d ∈ ds, Rok h n d) : Rok (h + 1) (ds.length * (n + 2) + 3) (.list ds) := by
  obtain ⟨a, b, c, e⟩ := rokAll H
  refine ⟨a, by simpa [PyData.showable] using b, by simp only [PyData.depth]; omega, ?_⟩
  have h2 := listText_len_le (PyData.shownAll ds)
  have h3 := PyData.shownAll_length ds
  simp only [PyData.shown]
  rw [Nat.mul_add]; omega
theorem Rok.repr {h n : Nat} {d : D} (r : Rok h n d) (a : h ≤ 50) (b : n ≤ 16777216) : reprD [d] = some (.str d.shown) := by
  show (if reprOk d = true then _ else none) = _
  rw [if_pos]
  have := r.dp
  have := r.ln
  simp only [reprOk, r.lay, r.sh, Bool.true_and, Bool.and_eq_true, decide_eq_true_eq, sizeLine_eq]
  omega
theorem Rok.reprV {h n : Nat} {d : D} (r : Rok h n d) (a : h ≤ 50) (b : n ≤ 16777216) : (valL [.fz d]).bind reprD = some (.str d.shown) := r.repr a b
theorem Rok.shp {h n : Nat} {d : D} (r : Rok h n d) (a : h ≤ 50) : SeqAt.shaped d = true := by
  have := r.dp
  simp only [SeqAt.shaped, r.lay, Bool.true_and, decide_eq_true_eq]; omega
theorem Rok.eqv {h n : Nat} {d : D} (r : Rok h n d) : PyData.eqv d d = true := SeqAt.eqv_refl d r.lay
theorem Rok.ne {h n : Nat} {d : D} (r : Rok h n d) (a : h ≤ 50) : neD d d = some (.bool false) := by
  unfold neD
  rw [if_pos ⟨r.shp a, r.shp a⟩, r.eqv]; rfl
theorem Rok.eq {h n : Nat} {d : D} (r : Rok h n d) (a : h ≤ 50) : eqD d d = some (.bool true) := by
  unfold eqD
  rw [if_pos ⟨r.shp a, r.shp a⟩, r.eqv]
theorem rok_pr {p : Pr} (h1 : 0 ≤ p.1 ∧ p.1 ≤ 1000) (h2 : 0 ≤ p.2 ∧ p.2 ≤ 1000) : Rok 1 33 (prD p) := by
  refine (rok_tup (h := 0) (n := 13) fun d hd => ?_).mono (by omega) (show 2 * (13 + 2) + 3 ≤ 33 by decide)
  rcases List.mem_cons.mp hd with rfl | hd
  · exact rok_int (by omega) (by omega)
  · obtain rfl : d = .int p.2 := by simpa using hd
    exact rok_int (by omega) (by omega)
theorem rok_prs {ps : List Pr} (h : ∀ p ∈ ps, (0 ≤ p.1 ∧ p.1 ≤ 1000) ∧ 0 ≤ p.2 ∧ p.2 ≤ 1000) : Rok 2 (ps.length * 35 + 3) (prsD ps) := by
  refine (rok_tup (h := 1) (n := 33) (ds := ps.map prD) fun d hd => ?_).mono (by omega) (by rw [List.length_map]; omega)
  obtain ⟨p, hp, rfl⟩ := List.mem_map.mp hd
  exact rok_pr (h p hp).1 (h p hp).2
theorem rok_ord {n : Nat} {ps : List Pr} (hn : n ≤ 1000) (hl : ps.length ≤ 1000) (h : ∀ p ∈ ps, (0 ≤ p.1 ∧ p.1 ≤ 1000) ∧ 0 ≤ p.2 ∧ p.2 ≤ 1000) : Rok 3 80000 (ordD n ps) := by
  refine (rok_tup (h := 2) (n := 36000) fun d hd => ?_).mono (by omega) (show 2 * (36000 + 2) + 3 ≤ 80000 by decide)
  rcases List.mem_cons.mp hd with rfl | hd
  · exact (rok_int (by omega) (by omega)).mono (by omega) (by omega)
  · obtain rfl : d = prsD ps := by simpa using hd
    exact (rok_prs h).mono (by omega) (by omega)
theorem eqv_pr (p q : Pr) : PyData.eqv (prD p) (prD q) = decide (p = q) := by
  simp only [prD, PyData.eqv, PyData.eqvAll, int_beq, Bool.and_true]
  rw [Bool.eq_iff_iff]
  simp [Prod.ext_iff]
theorem in_prs {p : Pr} {ps : List Pr} (hp : (0 ≤ p.1 ∧ p.1 ≤ 1000) ∧ 0 ≤ p.2 ∧ p.2 ≤ 1000) (h : ∀ p ∈ ps, (0 ≤ p.1 ∧ p.1 ≤ 1000) ∧ 0 ≤ p.2 ∧ p.2 ≤ 1000) : inV' (prD p) (.list (ps.map prD)) = some (.bool (decide (p ∈ ps))) := by
  have s1 := (rok_pr hp.1 hp.2).shp (by omega)
  have s2 := (rok_lst (h := 1) (n := 33) (ds := ps.map prD) fun d hd => by
    obtain ⟨q, hq, rfl⟩ := List.mem_map.mp hd
    exact rok_pr (h q hq).1 (h q hq).2).shp (by omega)
  show ((if SeqAt.shaped (prD p) = true ∧ SeqAt.shaped (.list (ps.map prD)) = true then some ((ps.map prD).any fun z => z.eqv (prD p)) else none).map fun k => PyData.bool k) = _
  rw [if_pos ⟨s1, s2⟩]
  simp only [Option.map_some]
  congr 2
  rw [Bool.eq_iff_iff]
  simp only [List.any_map, List.any_eq_true, Function.comp, eqv_pr, decide_eq_true_eq]
  exact ⟨fun ⟨q, hq, e⟩ => e ▸ hq, fun hq => ⟨p, hq, rfl⟩⟩
theorem ne_str_self (x : Str) : neD (.str x) (.str x) = some (.bool false) := by rw [ne_strs]; simp
theorem ne_strV (x : Str) : ((Dv.fz (.str x)).val.bind fun a => (Dv.fz (.str x)).val.bind fun b => neD a b) = some (.bool false) := ne_str_self x
theorem ne_bool (a b : Bool) : neD (.bool a) (.bool b) = some (.bool (a != b)) := by
  cases a <;> cases b <;> rfl
theorem eq_bool (a b : Bool) : eqD (.bool a) (.bool b) = some (.bool (a == b)) := by
  cases a <;> cases b <;> rfl
theorem fnG_no {P : Program} {w : World} {K : PySem.W.Frag} {mg : Str → Option Value} {base : Heap} {k : Nat} {f : Addr} {fd : FuncData} {ps : List Str} : FnG P w K mg base L2.CX0 k f fd ps (spF SI0 0 fun _ _ => False) :=
  ⟨fun _ _ _ _ ⟨_, _, _, _, _, _, _, _, _, h, _⟩ => h.elim, fun _ _ _ _ _ _ _ _ _ _ _ _ _ _ ⟨_, _, _, _, _, _, _, _, _, h, _⟩ => h.elim⟩
end DL
namespace DL
open PySem PF
/-! ### tests whose parts are known -/
section
variable {wa wb : WE} {ta tb : WT} {env : Ev} {p q : Bool}
theorem orV_ok {P : Dv → Prop} (ha : ∀ R : Dv → Prop, R (.fz (.bool p)) → wa env R) (hb : ∀ R : Dv → Prop, R (.fz (.bool q)) → wb env R) (h : P (.fz (.bool (p || q)))) : wOrV wa wb env P := by
  refine ha _ ⟨p, rfl, ?_⟩
  cases p with
  | true => exact ifT rfl h
  | false => exact ifF rfl (hb _ h)
theorem andV_ok {P : Dv → Prop} (ha : ∀ R : Dv → Prop, R (.fz (.bool p)) → wa env R) (hb : ∀ R : Dv → Prop, R (.fz (.bool q)) → wb env R) (h : P (.fz (.bool (p && q)))) : wAndV wa wb env P := by
  refine ha _ ⟨p, rfl, ?_⟩
  cases p with
  | true => exact ifT rfl (hb _ h)
  | false => exact ifF rfl h
theorem tst_ok {P : Bool → Prop} (ha : ∀ R : Dv → Prop, R (.fz (.bool p)) → wa env R) (h : P p) : wTest wa env P := ha _ ⟨p, rfl, h⟩
theorem and_ok {P : Bool → Prop} (ha : ∀ R : Bool → Prop, R p → ta env R) (hb : ∀ R : Bool → Prop, R q → tb env R) (h : P (p && q)) : wAnd ta tb env P := by
  refine ha _ ?_
  cases p with
  | true => exact ifT rfl (hb _ h)
  | false => exact ifF rfl h
theorem or_ok {P : Bool → Prop} (ha : ∀ R : Bool → Prop, R p → ta env R) (hb : ∀ R : Bool → Prop, R q → tb env R) (h : P (p || q)) : wOr ta tb env P := by
  refine ha _ ?_
  cases p with
  | true => exact ifT rfl h
  | false => exact ifF rfl (hb _ h)
theorem ifS_ok {f g : WS} {De : DEnds} (ha : ∀ R : Bool → Prop, R p → ta env R) (h1 : p = true → f env De) (h2 : p = false → g env De) : wIfS ta f g env De := by
  refine ha _ ?_
  cases p with
  | true => exact ifT rfl (h1 rfl)
  | false => exact ifF rfl (h2 rfl)
end
/-- a loop that looks for the first thing of a kind -/
theorem wFor_find {α β : Type} {g : GD} {f : WS} {De : DEnds} (c : α → D) (I : Ev → Prop) (h : α → Option β) (rv : β → Dv) : ∀ (xs : List α), (∀ x ∈ xs, ∀ (env : Ev) (De' : DEnds), I env → De'.rt = De.rt → (∀ b, h x = some b → De.rt (rv b)) → (h x = none → ∀ e, I e → De'.nx e) → ∃ env', g (c x) env = some env' ∧ f env' De') →
    (xs.findSome? h = none → ∀ e, I e → De.nx e) → (∀ b, xs.findSome? h = some b → De.rt (rv b)) → ∀ env, I env → wFor g f (xs.map c) env De
  | [], _, fin, _, env, he => fin rfl env he
  | x :: xs, st, fin, rt, env, he => by
    refine st x (List.mem_cons_self ..) env _ he rfl (fun b hb => rt b (by rw [List.findSome?_cons, hb])) fun hn e' he' => ?_
    rw [List.findSome?_cons, hn] at fin rt
    exact wFor_find c I h rv xs (fun y hy => st y (List.mem_cons_of_mem _ hy)) fin rt e' he'
theorem keptL_snoc (ds : List D) (d : D) : keptL (ds.map Dv.fz ++ [.fz d]) = some (ds ++ [d]) := by
  induction ds with
  | nil => rfl
  | cons x r ih => rw [List.map_cons, List.cons_append, keptL, ih]; rfl
theorem intsOf_map {α : Type} (f : α → Int) (l : List α) : intsOf (l.map fun x => .int (f x)) = some (l.map f) := by
  induction l with
  | nil => rfl
  | cons x r ih => simp [intsOf, ih]
theorem rng2_nat {i n : Nat} (hn : n ≤ 1000) (hi : i < n) : rng2 [.int ((i + 1 : Nat) : Int), .int (n : Nat)] = some ((List.range' (i + 1) (n - (i + 1))).map fun j => .int (j : Nat)) := by
  simp only [rng2]
  rw [if_pos ⟨by omega, by omega, by omega, by omega⟩]
  refine congrArg some ?_
  unfold rangeD
  rw [show ((n : Int) - ((i + 1 : Nat) : Int)).toNat = n - (i + 1) by omega, List.range'_eq_map_range, List.map_map]
  exact List.map_congr_left fun k _ => by simp [Function.comp]
theorem rng2V {i n : Nat} (hn : n ≤ 1000) (hi : i < n) : (valL [.fz (.int ((i + 1 : Nat) : Int)), .fz (.int (n : Nat))]).bind rng2 = some ((List.range' (i + 1) (n - (i + 1))).map fun j => .int (j : Nat)) := by
  have e : valL [.fz (.int ((i + 1 : Nat) : Int)), .fz (.int (n : Nat))] = some [.int ((i + 1 : Nat) : Int), .int (n : Nat)] := rfl
  rw [e, Option.bind_some, rng2_nat hn hi]
end DL
namespace PF
open PySem DL
/-! ### lots -/
def natD (l : List Nat) : D := .tuple (l.map fun (k : Nat) => .int (k : Int))
def apartB (kss : List (List Int)) (l : List Nat) : Bool := !(l.any fun i => l.any fun j => decide ((j : Int) ∈ kss.getD i []))
theorem ix_ab {kss : List (List Int)} {i : Nat} (h : i < kss.length) : ixD (abD kss) (.int (i : Nat)) = some (.dict (esD (kss.getD i []))) := by
  refine L2.atI_nat ?_
  rw [List.getElem?_map, List.getD_eq_getElem?_getD, List.getElem?_eq_getElem h]; rfl
theorem any_enc2 {α β : Type} (f : α → β → Bool) (ps : List α) (qs : List β) : (onBools fun bs => bs.any id) [.list (ps.flatMap fun p => qs.map fun q => .bool (f p q))] = some (.bool (ps.any fun p => qs.any fun q => f p q)) := by
  have e : (ps.flatMap fun p => qs.map fun q => PyData.bool (f p q)) = (ps.flatMap fun p => qs.map fun q => (p, q)).map fun z => .bool (f z.1 z.2) := by
    rw [List.map_flatMap]
    congr 1; funext p
    rw [List.map_map]; rfl
  rw [e, any_enc (fun z : α × β => f z.1 z.2)]
  congr 2
  rw [List.any_flatMap]
  congr 1; funext p
  rw [List.any_map]; rfl
def sp_are_apart : DL.Spec := fun as Q => ∃ (kss : List (List Int)) (l : List Nat), as = [.fz (abD kss), .fz (natD l)] ∧ (∀ k ∈ l, k < kss.length) ∧ l.length ≤ 100 ∧ Q (.bool (apartB kss l))
theorem len_are_apart : ∀ as Q, sp_are_apart as Q → as.length = 2 := by rintro as Q ⟨kss, l, rfl, _⟩; rfl
def ws_are_apart : WS := (wRet (wNotV (wB anyD (wCons (wLc2 (wSrc (wName 1)) (gN 2) wYes (wSrc (wName 1)) (gN 3) wYes (w2 inV' (wName 3) (wIx (wName 0) (wName 2))) [2, 3] [3]) wNil))))
theorem ok_ws_are_apart : ∀ as Q, sp_are_apart as Q → ws_are_apart (env0 4 as) (endsOf Q) := by
  rintro as Q ⟨kss, l, rfl, hl, hz, q⟩
  refine ⟨_, rfl, l.map (fun (k : Nat) => .int (k : Int)), rfl, ?_⟩
  refine lc2_enc (fun i : Nat => .int (i : Nat)) (fun i : Nat => .int (i : Nat)) l (fun i j => .bool (decide ((j : Int) ∈ kss.getD i []))) (fun _ _ => true) l [] (fun i hi => ⟨_, rfl, fun R r => ⟨_, rfl, _, rfl, r⟩, fun j hj => ⟨_, rfl, fun R r => r, fun _ R r => ?_⟩⟩) ?_ ?_
  · exact ⟨_, rfl, _, rfl, _, rfl, _, ix_ab (hl i hi), _, in_esD _ _, r⟩
  · have : l.length * l.length ≤ 100 * 100 := Nat.mul_le_mul hz hz
    rw [sizeLine_eq]; simp; omega
  · rw [List.nil_append]
    have e : (l.flatMap fun p => (l.filter ((fun _ _ : Nat => true) p)).map ((fun i j : Nat => PyData.bool (decide ((j : Int) ∈ kss.getD i []))) p)) = l.flatMap fun p => l.map fun q => .bool (decide ((q : Int) ∈ kss.getD p [])) := by
      congr 1; funext p
      rw [List.filter_eq_self.mpr (fun _ _ => rfl)]
    rw [e]
    exact ⟨_, any_enc2 (fun i j : Nat => decide ((j : Int) ∈ kss.getD i [])) l l, _, rfl, _, rfl, q⟩
/-! ### all clutters -/
def clu (kss : List (List Int)) : Nat → List (List Nat)
  | 0 => [[]]
  | k + 1 => clu kss k ++ ((clu kss k).filter fun l => apartB kss (l ++ [k])).map fun l => l ++ [k]
theorem clu_head (kss : List (List Int)) : ∀ k, ∃ r, clu kss k = [] :: r
  | 0 => ⟨[], rfl⟩
  | k + 1 => by
    obtain ⟨r, e⟩ := clu_head kss k
    exact ⟨r ++ ((clu kss k).filter fun l => apartB kss (l ++ [k])).map fun l => l ++ [k], by rw [clu, e]; rfl⟩
theorem clu_small (kss : List (List Int)) : ∀ k, (clu kss k).length ≤ 2 ^ k ∧ ∀ l ∈ clu kss k, l.length ≤ k ∧ ∀ x ∈ l, x < k
  | 0 => ⟨by simp [clu], fun l hl => by simp [clu] at hl; subst hl; exact ⟨Nat.le_refl _, fun _ z => (nomatch z)⟩⟩
  | k + 1 => by
    obtain ⟨h1, h2⟩ := clu_small kss k
    refine ⟨?_, fun l hl => ?_⟩
    · have := List.length_filter_le (fun l => apartB kss (l ++ [k])) (clu kss k)
      rw [clu, List.length_append, List.length_map, Nat.pow_succ]; omega
    · rw [clu] at hl
      rcases List.mem_append.mp hl with h | h
      · obtain ⟨a, b⟩ := h2 l h
        exact ⟨by omega, fun x hx => by have := b x hx; omega⟩
      · obtain ⟨m, hm, rfl⟩ := List.mem_map.mp h
        obtain ⟨a, b⟩ := h2 m (List.mem_filter.mp hm).1
        refine ⟨by rw [List.length_append, List.length_singleton]; omega, fun x hx => ?_⟩
        rcases List.mem_append.mp hx with h | h
        · have := b x h; omega
        · have : x = k := by simpa using h
          omega
theorem pow12 {k : Nat} (h : k ≤ 12) : 2 ^ k ≤ 4096 := Nat.le_trans (Nat.pow_le_pow_right (by decide) h) (by decide)
def srtL (L : List (List Nat)) : List (List Nat) := L.mergeSort fun a b => PySem.W.dataLe false id (natD a) (natD b)
theorem srtL_mem {L : List (List Nat)} {l : List Nat} : l ∈ srtL L ↔ l ∈ L := List.mem_mergeSort
theorem srtL_len (L : List (List Nat)) : (srtL L).length = L.length := List.length_mergeSort _
theorem sortD_nat (L : List (List Nat)) : sortD (L.map natD) = (srtL L).map natD := by
  unfold sortD srtL
  rw [List.map_mergeSort]
  intro a _ b _
  rfl
theorem alikeAll_int : ∀ xs ys : List Int, PySem.W.alikeAll (xs.map .int) (ys.map .int) = true
  | [], ys => by cases ys <;> simp [PySem.W.alikeAll]
  | _ :: _, [] => by simp [PySem.W.alikeAll]
  | x :: xs, y :: ys => by simp [PySem.W.alikeAll, alike_int, alikeAll_int xs ys]
theorem natD_box (l : List Nat) : natD l = boxD (l.map fun (k : Nat) => (k : Int)) := by unfold natD boxD; rw [List.map_map]; rfl
theorem alike_nat (a b : List Nat) : PySem.W.alike (natD a) (natD b) = true := by
  rw [natD_box, natD_box]
  simp only [boxD, PySem.W.alike, alikeAll_int]
theorem lay_ints : ∀ xs : List Int, PyData.canLayAll0 (xs.map .int) = true
  | [] => rfl
  | x :: r => by rw [List.map_cons, PyData.canLayAll0, lay_ints r]; rfl
theorem depth_box (xs : List Int) : (boxD xs).depth = 1 := by
  unfold boxD
  rw [PyData.depth, PySem.W.depth_ints]
theorem sorted_lots {L r : List (List Nat)} (e : L = [] :: r) (hz : L.length ≤ 4096) : sortedD [.list (L.map natD)] = some (.list ((srtL L).map natD)) := by
  show (if sortOk (L.map natD) = true then some (PyData.list (sortD (L.map natD))) else none) = _
  rw [if_pos, sortD_nat]
  have h1 : alikeB (L.map natD) = true := by
    simp only [alikeB, List.all_map, List.all_eq_true, Function.comp]
    exact fun a _ b _ => alike_nat a b
  have h2 : tupE (L.map natD) = true := by
    rw [e, List.map_cons]
    show (r.map natD).all _ = true
    rw [List.all_map, List.all_eq_true]
    exact fun _ _ => rfl
  have h3 : PyData.canLayAll0 (L.map natD) = true := by
    clear e hz h1 h2
    induction L with
    | nil => rfl
    | cons x r ih => rw [List.map_cons, PyData.canLayAll0, ih, natD_box]; simp only [boxD, PyData.canLay0, lay_ints]; rfl
  have h4 : (L.map natD).all (fun d => decide (d.depth ≤ 50)) = true := by
    rw [List.all_map, List.all_eq_true]
    intro l _
    simp only [Function.comp, natD_box, depth_box]; decide
  simp only [sortOk, h1, h2, h3, h4, Bool.or_true, Bool.and_true, Bool.true_and, List.length_map, decide_eq_true_eq, sizeLine_eq]
  omega
def sp_all_clutters : DL.Spec := fun as Q => ∃ (n : Nat) (ps : List Pr), as = [.fz (ordD n ps)] ∧ n ≤ 12 ∧ ps.length < 1000 ∧ ∀ kss, IsAb ps n kss → Q (.list ((srtL (clu kss n)).map natD))
theorem len_all_clutters : ∀ as Q, sp_all_clutters as Q → as.length = 1 := by rintro as Q ⟨n, ps, rfl, _⟩; rfl
def ws_all_clutters : WS := (wSeq (wAsgT (wTup (wCons (wCall sp_above_of (wCons (wName 0) wNil)) (wCons (wLst (wCons (wTup wNil) wNil)) wNil))) (gTup' 2 (gCons' (gN 1) (gCons' (gN 2) gNil'))))
    (wSeq (wForI (wRng rng1 (wCons (wIx (wName 0) (wC (.fz (.int 0)))) wNil)) (gN 3) (wSet .fz 2 (w2 addD (wName 2) (wLc (wSrc (wName 2)) (gN 4) (wTest (wCall sp_are_apart (wCons (wName 1) (wCons (wTup (wStar (wName 4) (wCons (wName 3) wNil))) wNil)))) (wTup (wStar (wName 4) (wCons (wName 3) wNil))) [4]))))
    (wRet (wB sortedD (wCons (wName 2) wNil)))))
theorem natD_snoc (l : List Nat) (k : Nat) : keptL ((l.map fun (k : Nat) => PyData.int (k : Int)).map Dv.fz ++ [.fz (.int (k : Nat))]) = some ((l ++ [k]).map fun (k : Nat) => .int (k : Int)) := by
  rw [keptL_snoc, List.map_append]; rfl
theorem ok_ws_all_clutters : ∀ as Q, sp_all_clutters as Q → ws_all_clutters (env0 5 as) (endsOf Q) := by
  rintro as Q ⟨n, ps, rfl, hn, hz, q⟩
  refine ⟨_, rfl, n, ps, rfl, by omega, hz, fun kss hk => ⟨[], rfl, Nat.zero_le _, [.tuple []], rfl, (show 1 ≤ sizeLine by decide), _, rfl, (show 2 ≤ sizeLine by decide), _, _, rfl, rfl, ?_⟩⟩
  have hlen := hk.1
  refine ⟨_, rfl, .int n, ix_o0 _ _, _, rngV (by omega), ?_⟩
  refine wFor_rng (n := n) (fun k env => ∃ s3 s4, env = [.fz (ordD n ps), .fz (abD kss), .fz (.list ((clu kss k).map natD)), s3, s4]) ?_ ?_ n 0 (by omega) _ ⟨.no, .no, rfl⟩
  · rintro _ ⟨s3, s4, rfl⟩
    obtain ⟨r, e⟩ := clu_head kss n
    have := (clu_small kss n).1
    have := pow12 hn
    exact ⟨_, rfl, _, sorted_lots e (by omega), _, rfl, q kss hk⟩
  · rintro k hk' _ De' ⟨s3, s4, rfl⟩ hrt hbk hnx hct
    obtain ⟨c1, c2⟩ := clu_small kss k
    have c3 := pow12 (k := k) (by omega)
    refine ⟨_, rfl, _, rfl, _, rfl, (clu kss k).map natD, rfl, ?_⟩
    refine lc_encF natD (fun l => natD (l ++ [k])) (fun l => apartB kss (l ++ [k])) _ [] (fun l hl => ⟨_, rfl, fun R r => ?_, fun _ R r => ?_⟩) (by rw [sizeLine_eq]; simp; omega) ?_
    · obtain ⟨l1, l2⟩ := c2 l hl
      refine ⟨_, rfl, _, rfl, l.map (fun (k : Nat) => .int (k : Int)), rfl, _, rfl, _, natD_snoc l k, by rw [List.length_map, List.length_append, sizeLine_eq]; simp; omega, kss, l ++ [k], rfl, fun x hx => ?_, by rw [List.length_append]; simp; omega, _, rfl, r⟩
      rcases List.mem_append.mp hx with h | h
      · have := l2 x h; omega
      · have : x = k := by simpa using h
        omega
    · obtain ⟨l1, l2⟩ := c2 l hl
      exact ⟨_, rfl, l.map (fun (k : Nat) => .int (k : Int)), rfl, _, rfl, _, natD_snoc l k, by rw [List.length_map, List.length_append, sizeLine_eq]; simp; omega, r⟩
    · have lf := List.length_filter_le (fun l => apartB kss (l ++ [k])) (clu kss k)
      refine ⟨_, if_pos (by rw [List.nil_append, List.length_map, List.length_map, sizeLine_eq]; omega), _, rfl, hnx _ ⟨.fz (.int (k : Nat)), s4, ?_⟩⟩
      rw [clu, List.map_append, List.map_map]
      rfl
/-- clutters -/
structure Cl (ps : List Pr) (n : Nat) (l : List Nat) : Prop where
  asc : l.Pairwise fun a b => a < b
  lt : ∀ k ∈ l, k < n
  no : ∀ i ∈ l, ∀ j ∈ l, ¬ Rch ps i j
theorem apart_iff {ps : List Pr} {n : Nat} {kss : List (List Int)} (hk : IsAb ps n kss) {l : List Nat} (hl : ∀ k ∈ l, k < n) : apartB kss l = true ↔ ∀ i ∈ l, ∀ j ∈ l, ¬ Rch ps i j := by
  unfold apartB
  simp only [Bool.not_eq_true', List.any_eq_false, decide_eq_true_eq, List.any_eq_true, not_exists, not_and]
  have g : ∀ i ∈ l, ∀ j : Nat, (j : Int) ∈ kss.getD i [] ↔ Rch ps i j := fun i hi j => by
    have hlt : i < kss.length := by rw [hk.1]; exact hl i hi
    rw [List.getD_eq_getElem?_getD, List.getElem?_eq_getElem hlt]
    exact hk.2 i _ (List.getElem?_eq_getElem hlt) j
  exact ⟨fun h i hi j hj z => h i hi j hj ((g i hi j).mpr z), fun h i hi j hj z => h i hi j hj ((g i hi j).mp z)⟩
theorem asc_last {l : List Nat} {k : Nat} (h : (l ++ [k]).Pairwise fun a b => a < b) : ∀ x ∈ l, x < k := fun x hx => (List.pairwise_append.mp h).2.2 x hx k (by simp)
theorem mem_clu {ps : List Pr} {n : Nat} {kss : List (List Int)} (hk : IsAb ps n kss) : ∀ k, k ≤ n → ∀ l, l ∈ clu kss k ↔ Cl ps k l
  | 0, _, l => by
    rw [clu]
    constructor
    · intro h
      have : l = [] := by simpa using h
      subst this
      exact ⟨List.Pairwise.nil, fun _ z => (nomatch z), fun _ z => (nomatch z)⟩
    · intro h
      cases l with
      | nil => simp
      | cons x r => exact absurd (h.lt x (List.mem_cons_self ..)) (Nat.not_lt_zero _)
  | k + 1, hkn, l => by
    have ih := mem_clu hk k (by omega)
    rw [clu, List.mem_append, List.mem_map]
    constructor
    · rintro (h | ⟨m, hm, rfl⟩)
      · have c := (ih l).mp h
        exact ⟨c.asc, fun x hx => by have := c.lt x hx; omega, c.no⟩
      · obtain ⟨h1, h2⟩ := List.mem_filter.mp hm
        have c := (ih m).mp h1
        have lt : ∀ x ∈ m ++ [k], x < k + 1 := fun x hx => by
          rcases List.mem_append.mp hx with h | h
          · have := c.lt x h; omega
          · have : x = k := by simpa using h
            omega
        refine ⟨List.pairwise_append.mpr ⟨c.asc, by simp, fun a ha b hb => ?_⟩, lt, (apart_iff hk fun x hx => by have := lt x hx; omega).mp h2⟩
        have : b = k := by simpa using hb
        have := c.lt a ha
        omega
    · intro c
      by_cases e : l = []
      · subst e
        exact .inl ((ih []).mpr ⟨List.Pairwise.nil, fun _ z => (nomatch z), fun _ z => (nomatch z)⟩)
      · obtain ⟨m, z, rfl⟩ : ∃ m z, l = m ++ [z] := ⟨l.dropLast, l.getLast e, (List.dropLast_concat_getLast e).symm⟩
        have hz := c.lt z (by simp)
        have hm := asc_last c.asc
        have ma := (List.pairwise_append.mp c.asc).1
        by_cases ez : z = k
        · subst ez
          refine .inr ⟨m, List.mem_filter.mpr ⟨(ih m).mpr ⟨ma, hm, fun i hi j hj => c.no i (List.mem_append_left _ hi) j (List.mem_append_left _ hj)⟩, ?_⟩, rfl⟩
          exact (apart_iff hk fun x hx => by have := c.lt x hx; omega).mpr c.no
        · refine .inl ((ih _).mpr ⟨c.asc, fun x hx => ?_, c.no⟩)
          rcases List.mem_append.mp hx with h | h
          · have := hm x h; omega
          · have : x = z := by simpa using h
            omega
/-! ### sizes -/
def szOf (hp : List Int) (l : List Nat) : Int := (l.map fun k => hp.getD k 0).sum
def sp_size_in : DL.Spec := fun as Q => ∃ (hp : List Int) (l : List Nat), as = [.fz (boxD hp), .fz (natD l)] ∧ (∀ k ∈ l, k < hp.length) ∧ l.length ≤ 100 ∧ Q (.int (szOf hp l))
theorem len_size_in : ∀ as Q, sp_size_in as Q → as.length = 2 := by rintro as Q ⟨kss, l, rfl, _⟩; rfl
def ws_size_in : WS := (wRet (wB sumD (wCons (wLc (wSrc (wName 1)) (gN 2) wYes (wIx (wName 0) (wName 2)) [2]) wNil)))
theorem ix_hp {r : List Int} {k : Nat} (h : k < r.length) : ixD (boxD r) (.int (k : Nat)) = some (.int (r.getD k 0)) := by
  refine L2.atI_nat ?_
  rw [List.getElem?_map, List.getD_eq_getElem?_getD, List.getElem?_eq_getElem h]; rfl
theorem ok_ws_size_in : ∀ as Q, sp_size_in as Q → ws_size_in (env0 3 as) (endsOf Q) := by
  rintro as Q ⟨hp, l, rfl, hl, hz, q⟩
  refine ⟨_, rfl, l.map (fun (k : Nat) => .int (k : Int)), rfl, ?_⟩
  refine lc_enc (fun i : Nat => .int (i : Nat)) (fun i : Nat => .int (hp.getD i 0)) l (fun i hi => ⟨_, rfl, fun R r => ⟨_, rfl, _, rfl, _, ix_hp (hl i hi), r⟩⟩) (small_sz (by omega)) ?_
  refine ⟨.int (szOf hp l), ?_, _, rfl, q⟩
  show (intsOf (l.map fun i => .int (hp.getD i 0))).map (fun ns => PyData.int ns.sum) = _
  rw [intsOf_map (fun i => hp.getD i 0)]; rfl
structure IsMax (ps : List Pr) (n : Nat) (hp : List Int) (M : Int) : Prop where
  ex : ∃ l, Cl ps n l ∧ szOf hp l = M
  le : ∀ l, Cl ps n l → szOf hp l ≤ M
def sp_fewest_in : DL.Spec := fun as Q => ∃ (n : Nat) (ps : List Pr) (hp : List Int), as = [.fz (ordD n ps), .fz (boxD hp)] ∧ n ≤ 12 ∧ ps.length < 1000 ∧ hp.length = n ∧ ∀ M, IsMax ps n hp M → Q (.int M)
theorem len_fewest_in : ∀ as Q, sp_fewest_in as Q → as.length = 2 := by rintro as Q ⟨kss, l, hp, rfl, _⟩; rfl
def ws_fewest_in : WS := (wRet (wB maxD (wCons (wLc (wSrc (wCall sp_all_clutters (wCons (wName 0) wNil))) (gN 2) wYes (wCall sp_size_in (wCons (wName 1) (wCons (wName 2) wNil))) [2]) wNil)))
theorem ok_ws_fewest_in : ∀ as Q, sp_fewest_in as Q → ws_fewest_in (env0 3 as) (endsOf Q) := by
  rintro as Q ⟨n, ps, hp, rfl, hn, hz, hl, q⟩
  refine ⟨_, rfl, n, ps, rfl, hn, hz, fun kss hk => ⟨(srtL (clu kss n)).map natD, rfl, ?_⟩⟩
  obtain ⟨c1, c2⟩ := clu_small kss n
  have c3 := pow12 hn
  refine lc_enc natD (fun l => .int (szOf hp l)) _ (fun l hm => ⟨_, rfl, fun R r => ?_⟩) (by rw [srtL_len, sizeLine_eq]; omega) ?_
  · obtain ⟨l1, l2⟩ := c2 l (srtL_mem.mp hm)
    exact ⟨_, rfl, _, rfl, hp, l, rfl, fun k hk => by have := l2 k hk; omega, by omega, r⟩
  · have mm : ∀ l, l ∈ srtL (clu kss n) ↔ Cl ps n l := fun l => srtL_mem.trans (mem_clu hk n (Nat.le_refl _) l)
    cases hs : srtL (clu kss n) with
    | nil =>
      exfalso
      have := (mm []).mpr ⟨List.Pairwise.nil, fun _ z => (nomatch z), fun _ z => (nomatch z)⟩
      rw [hs] at this; cases this
    | cons x r =>
      rw [hs] at mm
      obtain ⟨f1, f2, f3⟩ := foldl_max (r.map (szOf hp)) (szOf hp x)
      refine ⟨.int ((r.map (szOf hp)).foldl max (szOf hp x)), ?_, _, rfl, q _ ⟨?_, fun l hl => ?_⟩⟩
      · show ((intsOf ((x :: r).map fun l => PyData.int (szOf hp l))).bind maxI).map PyData.int = _
        rw [intsOf_map (szOf hp)]; rfl
      · rcases f1 with e | e
        · exact ⟨x, (mm x).mp (List.mem_cons_self ..), e.symm⟩
        · obtain ⟨l, hl, e2⟩ := List.mem_map.mp e
          exact ⟨l, (mm l).mp (List.mem_cons_of_mem _ hl), e2⟩
      · rcases List.mem_cons.mp ((mm l).mpr hl) with rfl | h
        · exact f2
        · exact f3 _ (List.mem_map.mpr ⟨l, h, rfl⟩)
/-! ### heaps -/
structure Hp (n : Nat) (hp : List Int) : Prop where
  len : hp.length = n
  ok : ∀ x ∈ hp, 0 ≤ x ∧ x ≤ 1000000000000000000000000000000
def sp_need_heap : DL.Spec := fun as Q => ∃ (n : Nat) (ps : List Pr) (hp : List Int), as = [.fz (ordD n ps), .fz (boxD hp)] ∧ Ord n ps ∧ Hp n hp ∧ Q (boxD hp)
theorem len_need_heap : ∀ as Q, sp_need_heap as Q → as.length = 2 := by rintro as Q ⟨kss, l, hp, rfl, _⟩; rfl
def wh_if : WS := (wIfS (wNot (wTest (wCall sp_is_whole (wCons (wName 3) (wCons (wC (.fz (.int 0))) (wCons (wC (.fz (.int 1000000000000000000000000000000))) wNil)))))) wNever wNext)
def ws_need_heap : WS := (wSeq (wDrop (wCall sp_need_order (wCons (wName 0) wNil)))
    (wSeq (wIfS (wOr (wNot (wTest (wIsi DL.isTuple (wName 1)))) (wTest (w2 neD (wB lenD (wCons (wName 1) wNil)) (wIx (wName 0) (wC (.fz (.int 0))))))) wNever wNext)
    (wSeq (wForI (wEnum (wCons (wName 1) wNil)) (gTup' 2 (gCons' (gN 2) (gCons' (gN 3) gNil'))) (wIfS (wNot (wTest (wCall sp_is_whole (wCons (wName 3) (wCons (wC (.fz (.int 0))) (wCons (wC (.fz (.int 1000000000000000000000000000000))) wNil)))))) wNever wNext))
    (wRet (wName 1)))))
theorem heap_for {o b : D} {De : DEnds} (fin : ∀ x y, De.nx [.fz o, .fz b, x, y]) : ∀ (rs : List Int) (i : Nat) (x y : Sl), (∀ x ∈ rs, 0 ≤ x ∧ x ≤ 1000000000000000000000000000000) →
    wFor (gTup' 2 (gCons' (gN 2) (gCons' (gN 3) gNil'))) wh_if (enumD i (rs.map .int)) [.fz o, .fz b, x, y] De
  | [], i, x, y, _ => fin x y
  | r :: rs, i, x, y, h => by
    obtain ⟨h1, h2⟩ := h r (List.mem_cons_self ..)
    refine ⟨_, rfl, _, rfl, .int r, 0, some 1000000000000000000000000000000, rfl, _, rfl, ?_⟩
    have hw : isWhole (.int r) 0 (some 1000000000000000000000000000000) = true := by simp [isWhole]; omega
    exact ifF (by rw [hw]; rfl) (heap_for fin rs (i + 1) _ _ fun b hb => h b (List.mem_cons_of_mem _ hb))
theorem ok_ws_need_heap : ∀ as Q, sp_need_heap as Q → ws_need_heap (env0 4 as) (endsOf Q) := by
  rintro as Q ⟨n, ps, hp, rfl, o, h, q⟩
  have el : (hp.map PyData.int).length = n := by rw [List.length_map]; exact h.len
  refine ⟨_, rfl, n, ps, rfl, o, ?_⟩
  refine ⟨_, rfl, _, rfl, _, rfl, ?_⟩
  refine ⟨_, rfl, .int (hp.map PyData.int).length, rfl, _, rfl, .int n, ix_o0 _ _, .bool false, ?_, _, rfl, ifF rfl ?_⟩
  · rw [el]; exact (ne_int n n).trans (by simp)
  · refine ⟨_, rfl, enumD 0 (hp.map .int), rfl, ?_⟩
    refine heap_for (fun x y => ?_) hp 0 .no .no h.ok
    exact ⟨_, rfl, _, rfl, q⟩
def sp_fewest : DL.Spec := fun as Q => ∃ (n : Nat) (ps : List Pr) (hp : List Int), as = [.fz (ordD n ps), .fz (boxD hp)] ∧ Ord n ps ∧ Hp n hp ∧ ∀ M, IsMax ps n hp M → Q (.int M)
theorem len_fewest : ∀ as Q, sp_fewest as Q → as.length = 2 := by rintro as Q ⟨kss, l, hp, rfl, _⟩; rfl
def ws_fewest : WS := (wSeq (wDrop (wCall sp_need_heap (wCons (wName 0) (wCons (wName 1) wNil))))
    (wRet (wCall sp_fewest_in (wCons (wName 0) (wCons (wName 1) wNil)))))
theorem ok_ws_fewest : ∀ as Q, sp_fewest as Q → ws_fewest (env0 2 as) (endsOf Q) := by
  rintro as Q ⟨n, ps, hp, rfl, o, h, q⟩
  refine ⟨_, rfl, _, rfl, n, ps, hp, rfl, o, h, ?_⟩
  exact ⟨_, rfl, _, rfl, n, ps, hp, rfl, o.hi, o.sm, h.len, fun M hM => ⟨_, rfl, q M hM⟩⟩
/-! ### orders beside one another -/
def nest (ps : List Pr) (i j : Nat) : Prop := Rch ps i j ∨ Rch ps j i
open Classical in
noncomputable def prtAt (ps qs : List Pr) (i : Nat) (j : Nat) : Option (Nat × Nat) := if nest qs i j ∧ ¬ nest ps i j then some (i, j) else none
noncomputable def prt (ps qs : List Pr) (n : Nat) : Option (Nat × Nat) := (List.range n).findSome? fun i => (List.range' (i + 1) (n - (i + 1))).findSome? (prtAt ps qs i)
def cplD : Option (Nat × Nat) → D
  | none => .none
  | some p => .tuple [.int p.1, .int p.2]
def sp_parting : DL.Spec := fun as Q => ∃ (n : Nat) (ps qs : List Pr), as = [.fz (ordD n ps), .fz (ordD n qs)] ∧ n ≤ 12 ∧ ps.length < 1000 ∧ qs.length < 1000 ∧ Q (cplD (prt ps qs n))
theorem len_parting : ∀ as Q, sp_parting as Q → as.length = 2 := by rintro as Q ⟨kss, l, hp, rfl, _⟩; rfl
def wp_if : WS := (wIfS (wAnd (wTest (wName 6)) (wAnd (wTest (w2 notInV (wName 5) (wIx (wName 2) (wName 4)))) (wTest (w2 notInV (wName 4) (wIx (wName 2) (wName 5)))))) (wRet (wTup (wCons (wName 4) (wCons (wName 5) wNil)))) wNext)
def ws_parting : WS := (wSeq (wPar2 .fz 2 .fz 3 (wCall sp_above_of (wCons (wName 0) wNil)) (wCall sp_above_of (wCons (wName 1) wNil)))
    (wSeq (wForI (wRng rng1 (wCons (wIx (wName 0) (wC (.fz (.int 0)))) wNil)) (gN 4) (wForI (wRng rng2 (wCons (w2 addD (wName 4) (wC (.fz (.int 1)))) (wCons (wIx (wName 0) (wC (.fz (.int 0)))) wNil))) (gN 5) (wSeq (wSet .fz 6 (wOrV (w2 inV' (wName 5) (wIx (wName 3) (wName 4))) (w2 inV' (wName 4) (wIx (wName 3) (wName 5)))))
    (wIfS (wAnd (wTest (wName 6)) (wAnd (wTest (w2 notInV (wName 5) (wIx (wName 2) (wName 4)))) (wTest (w2 notInV (wName 4) (wIx (wName 2) (wName 5)))))) (wRet (wTup (wCons (wName 4) (wCons (wName 5) wNil)))) wNext))))
    (wRet (wC (.fz .none)))))
theorem ab_in {ps : List Pr} {n : Nat} {kss : List (List Int)} (hk : IsAb ps n kss) {i j : Nat} (hi : i < n) : (j : Int) ∈ kss.getD i [] ↔ Rch ps i j := by
  have hlt : i < kss.length := by rw [hk.1]; exact hi
  rw [List.getD_eq_getElem?_getD, List.getElem?_eq_getElem hlt]
  exact hk.2 i _ (List.getElem?_eq_getElem hlt) j
theorem ok_ws_parting : ∀ as Q, sp_parting as Q → ws_parting (env0 7 as) (endsOf Q) := by
  rintro as Q ⟨n, ps, qs, rfl, hn, h1, h2, q⟩
  refine ⟨_, rfl, n, ps, rfl, by omega, h1, fun kss hk => ⟨_, rfl, n, qs, rfl, by omega, h2, fun lss hl => ⟨_, rfl, _, rfl, ?_⟩⟩⟩
  refine ⟨_, rfl, .int n, ix_o0 _ _, _, rngV (n := n) (by omega), ?_⟩
  have kl := hk.1
  have ll := hl.1
  rw [← List.range_eq_range']
  refine wFor_find (fun i : Nat => .int (i : Nat)) (fun env => ∃ s4 s5 s6, env = [.fz (ordD n ps), .fz (ordD n qs), .fz (abD kss), .fz (abD lss), s4, s5, s6]) (fun i => (List.range' (i + 1) (n - (i + 1))).findSome? (prtAt ps qs i)) (fun p => .fz (.tuple [.int p.1, .int p.2])) _ ?_ ?_ ?_ _ ⟨.no, .no, .no, rfl⟩
  · rintro i hi _ De' ⟨s4, s5, s6, rfl⟩ hrt hr hx
    have hi' := List.mem_range.mp hi
    refine ⟨_, rfl, _, rfl, .int ((i + 1 : Nat) : Int), rfl, _, rfl, .int n, ix_o0 _ _, _, rng2V (by omega) hi', ?_⟩
    refine wFor_find (fun i : Nat => .int (i : Nat)) (fun env => ∃ s5 s6, env = [.fz (ordD n ps), .fz (ordD n qs), .fz (abD kss), .fz (abD lss), .fz (.int i), s5, s6]) (prtAt ps qs i) (fun p => .fz (.tuple [.int p.1, .int p.2])) _ ?_ ?_ ?_ _ ⟨s5, s6, rfl⟩
    · rintro j hj _ De2 ⟨s5, s6, rfl⟩ hrt2 hr2 hx2
      have hj' : j < n := by
        have := List.mem_range'.mp hj
        omega
      refine ⟨_, rfl, ?_⟩
      refine orV_ok (p := decide ((j : Int) ∈ lss.getD i [])) (q := decide ((i : Int) ∈ lss.getD j [])) (fun R r => ⟨_, rfl, _, rfl, _, rfl, _, ix_ab (by omega), _, in_esD _ _, r⟩) (fun R r => ⟨_, rfl, _, rfl, _, rfl, _, ix_ab (by omega), _, in_esD _ _, r⟩) ⟨_, rfl, ?_⟩
      suffices key : wp_if [.fz (ordD n ps), .fz (ordD n qs), .fz (abD kss), .fz (abD lss), .fz (.int (i : Nat)), .fz (.int (j : Nat)), .fz (.bool (decide ((j : Int) ∈ lss.getD i []) || decide ((i : Int) ∈ lss.getD j [])))] De2 from key
      refine ifS_ok (p := (decide ((j : Int) ∈ lss.getD i []) || decide ((i : Int) ∈ lss.getD j [])) && (decide ((j : Int) ∉ kss.getD i []) && decide ((i : Int) ∉ kss.getD j []))) (fun R r => and_ok (fun R r => tst_ok (fun R r => ⟨_, rfl, r⟩) r) (fun R r => and_ok (fun R r => tst_ok (fun R r => ⟨_, rfl, _, rfl, _, rfl, _, ix_ab (by omega), _, notIn_esD _ _, r⟩) r) (fun R r => tst_ok (fun R r => ⟨_, rfl, _, rfl, _, rfl, _, ix_ab (by omega), _, notIn_esD _ _, r⟩) r) r) r) (fun e => ?_) (fun e => ?_)
      · simp only [Bool.and_eq_true, Bool.or_eq_true, decide_eq_true_eq, ab_in hk hi', ab_in hk hj', ab_in hl hi', ab_in hl hj'] at e
        have hp : prtAt ps qs i j = some (i, j) := by
          unfold prtAt
          rw [if_pos ⟨e.1, fun z => z.elim e.2.1 e.2.2⟩]
        refine ⟨_, rfl, _, rfl, _, rfl, (show 2 ≤ sizeLine by decide), ?_⟩
        rw [hrt2]
        exact hr2 _ hp
      · have e' : ¬ (nest qs i j ∧ ¬ nest ps i j) := fun z => by
          have : ((decide ((j : Int) ∈ lss.getD i []) || decide ((i : Int) ∈ lss.getD j [])) && (decide ((j : Int) ∉ kss.getD i []) && decide ((i : Int) ∉ kss.getD j []))) = true := by
            simp only [Bool.and_eq_true, Bool.or_eq_true, decide_eq_true_eq, ab_in hk hi', ab_in hk hj', ab_in hl hi', ab_in hl hj']
            exact ⟨z.1, fun y => z.2 (.inl y), fun y => z.2 (.inr y)⟩
          rw [this] at e; cases e
        exact hx2 (by unfold prtAt; rw [if_neg e']) _ ⟨_, _, rfl⟩
    · rintro hf _ ⟨s5, s6, rfl⟩
      exact hx hf _ ⟨_, _, _, rfl⟩
    · intro b hb
      show De'.rt _
      rw [hrt]
      exact hr b hb
  · rintro hf _ ⟨s4, s5, s6, rfl⟩
    refine ⟨_, rfl, ?_⟩
    have : prt ps qs n = none := hf
    rw [this] at q; exact q
  · intro b hb
    refine ⟨_, rfl, ?_⟩
    have : prt ps qs n = some b := hb
    rw [this] at q; exact q
def sp_need_both : DL.Spec := fun as Q => ∃ (n : Nat) (ps qs : List Pr), as = [.fz (ordD n ps), .fz (ordD n qs)] ∧ Ord n ps ∧ Ord n qs ∧ Q .none
theorem len_need_both : ∀ as Q, sp_need_both as Q → as.length = 2 := by rintro as Q ⟨kss, l, hp, rfl, _⟩; rfl
def ws_need_both : WS := (wSeq (wDrop (wCall sp_need_order (wCons (wName 0) wNil)))
    (wIfS (wTest (w2 neD (wIx (wCall sp_need_order (wCons (wName 1) wNil)) (wC (.fz (.int 0)))) (wIx (wName 0) (wC (.fz (.int 0)))))) wNever wNext))
theorem ok_ws_need_both : ∀ as Q, sp_need_both as Q → ws_need_both (env0 2 as) (endsOf Q) := by
  rintro as Q ⟨n, ps, qs, rfl, o, p, q⟩
  refine ⟨_, rfl, n, ps, rfl, o, ?_⟩
  exact ⟨_, rfl, n, qs, rfl, p, .int n, ix_o0 _ _, _, rfl, .int n, ix_o0 _ _, .bool false, (ne_int n n).trans (by simp), _, rfl, ifF rfl q⟩
theorem is_cpl (p : Option (Nat × Nat)) : isD (cplD p) .none = some (.bool p.isNone) := by cases p <;> rfl
def sp_never_more : DL.Spec := fun as Q => ∃ (n : Nat) (ps qs : List Pr), as = [.fz (ordD n ps), .fz (ordD n qs)] ∧ Ord n ps ∧ Ord n qs ∧ Q (.bool (prt ps qs n).isNone)
theorem len_never_more : ∀ as Q, sp_never_more as Q → as.length = 2 := by rintro as Q ⟨kss, l, hp, rfl, _⟩; rfl
def ws_never_more : WS := (wSeq (wDrop (wCall sp_need_both (wCons (wName 0) (wCons (wName 1) wNil))))
    (wRet (w2 isD (wCall sp_parting (wCons (wName 0) (wCons (wName 1) wNil))) (wC (.fz .none)))))
theorem ok_ws_never_more : ∀ as Q, sp_never_more as Q → ws_never_more (env0 2 as) (endsOf Q) := by
  rintro as Q ⟨n, ps, qs, rfl, o, p, q⟩
  refine ⟨_, rfl, _, rfl, n, ps, qs, rfl, o, p, ?_⟩
  exact ⟨_, rfl, _, rfl, n, ps, qs, rfl, o.hi, o.sm, p.sm, _, is_cpl _, _, rfl, q⟩
def sp_are_alike : DL.Spec := fun as Q => ∃ (n : Nat) (ps qs : List Pr), as = [.fz (ordD n ps), .fz (ordD n qs)] ∧ Ord n ps ∧ Ord n qs ∧ Q (.bool ((prt ps qs n).isNone && (prt qs ps n).isNone))
theorem len_are_alike : ∀ as Q, sp_are_alike as Q → as.length = 2 := by rintro as Q ⟨kss, l, hp, rfl, _⟩; rfl
def ws_are_alike : WS := (wSeq (wDrop (wCall sp_need_both (wCons (wName 0) (wCons (wName 1) wNil))))
    (wRet (wAndV (w2 isD (wCall sp_parting (wCons (wName 0) (wCons (wName 1) wNil))) (wC (.fz .none))) (w2 isD (wCall sp_parting (wCons (wName 1) (wCons (wName 0) wNil))) (wC (.fz .none))))))
theorem ok_ws_are_alike : ∀ as Q, sp_are_alike as Q → ws_are_alike (env0 2 as) (endsOf Q) := by
  rintro as Q ⟨n, ps, qs, rfl, o, p, q⟩
  refine ⟨_, rfl, _, rfl, n, ps, qs, rfl, o, p, ?_⟩
  suffices key : wAndV (w2 isD (wCall sp_parting (wCons (wName 0) (wCons (wName 1) wNil))) (wC (.fz .none))) (w2 isD (wCall sp_parting (wCons (wName 1) (wCons (wName 0) wNil))) (wC (.fz .none))) (env0 2 [.fz (ordD n ps), .fz (ordD n qs)]) (endsOf Q).rt from key
  exact andV_ok (fun R r => ⟨_, rfl, _, rfl, n, ps, qs, rfl, o.hi, o.sm, p.sm, _, is_cpl _, r⟩) (fun R r => ⟨_, rfl, _, rfl, n, qs, ps, rfl, o.hi, p.sm, o.sm, _, is_cpl _, r⟩) ⟨_, rfl, q⟩
def sp_part : DL.Spec := fun as Q => ∃ (n : Nat) (ps qs : List Pr), as = [.fz (ordD n ps), .fz (ordD n qs)] ∧ Ord n ps ∧ Ord n qs ∧ Q (cplD (prt ps qs n))
theorem len_part : ∀ as Q, sp_part as Q → as.length = 2 := by rintro as Q ⟨kss, l, hp, rfl, _⟩; rfl
def ws_part : WS := (wSeq (wDrop (wCall sp_need_both (wCons (wName 0) (wCons (wName 1) wNil))))
    (wRet (wCall sp_parting (wCons (wName 0) (wCons (wName 1) wNil)))))
theorem ok_ws_part : ∀ as Q, sp_part as Q → ws_part (env0 2 as) (endsOf Q) := by
  rintro as Q ⟨n, ps, qs, rfl, o, p, q⟩
  refine ⟨_, rfl, _, rfl, n, ps, qs, rfl, o, p, ?_⟩
  exact ⟨_, rfl, _, rfl, n, ps, qs, rfl, o.hi, o.sm, p.sm, _, rfl, q⟩
end PF
namespace PF
open PySem DL
/-! ### pairs, sorted -/
def leP (p q : Pr) : Bool := decide (p.1 < q.1 ∨ (p.1 = q.1 ∧ p.2 ≤ q.2))
def srtP (ps : List Pr) : List Pr := ps.mergeSort leP
theorem srtP_mem {ps : List Pr} {p : Pr} : p ∈ srtP ps ↔ p ∈ ps := List.mem_mergeSort
theorem srtP_len (ps : List Pr) : (srtP ps).length = ps.length := List.length_mergeSort _
theorem sortD_prs (ps : List Pr) : sortD (ps.map prD) = (srtP ps).map prD := by
  unfold sortD srtP
  rw [List.map_mergeSort]
  intro a _ b _
  have := congrFun (congrFun (PySem.W.dataLe_ii (fun p : Pr => p.1) (fun p : Pr => p.2)) a) b
  exact this.symm
theorem alike_pr (p q : Pr) : PySem.W.alike (prD p) (prD q) = true := by simp [prD, PySem.W.alike, PySem.W.alikeAll]
theorem sortOk_prs {ps : List Pr} (h : ps.length < 1000) : sortOk (ps.map prD) = true := by
  have h1 : alikeB (ps.map prD) = true := by
    simp only [alikeB, List.all_map, List.all_eq_true, Function.comp]
    exact fun a _ b _ => alike_pr a b
  have h2 : (ps.map prD).all tup1 = true := by
    rw [List.all_map, List.all_eq_true]
    exact fun _ _ => rfl
  have h3 : PyData.canLayAll0 (ps.map prD) = true := by
    clear h h1 h2
    induction ps with
    | nil => rfl
    | cons x r ih => rw [List.map_cons, PyData.canLayAll0, ih]; rfl
  have h4 : (ps.map prD).all (fun d => decide (d.depth ≤ 50)) = true := by
    rw [List.all_map, List.all_eq_true]
    intro l _
    simp [Function.comp, prD, PyData.depth, PyData.depthAll]
  have h5 := small_sz h
  simp only [sortOk, h1, h2, h3, h4, Bool.true_or, Bool.and_true, Bool.true_and, List.length_map, decide_eq_true_eq]
  exact h5
theorem sorted_prs {ps : List Pr} (h : ps.length < 1000) : sortedD [.list (ps.map prD)] = some (.list ((srtP ps).map prD)) := by
  show (if sortOk (ps.map prD) = true then some (PyData.list (sortD (ps.map prD))) else none) = _
  rw [if_pos (sortOk_prs h), sortD_prs]
theorem sorted_prsT {ps : List Pr} (h : ps.length < 1000) : sortedD [prsD ps] = some (.list ((srtP ps).map prD)) := by
  show (if sortOk (ps.map prD) = true then some (PyData.list (sortD (ps.map prD))) else none) = _
  rw [if_pos (sortOk_prs h), sortD_prs]
theorem asc_pw : ∀ {ps : List Pr}, ps.Pairwise (fun p q => ltP p q = true) → asc ps = true
  | [], _ => rfl
  | [p], _ => rfl
  | p :: q :: r, h => by
    rw [List.pairwise_cons] at h
    simp only [asc, Bool.and_eq_true]
    exact ⟨h.1 q (List.mem_cons_self ..), asc_pw h.2⟩
theorem srtP_asc {ps : List Pr} (h : ps.Nodup) : asc (srtP ps) = true := by
  have h1 : (srtP ps).Pairwise (fun a b => leP a b = true) := List.pairwise_mergeSort (fun a b c h1 h2 => by simp only [leP, decide_eq_true_eq] at *; omega) (fun a b => by simp only [leP, Bool.or_eq_true, decide_eq_true_eq]; omega) ps
  have h2 : (srtP ps).Nodup := (List.mergeSort_perm ps leP).nodup_iff.mpr h
  refine asc_pw ((h1.and h2).imp fun {a b} ⟨x, y⟩ => ?_)
  simp only [leP, decide_eq_true_eq] at x
  simp only [ltP, Bool.or_eq_true, Bool.and_eq_true, decide_eq_true_eq]
  rcases x with x | ⟨x1, x2⟩
  · exact .inl x
  · by_cases e : a.2 = b.2
    · exact absurd (Prod.ext x1 e) y
    · exact .inr ⟨x1, by omega⟩
/-! ### orders whose pairs may stand in any row -/
structure OrdU (n : Nat) (ps : List Pr) : Prop where
  pr : ∀ p ∈ ps, isPair n p.1 p.2 = true
  no : ∀ k, ¬ Rch ps k k
  nd : ps.Nodup
  sm : ps.length < 1000
theorem Rch.mono {ps qs : List Pr} (h : ∀ p ∈ ps, p ∈ qs) {a b : Int} (r : Rch ps a b) : Rch qs a b := by
  induction r with
  | one e => exact .one (h _ e)
  | more _ e ih => exact .more ih (h _ e)
theorem rch_congr {ps qs : List Pr} (h : ∀ p, p ∈ ps ↔ p ∈ qs) {a b : Int} : Rch ps a b ↔ Rch qs a b := ⟨Rch.mono fun p hp => (h p).mp hp, Rch.mono fun p hp => (h p).mpr hp⟩
theorem Rch.trans {ps : List Pr} {a b c : Int} (r : Rch ps a b) (q : Rch ps b c) : Rch ps a c := by
  induction q with
  | one e => exact .more r e
  | more _ e ih => exact .more ih e
theorem asc_nd : ∀ {ps : List Pr}, asc ps = true → ps.Nodup ∧ ps.Pairwise fun p q => ltP p q = true
  | [], _ => ⟨List.nodup_nil, List.Pairwise.nil⟩
  | [p], _ => ⟨by simp, by simp⟩
  | p :: q :: r, h => by
    simp only [asc, Bool.and_eq_true] at h
    obtain ⟨h1, h2⟩ := asc_nd h.2
    have pw : (p :: q :: r).Pairwise fun p q => ltP p q = true := by
      refine List.pairwise_cons.mpr ⟨fun x hx => ?_, h2⟩
      rcases List.mem_cons.mp hx with rfl | hx
      · exact h.1
      · have a := h.1
        have b := (List.pairwise_cons.mp h2).1 x hx
        simp only [ltP, Bool.or_eq_true, Bool.and_eq_true, decide_eq_true_eq] at a b ⊢
        omega
    refine ⟨pw.imp fun {a b} x z => ?_, pw⟩
    subst z
    simp [ltP] at x
theorem Ord.u {n : Nat} {ps : List Pr} (o : Ord n ps) : OrdU n ps := ⟨o.pr, o.no, (asc_nd o.asc).1, o.sm⟩
theorem OrdU.srt {n : Nat} {ps : List Pr} (o : OrdU n ps) (h1 : 1 ≤ n) (h2 : n ≤ 12) : Ord n (srtP ps) :=
  ⟨h1, h2, fun p hp => o.pr p (srtP_mem.mp hp), srtP_asc o.nd, fun k r => o.no k ((rch_congr fun p => srtP_mem).mp r), by rw [srtP_len]; exact o.sm⟩
theorem OrdU.sub {n : Nat} {ps qs : List Pr} (o : OrdU n ps) (h : qs.Sublist ps) : OrdU n qs :=
  ⟨fun p hp => o.pr p (h.subset hp), fun k r => o.no k (r.mono fun p hp => h.subset hp), o.nd.sublist h, Nat.lt_of_le_of_lt h.length_le o.sm⟩
theorem isPair_iff {n : Nat} {i j : Int} : isPair n i j = true ↔ 0 ≤ i ∧ i < n ∧ 0 ≤ j ∧ j < n ∧ i ≠ j := by simp [isPair]
theorem OrdU.wide {n m : Nat} {ps : List Pr} (o : OrdU n ps) (h : n ≤ m) : OrdU m ps :=
  ⟨fun p hp => by have := isPair_iff.mp (o.pr p hp); exact isPair_iff.mpr (by omega), o.no, o.nd, o.sm⟩
theorem Rch.rng {n : Nat} {ps : List Pr} (h : ∀ p ∈ ps, isPair n p.1 p.2 = true) {a b : Int} (r : Rch ps a b) : (0 ≤ a ∧ a < n) ∧ 0 ≤ b ∧ b < n := by
  induction r with
  | one e => have := isPair_iff.mp (h _ e); simp only at this; omega
  | more _ e ih => have := isPair_iff.mp (h _ e); simp only at this; omega
/-- pairs, each the other way round -/
def flip (p : Pr) : Pr := (p.2, p.1)
theorem rch_flip {ps : List Pr} {a b : Int} (r : Rch (ps.map flip) a b) : Rch ps b a := by
  induction r with
  | one e =>
    obtain ⟨p, hp, e⟩ := List.mem_map.mp e
    injection e with e1 e2
    subst e1 e2
    exact .one hp
  | more _ e ih =>
    obtain ⟨p, hp, e⟩ := List.mem_map.mp e
    injection e with e1 e2
    subst e1 e2
    exact Rch.trans (.one hp) ih
theorem nodup_map {α β : Type} {f : α → β} (hf : ∀ a b, f a = f b → a = b) : ∀ {l : List α}, l.Nodup → (l.map f).Nodup := fun {l} h => by
  refine List.pairwise_map.mpr (h.imp fun {a b} x z => x (hf a b z))
theorem OrdU.flip {n : Nat} {ps : List Pr} (o : OrdU n ps) : OrdU n (ps.map PF.flip) :=
  ⟨fun p hp => by
    obtain ⟨q, hq, rfl⟩ := List.mem_map.mp hp
    have := isPair_iff.mp (o.pr q hq)
    exact isPair_iff.mpr (by simp only [PF.flip]; omega), fun k r => o.no k (rch_flip r), nodup_map (fun a b e => by
      injection e with e1 e2
      exact Prod.ext e2 e1) o.nd, by rw [List.length_map]; exact o.sm⟩
/-- kinds counted from behind -/
def back (n : Nat) (p : Pr) : Pr := ((n : Int) - 1 - p.1, (n : Int) - 1 - p.2)
theorem rch_back {n : Nat} {ps : List Pr} {a b : Int} (r : Rch (ps.map (back n)) a b) : Rch ps ((n : Int) - 1 - a) ((n : Int) - 1 - b) := by
  have key : ∀ a b : Int, (a, b) ∈ ps.map (back n) → ((n : Int) - 1 - a, (n : Int) - 1 - b) ∈ ps := fun a b e => by
    obtain ⟨p, hp, e⟩ := List.mem_map.mp e
    injection e with e1 e2
    have : p = ((n : Int) - 1 - a, (n : Int) - 1 - b) := Prod.ext (by show p.1 = (n : Int) - 1 - a; omega) (by show p.2 = (n : Int) - 1 - b; omega)
    rw [← this]; exact hp
  induction r with
  | one e => exact .one (key _ _ e)
  | more _ e ih => exact .more ih (key _ _ e)
theorem OrdU.back {n : Nat} {ps : List Pr} (o : OrdU n ps) : OrdU n (ps.reverse.map (PF.back n)) := by
  have o' : OrdU n ps.reverse := ⟨fun p hp => o.pr p (List.mem_reverse.mp hp), fun k r => o.no k (r.mono fun p hp => List.mem_reverse.mp hp), (List.reverse_perm ps).nodup_iff.mpr o.nd, by rw [List.length_reverse]; exact o.sm⟩
  refine ⟨fun p hp => ?_, fun k r => o'.no _ (rch_back r), nodup_map (fun a b e => ?_) o'.nd, by rw [List.length_map]; exact o'.sm⟩
  · obtain ⟨q, hq, rfl⟩ := List.mem_map.mp hp
    have := isPair_iff.mp (o'.pr q hq)
    exact isPair_iff.mpr (by simp only [PF.back]; omega)
  · injection e with e1 e2
    exact Prod.ext (by omega) (by omega)
/-- all that is reached, as pairs -/
theorem OrdU.closed {n : Nat} {ps qs : List Pr} (o : OrdU n ps) (h : ∀ p ∈ qs, Rch ps p.1 p.2) (nd : qs.Nodup) (sm : qs.length < 1000) : OrdU n qs := by
  have hr : ∀ {a b}, Rch qs a b → Rch ps a b := fun r => by
    induction r with
    | one e => exact h _ e
    | more _ e ih => exact Rch.trans ih (h _ e)
  refine ⟨fun p hp => ?_, fun k r => o.no k (hr r), nd, sm⟩
  have := (h p hp).rng o.pr
  have ne : p.1 ≠ p.2 := fun z => o.no p.1 (by have := h p hp; rw [← z] at this; exact this)
  exact isPair_iff.mpr (by omega)
/-- pairs along a row of kinds -/
structure Along (row : List Nat) (ps : List Pr) : Prop where
  nd : row.Nodup
  at' : ∀ p ∈ ps, ∃ a b : Nat, a < b ∧ b < row.length ∧ p = (((row.getD a 0 : Nat) : Int), ((row.getD b 0 : Nat) : Int))
theorem nd_get {row : List Nat} (h : row.Nodup) {a b : Nat} (ha : a < row.length) (hb : b < row.length) (e : row.getD a 0 = row.getD b 0) : a = b := by
  rw [List.getD_eq_getElem?_getD, List.getD_eq_getElem?_getD, List.getElem?_eq_getElem ha, List.getElem?_eq_getElem hb] at e
  have pw := List.pairwise_iff_getElem.mp h
  rcases Nat.lt_trichotomy a b with q | q | q
  · exact absurd e (pw a b ha hb q)
  · exact q
  · exact absurd e.symm (pw b a hb ha q)
theorem Along.rch {row : List Nat} {ps : List Pr} (h : Along row ps) {x y : Int} (r : Rch ps x y) : ∃ a b : Nat, a < b ∧ b < row.length ∧ x = (row.getD a 0 : Nat) ∧ y = (row.getD b 0 : Nat) := by
  induction r with
  | one e =>
    obtain ⟨a, b, h1, h2, e⟩ := h.at' _ e
    injection e with e1 e2
    exact ⟨a, b, h1, h2, e1, e2⟩
  | more _ e ih =>
    obtain ⟨a, b, h1, h2, e1, e2⟩ := ih
    obtain ⟨c, d, h3, h4, e⟩ := h.at' _ e
    injection e with e3 e4
    have : b = c := nd_get h.nd h2 (by omega) (by omega)
    exact ⟨a, d, by omega, h4, e1, e4⟩
theorem Along.u {row : List Nat} {ps : List Pr} {n : Nat} (h : Along row ps) (hl : row.length = n) (lt : ∀ x ∈ row, x < n) (nd : ps.Nodup) (sm : ps.length < 1000) : OrdU n ps := by
  have get : ∀ a, a < row.length → row.getD a 0 < n := fun a ha => by
    rw [List.getD_eq_getElem?_getD, List.getElem?_eq_getElem ha]
    exact lt _ (List.getElem_mem ha)
  refine ⟨fun p hp => ?_, fun k r => ?_, nd, sm⟩
  · obtain ⟨a, b, h1, h2, rfl⟩ := h.at' p hp
    have := get a (by omega)
    have := get b h2
    have ne : row.getD a 0 ≠ row.getD b 0 := fun z => by have := nd_get h.nd (by omega) h2 z; omega
    exact isPair_iff.mpr (by simp only; omega)
  · obtain ⟨a, b, h1, h2, e1, e2⟩ := h.rch r
    have := nd_get h.nd (a := a) (b := b) (by omega) h2 (by omega)
    omega
/-! ### how the fewest stacks compare -/
theorem nest_of_none {ps qs : List Pr} {n : Nat} (h : prt ps qs n = none) {i j : Nat} (hij : i < j) (hj : j < n) (q : nest qs i j) : nest ps i j := by
  refine Classical.byContradiction fun z => ?_
  unfold prt at h
  rw [List.findSome?_eq_none_iff] at h
  have h1 := h i (List.mem_range.mpr (by omega))
  rw [List.findSome?_eq_none_iff] at h1
  have h2 := h1 j (List.mem_range'.mpr ⟨j - (i + 1), by omega, by omega⟩)
  unfold prtAt at h2
  rw [if_pos ⟨q, z⟩] at h2
  cases h2
theorem prt_some {ps qs : List Pr} {n i j : Nat} (h : prt ps qs n = some (i, j)) : i < j ∧ j < n ∧ nest qs i j ∧ ¬ nest ps i j := by
  unfold prt at h
  obtain ⟨a, ha, h1⟩ := List.exists_of_findSome?_eq_some h
  obtain ⟨b, hb, h2⟩ := List.exists_of_findSome?_eq_some h1
  unfold prtAt at h2
  split at h2
  · rename_i c
    injection h2 with e
    injection e with e1 e2
    subst e1 e2
    have := List.mem_range.mp ha
    have := List.mem_range'.mp hb
    exact ⟨by omega, by omega, c.1, c.2⟩
  · cases h2
theorem cl_mono {ps qs : List Pr} {n : Nat} (p : Ord n ps) (q : Ord n qs) (h : prt ps qs n = none) {l : List Nat} (c : Cl ps n l) : Cl qs n l := by
  refine ⟨c.asc, c.lt, fun i hi j hj r => ?_⟩
  rcases Nat.lt_trichotomy i j with e | e | e
  · rcases nest_of_none h e (c.lt j hj) (.inl r) with z | z
    · exact c.no i hi j hj z
    · exact c.no j hj i hi z
  · subst e; exact q.no _ r
  · rcases nest_of_none h e (c.lt i hi) (.inr r) with z | z
    · exact c.no j hj i hi z
    · exact c.no i hi j hj z
theorem max_mono {ps qs : List Pr} {n : Nat} (p : Ord n ps) (q : Ord n qs) (h : prt ps qs n = none) {hp : List Int} {M N : Int} (a : IsMax ps n hp M) (b : IsMax qs n hp N) : M ≤ N := by
  obtain ⟨l, c, e⟩ := a.ex
  rw [← e]
  exact b.le l (cl_mono p q h c)
/-- one crate of each of two kinds -/
def two (n i j : Nat) : List Int := (List.range n).map fun k => if k = i ∨ k = j then 1 else 0
theorem two_get {n i j k : Nat} (h : k < n) : (two n i j).getD k 0 = if k = i ∨ k = j then 1 else 0 := by
  unfold two
  rw [List.getD_eq_getElem?_getD, List.getElem?_map, List.getElem?_range h]; rfl
theorem two_hp (n i j : Nat) : Hp n (two n i j) := ⟨by simp [two], fun x hx => by
  obtain ⟨k, _, rfl⟩ := List.mem_map.mp hx
  split <;> omega⟩
theorem sz_two {n i j : Nat} : ∀ l : List Nat, (∀ k ∈ l, k < n) → szOf (two n i j) l = (l.filter fun k => decide (k = i ∨ k = j)).length
  | [], _ => rfl
  | k :: l, h => by
    have ih := sz_two (i := i) (j := j) l fun x hx => h x (List.mem_cons_of_mem _ hx)
    have e : szOf (two n i j) (k :: l) = (two n i j).getD k 0 + szOf (two n i j) l := by simp [szOf]
    rw [e, ih, two_get (h k (List.mem_cons_self ..))]
    by_cases c : k = i ∨ k = j
    · rw [if_pos c, List.filter_cons_of_pos (by simpa using c), List.length_cons]; omega
    · rw [if_neg c, List.filter_cons_of_neg (by simpa using c)]; omega
theorem filt_two {i j : Nat} : ∀ l : List Nat, l.Pairwise (fun a b => a < b) → (l.filter fun k => decide (k = i ∨ k = j)).length ≤ (if i ∈ l then 1 else 0) + (if j ∈ l then 1 else 0)
  | [], _ => by simp
  | k :: l, h => by
    rw [List.pairwise_cons] at h
    have ih := filt_two (i := i) (j := j) l h.2
    have nk : k ∉ l := fun z => by have := h.1 k z; omega
    by_cases c : k = i ∨ k = j
    · rw [List.filter_cons_of_pos (by simpa using c), List.length_cons]
      rcases c with c | c
      · subst c
        rw [if_neg nk] at ih
        rw [if_pos (List.mem_cons_self ..)]
        by_cases e : j ∈ l
        · rw [if_pos e] at ih; rw [if_pos (List.mem_cons_of_mem _ e)]; omega
        · rw [if_neg e] at ih; omega
      · subst c
        rw [if_neg nk] at ih
        rw [if_pos (List.mem_cons_self (a := k))]
        by_cases e : i ∈ l
        · rw [if_pos e] at ih; rw [if_pos (List.mem_cons_of_mem _ e)]; omega
        · rw [if_neg e] at ih; omega
    · rw [List.filter_cons_of_neg (by simpa using c)]
      have e1 : i ∈ k :: l ↔ i ∈ l := by
        rw [List.mem_cons]; constructor
        · rintro (z | z)
          · exact absurd (.inl z.symm) c
          · exact z
        · exact .inr
      have e2 : j ∈ k :: l ↔ j ∈ l := by
        rw [List.mem_cons]; constructor
        · rintro (z | z)
          · exact absurd (.inr z.symm) c
          · exact z
        · exact .inr
      simp only [e1, e2]; exact ih
theorem two_apart {ps : List Pr} {n i j : Nat} (p : Ord n ps) (hij : i < j) (hj : j < n) (h : ¬ nest ps i j) {M : Int} (a : IsMax ps n (two n i j) M) : M = 2 := by
  have c : Cl ps n [i, j] := by
    refine ⟨by simp [hij], fun k hk => ?_, fun x hx y hy r => ?_⟩
    · simp at hk; omega
    · simp at hx hy
      rcases hx with rfl | rfl <;> rcases hy with rfl | rfl
      · exact p.no _ r
      · exact h (.inl r)
      · exact h (.inr r)
      · exact p.no _ r
  have h1 := a.le _ c
  have e : szOf (two n i j) [i, j] = 2 := by
    rw [sz_two _ c.lt]; simp
  obtain ⟨l, cl, e2⟩ := a.ex
  have h2 := filt_two (i := i) (j := j) l cl.asc
  rw [sz_two l cl.lt] at e2
  have : (if i ∈ l then 1 else 0) + (if j ∈ l then 1 else 0) ≤ 2 := by split <;> split <;> omega
  omega
theorem two_nested {ps : List Pr} {n i j : Nat} (p : Ord n ps) (hij : i < j) (hj : j < n) (h : nest ps i j) {M : Int} (a : IsMax ps n (two n i j) M) : M = 1 := by
  have c : Cl ps n [i] := by
    refine ⟨by simp, fun k hk => ?_, fun x hx y hy r => ?_⟩
    · simp at hk; omega
    · simp at hx hy
      subst hx hy
      exact p.no _ r
  have h1 := a.le _ c
  have e : szOf (two n i j) [i] = 1 := by
    rw [sz_two _ c.lt]; simp
  obtain ⟨l, cl, e2⟩ := a.ex
  have h2 := filt_two (i := i) (j := j) l cl.asc
  rw [sz_two l cl.lt] at e2
  have : (if i ∈ l then 1 else 0) + (if j ∈ l then 1 else 0) ≤ 1 := by
    by_cases x : i ∈ l
    · by_cases y : j ∈ l
      · rcases h with h | h
        · exact absurd h (cl.no i x j y)
        · exact absurd h (cl.no j y i x)
      · rw [if_pos x, if_neg y]; omega
    · rw [if_neg x]; split <;> omega
  omega
end PF
set_option maxHeartbeats 2000000
/-! Errors of the program's own classes under ValueError, whose __init__ says super().__init__(..) and may store one field. -/
namespace PySem
namespace EXN
open PySem.W PySem.Calls PyProof.Rows PySem.HandSPX
section
variable {prog : Program} {w : World} {A : Around} {E : Value → Shared → Prop} {h : Heap} {g : Array GenState} {d : Drawn} {t : Nat} {os : OsState}
variable {nm q : Str} {C N : Addr} {bs bm : List Value} {hdct : Bool} {sn : List Str} {sub : List Value} {ab : Bool} {col : Option Bool} {dd : Option Addr} {k0 k1 k2 k3 k5 : Option Value}
/-- ValueError.__init__ bound to the error at e, called -/
theorem call_mw {u e t0 : Addr} {rest : List Value} {Q : Value → Shared → Prop}
    (hC : h.get? C = some (excClassObj nm q C N bs bm hdct sn sub ab col dd k0 k1 k2 k3 k5 "ValueError.__new__")) (he : h.get? e = some (excO C t0)) (hu : h.get? u = some (kxs_mw "ValueError.__init__" e)) (hrest : rest.length ≤ sizeLine)
    (hq : ∀ h' t1, (∀ b o, b ≠ e → h.get? b = some o → h'.get? b = some o) → h'.get? e = some (excO C t1) → Q .none ⟨h', g, d, t, os⟩) :
    wpAny (model prog w) A (call (.ref u) rest) Q E ⟨h, g, d, t, os⟩ := by
  refine wpAny_call (codeAny_of_tree ?_)
  show wpAny _ A.in1 (callAny (.ref u) ⟨rest, []⟩) _ _ _
  simp only [callAny]
  refine wpAny_bind (wpAny_load hu ?_)
  simp only [kxs_mw, show (Value.type "method-wrapper" == Value.type "method" || Value.type "method-wrapper" == Value.type "builtin_function_or_method" || Value.type "method-wrapper" == Value.type "method-wrapper") = true by decide, if_true]
  refine W.KFB.if_so (by decide) ?_
  refine wpAny_bind (check_bound_init F.excBase_ValueError.toExcCallFacts hC he rfl ?_)
  refine wpAny_bind (wpAny_pure (wpAny_pure ?_))
  refine ⟨plainId_quiet F.excBase_ValueError.init.plain _, codeAny_builtin F.excBase_ValueError.initEntry ?_⟩
  refine exc_init_tree (cls := .ref C) (t0 := t0) (dv := none) (c2 := .none) (c3 := .none) (b4 := .bool false) he hrest fun h' k e' _ => ?_
  exact hq h' _ k e'
end
/-- the one def of a class of the text -/
def cInit : Stmt → Stmt
  | .ClassDef _ _ _ body _ _ _ _ _ _ _ => body.getD 0 (.Pass ⟨0, 0, 0, 0⟩)
  | st => st
/-- what the text says of such a class -/
structure Txt (P : Program) (K : Frag) (mg : Str → Option Value) (nm qual : Str) (st : Stmt) (C fI : Addr) : Prop where
  gC : mg nm = some (.ref C)
  cls : ∃ n q N bs bm sn sub ab col dd k0 k1 k2 k3 k5, K.lookup C = some (excClassObj n q C N bs bm true sn sub ab col dd k0 k1 k2 k3 k5 "ValueError.__new__") ∧ refsVE bm = true
  sa : findIn K (.ref C) "__setattr__" = some (some (.builtin "object.__setattr__"))
  ga : findIn K (.ref C) "__getattribute__" = some (some (.builtin "BaseException.__getattribute__"))
  gg : findIn K (.ref C) "__getattr__" = some none
  iC : findIn K (.ref C) "__init__" = some (some (.ref fI))
  tC : typeIn K (.ref fI) = some (.type "function")
  kC : keepIn K (.ref C) = true
  exC : subIn K (.ref C) (.type "BaseException") = some true
  vC : subIn K (.ref C) (.type "ValueError") = some true
  tyC : typeIn K (.ref C) = some (.type "type")
  hdC : hasDictIn K C = true
  mC : mroIn K C (.ref C) = some true
  sI : ks_superIn K C C "__init__" = some (some (.builtin "ValueError.__init__"))
  no3 : nsIn K cStatics "thirdparty.any" = some none
  mS : mg "super" = none
  top : (P.main.scope.names.lookup ("super" : Str)).isSome = false
  fn : ∃ (oc : Value) (od : Option Addr) (doc pm : Value) (an : Option Addr) (ct : Value) (osl : Array (Option Value)) (cda cc : Addr),
    K.lookup fI = some ⟨oc, od, .func (ksFn "__init__" qual (L2.defArgs (cInit st)) (L2.defBody (cInit st)) (L2.defScope (cInit st)) .none .none doc pm an (.ref cda) ct cc), osl⟩ ∧
    codeIn K (.ref cda) qual = true ∧
    (∃ ccl cdd vs ccs file tf, K.lookup cda = some ⟨ccl, cdd, .fields vs, ccs⟩ ∧ vs[2]? = some (.str file tf) ∧ ((P.main.file : Str) == file) = true) ∧
    (∃ cl cld csl, K.lookup cc = some ⟨cl, cld, .cell (some (.ref C)), csl⟩)
/-- what __init__ leaves of a fresh error at x: its field v -/
structure InitF (h h' : Heap) (x C dx : Addr) (fld : Str) (v : Value) : Prop where
  keep : ∀ b o, b ≠ x → h.get? b = some o → h'.get? b = some o
  obj : ∃ t1, h'.get? x = some { cls := .ref C, dict := some dx, data := .fields #[.ref t1, .none, .none, .none, .bool false, .none] }
  dbig : h.objs.size ≤ dx
  dne : dx ≠ x
  ns : h'.Ns1 dx (fun y => if y = fld then some v else none)
structure Init0 (h h' : Heap) (x C : Addr) : Prop where
  keep : ∀ b o, b ≠ x → h.get? b = some o → h'.get? b = some o
  obj : ∃ t1, h'.get? x = some (excO C t1)
theorem one_size (v : Value) : [v].length ≤ sizeLine := by
  rw [sizeLine_eq]
  exact (by decide : 1 ≤ 16777216)
theorem ldK {M : Model} {s : Shared} {env : Env} {m : Str → Option Value} {x : Str} {pos : Pos} {v : Value} {Q : Value → Shared → Prop} {A : Around} {E : Value → Shared → Prop} (hn : s.heap.Ns env.locals m) (hv : m x = some v) (h : Q v s)
    (hk : env.scope.kind = .function := by rfl) (hl : env.kindOf x = some .local := by rfl) (hd : (x == ("__debug__" : Str)) = false := by decide) :
    wpAny M A (eval (.Name x pos) env) Q E s := wpAny_Name (wpAny_loadName_local hk hl hn hv h) hd
/-- a made error with a field -/
structure MadeF (h h' : Heap) (e C d : Addr) (fld : Str) (v : Value) : Prop where
  keep : ∀ b o, h.get? b = some o → h'.get? b = some o
  new : h.objs.size ≤ e
  obj : ∃ oe vs, h'.get? e = some oe ∧ oe.cls = .ref C ∧ oe.dict = some d ∧ oe.data = .fields vs ∧ vs[1]? = some .none
  dbig : h.objs.size ≤ d
  dne : d ≠ e
  ns : h'.Ns1 d (fun y => if y = fld then some v else none)
structure Made0 (h h' : Heap) (e C : Addr) : Prop where
  keep : ∀ b o, h.get? b = some o → h'.get? b = some o
  new : h.objs.size ≤ e
  obj : ∃ oe vs, h'.get? e = some oe ∧ oe.cls = .ref C ∧ oe.dict = none ∧ oe.data = .fields vs ∧ vs[1]? = some .none
abbrev Blt (h : Heap) : Prop := ∃ mb, h.Ns builtinsNs mb ∧ ∀ x : Str, x ≠ "__name__" → mb x = bootBuiltins x
def FieldInit (P : Program) (w : World) (K : Frag) (mg : Str → Option Value) (C fI : Addr) (fld : Str) : Prop := ∀ (A : Around) (R : Result → Shared → Prop) (s : Shared) (x t0 : Addr) (v : Value), K.In s.heap → s.heap.NoLimit → s.heap.Ns mainGlobals mg → Blt s.heap →
  s.heap.get? x = some (excO C t0) → K.lookup x = none → A.depth < recursionLimit → (∀ h' tk dx, InitF s.heap h' x C dx fld v → R (.ok (.ret .none)) { s with heap := h', toks := tk }) → codeAny (model P w) A (.call (.ref fI) ⟨[.ref x, v], []⟩) R s
def PlainInit (P : Program) (w : World) (K : Frag) (mg : Str → Option Value) (C fI : Addr) : Prop := ∀ (A : Around) (R : Result → Shared → Prop) (s : Shared) (x t0 : Addr) (v : Value), K.In s.heap → s.heap.NoLimit → s.heap.Ns mainGlobals mg → Blt s.heap →
  s.heap.get? x = some (excO C t0) → K.lookup x = none → A.depth < recursionLimit → (∀ h' tk, Init0 s.heap h' x C → R (.ok (.ret .none)) { s with heap := h', toks := tk }) → codeAny (model P w) A (.call (.ref fI) ⟨[.ref x, v], []⟩) R s
section
variable {P : Program} {w : World} {A : Around} {R : Result → Shared → Prop} {s : Shared} {K : Frag} {mg : Str → Option Value} {C fI : Addr} {nm qual fld : Str} {st : Stmt}
theorem ns_keep {h h' : Heap} {a : Addr} {m : Str → Option Value} (n : h.Ns a m) (k : ∀ b o, h.get? b = some o → h'.get? b = some o) : h'.Ns a m := let ⟨o, es, ep, e, r⟩ := n; ⟨o, es, ep, k _ _ e, r⟩
theorem fresh_look {X : K.In s.heap} : K.lookup (s.heap.objs.size + 1) = none := by
  cases e : K.lookup (s.heap.objs.size + 1) with
  | none => rfl
  | some o => exact absurd (Nat.lt_of_succ_lt (Heap.lt_size (X _ _ e))) (Nat.lt_irrefl _)
theorem madeF (T : Txt P K mg nm qual st C fI) (FI : FieldInit P w K mg C fI fld) {v : Value} (X : K.In s.heap) (hlim : s.heap.NoLimit) (hg : s.heap.Ns mainGlobals mg) (hb : Blt s.heap) (hroom : A.depth + 1 < recursionLimit)
    (hq : ∀ h' tk e d, MadeF s.heap h' e C d fld v → R (.ok (.ret (.ref e))) { s with heap := h', toks := tk }) :
    codeAny (model P w) A (.call (.ref C) ⟨[v], []⟩) R s := by
  obtain ⟨n, q, N, bs, bm, sn, sub, ab, col, dd, k0, k1, k2, k3, k5, hC, hbm⟩ := T.cls
  have hnx := fresh_look (X := X)
  obtain ⟨hp, g, dr, tk, os⟩ := s
  have k : ∀ b o, hp.get? b = some o → ((hp.push (kdv_tup [v])).push (excO C hp.objs.size)).get? b = some o := fun b o e => Heap.get?_push_of_some _ (Heap.get?_push_of_some _ e)
  have hget : ((hp.push (kdv_tup [v])).push (excO C hp.objs.size)).get? (hp.objs.size + 1) = some (excO C hp.objs.size) := by heap_get
  refine call_own F.excBase_ValueError (fun X => refsVE_contains X bm hbm) (X _ _ hC) (looks_findIn X T.iC) (fun self => bind_fn X self T.tC) (one_size v) ?_
  obtain ⟨mb, hmb, hbb⟩ := hb
  refine FI _ _ ⟨(hp.push (kdv_tup [v])).push (excO C hp.objs.size), g, dr, tk, os⟩ _ _ v (X.keeps k) (hlim.keeps k) (ns_keep hg k) ⟨mb, ns_keep hmb k, hbb⟩ hget hnx ?_ fun h' tk' dx ⟨k', ⟨t1, hx⟩, dn, dne, hns⟩ => ?_
  · show A.depth + 1 < recursionLimit
    exact hroom
  · have old : ∀ b o, hp.get? b = some o → h'.get? b = some o := fun b o e => k' b o (Nat.ne_of_lt (Nat.lt_succ_of_lt (Heap.lt_size e))) (k b o e)
    have z : hp.objs.size + 1 + 1 ≤ dx := by
      have q := dn
      rw [Heap.size_push, Heap.size_push] at q
      exact q
    exact ⟨rfl, hq h' tk' (hp.objs.size + 1) dx ⟨old, Nat.le_succ _, ⟨_, _, hx, rfl, rfl, rfl, rfl⟩, by show hp.objs.size ≤ dx; omega, dne, hns⟩⟩
theorem made0 (T : Txt P K mg nm qual st C fI) (FI : PlainInit P w K mg C fI) {v : Value} (X : K.In s.heap) (hlim : s.heap.NoLimit) (hg : s.heap.Ns mainGlobals mg) (hb : Blt s.heap) (hroom : A.depth + 1 < recursionLimit)
    (hq : ∀ h' tk e, Made0 s.heap h' e C → R (.ok (.ret (.ref e))) { s with heap := h', toks := tk }) :
    codeAny (model P w) A (.call (.ref C) ⟨[v], []⟩) R s := by
  obtain ⟨n, q, N, bs, bm, sn, sub, ab, col, dd, k0, k1, k2, k3, k5, hC, hbm⟩ := T.cls
  have hnx := fresh_look (X := X)
  obtain ⟨hp, g, dr, tk, os⟩ := s
  have k : ∀ b o, hp.get? b = some o → ((hp.push (kdv_tup [v])).push (excO C hp.objs.size)).get? b = some o := fun b o e => Heap.get?_push_of_some _ (Heap.get?_push_of_some _ e)
  have hget : ((hp.push (kdv_tup [v])).push (excO C hp.objs.size)).get? (hp.objs.size + 1) = some (excO C hp.objs.size) := by heap_get
  refine call_own F.excBase_ValueError (fun X => refsVE_contains X bm hbm) (X _ _ hC) (looks_findIn X T.iC) (fun self => bind_fn X self T.tC) (one_size v) ?_
  obtain ⟨mb, hmb, hbb⟩ := hb
  refine FI _ _ ⟨(hp.push (kdv_tup [v])).push (excO C hp.objs.size), g, dr, tk, os⟩ _ _ v (X.keeps k) (hlim.keeps k) (ns_keep hg k) ⟨mb, ns_keep hmb k, hbb⟩ hget hnx ?_ fun h' tk' ⟨k', ⟨t1, hx⟩⟩ => ?_
  · show A.depth + 1 < recursionLimit
    exact hroom
  · have old : ∀ b o, hp.get? b = some o → h'.get? b = some o := fun b o e => k' b o (Nat.ne_of_lt (Nat.lt_succ_of_lt (Heap.lt_size e))) (k b o e)
    exact ⟨rfl, hq h' tk' (hp.objs.size + 1) ⟨old, Nat.le_succ _, ⟨_, _, hx, rfl, rfl, rfl, rfl⟩⟩⟩
end
end EXN
end PySem
namespace L2
open PySem PySem.Spec PyProof.Rows
theorem relO_fld {fld : Str} {v : V} {v' : Value} (r : RelV v v') (f : Str) : RelO (List.lookup f [(fld, v)]) (if f = fld then some v' else none) := by
  by_cases hw : f = fld
  · subst hw
    rw [if_pos rfl]
    have q : List.lookup f [(f, v)] = some v := by simp [List.lookup]
    rw [q]
    exact r
  · rw [if_neg hw]
    have qw : (f == fld) = false := by simpa using hw
    have q2 : List.lookup f [(fld, v)] = none := by simp [List.lookup, qw]
    rw [q2]
    trivial
section
variable {X : Cx} {C fI : Addr} {nm qual fld : Str} {st : Stmt}
def tMkF (C : Addr) (fld : Str) (ta : TA) : St → Hp → XK → Prop := fun σ H Q => ta σ H fun vs H1 => ∃ v, vs = [v] ∧ ∀ d, H1 d = none → Q (.ref C) (some d) (upd H1 d (.xd [(fld, v)]))
def tMk0 (C : Addr) (ta : TA) : St → Hp → XK → Prop := fun σ H Q => ta σ H fun vs H1 => ∃ v, vs = [v] ∧ Q (.ref C) none H1
theorem pmkF {a : Expr} {ta : TA} {p pos : Pos} {k : Nat} (T : PySem.EXN.Txt X.prog X.K X.mg nm qual st C fI) (FI : PySem.EXN.FieldInit X.prog X.w X.K X.mg C fI fld) (hr : Room k X.A) (ha : PA X [a] ta) (hg : Gl X nm) (hdb : (nm == ("__debug__" : Str)) = false)
    (he : starEach (a :: []) X.env = (false, eval a X.env) :: starEach [] X.env := by rfl) (hpl : (backTo pos (starEach [] X.env)).any (·.1) = false := by rfl) :
    PMk X (.Call (.Name nm p) [a] [] pos) (tMkF C fld ta) := by
  intro pins s σ H Q I h
  refine wpAny_Call_Name_kw (ld_glob I hg T.gC ?_ hdb)
  refine PySem.W.callWith_K (h₀ := X.base) I.ok.mod.kin T.kC (thn (ha.run pos pins s σ H _ I h) fun us s1 hh => ?_) he hpl
  obtain ⟨vs, H1, I1, r1, v, ev, q1⟩ := hh
  subst ev
  refine ⟨I1.kIn, ?_⟩
  cases r1 with
  | cons rv rn =>
    rename_i v' us'
    cases rn
    show wpAny _ _ (call (.ref C) [v']) _ _ _
    have hlim := I1.nolimit
    have hgl := PySem.EXN.ns_keep I1.ok.mod.glob I1.bk
    have hbl : PySem.EXN.Blt s1.heap := (let ⟨mb, h1, h2⟩ := I1.ok.mod.blt; ⟨mb, PySem.EXN.ns_keep h1 I1.bk, h2⟩)
    obtain ⟨hp, g, dr, tk, os⟩ := s1
    refine wpAny_call (PySem.EXN.madeF T FI I1.kIn hlim hgl hbl (by have := hr.dp; omega) fun h' tk' e d M => ?_)
    show MkP X pins σ Q (.ref e) ⟨h', g, dr, tk', os⟩
    obtain ⟨oe, fv, hoe, hc, hd, hdat, h1⟩ := M.obj
    have hns := M.ns
    obtain ⟨G', g1, g2⟩ := restrict h' fun b => decide (b ≠ e)
    have gk : ∀ b, b ≠ e → G'.get? b = h'.get? b := fun b hb => g1 b (decide_eq_true hb)
    have ge : G'.get? e = none := g2 e (by simp)
    have old : ∀ b o, hp.get? b = some o → G'.get? b = some o := fun b o q => (gk b (Nat.ne_of_lt (Nat.lt_of_lt_of_le (Heap.lt_size q) M.new))).trans (M.keep b o q)
    have ob : ObjOk X.prog X.w (upd H1 d (.xd [(fld, v)])) G' d (.xd [(fld, v)]) :=
      ⟨_, hns.at (fun o q => (gk d M.dne).trans q), fun f => relO_fld rv f⟩
    have J : Inv X pins σ (upd H1 d (.xd [(fld, v)])) ⟨G', g, dr, tk', os⟩ := I1.laid (t' := tk') old M.dbig ob
    refine ⟨e, oe, fv, ⟨G', g, dr, tk', os⟩, _, .ref C, some d, rfl, J, fun b o q => ?_, ge, hoe, ⟨hc, hd⟩, hdat, h1, ?_, rfl, I1.bare, raises_own T.exC T.tyC, q1 d (I1.hok.fresh M.dbig)⟩
    · by_cases hb : b = e
      · have q' : G'.get? b = some o := q
        rw [hb, ge] at q'; cases q'
      · exact (gk b hb).symm.trans q
    · rw [upd_ne (Ne.symm M.dne)]
      exact I1.hok.fresh M.new
theorem pmk0 {a : Expr} {ta : TA} {p pos : Pos} {k : Nat} (T : PySem.EXN.Txt X.prog X.K X.mg nm qual st C fI) (FI : PySem.EXN.PlainInit X.prog X.w X.K X.mg C fI) (hr : Room k X.A) (ha : PA X [a] ta) (hg : Gl X nm) (hdb : (nm == ("__debug__" : Str)) = false)
    (he : starEach (a :: []) X.env = (false, eval a X.env) :: starEach [] X.env := by rfl) (hpl : (backTo pos (starEach [] X.env)).any (·.1) = false := by rfl) :
    PMk X (.Call (.Name nm p) [a] [] pos) (tMk0 C ta) := by
  intro pins s σ H Q I h
  refine wpAny_Call_Name_kw (ld_glob I hg T.gC ?_ hdb)
  refine PySem.W.callWith_K (h₀ := X.base) I.ok.mod.kin T.kC (thn (ha.run pos pins s σ H _ I h) fun us s1 hh => ?_) he hpl
  obtain ⟨vs, H1, I1, r1, v, ev, q1⟩ := hh
  subst ev
  refine ⟨I1.kIn, ?_⟩
  cases r1 with
  | cons rv rn =>
    rename_i v' us'
    cases rn
    show wpAny _ _ (call (.ref C) [v']) _ _ _
    have hlim := I1.nolimit
    have hgl := PySem.EXN.ns_keep I1.ok.mod.glob I1.bk
    have hbl : PySem.EXN.Blt s1.heap := (let ⟨mb, h1, h2⟩ := I1.ok.mod.blt; ⟨mb, PySem.EXN.ns_keep h1 I1.bk, h2⟩)
    obtain ⟨hp, g, dr, tk, os⟩ := s1
    refine wpAny_call (PySem.EXN.made0 T FI I1.kIn hlim hgl hbl (by have := hr.dp; omega) fun h' tk' e M => ?_)
    show MkP X pins σ Q (.ref e) ⟨h', g, dr, tk', os⟩
    obtain ⟨oe, fv, hoe, hc, hd, hdat, h1⟩ := M.obj
    obtain ⟨G', g1, g2⟩ := restrict h' fun b => decide (b ≠ e)
    have gk : ∀ b, b ≠ e → G'.get? b = h'.get? b := fun b hb => g1 b (decide_eq_true hb)
    have ge : G'.get? e = none := g2 e (by simp)
    have old : ∀ b o, hp.get? b = some o → G'.get? b = some o := fun b o q => (gk b (Nat.ne_of_lt (Nat.lt_of_lt_of_le (Heap.lt_size q) M.new))).trans (M.keep b o q)
    have J : Inv X pins σ H1 ⟨G', g, dr, tk', os⟩ := I1.kept (t' := tk') old
    refine ⟨e, oe, fv, ⟨G', g, dr, tk', os⟩, _, .ref C, none, rfl, J, fun b o q => ?_, ge, hoe, ⟨hc, hd⟩, hdat, h1, I1.hok.fresh M.new, rfl, I1.bare, raises_own T.exC T.tyC, q1⟩
    by_cases hb : b = e
    · have q' : G'.get? b = some o := q
      rw [hb, ge] at q'; cases q'
    · exact (gk b hb).symm.trans q
/-- e.fld in an except suite that holds the error at a -/
def tFldX (C : Addr) (fld : Str) (a : Addr) (cls : Value) (d : Option Addr) (te : TE) : TE := fun σ H Q => te σ H fun x H1 => x = .ref a ∧ cls = .ref C ∧ ∃ (dd : Addr) (v : V), d = some dd ∧ H1 dd = some (.xd [(fld, v)]) ∧ Q v H1
theorem pe_fldX {a : Addr} {oe : Obj} {cls : Value} {d : Option Addr} {pn : List (Addr × Obj)} {e : Expr} {te : TE} {pos : Pos} (T : PySem.EXN.Txt X.prog X.K X.mg nm qual st C fI) (noN : PySem.W.findIn X.K (.ref C) fld = some none) (hz : Zc cls d oe) (hf : ∃ vs, oe.data = .fields vs) (he : PE (X.suite a ((a, oe) :: pn)) e te)
    (hb : attributeBase e fld X.env (eval e X.env) = eval e X.env) :
    PE (X.suite a ((a, oe) :: pn)) (.Attribute e fld pos) (tFldX C fld a cls d te) := by
  refine ⟨fun pins s σ H Q I h => ?_⟩
  refine attr_of hb (thn (he.run pins s σ H _ I h) fun u s1 hh => ?_)
  obtain ⟨x, H1, I1, rx, ex, ec, dd, v, ed, ea, q⟩ := hh
  subst ex
  obtain rfl : u = Value.ref a := rx
  subst ec
  subst ed
  obtain ⟨ha, _⟩ := I1.pin (a, oe) (List.mem_append_left _ List.mem_cons_self)
  obtain ⟨vs, hd⟩ := hf
  have hx : ObjOk X.prog X.w H1 s1.heap dd (.xd [(fld, v)]) := I1.hok dd _ ea
  obtain ⟨mA, hns, hr⟩ := hx
  obtain ⟨od, ho, hl⟩ := lookIn_ns hns
  have l : List.lookup fld [(fld, v)] = some v := by simp [List.lookup]
  obtain ⟨u, hu, ru⟩ := RelO.some_of (v := v) (o := mA fld) (by rw [← l]; exact hr fld)
  have J : PySem.W.InstAt s1.heap a oe C (some od) := ⟨ha, hz.1, by unfold PySem.W.notCls; rw [hd] <;> rfl, by rw [hz.2]; exact ho⟩
  exact HandSPX.exc_get I1.kIn J T.ga T.gg T.exC (PySem.W.findObj_own T.hdC noN rfl (by rw [hl, hu])) (handed_of ru) ⟨v, H1, I1.tok _, ru, q⟩
end
end L2
/-! Exceptions of the program's own classes, at the level of data; in defs that do not draw. -/
namespace DL
open PySem PySem.Spec PyProof.Rows L2

/-- an error: its class' name, its field's data (none where there is no field) -/
structure Xd where
  nm : Str
  d : D
/-- the classes of a law: name, class, field -/
abbrev CM := Str → Option (Addr × Option Str)
def XR (cm : CM) (w : Wd) (cls : Value) (o : Option Addr) (x : Xd) : Prop := ∃ C fo, cm x.nm = some (C, fo) ∧ cls = .ref C ∧ match fo with
  | none => o = none ∧ x.d = .none
  | some f => ∃ a v, o = some a ∧ ¬ w.M a ∧ w.H a = some (.xd [(f, v)]) ∧ Rp w v x.d
theorem no_dct_xd {l : List (Str × V)} : ¬ IsDct (.xd l) := fun h => by rcases h with ⟨_, h⟩ | ⟨_, h⟩ <;> cases h
theorem XR.st {cm : CM} {w w' : Wd} {cls : Value} {o : Option Addr} {x : Xd} (e : St1 w w') (h : XR cm w cls o x) : XR cm w' cls o x := by
  obtain ⟨C, fo, h1, h2, h3⟩ := h
  refine ⟨C, fo, h1, h2, ?_⟩
  cases fo with
  | none => exact h3
  | some f =>
    obtain ⟨a, v, q1, q2, q3, q4⟩ := h3
    exact ⟨a, v, q1, e.nm q2 q3, (e.keep a _ q2 q3).exact no_dct_xd, q4.st e⟩
abbrev EX := Ev → Xd → Prop
def XOk (cm : CM) (G : Gh) (W : WX) (Ex : EX) : Prop := ∀ env x, Ex env x → ∀ b w σ cls o, b ≤ cap → ER (G.at b) w env σ → XR cm w cls o x → W cls o σ w.H
theorem ER.less {G : Gh} {l : List Fx} {b : Nat} {w : Wd} {env : Ev} {σ : L2.St} (h : ER ((G.more l).at b) w env σ) : ER (G.at b) w env σ :=
  ⟨⟨h.kp, h.m0, h.nc, h.cp, h.cm, h.md, h.hd, fun p hp => h.gk p (List.mem_append_right _ hp), h.si, h.mt⟩, h.len, h.sl, h.od⟩
theorem XOk.more {cm : CM} {G : Gh} {W : WX} {Ex : EX} {l : List Fx} (h : XOk cm G W Ex) : XOk cm (G.more l) W Ex := fun env x q b w σ cls o hb er r => h env x q b w σ cls o hb er.less r

/-! ### raise -/
def wRaise (Ex : EX) (nm : Str) (wa : WE) : WS := fun env De => wa env fun dv => ∃ d, dv.kept = some d ∧ Ex env ⟨nm, d⟩
def wRaise0 (Ex : EX) (nm : Str) (wa : WE) : WS := fun env De => wa env fun _ => Ex env ⟨nm, .none⟩
section
variable {X : Cx} {G : Gh} {W : WX} {Ex : EX} {cm : CM} {C fI : Addr} {nm qual fld : Str} {st : Stmt} {a : Expr} {wa : WE} {ca k : Nat} {p pos pos' : Pos}
theorem ds_raiseF (tk : Takes X W) (hx : XOk cm G W Ex) (T : PySem.EXN.Txt X.prog X.K X.mg nm qual st C fI) (FI : PySem.EXN.FieldInit X.prog X.w X.K X.mg C fI fld) (hcm : cm nm = some (C, some fld)) (hr : Room k X.A) (ha : DE X G a wa ca) (hg : Gl X nm) (hdb : (nm == ("__debug__" : Str)) = false := by decide) (hc : X.calm = true := by rfl)
    (he : starEach (a :: []) X.env = (false, eval a X.env) :: starEach [] X.env := by rfl) (hpl : (backTo pos (starEach [] X.env)).any (·.1) = false := by rfl) :
    DS X G (.Raise (some (.Call (.Name nm p) [a] [] pos)) none pos') (wRaise Ex nm wa) ca := PS_imp (ps_raise hc tk (pmkF T FI hr (da_cons ha da_nil he) hg hdb he hpl)) fun σ H T h => by
  obtain ⟨env, M, C0, b0, De, hb0, er, hw, lf⟩ := h
  refine ⟨env, M, C0, b0, fun ds => match ds with | [x] => ∃ d, x.kept = some d ∧ Ex env ⟨nm, d⟩ | _ => False, hb0, er, hw, fun ds hd b1 w1 vs hb1 er1 e1 r1 => ?_⟩
  match ds, hd with
  | [x], ⟨d, hk, q⟩ =>
    cases r1 with
    | cons rv rn =>
      cases rn
      rename_i v
      refine ⟨v, rfl, fun dd hn => ?_⟩
      have sm : Same w1.H (upd w1.H dd (.xd [(fld, v)])) := same_new hn
      refine hx env _ q b1 ⟨upd w1.H dd (.xd [(fld, v)]), w1.M, w1.C⟩ σ _ _ (by omega) (er1.same sm) ⟨C, some fld, hcm, rfl, dd, v, rfl, fun m => er1.md dd m hn, upd_same, (rv.rp hk).st (St1.same sm)⟩
theorem ds_raise0 (tk : Takes X W) (hx : XOk cm G W Ex) (T : PySem.EXN.Txt X.prog X.K X.mg nm qual st C fI) (FI : PySem.EXN.PlainInit X.prog X.w X.K X.mg C fI) (hcm : cm nm = some (C, none)) (hr : Room k X.A) (ha : DE X G a wa ca) (hg : Gl X nm) (hdb : (nm == ("__debug__" : Str)) = false := by decide) (hc : X.calm = true := by rfl)
    (he : starEach (a :: []) X.env = (false, eval a X.env) :: starEach [] X.env := by rfl) (hpl : (backTo pos (starEach [] X.env)).any (·.1) = false := by rfl) :
    DS X G (.Raise (some (.Call (.Name nm p) [a] [] pos)) none pos') (wRaise0 Ex nm wa) ca := PS_imp (ps_raise hc tk (pmk0 T FI hr (da_cons ha da_nil he) hg hdb he hpl)) fun σ H T h => by
  obtain ⟨env, M, C0, b0, De, hb0, er, hw, lf⟩ := h
  refine ⟨env, M, C0, b0, fun ds => match ds with | [x] => Ex env ⟨nm, .none⟩ | _ => False, hb0, er, hw, fun ds hd b1 w1 vs hb1 er1 e1 r1 => ?_⟩
  match ds, hd with
  | [x], q =>
    cases r1 with
    | cons rv rn =>
      cases rn
      rename_i v
      exact ⟨v, rfl, hx env _ q b1 w1 σ _ _ (by omega) er1 ⟨C, none, hcm, rfl, rfl, rfl⟩⟩

/-! ### defs that may raise -/
end
abbrev SpecX := List Ag → (D → Prop) → (Xd → Prop) → Prop
def noC : Addr → Prop := fun _ => False
def spX (cm : CM) (spec : SpecX) : Sp := fun vs H Q E => ∃ (as : List Ag) (M : Addr → Prop) (Pd : D → Prop) (Px : Xd → Prop), Wf ⟨H, M, noC⟩ ∧ ARs ⟨H, M, noC⟩ vs as ∧ spec as Pd Px ∧
  (∀ d, Pd d → ∀ w' v, Ext ⟨H, M, noC⟩ w' → Wf w' → Rp w' v d → Q v w'.H) ∧ (∀ x, Px x → ∀ w' cls o, Ext ⟨H, M, noC⟩ w' → Wf w' → XR cm w' cls o x → E cls o w'.H)
theorem fn_raise {cm : CM} {P : Program} {w : World} {K : PySem.W.Frag} {mg : Str → Option Value} {base : Heap} {x qual : Str} {stm : Stmt} {f : Addr} {fd : FuncData} {N ps : List Str} {k c : Nat} {spec : SpecX} {ws : EX → WS}
    (F : Fun K x qual stm f fd) (S : FnScope N ps (defScope stm)) (hlen : ∀ as Q E, spec as Q E → as.length = ps.length)
    (hbody : ∀ (G : Gh) (cdv : Value) (A : Around) (outer : List Env) (s : Shared) (H : Hp) (E : XK) (W : WX) (Ex : EX), G.SI = SI0 → A.guards = some [] → Room k (A.deeper (envOfC qual (defScope stm) s.heap.objs.size f cdv)) → Takes (cxOf (L2.CX P w) P w K mg base N qual (defScope stm) f cdv A outer s H E) W → XOk cm G W Ex →
      PassesOwn (model P w) (cxOf (L2.CX P w) P w K mg base N qual (defScope stm) f cdv A outer s H E).A (cxOf (L2.CX P w) P w K mg base N qual (defScope stm) f cdv A outer s H E).env (cxOf (L2.CX P w) P w K mg base N qual (defScope stm) f cdv A outer s H E).xe →
      DSs (cxOf (L2.CX P w) P w K mg base N qual (defScope stm) f cdv A outer s H E) G (defBody stm) (ws Ex) c)
    (hspec : ∀ as Q E, spec as Q E → ws (fun _ x => E x) (env0 N.length as) (endsOf Q)) (hcc : c ≤ cap := by decide +kernel) : FnG P w K mg base (L2.CX P w) (k + 1) f fd ps (spX cm spec) := by
  obtain ⟨oc, od, kV, doc, pm, an, cdv, ct, osl, rfl, lk, hcd⟩ := F.ex
  refine fnG_of lk hcd S (fun vs H Q E h => ?_) fun A outer s H vs Q E hgd hr h => ?_
  · obtain ⟨as, M, Pd, Px, _, r, q, _⟩ := h
    rw [r.length]; exact hlen _ _ _ q
  · obtain ⟨as, M, Pd, Px, wf, r, q, hq, hqx⟩ := h
    have fin : ∀ (b' : Nat) (w' : Wd), EH ((ghOf SI0 stab0 H M noC wf.md).at b') w' → Ext ⟨H, M, noC⟩ ⟨w'.H, fun a => M a ∨ w'.C a, w'.C⟩ ∧ Wf ⟨w'.H, fun a => M a ∨ w'.C a, w'.C⟩ ∧ St1 w' ⟨w'.H, fun a => M a ∨ w'.C a, w'.C⟩ := fun b' w' eh => by
      refine ⟨⟨fun a o n h => ?_, eh.hd, eh.nc, fun a m => m.elim .inl fun c => (eh.nc a c).imp (wf.cm a) id, fun a m => .inl m⟩, ⟨fun a c => .inr c, fun a m => eh.md a (m.elim (eh.m0 a) (eh.cm a)), fun a xs m => eh.mt a xs (m.elim (eh.m0 a) (eh.cm a))⟩, ⟨fun a o _ h => .inl h, fun a m => .inl (Or.elim m (eh.m0 a) (eh.cm a))⟩⟩
      exact eh.kp a o ((ghOf_pt n).trans h)
    refine ⟨_, hbody (ghOf SI0 stab0 H M noC wf.md) cdv A outer s H E (fun cls d _ H => E cls d H) (fun _ x => Px x) rfl hgd hr (takes_of rfl rfl rfl rfl) (fun env x px b w' σ cls o hb er xr => ?_) (passes_of rfl), env0 N.length as, M, noC, 0, _, by omega, start_er wf trivial r, hspec as _ _ q, ?_⟩
    · obtain ⟨e1, e2, e3⟩ := fin b w' er.toEH
      exact hqx x px ⟨w'.H, fun a => M a ∨ w'.C a, w'.C⟩ cls o e1 e2 (xr.st e3)
    refine ⟨fun env' q b' w' σ' hb' er' => ?_, fun dv q b' w' Hs v hb' eh rv hh => ?_, fun _ q => q.elim, fun _ q => q.elim⟩
    · obtain ⟨e1, e2, e3⟩ := fin b' w' er'.toEH
      exact hq _ q ⟨w'.H, fun a => M a ∨ w'.C a, w'.C⟩ .non e1 e2 .non
    · obtain ⟨e1, e2, e3⟩ := fin b' w' eh
      obtain ⟨d, hd, q⟩ := q
      refine hq _ q ⟨w'.H, fun a => M a ∨ w'.C a, w'.C⟩ v e1 e2 ?_
      have fresh : ∀ {a : Addr}, H a = none → ¬ w'.C a → ¬ (M a ∨ w'.C a) := fun h0 nc m => m.elim (fun m => wf.md _ m h0) nc
      cases dv with
      | fz d' => cases hd; exact Rp.st e3 rv
      | nw d' =>
        cases hd
        obtain ⟨a, rfl, z, m, n, o⟩ := rv
        have h0 : H a = none := by
          cases y : H a with
          | none => rfl
          | some o => exact absurd z (hh a (by show H a ≠ none; rw [y]; simp))
        exact ((o.st (St1.less w' a) rfl).st e3 rfl).rp (fresh h0 n)
      | ow d' =>
        cases hd
        obtain ⟨a, rfl, m, z, p, n, o⟩ := rv
        exact (o.st e3 rfl).rp (fresh z n)
      | bw d' => cases hd
      | raw u => cases hd

/-! ### calls of such defs -/
def wCallX (spec : SpecX) (Ex : EX) (wr : WA) : WE := fun env P => wr env fun xs => spec (xs.map Dv.ag) (fun d => P (.fz d)) (fun x => Ex env x)
section
variable {X : Cx} {G : Gh} {W : WX} {Ex : EX} {cm : CM} {k : Nat} {f : Addr} {fd : FuncData} {ps : List Str} {spec : SpecX} {x : Str} {e : Expr} {es : List Expr} {wr : WA} {ca c : Nat} {p pos : Pos}
theorem run_fnX {sp : Sp} {pins : List (Addr × Obj)} {σ : L2.St} {H : Hp} {s : Shared} {Q : VK} {us : List Value} {vs : List V} (F : FnG X.prog X.w X.K X.mg X.base (L2.CX X.prog X.w) k f fd ps sp) (hgd : X.A.guards = some []) (hr : Room k X.A) (hb : Binds X.K fd ps []) (tk : Takes X W)
    (I : Inv X pins σ H s) (r : Vals vs us) (h : sp vs H Q (fun cls d H' => W cls d σ H')) : wpAny (model X.prog X.w) X.A (call (.ref f) us) (EP X pins σ Q) X.xe s := by
  have hl : (us ++ []).length = ps.length := by rw [List.append_nil, ← r.length]; exact F.len _ _ _ _ h
  have bd := hb s us I.kIn hl
  rw [List.append_nil] at bd
  refine wpAny_call (codeAny_mono (F.run X.A X.stack s H ⟨us, []⟩ us vs Q _ hgd hr I.env0 bd r h) fun r s' hq => ?_)
  cases r with
  | error e => exact tk e s' (XE.of_call I (fun _ _ _ h => h) hq)
  | ok fl => cases fl with
    | ret u => exact I.after hq
    | next => exact False.elim hq
    | brk => exact False.elim hq
    | cont => exact False.elim hq
def tCallX (sp : Sp) (W : WX) (t : TA) : TE := fun σ H Q => t σ H fun vs H1 => sp vs H1 Q fun cls d H' => W cls d σ H'
theorem pe_callX {sp : Sp} {t : TA} (F : FnG X.prog X.w X.K X.mg X.base (L2.CX X.prog X.w) k f fd ps sp) (hgd : X.A.guards = some []) (hr : Room k X.A) (hg : Gl X x) (hm : X.mg x = some (.ref f)) (hk : PySem.W.keepIn X.K (.ref f) = true) (hb : Binds X.K fd ps []) (tk : Takes X W)
    (ha : PA X (e :: es) t) (hdb : (x == ("__debug__" : Str)) = false := by decide) (he : starEach (e :: es) X.env = (false, eval e X.env) :: starEach es X.env := by rfl) (hpl : (backTo pos (starEach es X.env)).any (·.1) = false := by rfl) :
    PE X (.Call (.Name x p) (e :: es) [] pos) (tCallX sp W t) := by
  refine ⟨fun pins s σ H Q I h => wpAny_Call_Name_kw (ld_glob I hg hm ?_ hdb)⟩
  exact PySem.W.callWith_K (h₀ := X.base) I.ok.mod.kin hk (thn (ha.run pos pins s σ H _ I h) fun us s1 ⟨vs, H1, I1, r, q⟩ => ⟨I1.kIn, run_fnX F hgd hr hb tk I1 r q⟩) he hpl
theorem rd_callX {σ : L2.St} {H : Hp} {Q : VK} (hx : XOk cm G W Ex) (h : tV G (wCallX spec Ex wr) ca σ H Q) : tCallX (spX cm spec) W (tA G wr ca) σ H Q := by
  obtain ⟨env, M0, C0, bb, P, hbb, er0, hw, hf0⟩ := h
  refine ⟨env, M0, C0, bb, _, hbb, er0, hw, fun dxs kk b0 w xs hb0 er e0 rs => ?_⟩
  have up : St1 w ⟨w.H, w.M, noC⟩ := ⟨fun a o _ h => .inl h, fun a m => .inl m⟩
  have ars : ∀ {vs : List V} {as : List Ag}, ARs w vs as → ARs ⟨w.H, w.M, noC⟩ vs as := by
    intro vs as r
    induction r with
    | nil => exact .nil
    | @cons v vs a as h r ih =>
      refine .cons ?_ ih
      cases a with
      | fz d => exact Rp.st up h
      | raw u => exact h
      | bw d => obtain ⟨b, e, m, n, o⟩ := h; exact ⟨b, e, m, fun z => z, o.st up rfl⟩
  have go : ∀ w', Ext ⟨w.H, w.M, noC⟩ w' → Ext w ⟨w'.H, w.M, w.C⟩ ∧ ER (G.at b0) ⟨w'.H, w.M, w.C⟩ env σ ∧ St1 w' ⟨w'.H, w.M, w.C⟩ := fun w' e => by
    have ex : Ext w ⟨w'.H, w.M, w.C⟩ := ⟨fun a o n h => e.keep a o (fun z => z) h, e.dom, fun a c => .inl c, fun a m => .inl m, fun a m => m⟩
    have si : G.SI b0 w.C w'.H := G.stab _ _ _ _ er.si fun a o c h => (e.keep a o (fun z => z) h).elim id fun q => absurd (er.cm a c) q.1
    exact ⟨ex, er.ext' ex (er.toEH.ext ex si ⟨er.cm, fun a m => e.dom a (er.md a m), fun a xs m => e.ntup (fun z => z) m (er.md a m) (er.mt a xs m)⟩), ⟨fun a o _ h => .inl h, fun a m => .inl (e.oldM a m)⟩⟩
  refine ⟨_, w.M, _, _, ⟨fun a c => c.elim, er.md, er.mt⟩, ars rs.ars, kk, fun d pd w' v e wf r => ?_, fun x px w' cls o e wf r => ?_⟩
  · obtain ⟨ex, er', dn⟩ := go w' e
    exact hf0 _ pd b0 ⟨w'.H, w.M, w.C⟩ v hb0 er' (e0.trans ex) (Rp.st dn r)
  · obtain ⟨ex, er', dn⟩ := go w' e
    exact hx env x px b0 ⟨w'.H, w.M, w.C⟩ σ cls o (by omega) er' (r.st dn)
theorem de_callX (tk : Takes X W) (hx : XOk cm G W Ex) (F : FnG X.prog X.w X.K X.mg X.base (L2.CX X.prog X.w) k f fd ps (spX cm spec)) (hgd : X.A.guards = some []) (hr : Room k X.A) (hg : Gl X x) (hm : X.mg x = some (.ref f)) (hk : PySem.W.keepIn X.K (.ref f) = true) (hb : Binds X.K fd ps [])
    (ha : DA X G (e :: es) wr ca) (hdb : (x == ("__debug__" : Str)) = false := by decide) (he : starEach (e :: es) X.env = (false, eval e X.env) :: starEach es X.env := by rfl) (hpl : (backTo pos (starEach es X.env)).any (·.1) = false := by rfl) :
    DE X G (.Call (.Name x p) (e :: es) [] pos) (wCallX spec Ex wr) ca := PE_imp (pe_callX F hgd hr hg hm hk hb tk ha hdb he hpl) fun _ _ _ h => rd_callX hx h
end
end DL
/-! try with several except clauses, each with a name or without one. -/
namespace L2
open PySem PySem.Spec PyProof.Rows
abbrev TSu := Addr → Value → Option Addr → TS
/-- the ends of a suite whose name, slot i, goes behind it -/
def Ends.gone (D : Ends) (i : Nat) : Ends := { nx := fun σ H => D.nx (σ.set i none) H, rt := D.rt, bk := fun σ H => D.bk (σ.set i none) H, ct := fun σ H => D.ct (σ.set i none) H }
def enter (ts : TSu) (D : Ends) (cls : Value) (d : Option Addr) (σ : St) (H : Hp) (a : Addr) : Option Nat → Prop
  | none => ts a cls d D σ H
  | some i => ts a cls d (D.gone i) (σ.set i (some (.ref a))) H
def wGen (K : PySem.W.Frag) (Wout : WX) (D : Ends) : List (Value × Option Nat × TSu) → WX
  | [] => Wout
  | (c, oi, ts) :: r => fun cls d σ H => ∃ b, PySem.W.exmOne K cls c = some b ∧ (b = true → ∀ a, H a = none → enter ts D cls d σ H a oi) ∧ (b = false → wGen K Wout D r cls d σ H)
def NameOk (X : Cx) : Option Str → Option Nat → Prop
  | none, none => True
  | some n, some i => X.N.Nodup ∧ X.N[i]? = some n ∧ X.env.kindOf n = some .local
  | _, _ => False
inductive HdsG (X : Cx) : List ExceptHandler → List (Value × Option Nat × TSu) → Prop
  | nil : HdsG X [] []
  | cons {x : Str} {on : Option Str} {c : Value} {oi : Option Nat} {ts : TSu} {b₀ : Stmt} {suite : List Stmt} {np pos' : Pos} {hds : List ExceptHandler} {l : List (Value × Option Nat × TSu)} (hc : Names X x c) (hn : NameOk X on oi)
      (hsu : ∀ (a : Addr) (oe : Obj) (cls : Value) (d : Option Addr) (pn : List (Addr × Obj)), Zc cls d oe → (∃ vs, oe.data = .fields vs) → PSs (X.suite a ((a, oe) :: pn)) (b₀ :: suite) (ts a cls d)) (r : HdsG X hds l) :
      HdsG X (.ExceptHandler (some (.Name x np)) on (b₀ :: suite) pos' :: hds) ((c, oi, ts) :: l)
section
variable {X : Cx} {body : List Stmt} {h₀ : ExceptHandler} {hds : List ExceptHandler} {l : List (Value × Option Nat × TSu)} {pos : Pos} {tb : WX → TS} {Wout : WX}
theorem ps_try_gen (hs : X.stack = X.env :: X.outer) (hf : X.env.frame = some X.env.locals) (tk : Takes X Wout)
    (hb : ∀ (W : WX) (pn : List (Addr × Obj)) (xe : Value → Shared → Prop), Takes (X.tr pn xe) W → PassesOwn (model X.prog X.w) X.A X.env xe → PSs (X.tr pn xe) body (tb W))
    (hh : HdsG X (h₀ :: hds) l) : PS X (.Try body (h₀ :: hds) [] [] pos) (fun D σ H => tb (wGen X.K Wout D l) D σ H) := by
  refine ⟨fun pins s σ H D I h => ?_⟩
  have ok := I.ok
  have hfr : X.A.frames = some (X.env :: X.outer) := by rw [ok.frames, hs]
  refine wpAny_Try_except (wpAny_mono ((hb (wGen X.K Wout D l) (X.pn ++ pins) (fun e s₁ => wpAny (model X.prog X.w) X.A (noteFrame e X.env) (fun _ s₂ => wpAny (model X.prog X.w) X.A (setFlight e none) (fun _ s₃ =>
    wpAny (model X.prog X.w) X.A (handleBy e X.env (h₀ :: hds)) (SP X pins D) X.xe s₃) X.xe s₂) X.xe s₁) (fun u s' xx => ?_) PassesOwn.looking).run [] s σ H D (I.toTry _) h) (fun f s1 hsp => ?_) (fun e s1 he => he))
  case refine_2 =>
    cases f with
    | next => exact let ⟨σ', H', J', q⟩ := hsp; wpAny_execs_nil ⟨σ', H', J'.ofTry ok, q⟩
    | brk => exact let ⟨σ', H', J', q⟩ := hsp; ⟨σ', H', J'.ofTry ok, q⟩
    | cont => exact let ⟨σ', H', J', q⟩ := hsp; ⟨σ', H', J'.ofTry ok, q⟩
    | ret u => exact let ⟨v, σ', H', J', r, q⟩ := hsp; ⟨v, σ', H', J'.ofTry ok, r, q⟩
  obtain ⟨a, B, sI, pins', σ', H', cls, d, rfl, J', nb, up, sky, na, os, ag, w⟩ := xx
  have J : Inv X pins σ' H' sI := J'.ofTry ok
  rw [show (X.tr _ _).stack = X.env :: X.outer from hs] at sky
  refine Sky.land (env := X.env) Zc.steady hfr hf sky fun h3 fl3 up3 => ?_
  have J3 : Inv X pins σ' H' { s' with heap := h3 } := J.landed nb fl3.1 (up.trans up3) os ag
  obtain ⟨oe3, vs3, he3, hz3, hd3⟩ := fl3.there
  have nfr : a ∉ frs (X.env :: X.outer) := fun hm => by
    obtain ⟨_, o', e', hnf⟩ := fl3.2.2.1.mem hm
    rw [he3] at e'; cases e'
    exact hnf _ hd3
  have nL : a ≠ X.env.locals := fun z => nfr (List.mem_filterMap.mpr ⟨X.env, List.mem_cons_self, by rw [hf, z]⟩)
  have nF : a ∉ X.fs := fun hm => by
    obtain ⟨e, he, q⟩ := List.mem_filterMap.mp hm
    exact nfr (List.mem_filterMap.mpr ⟨e, List.mem_cons_of_mem _ he, q⟩)
  have S3 := J3.suite he3 hd3 na nL nF
  suffices go : ∀ {hds' : List ExceptHandler} {l' : List (Value × Option Nat × TSu)}, HdsG X hds' l' → wGen X.K Wout D l' cls d σ' H' →
      wpAny (model X.prog X.w) X.A (handleBy (.ref a) X.env hds') (SP X pins D) X.xe { s' with heap := h3 } from go hh w
  intro hds' l' hk
  induction hk with
  | nil =>
    intro w
    refine wpAny_handleBy_nil ?_
    obtain ⟨k1, k2, k3, oe, vs, T, oT, ts', he, hz, hd, h1, hr⟩ := id fl3
    unfold PySem.passOn
    refine wpAny_bind (wpAny_field he hd h1 ?_)
    rw [if_neg (show ¬ ((Value.ref T == Value.none) = true) from by simp)]
    have fin : wpAny (model X.prog X.w) X.A (setFlight (.ref a) X.env.frame) (fun _ s4 => wpAny (model X.prog X.w) X.A (throw (.ref a) : Sem Flow) (SP X pins D) X.xe s4) X.xe { s' with heap := h3 } := by
      rw [hf]
      refine HandSPX.setFlight_upZ fl3 fun h4 hh4 up4 => wpAny_throw (tk _ _ ?_)
      exact ⟨a, B, sI, pins, σ', H', cls, d, rfl, J, nb, (up.trans up3).trans up4, .inr (.inr (by rw [hs]; exact hh4)), na, os, ag, w⟩
    first
      | exact wpAny_bind (wpAny_pure (wpAny_bind fin))
      | exact wpAny_bind fin
  | @cons x on c oi ts b₀ suite np pos' hds2 l2 hc hn hsu r ih =>
    rintro ⟨b, hb1, hyes, hno⟩
    refine wpAny_handleBy_cons (codeAny_handlers_test ?_) (by intro q; cases q)
    have LT : PySem.W.Looks (model X.prog X.w) h3 (typeOf (.ref a)) cls := fun A Q E s k q => wpAny_typeOf_ref (k _ _ he3) (by rw [hz3.1]; exact q)
    have LM := PySem.W.exm_one (M := model X.prog X.w) (J3.kIn) LT hb1
    have test : ∀ {Q : Value → Shared → Prop} {E : Value → Shared → Prop}, Q c { s' with heap := h3 } → wpAny (model X.prog X.w) (X.A.mark (some (.ref a))) (eval (.Name x np) X.env) Q E { s' with heap := h3 } := fun {Q E} q => by
      obtain ⟨hg, hdbg, hm | ⟨hm, hv, hnn⟩⟩ := hc
      · exact ld_glob (X := X.suite a ((a, oe3) :: (X.pn ++ pins))) S3 hg hm q hdbg
      · exact ld_blt (X := X.suite a ((a, oe3) :: (X.pn ++ pins))) S3 hg hm hv q hnn hdbg
    refine test (LM.here ?_)
    cases b with
    | false => exact ih (hno rfl)
    | true =>
      have met : ∀ h4, HandSPX.FlyingZ B (X.env :: X.outer) a (Zc cls d) h4 → h3.UpToSlots h4 → ∃ oe4 vs4, Zc cls d oe4 ∧ oe4.data = .fields vs4 ∧ Inv (X.suite a ((a, oe4) :: (X.pn ++ pins))) [] σ' H' { s' with heap := h4 } := fun h4 fl4 up4 => by
        obtain ⟨oe4, vs4, he4, hz4, hd4⟩ := fl4.there
        exact ⟨oe4, vs4, hz4, hd4, (J.landed nb fl4.1 ((up.trans up3).trans up4) os ag : Inv X pins σ' H' { s' with heap := h4 }).suite he4 hd4 na nL nF⟩
      have q := hyes rfl a na
      cases on with
      | none =>
        cases oi with
        | some i => exact hn.elim
        | none =>
          refine codeAny_handlers_suite (HandSPX.lands_againZ fl3 fun h4 fl4 up4 => ?_)
          obtain ⟨oe4, vs4, hz4, hd4, S4⟩ := met h4 fl4 up4
          refine wpAny_mono ((hsu a oe4 cls d (X.pn ++ pins) hz4 ⟨_, hd4⟩).run [] _ _ H' _ S4 q) (fun f s6 hsp => ?_) (fun _ _ z => False.elim z)
          cases f with
          | next => exact let ⟨σ6, H6, S6, q6⟩ := hsp; ⟨_, _, S6.unsuite ok, q6⟩
          | brk => exact let ⟨σ6, H6, S6, q6⟩ := hsp; ⟨_, _, S6.unsuite ok, q6⟩
          | cont => exact let ⟨σ6, H6, S6, q6⟩ := hsp; ⟨_, _, S6.unsuite ok, q6⟩
          | ret u => exact let ⟨v6, σ6, H6, S6, r6, q6⟩ := hsp; ⟨_, _, _, S6.unsuite ok, r6, q6⟩
      | some n =>
        cases oi with
        | none => exact hn.elim
        | some i =>
          obtain ⟨hN, hi, hln⟩ := hn
          refine codeAny_handlers_suite_as (HandSPX.lands_againZ fl3 fun h4 fl4 up4 => ?_)
          obtain ⟨oe4, vs4, hz4, hd4, S4⟩ := met h4 fl4 up4
          refine store_ok (X := X.suite a ((a, oe4) :: (X.pn ++ pins))) (v := .ref a) S4 hN hi (.inl hln) rfl (fun s5 S5 => ?_) (.inr hln)
          refine wpAny_mono ((hsu a oe4 cls d (X.pn ++ pins) hz4 ⟨_, hd4⟩).run [] s5 _ H' _ S5 q) (fun f s6 hsp => ?_) (fun _ _ z => False.elim z)
          have end_ : ∀ {σ6 : St} {H6 : Hp} {Q : Shared → Prop}, Inv (X.suite a ((a, oe4) :: (X.pn ++ pins))) [] σ6 H6 s6 → (∀ s7, Inv X pins (σ6.set i none) H6 s7 → Q s7) →
              wpAny (model X.prog X.w) X.A (do bindName X.env n .none; unbindBehindTheSuite X.env n pos') (fun _ s7 => Q s7) X.xe s6 := fun {σ6 H6 Q} S6 hq => gone_ok (S6.unsuite ok) hN hi hln hq
          cases f with
          | next => exact let ⟨σ6, H6, S6, q6⟩ := hsp; end_ S6 fun s7 J7 => ⟨_, _, J7, q6⟩
          | brk => exact let ⟨σ6, H6, S6, q6⟩ := hsp; end_ S6 fun s7 J7 => ⟨_, _, J7, q6⟩
          | cont => exact let ⟨σ6, H6, S6, q6⟩ := hsp; end_ S6 fun s7 J7 => ⟨_, _, J7, q6⟩
          | ret u => exact let ⟨v6, σ6, H6, S6, r6, q6⟩ := hsp; end_ S6 fun s7 J7 => ⟨_, _, _, J7, r6, q6⟩
end
end L2
namespace DL
open PySem PySem.Spec PyProof.Rows L2
/-! ### what an error holds while its suite runs -/
def Gh.hold (G : Gh) (a : Addr) (f : Str) (v : V) (d : D) : Gh := { G with Pt := upd G.Pt a (.xd [(f, v)]), gs := fx v d :: G.gs }
section
variable {G : Gh} {b : Nat} {w : Wd} {env : Ev} {σ : L2.St} {a : Addr} {f : Str} {v : V} {d : D}
theorem hold_ne {c : Addr} (n : c ≠ a) : (G.hold a f v d).Pt c = G.Pt c := upd_ne n
theorem hold_at : (G.hold a f v d).Pt a = some (.xd [(f, v)]) := upd_same
theorem EH.hold (h : EH (G.at b) w) (m : ¬ w.M a) (q : w.H a = some (.xd [(f, v)])) (r : Rp w v d) : EH ((G.hold a f v d).at b) w := by
  refine ⟨fun c o e => ?_, h.m0, h.nc, fun c e => ?_, h.cm, h.md, h.hd, fun p hp => ?_, h.si, h.mt⟩
  · by_cases z : c = a
    · subst z
      have e' := (hold_at (G := G) (f := f) (v := v) (d := d)).symm.trans e
      cases e'
      exact .inl q
    · exact h.kp c o ((hold_ne z).symm.trans e)
  · have z : c ≠ a := fun z => m (z ▸ h.cm c e)
    exact (hold_ne (G := G) (f := f) (v := v) (d := d) z).trans (h.cp c e)
  · rcases List.mem_cons.mp hp with rfl | hp
    · exact r
    · exact h.gk p hp
theorem SlR.hold {ov : Option V} {s : Sl} (m : ¬ w.M a) (h : SlR (G.at b) w ov s) : SlR ((G.hold a f v d).at b) w ov s := by
  cases s with
  | no => exact h
  | fz d' => exact h
  | raw u => exact h
  | own d' =>
    obtain ⟨c, h1, h2, h3, h4, h5⟩ := h
    have z : c ≠ a := fun z => m (z ▸ h2)
    exact ⟨c, h1, h2, h3, (hold_ne (G := G) (f := f) (v := v) (d := d) z).trans h4, h5⟩
  | bw d' =>
    obtain ⟨c, h1, h2, h3, ⟨o, h4⟩, h5⟩ := h
    have z : c ≠ a := fun z => m (z ▸ h2)
    exact ⟨c, h1, h2, h3, ⟨o, (hold_ne (G := G) (f := f) (v := v) (d := d) z).trans h4⟩, h5⟩
theorem ER.hold (h : ER (G.at b) w env σ) (m : ¬ w.M a) (q : w.H a = some (.xd [(f, v)])) (r : Rp w v d) : ER ((G.hold a f v d).at b) w env σ :=
  ⟨h.toEH.hold m q r, h.len, fun i s ov h1 h2 => (h.sl i s ov h1 h2).hold m, h.od⟩
/-- at the entry the ghost knew nothing else of it -/
def Fits (G : Gh) (a : Addr) (f : Str) (v : V) : Prop := ∀ o, G.Pt a = some o → o = .xd [(f, v)]
theorem EH.fits (h : EH (G.at b) w) (q : w.H a = some (.xd [(f, v)])) : Fits G a f v := fun o e => by
  rcases h.kp a o e with z | ⟨_, _, ob, z⟩
  · rw [q] at z; cases z; rfl
  · rw [q] at z; cases z
theorem EH.drop (z : Fits G a f v) (h : EH ((G.hold a f v d).at b) w) : EH (G.at b) w := by
  refine ⟨fun c o e => ?_, h.m0, h.nc, fun c e => ?_, h.cm, h.md, h.hd, fun p hp => h.gk p (List.mem_cons_of_mem _ hp), h.si, h.mt⟩
  · by_cases y : c = a
    · subst y
      rw [z o e]
      exact h.kp c _ (hold_at (G := G) (f := f) (v := v) (d := d))
    · exact h.kp c o ((hold_ne (G := G) (f := f) (v := v) (d := d) y).trans e)
  · have y : c ≠ a := fun y => by
      have q := h.cp c e
      subst y
      have q' := (hold_at (G := G) (f := f) (v := v) (d := d)).symm.trans q
      cases q'
    exact (hold_ne (G := G) (f := f) (v := v) (d := d) y).symm.trans (h.cp c e)
theorem pt_none {c : Addr} (h : (G.hold a f v d).Pt c = none) : G.Pt c = none := by
  by_cases y : c = a
  · subst y
    have q' := (hold_at (G := G) (f := f) (v := v) (d := d)).symm.trans h
    cases q'
  · exact (hold_ne (G := G) (f := f) (v := v) (d := d) y).symm.trans h
theorem ER.drop (z : Fits G a f v) (h : ER ((G.hold a f v d).at b) w env σ) : ER (G.at b) w env σ := by
  refine ⟨h.toEH.drop z, h.len, fun i s ov h1 h2 => ?_, h.od⟩
  have q := h.sl i s ov h1 h2
  cases s with
  | no => exact q
  | fz d' => exact q
  | raw u => exact q
  | own d' =>
    obtain ⟨c, g1, g2, g3, g4, g5⟩ := q
    exact ⟨c, g1, g2, g3, pt_none g4, g5⟩
  | bw d' =>
    obtain ⟨c, g1, g2, g3, ⟨o, g4⟩, g5⟩ := q
    refine ⟨c, g1, g2, g3, ⟨o, ?_⟩, g5⟩
    by_cases y : c = a
    · subst y
      have k := h.kp c _ (hold_at (G := G) (f := f) (v := v) (d := d))
      exfalso
      rcases k with k | ⟨_, dc, _⟩
      · cases g5 with
        | lst e _ => rw [k] at e; cases e
        | dK e _ _ => rw [k] at e; cases e
        | dT e _ _ => rw [k] at e; cases e
      · exact no_dct_xd dc
    · exact (hold_ne (G := G) (f := f) (v := v) (d := d) y).symm.trans g4
theorem VR.drop {Hs : Hp} {u : V} {dv : Dv} (h : VR (G.hold a f v d) Hs w u dv) : VR G Hs w u dv := by
  cases dv with
  | fz _ => exact h
  | nw _ => exact h
  | bw _ => exact h
  | raw _ => exact h
  | ow d' =>
    obtain ⟨c, g1, g2, g3, g4, g5⟩ := h
    exact ⟨c, g1, g2, g3, pt_none g4, g5⟩
theorem EH.re (hS : G.SI = SI0) {b' : Nat} (h : EH (G.at b) w) : EH (G.at b') w := ⟨h.kp, h.m0, h.nc, h.cp, h.cm, h.md, h.hd, h.gk, by show G.SI b' w.C w.H; rw [hS]; trivial, h.mt⟩
theorem ER.re (hS : G.SI = SI0) {b' : Nat} (h : ER (G.at b) w env σ) : ER (G.at b') w env σ := ⟨h.toEH.re hS, h.len, h.sl, h.od⟩
end
/-- the error that a suite looks at -/
def SX (cm : CM) (cls : Value) (o : Option Addr) (x : Xd) (G : Gh) : Prop := ∃ C fo, cm x.nm = some (C, fo) ∧ cls = .ref C ∧ match fo with
  | none => o = none ∧ x.d = .none
  | some f => ∃ a v, o = some a ∧ G.Pt a = some (.xd [(f, v)]) ∧ fx v x.d ∈ G.gs

/-! ### try -/
abbrev Hd := (Str → Bool) × Option Nat × (Addr → Xd → WS)
def DEnds.gone (De : DEnds) (i : Nat) : DEnds := { nx := fun e => De.nx (e.set i .no), rt := De.rt, bk := fun e => De.bk (e.set i .no), ct := fun e => De.ct (e.set i .no) }
def wSuite (ts : Addr → Xd → WS) (oi : Option Nat) (x : Xd) (env : Ev) (De : DEnds) : Prop := ∀ a, match oi with
  | none => ts a x env De
  | some i => ts a x (env.set i (.raw (.ref a))) (De.gone i)
def wHds (Ex : EX) (De : DEnds) : List Hd → EX
  | [] => Ex
  | (mt, oi, ts) :: r => fun env x => if mt x.nm = true then wSuite ts oi x env De else wHds Ex De r env x
def wTry (tb : EX → WS) (l : List Hd) (Ex : EX) : WS := fun env De => tb (wHds Ex De l) env De
def lH (cm : CM) (G : Gh) (cs : Nat) (ts : Addr → Xd → WS) : TSu := fun a cls o T σ H => ∃ (x : Xd) (G' : Gh), G'.SI = SI0 ∧ SX cm cls o x G' ∧ tS G' (ts a x) cs T σ H
/-- the clauses, as data -/
inductive HdsD (cm : CM) (X : Cx) (G : Gh) : List ExceptHandler → List (Value × Option Nat × TSu) → List Hd → Prop
  | nil : HdsD cm X G [] [] []
  | cons {x : Str} {on : Option Str} {c : Value} {oi : Option Nat} {ts : Addr → Xd → WS} {mt : Str → Bool} {cs : Nat} {b₀ : Stmt} {suite : List Stmt} {np pos' : Pos} {hds : List ExceptHandler} {l : List (Value × Option Nat × TSu)} {l' : List Hd} (hc : Names X x c) (hn : NameOk X on oi)
      (hm : ∀ y C fo, cm y = some (C, fo) → PySem.W.exmOne X.K (.ref C) c = some (mt y)) (hcs : cs ≤ cap)
      (hsu : ∀ (a : Addr) (oe : Obj) (cls : Value) (o : Option Addr) (pn : List (Addr × Obj)) (x : Xd) (G' : Gh), Zc cls o oe → (∃ vs, oe.data = .fields vs) → G'.SI = SI0 → SX cm cls o x G' → DSs (X.suite a ((a, oe) :: pn)) G' (b₀ :: suite) (ts a x) cs) (r : HdsD cm X G hds l l') :
      HdsD cm X G (.ExceptHandler (some (.Name x np)) on (b₀ :: suite) pos' :: hds) ((c, oi, lH cm G cs ts) :: l) ((mt, oi, ts) :: l')
theorem HdsD.g {cm : CM} {X : Cx} {G : Gh} {hds : List ExceptHandler} {l : List (Value × Option Nat × TSu)} {l' : List Hd} (h : HdsD cm X G hds l l') : HdsG X hds l := by
  induction h with
  | nil => exact .nil
  | cons hc hn hm hcs hsu r ih =>
    refine .cons hc hn (fun a oe cls o pn hz hf => ⟨fun pins s σ H D I q => ?_⟩) ih
    obtain ⟨x, G', hS, sx, t⟩ := q
    exact (hsu a oe cls o pn x G' hz hf hS sx).run pins s σ H D I t
theorem Lift.re {G G' : Gh} {B B' : Nat} {T : Ends} {De : DEnds} (h : Lift G B T De) (h0 : G'.H0 = G.H0) (e1 : ∀ b w env σ, ER (G'.at b) w env σ → ER (G.at 0) w env σ) (e2 : ∀ b w, EH (G'.at b) w → EH (G.at 0) w) (e3 : ∀ Hs w v dv, VR G' Hs w v dv → VR G Hs w v dv) : Lift G' B' T De :=
  ⟨fun e q b w σ hb er => h.nx e q 0 w σ (Nat.zero_le _) (e1 _ _ _ _ er), fun dv q b w Hs v hb eh r hh => h.rt dv q 0 w Hs v (Nat.zero_le _) (e2 _ _ eh) (e3 _ _ _ _ r) (by rw [← h0]; exact hh),
    fun e q b w σ hb er => h.bk e q 0 w σ (Nat.zero_le _) (e1 _ _ _ _ er), fun e q b w σ hb er => h.ct e q 0 w σ (Nat.zero_le _) (e1 _ _ _ _ er)⟩
theorem Lift.gone {G : Gh} {B : Nat} {T : Ends} {De : DEnds} (h : Lift G B T De) (i : Nat) : Lift G B (T.gone i) (De.gone i) :=
  ⟨fun e q b w σ hb er => h.nx _ q b w _ hb (er.setNo i), h.rt, fun e q b w σ hb er => h.bk _ q b w _ hb (er.setNo i), fun e q b w σ hb er => h.ct _ q b w _ hb (er.setNo i)⟩
section
variable {X : Cx} {G : Gh} {cm : CM} {body : List Stmt} {h₀ : ExceptHandler} {hds : List ExceptHandler} {l : List (Value × Option Nat × TSu)} {l' : List Hd} {pos : Pos} {tb : EX → WS} {Wout : WX} {Ex : EX} {cb : Nat}
theorem hds_ok (hS : G.SI = SI0) (hx : XOk cm G Wout Ex) {B : Nat} {T : Ends} {De : DEnds} (lf : Lift G B T De) {hds : List ExceptHandler} (hh : HdsD cm X G hds l l') : XOk cm G (wGen X.K Wout T l) (wHds Ex De l') := by
  induction hh with
  | nil => exact hx
  | @cons x on c oi ts mt cs b₀ suite np pos' hds2 l2 l2' hc hn hm hcs hsu r ih =>
    intro env x q b w σ cls o hb er xr
    obtain ⟨C, fo, e1, rfl, e3⟩ := id xr
    refine ⟨mt x.nm, hm _ _ _ e1, fun hy a na => ?_, fun hy => ?_⟩
    · have q' : wSuite ts oi x env De := by
        have q0 : (if mt x.nm = true then wSuite ts oi x env De else wHds Ex De l2' env x) := q
        rw [if_pos hy] at q0; exact q0
      have main : ∃ G' : Gh, G'.SI = SI0 ∧ SX cm (.ref C) o x G' ∧ ER (G'.at 0) w env σ ∧ Lift G' (0 + cs) T De := by
        cases fo with
        | none => exact ⟨G, hS, ⟨C, none, e1, rfl, e3⟩, er.re hS, lf.re rfl (fun _ _ _ _ h => h.re hS) (fun _ _ h => h.re hS) fun _ _ _ _ h => h⟩
        | some f =>
          obtain ⟨dd, v, g1, g2, g3, g4⟩ := e3
          have z := er.toEH.fits (f := f) (v := v) g3
          have hS' : (G.hold dd f v x.d).SI = SI0 := hS
          exact ⟨G.hold dd f v x.d, hS', ⟨C, some f, e1, rfl, dd, v, g1, hold_at, List.mem_cons_self⟩, (er.hold g2 g3 g4).re hS', lf.re rfl (fun _ _ _ _ h => (h.drop z).re hS) (fun _ _ h => (h.drop z).re hS) fun _ _ _ _ h => h.drop⟩
      obtain ⟨G', hS', sx, er', lf'⟩ := main
      have qa := q' a
      cases oi with
      | none => exact ⟨x, G', hS', sx, env, w.M, w.C, 0, De, by omega, er', qa, lf'⟩
      | some i => exact ⟨x, G', hS', sx, env.set i (.raw (.ref a)), w.M, w.C, 0, De.gone i, by omega, er'.setRaw i, qa, lf'.gone i⟩
    · have q' : wHds Ex De l2' env x := by
        have q0 : (if mt x.nm = true then wSuite ts oi x env De else wHds Ex De l2' env x) := q
        rw [if_neg (by rw [hy]; exact Bool.false_ne_true)] at q0; exact q0
      exact ih env x q' b w σ _ o hb er xr
theorem ds_try (hS : G.SI = SI0) (hs : X.stack = X.env :: X.outer) (hf : X.env.frame = some X.env.locals) (tk : Takes X Wout) (hx : XOk cm G Wout Ex)
    (hb : ∀ (W : WX) (Ex' : EX) (pn : List (Addr × Obj)) (xe : Value → Shared → Prop), Takes (X.tr pn xe) W → XOk cm G W Ex' → PassesOwn (model X.prog X.w) X.A X.env xe → DSs (X.tr pn xe) G body (tb Ex') cb)
    (hh : HdsD cm X G (h₀ :: hds) l l') : DS X G (.Try body (h₀ :: hds) [] [] pos) (wTry tb l' Ex) cb :=
  PS_imp (ps_try_gen (tb := fun W T σ H => ∃ Ex', XOk cm G W Ex' ∧ tS G (tb Ex') cb T σ H) hs hf tk (fun W pn xe tkW ps => ⟨fun pins s σ H D I q => by
    obtain ⟨Ex', hx', t⟩ := q
    exact (hb W Ex' pn xe tkW hx' ps).run pins s σ H D I t⟩) hh.g) fun σ H T h => by
  obtain ⟨env, M, C0, b0, De, hb0, er, hw, lf⟩ := h
  exact ⟨wHds Ex De l', hds_ok hS hx lf hh, env, M, C0, b0, De, hb0, er, hw, lf⟩
end
/-- e.fld in a suite -/
def wFldX (nm : Str) (i : Nat) (a : Addr) (x : Xd) : WE := fun env P => x.nm = nm ∧ env[i]? = some (.raw (.ref a)) ∧ P (.fz x.d)
section
variable {X : Cx} {G' : Gh} {cm : CM} {C fI : Addr} {nm qual fld n : Str} {st : Stmt} {a : Addr} {oe : Obj} {cls : Value} {o : Option Addr} {pn : List (Addr × Obj)} {x : Xd} {p pos : Pos}
theorem de_fldX (i : Nat) (T : PySem.EXN.Txt X.prog X.K X.mg nm qual st C fI) (noN : PySem.W.findIn X.K (.ref C) fld = some none) (hcm : cm nm = some (C, some fld)) (hz : Zc cls o oe) (hf : ∃ vs, oe.data = .fields vs) (sx : SX cm cls o x G')
    (he : DE (X.suite a ((a, oe) :: pn)) G' (.Name n p) (wName i) 0) (hb : attributeBase (.Name n p) fld X.env (eval (.Name n p) X.env) = eval (.Name n p) X.env := by rfl) :
    DE (X.suite a ((a, oe) :: pn)) G' (.Attribute (.Name n p) fld pos) (wFldX nm i a x) 0 := PE_imp (pe_fldX T noN hz hf he hb) fun σ H Q h => by
  obtain ⟨env, M, C0, b0, P, hb0, er, ⟨hn, hi, hp⟩, hf'⟩ := h
  refine ⟨env, M, C0, b0, fun dv => dv = .raw (.ref a), hb0, er, ⟨.raw (.ref a), by rw [hi]; rfl, rfl⟩, fun dv hd b1 w1 v hb1 er1 e1 r1 => ?_⟩
  subst hd
  obtain ⟨C', fo, c1, c2, c3⟩ := sx
  rw [hn, hcm] at c1
  cases c1
  obtain ⟨dd, u, g1, g2, g3⟩ := c3
  refine ⟨r1, c2, dd, u, g1, ?_, hf' _ hp b1 w1 u hb1 er1 e1 (er1.gk _ g3)⟩
  rcases er1.kp dd _ g2 with k | ⟨_, dc, _⟩
  · exact k
  · exact (no_dct_xd dc).elim
end
theorem exm_of {K : PySem.W.Frag} {S S' : Addr} {b : Bool} (h1 : PySem.W.subIn K (.ref S') (.type "BaseException") = some true) (h2 : PySem.W.isClsIn K S' = true) (h3 : PySem.W.typeIn K (.ref S') = some (.type "type")) (h4 : PySem.W.subIn K (.ref S) (.ref S') = some b) :
    PySem.W.exmOne K (.ref S) (.ref S') = some b := by
  have e1 : (PySem.W.subIn K (.ref S') (.type "BaseException") == some true) = true := by rw [h1] <;> rfl
  have e2 : ((PySem.W.clsIn K S').isSome && PySem.W.typeIn K (.ref S') == some (.type "type")) = true := by
    have h2' : (PySem.W.clsIn K S').isSome = true := h2
    rw [h2', h3] <;> rfl
  show (if (PySem.W.subIn K (.ref S') (.type "BaseException") == some true) = true then (if ((PySem.W.clsIn K S').isSome && PySem.W.typeIn K (.ref S') == some (.type "type")) = true then PySem.W.subIn K (.ref S) (.ref S') else none) else none) = some b
  rw [if_pos e1, if_pos e2]
  exact h4
/-! ### no error, and which clause -/
def exNo : EX := fun _ _ => False
theorem takes_no {X : Cx} : Takes X (fun _ _ _ _ => False) := fun _ _ ⟨_, _, _, _, _, _, _, _, _, _, _, _, _, _, _, _, w⟩ => w.elim
theorem xok_no {cm : CM} {G : Gh} : XOk cm G (fun _ _ _ _ => False) exNo := fun _ _ h => h.elim
def mt (nm : Str) : Str → Bool := fun y => decide (y = nm)
end DL
namespace DL
open PySem PySem.Spec PyProof.Rows L2
/-! ### a, b, c = .., .., [..] by a tuple, where the last one becomes a local's own -/
def wAsg3O (i j l : Nat) (wa wb wc : WE) : WS := fun env De => wa env fun x => wb env fun y => wc env fun z => ∃ dx dy d, x.kept = some dx ∧ y.kept = some dy ∧ z = .nw d ∧ De.nx (((env.set i (.fz dx)).set j (.fz dy)).set l (.own d))
section
variable {X : Cx} {G : Gh} {a b c : Expr} {wa wb wc : WE} {ca cb cc : Nat} {pos : Pos}
theorem ds_asg3O (i j l : Nat) {x y z : Str} {px py pz pt : Pos} {kt k2 pt2} (hc : X.calm = true) (hN : X.N.Nodup) (ha : DE X G a wa ca) (hb : DE X G b wb cb) (hcc : DE X G c wc cc) (hi : X.N[i]? = some x := by rfl) (hj : X.N[j]? = some y := by rfl) (hl : X.N[l]? = some z := by rfl)
    (hx : Loc X.env.scope x := by first | exact Or.inl rfl | exact Or.inr rfl) (hy : Loc X.env.scope y := by first | exact Or.inl rfl | exact Or.inr rfl) (hz : Loc X.env.scope z := by first | exact Or.inl rfl | exact Or.inr rfl)
    (fx : X.fn x = true ∨ X.env.scope.names.lookup x = some .local := by first | exact .inl rfl | exact .inr rfl | assumption) (fy : X.fn y = true ∨ X.env.scope.names.lookup y = some .local := by first | exact .inl rfl | exact .inr rfl | assumption) (fz : X.fn z = true ∨ X.env.scope.names.lookup z = some .local := by first | exact .inl rfl | exact .inr rfl | assumption)
    (ne : starEach [a, b, c] X.env = (false, eval a X.env) :: starEach [b, c] X.env := by rfl) (ne2 : starEach [b, c] X.env = (false, eval b X.env) :: starEach [c] X.env := by rfl) (ne3 : starEach [c] X.env = (false, eval c X.env) :: starEach [] X.env := by rfl)
    (hn : (assignEach [.Name x px, .Name y py, .Name z pz] X.env).length = 3 := by rfl) (hst : (assignEach [.Name x px, .Name y py, .Name z pz] X.env).findIdx? (·.1) = none := by rfl)
    (q1 : (assignEach [.Name x px, .Name y py, .Name z pz] X.env).map (·.2) = assign (.Name x px) X.env :: (assignEach [.Name y py, .Name z pz] X.env).map (·.2) := by rfl) (q2 : (assignEach [.Name y py, .Name z pz] X.env).map (·.2) = assign (.Name y py) X.env :: (assignEach [.Name z pz] X.env).map (·.2) := by rfl) (q3 : (assignEach [.Name z pz] X.env).map (·.2) = assign (.Name z pz) X.env :: (assignEach [] X.env).map (·.2) := by rfl)
    (hs : swapsWithSole [.Tuple [.Name x px, .Name y py, .Name z pz] kt pt] (.Tuple [a, b, c] k2 pt2) pos.line X.env = pure false := by rfl) (hw : swappedStores [.Tuple [.Name x px, .Name y py, .Name z pz] kt pt] (.Tuple [a, b, c] k2 pt2) X.env = pure none := by rfl)
    (h1 : (assignEach [.Tuple [.Name x px, .Name y py, .Name z pz] kt pt] X.env).map (·.2) = [assign (.Tuple [.Name x px, .Name y py, .Name z pz] kt pt) X.env] := by rfl) :
    DS X G (.Assign [.Tuple [.Name x px, .Name y py, .Name z pz] kt pt] (.Tuple [a, b, c] k2 pt2) pos) (wAsg3O i j l wa wb wc) (ca + (cb + cc)) :=
  PS_imp (ps_asg (pe_tup (pa_cons ha (pa_cons hb (pa_cons hcc pa_nil ne3) ne2) ne)) (pg_tup hc (pgs_cons (pg_name hN hi hx fx) (pgs_cons (pg_name hN hj hy fy) (pgs_cons (pg_name hN hl hz fz) pgs_nil q3) q2) q1) hn hst) hs hw h1) fun σ H T h => by
    obtain ⟨env, M, C, b0, De, hb0, er, hw, lf⟩ := h
    suffices q : tV G wa ca σ H fun v1 H1 => tV G wb cb σ H1 fun v2 H2 => tV G wc cc σ H2 fun v3 H3 => [v1, v2, v3].length ≤ sizeLine ∧ ∀ q, H3 q = none → gTup X.K 3 (gCons (gName i) (gCons (gName j) (gCons (gName l) gNil))) (.ref q) σ (upd H3 q (.tup [v1, v2, v3])) T.nx from q
    refine ⟨env, M, C, b0, _, by omega, er, hw, fun dv1 h1 b1 w1 v1 hb1 er1 e1 r1 => ?_⟩
    refine ⟨env, w1.M, w1.C, b1, _, by omega, er1, h1, fun dv2 h2 b2 w2 v2 hb2 er2 e2 r2 => ?_⟩
    refine ⟨env, w2.M, w2.C, b2, _, by omega, er2, h2, fun dv3 h3 b3 w3 v3 hb3 er3 e3 r3 => ?_⟩
    obtain ⟨dx, dy, d, k1, k2, rfl, hn⟩ := h3
    refine ⟨by show 3 ≤ sizeLine; rw [sizeLine_eq]; omega, fun q nq => ?_⟩
    have sm : Same w3.H (upd w3.H q (.tup [v1, v2, v3])) := same_new nq
    have ex := Ext.same sm
    refine ⟨q, [v1, v2, v3], rfl, .inl (.inl upd_same), rfl, v1, _, rfl, v2, _, rfl, v3, _, rfl, rfl, ?_⟩
    obtain ⟨ad, rfl, n0, _, nc, o⟩ := VR.ext r3 ex er3.cm (fun _ h => h)
    have p1 := (r1.rp k1).st (e2.st er1.cm)
    have p2 := r2.rp k2
    have s23 := (e3.trans ex).st er2.cm
    have er2' := (er2.setFz p1 i).setFz p2 j
    have er3' := (((er3.same sm).setFz (p1.st s23) i).setFz (p2.st s23) j)
    exact lf.nx _ hn b3 _ _ (by omega) (ER.setNw er2' er3' (e3.trans ex) n0 nc o l)
end
end DL
namespace DL
open PySem PySem.Spec PyProof.Rows L2
/-- a def that may raise, where it does not -/
theorem FnG.noX {cm : CM} {P : Program} {w : World} {K : PySem.W.Frag} {mg : Str → Option Value} {base : Heap} {k : Nat} {f : Addr} {fd : FuncData} {ps : List Str} {spec : SpecX} {sp : Spec} (F : FnG P w K mg base (L2.CX P w) k f fd ps (spX cm spec)) (h : ∀ as Q, sp as Q → spec as Q (fun _ => False)) : FnG P w K mg base CX0 k f fd ps (spF SI0 0 sp) := by
  have tr : ∀ vs H Q E, spF SI0 0 sp vs H Q E → spX cm spec vs H Q (fun _ _ _ => False) := fun vs H Q E q => by
    obtain ⟨as, M, C, b, Pd, hb, wf, si, r, q, hq⟩ := q
    have up : St1 ⟨H, M, C⟩ ⟨H, M, noC⟩ := ⟨fun a o _ h => .inl h, fun a m => .inl m⟩
    have ars : ∀ {vs : List V} {as : List Ag}, ARs ⟨H, M, C⟩ vs as → ARs ⟨H, M, noC⟩ vs as := by
      intro vs as r
      induction r with
      | nil => exact .nil
      | @cons v vs a as h r ih =>
        refine .cons ?_ ih
        cases a with
        | fz d => exact Rp.st up h
        | raw u => exact h
        | bw d => obtain ⟨b, e, m, n, o⟩ := h; exact ⟨b, e, m, fun z => z, o.st up rfl⟩
    refine ⟨as, M, Pd, _, ⟨fun a c => c.elim, wf.md, wf.mt⟩, ars r, h as _ q, fun d pd w' v e wf' rv => ?_, fun x px => px.elim⟩
    have ex : Ext ⟨H, M, C⟩ ⟨w'.H, M, C⟩ := ⟨fun a o n h => e.keep a o (fun z => z) h, e.dom, fun a c => .inl c, fun a m => .inl m, fun a m => m⟩
    have dn : St1 w' ⟨w'.H, M, C⟩ := ⟨fun a o _ h => .inl h, fun a m => .inl (e.oldM a m)⟩
    exact hq d pd b ⟨w'.H, M, C⟩ v (Nat.le_refl _) ex trivial ⟨wf.cm, fun a m => e.dom a (wf.md a m), fun a xs m => e.ntup (fun z => z) m (wf.md a m) (wf.mt a xs m)⟩ (Rp.st dn rv)
  refine ⟨fun vs H Q E q => F.len vs H Q _ (tr vs H Q E q), fun A outer s H args us vs Q E g r e b v q => codeAny_mono (F.run A outer s H args us vs Q _ g r e b v (tr vs H Q E q)) fun res s' hq => ?_⟩
  cases res with
  | error u =>
    obtain ⟨_, _, _, _, _, _, _, _, _, _, _, _, z⟩ := hq
    exact z.elim
  | ok fl => cases fl <;> exact hq
end DL
namespace L2
open PySem PySem.Spec PyProof.Rows
theorem tuple_mul1 (l : Addr) (items : Array Value) (n : Nat) (dd : Option Addr) (sl : Array (Option Value)) (u : Tok) :
    Meets (Builtin.«tuple.__mul__» ⟨[.ref l, .int 1 u], []⟩) (fun _ R s => s.heap.get? l = some { cls := .type "tuple", dict := dd, data := .seq items n, slots := sl } ∧ R (.ok (.ret (Value.ref l))) s) :=
  .of_wp fun prog w A R s h => by
    obtain ⟨hp, g, d, tk, os⟩ := s
    obtain ⟨hl, h⟩ := h
    have f1 := AutoSeq1.idx_int
    have c0 : (decide ((1 : Int) < -(2 ^ 63)) || decide ((1 : Int) ≥ 2 ^ 63)) = false := by decide
    have c1 : (items.isEmpty || (1 : Int) == 1) = true := by simp
    wp_walk using wpAny_loadPart' hl
    repeat (first
      | (refine wpAny_ite_false (decide_eq_false (by rw [c0]; exact Bool.false_ne_true)) ?_; wp_walk using wpAny_loadPart' hl)
      | (refine wpAny_ite_true (decide_eq_true c1) ?_; wp_walk using wpAny_loadPart' hl))
    exact ⟨_, rfl, h⟩
def rRepT1 (K : PySem.W.Frag) : R2 := fun x y H Q => ∃ l xs, x = .ref l ∧ y = .int 1 ∧ SqT K H l xs ∧ Q (.ref l) H
section
variable {X : Cx}
theorem op_repT1 : OpR X (binaryOp .Mult) (rRepT1 X.K) := by
  intro pins s σ H x y v u Q I rx ry h
  obtain ⟨l, xs, rfl, rfl, hT, q⟩ := h
  cases rx
  obtain ⟨t, rfl⟩ := ry
  obtain ⟨its, r, ⟨⟨cls, dd, data, sl⟩, ho, hc, n, hd⟩, hs⟩ := I.tuple hT
  simp only at hc hd
  subst hc hd
  refine wpAny_binaryOp_repeat_ref (T := "tuple") (U := "int") (by decide) ⟨_, ho, rfl⟩ (fun s' => typeIs_int s' 1 t) noFill_tuple_mul F.fills_int_mul F.slot_int_rmul repeat_tuple F.slot_int_index.lookup
    (call_meets F.slot_int_rmul (typeIs_int s 1 t) F.entry_int_rmul (F.args_int_rmul_2 _ _) (int_rmul_tuple 1 t l its.toArray n dd sl)
      ⟨ho, rfl, ⟨_, ho, rfl⟩, call_meets F.slot_tuple_mul ⟨_, ho, rfl⟩ F.entry_tuple_mul (F.args_tuple_mul_2 _ _) (tuple_mul1 l its.toArray n dd sl t) ⟨ho, ?_⟩⟩)
  exact ⟨.ref l, H, I, rfl, q⟩
end
end L2
namespace DL
open PySem PySem.Spec PyProof.Rows L2
/-- a product, and a tuple one time -/
def mulX : D → D → Option D
  | .tuple a, .int k => if k = 1 then some (.tuple a) else mulD (.tuple a) (.int k)
  | a, b => mulD a b
section
variable {X : Cx}
theorem op_mulX : OpR X (binaryOp .Mult) (rV2 mulX) := by
  intro pins s σ H x y v u Q I rx ry h
  obtain ⟨w, dx, dy, d, eH, wk, qx, qy, hf, hq⟩ := id h
  by_cases hc : ∃ a, dx = .tuple a ∧ dy = .int 1
  · obtain ⟨a, rfl, rfl⟩ := hc
    have e : d = .tuple a := by
      simp only [mulX, if_pos] at hf
      exact (Option.some.inj hf).symm
    subst e
    subst eH
    cases qy
    cases qx with
    | tup n1 h1 r1 => exact op_repT1 pins s σ _ _ _ v u Q I rx ry ⟨_, _, rfl, rfl, SqT.of h1, hq _ _ (Same.refl _) (.tup n1 h1 r1)⟩
  · have e : mulX dx dy = mulD dx dy := by
      cases dx with
      | tuple a =>
        cases dy with
        | int k =>
          simp only [mulX]
          rw [if_neg fun z => hc ⟨a, rfl, by rw [z]⟩]
        | _ => rfl
      | _ => rfl
    exact op_mulD pins s σ H x y v u Q I rx ry ⟨w, dx, dy, d, eH, wk, qx, qy, by rw [← e]; exact hf, hq⟩
end
end DL
namespace DL
open PySem PySem.Spec PyProof.Rows L2
/-- a local's own thing is frozen ahead of a statement -/
def wFrz (i : Nat) (f : WS) : WS := fun env De => ∃ d, env[i]? = some (.own d) ∧ f (env.set i (.fz d)) De
section
variable {X : Cx} {G : Gh} {st : Stmt} {f : WS} {c : Nat}
theorem ds_frz (i : Nat) (h : DS X G st f c) : DS X G st (wFrz i f) c := PS_imp h fun σ H T q => by
  obtain ⟨env, M, C, b0, De, hb0, er, ⟨d, hd, hw⟩, lf⟩ := q
  obtain ⟨a, h1, _⟩ := er.ownAt hd
  obtain ⟨er1, _⟩ := er.freeze hd h1
  exact ⟨_, _, C, b0, De, hb0, er1, hw, lf⟩
end
end DL
namespace DL
open PySem PySem.Spec PyProof.Rows L2
/-! ### a, b, c = x, y, z, all of them new and of one's own -/
def wPar3O (i j l : Nat) (wa wb wc : WE) : WS := fun env De => wa env fun x => wb env fun y => wc env fun z => ∃ d1 d2 d3, x = .nw d1 ∧ y = .nw d2 ∧ z = .nw d3 ∧ De.nx (((env.set i (.own d1)).set j (.own d2)).set l (.own d3))
section
variable {X : Cx} {G : Gh} {a b c : Expr} {wa wb wc : WE} {ca cb cc : Nat} {pos : Pos}
/-- a held new thing becomes a slot's own -/
theorem ER.setHeld {w0 w : Wd} {env env0 : Ev} {σ σ0 : L2.St} {a : Addr} {d : D} {b0 b1 : Nat} (er0 : ER (G.at b0) w0 env0 σ0) (z : w0.H a = none) (er : ER (G.at b1) w env σ) (m : w.M a) (n : ¬ w.C a) (o : Ow w a d) (nd : ∀ (j : Nat) (d : D), env[j]? = some (Sl.own d) → σ[j]? ≠ some (some (V.ref a))) (i : Nat) :
    ER (G.at b1) w (env.set i (.own d)) (σ.set i (some (.ref a))) := by
  have fr : G.Pt a = none ∧ G.H0 a = none := ⟨by
      cases q : G.Pt a with
      | none => rfl
      | some x => rcases er0.kp a x q with y | ⟨_, _, ob, y⟩ <;> (rw [z] at y; cases y), by
      cases q : G.H0 a with
      | none => rfl
      | some x => exact absurd z (er0.hd a (by rw [q]; simp))⟩
  refine ⟨er.toEH, by rw [List.length_set, List.length_set]; exact er.len, fun j s ov q1 q2 => ?_, fun j k d1 d2 b q1 q2 q3 q4 => ?_⟩
  · rcases get_set q1 with ⟨rfl, rfl⟩ | ⟨n1, q1⟩
    · rcases get_set q2 with ⟨_, rfl⟩ | ⟨n2, _⟩
      · exact ⟨a, rfl, m, n, fr.1, fr.2, o⟩
      · exact absurd rfl n2
    · rcases get_set q2 with ⟨n2, _⟩ | ⟨_, q2⟩
      · exact absurd n2 n1
      · exact er.sl j s ov q1 q2
  · rcases get_set q1 with ⟨ej, _⟩ | ⟨n1, g1⟩
    · rcases get_set q2 with ⟨ek, _⟩ | ⟨n2, g2⟩
      · rw [ej, ek]
      · rcases get_set q3 with ⟨_, y⟩ | ⟨y, _⟩
        · rcases get_set q4 with ⟨y, _⟩ | ⟨_, g4⟩
          · exact absurd y n2
          · rw [V.ref.inj (Option.some.inj y)] at g4
            exact (nd k _ g2 g4).elim
        · exact absurd ej y
    · rcases get_set q3 with ⟨y, _⟩ | ⟨_, g3⟩
      · exact absurd y n1
      · rcases get_set q2 with ⟨ek, _⟩ | ⟨n2, g2⟩
        · rcases get_set q4 with ⟨_, y⟩ | ⟨y, _⟩
          · rw [V.ref.inj (Option.some.inj y)] at g3
            exact (nd j _ g1 g3).elim
          · exact absurd ek y
        · rcases get_set q4 with ⟨y, _⟩ | ⟨_, g4⟩
          · exact absurd y n2
          · exact er.od j k d1 d2 b g1 g2 g3 g4
theorem ds_par3O (i j l : Nat) {x y z : Str} {px py pz pt : Pos} {kt k2 pt2} (hcm : X.calm = true) (hN : X.N.Nodup) (ha : DE X G a wa ca) (hb : DE X G b wb cb) (hc : DE X G c wc cc) (hi : X.N[i]? = some x := by rfl) (hj : X.N[j]? = some y := by rfl) (hl : X.N[l]? = some z := by rfl) (hij : i ≠ j := by decide) (hil : i ≠ l := by decide) (hjl : j ≠ l := by decide)
    (hx : X.env.scope.names.lookup x = some .local := by rfl) (hy : X.env.scope.names.lookup y = some .local := by rfl) (hz : X.env.scope.names.lookup z = some .local := by rfl)
    (ne : starEach [a, b, c] X.env = (false, eval a X.env) :: starEach [b, c] X.env := by rfl) (ne2 : starEach [b, c] X.env = (false, eval b X.env) :: starEach [c] X.env := by rfl) (ne3 : starEach [c] X.env = (false, eval c X.env) :: starEach [] X.env := by rfl)
    (hw : swappedStores [.Tuple [.Name x px, .Name y py, .Name z pz] kt pt] (.Tuple [a, b, c] k2 pt2) X.env = pure (some [x, y, z]) := by rfl)
    (hs : swapsWithSole [.Tuple [.Name x px, .Name y py, .Name z pz] kt pt] (.Tuple [a, b, c] k2 pt2) pos.line X.env = pure false := by rfl) :
    DS X G (.Assign [.Tuple [.Name x px, .Name y py, .Name z pz] kt pt] (.Tuple [a, b, c] k2 pt2) pos) (wPar3O i j l wa wb wc) (ca + (cb + cc)) :=
  PS_imp (ps_par3 hcm hN hi hj hl hij hil hjl hx hy hz (pa_cons ha (pa_cons hb (pa_cons hc pa_nil ne3) ne2) ne) hw hs) fun σ H T h => by
    obtain ⟨env, M, C, b0, De, hb0, er, hp, lf⟩ := h
    suffices q : tV G wa ca σ H fun v1 H1 => tV G wb cb σ H1 fun v2 H2 => tV G wc cc σ H2 fun v3 H3 => ∃ u v w, [v1, v2, v3] = [u, v, w] ∧ T.nx (((σ.set i (some u)).set j (some v)).set l (some w)) H3 from q
    refine tV.held (K := fun env x => wb env fun y => wc env fun z => ∃ d1 d2 d3, x = .nw d1 ∧ y = .nw d2 ∧ z = .nw d3 ∧ De.nx (((env.set i (.own d1)).set j (.own d2)).set l (.own d3))) (w := ⟨H, M, C⟩) (b := b0) (by omega) er hp fun b1 w1 v1 x1 hb1 er1 e1 r1 hq1 => ?_
    refine tV.held (K := fun env y => wc env fun z => ∃ d1 d2 d3, x1 = .nw d1 ∧ y = .nw d2 ∧ z = .nw d3 ∧ De.nx (((env.set i (.own d1)).set j (.own d2)).set l (.own d3))) (b := b1) (by omega) er1 hq1 fun b2 w2 v2 x2 hb2 er2 e2 r2 hq2 => ?_
    refine tV.held (K := fun env z => ∃ d1 d2 d3, x1 = .nw d1 ∧ x2 = .nw d2 ∧ z = .nw d3 ∧ De.nx (((env.set i (.own d1)).set j (.own d2)).set l (.own d3))) (b := b2) (by omega) er2 hq2 fun b3 w3 v3 x3 hb3 er3 e3 r3 hq3 => ?_
    obtain ⟨d1, d2, d3, rfl, rfl, rfl, hn⟩ := hq3
    refine ⟨v1, v2, v3, rfl, ?_⟩
    have r1' := (r1.ext e2 er1.cm).ext e3 er2.cm
    have r2' := r2.ext e3 er2.cm
    obtain ⟨a1, rfl, z1, m1, n1, o1⟩ := r1'
    obtain ⟨a2, rfl, z2, m2, n2, o2⟩ := r2'
    obtain ⟨a3, rfl, z3, m3, n3, o3⟩ := r3
    obtain ⟨a1', e1', _, _, _, o1'⟩ := r1
    cases e1'
    obtain ⟨a2', e2', _, _, _, o2'⟩ := r2
    cases e2'
    have t1 : w1.H a1 ≠ none := by obtain ⟨ob, ho⟩ := o1'.there; rw [ho]; simp
    have t2 : w2.H a2 ≠ none := by obtain ⟨ob, ho⟩ := o2'.there; rw [ho]; simp
    have n12 : a1 ≠ a2 := fun e => t1 (by rw [e]; exact z2)
    have n13 : a1 ≠ a3 := fun e => e2.dom a1 t1 (by rw [e]; exact z3)
    have n23 : a2 ≠ a3 := fun e => t2 (by rw [e]; exact z3)
    have erA := ER.setHeld er z1 er3 m1 n1 o1 (fun k d q => er.notNew q z1) i
    have erB := ER.setHeld er1 z2 erA m2 n2 o2 (fun k d q g => by
      rcases get_set g with ⟨y, e⟩ | ⟨y, g⟩
      · exact n12 (V.ref.inj (Option.some.inj e)).symm
      · rcases get_set q with ⟨y', _⟩ | ⟨_, q⟩
        · exact y y'
        · exact er1.notNew q z2 g) j
    have erC := ER.setHeld er2 z3 erB m3 n3 o3 (fun k d q g => by
      rcases get_set g with ⟨y, e⟩ | ⟨y, g⟩
      · exact n23 (V.ref.inj (Option.some.inj e)).symm
      · rcases get_set q with ⟨y', _⟩ | ⟨_, q⟩
        · exact y y'
        · rcases get_set g with ⟨y2, e⟩ | ⟨y2, g⟩
          · exact n13 (V.ref.inj (Option.some.inj e)).symm
          · rcases get_set q with ⟨y', _⟩ | ⟨_, q⟩
            · exact y2 y'
            · exact er2.notNew q z3 g) l
    exact lf.nx _ hn b3 w3 _ (by omega) erC
end
/-! ### x.append(y.pop(e)) of two own lists -/
def wAppPop (i j : Nat) (we : WE) : WS := fun env De => ∃ ds es, env[i]? = some (.own (.list ds)) ∧ env[j]? = some (.own (.list es)) ∧ i ≠ j ∧ we env fun x => ∃ (k : Nat) (d : D), x.val = some (.int (k : Nat)) ∧ k < 1000 ∧ es[k]? = some d ∧ ds.length < sizeLine ∧ De.nx ((env.set j (.own (.list (es.eraseIdx k)))).set i (.own (.list (ds ++ [d]))))
section
variable {X : Cx} {G : Gh} {e : Expr} {we : WE} {ca : Nat} {pos p1 p2 p3 y1 y2 y3 : Pos}
theorem seqIx {k n : Nat} (h : k < n) : seqIndex? (k : Int) n = some k := by
  unfold seqIndex?
  have e : (if (k : Int) < 0 then (k : Int) + n else k) = k := if_neg (by omega)
  simp only [e]
  rw [if_pos (by simp; omega)]
  simp
theorem ds_appPop (i j : Nat) {x y : Str} (he : DE X G e we ca) (hN : X.N[i]? = some x := by rfl) (hv : Vis X.env.scope x := by first | exact Or.inl rfl | exact Or.inr (Or.inl rfl) | exact Or.inr (Or.inr rfl)) (hNy : X.N[j]? = some y := by rfl) (hvy : Vis X.env.scope y := by first | exact Or.inl rfl | exact Or.inr (Or.inl rfl) | exact Or.inr (Or.inr rfl))
    (hd : (x == ("__debug__" : Str)) = false := by decide) (hcd : (x == ("__classdict__" : Str)) = false := by decide) (hdy : (y == ("__debug__" : Str)) = false := by decide) (hcdy : (y == ("__classdict__" : Str)) = false := by decide)
    (hbase : attributeBase (.Name x p1) "append" X.env (eval (.Name x p1) X.env) = eval (.Name x p1) X.env := by rfl) (hbasey : attributeBase (.Name y y1) "pop" X.env (eval (.Name y y1) X.env) = eval (.Name y y1) X.env := by rfl)
    (hfew : ((backTo p3 (starEach [.Call (.Attribute (.Name y y1) "pop" y2) [e] [] y3] X.env)).all (fun x => !x.1) && (backToKw p3 (keywordEach [] X.env)).all (fun x => x.1.isSome)
      && decide ([Expr.Call (.Attribute (.Name y y1) "pop" y2) [e] [] y3].length + ([] : List Keyword).length + (if ([] : List Keyword).isEmpty then 0 else 1) < 30)) = true := by rfl)
    (hfewy : ((backTo y3 (starEach [e] X.env)).all (fun x => !x.1) && (backToKw y3 (keywordEach [] X.env)).all (fun x => x.1.isSome)
      && decide ([e].length + ([] : List Keyword).length + (if ([] : List Keyword).isEmpty then 0 else 1) < 30)) = true := by rfl)
    (hline : (p2.endLine == p3.line) = true := by rfl) (hliney : (y2.endLine == y3.line) = true := by rfl)
    (hs : starEach [.Call (.Attribute (.Name y y1) "pop" y2) [e] [] y3] X.env = (false, eval (.Call (.Attribute (.Name y y1) "pop" y2) [e] [] y3) X.env) :: starEach [] X.env := by rfl) (hsy : starEach [e] X.env = (false, eval e X.env) :: starEach [] X.env := by rfl)
    (hplain : (backTo p3 (starEach [] X.env)).any (·.1) = false := by rfl) (hplainy : (backTo y3 (starEach [] X.env)).any (·.1) = false := by rfl)
    (hsw : swapsWith (.Call (.Attribute (.Name x p1) "append" p2) [.Call (.Attribute (.Name y y1) "pop" y2) [e] [] y3] [] p3) none pos.line X.env = pure false := by rfl) :
    DS X G (.Expr (.Call (.Attribute (.Name x p1) "append" p2) [.Call (.Attribute (.Name y y1) "pop" y2) [e] [] y3] [] p3) pos) (wAppPop i j we) ca :=
  PS_imp (ps_expr (pe_bm PySem.F.plainAttrs_list PySem.F.slot_list_append PySem.F.type_list_append mt_append (pe_var hN hv hd hcd) (pa_cons (pe_bm PySem.F.plainAttrs_list PySem.F.slot_list_pop PySem.F.type_list_pop mt_popAt (pe_var hNy hvy hdy hcdy) (pa_cons he pa_nil hsy) hbasey hfewy hliney hsy hplainy) pa_nil hs) hbase hfew hline hs hplain) hsw) fun σ H T h => by
    obtain ⟨env, M, C, b0, De, hb0, er, ⟨ds, es, hi, hj, hij, hw⟩, lf⟩ := h
    obtain ⟨a, h1, m, c, p, z, ob⟩ := er.ownAt hi
    obtain ⟨q, h2, mq, cq, pq, zq, oq⟩ := er.ownAt hj
    cases ob with
    | @lst xs _ hx rl =>
      cases oq with
      | @lst ys _ hy ry =>
        refine ⟨.ref a, h1, .inl ⟨rfl, xs, SqL.of hx⟩, .ref q, h2, .inl ⟨rfl, ys, SqL.of hy⟩, env, M, C, b0, _, hb0, er, hw, fun dv hd b1 w1 v hb1 er1 e1 r1 => ?_⟩
        obtain ⟨k, d, hk, hk1, hkd, hz, n⟩ := hd
        have rv := r1.rq hk
        cases rv
        obtain ⟨q', h2', mq', cq', _, _, oq'⟩ := er1.ownAt hj
        rw [h2] at h2'
        cases h2'
        cases oq' with
        | @lst ys' _ hy' ry' =>
          obtain ⟨u, hu, ru⟩ := ry'.get hkd
          have hl : k < ys'.length := (List.getElem?_eq_some_iff.mp hu).1
          refine ⟨q, ys', (k : Int), k, u, rfl, rfl, hy', by omega, by omega, seqIx hl, hu, ?_⟩
          have st : St1 w1 ⟨upd w1.H q (.lst (ys'.eraseIdx k)), w1.M, w1.C⟩ := ⟨fun b x n q0 => .inl (by show upd w1.H q _ b = some x; rw [upd_ne (fun z => n (by rw [z]; exact mq'))]; exact q0), fun b m => .inl m⟩
          have er2 := er1.mut hj h2 (.lst upd_same ((ry'.eraseIdx k).st st) : Ow ⟨upd w1.H q (.lst (ys'.eraseIdx k)), w1.M, w1.C⟩ q (.list (es.eraseIdx k)))
          have hi' : (env.set j (.own (.list (es.eraseIdx k))))[i]? = some (.own (.list ds)) := by rw [List.getElem?_set_ne hij.symm]; exact hi
          obtain ⟨a', h1', m', c', _, _, ob'⟩ := er2.ownAt hi'
          rw [h1] at h1'
          cases h1'
          cases ob' with
          | @lst xs' _ hx' rl' =>
            refine ⟨a, xs', u, rfl, rfl, hx', by rw [rl'.length]; exact hz, ?_⟩
            have st2 : St1 ⟨upd w1.H q (.lst (ys'.eraseIdx k)), w1.M, w1.C⟩ ⟨upd (upd w1.H q (.lst (ys'.eraseIdx k))) a (.lst (xs' ++ [u])), w1.M, w1.C⟩ := ⟨fun b x n q0 => .inl (by show upd _ a _ b = some x; rw [upd_ne (fun z => n (by rw [z]; exact m'))]; exact q0), fun b m => .inl m⟩
            exact lf.nx _ n b1 ⟨upd (upd w1.H q (.lst (ys'.eraseIdx k))) a (.lst (xs' ++ [u])), w1.M, w1.C⟩ σ hb1 (er2.mut hi' h1 (.lst upd_same ((rl'.append (.cons (ru.st st) .nil)).st st2)))
end
/-! ### list(d): the keys of a dict -/
def wKeys (wa : WE) : WE := fun env P => wa env fun x => ∃ es : List (D × D), x.val = some (.dict es) ∧ P (.nw (.list (es.map (·.1))))
theorem CallR.or {X : Cx} {f : Value} {r1 r2 : List V → Hp → VK → Prop} (h1 : CallR X f r1) (h2 : CallR X f r2) : CallR X f (fun xs H Q => r1 xs H Q ∨ r2 xs H Q) := fun pins s σ H xs us Q I r h => h.elim (h1 pins s σ H xs us Q I r) (h2 pins s σ H xs us Q I r)
theorem rp_key {w : Wd} (k : Key) : Rp w (kV k) (kD k) := by
  cases k with
  | inl i => exact .int i
  | inr x => exact .str x
theorem rp_keys {w : Wd} : ∀ ks : List Key, RpL w (ks.map kV) (ks.map kD)
  | [] => .nil
  | k :: r => .cons (rp_key k) (rp_keys r)
theorem rp_tups {w : Wd} (mt : ∀ a xs, w.M a → w.H a ≠ some (.tup xs)) {kvs : List (List Key × V)} {bs : List Addr} (h : IsKeys w.H kvs bs) : RpL w (bs.map V.ref) (kvs.map fun p => .tuple (p.1.map kD)) := by
  unfold IsKeys at h
  induction h with
  | nil => exact .nil
  | cons h t ih => exact .cons (.tup (fun m => mt _ _ m h) h (rp_keys _)) ih
section
variable {X : Cx} {G : Gh} {e : Expr} {wa : WE} {ca : Nat} {p pos : Pos}
theorem de_keys (hcalm : X.calm = true) (hg : Gl X "list") (hm : X.mg "list" = none) (he : DE X G e wa ca) (hs : starEach [e] X.env = (false, eval e X.env) :: starEach [] X.env := by rfl) (hpl : (backTo pos (starEach [] X.env)).any (·.1) = false := by rfl) :
    DE X G (.Call (.Name "list" p) [e] [] pos) (wKeys wa) ca :=
  PE_imp (pe_callTy (CallR.or (L2.call_listD hcalm) (L2.call_list_dT hcalm)) hg hm (by decide +kernel) (da_cons he da_nil hs) (by decide) (by decide) hs hpl) fun σ H Q h => by
    obtain ⟨env, M, C, b0, P, hb0, er, hw, hf⟩ := h
    refine ⟨env, M, C, b0, fun ds => match ds with | [x] => ∃ es : List (D × D), x.val = some (.dict es) ∧ P (.nw (.list (es.map (·.1)))) | _ => False, hb0, er, hw, fun ds hd b1 w1 vs hb1 er1 e1 r1 => ?_⟩
    match ds, hd with
    | [x], ⟨es, hx, hp⟩ =>
      cases r1 with
      | cons rv rn =>
        cases rn
        have rq := rv.rq hx
        have fin := Fin.ext (w := ⟨H, M, C⟩) hf e1 hb1
        cases rq with
        | @dK a kvs _ hr ek rl =>
          refine .inl ⟨a, kvs, rfl, hr, fun q n => fin.pure er1 (d := PyData.list (es.map (fun z : D × D => z.1))) hp (same_new n) (newL n ?_)⟩
          rw [ek, show (kvs.map fun kv => kV kv.1) = (kvs.map (·.1)).map kV by rw [List.map_map]; rfl, show (kvs.map fun p => kD p.1) = (kvs.map (·.1)).map kD by rw [List.map_map]; rfl]
          exact rp_keys _
        | @dT a kvs _ hr ek rl =>
          refine .inr ⟨a, kvs, rfl, hr, fun q bs n hk => fin.pure er1 (d := PyData.list (es.map (fun z : D × D => z.1))) hp (same_new n) (newL n ?_)⟩
          rw [ek]
          exact rp_tups er1.mt hk
end
end DL
set_option maxHeartbeats 3200000
/-! sorted(set(xs)), xs a list of ints. -/
namespace L2
open PySem PySem.Spec PyProof.Rows
section
variable {P : Program} {w : World} {A : Around} {E : Value → Shared → Prop} {s : Shared}
abbrev emptySet (w : World) : Obj := { cls := .type "set", dict := none, data := .set #[] 0 (.fresh 0 0 (!w.params.followText "set-order")) }
theorem set_of_list {l : Addr} {items : Array Value} (ns : List Int) {Q : Value → Shared → Prop} (hh : A.handled = none) (hl : s.heap.IsList l items) (hit : IntsAre items.toList ns) (hb : ns.length + 1 < scanBound)
    (h : ∀ (h' : Heap) (tk c : Nat), SetR w h' s.heap.objs.size (fun j => decide (j ∈ ns)) c → c ≤ ns.length → (∀ b o, s.heap.get? b = some o → h'.get? b = some o) → Q (.ref s.heap.objs.size) { s with heap := h', toks := tk }) :
    wpAny (model P w) A (call (.type "set") [.ref l]) Q E s := by
  have hisz : items.size = ns.length := by have q := IntsAre.length hit; rw [Array.length_toList] at q; exact q
  obtain ⟨c, tl, hmro⟩ := F.called_set.mro
  have hmade := F.called_set.made
  have hsub := F.called_set.sub
  refine wpAny_call (codeAny_of_tree (show wpAny _ _ (callAny (.type "set") _) _ _ _ from wpAny_pure ⟨Code.quiet_builtin _ (by decide +kernel), codeAny_builtin F.entry_type_call ?_⟩))
  rw [Around.under_plain (weight_type_call_type "set" [.ref l] []) rfl]
  have h1 := F.called_set.notType
  have h2 := F.called_set.canCreate
  have hct := F.typeCall_set_1 (.ref l)
  repeat (any_goals (first | assumption | wp_step))
  refine codeAny_mono (code_set_led1 (.ref l) (E := E) (Q₁ := fun obj s₁ => obj = .ref s.heap.objs.size ∧ s₁ = { s with heap := s.heap.push (emptySet w) }) ⟨rfl, rfl⟩) fun r s₁ hr => ?_
  cases r with
  | error e => exact hr
  | ok fl =>
    cases fl with
    | next => exact hr.elim
    | brk => exact hr.elim
    | cont => exact hr.elim
    | ret obj =>
      obtain ⟨rfl, rfl⟩ := hr
      have hS : (s.heap.push (emptySet w)).get? s.heap.objs.size = some (emptySet w) := Heap.get?_push_size _ rfl
      have hT : Shared.TypeIs { s with heap := s.heap.push (emptySet w) } (.ref s.heap.objs.size) "set" := ⟨_, hS, rfl⟩
      have hli := F.called_set.init.lookup
      have hbi := F.called_set.init.bind (.ref s.heap.objs.size)
      repeat (any_goals (first | assumption | wp_step))
      refine codeAny_mono (codeAny_call_builtin (R := wants (fun r s₂ => r = .none ∧ ∃ h' tk c, s₂ = { s with heap := h', toks := tk } ∧ SetR w h' s.heap.objs.size (fun j => decide (j ∈ ns)) c ∧ c ≤ ns.length ∧ (∀ b o, s.heap.get? b = some o → h'.get? b = some o)) E) F.called_set.init.plain F.entry_set_init (check_set_init_1 hT ?_)) fun r₂ s₂ hr₂ => ?_
      · obtain ⟨⟨ocls, odict, odata, oslots⟩, hol, hcl, nl, hdl⟩ := hl
        simp only at hcl hdl
        subst hcl
        subst hdl
        have hol' : (s.heap.push (emptySet w)).get? l = some { cls := .type "list", dict := odict, data := .seq items nl, slots := oslots } := Heap.get?_push_of_some _ hol
        have hsls := F.sub_list_set
        have hslf := F.sub_list_frozenset
        have hne : (Value.type "list" == Value.type "dict") = false := by decide
        have hl1 : (s.heap.push (emptySet w)).IsList l items := ⟨_, hol', rfl, nl, rfl⟩
        unfold Builtin.«set.__init__» noKeywords Builtin.Frozenset.updateFrom
        generalize hPI : pyIter = PI
        wp_walk
        subst hPI
        refine wpAny_pyIter_list hl1 (wpAny_bind (wpAny_runValue ?_))
        have hlS : l < s.heap.objs.size := Heap.lt_size hol
        have hh3 : A.in1.in1.in1.handled = none := by simp [hh]
        have hneI : l ≠ (s.heap.push (emptySet w)).objs.size := by rw [Heap.size_push]; exact fun z => Nat.lt_irrefl _ (Nat.lt_of_lt_of_le (z ▸ hlS) (Nat.le_succ _))
        have hSf : s.heap.objs.size ∉ [(s.heap.push (emptySet w)).objs.size, l] := by
          rw [Heap.size_push]
          intro z
          rcases List.mem_cons.mp z with y | z
          · exact Nat.succ_ne_self _ y.symm
          · exact Nat.lt_irrefl _ (List.mem_singleton.mp z ▸ hlS)
        have hval : ∀ (i : Nat) (v : Value), items[i]? = some v → ∃ k t, ns[i]? = some k ∧ v = .int k t := fun i v hv => by
          have hi : i < ns.length := by rw [← hisz]; exact (Array.getElem?_eq_some_iff.mp hv).1
          obtain ⟨t, e⟩ := PyProof.Rows.IntsAre.int_at hit i v (by rw [Array.getElem?_toList]; exact hv)
          refine ⟨ns[i], t, List.getElem?_eq_getElem hi, ?_⟩
          rw [e, List.getD_eq_getElem?_getD, List.getElem?_eq_getElem hi] <;> rfl
        refine set_update_ints ((Walks.list hh3 _ l hneI items).toS) s.heap.objs.size hSf ns hisz hb hval (items.size - 0) 0 _ (by omega) (Nat.zero_le _) ⟨⟨_, Heap.get?_push_size _ rfl, rfl, rfl⟩, (hl1.push _)⟩ ⟨0, Nat.le_refl 0, setR_new_at (Heap.get?_push_of_some _ hS)⟩ ?_
        rintro ⟨h', g2, d', tk', os'⟩ c' hm hc' hS'
        obtain rfl : g2 = s.gens := hm.gens
        obtain rfl : d' = s.drawn := hm.drawn
        obtain rfl : os' = s.os := hm.os
        refine wpAny_pure (show wpAny _ _ (ret Value.none) _ _ _ from wpAny_pure ⟨rfl, h', tk', c', rfl, hS', by rw [hisz] at hc'; exact hc', fun b o e => ?_⟩)
        have hb0 : b < s.heap.objs.size := Heap.lt_size e
        refine hm.heap b o ?_ (Heap.get?_push_of_some _ (Heap.get?_push_of_some _ e))
        rw [Heap.size_push]
        intro z
        rcases List.mem_cons.mp z with y | z
        · exact Nat.ne_of_lt hb0 y
        · exact Nat.ne_of_lt (Nat.lt_succ_of_lt hb0) (List.mem_singleton.mp z)
      · cases r₂ with
        | error e => exact hr₂
        | ok fl₂ =>
          cases fl₂ with
          | next => exact hr₂.elim
          | brk => exact hr₂.elim
          | cont => exact hr₂.elim
          | ret r =>
            obtain ⟨rfl, h', tk, c', rfl, hS', hc', hk'⟩ := hr₂
            repeat (any_goals (first | assumption | wp_step))
            exact h _ _ _ hS' hc' hk'
end
end L2
namespace L2
open PySem PySem.Spec PyProof.Rows
section
variable {X : Cx}
def tSSet (K : PySem.W.Frag) (ta : TE) : TE := fun σ H Q => ta σ H fun x H1 => ∃ (l : Addr) (ns : List Int), x = V.ref l ∧ SqL K H1 l (ns.map V.int) ∧ ns.length < 64 ∧ ∀ (q : Addr) (ms : List Int), H1 q = none → ms.Pairwise (· < ·) → (∀ k, k ∈ ms ↔ k ∈ ns) → Q (.ref q) (upd H1 q (.lst (ms.map V.int)))
theorem pe_sset {a : Expr} {ta : TE} {p p2 q pos : Pos} (hc : X.calm = true) (hg : Gl X "sorted") (hm : X.mg "sorted" = none) (hg2 : Gl X "set") (hm2 : X.mg "set" = none) (ha : PE X a ta) (hbs : bootBuiltins "sorted" = some (.builtin "sorted") := by decide +kernel)
    (na : starEach [a] X.env = (false, eval a X.env) :: starEach [] X.env := by rfl) : PE X (.Call (.Name "sorted" p) [.Call (.Name "set" p2) [a] [] q] [] pos) (tSSet X.K ta) := by
  refine ⟨fun pins s σ H Q I h => Call_ (ld_blt I hg hm hbs (PyProof.Rows.callWith_builtin1 (PyProof.Rows.args_cons (Call_ (ld_blt I hg2 hm2 PyProof.Rows.boot_set ?_)) rfl) rfl rfl))⟩
  refine PyProof.Rows.callWith_type1 (PyProof.Rows.args_cons (thn (ha.run pins s σ H _ I h) fun v s1 ⟨x, H1, I1, r1, q1⟩ => PyProof.Rows.args_nil ?_) na) na rfl
  obtain ⟨l, ns, rfl, hq, h1, q1⟩ := q1
  cases r1
  obtain ⟨its, r, pl, hz⟩ := I1.list hq
  refine set_of_list ns (I1.ok.hd hc) pl.isList (by simpa using r.ints) (by unfold scanBound; omega) fun h' tk c hS hcn hk => PyProof.Rows.args_nil ?_
  have I2 : Inv X pins σ H1 { s1 with heap := h', toks := tk } := I1.kept hk
  refine sorted_set hS (I1.ok.hd hc) (by omega) fun s2 p out cc ms k2 g2 o2 hp hget hi hpw hmem hlen => ?_
  obtain ⟨h2, gg2, dd2, tk2, os2⟩ := s2
  have eg : gg2 = s1.gens := g2
  have eo : os2 = s1.os := o2
  subst eg; subst eo
  have J : Inv X pins σ (upd H1 p (.lst (ms.map V.int))) { s1 with heap := h2, toks := tk2 } := I2.laid (t' := tk2) (o := .lst (ms.map V.int)) k2 hp ⟨by rw [List.length_map, hlen, sizeLine_eq]; omega, out.toList, cc, vals_ints hi, by rw [Array.toArray_toList]; exact hget⟩
  have J' : Inv X pins σ (upd H1 p (.lst (ms.map V.int))) ⟨h2, s1.gens, dd2, tk2, s1.os⟩ := ⟨J.ok, J.os, J.bare, J.base, J.loc, J.cell, J.free, J.freeC, J.pin, J.hok, J.len⟩
  exact ⟨.ref p, _, J', rfl, q1 p ms (I2.hok.fresh hp) hpw fun k => (hmem k).trans (by simp)⟩
end
end L2
namespace DL
open PySem PySem.Spec PyProof.Rows L2
def wSSet (wa : WE) : WE := fun env P => wa env fun x => ∃ ns : List Int, x.val = some (.list (ns.map .int)) ∧ ns.length < 64 ∧ ∀ ms : List Int, ms.Pairwise (· < ·) → (∀ k, k ∈ ms ↔ k ∈ ns) → P (.nw (.list (ms.map .int)))
theorem vals_of_ints {w : Wd} : ∀ {xs : List V} {ns : List Int}, RpL w xs (ns.map .int) → xs = ns.map V.int
  | [], [], _ => rfl
  | _ :: _, n :: ns, .cons h r => by cases h; rw [vals_of_ints r]; rfl
theorem ints_of_vals {w : Wd} : ∀ ms : List Int, RpL w (ms.map V.int) (ms.map .int)
  | [] => .nil
  | m :: ms => .cons (.int m) (ints_of_vals ms)
section
variable {X : Cx} {G : Gh} {e : Expr} {wa : WE} {ca : Nat} {p p2 q pos : Pos}
theorem de_sset (hc : X.calm = true) (hg : Gl X "sorted") (hm : X.mg "sorted" = none) (hg2 : Gl X "set") (hm2 : X.mg "set" = none) (he : DE X G e wa ca) (na : starEach [e] X.env = (false, eval e X.env) :: starEach [] X.env := by rfl) :
    DE X G (.Call (.Name "sorted" p) [.Call (.Name "set" p2) [e] [] q] [] pos) (wSSet wa) ca := PE_imp (pe_sset hc hg hm hg2 hm2 he (by decide +kernel) na) fun σ H Q h => by
  obtain ⟨env, M, C, b0, P, hb0, er, hw, hf⟩ := h
  refine ⟨env, M, C, b0, _, hb0, er, hw, fun dv hd b1 w1 v hb1 er1 e1 r1 => ?_⟩
  obtain ⟨ns, hx, hl, hp⟩ := hd
  have rq := r1.rq hx
  have fin := Fin.ext (w := ⟨H, M, C⟩) hf e1 hb1
  cases rq with
  | @lst a xs _ hr rl =>
    have ev := vals_of_ints rl
    subst ev
    exact ⟨a, ns, rfl, SqL.of hr, hl, fun q ms n h1 h2 => fin.pure er1 (d := .list (ms.map .int)) (hp ms h1 h2) (same_new n) (newL n (ints_of_vals ms))⟩
end
end DL
namespace DL
open PySem PySem.Spec PyProof.Rows L2
/-! ### a dict is walked: its keys -/
/-- a locked thing -/
def fxL (a : Addr) (o : HO) (n : ¬ IsDct o) : Fx := ⟨fun w => ¬ w.M a ∧ w.H a = some o, fun _ _ e h => ⟨e.nm h.1 h.2, (e.keep a o h.1 h.2).exact n⟩⟩
theorem walk_keysK {a : Addr} {o : Obj} {kvs : List (Key × V)} {es : List (D × D)} (ek : es.map (·.1) = kvs.map (fun p => kD p.1)) : Walk (Itk a o kvs) [fxL a (.frz o (.dK kvs)) no_dct_frz] (es.map (·.1)) where
  go := fun w i h hi => ⟨(h _ (List.mem_singleton.mpr rfl)).2, by rw [ek, List.length_map] at hi; exact hi⟩
  stop := fun w i h hi => ⟨(h _ (List.mem_singleton.mpr rfl)).2, by rw [ek, List.length_map] at hi; exact hi⟩
  yld := fun w i x H' wk h hi hy => by
    obtain ⟨rfl, k, v, e, rfl⟩ := hy
    refine ⟨fun _ _ q => q, kD k, ?_, rp_key k⟩
    rw [ek, List.getElem?_map, e]; rfl
section
variable {X : Cx} {G : Gh} {tg e : Expr} {wa : WE} {ca : Nat}
/-- the dict's lock is one step of an expression -/
theorem Ext.lock {w : Wd} {a : Addr} {o : HO} {ob : Obj} (nm : ¬ w.M a) (h : w.H a = some o) (d : IsDct o) : Ext w ⟨upd w.H a (.frz ob o), w.M, w.C⟩ := by
  refine ⟨fun b x n q => ?_, fun b q => ?_, fun _ q => .inl q, fun _ q => .inl q, fun _ q => q⟩
  · show upd w.H a (.frz ob o) b = some x ∨ _
    by_cases z : b = a
    · subst z
      rw [h] at q; cases q
      exact .inr ⟨nm, d, ob, upd_same⟩
    · rw [upd_ne z]; exact .inl q
  · show upd w.H a (.frz ob o) b ≠ none
    by_cases z : b = a
    · subst z; rw [upd_same]; simp
    · rw [upd_ne z]; exact q
theorem EH.lock {b : Nat} {w : Wd} {a : Addr} {o : HO} {ob : Obj} (h : EH (G.at b) w) (nm : ¬ w.M a) (q : w.H a = some o) (d : IsDct o) : EH (G.at b) ⟨upd w.H a (.frz ob o), w.M, w.C⟩ := by
  have ex : Ext w ⟨upd w.H a (.frz ob o), w.M, w.C⟩ := Ext.lock nm q d
  refine h.ext ex ?_ ⟨h.cm, fun c m => ex.dom c (h.md c m), fun c xs m z => ?_⟩
  · refine G.stab _ _ _ _ h.si fun c x hc hx => ?_
    have ne : c ≠ a := fun z => nm (by rw [← z]; exact h.cm c hc)
    show upd w.H a _ c = some x
    rw [upd_ne ne]; exact hx
  · have ne : c ≠ a := fun z => nm (by rw [← z]; exact m)
    have z' : upd w.H a (.frz ob o) c = some (.tup xs) := z
    rw [upd_ne ne] at z'
    exact h.mt c xs m z'
def wKSrc (wa : WE) : WI := fun env P => wa env fun x => ∃ es : List (D × D), x = .fz (.dict es) ∧ (∀ p ∈ es, isT p.1 = false) ∧ P (es.map (·.1))
theorem noT {es : List (D × D)} {kvs : List (List Key × V)} (ek : es.map (·.1) = kvs.map (fun p => (.tuple (p.1.map kD) : D))) (h : ∀ p ∈ es, isT p.1 = false) : es = [] ∧ kvs = [] := by
  cases es with
  | nil =>
    cases kvs with
    | nil => exact ⟨rfl, rfl⟩
    | cons _ _ => cases ek
  | cons p r =>
    exfalso
    cases kvs with
    | nil => cases ek
    | cons q s =>
      rw [List.map_cons, List.map_cons] at ek
      have e := (List.cons.inj ek).1
      have := h p (List.mem_cons_self ..)
      rw [e] at this; cases this
theorem di_keys (he : DE X G e wa ca) : DI X G tg e (wKSrc wa) ca := by
  refine ⟨fun pins s σ H R I h => ?_⟩
  obtain ⟨env, M, C, b0, P, hb0, er, hw, hf⟩ := h
  refine thn (he.run pins s σ H (fun v H1 => ∃ w' es b', w'.H = H1 ∧ b' ≤ b0 + ca ∧ Rp w' v (.dict es) ∧ (∀ p ∈ es, isT p.1 = false) ∧ P (es.map (·.1)) ∧ ER (G.at b') w' env σ ∧ Ext ⟨H, M, C⟩ w') I ⟨env, M, C, b0, _, hb0, er, hw, fun dv hd b' w' v hb' er' e' r => ?_⟩) fun u s1 hq => ?_
  · obtain ⟨es, rfl, nt, p⟩ := hd
    exact ⟨w', es, b', rfl, hb', r, nt, p, er', e'⟩
  · obtain ⟨x, H1, I1, r1, w', es, b', rfl, hb', rp, nt, p, er', e'⟩ := hq
    cases rp with
    | @dK a kvs _ nm hr ek rl =>
      obtain rfl : u = Value.ref a := r1
      have lk : ∃ (w2 : Wd) (o : Obj), ER (G.at b') w2 env σ ∧ Ext w' w2 ∧ ¬ w2.M a ∧ w2.H a = some (.frz o (.dK kvs)) ∧ Inv X pins σ w2.H s1 := by
        rcases hr with hr | ⟨o, hr⟩
        · obtain ⟨od, I2⟩ := I1.lock hr trivial
          refine ⟨⟨upd w'.H a (.frz od (.dK kvs)), w'.M, w'.C⟩, od, er'.ext' (Ext.lock nm hr (.inl ⟨_, rfl⟩)) (er'.toEH.lock nm hr (.inl ⟨_, rfl⟩)), Ext.lock nm hr (.inl ⟨_, rfl⟩), nm, upd_same, I2⟩
        · exact ⟨w', o, er', Ext.refl _, nm, hr, I1⟩
      obtain ⟨w2, o, er2, e2, nm2, hd, I2⟩ := lk
      obtain ⟨hs, hgd, hx, es', ep, vs, hdt, hsz, kv, hm⟩ := I2.frzK hd
      refine iter_keys hs hgd hx hdt (pi_one (tk := s1.toks) I2 _ (turn_keys _ hdt) ⟨_, Heap.get?_push_size _ rfl, rfl, ?_⟩ (hf _ p b' w2 _ [fxL a (.frz o (.dK kvs)) no_dct_frz] hb' er2 (e'.trans e2) (fun q hq => by rw [List.mem_singleton.mp hq]; exact ⟨nm2, hd⟩) (walk_keysK ek) ?_))
      · rw [hsz] <;> rfl
      · rw [ek, List.length_map]
        have z : ObjOk X.prog X.w w2.H s1.heap a (.dK kvs) := (I2.hok a _ hd).2
        exact size_many z.1
    | @dT a kvs _ nm hr ek rl =>
      obtain rfl : u = Value.ref a := r1
      obtain ⟨rfl, rfl⟩ := noT ek nt
      have lk : ∃ (w2 : Wd) (o : Obj), ER (G.at b') w2 env σ ∧ Ext w' w2 ∧ ¬ w2.M a ∧ w2.H a = some (.frz o (.dT [])) ∧ Inv X pins σ w2.H s1 := by
        rcases hr with hr | ⟨o, hr⟩
        · obtain ⟨od, I2⟩ := I1.lock hr trivial
          refine ⟨⟨upd w'.H a (.frz od (.dT [])), w'.M, w'.C⟩, od, er'.ext' (Ext.lock nm hr (.inr ⟨_, rfl⟩)) (er'.toEH.lock nm hr (.inr ⟨_, rfl⟩)), Ext.lock nm hr (.inr ⟨_, rfl⟩), nm, upd_same, I2⟩
        · exact ⟨w', o, er', Ext.refl _, nm, hr, I1⟩
      obtain ⟨w2, o, er2, e2, nm2, hd, I2⟩ := lk
      obtain ⟨hs, hgd, hx, es', ep, hdt, hsz, ent⟩ := I2.frzT hd
      refine iter_keys hs hgd hx hdt (pi_one (tk := s1.toks) I2 _ (turn_keysT _ hdt) ⟨_, Heap.get?_push_size _ rfl, rfl, ?_⟩ (hf _ p b' w2 _ [fxL a (.frz o (.dT [])) no_dct_frz] hb' er2 (e'.trans e2) (fun q hq => by rw [List.mem_singleton.mp hq]; exact ⟨nm2, hd⟩) ⟨fun w i h hi => absurd hi (Nat.not_lt_zero _), fun w i h hi => ⟨(h _ (List.mem_singleton.mpr rfl)).2, hi⟩, fun w i x H' wk h hi => absurd hi (Nat.not_lt_zero _)⟩ (Nat.zero_le _)))
      rw [hsz] <;> rfl
end
end DL
/-! Dict comprehensions of two clauses, keys ints or texts: own work over the list layer's rules. -/
namespace DL
open PySem PySem.Spec PyProof.Rows L2
abbrev dc2 (kx vx ta ia tb ib : Expr) (ca cb : List Expr) (sc : Scope) (pos : Pos) : Expr := .DictComp kx vx [⟨ta, ia, ca, 0⟩, ⟨tb, ib, cb, 0⟩] sc pos
section
variable (kx vx ta ia tb ib : Expr) (ca cb : List Expr) (sc : Scope) (pos : Pos) (it : Value) (D : Addr) (env : Env)
theorem turn_first (acc : Value) : compTurn (dc2 kx vx ta ia tb ib ca cb sc pos) 0 it acc env = (do
    standAt ia.pos
    match ← pyNext it with
    | none => pure (.done .next)
    | some v => do
      letOwnedTupleGo ta it v; assign ta env v
      let mut ok := true
      for c in ca do
        if ok then ok ← isTrue c env (eval c env)
      if ok then
        let x ← eval ib env
        standAt ib.pos; let x ← foldedSetIterable ib env x
        let _ ← runOwn (.compStart (dc2 kx vx ta ia tb ib ca cb sc pos) 1 (← holding [x] (pyIter x)) acc env) env
      again (.compLoop (dc2 kx vx ta ia tb ib ca cb sc pos) 0 it acc env)) := by rfl
theorem turn_second : compTurn (dc2 kx vx ta ia tb ib ca cb sc pos) 1 it (.ref D) env = (do
    standAt ib.pos
    match ← pyNext it with
    | none => pure (.done .next)
    | some v => do
      letOwnedTupleGo tb it v; assign tb env v
      let mut ok := true
      for c in cb do
        if ok then ok ← isTrue c env (eval c env)
      if ok then
        (do let kv ← eval kx env
            let vv ← holding [kv] (eval vx env)
            standAt { kx.pos with endLine := vx.pos.endLine, endCol := vx.pos.endCol }; holding [kv, vv] (dictSet D kv vv))
      again (.compLoop (dc2 kx vx ta ia tb ib ca cb sc pos) 1 it (.ref D) env)) := by rfl
end
/-- all tests of a clause, one behind another -/
abbrev tests (cs : List Expr) (env : Env) : Sem Bool := forIn cs true fun c r => if r = true then do let ok ← isTrue c env (eval c env); pure (ForInStep.yield ok) else pure (ForInStep.yield r)
section
variable {P : Program} {w : World} {A : Around} {R : Result → Shared → Prop} {s : Shared} {kx vx ta ia tb ib : Expr} {ca cb : List Expr} {sc : Scope} {pos : Pos} {it : Value} {D : Addr} {env : Env}
/-- no error -/
def NoE : Value → Shared → Prop := fun _ _ => False
/-- one clause's turn up to its tests -/
def Upto (P : Program) (w : World) (A : Around) (R : Result → Shared → Prop) (tg : Expr) (cs : List Expr) (it : Value) (env : Env) (go : Bool → Shared → Prop) : Shared → Prop :=
  wpAny (model P w) A (pyNext it) (fun r s1 => match r with
    | none => R (.ok .next) s1
    | some v => wpAny (model P w) A (letOwnedTupleGo tg it v) (fun _ s2 => wpAny (model P w) A (assign tg env v) (fun _ s3 => wpAny (model P w) A (tests cs env) go NoE s3)
        NoE s2) NoE s1) NoE
theorem loop_first {acc : Value} (hs : ∀ x, foldedSetIterable ib env x = pure x) (J : Nat → Shared → Prop)
    (turn : ∀ n s, J n s → Upto P w A R ta ca it env (fun ok s3 => if ok = true then wpAny (model P w) A (eval ib env) (fun x s4 => wpAny (model P w) A (pyIter x) (fun i1 s5 => codeAny (model P w) A (.compStart (dc2 kx vx ta ia tb ib ca cb sc pos) 1 i1 acc env) (fun r s' => match r with
        | .ok _ => ∃ m, m < n ∧ J m s'
        | .error _ => False) s5) NoE s4) NoE s3 else ∃ m, m < n ∧ J m s3) s) (n : Nat) (h : J n s) :
    codeAny (model P w) A (.compLoop (dc2 kx vx ta ia tb ib ca cb sc pos) 0 it acc env) R s := by
  refine codeAny_loop rfl J (fun n s hJ => ?_) n h
  show wpAny _ A ((compTurn (dc2 kx vx ta ia tb ib ca cb sc pos) 0 it acc env).onRaise (fun x => do noteFrame x env; theTreesLotGoes x)) _ _ s
  refine wpAny_noted ?_
  rw [turn_first]
  refine wpAny_bind (wpAny_standAt (wpAny_bind (thnF (turn n s hJ) fun r s1 h1 => ?_)))
  cases r with
  | none => exact wpAny_pure h1
  | some v =>
    refine wpAny_bind (thnF h1 fun _ s2 h2 => wpAny_bind (thnF h2 fun _ s3 h3 => wpAny_bind (thnF h3 fun ok s4 h4 => ?_)))
    cases ok with
    | false => exact wpAny_pure ⟨rfl, h4⟩
    | true =>
      refine wpAny_bind (thnF h4 fun x s5 h5 => wpAny_bind (wpAny_standAt (wpAny_bind (wpAny_of_eq (hs x) (wpAny_bind (wpAny_holding (thnF h5 fun i1 s6 h6 => wpAny_bind (wpAny_runOwn ?_))))))))
      rw [Around.mark_none]
      refine codeAny_mono h6 fun r s' hr => ?_
      cases r with
      | ok f => first | exact wpAny_pure ⟨rfl, hr⟩ | exact wpAny_bind (wpAny_pure (wpAny_pure ⟨rfl, hr⟩))
      | error e => exact hr.elim
theorem loop_second (J : Nat → Shared → Prop)
    (turn : ∀ n s, J n s → Upto P w A R tb cb it env (fun ok s3 => if ok = true then wpAny (model P w) A (eval kx env) (fun kv s4 => wpAny (model P w) A (eval vx env) (fun vv s5 => wpAny (model P w) A (dictSet D kv vv) (fun _ s6 => ∃ m, m < n ∧ J m s6)
        NoE s5) NoE s4) NoE s3 else ∃ m, m < n ∧ J m s3) s) (n : Nat) (h : J n s) :
    codeAny (model P w) A (.compLoop (dc2 kx vx ta ia tb ib ca cb sc pos) 1 it (.ref D) env) R s := by
  refine codeAny_loop rfl J (fun n s hJ => ?_) n h
  show wpAny _ A ((compTurn (dc2 kx vx ta ia tb ib ca cb sc pos) 1 it (.ref D) env).onRaise (fun x => do noteFrame x env; theTreesLotGoes x)) _ _ s
  refine wpAny_noted ?_
  rw [turn_second]
  refine wpAny_bind (wpAny_standAt (wpAny_bind (thnF (turn n s hJ) fun r s1 h1 => ?_)))
  cases r with
  | none => exact wpAny_pure h1
  | some v =>
    refine wpAny_bind (thnF h1 fun _ s2 h2 => wpAny_bind (thnF h2 fun _ s3 h3 => wpAny_bind (thnF h3 fun ok s4 h4 => ?_)))
    cases ok with
    | false => exact wpAny_pure ⟨rfl, h4⟩
    | true => exact wpAny_bind (wpAny_bind (thnF h4 fun kv s5 h5 => wpAny_bind (wpAny_holding (thnF h5 fun vv s6 h6 => wpAny_bind (wpAny_standAt (wpAny_holding (thnF h6 fun _ s7 h7 => wpAny_pure ⟨rfl, h7⟩)))))))
theorem start_second {acc : Value} (h0 : codeAny (model P w) A (.compLoop (dc2 kx vx ta ia tb ib ca cb sc pos) 1 it acc env) R s)
    (h : wpAny (model P w) A (pyIter it) (fun i2 s' => codeAny (model P w) A (.compLoop (dc2 kx vx ta ia tb ib ca cb sc pos) 1 i2 acc env) R s') NoE s) :
    codeAny (model P w) A (.compStart (dc2 kx vx ta ia tb ib ca cb sc pos) 1 it acc env) R s := by
  refine codeAny_of_tree ?_
  show wpAny _ _ ((compStart (dc2 kx vx ta ia tb ib ca cb sc pos) 1 it acc env).onRaise (fun x => do noteFrame x env; standAt theWindowsPlace)) _ _ s
  refine wpAny_notedAt ?_
  unfold compStart
  show wpAny _ _ (ask >>= _) _ _ s
  refine wpAny_bind (wpAny_askSetting (wpAny_ite ?_))
  split
  · first | exact wpAny_bind (wpAny_pure (wpAny_pure ⟨rfl, h0⟩)) | exact wpAny_pure ⟨rfl, h0⟩
  · refine wpAny_bind (wpAny_rule ?_)
    show wpAny _ _ (standAt ib.pos >>= _) _ _ s
    exact wpAny_bind (wpAny_standAt (wpAny_bind (thnF h fun i2 s' q => wpAny_pure ⟨rfl, q⟩)))
end
section
variable {X : Cx}
/-- {k: v for .. in .. if .. for .. in .. if ..}: D the new dict; vs the block's names, vs1 those of the second target -/
def tDc2 (wi : TI) (g : TG) (tt : TT) (wi1 : TI) (g1 : TG) (tt1 : TT) (tk tv : TE) (vs vs1 : List Nat) : TE := fun σ H Q => wi σ H fun J H1 => ∀ D, H1 D = none → ∃ W : Nat → Nat → Hp → Prop, (∃ m, W 0 m (upd H1 D (.dK []))) ∧ ∀ i m H, W i m H →
  (J.stop i H ∧ Q (.ref D) H) ∨ (J.go i H ∧ ∃ Nx : Hp → Prop, (∀ H', Nx H' → ∃ m', m' < m ∧ W (i + 1) m' H') ∧ ∀ x H', J.yld i H x H' → g x (wipe σ vs) H' fun σa Ha => wipe σa vs = wipe σ vs ∧ tt σa Ha fun b Hb =>
    if b = true then wi1 σa Hb fun J1 Hc => ∃ W1 : Nat → Nat → Hp → Prop, (∃ m, W1 0 m Hc) ∧ ∀ j k H, W1 j k H →
      (J1.stop j H ∧ Nx H) ∨ (J1.go j H ∧ ∃ Nx1 : Hp → Prop, (∀ H', Nx1 H' → ∃ k', k' < k ∧ W1 (j + 1) k' H') ∧ ∀ x H', J1.yld j H x H' → g1 x (wipe σa vs1) H' fun σb Hd => wipe σb vs1 = wipe σa vs1 ∧ tt1 σb Hd fun b He =>
        if b = true then tk σb He fun y Hf => tv σb Hf fun z Hg => ∃ kvs q, y = kV q ∧ Hg D = some (.dK kvs) ∧ kvs.length < sizeLine ∧ Nx1 (upd Hg D (.dK (putK kvs q z))) else Nx1 He)
    else Nx Hb)
/-- within a comprehension's block, what is walked stands aside -/
theorem fp_blk {s0 s' : Shared} {H0 H' : Hp} {scope : Scope} {ce : Env} {fp : List Addr} {σ' : L2.St} (i : Inv (X.blk s0 H0 scope ce fp) [] σ' H' s') (n : ∀ b ∈ fp, H' b = none) : ∀ b ∈ fp, FpOk (X.blk s0 H0 scope ce fp) [] H' b := fun b hb =>
  have z := i.ok.exf b hb
  ⟨n b hb, z.1, i.ok.exfs b hb, .inl hb, z.2, fun p hp => absurd (show p ∈ ([] : List (Addr × Obj)) ++ [] from hp) (by simp)⟩
/-- what a block's loop keeps -/
def BlkI (Y : Cx) (pins : List (Addr × Obj)) (σ : L2.St) (tn : Nat → Heap → Prop) (fp : List Addr) (W : Nat → Nat → Hp → Prop) (n : Nat) (s : Shared) : Prop := ∃ i H, Inv Y pins σ H s ∧ tn i s.heap ∧ (∀ b ∈ fp, H b = none) ∧ W i n H
theorem dc2_core {pins : List (Addr × Obj)} {s : Shared} {σ : L2.St} {H : Hp} {Q : VK} {kx vx tg iter tg1 iter1 : Expr} {ifs ifs1 : List Expr} {scope : Scope} {own : List (Str × Nat)} {vs1 : List Nat} {pos pos' : Pos} {wi wi1 : TI} {g g1 : TG} {tt tt1 : TT} {tk tv : TE} {use : Option (Value → Sem Unit)} {Qf : Value → Shared → Prop}
    (hc : X.calm = true) (hN : X.N.Nodup) (I : Inv X pins σ H s) (hi : PI X tg iter wi) (ok : BlkOk X.N X.env.scope scope own) (hv : ∀ i ∈ vs1, i ∈ own.map (·.2)) (hs : ∀ x, foldedSetIterable iter X.env x = pure x) (hs1 : ∀ env x, foldedSetIterable iter1 env x = pure x)
    (B : ∀ (s : Shared) (H : Hp) (C : Addr) (cl : List (Str × Addr)) (fp : List Addr) (Y : Cx), Y = X.blk s H scope (compEnvC scope cl C X.env) fp → PG Y tg g ∧ PTs Y ifs tt ∧ PI Y tg1 iter1 wi1 ∧ PG Y tg1 g1 ∧ PTs Y ifs1 tt1 ∧ PE Y kx tk ∧ PE Y vx tv)
    (h : tDc2 wi g tt wi1 g1 tt1 tk tv (own.map (·.2)) vs1 σ H Q)
    (fini : ∀ D C s' m H', Inv X pins σ H' s' → Q (.ref D) H' → s'.heap.Ns C m → FpOk X pins H' C → compPost (model X.prog X.w) X.A X.xe use Qf (.ref D) C (.ok .next) s') :
    wpAny (model X.prog X.w) X.A (comprehension (dc2 kx vx tg iter tg1 iter1 ifs ifs1 scope pos) scope X.env pos' newDict false (eval iter X.env) use) Qf X.xe s := by
  have cells : ∀ y ∈ scope.names, y.2 = .free → ∃ c, X.env.cells.lookup y.1 = some c := fun y hy e => (ok.free y hy e).elim (fun k => I.ok.has _ (.inl k)) fun k => I.ok.has _ (.inr k)
  refine wpAny_comprehension_free (use := use) rfl hs (closure_ok cells) ok.kind (fun y hy e => (ok.uniq y hy).trans (by rw [e])) (thn (hi.run pins s σ H _ I h) fun _ s1 hx => thn hx fun _ s2 ⟨it, fp, tn, J, H2, e, I2, T, st2, f2, q⟩ => ?_)
  subst e
  refine wpAny_newObj_type (newEnv_comp ?_)
  obtain ⟨D, hD⟩ : ∃ D, D = s2.heap.objs.size := ⟨_, rfl⟩
  rw [← hD]
  obtain ⟨W, ⟨m0, w0⟩, turn⟩ := q D (I2.hok.fresh (Nat.le_of_eq hD.symm))
  obtain ⟨s3, hs3⟩ : ∃ s3 : Shared, s3 = { s2 with heap := s2.heap.push { cls := .type "dict", data := .dict #[] } } := ⟨_, rfl⟩
  have h3 : s3.heap = s2.heap.push { cls := .type "dict", data := .dict #[] } := by rw [hs3]
  have I3 : Inv X pins σ (upd H2 D (.dK [])) s3 := by
    rw [hs3, hD]
    exact I2.laid (t' := s2.toks) (fun b o e => Heap.get?_push_of_some _ e) (Nat.le_refl _) (dk_empty s2.heap I2.big)
  have f3 : ∀ b ∈ fp, FpOk X pins (upd H2 D (.dK [])) b ∧ b < s3.heap.objs.size := fun b hb => by
    obtain ⟨o, e, _⟩ := T.obj _ _ st2 b hb
    have hlt := Heap.lt_size e
    refine ⟨⟨by rw [upd_ne (fun z => by rw [z, hD] at hlt; exact Nat.lt_irrefl _ hlt)]; exact (f2 b hb).1, (f2 b hb).2⟩, by rw [h3, Heap.size_push]; exact Nat.lt_succ_of_lt hlt⟩
  have st3 : tn 0 s3.heap := T.keep _ _ _ st2 fun b _ o e => by rw [h3]; exact Heap.get?_push_of_some _ e
  have I4 := block_start I3 ok hN f3
  obtain ⟨cl, hcl⟩ : ∃ cl, cl = cellsFrom (s3.heap.objs.size + 1) scope.names (cloFrom X.env.cells scope.names []) := ⟨_, rfl⟩
  obtain ⟨ce, hce⟩ : ∃ ce, ce = compEnvC scope cl s3.heap.objs.size X.env := ⟨_, rfl⟩
  obtain ⟨H3, hH3⟩ : ∃ H3, H3 = upd H2 D (.dK []) := ⟨_, rfl⟩
  obtain ⟨pg, pt, pi1, pg1, pt1, pk, pv⟩ := B s3 H3 s3.heap.objs.size cl fp (X.blk s3 H3 scope ce fp) (by rw [hce])
  obtain ⟨s4, hs4⟩ : ∃ s4 : Shared, s4 = { s3 with heap := pushCells (s3.heap.push { cls := .type "dict", data := .dict #[] }) scope.names } := ⟨_, rfl⟩
  rw [← hH3] at I3 f3 w0
  have I4 : Inv (X.blk s3 H3 scope ce fp) [] (wipe σ (own.map (·.2))) H3 s4 := by rw [hs4, hce, hcl, hH3]; exact I4
  suffices goal : codeAny (model X.prog X.w) X.A (.compStart (dc2 kx vx tg iter tg1 iter1 ifs ifs1 scope pos) 0 (.ref it) (.ref D) ce) (compPost (model X.prog X.w) X.A X.xe use Qf (.ref D) s3.heap.objs.size) s4 by
    rw [hs4, hce, hcl, hs3] at goal
    exact goal
  have cL : ce.locals = s3.heap.objs.size := by rw [hce]; rfl
  have st4 : tn 0 s4.heap := T.keep _ _ _ st3 fun b _ o e => by rw [hs4]; exact pushCells_keeps _ _ _ _ (Heap.get?_push_of_some _ e)
  have aside : ∀ {σ' : L2.St} {H' : Hp} {s' : Shared}, Inv (X.blk s3 H3 scope ce fp) [] σ' H' s' → (∀ b ∈ fp, H' b = none) → ∀ b ∈ fp, FpOk (X.blk s3 H3 scope ce fp) [] H' b := fun {σ' H' s'} i n => fp_blk i n
  have nfp : ∀ b ∈ fp, H3 b = none := fun b hb => (f3 b hb).1.1
  have back : ∀ {H' : Hp} {s' : Shared} {σ' : L2.St}, Inv (X.blk s3 H3 scope ce fp) [] σ' H' s' → Q (.ref D) H' → compPost (model X.prog X.w) X.A X.xe use Qf (.ref D) s3.heap.objs.size (.ok .next) s' := fun {H' s' σ'} i q => by
    have i0 : Inv X pins σ H' s' := I3.call' (ch := fp) i.os i.base i.hok i.bare fun b hb => let z := (f3 b hb).1.2; ⟨z.2.2.1, z.1, z.2.2.2.1, z.2.2.2.2⟩
    have fr : H' ce.locals = none := i.free
    obtain ⟨m, hn, _⟩ := i.loc
    have hn : s'.heap.Ns ce.locals m := hn
    rw [cL] at hn
    rw [cL] at fr
    exact fini D _ s' m H' i0 q hn (I3.fpOk (Nat.le_refl _) fr)
  have loop : codeAny (model X.prog X.w) X.A (.compLoop (dc2 kx vx tg iter tg1 iter1 ifs ifs1 scope pos) 0 (.ref it) (.ref D) ce) (compPost (model X.prog X.w) X.A X.xe use Qf (.ref D) s3.heap.objs.size) s4 := by
    refine loop_first (hs1 ce) (BlkI (X.blk s3 H3 scope ce fp) [] (wipe σ (own.map (·.2))) tn fp W) ?_ m0 ⟨0, H3, I4, st4, nfp, w0⟩
    rintro n s5 ⟨i, H5, I5, st5, n5, w5⟩
    unfold Upto
    rcases turn i n H5 w5 with ⟨stop, qq⟩ | ⟨go, Nx, hNx, step⟩
    · refine thnF (T.done (X.blk s3 H3 scope ce fp) rfl rfl rfl hc i [] s5 _ H5 (fun _ _ => False) I5 (aside I5 n5) st5 stop) fun r s6 ⟨hr, I6⟩ => ?_
      subst hr
      exact back I6 qq
    · refine thnF (T.item (X.blk s3 H3 scope ce fp) rfl rfl rfl hc i [] s5 _ H5 (fun _ _ => False) I5 (aside I5 n5) st5 go) fun r s6 ⟨u, hr, h6⟩ => ?_
      subst hr
      refine thnF h6 fun _ s7 ⟨x, H7, I7, r7, y7, st7, n7⟩ => ?_
      refine thnF (pg.run _ s7 _ H7 x u _ (I7.pinned (aside I7 n7) (T.obj _ _ st7)) r7 (step x H7 y7)) fun _ s8 ⟨σ8, H8, I8, hw8, q8⟩ => ?_
      refine thnF (pt.run _ s8 σ8 H8 _ I8 q8) fun b s9 ⟨H9, I9, q9⟩ => ?_
      have next : ∀ {σ9 : L2.St} {s' : Shared} {H' : Hp}, Inv (X.blk s3 H3 scope ce fp) ([] ++ pinsAt fp s7.heap) σ9 H' s' → (wipe σ (own.map (·.2))).length = σ9.length → (∀ (j : Nat) v, (wipe σ (own.map (·.2)))[j]? = some (some v) → σ9[j]? = some (some v)) → Nx H' →
          ∃ m, m < n ∧ BlkI (X.blk s3 H3 scope ce fp) [] (wipe σ (own.map (·.2))) tn fp W m s' := fun {σ9 s' H'} i' hl hk nx => by
        obtain ⟨m', hm, w'⟩ := hNx H' nx
        have pin : ∀ b ∈ fp, ∀ o, s7.heap.get? b = some o → s'.heap.get? b = some o ∧ H' b = none := fun b hb o e => let z := i'.pin (b, o) (List.mem_append_right _ (List.mem_append_right _ (mem_pinsAt hb e))); ⟨z.1, z.2.1⟩
        exact ⟨m', hm, i + 1, H', (i'.unpinned (pins := [])).weak hl hk, T.keep _ _ _ st7 fun b hb o e => (pin b hb o e).1, fun b hb => by obtain ⟨o, e, _⟩ := T.obj _ _ st7 b hb; exact (pin b hb o e).2, w'⟩
      have l8 : (wipe σ (own.map (·.2))).length = σ8.length := by rw [← hw8, wipe_length]
      have k8 : ∀ (j : Nat) v, (wipe σ (own.map (·.2)))[j]? = some (some v) → σ8[j]? = some (some v) ∧ j ∉ own.map (·.2) := fun j v e => by
        rw [← hw8] at e
        exact wipe_some e
      cases b with
      | false => exact iteF (next I9 l8 (fun j v e => (k8 j v e).1) (by simpa using q9))
      | true =>
        rw [if_pos rfl] at q9
        refine iteT ?_
        refine thnF (pi1.run _ s9 σ8 H9 _ I9 q9) fun _ s10 hx => thnF hx fun _ s11 ⟨it1, fp1, tn1, J1, H11, e1, I11, T1, st11, f11, W1, ⟨m1, w1⟩, turn1⟩ => ?_
        subst e1
        have aside1 : ∀ {H' : Hp}, (∀ b ∈ fp1, H' b = none) → ∀ b ∈ fp1, FpOk (X.blk s3 H3 scope ce fp) ([] ++ pinsAt fp s7.heap) H' b := fun n b hb => ⟨n b hb, (f11 b hb).2⟩
        have inner : codeAny (model X.prog X.w) X.A (.compLoop (dc2 kx vx tg iter tg1 iter1 ifs ifs1 scope pos) 1 (.ref it1) (.ref D) ce) (fun r s' => match r with
            | .ok _ => ∃ m, m < n ∧ BlkI (X.blk s3 H3 scope ce fp) [] (wipe σ (own.map (·.2))) tn fp W m s'
            | .error _ => False) s11 := by
          refine loop_second (BlkI (X.blk s3 H3 scope ce fp) ([] ++ pinsAt fp s7.heap) (wipe σ8 vs1) tn1 fp1 W1) ?_ m1 ⟨0, H11, I11.weak (wipe_length _ _) (fun j v e => (wipe_some e).1), st11, fun b hb => (f11 b hb).1, w1⟩
          rintro k s12 ⟨j, H12, I12, st12, n12, w12⟩
          unfold Upto
          rcases turn1 j k H12 w12 with ⟨stop1, nx1⟩ | ⟨go1, Nx1, hNx1, step1⟩
          · refine thnF (T1.done (X.blk s3 H3 scope ce fp) rfl rfl rfl hc j _ s12 (wipe σ8 vs1) H12 (fun _ _ => False) I12 (aside1 n12) st12 stop1) fun r s13 ⟨hr, I13⟩ => ?_
            subst hr
            exact next I13 (l8.trans (wipe_length σ8 vs1).symm) (fun j v e => by rw [wipe_out fun z => (k8 j v e).2 (hv j z)]; exact (k8 j v e).1) nx1
          · refine thnF (T1.item (X.blk s3 H3 scope ce fp) rfl rfl rfl hc j _ s12 (wipe σ8 vs1) H12 (fun _ _ => False) I12 (aside1 n12) st12 go1) fun r s13 ⟨u1, hr, h13⟩ => ?_
            subst hr
            refine thnF h13 fun _ s14 ⟨x1, H14, I14, r14, y14, st14, n14⟩ => ?_
            refine thnF (pg1.run _ s14 (wipe σ8 vs1) H14 x1 u1 _ (I14.pinned (aside1 n14) (T1.obj _ _ st14)) r14 (step1 x1 H14 y14)) fun _ s15 ⟨σ15, H15, I15, hw15, q15⟩ => ?_
            refine thnF (pt1.run _ s15 σ15 H15 _ I15 q15) fun b1 s16 ⟨H16, I16, q16⟩ => ?_
            have next1 : ∀ {s' : Shared} {H' : Hp}, Inv (X.blk s3 H3 scope ce fp) (([] ++ pinsAt fp s7.heap) ++ pinsAt fp1 s14.heap) σ15 H' s' → Nx1 H' → ∃ m, m < k ∧ BlkI (X.blk s3 H3 scope ce fp) ([] ++ pinsAt fp s7.heap) (wipe σ8 vs1) tn1 fp1 W1 m s' := fun {s' H'} i' nx => by
              obtain ⟨m', hm, w'⟩ := hNx1 H' nx
              have pin : ∀ b ∈ fp1, ∀ o, s14.heap.get? b = some o → s'.heap.get? b = some o ∧ H' b = none := fun b hb o e => let z := i'.pin (b, o) (List.mem_append_right _ (List.mem_append_right _ (mem_pinsAt hb e))); ⟨z.1, z.2.1⟩
              exact ⟨m', hm, j + 1, H', i'.unpinned.weak (by rw [← hw15, wipe_length]) (fun j v e => by rw [← hw15] at e; exact (wipe_some e).1), T1.keep _ _ _ st14 fun b hb o e => (pin b hb o e).1, fun b hb => by obtain ⟨o, e, _⟩ := T1.obj _ _ st14 b hb; exact (pin b hb o e).2, w'⟩
            cases b1 with
            | false => exact iteF (next1 I16 (by simpa using q16))
            | true =>
              rw [if_pos rfl] at q16
              refine iteT ?_
              refine thnF (pk.run _ s16 σ15 H16 _ I16 q16) fun _ s17 ⟨yk, H17, I17, r17, q17⟩ => ?_
              refine thnF (pv.run _ s17 σ15 H17 _ I17 q17) fun _ s18 ⟨yv, H18, I18, r18, kvs, kq, ek, hD18, hz18, nx⟩ => ?_
              subst ek
              exact d_dictSet (X := X.blk s3 H3 scope ce fp) I18 hD18 hz18 r17 r18 fun s19 I19 => next1 I19 nx
        exact start_second inner (T1.self X.A 0 _ _ _ st11 inner)
  exact codeAny_compStart_dict loop (T.self X.A 0 _ _ _ st4 loop)
end
end DL
namespace DL
open PySem PySem.Spec PyProof.Rows L2
/-- what is known of the dict that grows -/
structure GrD (w1 : Wd) (L : Addr) (w : Wd) (acc : List (D × D)) : Prop where
  ex : Ext w1 w
  m : w.M L
  c : ¬ w.C L
  ls : ∃ kvs, w.H L = some (.dK kvs) ∧ acc.map (·.1) = kvs.map (fun p => kD p.1) ∧ RpL w (kvs.map (·.2)) (acc.map (·.2))
theorem GrD.ext {w1 w w' : Wd} {L : Addr} {acc : List (D × D)} (g : GrD w1 L w acc) (e : Ext w w') (cm : ∀ a, w.C a → w.M a) : GrD w1 L w' acc := by
  obtain ⟨vs, h, k, r⟩ := g.ls
  exact ⟨g.ex.trans e, e.oldM L g.m, fun c => (e.newC L c).elim g.c (fun q => by rw [h] at q; cases q), vs, e.own g.c g.m h, k, r.st (e.st cm)⟩
theorem GrD.more {w1 w : Wd} {L : Addr} {acc : List (D × D)} {v : V} {d : D} {q : Key} (g : GrD w1 L w acc) (n : w1.H L = none) (r : Rp w v d) : ∃ kvs, w.H L = some (.dK kvs) ∧ kvs.length = acc.length ∧ GrD w1 L ⟨upd w.H L (.dK (putK kvs q v)), w.M, w.C⟩ (dput acc (kD q) d) := by
  obtain ⟨kvs, h, k, rl⟩ := g.ls
  refine ⟨kvs, h, ?_, g.ex.grow n, g.m, g.c, _, upd_same, put_keys kD_eqv kvs acc q v d k, (put_vals kD_eqv r kvs acc q k rl).st (St1.grow g.m)⟩
  have := congrArg List.length k
  rw [List.length_map, List.length_map] at this
  exact this.symm
theorem GrD.done {G : Gh} {b : Nat} {w1 w : Wd} {L : Addr} {acc : List (D × D)} {Hs : Hp} (g : GrD w1 L w acc) (n : Hs L = none) : VR G Hs w (.ref L) (.nw (.dict acc)) := by
  obtain ⟨kvs, h, k, rl⟩ := g.ls
  refine ⟨L, rfl, n, ⟨fun _ => g.m, fun _ => rfl⟩, g.c, .dK h k (rl.st ?_)⟩
  exact ⟨fun b x nb h => .inl h, fun b m => m.elim .inl fun q => .inl (by rw [q]; exact g.m)⟩
def keyOf (y : Dv) (P : Key → Prop) : Prop := ∃ d k, y.val = some d ∧ keyD? d = some k ∧ P k
def wDcI (gd : GD) (wt : WT) (wk wv : WE) (env : Ev) (P : List (D × D) → Prop) : List D → List (D × D) → Prop
  | [], acc => P acc
  | d :: r, acc => ∃ env', gd d env = some env' ∧ wt env' fun b => if b = true then wk env' fun y => wv env' fun z => ∃ k dk dz, y.val = some dk ∧ keyD? dk = some k ∧ z.kept = some dz ∧ acc.length < sizeLine ∧ wDcI gd wt wk wv env P r (dput acc dk dz) else wDcI gd wt wk wv env P r acc
def wDc (wi : WI) (gd : GD) (wt : WT) (wk wv : WE) (vs : List Nat) : WE := fun env P => wi env fun ds => wDcI gd wt wk wv (wipeE env vs) (fun acc => P (.nw (.dict acc))) ds []
def wDc2L (gd : GD) (wt : WT) (wi1 : WI) (gd1 : GD) (wt1 : WT) (wk wv : WE) (vs1 : List Nat) (env : Ev) (P : Dv → Prop) : List D → List (D × D) → Prop
  | [], acc => P (.nw (.dict acc))
  | d :: r, acc => ∃ env', gd d env = some env' ∧ wt env' fun b => if b = true then wi1 env' fun ds1 => wDcI gd1 wt1 wk wv (wipeE env' vs1) (fun acc' => wDc2L gd wt wi1 gd1 wt1 wk wv vs1 env P r acc') ds1 acc else wDc2L gd wt wi1 gd1 wt1 wk wv vs1 env P r acc
def wDc2 (wi : WI) (gd : GD) (wt : WT) (wi1 : WI) (gd1 : GD) (wt1 : WT) (wk wv : WE) (vs vs1 : List Nat) : WE := fun env P => wi env fun ds => wDc2L gd wt wi1 gd1 wt1 wk wv vs1 (wipeE env vs) P ds []
theorem VR.key {G : Gh} {Hs : Hp} {w : Wd} {v : V} {y : Dv} {dk : D} {k : Key} (r : VR G Hs w v y) (e : y.val = some dk) (h : keyD? dk = some k) : v = kV k := by
  have rq := r.rq e
  rw [keyD?_eq h] at rq
  exact rq.key
section
variable {X : Cx} {G : Gh} {kx vx tg iter tg1 iter1 : Expr} {ifs ifs1 : List Expr} {scope : Scope} {own : List (Str × Nat)} {pos : Pos} {ix ix1 : List Nat} {wi wi1 : WI} {gd gd1 : GD} {wt wt1 : WT} {wk wv : WE} {ci ct ci1 ct1 ck cv : Nat}
theorem rdDc {vs : List Nat} {σ : L2.St} {H : Hp} {Q : VK} (h : tV G (wDc wi gd wt wk wv vs) (ci + many * (ct + (ck + cv))) σ H Q) (hix : ∀ i ∈ ix, i ∈ vs) :
    tDc (tI G wi ci) (gE G ix gd) (ttE G wt ct) (teE G wk ck) (teE G wv cv) vs σ H Q := by
  obtain ⟨env, M, C, b0, P, hb0, er, hw, hf⟩ := h
  refine ⟨env, M, C, b0, _, by omega, er, hw, fun ds hds b1 w1 J l hb1 er1 e1 hl wlk hz L nL => ?_⟩
  generalize hk : ct + (ck + cv) = kk at hb0 hb1 hf
  have hz' := le_many (a := kk) hz
  have nM1 : ¬ w1.M L := fun m => er1.md L m nL
  have nC1 : ¬ w1.C L := fun c => nM1 (er1.cm L c)
  have pL : G.Pt L = none := by
    cases q : G.Pt L with
    | none => rfl
    | some x => rcases er1.kp L x q with z | ⟨_, _, ob, z⟩ <;> (rw [nL] at z; cases z)
  have back : ∀ {b5 : Nat} {w5 : Wd}, EH ((G.more l).at b5) w5 → Ext w1 w5 → ER ((G.more l).at b5) w5 (wipeE env vs) (L2.wipe σ vs) := fun {b5 w5} eh5 e5 => by
    have z := ((er1.wipe vs).ext' e5 eh5.fewer)
    exact ⟨eh5, z.len, z.sl, z.od⟩
  refine ⟨fun i m H => m = ds.length - i ∧ i ≤ ds.length ∧ ∃ (M C : Addr → Prop) (b : Nat) (acc : List (D × D)), b + m * kk ≤ b1 + ds.length * kk ∧ EH ((G.more l).at b) ⟨H, M, C⟩ ∧ GrD w1 L ⟨H, M, C⟩ acc ∧ wDcI gd wt wk wv (wipeE env vs) (fun acc => P (.nw (.dict acc))) (ds.drop i) acc, ?_, fun i m H2 hW => ?_⟩
  · refine ⟨ds.length, by simp, Nat.zero_le _, fun b => w1.M b ∨ b = L, w1.C, b1, [], Nat.le_refl _, ?_, ?_, hds⟩
    · exact (er1.more hl).toEH.plus (H' := upd w1.H L (.dK [])) (same_new nL) nL (by rw [upd_same]; simp) (fun _ => by rw [upd_same]; exact fun z => nomatch z)
    · exact ⟨Ext.plus (same_new nL) nL, .inr rfl, nC1, [], upd_same, rfl, .nil⟩
  · obtain ⟨rfl, hi, M2, C2, b2, acc, hb2, eh2, gr2, hw2⟩ := hW
    have ok2 := eh2.those
    by_cases hlt : i < ds.length
    · rw [List.drop_eq_getElem_cons hlt] at hw2
      obtain ⟨env3, hg3, hw3⟩ := hw2
      have hb2' : b2 + (ds.length - (i + 1)) * kk + kk ≤ b1 + ds.length * kk := by
        rw [show ds.length - i = (ds.length - (i + 1)) + 1 by omega, Nat.add_mul, Nat.one_mul] at hb2; omega
      refine .inr ⟨wlk.go ⟨H2, M2, C2⟩ i ok2 hlt, fun H' => ∃ (M C : Addr → Prop) (b : Nat) (acc : List (D × D)), b + (ds.length - (i + 1)) * kk ≤ b1 + ds.length * kk ∧ EH ((G.more l).at b) ⟨H', M, C⟩ ∧ GrD w1 L ⟨H', M, C⟩ acc ∧ wDcI gd wt wk wv (wipeE env vs) (fun acc => P (.nw (.dict acc))) (ds.drop (i + 1)) acc,
        fun H' q => ⟨ds.length - (i + 1), by omega, rfl, hlt, q⟩, fun x H' hy => ?_⟩
      obtain ⟨sm, d, hd, rx⟩ := wlk.yld ⟨H2, M2, C2⟩ i x H' eh2.md ok2 hlt hy
      have hd' : d = ds[i] := by rw [List.getElem?_eq_getElem hlt] at hd; exact (Option.some.inj hd).symm
      subst hd'
      have er2 := back eh2 gr2.ex
      have gr2' := gr2.ext (Ext.same (w := ⟨H2, M2, C2⟩) sm) eh2.cm
      refine ⟨l, wipeE env vs, env3, M2, C2, b2, ds[i], er2.same sm, rx, hg3, fun σ3 er3 x3 => ⟨wipe_eqx x3 hix, l, env3, M2, C2, b2, _, by omega, er3, hw3, fun b hb b4 w4 hb4 er4 e4 => ?_⟩⟩
      have gr4 := gr2'.ext e4 er3.cm
      cases b with
      | false =>
        rw [if_neg Bool.false_ne_true] at hb
        refine iteF ?_
        exact ⟨w4.M, w4.C, b4, acc, by omega, er4.toEH, gr4, hb⟩
      | true =>
        rw [if_pos rfl] at hb
        refine iteT ?_
        refine ⟨l, env3, w4.M, w4.C, b4, _, by omega, er4, hb, fun y hy b5 w5 v5 hb5 er5 e5 r5 => ⟨l, env3, w5.M, w5.C, b5, _, by omega, er5, hy, fun z hz b6 w6 v6 hb6 er6 e6 r6 => ?_⟩⟩
        obtain ⟨k, dk, dz, h1, h2, h3, h4, hn⟩ := hz
        have gr6 := (gr4.ext e5 er4.cm).ext e6 er5.cm
        obtain ⟨kvs, h7, l7, gr7⟩ := gr6.more (q := k) nL (r6.rp h3)
        rw [← keyD?_eq h2] at gr7
        exact ⟨kvs, k, r5.key h1 h2, h7, by rw [l7]; exact h4, w6.M, w6.C, b6, _, by omega, er6.toEH.poke gr6.m gr6.c pL (fun _ z => nomatch z), gr7, hn⟩
    · rw [List.drop_eq_nil_of_le (by omega)] at hw2
      rw [show ds.length - i = 0 by omega, Nat.zero_mul] at hb2
      exact .inl ⟨wlk.stop ⟨H2, M2, C2⟩ i ok2 (by omega), hf _ hw2 b2 ⟨H2, M2, C2⟩ _ (by omega) (er1.ext' gr2.ex eh2.fewer) (e1.trans gr2.ex) (gr2.done (b := b2) (e1.free nL))⟩
theorem de_dc {vs : List Nat} (hc : X.calm = true) (hN : X.N.Nodup) (hi : DI X G tg iter wi ci) (ok : BlkOk X.N X.env.scope scope own)
    (hg : ∀ (l : List Fx) (s : Shared) (H : Hp) (C : Addr) (cl : List (Str × Addr)) (fp : List Addr), PG (X.blk s H scope (compEnvC scope cl C X.env) fp) tg (tG (G.more l) ix gd))
    (ht : ∀ (l : List Fx) (s : Shared) (H : Hp) (C : Addr) (cl : List (Str × Addr)) (fp : List Addr), PTs (X.blk s H scope (compEnvC scope cl C X.env) fp) ifs (tT (G.more l) wt ct))
    (hk : ∀ (l : List Fx) (s : Shared) (H : Hp) (C : Addr) (cl : List (Str × Addr)) (fp : List Addr), DE (X.blk s H scope (compEnvC scope cl C X.env) fp) (G.more l) kx wk ck)
    (he : ∀ (l : List Fx) (s : Shared) (H : Hp) (C : Addr) (cl : List (Str × Addr)) (fp : List Addr), DE (X.blk s H scope (compEnvC scope cl C X.env) fp) (G.more l) vx wv cv)
    (hix : ∀ i ∈ ix, i ∈ vs) (hs : ∀ x, foldedSetIterable iter X.env x = pure x := by intro _; rfl) (hvs : own.map (·.2) = vs := by rfl) : DE X G (.DictComp kx vx [⟨tg, iter, ifs, 0⟩] scope pos) (wDc wi gd wt wk wv vs) (ci + many * (ct + (ck + cv))) := by
  subst hvs
  exact PE_imp (pe_dc hc hN hi ok (fun s H C cl fp => ⟨fun pins s' σ H' v u Q I r ⟨l, q⟩ => (hg l s H C cl fp).run pins s' σ H' v u Q I r q⟩)
    (fun s H C cl fp => ⟨fun pins s' σ H' Q I ⟨l, q⟩ => (ht l s H C cl fp).run pins s' σ H' Q I q⟩) (fun s H C cl fp => ⟨fun pins s' σ H' Q I ⟨l, q⟩ => (hk l s H C cl fp).run pins s' σ H' Q I q⟩) (fun s H C cl fp => ⟨fun pins s' σ H' Q I ⟨l, q⟩ => (he l s H C cl fp).run pins s' σ H' Q I q⟩) hs) fun σ H Q h => rdDc h hix
end
end DL
namespace DL
open PySem PySem.Spec PyProof.Rows L2
section
variable {X : Cx} {G : Gh} {kx vx tg iter tg1 iter1 : Expr} {ifs ifs1 : List Expr} {scope : Scope} {own : List (Str × Nat)} {pos : Pos} {ix ix1 : List Nat} {wi wi1 : WI} {gd gd1 : GD} {wt wt1 : WT} {wk wv : WE} {ci ct ci1 ct1 ck cv : Nat}
theorem rdDc2 {vs vs1 : List Nat} {σ : L2.St} {H : Hp} {Q : VK} (h : tV G (wDc2 wi gd wt wi1 gd1 wt1 wk wv vs vs1) (ci + many * (ct + (ci1 + many * (ct1 + (ck + cv))))) σ H Q) (hix : ∀ i ∈ ix, i ∈ vs) (hix1 : ∀ i ∈ ix1, i ∈ vs1) (ok : GOk ix gd) :
    tDc2 (tI G wi ci) (gE G ix gd) (ttE G wt ct) (tiE G wi1 ci1) (gE2 G ix1 gd1) (ttE2 G wt1 ct1) (teE2 G wk ck) (teE2 G wv cv) vs vs1 σ H Q := by
  obtain ⟨env, M, C, b0, P, hb0, er, hw, hf⟩ := h
  refine ⟨env, M, C, b0, _, by omega, er, hw, fun ds hds b1 w1 J l hb1 er1 e1 hl wlk hz L nL => ?_⟩
  generalize hce : ck + cv = ce at hb0 hb1 hf
  generalize hk : ct + (ci1 + many * (ct1 + ce)) = kk at hb0 hb1 hf
  have hz' := le_many (a := kk) hz
  have nM1 : ¬ w1.M L := fun m => er1.md L m nL
  have nC1 : ¬ w1.C L := fun c => nM1 (er1.cm L c)
  have pL : G.Pt L = none := by
    cases q : G.Pt L with
    | none => rfl
    | some x => rcases er1.kp L x q with z | ⟨_, _, ob, z⟩ <;> (rw [nL] at z; cases z)
  have back : ∀ {b5 : Nat} {w5 : Wd}, EH ((G.more l).at b5) w5 → Ext w1 w5 → ER ((G.more l).at b5) w5 (wipeE env vs) (L2.wipe σ vs) := fun {b5 w5} eh5 e5 => by
    have z := ((er1.wipe vs).ext' e5 eh5.fewer)
    exact ⟨eh5, z.len, z.sl, z.od⟩
  refine ⟨fun i m H => m = ds.length - i ∧ i ≤ ds.length ∧ ∃ (M C : Addr → Prop) (b : Nat) (acc : List (D × D)), b + m * kk ≤ b1 + ds.length * kk ∧ EH ((G.more l).at b) ⟨H, M, C⟩ ∧ GrD w1 L ⟨H, M, C⟩ acc ∧ wDc2L gd wt wi1 gd1 wt1 wk wv vs1 (wipeE env vs) P (ds.drop i) acc, ?_, fun i m H2 hW => ?_⟩
  · refine ⟨ds.length, by simp, Nat.zero_le _, fun b => w1.M b ∨ b = L, w1.C, b1, [], Nat.le_refl _, ?_, ?_, hds⟩
    · exact (er1.more hl).toEH.plus (H' := upd w1.H L (.dK [])) (same_new nL) nL (by rw [upd_same]; simp) (fun _ => by rw [upd_same]; exact fun z => nomatch z)
    · exact ⟨Ext.plus (same_new nL) nL, .inr rfl, nC1, [], upd_same, rfl, .nil⟩
  · obtain ⟨rfl, hi, M2, C2, b2, acc, hb2, eh2, gr2, hw2⟩ := hW
    have ok2 := eh2.those
    by_cases hlt : i < ds.length
    · rw [List.drop_eq_getElem_cons hlt] at hw2
      obtain ⟨env3, hg3, hw3⟩ := hw2
      have hb2' : b2 + (ds.length - (i + 1)) * kk + kk ≤ b1 + ds.length * kk := by
        rw [show ds.length - i = (ds.length - (i + 1)) + 1 by omega, Nat.add_mul, Nat.one_mul] at hb2; omega
      refine .inr ⟨wlk.go ⟨H2, M2, C2⟩ i ok2 hlt, fun H' => ∃ (M C : Addr → Prop) (b : Nat) (acc : List (D × D)), b + (ds.length - (i + 1)) * kk ≤ b1 + ds.length * kk ∧ EH ((G.more l).at b) ⟨H', M, C⟩ ∧ GrD w1 L ⟨H', M, C⟩ acc ∧ wDc2L gd wt wi1 gd1 wt1 wk wv vs1 (wipeE env vs) P (ds.drop (i + 1)) acc,
        fun H' q => ⟨ds.length - (i + 1), by omega, rfl, hlt, q⟩, fun x H' hy => ?_⟩
      obtain ⟨sm, d, hd, rx⟩ := wlk.yld ⟨H2, M2, C2⟩ i x H' eh2.md ok2 hlt hy
      have hd' : d = ds[i] := by rw [List.getElem?_eq_getElem hlt] at hd; exact (Option.some.inj hd).symm
      subst hd'
      have er2 := back eh2 gr2.ex
      have gr2' := gr2.ext (Ext.same (w := ⟨H2, M2, C2⟩) sm) eh2.cm
      refine ⟨l, wipeE env vs, env3, M2, C2, b2, ds[i], er2.same sm, rx, hg3, fun σ3 er3 x3 => ⟨wipe_eqx x3 hix, l, env3, M2, C2, b2, _, by omega, er3, hw3, fun b hb b4 w4 hb4 er4 e4 => ?_⟩⟩
      have gr4 := gr2'.ext e4 er3.cm
      cases b with
      | false =>
        rw [if_neg Bool.false_ne_true] at hb
        refine iteF ?_
        exact ⟨w4.M, w4.C, b4, acc, by omega, er4.toEH, gr4, hb⟩
      | true =>
        rw [if_pos rfl] at hb
        refine iteT ?_
        refine ⟨l, env3, w4.M, w4.C, b4, _, by omega, er4, hb, fun ds1 hds1 b5 w5 J1 l1 hb5 er5 e5 hl1 wk1 hz1 => ?_⟩
        have gr5 := gr4.ext e5 er4.cm
        have hz1' := le_many (a := ct1 + ce) hz1
        have back1 : ∀ {b' : Nat} {w' : Wd}, EH (((G.more l).more l1).at b') w' → Ext w1 w' → St1 w5 w' → ER (((G.more l).more l1).at b') w' (wipeE env3 vs1) (L2.wipe σ3 vs1) := fun {b' w'} eh' e' st => by
          have z := ((ER.mix (G := G.more l) ((er1.more hl).wipe vs) e' er5 st x3 (ok _ _ _ hg3).1 (ok _ _ _ hg3).2 eh'.fewer).wipe vs1)
          exact ⟨eh', z.len, z.sl, z.od⟩
        refine ⟨fun j m H => m = ds1.length - j ∧ j ≤ ds1.length ∧ ∃ (M C : Addr → Prop) (b : Nat) (acc : List (D × D)), b + m * (ct1 + ce) ≤ b5 + ds1.length * (ct1 + ce) ∧ EH (((G.more l).more l1).at b) ⟨H, M, C⟩ ∧ GrD w1 L ⟨H, M, C⟩ acc ∧ St1 w5 ⟨H, M, C⟩ ∧ wDcI gd1 wt1 wk wv (wipeE env3 vs1) (fun acc' => wDc2L gd wt wi1 gd1 wt1 wk wv vs1 (wipeE env vs) P (ds.drop (i + 1)) acc') (ds1.drop j) acc, ?_, fun j m H6 hW => ?_⟩
        · exact ⟨ds1.length, by simp, Nat.zero_le _, w5.M, w5.C, b5, acc, Nat.le_refl _, (er5.more hl1).toEH, gr5, ⟨fun a o _ h => .inl h, fun a m => .inl m⟩, hds1⟩
        · obtain ⟨rfl, hj, M6, C6, b6, acc6, hb6, eh6, gr6, st6, hw6⟩ := hW
          have ok6 := eh6.those
          by_cases hlt1 : j < ds1.length
          · rw [List.drop_eq_getElem_cons hlt1] at hw6
            obtain ⟨env7, hg7, hw7⟩ := hw6
            have hb6' : b6 + (ds1.length - (j + 1)) * (ct1 + ce) + (ct1 + ce) ≤ b5 + ds1.length * (ct1 + ce) := by
              rw [show ds1.length - j = (ds1.length - (j + 1)) + 1 by omega, Nat.add_mul, Nat.one_mul] at hb6; omega
            refine .inr ⟨wk1.go ⟨H6, M6, C6⟩ j ok6 hlt1, fun H' => ∃ (M C : Addr → Prop) (b : Nat) (acc : List (D × D)), b + (ds1.length - (j + 1)) * (ct1 + ce) ≤ b5 + ds1.length * (ct1 + ce) ∧ EH (((G.more l).more l1).at b) ⟨H', M, C⟩ ∧ GrD w1 L ⟨H', M, C⟩ acc ∧ St1 w5 ⟨H', M, C⟩ ∧ wDcI gd1 wt1 wk wv (wipeE env3 vs1) (fun acc' => wDc2L gd wt wi1 gd1 wt1 wk wv vs1 (wipeE env vs) P (ds.drop (i + 1)) acc') (ds1.drop (j + 1)) acc,
              fun H' q => ⟨ds1.length - (j + 1), by omega, rfl, hlt1, q⟩, fun x7 H7 hy7 => ?_⟩
            obtain ⟨sm7, d7, hd7, rx7⟩ := wk1.yld ⟨H6, M6, C6⟩ j x7 H7 eh6.md ok6 hlt1 hy7
            have hd7' : d7 = ds1[j] := by rw [List.getElem?_eq_getElem hlt1] at hd7; exact (Option.some.inj hd7).symm
            subst hd7'
            have er6 := back1 eh6 gr6.ex st6
            have gr6' := gr6.ext (Ext.same (w := ⟨H6, M6, C6⟩) sm7) eh6.cm
            have st6' := st6.trans (St1.same (w := ⟨H6, M6, C6⟩) sm7)
            refine ⟨l, l1, wipeE env3 vs1, env7, M6, C6, b6, ds1[j], er6.same sm7, rx7, hg7, fun σ7 er7 x7' => ⟨wipe_eqx x7' hix1, l, l1, env7, M6, C6, b6, _, by omega, er7, hw7, fun k hk b8 w8 hb8 er8 e8 => ?_⟩⟩
            have gr8 := gr6'.ext e8 er7.cm
            have st8 := st6'.trans (e8.st er7.cm)
            cases k with
            | false =>
              rw [if_neg Bool.false_ne_true] at hk
              refine iteF ?_
              exact ⟨w8.M, w8.C, b8, acc6, by omega, er8.toEH, gr8, st8, hk⟩
            | true =>
              rw [if_pos rfl] at hk
              refine iteT ?_
              refine ⟨l, l1, env7, w8.M, w8.C, b8, _, by omega, er8, hk, fun y hy b9 w9 v9 hb9 er9 e9 r9 => ⟨l, l1, env7, w9.M, w9.C, b9, _, by omega, er9, hy, fun z hz b10 w10 v10 hb10 er10 e10 r10 => ?_⟩⟩
              obtain ⟨kq, dk, dz, k1, k2, k3, k4, hn⟩ := hz
              have gr10 := (gr8.ext e9 er8.cm).ext e10 er9.cm
              obtain ⟨kvs, h11, l11, gr11⟩ := gr10.more (q := kq) nL (r10.rp k3)
              rw [← keyD?_eq k2] at gr11
              exact ⟨kvs, kq, r9.key k1 k2, h11, by rw [l11]; exact k4, w10.M, w10.C, b10, _, by omega, er10.toEH.poke gr10.m gr10.c pL (fun _ z => nomatch z), gr11, ((st8.trans (e9.st er8.cm)).trans (e10.st er9.cm)).trans (St1.grow gr10.m), hn⟩
          · rw [List.drop_eq_nil_of_le (show ds1.length ≤ j by omega)] at hw6
            rw [show ds1.length - j = 0 by omega, Nat.zero_mul] at hb6
            exact .inl ⟨wk1.stop ⟨H6, M6, C6⟩ j ok6 (by omega), M6, C6, b6, acc6, by rw [show many * (ct1 + ce) = kk - ct - ci1 by omega] at hz1'; omega, eh6.fewer, gr6, hw6⟩
    · rw [List.drop_eq_nil_of_le (by omega)] at hw2
      rw [show ds.length - i = 0 by omega, Nat.zero_mul] at hb2
      exact .inl ⟨wlk.stop ⟨H2, M2, C2⟩ i ok2 (by omega), hf _ hw2 b2 ⟨H2, M2, C2⟩ _ (by omega) (er1.ext' gr2.ex eh2.fewer) (e1.trans gr2.ex) (gr2.done (b := b2) (e1.free nL))⟩
/-- x = {..}, the name's own form: the comprehension's value is stored within its block -/
theorem ps_setDc2 {i : Nat} {y : Str} {py : Pos} {vs1 : List Nat} {spos : Pos} {wi wi1 : TI} {g g1 : TG} {tt tt1 : TT} {tk tv : TE} (hc : X.calm = true) (hN : X.N.Nodup) (hy : X.N[i]? = some y) (hyl : X.env.scope.names.lookup y = some .local)
    (hsw : swapsWith (dc2 kx vx tg iter tg1 iter1 ifs ifs1 scope pos) (some (.Name y py)) spos.line X.env = pure true) (hi : PI X tg iter wi) (ok : BlkOk X.N X.env.scope scope own) (hv : ∀ i ∈ vs1, i ∈ own.map (·.2))
    (B : ∀ (s : Shared) (H : Hp) (C : Addr) (cl : List (Str × Addr)) (fp : List Addr) (Y : Cx), Y = X.blk s H scope (compEnvC scope cl C X.env) fp → PG Y tg g ∧ PTs Y ifs tt ∧ PI Y tg1 iter1 wi1 ∧ PG Y tg1 g1 ∧ PTs Y ifs1 tt1 ∧ PE Y kx tk ∧ PE Y vx tv)
    (hs : ∀ x, foldedSetIterable iter X.env x = pure x) (hs1 : ∀ env x, foldedSetIterable iter1 env x = pure x) :
    PS X (.Assign [.Name y py] (dc2 kx vx tg iter tg1 iter1 ifs ifs1 scope pos) spos) (tAsg (tDc2 wi g tt wi1 g1 tt1 tk tv (own.map (·.2)) vs1) (gName i)) := by
  refine ⟨fun pins s σ H De I h => ?_⟩
  rw [exec_Assign_Name_used _ _ _ _ hsw]
  refine wpAny_bind (wpAny_standAt (wpAny_bind ?_))
  show wpAny _ X.A (do let _ ← comprehension (dc2 kx vx tg iter tg1 iter1 ifs ifs1 scope pos) scope X.env (firstIterPos [⟨tg, iter, ifs, 0⟩, ⟨tg1, iter1, ifs1, 0⟩] pos) newDict false (eval iter X.env) (some (assign (.Name y py) X.env))) _ _ s
  have h : tDc2 wi g tt wi1 g1 tt1 tk tv (own.map (·.2)) vs1 σ H (fun x H1 => gName i x σ H1 De.nx) := h
  refine wpAny_bind (thn (dc2_core (Qf := fun _ s' => SP X pins De .next s') hc hN I hi ok hv hs hs1 B h fun L C s' m H' I' q hn f => ?_) fun _ s' hq => wpAny_pure (wpAny_pure hq))
  obtain ⟨f0, f1, f2, f3, f4, f5⟩ := f
  refine wpAny_assign_Name (store_ok2 (v := V.ref L) I' hN hy (.inl hyl) rfl (fun s2 I2 ⟨a, sb, ha⟩ => ⟨m, hn.sameBut sb (ha.elim (fun z => by rw [z]; exact f1) fun z e => f4 y a z e.symm), fun h3 sb3 => ?_⟩) (.inr hyl))
  exact ⟨_, H', I2.turned (t' := s2.toks) (fun b o hb e => (sb3.2 b hb).trans e) f0 f1 f3 f4 f5, q⟩
theorem sw_dict {gs : List Comprehension} {py : Pos} {y : Str} {l : Nat} {env : Env} (hk : env.scope.kind = .function) (hy : env.scope.names.lookup y = some .local) (hl : (py.line == pos.line) = true)
    (ha : (scope.names.any fun (n, k) => n == y && (k == .local || k == .cell)) = false) : swapsWith (.DictComp kx vx gs scope pos) (some (.Name y py)) l env = pure true := by
  have ky : env.kindOf y = some .local := hy
  have hb : env.blockKind = .function := by unfold Env.blockKind; rw [hk]; rfl
  unfold swapsWith
  simp only [hb, ky, ha, Expr.pos, hl]; rfl
theorem ds_setDc2 (k : Kp) (i : Nat) {vs vs1 : List Nat} {y : Str} {py spos : Pos} (hc : X.calm = true) (hN : X.N.Nodup) (hy : X.N[i]? = some y) (hyl : X.env.scope.names.lookup y = some .local)
    (hsw : swapsWith (.DictComp kx vx [⟨tg, iter, ifs, 0⟩, ⟨tg1, iter1, ifs1, 0⟩] scope pos) (some (.Name y py)) spos.line X.env = pure true) (hi : DI X G tg iter wi ci) (ok : BlkOk X.N X.env.scope scope own) (okg : GOk ix gd)
    (hg : ∀ (l : List Fx) (s : Shared) (H : Hp) (C : Addr) (cl : List (Str × Addr)) (fp : List Addr), PG (X.blk s H scope (compEnvC scope cl C X.env) fp) tg (tG (G.more l) ix gd))
    (ht : ∀ (l : List Fx) (s : Shared) (H : Hp) (C : Addr) (cl : List (Str × Addr)) (fp : List Addr), PTs (X.blk s H scope (compEnvC scope cl C X.env) fp) ifs (tT (G.more l) wt ct))
    (hi1 : ∀ (l : List Fx) (s : Shared) (H : Hp) (C : Addr) (cl : List (Str × Addr)) (fp : List Addr), DI (X.blk s H scope (compEnvC scope cl C X.env) fp) (G.more l) tg1 iter1 wi1 ci1)
    (hg1 : ∀ (l l1 : List Fx) (s : Shared) (H : Hp) (C : Addr) (cl : List (Str × Addr)) (fp : List Addr), PG (X.blk s H scope (compEnvC scope cl C X.env) fp) tg1 (tG ((G.more l).more l1) ix1 gd1))
    (ht1 : ∀ (l l1 : List Fx) (s : Shared) (H : Hp) (C : Addr) (cl : List (Str × Addr)) (fp : List Addr), PTs (X.blk s H scope (compEnvC scope cl C X.env) fp) ifs1 (tT ((G.more l).more l1) wt1 ct1))
    (hk : ∀ (l l1 : List Fx) (s : Shared) (H : Hp) (C : Addr) (cl : List (Str × Addr)) (fp : List Addr), DE (X.blk s H scope (compEnvC scope cl C X.env) fp) ((G.more l).more l1) kx wk ck)
    (he : ∀ (l l1 : List Fx) (s : Shared) (H : Hp) (C : Addr) (cl : List (Str × Addr)) (fp : List Addr), DE (X.blk s H scope (compEnvC scope cl C X.env) fp) ((G.more l).more l1) vx wv cv)
    (hix : ∀ i ∈ ix, i ∈ vs) (hix1 : ∀ i ∈ ix1, i ∈ vs1) (hv : ∀ i ∈ vs1, i ∈ vs) (hs : ∀ x, foldedSetIterable iter X.env x = pure x := by intro _; rfl) (hs1 : ∀ env x, foldedSetIterable iter1 env x = pure x := by intro _ _; rfl) (hvs : own.map (·.2) = vs := by rfl) :
    DS X G (.Assign [.Name y py] (.DictComp kx vx [⟨tg, iter, ifs, 0⟩, ⟨tg1, iter1, ifs1, 0⟩] scope pos) spos) (wSet k i (wDc2 wi gd wt wi1 gd1 wt1 wk wv vs vs1)) (ci + many * (ct + (ci1 + many * (ct1 + (ck + cv))))) := by
  subst hvs
  refine PS_imp (ps_setDc2 hc hN hy hyl hsw hi ok hv (fun s H C cl fp Y e => ?_) hs hs1) fun σ H T h => rdSet h fun Q q => rdDc2 q hix hix1 okg
  subst e
  exact ⟨⟨fun pins s' σ H' v u Q I r ⟨l, q⟩ => (hg l s H C cl fp).run pins s' σ H' v u Q I r q⟩, ⟨fun pins s' σ H' Q I ⟨l, q⟩ => (ht l s H C cl fp).run pins s' σ H' Q I q⟩, ⟨fun pins s' σ H' Q I ⟨l, q⟩ => (hi1 l s H C cl fp).run pins s' σ H' Q I q⟩, ⟨fun pins s' σ H' v u Q I r ⟨l, l1, q⟩ => (hg1 l l1 s H C cl fp).run pins s' σ H' v u Q I r q⟩,
    ⟨fun pins s' σ H' Q I ⟨l, l1, q⟩ => (ht1 l l1 s H C cl fp).run pins s' σ H' Q I q⟩, ⟨fun pins s' σ H' Q I ⟨l, l1, q⟩ => (hk l l1 s H C cl fp).run pins s' σ H' Q I q⟩, ⟨fun pins s' σ H' Q I ⟨l, l1, q⟩ => (he l l1 s H C cl fp).run pins s' σ H' Q I q⟩⟩
end
end DL
namespace DL
open PySem PySem.Spec PyProof.Rows L2
/-! ### a dict beside {} -/
def neE : D → D → Option D
  | .dict es, .dict [] => if (es.all fun p => !isT p.1) = true then some (.bool (!es.isEmpty)) else none
  | _, _ => none
section
variable {X : Cx} {pins : List (Addr × Obj)} {σ : L2.St} {s : Shared} {w : Wd}
theorem Rq.dict (I : Inv X pins σ w.H s) {v : V} {es : List (D × D)} (h : Rq w v (.dict es)) (nt : (es.all fun p => !isT p.1) = true) : ∃ a kvs, v = .ref a ∧ (a == sysModules) = false ∧ s.heap.DictOf (mixKind X.prog X.w) a kvs ∧ kvs.length = es.length := by
  cases h with
  | @dK a kvs _ hr ek rl =>
    obtain ⟨_, hd, vs, rel, dd⟩ := dk_rd I.hok hr
    refine ⟨a, vs, rfl, hd, dd, ?_⟩
    have e := congrArg List.length ek
    rw [List.length_map, List.length_map] at e
    have l := rel.length
    omega
  | @dT a kvs _ hr ek rl =>
    obtain ⟨rfl, rfl⟩ := noT ek fun p hp => by have := List.all_eq_true.mp nt p hp; simpa using this
    obtain ⟨hd, dd⟩ := dT0 I hr
    exact ⟨a, [], rfl, hd, dd, rfl⟩
theorem op_neE (hu : X.A.units < cLine) : OpR X (compareOp .NotEq) (rV2 neE) := by
  intro pins s σ H x y v u Q I rx ry h
  obtain ⟨w, dx, dy, d, rfl, wk, qx, qy, e, hq⟩ := h
  cases dx with
  | dict es =>
    cases dy with
    | dict fs =>
      cases fs with
      | cons _ _ => cases e
      | nil =>
        obtain ⟨nt, rfl⟩ := of_if e
        obtain ⟨a, ka, rfl, ya, da, la⟩ := Rq.dict I qx nt
        obtain ⟨b, kb, rfl, yb, db, lb⟩ := Rq.dict I qy rfl
        obtain rfl : v = Value.ref a := rx
        obtain rfl : u = Value.ref b := ry
        have hb : kb = [] := List.length_eq_zero_iff.mp lb
        subst hb
        refine PySem.W.keq_ne (knd := mixKind X.prog X.w) (r := true) ya yb da db hu (fun z => ?_) ?_
        · have ha : ka = [] := List.length_eq_zero_iff.mp z
          subst ha
          exact .nil
        · have k : (!(ka.length == ([] : List (Key × Value)).length && true)) = !es.isEmpty := by
            rw [Bool.and_true, List.length_nil, la]
            cases es <;> rfl
          rw [k]
          exact fin_bl I (hq _ _ (Same.refl _) (.bl _)) rfl
    | _ => cases e
  | _ => cases e
end
/-! ### d.get(k, x) -/
def wGet2 (wa wk wd : WE) : WE := fun env P => wa env fun x => ∃ es, x.val = some (.dict es) ∧ wk env fun y => wd env fun z => ∃ dk r dz, y.val = some dk ∧ dfind es dk = some r ∧ z.kept = some dz ∧ P (.fz (r.getD dz))
section
variable {X : Cx} {G : Gh} {o e f : Expr} {apos cpos : Pos} {wa wk wd : WE} {ca cb cc : Nat}
def tGet3 (td ty tx : TE) : TE := fun σ H Q => td σ H fun x H1 => ∃ a, x = .ref a ∧ IsD H1 a ∧ ty σ H1 fun y H2 => tx σ H2 fun z H3 => ∃ ov, DG H3 a y ov ∧ Q (ov.getD z) H3
theorem pe_get3 {td ty tx : TE} (hu : X.A.units + 1 < cLine) (ho : PE X o td) (he : PE X e ty) (hf : PE X f tx) (m : M2 X o "get" apos e f cpos) : PE X (.Call (.Attribute o "get" apos) [e, f] [] cpos) (tGet3 td ty tx) := ⟨fun pins s σ H Q I h => by
  refine wpAny_Call_method m.base m.few m.line PySem.F.plainAttrs_dict PySem.F.slot_dict_get PySem.F.type_dict_get (thn (ho.run pins s σ H _ I h) fun u s1 ⟨x, H1, I1, rx, a, ex, d, q1⟩ => ?_)
  subst ex
  cases (show u = Value.ref a from rx)
  obtain ⟨t1, t2, _⟩ := isD_at I1 d
  refine ⟨t1, t2, ?_⟩
  rw [m.trees]
  refine Calls.callWith_builtin rfl (Calls.evalArgs_plain (Calls.spliced_cons (thn (he.run pins s1 σ H1 _ I1 q1) fun _ s2 ⟨y, H2, I2, ry, q2⟩ => Calls.spliced_cons (thn (hf.run pins s2 σ H2 _ I2 q2) fun _ s3 ⟨z, H3, I3, rz, ov, g, q3⟩ => Calls.spliced_nil ?_))))
  exact g_get2 hu I3 g ry rz fun w' s4 I4 r4 => ⟨_, H3, I4, r4, q3⟩⟩
theorem Rq.isD {w : Wd} {v : V} {es : List (D × D)} (h : Rq w v (.dict es)) : ∃ a, v = .ref a ∧ IsD w.H a := by
  cases h with
  | @dK a kvs _ hr _ _ => exact ⟨a, rfl, .inl ⟨_, hr⟩⟩
  | @dT a kvs _ hr _ _ => exact ⟨a, rfl, .inr ⟨_, hr⟩⟩
theorem de_get2 (hu : X.A.units + 1 < cLine) (ho : DE X G o wa ca) (he : DE X G e wk cb) (hf : DE X G f wd cc) (m : M2 X o "get" apos e f cpos) : DE X G (.Call (.Attribute o "get" apos) [e, f] [] cpos) (wGet2 wa wk wd) (ca + (cb + cc)) :=
  PE_imp (pe_get3 hu ho he hf m) fun σ H Q h => by
    obtain ⟨env, M, C, b0, P, hb0, er, hw, fin⟩ := h
    refine ⟨env, M, C, b0, _, by omega, er, hw, fun x ⟨es, hx, hy⟩ b1 w1 v1 hb1 er1 e1 r1 => ?_⟩
    obtain ⟨a, rfl, da⟩ := (r1.rq hx).isD
    refine ⟨a, rfl, da, env, w1.M, w1.C, b1, _, by omega, er1, hy, fun y hz b2 w2 v2 hb2 er2 e2 r2 => ⟨env, w2.M, w2.C, b2, _, by omega, er2, hz, fun z ⟨dk, r, dz, h1, h2, h3, p⟩ b3 w3 v3 hb3 er3 e3 r3 => ?_⟩⟩
    have rx := ((r1.ext (Hs' := H) e2 er1.cm fun _ q => q).ext (Hs' := H) e3 er2.cm fun _ q => q).rq hx
    have ry := (r2.ext (Hs' := H) e3 er2.cm fun c q => e1.free q).rq h1
    have go : ∀ (u : V) (d : D), Rp w3 u d → P (.fz d) → Q u w3.H := fun u d ru p => fin _ p b3 w3 u (by omega) er3 ((e1.trans e2).trans e3) ru
    rcases dfind_dg rx ry h2 with ⟨u, d, g, rfl, ru⟩ | ⟨g, rfl⟩
    · exact ⟨some u, g, go u d ru p⟩
    · exact ⟨none, g, go v3 dz (r3.rp h3) p⟩
end
/-! ### a, b = .., [..] by a tuple, where the last one becomes a local's own -/
def wAsg2O (i j : Nat) (wa wb : WE) : WS := fun env De => wa env fun x => wb env fun y => ∃ dx d, x.kept = some dx ∧ y = .nw d ∧ De.nx ((env.set i (.fz dx)).set j (.own d))
section
variable {X : Cx} {G : Gh} {a b : Expr} {wa wb : WE} {ca cb : Nat} {pos : Pos}
theorem ds_asg2O (i j : Nat) {x y : Str} {px py pt : Pos} {kt k2 pt2} (hc : X.calm = true) (hN : X.N.Nodup) (ha : DE X G a wa ca) (hb : DE X G b wb cb) (hi : X.N[i]? = some x := by rfl) (hj : X.N[j]? = some y := by rfl)
    (hx : Loc X.env.scope x := by first | exact Or.inl rfl | exact Or.inr rfl) (hy : Loc X.env.scope y := by first | exact Or.inl rfl | exact Or.inr rfl)
    (fx : X.fn x = true ∨ X.env.scope.names.lookup x = some .local := by first | exact .inl rfl | exact .inr rfl | assumption) (fy : X.fn y = true ∨ X.env.scope.names.lookup y = some .local := by first | exact .inl rfl | exact .inr rfl | assumption)
    (ne : starEach [a, b] X.env = (false, eval a X.env) :: starEach [b] X.env := by rfl) (ne2 : starEach [b] X.env = (false, eval b X.env) :: starEach [] X.env := by rfl)
    (hn : (assignEach [.Name x px, .Name y py] X.env).length = 2 := by rfl) (hst : (assignEach [.Name x px, .Name y py] X.env).findIdx? (·.1) = none := by rfl)
    (q1 : (assignEach [.Name x px, .Name y py] X.env).map (·.2) = assign (.Name x px) X.env :: (assignEach [.Name y py] X.env).map (·.2) := by rfl) (q2 : (assignEach [.Name y py] X.env).map (·.2) = assign (.Name y py) X.env :: (assignEach [] X.env).map (·.2) := by rfl)
    (hs : swapsWithSole [.Tuple [.Name x px, .Name y py] kt pt] (.Tuple [a, b] k2 pt2) pos.line X.env = pure false := by rfl) (hw : swappedStores [.Tuple [.Name x px, .Name y py] kt pt] (.Tuple [a, b] k2 pt2) X.env = pure none := by rfl)
    (h1 : (assignEach [.Tuple [.Name x px, .Name y py] kt pt] X.env).map (·.2) = [assign (.Tuple [.Name x px, .Name y py] kt pt) X.env] := by rfl) :
    DS X G (.Assign [.Tuple [.Name x px, .Name y py] kt pt] (.Tuple [a, b] k2 pt2) pos) (wAsg2O i j wa wb) (ca + cb) :=
  PS_imp (ps_asg (pe_tup (pa_cons ha (pa_cons hb pa_nil ne2) ne)) (pg_tup hc (pgs_cons (pg_name hN hi hx fx) (pgs_cons (pg_name hN hj hy fy) pgs_nil q2) q1) hn hst) hs hw h1) fun σ H T h => by
    obtain ⟨env, M, C, b0, De, hb0, er, hw, lf⟩ := h
    suffices q : tV G wa ca σ H fun v1 H1 => tV G wb cb σ H1 fun v2 H2 => [v1, v2].length ≤ sizeLine ∧ ∀ q, H2 q = none → gTup X.K 2 (gCons (gName i) (gCons (gName j) gNil)) (.ref q) σ (upd H2 q (.tup [v1, v2])) T.nx from q
    refine ⟨env, M, C, b0, _, by omega, er, hw, fun dv1 h1 b1 w1 v1 hb1 er1 e1 r1 => ?_⟩
    refine ⟨env, w1.M, w1.C, b1, _, by omega, er1, h1, fun dv2 h2 b2 w2 v2 hb2 er2 e2 r2 => ?_⟩
    obtain ⟨dx, d, k1, rfl, hn⟩ := h2
    refine ⟨by show 2 ≤ sizeLine; rw [sizeLine_eq]; omega, fun q nq => ?_⟩
    have sm : Same w2.H (upd w2.H q (.tup [v1, v2])) := same_new nq
    have ex := Ext.same sm
    refine ⟨q, [v1, v2], rfl, .inl (.inl upd_same), rfl, v1, _, rfl, v2, _, rfl, rfl, ?_⟩
    obtain ⟨ad, rfl, n0, _, nc, o⟩ := VR.ext r2 ex er2.cm (fun _ h => h)
    have p1 := r1.rp k1
    exact lf.nx _ hn b2 _ _ (by omega) (ER.setNw (er1.setFz p1 i) ((er2.same sm).setFz (p1.st ((e2.trans ex).st er1.cm)) i) (e2.trans ex) n0 nc o j)
end
/-! ### tuple(range(n)) -/
def wTrng (f : List D → Option (List D)) (wr : WA) : WE := fun env P => wr env fun xs => ∃ ds, (valL xs).bind f = some ds ∧ ds.length ≤ 2 ^ 24 ∧ P (.fz (.tuple ds))
section
variable {X : Cx} {G : Gh}
theorem de_trng1 {e : Expr} {wa : WE} {ca : Nat} {p p2 pos pos2 : Pos} (hc : X.calm = true) (hg : Gl X "tuple") (hm : X.mg "tuple" = none) (hg2 : Gl X "range") (hm2 : X.mg "range" = none) (ha : DE X G e wa ca) (na : starEach [e] X.env = (false, eval e X.env) :: starEach [] X.env := by rfl)
    (nb : starEach [.Call (.Name "range" p2) [e] [] pos2] X.env = (false, eval (.Call (.Name "range" p2) [e] [] pos2) X.env) :: starEach [] X.env := by rfl) : DE X G (.Call (.Name "tuple" p) [.Call (.Name "range" p2) [e] [] pos2] [] pos) (wTrng rng1 (wCons wa wNil)) ca :=
  PE_imp (pe_tupRg hc hg hm (prg_1 hg2 hm2 ha na) nb) fun σ H Q h => by
    obtain ⟨env, M, C, b0, P, hb0, er, hw, hf⟩ := h
    refine ⟨env, M, C, b0, _, hb0, er, hw, fun dv hd b1 w1 v hb1 er1 e1 r1 => ?_⟩
    obtain ⟨ds, h1, h4, p⟩ := hd
    obtain ⟨es, h2, h3⟩ := Option.bind_eq_some_iff.mp h1
    obtain ⟨j, rfl, c, rfl⟩ := rng1_get h3
    have hv : dv.val = some (.int j) := by
      simp only [valL, Option.bind_eq_some_iff, Option.map_eq_some_iff] at h2
      obtain ⟨d, q1, _, q2, q3⟩ := h2
      cases q2; cases q3; exact q1
    have q := r1.rq hv
    cases q
    rw [rangeD_length] at h4
    refine ⟨j, rfl, ⟨by omega, by omega, c.1, c.2, by rw [Int.sub_zero]; exact h4⟩, fun l n => ?_⟩
    have fin := Fin.rp (Fin.ext (w := ⟨H, M, C⟩) hf e1 hb1) er1 (d := .tuple (rangeD 0 j.toNat)) p (same_new n) (newT er1.md n (rg_rp 0 j.toNat))
    have e2 : rgV 0 j = (List.range j.toNat).map fun i => V.int (0 + (i : Nat)) := by unfold rgV; rw [Int.sub_zero]
    rw [e2]
    exact fin
end
end DL
namespace K01
open PySem PySem.Spec PyProof.Rows L2 DL
def topS (i : Nat) : Stmt := PySem.Challenge.pw_nestcrates_k01_whole_orders.main.body.getD i (.Pass ⟨0, 0, 0, 0⟩)
abbrev s25 : Stmt := topS 25
abbrev nN : List Str := ["_law_m", "_law_total", "_law_rest", "_law_k", "_law_cell", "_law_mixed"]
theorem sc25 : FnScope nN ["_law_m", "_law_total"] (defScope s25) := ⟨rfl, rfl, rfl, by decide +kernel, rfl, by decide +kernel, by decide +kernel⟩
section
variable {P : Program} {w : World} {K : PySem.W.Frag} {mg : Str → Option Value} {base : Heap}
def spNext (a : Addr) : DL.Spec := fun as Q => ∃ t : Int, as = [.raw (.ref a), .fz (.int t)] ∧ 0 < t ∧ t < 2 ^ 1000 ∧ ∀ r : Int, 0 ≤ r → r < t → Q (.int r)
abbrev SI := SIB "cells" "left" "at"
theorem ok_next (a : Addr) {f : Addr} {fd : FuncData} (F : Fun K "_law_next" "_law_next" s25 f fd) (nI : mg "int" = none) (nL : mg "len" = none) : FnG P w K mg base CX0 2 f fd ["_law_m", "_law_total"] (spF (SI a) 1 (spNext a)) := by
  obtain ⟨oc, od, kV, doc, pm, an, cdv, ct, osl, rfl, lk, hcd⟩ := F.ex
  refine fnG_of lk hcd sc25 (fun vs H Q E h => ?_) fun A outer s H vs Q E hgd hr h => ?_
  · obtain ⟨as, M, C, b, Pd, _, _, _, r, ⟨t, rfl, _⟩, _⟩ := h
    rw [r.length]; rfl
  · obtain ⟨as, M, C, b, Pd, hb, wf, si, r, ⟨t, rfl, ht0, ht1, hr0⟩, hq⟩ := h
    cases r with
    | cons r1 r2 =>
      cases r2 with
      | cons r2 r3 =>
        cases r3
        cases r1; cases r2
        obtain ⟨g, c, gs, cs, n, hn, S⟩ := StB.start wf si
        have kd : Kd "cells" "left" "at" := ⟨by decide, by decide, by decide⟩
        have wf0 : Wf (⟨H, M, C⟩ : Wd) := wf
        have mI : ∀ {e : Expr} {te : TE} {p pos : Pos}, PE (cxOf CX0 P w K mg base nN "_law_next" (defScope s25) f cdv A outer s H E).nox e te → starEach [e] (cxOf CX0 P w K mg base nN "_law_next" (defScope s25) f cdv A outer s H E).nox.env = (false, eval e (cxOf CX0 P w K mg base nN "_law_next" (defScope s25) f cdv A outer s H E).nox.env) :: starEach [] (cxOf CX0 P w K mg base nN "_law_next" (defScope s25) f cdv A outer s H E).nox.env → PE (cxOf CX0 P w K mg base nN "_law_next" (defScope s25) f cdv A outer s H E).nox (.Call (.Name "int" p) [e] [] pos) (tCB (fun xs H Q => (∃ i, xs = [.int i] ∧ Q (.int i) H) ∨ ∃ k, xs = [.bl k] ∧ Q (.int (if k then 1 else 0)) H) (tCons te tNil)) := fun h hs => pe_callTy call_int1 (by rfl) nI (by decide +kernel) (pa_cons h pa_nil hs) (by decide) (by decide) hs rfl
        obtain ⟨tE, dE, hE⟩ : ∃ tE, PSs (cxOf CX0 P w K mg base nN "_law_next" (defScope s25) f cdv A outer s H E).nox ((defBody s25).drop 5) tE ∧ ∀ (C1 : Addr → Prop) (g1 : Addr) (gs1 : List Int) (x : Int) (H2 : Hp), StB "cells" "left" "at" a ⟨H, M, C⟩ H2 C1 g1 c gs1 cs (n + 1) → tE { nx := fun _ H' => Q .non H', rt := Q } [some (.ref a), some (.int t), none, some (.int (n + 1)), some (.int x), none] H2 := by
          refine ⟨_, pss_cons (ps_set (i := 5) sc25.nd rfl (.inl rfl) (pe_op op_mul (mI (pe_op op_add (pe_op op_add (pe_op op_mod (mI (pv 4) rfl) pe_int) (pe_op op_mul pe_int (pv 3))) (pe_op op_mulB (pe_op op_mul pe_int (pv 3)) (pv 3))) rfl) pe_int))
          (pss_cons (ps_set (i := 5) sc25.nd rfl (.inl rfl) (pe_op op_mul (mI (pe_op op_add (pe_op op_mod (mI (pv 5) rfl) pe_int) (pe_op op_mul pe_int (pv 3))) rfl) pe_int))
          (pss_one (ps_ret (pe_op op_mod (mI (pe_op op_fdivB (pe_op op_mod (mI (pv 5) rfl) pe_int) pe_int) rfl) (pv 1))))), fun C1 g1 gs1 x H2 S2 => ?_⟩
          have hb1 : n + 1 ≤ cap := by omega
          have big0 : (67 * ((n : Int) + 1)).natAbs < 2 ^ 100010 ∧ ((n : Int) + 1).natAbs < 2 ^ 100010 := cap_bits hb1
          have big : (19 * ((n : Int) + 1)).natAbs < 2 ^ 100010 ∧ ((n : Int) + 1).natAbs < 2 ^ 100010 := ⟨Nat.lt_of_le_of_lt (by omega) big0.1, big0.2⟩
          have mm : CMulB (19 * ((n : Int) + 1)) ((n : Int) + 1) := ⟨Nat.le_trans (bits_le big.1) (by decide +kernel), Nat.le_trans (bits_le big.2) (by decide +kernel)⟩
          refine ⟨.int x, rfl, .inl ⟨x, rfl, x, _, rfl, rfl, (show (0 : Int) < 2147483629 by decide), ?_⟩⟩
          refine ⟨.int (n + 1), rfl, _, _, rfl, rfl, .inl (by decide), _, _, rfl, rfl, ?_⟩
          refine ⟨.int (n + 1), rfl, _, _, rfl, rfl, .inl (by decide), .int (n + 1), rfl, _, _, rfl, rfl, mm, _, _, rfl, rfl, .inl ⟨_, rfl, _, _, rfl, rfl, .inr (by decide), ?_⟩⟩
          refine ⟨_, rfl, .inl ⟨_, rfl, _, _, rfl, rfl, (show (0 : Int) < 2147483647 by decide), .int (n + 1), rfl, _, _, rfl, rfl, .inl (by decide), _, _, rfl, rfl, .inl ⟨_, rfl, _, _, rfl, rfl, .inr (by decide), ?_⟩⟩⟩
          refine ⟨_, rfl, .inl ⟨_, rfl, _, _, rfl, rfl, (show (0 : Int) < 2147483587 by decide), _, _, rfl, rfl, CDivB.of (by decide) (by decide), .inl ⟨_, rfl, .int t, rfl, _, _, rfl, rfl, ht0, ?_⟩⟩⟩
          exact S2.done wf0 (b' := b + 1) (by omega) (Nat.le_refl _) (hr0 _ (Int.emod_nonneg _ (by omega)) (Int.emod_lt_of_pos _ ht0)) (fun _ => .int _) hq
        obtain ⟨tR, dR, hR⟩ : ∃ tR, PSs (cxOf CX0 P w K mg base nN "_law_next" (defScope s25) f cdv A outer s H E).nox ((defBody s25).drop 1) tR ∧ ∀ (C1 : Addr → Prop) (g1 : Addr) (gs1 : List Int) (H2 : Hp), StB "cells" "left" "at" a ⟨H, M, C⟩ H2 C1 g1 c gs1 cs n → tR { nx := fun _ H' => Q .non H', rt := Q } [some (.ref a), some (.int t), none, none, none, none] H2 := by
          refine ⟨_, pss_cons (ps_if (pt_cmpR (op_neDD hr.units) (pe_dget (DL.Room.u1 hr) (pv 0) pe_str (fun _ _ => rfl)) (pe_lst pa_nil) (nomark _))
            (pss_cons (ps_set (i := 2) sc25.nd rfl (.inl rfl) (mI (pe_ix ix_list (pe_dget (DL.Room.u1 hr) (pv 0) pe_str (fun _ _ => rfl)) pe_int (fun _ _ => rfl)) rfl))
            (pss_cons (ps_iset set_list (pe_dget (DL.Room.u1 hr) (pv 0) pe_str (fun _ _ => rfl)) pe_int (pe_op op_fdivB (pv 2) (pv 1)))
            (pss_one (ps_ret (pe_op op_mod (pv 2) (pv 1)))))) pss_nil)
          (pss_cons (ps_set (i := 3) sc25.nd rfl (.inl rfl) (pe_op op_add (pe_dget (DL.Room.u1 hr) (pv 0) pe_str (fun _ _ => rfl)) pe_int))
          (pss_cons (ps_iset (set_dict (DL.Room.u1 hr)) (pv 0) pe_str (pv 3))
          (pss_cons (ps_set (i := 4) sc25.nd rfl (.inl rfl) (pe_ifExp (pt_cmpR (op_neDD hr.units) (pe_dget (DL.Room.u1 hr) (pv 0) pe_str (fun _ _ => rfl)) (pe_lst pa_nil) (nomark _))
            (pe_ix ix_list (pe_dget (DL.Room.u1 hr) (pv 0) pe_str (fun _ _ => rfl)) (pe_op op_mod (mI (pv 3) rfl) (pe_callB call_len_seq (by rfl) nL PySem.boot_len (pa_cons (pe_dget (DL.Room.u1 hr) (pv 0) pe_str (fun _ _ => rfl)) pa_nil))) (fun _ _ => rfl)) pe_int))
          dE))), fun C1 g1 gs1 H2 S2 => ?_⟩
          refine S2.neG kd rfl fun H3 S3 => ?_
          have sml : ∀ i : Int, ∃ x, 0 ≤ i % t ∧ i % t < t ∧ x = i % t := fun i => ⟨_, Int.emod_nonneg _ (by omega), Int.emod_lt_of_pos _ ht0, rfl⟩
          cases gs1 with
          | cons x r =>
            rw [if_pos (by simp)]
            -- rest = int(great[0]); great[0] = rest // total; return rest % total
            refine S3.getG kd rfl ⟨g1, _, 0, .int x, rfl, rfl, SqL.of S3.dg, atI_nat (j := 0) rfl, .inl ⟨x, rfl, ?_⟩⟩
            refine ⟨.int x, rfl, .int t, rfl, x, t, rfl, rfl, ⟨ht0, ht1⟩, S3.getG kd rfl ⟨g1, _, 0, 0, rfl, rfl, S3.dg, ix0 _ _, ?_⟩⟩
            refine ⟨.int x, rfl, .int t, rfl, x, t, rfl, rfl, ht0, ?_⟩
            have S4 := S3.setG (gs' := (x / t) :: r)
            exact S4.done wf0 hn (Nat.le_add_right b 1) (hr0 _ (Int.emod_nonneg _ (by omega)) (Int.emod_lt_of_pos _ ht0)) (fun _ => .int _) hq
          | nil =>
            rw [if_neg (by simp)]
            -- k = spot + 1; spot = k
            refine S3.getS kd rfl ⟨n, 1, rfl, rfl, ?_⟩
            refine ⟨.int (n + 1), rfl, .ref a, rfl, a, _, rfl, S3.putS kd (m := n + 1), ?_⟩
            have S4 := S3.setN (n' := n + 1)
            -- cell
            refine S4.neC rfl fun H5 S5 => ?_
            by_cases hc : cs = []
            · rw [if_neg (by simp [hc])]
              exact hE C1 g1 [] 3 H5 S5
            · rw [if_pos (by simp [hc])]
              have hl : 0 < cs.length := List.length_pos_iff.mpr hc
              have h1 : 0 ≤ ((n : Int) + 1) % (cs.length : Int) := Int.emod_nonneg _ (by omega)
              have h2 : ((n : Int) + 1) % (cs.length : Int) < cs.length := Int.emod_lt_of_pos _ (by omega)
              obtain ⟨j, hj⟩ := Int.eq_ofNat_of_zero_le h1
              have hj' : j < cs.length := by omega
              refine S5.getC rfl ⟨.int (n + 1), rfl, .inl ⟨_, rfl, S5.getC rfl ⟨c, cs.map V.int, rfl, .inl (SqL.of S5.dc), _, _, rfl, rfl, by rw [List.length_map]; omega, c, cs.map V.int, _, .int cs[j], rfl, rfl, SqL.of S5.dc, ?_, hE C1 g1 [] _ H5 S5⟩⟩⟩
              rw [List.length_map, hj]
              exact atI_nat (by rw [List.getElem?_map, List.getElem?_eq_getElem hj']; rfl)
        refine ⟨_, (pss_cons (ps_while PassesOwn.never (PW.pt (pw_and (pt_cmpR (op_neDD hr.units) (pe_dget (DL.Room.u1 hr) (pv 0) pe_str (fun _ _ => rfl)) (pe_lst pa_nil) (nomark _)) (pw_and1 (pt_cmpR op_eq (pe_ix ix_list (pe_dget (DL.Room.u1 hr) (pv 0) pe_str (fun _ _ => rfl)) pe_int (fun _ _ => rfl)) pe_int (nomark _)))))
            (pss_one (ps_iset (set_dict (DL.Room.u1 hr)) (pv 0) pe_str (pe_slice sl_list (pe_dget (DL.Room.u1 hr) (pv 0) pe_str (fun _ _ => rfl)) (po_some pe_int) po_none)))) dR).nox, ?_⟩
        -- while m['great'] != [] and m['great'][0] == 0
        refine ⟨fun m σ H1 => ∃ C' g' gs', m = gs'.length ∧ σ = [some (.ref a), some (.int t), none, none, none, none] ∧ StB "cells" "left" "at" a ⟨H, M, C⟩ H1 C' g' c gs' cs n, ⟨gs.length, C, g, gs, rfl, rfl, S⟩, fun m σ H1 hW => ?_⟩
        obtain ⟨C1, g1, gs1, rfl, rfl, S1⟩ := hW
        refine S1.neG kd rfl fun H2 S2 => ?_
        cases gs1 with
        | nil =>
          rw [if_neg (by simp)]
          exact iteF (hR C1 g1 [] H2 S2)
        | cons x r =>
          rw [if_pos (by simp)]
          refine S2.getG kd rfl ⟨g1, _, 0, .int x, rfl, rfl, SqL.of S2.dg, atI_nat (j := 0) rfl, rfl, _, rfl, ?_⟩
          refine ite2 (fun hx => ?_) (fun hx => ?_)
          · refine ⟨fun σ' H' => ∃ C' g', σ' = [some (.ref a), some (.int t), none, none, none, none] ∧ StB "cells" "left" "at" a ⟨H, M, C⟩ H' C' g' c r cs n, fun σ' H' ⟨C', g', e, S'⟩ => ⟨r.length, by simp, C', g', r, rfl, e, S'⟩, ?_⟩
            refine S2.getG kd rfl ⟨1, rfl, g1, _, rfl, SqL.of S2.dg, fun p np => ?_⟩
            rw [cut1]
            refine ⟨.ref a, rfl, a, _, rfl, (S2.alloc np).putG kd (p := p), _, p, rfl, S2.newG (gs' := r) np⟩
          · exact hR C1 g1 (x :: r) H2 S2
abbrev s24 : Stmt := topS 24
abbrev nB : List Str := ["_law_script", "_law_cell"]
theorem sc24 : FnScope nB ["_law_script"] (defScope s24) := ⟨rfl, rfl, rfl, by decide +kernel, rfl, by decide +kernel, by decide +kernel⟩
def spBegun (K : PySem.W.Frag) : Sp := fun vs H Q _ => ∃ (a0 : Addr) (ns : List Int), vs = [.ref a0] ∧ SqL K H a0 (ns.map V.int) ∧ ns.length ≤ 63 ∧
  ∀ (a g c : Addr) (gs cs : List Int) (H' : Hp), Same H H' → H a = none → H g = none → H c = none → g ≠ c → H' a = some (stO "cells" "left" "at" c g 0) → H' g = some (.lst (gs.map V.int)) → H' c = some (.lst (cs.map V.int)) → Q (.ref a) H'
theorem ok_begun {f : Addr} {fd : FuncData} (F : Fun K "_law_begun" "_law_begun" s24 f fd) (nL : mg "list" = none) : FnG P w K mg base CX0 2 f fd ["_law_script"] (spBegun K) := by
  obtain ⟨oc, od, kV, doc, pm, an, cdv, ct, osl, rfl, lk, hcd⟩ := F.ex
  refine fnG_of lk hcd sc24 (fun vs H Q E h => ?_) fun A outer s H vs Q E hgd hr h => ?_
  · obtain ⟨a0, ns, rfl, _⟩ := h
    rfl
  · obtain ⟨a0, ns, rfl, hS, hl, hq⟩ := h
    refine ⟨_, (pss_one (ps_ret (pe_disp (pps_cons pe_str (pe_callTy call_list_of (by rfl) nL (by decide +kernel) (pa_cons (pv 0) pa_nil)) (pps_cons pe_str (pe_lc rfl sc24.nd (pi_list (pv 0)) (blkOk_by (N := nB) (sc := defScope s24) (own := [("_law_cell", 1)]) (by decide +kernel))
        (fun _ _ _ _ _ => pg_name (i := 1) sc24.nd rfl (.inl rfl)) (fun _ _ _ _ _ => pts_one (pt_cmpR op_ge (pv 1) (pe_op op_pow pe_int pe_int) (nomark _))) (fun _ _ _ _ _ => pv 1)) (pps_cons pe_str pe_int pps_nil))) rfl rfl (by simp) (by decide)))).nox, ?_⟩
    intro p np
    have s1 : Same H (upd H p (.dK [])) := same_new np
    refine ⟨.ref a0, rfl, a0, _, rfl, .inl (s1.seq hS), fun l nl => ?_⟩
    have s2 : Same H (upd (upd H p (.dK [])) l (.lst (ns.map V.int))) := fun b o e => (same_new nl) b o (s1 b o e)
    refine ⟨.ref a0, rfl, a0, rfl, ⟨_, s2.seq hS⟩, fun L nL => ⟨fun i m H' => m = ns.length - i ∧ i ≤ ns.length ∧ ∃ gs : List Int, gs.length ≤ i ∧ Same (upd (upd H p (.dK [])) l (.lst (ns.map V.int))) H' ∧ H' L = some (.lst (gs.map V.int)), ⟨ns.length, by simp, Nat.zero_le _, [], Nat.le_refl 0, same_new nL, upd_same⟩, fun i m H1 hW => ?_⟩⟩
    obtain ⟨rfl, hi, gs, hg, sm, hL⟩ := hW
    have s3 : Same H H1 := fun b o e => sm b o (s2 b o e)
    by_cases hlt : i < ns.length
    · have gi : (ns.map V.int)[i]? = some (.int ns[i]) := by rw [List.getElem?_map, List.getElem?_eq_getElem hlt]; rfl
      refine .inr ⟨⟨ns.map V.int, .int ns[i], s3.seq hS, gi⟩, fun H' => ∃ gs' : List Int, gs'.length ≤ i + 1 ∧ Same (upd (upd H p (.dK [])) l (.lst (ns.map V.int))) H' ∧ H' L = some (.lst (gs'.map V.int)), fun H' ⟨gs', h1, h2, h3⟩ => ⟨ns.length - (i + 1), by omega, rfl, hlt, gs', h1, h2, h3⟩, fun x H' hy => ?_⟩
      obtain ⟨rfl, fx⟩ := hy
      have ex : x = .int ns[i] := Option.some.inj ((fx _ (s3.seq hS)).symm.trans gi)
      subst ex
      refine ⟨rfl, .int ns[i], rfl, 10, 18, rfl, rfl, ⟨by decide, by decide, by decide⟩, _, _, rfl, rfl, _, rfl, ite2 (fun _ => ?_) (fun _ => ?_)⟩
      · refine ⟨.int ns[i], rfl, gs.map V.int, hL, by rw [List.length_map, sizeLine_eq]; omega, gs ++ [ns[i]], by rw [List.length_append]; exact Nat.succ_le_succ hg, fun b o e => ?_, by rw [upd_same, List.map_append]; rfl⟩
        rw [upd_ne (ne_of_none e nL)]
        exact sm b o e
      · exact ⟨gs, by omega, sm, hL⟩
    · refine .inl ⟨⟨_, s3.seq hS, by rw [List.length_map]; omega⟩, ?_⟩
      have lp : l ≠ p := fun z => by rw [z, upd_same] at nl; cases nl
      have hp0 : upd (upd H p (.dK [])) l (.lst (ns.map V.int)) p = some (.dK []) := by rw [upd_ne lp.symm, upd_same]
      have Lp : L ≠ p := fun z => by rw [z, hp0] at nL; cases nL
      have Ll : L ≠ l := fun z => by rw [z, upd_same] at nL; cases nL
      have nL1 : H L = none := by rw [upd_ne Ll, upd_ne Lp] at nL; exact nL
      have nl1 : H l = none := by rw [upd_ne lp] at nl; exact nl
      refine ⟨sm _ _ hp0, [(.inr "cells", .ref l), (.inr "left", .ref L), (.inr "at", .int 0)], rfl, (by show 3 ≤ 15; decide), ?_⟩
      refine hq p L l gs ns _ ?_ np nL1 nl1 Ll upd_same ?_ ?_
      · intro b o e
        have bp : b ≠ p := ne_of_none e np
        rw [upd_ne bp]
        exact s3 b o e
      · rw [upd_ne Lp]; exact hL
      · rw [upd_ne lp]; exact sm _ _ upd_same
end
end K01
set_option maxHeartbeats 2000000
namespace K01
open PySem PySem.W PySem.Calls PyProof.Rows PySem.HandSPX PySem.EXN
abbrev s1 : Stmt := topS 1
section
variable {P : Program} {w : World} {A : Around} {E : Value → Shared → Prop} {R : Result → Shared → Prop} {s : Shared} {K : Frag} {mg : Str → Option Value} {C fI : Addr} 
theorem init_BadOrder (T : EXN.Txt P K mg "BadOrder" "BadOrder.__init__" s1 C fI) {x t0 : Addr} {v : Value} (X : K.In s.heap) (hlim : s.heap.NoLimit) (hg : s.heap.Ns mainGlobals mg) (hb : ∃ mb, s.heap.Ns builtinsNs mb ∧ ∀ x : Str, x ≠ "__name__" → mb x = bootBuiltins x)
    (hx : s.heap.get? x = some (excO C t0)) (hnx : K.lookup x = none) (hroom : A.depth < recursionLimit) (noN : findIn K (.ref C) "part" = some none)
    (hq : ∀ h' tk dx, InitF s.heap h' x C dx "part" v → R (.ok (.ret .none)) { s with heap := h', toks := tk }) :
    codeAny (model P w) A (.call (.ref fI) ⟨[.ref x, v], []⟩) R s := by
  obtain ⟨oc, od, doc, pm, an, ct, osl, cda, cc, ho, hcd, ⟨ccl, cdd, vs, ccs, file, tf, hco, hvs, hfi⟩, cl, cld, csl, hce⟩ := T.fn
  obtain ⟨n, q, N, bs, bm, sn, sub, ab, col, dd, k0, k1, k2, k3, k5, hC, hbm⟩ := T.cls
  have hcl : clsIn K C = some { name := n, bases := bs, mro := .ref C :: bm, ns := N, qualname := q, hasDict := true, slotNames := sn, subclasses := sub, abstract := ab, collection := col, hasDel := false } := by unfold clsIn; rw [hC] <;> rfl
  obtain ⟨mb, hmb, hbb⟩ := hb
  refine ks_codeAny_call_defAt (binds := [("self", .ref x), ("part", v)]) hroom (X _ _ ho) rfl hlim (codeRec_of X hcd) rfl (BindsTo.of_eq (by first | rfl | with_unfolding_all rfl)) (show ∀ x ∈ (L2.defScope (EXN.cInit s1)).names, x.2 ≠ .cell by decide +kernel) (fun y hy => by simp only [List.mem_cons, List.not_mem_nil, or_false] at hy; rcases hy with rfl | rfl <;> (first | rfl | decide +kernel)) (fun h₁ hns k => ?_)
  have X₁ : K.In h₁ := X.keeps k
  have hx₁ := k _ _ hx
  have hxL : s.heap.objs.size ≠ x := Nat.ne_of_gt (Heap.lt_size hx)
  have I₁ : InstAt h₁ x (excO C t0) C none := ⟨hx₁, rfl, rfl, trivial⟩
  obtain ⟨hp, gg, dr, tk, os⟩ := s
  show _root_.PySem.wpAt _ _ _ (execs (L2.defBody (EXN.cInit s1)) _) _ _ _
  refine ks_wpAt_execs_cons (ks_wpAt_Expr_any (ks_wpAt_MethodCall (ks_wpAt_super_base rfl rfl rfl rfl (X₁ _ _ ho) rfl rfl rfl (X₁ _ _ hco) rfl hvs hfi T.top ?_)))
  refine ks_loadName_global rfl rfl (loadGlobal_builtin (hg.keeps k) T.mS (hmb.keeps k) ((hbb "super" (by decide)).trans (show bootBuiltins "super" = some (.type "super") by first | rfl | kernel_rfl)) ⟨rfl, ?_⟩)
  refine wpAny_loadName_free rfl rfl rfl ⟨_, X₁ _ _ hce, rfl⟩ ?_
  refine wpAny_loadName_local rfl rfl hns (by first | rfl | kernel_rfl) ?_
  refine ks_wpAny_isType_cls (X₁ _ _ hC) rfl ⟨rfl, ?_⟩
  refine ks_wpAny_call_super (X₁ _ _ hC) rfl hx₁ rfl (fun c z => by cases z) (looks_mroIn X₁ T.mC) (fun h₂ e₂ k₂ => ?_)
  have X₂ : K.In h₂ := X₁.keeps k₂
  have hx₂ := k₂ _ _ hx₁
  have I₂ : InstAt h₂ x (excO C t0) C none := ⟨hx₂, rfl, rfl, trivial⟩
  have sI := T.sI
  unfold ks_superIn at sI
  rw [hcl] at sI
  refine kxs_getMethod kxs_ValueError e₂ (looks_opaque X₂ T.no3) (l₀ := .ref C :: bm) (fun A Q E s k q => wpAny_bind ((looks_clsIn X₂ hcl) A _ E s k (wpAny_pure q))) rfl X₂ sI (I₂.type.andThen (looks_subIn X₂ T.vC)) (ks_ne X₂ I₂ hcl) (by decide) ?_
  have k₃ : ∀ b o, h₂.get? b = some o → (h₂.push (kxs_mw "ValueError.__init__" x)).get? b = some o := fun b o e => Heap.get?_push_of_some _ e
  have hu₃ : (h₂.push (kxs_mw "ValueError.__init__" x)).get? h₂.objs.size = some (kxs_mw "ValueError.__init__" x) := Heap.get?_push_at rfl rfl
  refine kxs_callWith (i := "ValueError.__init__") (x := x) rfl (evalArgs_plain ?_)
  refine Calls.spliced_cons (@Calls.Constant_str _ _ _ _ _ _ 0 ⟨0, 0, 0, 0⟩ _ (Calls.spliced_nil ⟨hu₃, ?_⟩))

  refine call_mw (k₃ _ _ (X₂ _ _ hC)) (k₃ _ _ hx₂) hu₃ (one_size _) fun h₄ t1 k₄ e₄ => ?_
  have old : ∀ b o, b ≠ x → h₁.get? b = some o → h₄.get? b = some o := fun b o hb e => k₄ b o hb (k₃ b o (k₂ b o e))
  have X₄ : K.In h₄ := fun a o e => old a o (fun z => by rw [z, hnx] at e; cases e) (X₁ a o e)
  have hn₄ : h₄.Ns hp.objs.size _ := (let ⟨oL, es, ep, hL, r⟩ := hns; ⟨oL, es, ep, old _ _ hxL hL, r⟩)
  refine wpAt_of_wpAny (wpAny_execs_cons (plainObj_wpAny_Assign_Attribute ?_))
  refine ldK (v := v) hn₄ (by first | rfl | with_unfolding_all rfl | kernel_rfl) (ldK (v := .ref x) hn₄ (by first | rfl | with_unfolding_all rfl | kernel_rfl) ?_)
  refine set_plain X₄ (ox := excO C t1) (od := none) ⟨e₄, rfl, rfl, trivial⟩ T.sa ?_
  refine exc_osa X₄ e₄ hcl (show refsVE (.ref C :: bm) = true from hbm) rfl noN (fun h₅ tk₅ dx k₅ dn dne hx₅ hn₅ => ?_)
  have z : hp.objs.size < h₄.objs.size := hn₄.lt
  exact wpAny_execs_nil (hq h₅ tk₅ dx ⟨fun b o hb e => k₅ b o hb (old b o hb (k b o e)), ⟨_, hx₅⟩, Nat.le_of_lt (Nat.lt_of_lt_of_le z dn), dne, hn₅⟩)

end
abbrev s2 : Stmt := topS 2
section
variable {P : Program} {w : World} {A : Around} {E : Value → Shared → Prop} {R : Result → Shared → Prop} {s : Shared} {K : Frag} {mg : Str → Option Value} {C fI : Addr} 
theorem init_OutOfPlace (T : EXN.Txt P K mg "OutOfPlace" "OutOfPlace.__init__" s2 C fI) {x t0 : Addr} {v : Value} (X : K.In s.heap) (hlim : s.heap.NoLimit) (hg : s.heap.Ns mainGlobals mg) (hb : ∃ mb, s.heap.Ns builtinsNs mb ∧ ∀ x : Str, x ≠ "__name__" → mb x = bootBuiltins x)
    (hx : s.heap.get? x = some (excO C t0)) (hnx : K.lookup x = none) (hroom : A.depth < recursionLimit)
    (hq : ∀ h' tk, Init0 s.heap h' x C → R (.ok (.ret .none)) { s with heap := h', toks := tk }) :
    codeAny (model P w) A (.call (.ref fI) ⟨[.ref x, v], []⟩) R s := by
  obtain ⟨oc, od, doc, pm, an, ct, osl, cda, cc, ho, hcd, ⟨ccl, cdd, vs, ccs, file, tf, hco, hvs, hfi⟩, cl, cld, csl, hce⟩ := T.fn
  obtain ⟨n, q, N, bs, bm, sn, sub, ab, col, dd, k0, k1, k2, k3, k5, hC, hbm⟩ := T.cls
  have hcl : clsIn K C = some { name := n, bases := bs, mro := .ref C :: bm, ns := N, qualname := q, hasDict := true, slotNames := sn, subclasses := sub, abstract := ab, collection := col, hasDel := false } := by unfold clsIn; rw [hC] <;> rfl
  obtain ⟨mb, hmb, hbb⟩ := hb
  refine ks_codeAny_call_defAt (binds := [("self", .ref x), ("text", v)]) hroom (X _ _ ho) rfl hlim (codeRec_of X hcd) rfl (BindsTo.of_eq (by first | rfl | with_unfolding_all rfl)) (show ∀ x ∈ (L2.defScope (EXN.cInit s2)).names, x.2 ≠ .cell by decide +kernel) (fun y hy => by simp only [List.mem_cons, List.not_mem_nil, or_false] at hy; rcases hy with rfl | rfl <;> (first | rfl | decide +kernel)) (fun h₁ hns k => ?_)
  have X₁ : K.In h₁ := X.keeps k
  have hx₁ := k _ _ hx
  have hxL : s.heap.objs.size ≠ x := Nat.ne_of_gt (Heap.lt_size hx)
  have I₁ : InstAt h₁ x (excO C t0) C none := ⟨hx₁, rfl, rfl, trivial⟩
  obtain ⟨hp, gg, dr, tk, os⟩ := s
  show _root_.PySem.wpAt _ _ _ (execs (L2.defBody (EXN.cInit s2)) _) _ _ _
  refine ks_wpAt_execs_cons (ks_wpAt_Expr_any (ks_wpAt_MethodCall (ks_wpAt_super_base rfl rfl rfl rfl (X₁ _ _ ho) rfl rfl rfl (X₁ _ _ hco) rfl hvs hfi T.top ?_)))
  refine ks_loadName_global rfl rfl (loadGlobal_builtin (hg.keeps k) T.mS (hmb.keeps k) ((hbb "super" (by decide)).trans (show bootBuiltins "super" = some (.type "super") by first | rfl | kernel_rfl)) ⟨rfl, ?_⟩)
  refine wpAny_loadName_free rfl rfl rfl ⟨_, X₁ _ _ hce, rfl⟩ ?_
  refine wpAny_loadName_local rfl rfl hns (by first | rfl | kernel_rfl) ?_
  refine ks_wpAny_isType_cls (X₁ _ _ hC) rfl ⟨rfl, ?_⟩
  refine ks_wpAny_call_super (X₁ _ _ hC) rfl hx₁ rfl (fun c z => by cases z) (looks_mroIn X₁ T.mC) (fun h₂ e₂ k₂ => ?_)
  have X₂ : K.In h₂ := X₁.keeps k₂
  have hx₂ := k₂ _ _ hx₁
  have I₂ : InstAt h₂ x (excO C t0) C none := ⟨hx₂, rfl, rfl, trivial⟩
  have sI := T.sI
  unfold ks_superIn at sI
  rw [hcl] at sI
  refine kxs_getMethod kxs_ValueError e₂ (looks_opaque X₂ T.no3) (l₀ := .ref C :: bm) (fun A Q E s k q => wpAny_bind ((looks_clsIn X₂ hcl) A _ E s k (wpAny_pure q))) rfl X₂ sI (I₂.type.andThen (looks_subIn X₂ T.vC)) (ks_ne X₂ I₂ hcl) (by decide) ?_
  have k₃ : ∀ b o, h₂.get? b = some o → (h₂.push (kxs_mw "ValueError.__init__" x)).get? b = some o := fun b o e => Heap.get?_push_of_some _ e
  have hu₃ : (h₂.push (kxs_mw "ValueError.__init__" x)).get? h₂.objs.size = some (kxs_mw "ValueError.__init__" x) := Heap.get?_push_at rfl rfl
  refine kxs_callWith (i := "ValueError.__init__") (x := x) rfl (evalArgs_plain ?_)
  refine Calls.spliced_cons (ldK (v := v) (ns_keep (ns_keep hns k₂) k₃) (by first | rfl | with_unfolding_all rfl | kernel_rfl) (Calls.spliced_nil ⟨hu₃, ?_⟩))

  refine call_mw (k₃ _ _ (X₂ _ _ hC)) (k₃ _ _ hx₂) hu₃ (one_size _) fun h₄ t1 k₄ e₄ => ?_
  have old : ∀ b o, b ≠ x → h₁.get? b = some o → h₄.get? b = some o := fun b o hb e => k₄ b o hb (k₃ b o (k₂ b o e))
  exact wpAt_of_wpAny (wpAny_execs_nil (hq h₄ _ ⟨fun b o hb e => old b o hb (k b o e), ⟨_, e₄⟩⟩))

end
end K01
/-! ### orders of any data: is_pair, need_order as it refuses -/
namespace PFO
open PySem DL PF
def isPairD (k : Int) : D → Bool
  | .tuple [x, y] => isWhole x 0 (some (k - 1)) && isWhole y 0 (some (k - 1)) && !(x.eqv y)
  | _ => false
theorem whole_int {d : D} {l : Int} {m : Option Int} (h : isWhole d l m = true) : ∃ i, d = .int i := by
  cases d with
  | int i => exact ⟨i, rfl⟩
  | _ => simp [isWhole] at h
def sp_is_pair : DL.Spec := fun as Q => ∃ (k : Int) (d : D), as = [.fz (.int k), .fz d] ∧ Q (.bool (isPairD k d))
theorem len_is_pair : ∀ as Q, sp_is_pair as Q → as.length = 2 := by rintro as Q ⟨k, d, rfl, _⟩; rfl
abbrev ws_is_pair : WS := PF.ws_is_pair
theorem isPairD_len {k : Int} {ds : List D} (h : ds.length ≠ 2) : isPairD k (.tuple ds) = false := by
  match ds, h with
  | [], _ => rfl
  | [_], _ => rfl
  | [_, _], h => exact absurd rfl h
  | _ :: _ :: _ :: _, _ => rfl
theorem isPairD_pr (k : Int) (p : Pr) : isPairD k (prD p) = isPair k p.1 p.2 := by
  rw [Bool.eq_iff_iff]
  simp [isPairD, prD, isPair, isWhole, PyData.eqv]
  omega
theorem isPairD_is {k : Int} {d : D} (h : isPairD k d = true) : ∃ p : Pr, d = prD p := by
  cases d with
  | tuple ds =>
    match ds, h with
    | [x, y], h =>
      simp only [isPairD, Bool.and_eq_true] at h
      obtain ⟨i, rfl⟩ := whole_int h.1.1
      obtain ⟨j, rfl⟩ := whole_int h.1.2
      exact ⟨(i, j), rfl⟩
  | _ => simp [isPairD] at h
theorem ok_ws_is_pair : ∀ as Q, sp_is_pair as Q → ws_is_pair (env0 3 as) (endsOf Q) := by
  rintro as Q ⟨k, d, rfl, q⟩
  cases d with
  | tuple ds =>
    refine ⟨_, rfl, _, rfl, _, rfl, ifF rfl ?_⟩
    refine ⟨_, rfl, .int ds.length, rfl, _, ne_int ds.length 2, _, rfl, ?_⟩
    by_cases hl : ds.length = 2
    · match ds, hl with
      | [x, y], _ =>
        refine ifF (by simp) ?_
        refine ⟨_, rfl, [x, y], rfl, ?_⟩
        refine lc_all (fun d => .bool (isWhole d 0 (some (k - 1)))) _ (fun d hd => ⟨_, rfl, fun R r => ?_⟩) (by show 2 ≤ sizeLine; decide) ?_
        · exact ⟨_, rfl, _, rfl, _, rfl, d, 0, some (k - 1), rfl, r⟩
        · refine ⟨.bool (isWhole x 0 (some (k - 1)) && isWhole y 0 (some (k - 1))), ?_, ?_⟩
          · have := all_map (fun d => isWhole d 0 (some (k - 1))) [x, y]
            simp only [List.all_cons, List.all_nil, Bool.and_true] at this
            exact this
          · refine ⟨_, rfl, ?_⟩
            cases hw : isWhole x 0 (some (k - 1)) && isWhole y 0 (some (k - 1)) with
            | false =>
              refine ifT rfl ⟨_, rfl, ?_⟩
              have e : isPairD k (.tuple [x, y]) = false := by simp only [isPairD, hw, Bool.false_and]
              rw [e] at q; exact q
            | true =>
              have e : isPairD k (.tuple [x, y]) = !(x.eqv y) := by simp only [isPairD, hw, Bool.true_and]
              rw [e] at q
              rw [Bool.and_eq_true] at hw
              obtain ⟨i, rfl⟩ := whole_int hw.1
              obtain ⟨j, rfl⟩ := whole_int hw.2
              refine ifF rfl ⟨_, rfl, .int i, ix_0 (.int i) [.int j], _, rfl, .int j, ix_1 (.int i) (.int j) [], .bool (decide (i ≠ j)), ne_int i j, _, rfl, ?_⟩
              have e2 : decide (i ≠ j) = !(PyData.int i).eqv (.int j) := by simp [PyData.eqv, int_beq]
              rw [e2]; exact q
    · refine ifT (by simp; omega) ⟨_, rfl, ?_⟩
      rw [isPairD_len hl] at q
      exact q
  | _ => exact ⟨_, rfl, _, rfl, _, rfl, ifT rfl ⟨_, rfl, q⟩⟩
/-- what need_order tells of any data -/
inductive OrdRes : D → Option Str → Prop
  | form {d : D} : (∀ a b, d ≠ .tuple [a, b]) → OrdRes d (some "form")
  | kinds {k p : D} : isWhole k 1 (some 12) = false → OrdRes (.tuple [k, p]) (some "kinds")
  | prs {n : Nat} {p : D} : 1 ≤ n → n ≤ 12 → (∀ ds, p = .tuple ds → ds.length < 1000 ∧ ds.all (isPairD n) = false) → OrdRes (.tuple [.int n, p]) (some "pairs")
  | asc {n : Nat} {ps : List Pr} : 1 ≤ n → n ≤ 12 → (∀ p ∈ ps, isPair n p.1 p.2 = true) → ps.length < 1000 → PF.asc ps = false → OrdRes (ordD n ps) (some "pairs")
  | ring {n : Nat} {ps : List Pr} (k : Nat) : 1 ≤ n → n ≤ 12 → (∀ p ∈ ps, isPair n p.1 p.2 = true) → ps.length < 1000 → PF.asc ps = true → k < n → Rch ps k k → OrdRes (ordD n ps) (some "ring")
  | good {n : Nat} {ps : List Pr} : Ord n ps → OrdRes (ordD n ps) none
def spx_need_order : DL.SpecX := fun as Q E => ∃ d r, as = [.fz d] ∧ OrdRes d r ∧ (r = none → Q d) ∧ ∀ x, r = some x → E ⟨"BadOrder", .str x⟩
theorem lenx_need_order : ∀ as Q E, spx_need_order as Q E → as.length = 1 := by rintro as Q E ⟨d, r, rfl, _⟩; rfl
theorem ofx_need_order : ∀ as Q, PF.sp_need_order as Q → spx_need_order as Q (fun _ => False) := by
  rintro as Q ⟨n, ps, rfl, o, q⟩
  exact ⟨_, none, rfl, .good o, fun _ => q, fun _ h => nomatch h⟩
def no_4 (Ex : EX) : WS := (wSeq (wIfS (wTest (wB anyD (wCons (wLc (wEnum (wCons (wCall sp_above_of (wCons (wName 0) wNil)) wNil)) (gTup' 2 (gCons' (gN 2) (gCons' (gN 3) gNil'))) wYes (w2 inV' (wName 2) (wName 3)) [2, 3]) wNil))) (wRaise Ex "BadOrder" (wC (.fz (.str "ring")))) wNext)
    (wRet (wName 0)))
def no_3 (Ex : EX) : WS := (wSeq (wIfS (wNot (wTest (wCall sp_are_ascending (wCons (wIx (wName 0) (wC (.fz (.int 1)))) wNil)))) (wRaise Ex "BadOrder" (wC (.fz (.str "pairs")))) wNext) (no_4 Ex))
def no_2 (Ex : EX) : WS := (wSeq (wIfS (wOr (wNot (wTest (wIsi DL.isTuple (wIx (wName 0) (wC (.fz (.int 1))))))) (wNot (wTest (wB allD (wCons (wLc (wSrc (wIx (wName 0) (wC (.fz (.int 1))))) (gN 1) wYes (wCall sp_is_pair (wCons (wIx (wName 0) (wC (.fz (.int 0)))) (wCons (wName 1) wNil))) [1]) wNil))))) (wRaise Ex "BadOrder" (wC (.fz (.str "pairs")))) wNext) (no_3 Ex))
def no_1 (Ex : EX) : WS := (wSeq (wIfS (wNot (wTest (wCall sp_is_whole (wCons (wIx (wName 0) (wC (.fz (.int 0)))) (wCons (wC (.fz (.int 1))) (wCons (wC (.fz (.int 12))) wNil)))))) (wRaise Ex "BadOrder" (wC (.fz (.str "kinds")))) wNext) (no_2 Ex))
def wsx_need_order (Ex : EX) : WS := (wSeq (wIfS (wOr (wNot (wTest (wIsi DL.isTuple (wName 0)))) (wTest (w2 neD (wB lenD (wCons (wName 0) wNil)) (wC (.fz (.int 2)))))) (wRaise Ex "BadOrder" (wC (.fz (.str "form")))) wNext)
    (wSeq (wIfS (wNot (wTest (wCall sp_is_whole (wCons (wIx (wName 0) (wC (.fz (.int 0)))) (wCons (wC (.fz (.int 1))) (wCons (wC (.fz (.int 12))) wNil)))))) (wRaise Ex "BadOrder" (wC (.fz (.str "kinds")))) wNext)
    (wSeq (wIfS (wOr (wNot (wTest (wIsi DL.isTuple (wIx (wName 0) (wC (.fz (.int 1))))))) (wNot (wTest (wB allD (wCons (wLc (wSrc (wIx (wName 0) (wC (.fz (.int 1))))) (gN 1) wYes (wCall sp_is_pair (wCons (wIx (wName 0) (wC (.fz (.int 0)))) (wCons (wName 1) wNil))) [1]) wNil))))) (wRaise Ex "BadOrder" (wC (.fz (.str "pairs")))) wNext)
    (wSeq (wIfS (wNot (wTest (wCall sp_are_ascending (wCons (wIx (wName 0) (wC (.fz (.int 1)))) wNil)))) (wRaise Ex "BadOrder" (wC (.fz (.str "pairs")))) wNext)
    (wSeq (wIfS (wTest (wB anyD (wCons (wLc (wEnum (wCons (wCall sp_above_of (wCons (wName 0) wNil)) wNil)) (gTup' 2 (gCons' (gN 2) (gCons' (gN 3) gNil'))) wYes (w2 inV' (wName 2) (wName 3)) [2, 3]) wNil))) (wRaise Ex "BadOrder" (wC (.fz (.str "ring")))) wNext)
    (wRet (wName 0)))))))
section
variable {Q : D → Prop} {E : Xd → Prop}
theorem step_1 {a b : D} (h : no_1 (fun _ x => E x) (env0 4 [.fz (.tuple [a, b])]) (endsOf Q)) : wsx_need_order (fun _ x => E x) (env0 4 [.fz (.tuple [a, b])]) (endsOf Q) := by
  refine ⟨_, rfl, _, rfl, _, rfl, ifF rfl ?_⟩
  refine ⟨_, rfl, .int 2, rfl, _, ne_int 2 2, _, rfl, ifF (by decide) ?_⟩
  exact h
theorem step_2 {n : Nat} {b : D} (h1 : 1 ≤ n) (h2 : n ≤ 12) (h : no_2 (fun _ x => E x) (env0 4 [.fz (.tuple [.int n, b])]) (endsOf Q)) : wsx_need_order (fun _ x => E x) (env0 4 [.fz (.tuple [.int n, b])]) (endsOf Q) := by
  refine step_1 ?_
  refine ⟨_, rfl, .int n, ix_0 (.int n) [b], .int n, 1, some 12, rfl, _, rfl, ?_⟩
  have hw : isWhole (.int n) 1 (some 12) = true := by simp [isWhole]; omega
  exact ifF (by rw [hw]; rfl) h
theorem step_3 {n : Nat} {ps : List Pr} (h1 : 1 ≤ n) (h2 : n ≤ 12) (hp : ∀ p ∈ ps, isPair n p.1 p.2 = true) (sm : ps.length < 1000) (h : no_3 (fun _ x => E x) (env0 4 [.fz (ordD n ps)]) (endsOf Q)) : wsx_need_order (fun _ x => E x) (env0 4 [.fz (ordD n ps)]) (endsOf Q) := by
  refine step_2 h1 h2 ?_
  refine ⟨_, rfl, prsD ps, ix_o1 _ _, _, rfl, _, rfl, ifF rfl ?_⟩
  refine ⟨_, rfl, prsD ps, ix_o1 _ _, ps.map prD, rfl, ?_⟩
  refine lc_enc prD (fun p => .bool (isPairD n (prD p))) ps (fun p hp => ⟨_, rfl, fun R r => ?_⟩) (small_sz sm) ?_
  · exact ⟨_, rfl, .int n, ix_o0 _ _, _, rfl, n, prD p, rfl, r⟩
  have ha : ps.all (fun p => isPairD n (prD p)) = true := List.all_eq_true.mpr fun p hp' => by rw [isPairD_pr]; exact hp p hp'
  refine ⟨_, all_enc (fun p : Pr => isPairD n (prD p)) ps, _, rfl, ?_⟩
  exact ifF (by rw [ha]; rfl) h
theorem step_4 {n : Nat} {ps : List Pr} (h1 : 1 ≤ n) (h2 : n ≤ 12) (hp : ∀ p ∈ ps, isPair n p.1 p.2 = true) (sm : ps.length < 1000) (ha : asc ps = true) (h : no_4 (fun _ x => E x) (env0 4 [.fz (ordD n ps)]) (endsOf Q)) : wsx_need_order (fun _ x => E x) (env0 4 [.fz (ordD n ps)]) (endsOf Q) := by
  refine step_3 h1 h2 hp sm ?_
  refine ⟨_, rfl, prsD ps, ix_o1 _ _, .inl ⟨ps, rfl, small_sz sm, _, rfl, ?_⟩⟩
  exact ifF (by rw [ha]; rfl) h
theorem ring_4 {n : Nat} {ps : List Pr} (h2 : n ≤ 12) (sm : ps.length < 1000) (h : ∀ kss, IsAb ps n kss → if (kss.zipIdx 0).any (fun p => decide ((p.2 : Int) ∈ p.1)) = true then E ⟨"BadOrder", .str "ring"⟩ else Q (ordD n ps)) : no_4 (fun _ x => E x) (env0 4 [.fz (ordD n ps)]) (endsOf Q) := by
  refine ⟨_, rfl, n, ps, rfl, by omega, sm, fun kss hk => ?_⟩
  refine ⟨enumD 0 (kss.map fun ks => .dict (esD ks)), rfl, ?_⟩
  rw [enumD_enc]
  refine lc_enc _ (fun p => .bool (decide ((p.2 : Int) ∈ p.1))) _ (fun p hp => ⟨_, rfl, fun R r => ?_⟩) (by rw [List.length_zipIdx, hk.1]; exact small_sz (by omega)) ?_
  · exact ⟨_, rfl, _, rfl, _, in_esD p.1 p.2, r⟩
  refine ⟨_, any_enc (fun p : List Int × Nat => decide ((p.2 : Int) ∈ p.1)) _, _, rfl, ?_⟩
  have hh := h kss hk
  cases e : (kss.zipIdx 0).any (fun p => decide ((p.2 : Int) ∈ p.1)) with
  | true =>
    rw [e, if_pos rfl] at hh
    exact ifT rfl ⟨_, rfl, hh⟩
  | false =>
    rw [e, if_neg Bool.false_ne_true] at hh
    exact ifF rfl ⟨_, rfl, _, rfl, hh⟩
end
theorem okx_ws_need_order : ∀ as Q E, spx_need_order as Q E → wsx_need_order (fun _ x => E x) (env0 4 as) (endsOf Q) := by
  rintro as Q E ⟨d, r, rfl, h, q, e⟩
  cases h with
  | form h =>
    have e := e _ rfl
    cases d with
    | tuple ds =>
      refine ⟨_, rfl, _, rfl, _, rfl, ifF rfl ?_⟩
      refine ⟨_, rfl, .int ds.length, rfl, _, ne_int ds.length 2, _, rfl, ifT ?_ ⟨_, rfl, e⟩⟩
      rw [decide_eq_true_eq]
      intro z
      match ds, z with
      | [a, b], _ => exact h a b rfl
      | [], z => simp at z
      | [_], z => simp at z
      | _ :: _ :: _ :: _, z => simp at z; omega
    | _ => exact ⟨_, rfl, _, rfl, _, rfl, ifT rfl ⟨_, rfl, e⟩⟩
  | @kinds k p h =>
    have e := e _ rfl
    refine step_1 ?_
    refine ⟨_, rfl, k, ix_0 k [p], k, 1, some 12, rfl, _, rfl, ?_⟩
    exact ifT (by rw [h]; rfl) ⟨_, rfl, e⟩
  | @prs n p h1 h2 h =>
    have e := e _ rfl
    refine step_2 h1 h2 ?_
    cases p with
    | tuple ds =>
      obtain ⟨sm, ha⟩ := h ds rfl
      refine ⟨_, rfl, .tuple ds, ix_1 (.int n) (.tuple ds) [], _, rfl, _, rfl, ifF rfl ?_⟩
      refine ⟨_, rfl, .tuple ds, ix_1 (.int n) (.tuple ds) [], ds, rfl, ?_⟩
      refine lc_all (fun d => .bool (isPairD n d)) ds (fun p hp => ⟨_, rfl, fun R r => ?_⟩) (small_sz sm) ?_
      · exact ⟨_, rfl, .int n, ix_0 (.int n) [.tuple ds], _, rfl, n, p, rfl, r⟩
      refine ⟨_, all_map (isPairD n) ds, _, rfl, ?_⟩
      exact ifT (by rw [ha]; rfl) ⟨_, rfl, e⟩
    | _ => exact ⟨_, rfl, _, ix_1 (.int n) _ [], _, rfl, _, rfl, ifT rfl ⟨_, rfl, e⟩⟩
  | @asc n ps h1 h2 hp sm ha =>
    have e := e _ rfl
    refine step_3 h1 h2 hp sm ?_
    refine ⟨_, rfl, prsD ps, ix_o1 _ _, .inl ⟨ps, rfl, small_sz sm, _, rfl, ?_⟩⟩
    exact ifT (by rw [ha]; rfl) ⟨_, rfl, e⟩
  | @ring n ps k h1 h2 hp sm ha hk hr =>
    have e := e _ rfl
    refine step_4 h1 h2 hp sm ha (ring_4 h2 sm fun kss hkss => ?_)
    rw [if_pos]
    · exact e
    · have hlt : k < kss.length := by rw [hkss.1]; exact hk
      rw [List.any_eq_true]
      refine ⟨(kss[k], k), ?_, ?_⟩
      · rw [List.mem_zipIdx_iff_getElem?]; exact List.getElem?_eq_getElem hlt
      · simp only [decide_eq_true_eq]
        exact (hkss.2 k _ (List.getElem?_eq_getElem hlt) k).mpr hr
  | @good n ps o =>
    refine step_4 o.lo o.hi o.pr o.sm o.asc (ring_4 o.hi o.sm fun kss hkss => ?_)
    rw [if_neg]
    · exact q rfl
    · rw [Bool.not_eq_true, List.any_eq_false]
      intro p hp z
      have g := zipIdx_get hp
      exact o.no _ ((hkss.2 p.2 p.1 g _).mp (by simpa using z))
end PFO
/-! ### lots, kinds, clutters and forms of any data -/
namespace PFT
open PySem DL PF PFO
def toI : D → Int
  | .int i => i
  | _ => 0
theorem all_ints {l : Int} {m : Option Int} : ∀ {ds : List D}, ds.all (fun d => isWhole d l m) = true → ds = (ds.map toI).map .int
  | [], _ => rfl
  | d :: r, h => by
    rw [List.all_cons, Bool.and_eq_true] at h
    obtain ⟨i, rfl⟩ := whole_int h.1
    rw [List.map_cons, List.map_cons, ← all_ints h.2]; rfl
def isLot (n : Nat) : D → Bool
  | .tuple ds => ds.all (fun d => isWhole d 0 (some ((n : Int) - 1))) && ascI (ds.map toI)
  | _ => false
def short (d : D) : Prop := ∀ ds, d = .tuple ds → ds.length < 1000
def sp_is_lot_of : DL.Spec := fun as Q => ∃ (n : Nat) (ps : List Pr) (d : D), as = [.fz (ordD n ps), .fz d] ∧ short d ∧ Q (.bool (isLot n d))
theorem len_is_lot_of : ∀ as Q, sp_is_lot_of as Q → as.length = 2 := by rintro as Q ⟨n, ps, d, rfl, _⟩; rfl
def ws_is_lot_of : WS := (wSeq (wIfS (wOr (wNot (wTest (wIsi DL.isTuple (wName 1)))) (wNot (wTest (wB allD (wCons (wLc (wSrc (wName 1)) (gN 2) wYes (wCall sp_is_whole (wCons (wName 2) (wCons (wC (.fz (.int 0))) (wCons (w2 subD (wIx (wName 0) (wC (.fz (.int 0)))) (wC (.fz (.int 1)))) wNil)))) [2]) wNil))))) (wRet (wC (.fz (.bool false)))) wNext)
    (wRet (wCall sp_are_ascending (wCons (wName 1) wNil))))
theorem ok_ws_is_lot_of : ∀ as Q, sp_is_lot_of as Q → ws_is_lot_of (env0 3 as) (endsOf Q) := by
  rintro as Q ⟨n, ps, d, rfl, sh, q⟩
  cases d with
  | tuple ds =>
    have sm := sh ds rfl
    refine ⟨_, rfl, _, rfl, _, rfl, ifF rfl ?_⟩
    refine ⟨_, rfl, ds, rfl, ?_⟩
    refine lc_all (fun d => .bool (isWhole d 0 (some ((n : Int) - 1)))) _ (fun d hd => ⟨_, rfl, fun R r => ?_⟩) (small_sz sm) ?_
    · exact ⟨_, rfl, _, rfl, .int n, ix_o0 _ _, .int ((n : Int) - 1), rfl, d, 0, some ((n : Int) - 1), rfl, r⟩
    refine ⟨_, all_map (fun d => isWhole d 0 (some ((n : Int) - 1))) ds, _, rfl, ?_⟩
    cases hw : ds.all (fun d => isWhole d 0 (some ((n : Int) - 1))) with
    | false =>
      refine ifT rfl ⟨_, rfl, ?_⟩
      have e : isLot n (.tuple ds) = false := by simp only [isLot, hw, Bool.false_and]
      rw [e] at q; exact q
    | true =>
      have e : isLot n (.tuple ds) = ascI (ds.map toI) := by simp only [isLot, hw, Bool.true_and]
      rw [e] at q
      refine ifF rfl ⟨_, rfl, .inr ⟨ds.map toI, ?_, by rw [List.length_map]; exact small_sz sm, _, rfl, q⟩⟩
      rw [← all_ints hw]; rfl
  | _ => exact ⟨_, rfl, _, rfl, _, rfl, ifT rfl ⟨_, rfl, q⟩⟩
/-! what a lot is -/
structure Lot (n : Nat) (l : List Nat) : Prop where
  asc : l.Pairwise fun a b => a < b
  lt : ∀ k ∈ l, k < n
theorem Lot.len {n : Nat} {l : List Nat} (h : Lot n l) : l.length ≤ n := by
  have nd : l.Nodup := h.asc.imp fun z => Nat.ne_of_lt z
  have := nodup_len (l.map fun (k : Nat) => (k : Int)) ((List.range n).map fun (k : Nat) => (k : Int)) (nodup_map (fun a b e => by omega) nd) fun x hx => by
    obtain ⟨k, hk, rfl⟩ := List.mem_map.mp hx
    exact List.mem_map.mpr ⟨k, List.mem_range.mpr (h.lt k hk), rfl⟩
  simpa using this
theorem ascI_pw : ∀ {ns : List Int}, ascI ns = true ↔ ns.Pairwise fun a b => a < b
  | [] => by simp [ascI]
  | [_] => by simp [ascI]
  | a :: b :: r => by
    rw [ascI, Bool.and_eq_true, ascI_pw, decide_eq_true_eq, List.pairwise_cons (a := a)]
    constructor
    · rintro ⟨h1, h2⟩
      refine ⟨fun x hx => ?_, h2⟩
      rcases List.mem_cons.mp hx with rfl | hx
      · exact h1
      · have := (List.pairwise_cons.mp h2).1 x hx; omega
    · rintro ⟨h1, h2⟩
      exact ⟨h1 b (List.mem_cons_self ..), h2⟩
theorem isLot_iff {n : Nat} {d : D} : isLot n d = true ↔ ∃ l, d = natD l ∧ Lot n l := by
  constructor
  · intro h
    cases d with
    | tuple ds =>
      simp only [isLot, Bool.and_eq_true] at h
      obtain ⟨h1, h2⟩ := h
      have e := all_ints h1
      have ps : ∀ x ∈ ds.map toI, 0 ≤ x ∧ x < n := fun x hx => by
        have hm : PyData.int x ∈ ds := by rw [e]; exact List.mem_map.mpr ⟨x, hx, rfl⟩
        have := List.all_eq_true.mp h1 _ hm
        simp [isWhole] at this; omega
      refine ⟨(ds.map toI).map Int.toNat, ?_, ?_, ?_⟩
      · unfold natD
        rw [List.map_map]
        conv => lhs; rw [e]
        refine congrArg PyData.tuple (List.map_congr_left fun x hx => ?_)
        have := ps x hx
        simp only [Function.comp]; rw [Int.toNat_of_nonneg this.1]
      · have := ascI_pw.mp h2
        rw [List.pairwise_map]
        exact this.imp_of_mem fun {a b} ha hb z => by have := ps a ha; have := ps b hb; omega
      · intro k hk
        obtain ⟨x, hx, rfl⟩ := List.mem_map.mp hk
        have := ps x hx; omega
    | _ => cases h
  · rintro ⟨l, rfl, h⟩
    have e : ((l.map fun (k : Nat) => PyData.int (k : Int)).map toI) = l.map fun (k : Nat) => (k : Int) := by
      rw [List.map_map]; rfl
    show ((l.map fun (k : Nat) => PyData.int (k : Int)).all _ && ascI ((l.map fun (k : Nat) => PyData.int (k : Int)).map toI)) = true
    rw [e, Bool.and_eq_true, List.all_map, List.all_eq_true, ascI_pw, List.pairwise_map]
    refine ⟨fun k hk => ?_, h.asc.imp fun z => by omega⟩
    have := h.lt k hk
    simp [isWhole]; omega
/-! ### orders that may be none -/
def bad1 (d : D) (E : Xd → Prop) : Prop := ∃ x, OrdRes d (some x) ∧ E ⟨"BadOrder", .str x⟩
theorem no_bad {d : D} {Q : D → Prop} {E : Xd → Prop} (h : bad1 d E) : spx_need_order [.fz d] Q E := by
  obtain ⟨x, o, e⟩ := h
  exact ⟨d, some x, rfl, o, fun z => (nomatch z), fun y hy => by cases hy; exact e⟩
theorem no_good {n : Nat} {ps : List Pr} {Q : D → Prop} {E : Xd → Prop} (o : Ord n ps) (q : Q (ordD n ps)) : spx_need_order [.fz (ordD n ps)] Q E :=
  ⟨_, none, rfl, .good o, fun _ => q, fun y hy => (nomatch hy)⟩
def oop (E : Xd → Prop) : Prop := E ⟨"OutOfPlace", .none⟩
def isK (n : Nat) (d : D) : Bool := isWhole d 0 (some ((n : Int) - 1))
theorem isK_iff {n : Nat} {d : D} : isK n d = true ↔ ∃ k : Nat, d = .int (k : Nat) ∧ k < n := by
  constructor
  · intro h
    obtain ⟨i, rfl⟩ := whole_int h
    simp [isK, isWhole] at h
    exact ⟨i.toNat, by rw [Int.toNat_of_nonneg h.1], by omega⟩
  · rintro ⟨k, rfl, h⟩
    simp [isK, isWhole]; omega
def spx_need_kind : DL.SpecX := fun as Q E => ∃ d1 d2, as = [.fz d1, .fz d2] ∧ (bad1 d1 E ∨ ∃ (n : Nat) (ps : List Pr), d1 = ordD n ps ∧ Ord n ps ∧ (isK n d2 = true → Q .none) ∧ (isK n d2 = false → oop E))
theorem lenx_need_kind : ∀ as Q E, spx_need_kind as Q E → as.length = 2 := by rintro as Q E ⟨d1, d2, rfl, _⟩; rfl
def wsx_need_kind (Ex : EX) : WS := (wIfS (wNot (wTest (wCall sp_is_whole (wCons (wName 1) (wCons (wC (.fz (.int 0))) (wCons (w2 subD (wIx (wCallX spx_need_order Ex (wCons (wName 0) wNil)) (wC (.fz (.int 0)))) (wC (.fz (.int 1)))) wNil)))))) (wRaise0 Ex "OutOfPlace" (wC (.fz (.str "no kind")))) wNext)
theorem okx_ws_need_kind : ∀ as Q E, spx_need_kind as Q E → wsx_need_kind (fun _ x => E x) (env0 2 as) (endsOf Q) := by
  rintro as Q E ⟨d1, d2, rfl, b | ⟨n, ps, rfl, o, q, e⟩⟩
  · exact ⟨_, rfl, _, rfl, no_bad b⟩
  · refine ⟨_, rfl, _, rfl, no_good o ⟨.int n, ix_o0 _ _, .int ((n : Int) - 1), rfl, d2, 0, some ((n : Int) - 1), rfl, _, rfl, ?_⟩⟩
    cases h : isK n d2 with
    | true => exact ifF (by rw [show isWhole d2 0 (some ((n : Int) - 1)) = true from h]; rfl) (q h)
    | false => exact ifT (by rw [show isWhole d2 0 (some ((n : Int) - 1)) = false from h]; rfl) (e h)
def spx_need_lot : DL.SpecX := fun as Q E => ∃ d1 d2, as = [.fz d1, .fz d2] ∧ (bad1 d1 E ∨ ∃ (n : Nat) (ps : List Pr), d1 = ordD n ps ∧ Ord n ps ∧ short d2 ∧ (isLot n d2 = true → Q .none) ∧ (isLot n d2 = false → oop E))
theorem lenx_need_lot : ∀ as Q E, spx_need_lot as Q E → as.length = 2 := by rintro as Q E ⟨d1, d2, rfl, _⟩; rfl
def wsx_need_lot (Ex : EX) : WS := (wIfS (wNot (wTest (wCall sp_is_lot_of (wCons (wCallX spx_need_order Ex (wCons (wName 0) wNil)) (wCons (wName 1) wNil))))) (wRaise0 Ex "OutOfPlace" (wC (.fz (.str "no lot")))) wNext)
theorem okx_ws_need_lot : ∀ as Q E, spx_need_lot as Q E → wsx_need_lot (fun _ x => E x) (env0 2 as) (endsOf Q) := by
  rintro as Q E ⟨d1, d2, rfl, b | ⟨n, ps, rfl, o, sh, q, e⟩⟩
  · exact ⟨_, rfl, no_bad b⟩
  · refine ⟨_, rfl, no_good o ⟨_, rfl, n, ps, d2, rfl, sh, _, rfl, ?_⟩⟩
    cases h : isLot n d2 with
    | true => exact ifF rfl (q h)
    | false => exact ifT rfl (e h)
def spx_is_within : DL.SpecX := fun as Q E => ∃ d1 d2 d3, as = [.fz d1, .fz d2, .fz d3] ∧ (bad1 d1 E ∨ ∃ (n : Nat) (ps : List Pr), d1 = ordD n ps ∧ Ord n ps ∧ ((isK n d2 && isK n d3) = false → oop E) ∧ ∀ i j : Nat, d2 = .int (i : Nat) → d3 = .int (j : Nat) → i < n → j < n → ∀ b : Bool, (b = true ↔ Rch ps i j) → Q (.bool b))
theorem lenx_is_within : ∀ as Q E, spx_is_within as Q E → as.length = 3 := by rintro as Q E ⟨d1, d2, d3, rfl, _⟩; rfl
def wsx_is_within (Ex : EX) : WS := (wSeq (wDrop (wCallX spx_need_kind Ex (wCons (wName 0) (wCons (wName 1) wNil))))
    (wSeq (wDrop (wCallX spx_need_kind Ex (wCons (wName 0) (wCons (wName 2) wNil))))
    (wRet (w2 inV' (wName 2) (wIx (wCall sp_above_of (wCons (wName 0) wNil)) (wName 1))))))
theorem okx_ws_is_within : ∀ as Q E, spx_is_within as Q E → wsx_is_within (fun _ x => E x) (env0 3 as) (endsOf Q) := by
  rintro as Q E ⟨d1, d2, d3, rfl, b | ⟨n, ps, rfl, o, e, q⟩⟩
  · exact ⟨_, rfl, _, rfl, d1, d2, rfl, .inl b⟩
  · refine ⟨_, rfl, _, rfl, _, d2, rfl, .inr ⟨n, ps, rfl, o, fun h2 => ?_, fun h2 => e (by rw [h2]; rfl)⟩⟩
    refine ⟨_, rfl, _, rfl, _, d3, rfl, .inr ⟨n, ps, rfl, o, fun h3 => ?_, fun h3 => e (by rw [h3, Bool.and_false])⟩⟩
    obtain ⟨i, rfl, hi⟩ := isK_iff.mp h2
    obtain ⟨j, rfl, hj⟩ := isK_iff.mp h3
    refine ⟨_, rfl, _, rfl, n, ps, rfl, by have := o.hi; omega, o.sm, fun kss hk => ?_⟩
    have hl := hk.1
    refine ⟨_, rfl, .dict (esD (kss.getD i [])), ix_ab (by omega), _, in_esD _ _, _, rfl, ?_⟩
    refine q i j rfl rfl hi hj _ ?_
    rw [decide_eq_true_eq]
    exact ab_in hk hi
def spx_is_clutter : DL.SpecX := fun as Q E => ∃ d1 d2, as = [.fz d1, .fz d2] ∧ (bad1 d1 E ∨ ∃ (n : Nat) (ps : List Pr), d1 = ordD n ps ∧ Ord n ps ∧ short d2 ∧ (isLot n d2 = false → oop E) ∧ ∀ l kss, d2 = natD l → Lot n l → IsAb ps n kss → Q (.bool (apartB kss l)))
theorem lenx_is_clutter : ∀ as Q E, spx_is_clutter as Q E → as.length = 2 := by rintro as Q E ⟨d1, d2, rfl, _⟩; rfl
def wsx_is_clutter (Ex : EX) : WS := (wSeq (wDrop (wCallX spx_need_lot Ex (wCons (wName 0) (wCons (wName 1) wNil))))
    (wRet (wCall sp_are_apart (wCons (wCall sp_above_of (wCons (wName 0) wNil)) (wCons (wName 1) wNil)))))
theorem okx_ws_is_clutter : ∀ as Q E, spx_is_clutter as Q E → wsx_is_clutter (fun _ x => E x) (env0 2 as) (endsOf Q) := by
  rintro as Q E ⟨d1, d2, rfl, b | ⟨n, ps, rfl, o, sh, e, q⟩⟩
  · exact ⟨_, rfl, _, rfl, d1, d2, rfl, .inl b⟩
  · refine ⟨_, rfl, _, rfl, _, d2, rfl, .inr ⟨n, ps, rfl, o, sh, fun h => ?_, e⟩⟩
    obtain ⟨l, rfl, hl⟩ := isLot_iff.mp h
    have hn := o.hi
    have := hl.len
    refine ⟨_, rfl, n, ps, rfl, by omega, o.sm, fun kss hk => ?_⟩
    exact ⟨_, rfl, kss, l, rfl, fun k hk' => by rw [hk.1]; exact hl.lt k hk', by omega, _, rfl, q l kss rfl hl hk⟩
/-! ### the clutters to which nothing can be put -/
def fullB (kss : List (List Int)) (n : Nat) (l : List Nat) : Bool := !((List.range' 0 n).any fun k => !decide (k ∈ l) && apartB kss (l ++ [k]))
def spx_clutters : DL.SpecX := fun as Q E => ∃ d1, as = [.fz d1] ∧ (bad1 d1 E ∨ ∃ (n : Nat) (ps : List Pr), d1 = ordD n ps ∧ Ord n ps ∧ ∀ kss kss', IsAb ps n kss → IsAb ps n kss' → Q (.tuple (((srtL (clu kss' n)).filter (fullB kss n)).map natD)))
theorem lenx_clutters : ∀ as Q E, spx_clutters as Q E → as.length = 1 := by rintro as Q E ⟨d1, rfl, _⟩; rfl
def cl_if : WS := (wIfS (wNot (wTest (wB anyD (wCons (wLc (wRng rng1 (wCons (wIx (wName 0) (wC (.fz (.int 0)))) wNil)) (gN 4) wYes (wAndV (w2 notInV (wName 4) (wName 3)) (wCall sp_are_apart (wCons (wName 1) (wCons (wTup (wStar (wName 3) (wCons (wName 4) wNil))) wNil)))) [4]) wNil)))) (wApp 2 (wName 3)) wNext)
def wsx_clutters (Ex : EX) : WS := (wSeq (wDrop (wCallX spx_need_order Ex (wCons (wName 0) wNil)))
    (wSeq (wAsg2O 1 2 (wCall sp_above_of (wCons (wName 0) wNil)) (wLst wNil))
    (wSeq (wForI (wSrc (wCall sp_all_clutters (wCons (wName 0) wNil))) (gN 3) (wIfS (wNot (wTest (wB anyD (wCons (wLc (wRng rng1 (wCons (wIx (wName 0) (wC (.fz (.int 0)))) wNil)) (gN 4) wYes (wAndV (w2 notInV (wName 4) (wName 3)) (wCall sp_are_apart (wCons (wName 1) (wCons (wTup (wStar (wName 3) (wCons (wName 4) wNil))) wNil)))) [4]) wNil)))) (wApp 2 (wName 3)) wNext))
    (wRet (wB tupleD (wCons (wName 2) wNil))))))
theorem notIn_nat {k : Nat} {l : List Nat} : notInV (.int (k : Nat)) (natD l) = some (.bool (!decide (k ∈ l))) := by
  have s2 : SeqAt.shaped (natD l) = true := by
    rw [natD_box]
    simp only [SeqAt.shaped, boxD, PyData.canLay0, lay_ints, PyData.depth, PySem.W.depth_ints]; decide
  have s1 : SeqAt.shaped (.int (k : Nat)) = true := by simp [SeqAt.shaped, PyData.canLay0, PyData.depth]
  show ((if SeqAt.shaped (.int (k : Nat)) = true ∧ SeqAt.shaped (natD l) = true then some ((l.map fun (k : Nat) => PyData.int (k : Int)).any fun z => z.eqv (.int (k : Nat))) else none).map fun k => PyData.bool !k) = _
  rw [if_pos ⟨s1, s2⟩]
  simp only [Option.map_some]
  congr 3
  rw [Bool.eq_iff_iff]
  simp only [List.any_map, List.any_eq_true, Function.comp, eqv_int, decide_eq_true_eq]
  exact ⟨fun ⟨q, hq, e⟩ => by have : q = k := by omega
                              exact this ▸ hq, fun hq => ⟨k, hq, rfl⟩⟩
theorem okx_ws_clutters : ∀ as Q E, spx_clutters as Q E → wsx_clutters (fun _ x => E x) (env0 5 as) (endsOf Q) := by
  rintro as Q E ⟨d1, rfl, b | ⟨n, ps, rfl, o, q⟩⟩
  · exact ⟨_, rfl, no_bad b⟩
  · have hn := o.hi
    refine ⟨_, rfl, no_good o ?_⟩
    refine ⟨_, rfl, n, ps, rfl, by omega, o.sm, fun kss hk => ⟨[], rfl, Nat.zero_le _, _, _, rfl, rfl, ?_⟩⟩
    refine ⟨_, rfl, n, ps, rfl, by omega, o.sm, fun kss' hk' => ⟨(srtL (clu kss' n)).map natD, rfl, ?_⟩⟩
    have hl : (srtL (clu kss' n)).length ≤ 4096 := by
      rw [srtL_len]
      have := (clu_small kss' n).1
      have := pow12 hn
      omega
    refine wFor_enc natD (srtL (clu kss' n)) (fun i env => ∃ s3 s4, env = [.fz (ordD n ps), .fz (abD kss), .own (.list ((((srtL (clu kss' n)).take i).filter (fullB kss n)).map natD)), s3, s4]) ?_ ?_ _ 0 rfl (Nat.zero_le _) _ ⟨.no, .no, rfl⟩
    · rintro _ ⟨s3, s4, rfl⟩
      rw [List.take_length]
      exact ⟨_, rfl, _, rfl, _, rfl, q kss kss' hk hk'⟩
    · rintro i l hil _ De' ⟨s3, s4, rfl⟩ hrt hbk hnx hct
      have hm : l ∈ clu kss' n := srtL_mem.mp (List.mem_of_getElem? hil)
      obtain ⟨l1, l2⟩ := (clu_small kss' n).2 l hm
      refine ⟨_, rfl, ?_⟩
      have tk : (srtL (clu kss' n)).take (i + 1) = (srtL (clu kss' n)).take i ++ [l] := by
        rw [List.take_succ, hil]; rfl
      have step : ∀ b : Bool, fullB kss n l = b → ∃ ls, ls = (((srtL (clu kss' n)).take (i + 1)).filter (fullB kss n)).map natD ∧ ls = (((srtL (clu kss' n)).take i).filter (fullB kss n)).map natD ++ (if b = true then [natD l] else []) := fun b hb => by
        refine ⟨_, rfl, ?_⟩
        rw [tk, List.filter_append, List.map_append]
        congr 1
        cases b with
        | true => rw [if_pos rfl, List.filter_cons_of_pos hb]; rfl
        | false => rw [if_neg Bool.false_ne_true, List.filter_cons_of_neg (by rw [hb]; decide)]; rfl
      refine ⟨_, rfl, .int n, ix_o0 _ _, _, rngV (n := n) (by omega), ?_⟩
      refine lc_enc (fun i : Nat => .int (i : Nat)) (fun k => .bool (!decide (k ∈ l) && apartB kss (l ++ [k]))) _ (fun k hk0 => ⟨_, rfl, fun R r => ?_⟩) (by rw [List.length_range']; exact small_sz (by omega)) ?_
      · have hkn : k < n := by have := List.mem_range'.mp hk0; omega
        refine andV_ok (p := !decide (k ∈ l)) (q := apartB kss (l ++ [k])) (fun R r => ⟨_, rfl, _, rfl, _, notIn_nat, r⟩) (fun R r => ?_) r
        refine ⟨_, rfl, _, rfl, l.map (fun (k : Nat) => .int (k : Int)), rfl, _, rfl, _, natD_snoc l k, by rw [List.length_map, List.length_append, sizeLine_eq]; simp; omega, kss, l ++ [k], rfl, fun x hx => ?_, by rw [List.length_append]; simp; omega, r⟩
        rw [hk.1]
        rcases List.mem_append.mp hx with h | h
        · have := l2 x h; omega
        · have : x = k := by simpa using h
          omega
      refine ⟨_, any_enc (fun k : Nat => !decide (k ∈ l) && apartB kss (l ++ [k])) _, _, rfl, ?_⟩
      cases hf : fullB kss n l with
      | true =>
        obtain ⟨ls, e1, e2⟩ := step true hf
        refine ifT hf ⟨_, rfl, _, rfl, _, rfl, ?_, hnx _ ⟨.fz (natD l), s4, ?_⟩⟩
        · rw [List.length_map]
          have := List.length_filter_le (fullB kss n) ((srtL (clu kss' n)).take i)
          have := List.length_take_le' i (srtL (clu kss' n))
          rw [sizeLine_eq]; omega
        · rw [← e1, e2]; rfl
      | false =>
        obtain ⟨ls, e1, e2⟩ := step false hf
        refine ifF hf (hnx _ ⟨.fz (natD l), s4, ?_⟩)
        rw [← e1, e2]; simp
end PFT
namespace PFT
open PySem DL PF PFO
/-! ### counting: a list without repeats within another one -/
theorem nd_le {α : Type} [DecidableEq α] : ∀ (l m : List α), l.Nodup → (∀ x ∈ l, x ∈ m) → l.length ≤ m.length
  | [], _, _, _ => Nat.zero_le _
  | a :: r, m, h, hs => by
    obtain ⟨h1, h2⟩ := List.nodup_cons.mp h
    have ih := nd_le r (m.erase a) h2 fun x hx => by
      have := hs x (List.mem_cons_of_mem _ hx)
      exact (List.mem_erase_of_ne (fun z => h1 (by rw [← z]; exact hx))).mpr this
    have hm := hs a (List.mem_cons_self ..)
    rw [List.length_erase_of_mem hm] at ih
    have : 0 < m.length := List.length_pos_of_mem hm
    rw [List.length_cons]; omega
theorem nd_perm {α : Type} [DecidableEq α] {l m : List α} (h1 : l.Nodup) (h2 : m.Nodup) (h : ∀ x, x ∈ l ↔ x ∈ m) : l.Perm m := by
  rw [List.perm_iff_count]
  intro a
  rw [h1.count, h2.count]
  by_cases z : a ∈ l
  · rw [if_pos z, if_pos ((h a).mp z)]
  · rw [if_neg z, if_neg fun q => z ((h a).mpr q)]
/-- all lots of the first k kinds -/
def subs : Nat → List (List Nat)
  | 0 => [[]]
  | k + 1 => subs k ++ (subs k).map fun l => l ++ [k]
theorem subs_len : ∀ k, (subs k).length = 2 ^ k
  | 0 => rfl
  | k + 1 => by rw [subs, List.length_append, List.length_map, subs_len k, Nat.pow_succ]; omega
theorem filt_subs (p : Nat → Bool) : ∀ k, (List.range k).filter p ∈ subs k
  | 0 => by simp [subs]
  | k + 1 => by
    rw [List.range_succ, List.filter_append, subs]
    cases h : p k with
    | true =>
      refine List.mem_append_right _ (List.mem_map.mpr ⟨_, filt_subs p k, ?_⟩)
      simp [h]
    | false =>
      refine List.mem_append_left _ ?_
      simp [h, filt_subs p k]
theorem mem_subs : ∀ {k : Nat} {l : List Nat}, l ∈ subs k ↔ Lot k l
  | 0, l => by
    constructor
    · intro h
      obtain rfl : l = [] := by simpa [subs] using h
      exact ⟨List.Pairwise.nil, fun _ z => nomatch z⟩
    · intro h
      have : l = [] := List.length_eq_zero_iff.mp (by have := h.len; omega)
      rw [this]; simp [subs]
  | k + 1, l => by
    constructor
    · intro h
      rw [subs] at h
      rcases List.mem_append.mp h with h | h
      · have := (mem_subs (k := k)).mp h
        exact ⟨this.asc, fun x hx => by have := this.lt x hx; omega⟩
      · obtain ⟨m, hm, rfl⟩ := List.mem_map.mp h
        have := (mem_subs (k := k)).mp hm
        refine ⟨List.pairwise_append.mpr ⟨this.asc, by simp, fun a ha b hb => ?_⟩, fun x hx => ?_⟩
        · have := this.lt a ha
          have : b = k := by simpa using hb
          omega
        · rcases List.mem_append.mp hx with hx | hx
          · have := this.lt x hx; omega
          · have : x = k := by simpa using hx
            omega
    · intro h
      have e : l = (List.range (k + 1)).filter fun x => decide (x ∈ l) := by
        refine List.Perm.eq_of_pairwise (le := fun a b => a < b) (fun a b _ _ h1 h2 => by omega) h.asc (List.Pairwise.filter _ List.pairwise_lt_range) (nd_perm (h.asc.imp fun z => Nat.ne_of_lt z) (List.nodup_range.filter _) fun x => ?_)
        rw [List.mem_filter, List.mem_range, decide_eq_true_eq]
        exact ⟨fun hx => ⟨h.lt x hx, hx⟩, fun hx => hx.2⟩
      rw [e]
      exact filt_subs _ (k + 1)
/-! ### forms -/
/-- each kind is within all behind it -/
structure Frm (ps : List Pr) (n : Nat) (f : List Nat) : Prop where
  ch : f.Pairwise fun a b : Nat => Rch ps (a : Int) (b : Int)
  lt : ∀ k ∈ f, k < n
theorem Frm.nd {ps : List Pr} {n : Nat} {f : List Nat} (no : ∀ k, ¬ Rch ps k k) (h : Frm ps n f) : f.Nodup := List.Pairwise.imp (R := fun a b : Nat => Rch ps (a : Int) (b : Int)) (S := fun a b : Nat => a ≠ b) (fun {a b} z e => no (a : Int) (by rw [e] at z ⊢; exact z)) h.ch
theorem Frm.len {ps : List Pr} {n : Nat} {f : List Nat} (no : ∀ k, ¬ Rch ps k k) (h : Frm ps n f) : f.length ≤ n := by
  have := nd_le f (List.range n) (h.nd no) fun x hx => List.mem_range.mpr (h.lt x hx)
  rwa [List.length_range] at this
theorem frm_count {ps : List Pr} {n : Nat} (no : ∀ k, ¬ Rch ps k k) {L : List (List Nat)} (nd : L.Nodup) (h : ∀ f ∈ L, Frm ps n f) : L.length ≤ 2 ^ n := by
  have key : ∀ f ∈ L, ∀ g ∈ L, (List.range n).filter (fun x => decide (x ∈ f)) = (List.range n).filter (fun x => decide (x ∈ g)) → f = g := fun f hf g hg e => by
    have ff := h f hf
    have fg := h g hg
    refine List.Perm.eq_of_pairwise (le := fun a b : Nat => Rch ps (a : Int) (b : Int)) (fun a b _ _ h1 h2 => absurd (h1.trans h2) (no _)) ff.ch fg.ch (nd_perm (ff.nd no) (fg.nd no) fun x => ?_)
    have c : ∀ {u : List Nat}, Frm ps n u → (x ∈ u ↔ x ∈ (List.range n).filter (fun x => decide (x ∈ u))) := fun {u} hu => by
      rw [List.mem_filter, List.mem_range, decide_eq_true_eq]
      exact ⟨fun hx => ⟨hu.lt x hx, hx⟩, fun hx => hx.2⟩
    rw [c ff, c fg, e]
  have nd2 : (L.map fun f => (List.range n).filter (fun x => decide (x ∈ f))).Nodup := by
    unfold List.Nodup
    rw [List.pairwise_map]
    exact nd.imp_of_mem fun {a b} ha hb ne e => ne (key a ha b hb e)
  have := nd_le _ (subs n) nd2 fun x hx => by
    obtain ⟨f, _, rfl⟩ := List.mem_map.mp hx
    exact filt_subs _ n
  rwa [List.length_map, subs_len] at this
/-- the forms of so many kinds, in the turn in which they come -/
def lay (kss : List (List Int)) (n : Nat) : Nat → List (List Nat)
  | 0 => (List.range' 0 n).map fun k => [k]
  | k + 1 => (lay kss n k).flatMap fun f => (kss.getD (f.getLastD 0) []).map fun j => f ++ [j.toNat]
def fnd (kss : List (List Int)) (n : Nat) : Nat → List (List Nat)
  | 0 => []
  | k + 1 => fnd kss n k ++ lay kss n k
theorem getD_of {kss : List (List Int)} {i : Nat} (h : i < kss.length) : kss[i]? = some (kss.getD i []) := by
  rw [List.getD_eq_getElem?_getD, List.getElem?_eq_getElem h]; rfl
theorem ab_at {ps : List Pr} {n : Nat} {kss : List (List Int)} (hk : IsAb ps n kss) {i : Nat} (hi : i < n) {j : Int} : j ∈ kss.getD i [] ↔ Rch ps i j := hk.2 i _ (getD_of (by rw [hk.1]; exact hi)) j
theorem ab_nd {ps : List Pr} {n : Nat} {kss : List (List Int)} (hk : IsAb ps n kss) {i : Nat} (hi : i < n) : (kss.getD i []).Nodup := hk.nd _ (List.mem_of_getElem? (getD_of (by rw [hk.1]; exact hi)))
theorem last_mem {f : List Nat} {k : Nat} (h : f.length = k + 1) : f.getLastD 0 ∈ f := by
  have hne : f ≠ [] := fun z => by rw [z] at h; cases h
  rw [List.getLastD_eq_getLast?, List.getLast?_eq_some_getLast hne]
  exact List.getLast_mem hne
section
variable {ps : List Pr} {n : Nat} {kss : List (List Int)}
theorem lay_mem (hk : IsAb ps n kss) (pr : ∀ p ∈ ps, isPair n p.1 p.2 = true) : ∀ (k : Nat) (f : List Nat), f ∈ lay kss n k ↔ f.length = k + 1 ∧ Frm ps n f
  | 0, f => by
    rw [lay, List.mem_map]
    constructor
    · rintro ⟨k, hk, rfl⟩
      have := List.mem_range'.mp hk
      exact ⟨rfl, by simp, fun x hx => by have : x = k := by simpa using hx
                                          omega⟩
    · rintro ⟨h1, h2⟩
      match f, h1 with
      | [k], _ => exact ⟨k, List.mem_range'.mpr ⟨k, h2.lt k (by simp), by omega⟩, rfl⟩
  | k + 1, f => by
    rw [lay, List.mem_flatMap]
    constructor
    · rintro ⟨g, hg, hf⟩
      obtain ⟨j, hj, rfl⟩ := List.mem_map.mp hf
      obtain ⟨gl, gf⟩ := (lay_mem hk pr k g).mp hg
      have lm := last_mem gl
      have ll := gf.lt _ lm
      have rj := (ab_at hk ll).mp hj
      have rg := rj.rng pr
      have ej : ((j.toNat : Nat) : Int) = j := Int.toNat_of_nonneg rg.2.1
      refine ⟨by rw [List.length_append, gl]; rfl, List.pairwise_append.mpr ⟨gf.ch, by simp, fun a ha b hb => ?_⟩, fun x hx => ?_⟩
      · obtain rfl : b = j.toNat := by simpa using hb
        rw [ej]
        have hne : g ≠ [] := fun z => by rw [z] at gl; cases gl
        have eg := List.dropLast_concat_getLast hne
        have el : g.getLast hne = g.getLastD 0 := by rw [List.getLastD_eq_getLast?, List.getLast?_eq_some_getLast hne]; rfl
        rw [el] at eg
        by_cases z : a ∈ g.dropLast
        · have c := gf.ch
          rw [← eg] at c
          exact ((List.pairwise_append.mp c).2.2 a z _ (by simp)).trans rj
        · have : a = g.getLastD 0 := by
            rw [← eg] at ha
            rcases List.mem_append.mp ha with q | q
            · exact absurd q z
            · simpa using q
          rw [this]; exact rj
      · rcases List.mem_append.mp hx with q | q
        · exact gf.lt x q
        · have : x = j.toNat := by simpa using q
          omega
    · rintro ⟨h1, h2⟩
      have hne : f ≠ [] := fun z => by rw [z] at h1; cases h1
      have ef := List.dropLast_concat_getLast hne
      generalize f.getLast hne = x at ef
      have fl : f.dropLast.length = k + 1 := by rw [List.length_dropLast]; omega
      have c := h2.ch
      rw [← ef] at c
      have hf : Frm ps n f.dropLast := ⟨(List.pairwise_append.mp c).1, fun y hy => h2.lt y (List.dropLast_subset _ hy)⟩
      refine ⟨f.dropLast, (lay_mem hk pr k _).mpr ⟨fl, hf⟩, List.mem_map.mpr ⟨(x : Int), ?_, by rw [Int.toNat_natCast]; exact ef⟩⟩
      have lm := last_mem fl
      rw [ab_at hk (hf.lt _ lm)]
      exact (List.pairwise_append.mp c).2.2 _ lm x (by simp)
theorem lay_nd (hk : IsAb ps n kss) (pr : ∀ p ∈ ps, isPair n p.1 p.2 = true) : ∀ k : Nat, (lay kss n k).Nodup
  | 0 => nodup_map (fun a b e => by simpa using e) List.nodup_range'
  | k + 1 => by
    rw [lay]
    unfold List.Nodup
    rw [List.pairwise_flatMap]
    refine ⟨fun f hf => ?_, (lay_nd hk pr k).imp fun {a b} ne x hx y hy e => ?_⟩
    · obtain ⟨fl, ff⟩ := (lay_mem hk pr k f).mp hf
      have ll := ff.lt _ (last_mem fl)
      rw [List.pairwise_map]
      refine (ab_nd hk ll).imp_of_mem fun {i j} hi hj ne e => ?_
      have ri := ((ab_at hk ll).mp hi).rng pr
      have rj := ((ab_at hk ll).mp hj).rng pr
      have : [i.toNat] = [j.toNat] := List.append_cancel_left e
      have : i.toNat = j.toNat := by simpa using this
      omega
    · obtain ⟨i, _, rfl⟩ := List.mem_map.mp hx
      obtain ⟨j, _, rfl⟩ := List.mem_map.mp hy
      have := congrArg List.dropLast e
      rw [List.dropLast_concat, List.dropLast_concat] at this
      exact ne this
theorem fnd_mem (hk : IsAb ps n kss) (pr : ∀ p ∈ ps, isPair n p.1 p.2 = true) : ∀ (k : Nat) (f : List Nat), f ∈ fnd kss n k ↔ f ≠ [] ∧ f.length ≤ k ∧ Frm ps n f
  | 0, f => by
    constructor
    · intro h; cases h
    · rintro ⟨h1, h2, _⟩
      exact absurd (List.length_eq_zero_iff.mp (by omega)) h1
  | k + 1, f => by
    rw [fnd, List.mem_append, fnd_mem hk pr k, lay_mem hk pr k]
    constructor
    · rintro (⟨h1, h2, h3⟩ | ⟨h1, h2⟩)
      · exact ⟨h1, by omega, h3⟩
      · exact ⟨fun z => (by rw [z] at h1; cases h1), by omega, h2⟩
    · rintro ⟨h1, h2, h3⟩
      by_cases z : f.length = k + 1
      · exact .inr ⟨z, h3⟩
      · exact .inl ⟨h1, by omega, h3⟩
theorem fnd_nd (hk : IsAb ps n kss) (pr : ∀ p ∈ ps, isPair n p.1 p.2 = true) : ∀ k : Nat, (fnd kss n k).Nodup
  | 0 => List.nodup_nil
  | k + 1 => by
    rw [fnd]
    refine List.nodup_append.mpr ⟨fnd_nd hk pr k, lay_nd hk pr k, fun a ha b hb e => ?_⟩
    subst e
    have h1 := (fnd_mem hk pr k a).mp ha
    have h2 := (lay_mem hk pr k a).mp hb
    omega
theorem lay_end (hk : IsAb ps n kss) (pr : ∀ p ∈ ps, isPair n p.1 p.2 = true) (no : ∀ k, ¬ Rch ps k k) : lay kss n n = [] := by
  rw [List.eq_nil_iff_forall_not_mem]
  intro f hf
  obtain ⟨h1, h2⟩ := (lay_mem hk pr n f).mp hf
  have := h2.len no
  omega
theorem lay_nil {k : Nat} (h : lay kss n k = []) : ∀ m, lay kss n (k + m) = []
  | 0 => h
  | m + 1 => by rw [← Nat.add_assoc, lay, lay_nil h m]; rfl
theorem fnd_stop {k : Nat} (h : lay kss n k = []) : ∀ m, fnd kss n (k + m) = fnd kss n k
  | 0 => rfl
  | m + 1 => by rw [← Nat.add_assoc, fnd, lay_nil h m, List.append_nil, fnd_stop h m]
theorem fnd_len (hk : IsAb ps n kss) (pr : ∀ p ∈ ps, isPair n p.1 p.2 = true) (no : ∀ k, ¬ Rch ps k k) (k : Nat) : (fnd kss n k).length ≤ 2 ^ n := frm_count no (fnd_nd hk pr k) fun f hf => ((fnd_mem hk pr k f).mp hf).2.2
theorem lay_len (hk : IsAb ps n kss) (pr : ∀ p ∈ ps, isPair n p.1 p.2 = true) (no : ∀ k, ¬ Rch ps k k) (k : Nat) : (lay kss n k).length ≤ 2 ^ n := frm_count no (lay_nd hk pr k) fun f hf => ((lay_mem hk pr k f).mp hf).2
end
end PFT
namespace PFT
open PySem DL PF PFO
/-! ### whether any value is a form -/
def chainI (kss : List (List Int)) : List Int → Bool
  | a :: b :: r => decide (b ∈ kss.getD a.toNat []) && chainI kss (b :: r)
  | _ => true
theorem chainI_zip (kss : List (List Int)) : ∀ ns : List Int, (ns.zip (ns.drop 1)).all (fun p => decide (p.2 ∈ kss.getD p.1.toNat [])) = chainI kss ns
  | [] => rfl
  | [_] => rfl
  | a :: b :: r => by
    have := chainI_zip kss (b :: r)
    simp only [List.drop_succ_cons, List.drop_zero, List.zip_cons_cons, List.all_cons, chainI] at this ⊢
    rw [← this]
def isForm (kss : List (List Int)) : D → Bool
  | .tuple ds => !ds.isEmpty && (ds.all (fun d => isWhole d 0 (some ((kss.length : Int) - 1))) && chainI kss (ds.map toI))
  | _ => false
def sp_is_form_by : DL.Spec := fun as Q => ∃ (kss : List (List Int)) (d : D), as = [.fz (abD kss), .fz d] ∧ kss.length ≤ 12 ∧ short d ∧ SeqAt.shaped d = true ∧ Q (.bool (isForm kss d))
theorem len_is_form_by : ∀ as Q, sp_is_form_by as Q → as.length = 2 := by rintro as Q ⟨kss, d, rfl, _⟩; rfl
def ws_is_form_by : WS := (wSeq (wIfS (wOr (wNot (wTest (wIsi DL.isTuple (wName 1)))) (wOr (wTest (w2 eqD (wName 1) (wTup wNil))) (wNot (wTest (wB allD (wCons (wLc (wSrc (wName 1)) (gN 2) wYes (wCall sp_is_whole (wCons (wName 2) (wCons (wC (.fz (.int 0))) (wCons (w2 subD (wB lenD (wCons (wName 0) wNil)) (wC (.fz (.int 1)))) wNil)))) [2]) wNil)))))) (wRet (wC (.fz (.bool false)))) wNext)
    (wRet (wB allD (wCons (wLc (wZip (wCons (wName 1) (wCons (wSl (wName 1) (wPart (wC (.fz (.int 1)))) wNoPart) wNil))) (gTup' 2 (gCons' (gN 2) (gCons' (gN 3) gNil'))) wYes (w2 inV' (wName 3) (wIx (wName 0) (wName 2))) [2, 3]) wNil))))
theorem eq_nilT {ds : List D} (h : SeqAt.shaped (.tuple ds) = true) : eqD (.tuple ds) (.tuple []) = some (.bool ds.isEmpty) := by
  unfold eqD
  rw [if_pos ⟨h, by decide⟩]
  cases ds <;> rfl
theorem len_abD (kss : List (List Int)) : (valL [.fz (abD kss)]).bind lenD = some (.int (kss.length : Nat)) := by
  show some (PyData.int ((kss.map fun ks => PyData.dict (esD ks)).length : Nat)) = _
  rw [List.length_map]
theorem mem_zip_drop {ns : List Int} {p : Int × Int} (h : p ∈ ns.zip (ns.drop 1)) : p.1 ∈ ns ∧ p.2 ∈ ns := by
  have := List.of_mem_zip h
  exact ⟨this.1, List.drop_subset _ _ this.2⟩
theorem ok_ws_is_form_by : ∀ as Q, sp_is_form_by as Q → ws_is_form_by (env0 4 as) (endsOf Q) := by
  rintro as Q ⟨kss, d, rfl, hn, sh, shp, q⟩
  cases d with
  | tuple ds =>
    have sm := sh ds rfl
    refine ⟨_, rfl, _, rfl, _, rfl, ifF rfl ?_⟩
    refine ⟨_, rfl, [], rfl, Nat.zero_le _, _, eq_nilT shp, _, rfl, ?_⟩
    cases he : ds.isEmpty with
    | true =>
      refine ifT rfl ⟨_, rfl, ?_⟩
      have e : isForm kss (.tuple ds) = false := by simp only [isForm, he]; rfl
      rw [e] at q; exact q
    | false =>
      refine ifF rfl ⟨_, rfl, ds, rfl, ?_⟩
      refine lc_all (fun d => .bool (isWhole d 0 (some ((kss.length : Int) - 1)))) _ (fun d hd => ⟨_, rfl, fun R r => ?_⟩) (small_sz sm) ?_
      · exact ⟨_, rfl, _, rfl, .int (kss.length : Nat), len_abD kss, .int ((kss.length : Int) - 1), rfl, d, 0, some ((kss.length : Int) - 1), rfl, r⟩
      refine ⟨_, all_map (fun d => isWhole d 0 (some ((kss.length : Int) - 1))) ds, _, rfl, ?_⟩
      cases hw : ds.all (fun d => isWhole d 0 (some ((kss.length : Int) - 1))) with
      | false =>
        refine ifT rfl ⟨_, rfl, ?_⟩
        have e : isForm kss (.tuple ds) = false := by simp only [isForm, he, hw]; rfl
        rw [e] at q; exact q
      | true =>
        have e : isForm kss (.tuple ds) = chainI kss (ds.map toI) := by simp only [isForm, he, hw]; rfl
        rw [e] at q
        have ei := all_ints hw
        have rg : ∀ x ∈ ds.map toI, 0 ≤ x ∧ x < kss.length := fun x hx => by
          have hm : PyData.int x ∈ ds := by rw [ei]; exact List.mem_map.mpr ⟨x, hx, rfl⟩
          have := List.all_eq_true.mp hw _ hm
          simp [isWhole] at this; omega
        generalize ds.map toI = ns at ei q rg
        subst ei
        refine ifF rfl ⟨_, rfl, _, rfl, 1, rfl, .tuple ((ns.map PyData.int).drop 1), by rw [← cutD_1]; rfl, _, rfl, ?_⟩
        have ez : List.zipWith pairD (ns.map PyData.int) ((ns.map PyData.int).drop 1) = (ns.zip (ns.drop 1)).map fun p => pairD (.int p.1) (.int p.2) := by
          rw [← List.map_drop, List.zipWith_map, List.zip, List.map_zipWith]
        rw [ez]
        refine lc_enc _ (fun p : Int × Int => .bool (decide (p.2 ∈ kss.getD p.1.toNat []))) _ (fun p hp => ⟨_, rfl, fun R r => ?_⟩) (by rw [List.length_zip]; rw [List.length_map] at sm; exact small_sz (by omega)) ?_
        · have h1 := rg _ (mem_zip_drop hp).1
          obtain ⟨a, ha⟩ := Int.eq_ofNat_of_zero_le h1.1
          obtain ⟨p1, p2⟩ := p
          simp only at ha h1 r
          subst ha
          exact ⟨_, rfl, _, rfl, _, rfl, .dict (esD (kss.getD a [])), ix_ab (by omega), _, in_esD _ _, (by rw [Int.toNat_natCast] at r; exact r)⟩
        · refine ⟨.bool (chainI kss ns), ?_, .bool (chainI kss ns), rfl, q⟩
          rw [← chainI_zip]
          exact all_enc (fun p : Int × Int => decide (p.2 ∈ kss.getD p.1.toNat [])) _
  | _ => exact ⟨_, rfl, _, rfl, _, rfl, ifT rfl ⟨_, rfl, q⟩⟩
def spx_is_form : DL.SpecX := fun as Q E => ∃ d1 d2, as = [.fz d1, .fz d2] ∧ (bad1 d1 E ∨ ∃ (n : Nat) (ps : List Pr), d1 = ordD n ps ∧ Ord n ps ∧ short d2 ∧ SeqAt.shaped d2 = true ∧ ∀ kss, IsAb ps n kss → Q (.bool (isForm kss d2)))
theorem lenx_is_form : ∀ as Q E, spx_is_form as Q E → as.length = 2 := by rintro as Q E ⟨d1, d2, rfl, _⟩; rfl
def wsx_is_form (Ex : EX) : WS := (wRet (wCall sp_is_form_by (wCons (wCall sp_above_of (wCons (wCallX spx_need_order Ex (wCons (wName 0) wNil)) wNil)) (wCons (wName 1) wNil))))
theorem okx_ws_is_form : ∀ as Q E, spx_is_form as Q E → wsx_is_form (fun _ x => E x) (env0 2 as) (endsOf Q) := by
  rintro as Q E ⟨d1, d2, rfl, b | ⟨n, ps, rfl, o, sh, shp, q⟩⟩
  · exact ⟨_, rfl, no_bad b⟩
  · have hn := o.hi
    exact ⟨_, rfl, no_good o ⟨n, ps, rfl, by omega, o.sm, fun kss hk => ⟨_, rfl, kss, d2, rfl, by rw [hk.1]; exact hn, sh, shp, _, rfl, q kss hk⟩⟩⟩
/-! ### all forms -/
theorem lc2_dep {α β : Type} {gd gd1 : GD} {wi1 : WI} {wt1 : WT} {we : WE} {vs1 : List Nat} {env : Ev} {P : Dv → Prop} (e : α → D) (e1 : β → D) (qs : α → List β) (g : α → β → D) (b : α → β → Bool) (N : Nat) : ∀ (ps : List α) (acc : List D),
    (∀ p ∈ ps, (qs p).length ≤ N ∧ ∃ env', gd (e p) env = some env' ∧ (∀ R : List D → Prop, R ((qs p).map e1) → wi1 env' R) ∧ ∀ q ∈ qs p, ∃ env2, gd1 (e1 q) (wipeE env' vs1) = some env2 ∧ (∀ R : Bool → Prop, R (b p q) → wt1 env2 R) ∧ (b p q = true → ∀ R : Dv → Prop, R (.fz (g p q)) → we env2 R)) →
    acc.length + ps.length * N ≤ sizeLine → P (.nw (.list (acc ++ ps.flatMap fun p => ((qs p).filter (b p)).map (g p)))) → wLc2L gd wYes wi1 gd1 wt1 we vs1 env P (ps.map e) acc
  | [], acc, _, _, p => by simpa [wLc2L] using p
  | d :: r, acc, h, hl, p => by
    obtain ⟨hN, env', h1, h2, h3⟩ := h d (List.mem_cons_self ..)
    rw [List.length_cons, Nat.add_mul, Nat.one_mul] at hl
    refine ⟨env', h1, ?_⟩
    simp only [wYes, if_true]
    refine h2 _ (lcI_enc e1 (g d) (b d) (qs d) acc h3 (by omega) ?_)
    refine lc2_dep e e1 qs g b N r _ (fun p hp => h p (List.mem_cons_of_mem _ hp)) ?_ ?_
    · have := List.length_filter_le (b d) (qs d)
      rw [List.length_append, List.length_map]; omega
    · rw [List.flatMap_cons] at p
      rw [List.append_assoc]; exact p
theorem shp_nats (L : List (List Nat)) : SeqAt.shaped (.list (L.map natD)) = true := by
  have h1 : PyData.canLayAll0 (L.map natD) = true := by
    induction L with
    | nil => rfl
    | cons x r ih => rw [List.map_cons, PyData.canLayAll0, ih, natD_box]; simp only [boxD, PyData.canLay0, lay_ints]; rfl
  have h2 : PyData.depthAll (L.map natD) ≤ 1 := by
    clear h1
    induction L with
    | nil => simp [PyData.depthAll]
    | cons x r ih => rw [List.map_cons, PyData.depthAll, natD_box, depth_box]; omega
  have h3 : (PyData.list (L.map natD)).canLay0 = true := h1
  have h4 : (PyData.list (L.map natD)).depth ≤ 2 := by simp only [PyData.depth]; omega
  simp only [SeqAt.shaped, h3, Bool.true_and, decide_eq_true_eq]; omega
theorem ne_nats (L : List (List Nat)) : neD (.list (L.map natD)) (.list []) = some (.bool (decide (L ≠ []))) := by
  unfold neD
  rw [if_pos ⟨shp_nats L, by decide⟩]
  cases L with
  | nil => rfl
  | cons p r => rfl
theorem sorted_forms {L : List (List Nat)} (h : ∀ f ∈ L, f ≠ []) (hz : L.length ≤ 4096) : sortedD [.list (L.map natD)] = some (.list ((srtL L).map natD)) := by
  show (if sortOk (L.map natD) = true then some (PyData.list (sortD (L.map natD))) else none) = _
  rw [if_pos, sortD_nat]
  have h1 : alikeB (L.map natD) = true := by
    simp only [alikeB, List.all_map, List.all_eq_true, Function.comp]
    exact fun a _ b _ => alike_nat a b
  have h2 : (L.map natD).all tup1 = true := by
    rw [List.all_map, List.all_eq_true]
    intro f hf
    have := h f hf
    cases f with
    | nil => exact absurd rfl this
    | cons _ _ => rfl
  have h3 : PyData.canLayAll0 (L.map natD) = true := by
    clear h hz h1 h2
    induction L with
    | nil => rfl
    | cons x r ih => rw [List.map_cons, PyData.canLayAll0, ih, natD_box]; simp only [boxD, PyData.canLay0, lay_ints]; rfl
  have h4 : (L.map natD).all (fun d => decide (d.depth ≤ 50)) = true := by
    rw [List.all_map, List.all_eq_true]
    intro l _
    simp only [Function.comp, natD_box, depth_box]; decide
  simp only [sortOk, h1, h2, h3, h4, Bool.true_or, Bool.and_true, Bool.true_and, List.length_map, decide_eq_true_eq, sizeLine_eq]
  omega
def spx_forms : DL.SpecX := fun as Q E => ∃ d1, as = [.fz d1] ∧ (bad1 d1 E ∨ ∃ (n : Nat) (ps : List Pr), d1 = ordD n ps ∧ Ord n ps ∧ ∀ kss, IsAb ps n kss → Q (.tuple ((srtL (fnd kss n n)).map natD)))
theorem lenx_forms : ∀ as Q E, spx_forms as Q E → as.length = 1 := by rintro as Q E ⟨d1, rfl, _⟩; rfl
def fo_t : WT := (wTest (w2 neD (wName 3) (wLst wNil)))
def fo_b : WS := (wSeq (wSet .fz 2 (w2 addD (wName 2) (wName 3)))
    (wSet .fz 3 (wLc2 (wSrc (wName 3)) (gN 5) wYes (wKSrc (wIx (wName 1) (wIx (wName 5) (w1 negD (wC (.fz (.int 1))))))) (gN 4) wYes (wTup (wStar (wName 5) (wCons (wName 4) wNil))) [5, 4] [4])))
def wsx_forms (Ex : EX) : WS := (wSeq (wAsgT (wTup (wCons (wCall sp_above_of (wCons (wCallX spx_need_order Ex (wCons (wName 0) wNil)) wNil)) (wCons (wLst wNil) wNil))) (gTup' 2 (gCons' (gN 1) (gCons' (gN 2) gNil'))))
    (wSeq (wSet .fz 3 (wLc (wRng rng1 (wCons (wIx (wName 0) (wC (.fz (.int 0)))) wNil)) (gN 4) wYes (wTup (wCons (wName 4) wNil)) [4]))
    (wSeq (wWhile (wTest (w2 neD (wName 3) (wLst wNil))) (wSeq (wSet .fz 2 (w2 addD (wName 2) (wName 3)))
    (wSet .fz 3 (wLc2 (wSrc (wName 3)) (gN 5) wYes (wKSrc (wIx (wName 1) (wIx (wName 5) (w1 negD (wC (.fz (.int 1))))))) (gN 4) wYes (wTup (wStar (wName 5) (wCons (wName 4) wNil))) [5, 4] [4]))))
    (wRet (wB tupleD (wCons (wB sortedD (wCons (wName 2) wNil)) wNil))))))
theorem addLn {a b : List D} (h : a.length + b.length ≤ 100000) : addD (.list a) (.list b) = some (.list (a ++ b)) := by
  show (if a.length + b.length ≤ sizeLine then some (PyData.list (a ++ b)) else none) = _
  rw [if_pos (by rw [sizeLine_eq]; omega)]
theorem ix_last {f : List Nat} {k : Nat} (h : f.length = k + 1) : ixD (natD f) (.int (-1)) = some (.int ((f.getLastD 0 : Nat) : Int)) := by
  have hne : f ≠ [] := fun z => by rw [z] at h; cases h
  show L2.atI (f.map fun (k : Nat) => PyData.int (k : Int)) (-1) = _
  unfold L2.atI
  have e : L2.ixN (f.map fun (k : Nat) => PyData.int (k : Int)).length (-1) = some k := by
    rw [List.length_map, h]
    unfold L2.ixN
    rw [if_neg (by omega), if_pos (by omega)]
    congr 1; omega
  rw [e]
  show (f.map fun (k : Nat) => PyData.int (k : Int))[k]? = _
  rw [List.getElem?_map, List.getLastD_eq_getLast?, List.getLast?_eq_getElem?, h]
  have hk : k < f.length := by omega
  rw [show k + 1 - 1 = k by omega, List.getElem?_eq_getElem hk]; rfl
section
variable {ps : List Pr} {n : Nat} {kss : List (List Int)} {De : DEnds}
theorem forms_loop (o : Ord n ps) (hk : IsAb ps n kss) (fin : ∀ s4 s5, De.nx [.fz (ordD n ps), .fz (abD kss), .fz (.list ((fnd kss n n).map natD)), .fz (.list []), s4, s5]) :
    ∀ (r k : Nat) (s4 s5 : Sl), k + r = n → wWh fo_t fo_b (r + 1) [.fz (ordD n ps), .fz (abD kss), .fz (.list ((fnd kss n k).map natD)), .fz (.list ((lay kss n k).map natD)), s4, s5] De := by
  have hn := o.hi
  have p12 := pow12 hn
  intro r
  induction r with
  | zero =>
    intro k s4 s5 e
    obtain rfl : k = n := by omega
    have z := lay_end hk o.pr o.no
    refine ⟨_, rfl, [], rfl, Nat.zero_le _, _, ne_nats _, _, rfl, ?_⟩
    rw [z]
    exact ifF rfl (fin s4 s5)
  | succ r ih =>
    intro k s4 s5 e
    have fl := fnd_len hk o.pr o.no k
    have ll := lay_len hk o.pr o.no k
    refine ⟨_, rfl, [], rfl, Nat.zero_le _, _, ne_nats _, _, rfl, ?_⟩
    by_cases z : lay kss n k = []
    · rw [z]
      refine ifF rfl ?_
      have f0 := fnd_stop z (r + 1)
      rw [show k + (r + 1) = n by omega] at f0
      rw [← f0]
      exact fin s4 s5
    · refine ifT (by simpa using z) ?_
      refine ⟨_, rfl, _, rfl, _, addLn (by rw [List.length_map, List.length_map]; omega), _, rfl, ?_⟩
      refine ⟨_, rfl, (lay kss n k).map natD, rfl, ?_⟩
      refine lc2_dep natD (fun j : Int => .int j) (fun f => kss.getD (f.getLastD 0) []) (fun f j => natD (f ++ [j.toNat])) (fun _ _ => true) 12 (lay kss n k) [] (fun f hf => ?_) (by rw [sizeLine_eq]; simp; omega) ?_
      · obtain ⟨f1, f2⟩ := (lay_mem hk o.pr k f).mp hf
        have lt := f2.lt _ (last_mem f1)
        have f3 := f2.len o.no
        refine ⟨?_, _, rfl, fun R rr => ?_, fun j hj => ⟨_, rfl, fun R rr => rr, fun _ R rr => ?_⟩⟩
        · have := nodup_len (kss.getD (f.getLastD 0) []) ((List.range n).map fun (k : Nat) => (k : Int)) (ab_nd hk lt) fun x hx => by
            have rg := ((ab_at hk lt).mp hx).rng o.pr
            exact List.mem_map.mpr ⟨x.toNat, List.mem_range.mpr (by omega), by omega⟩
          rw [List.length_map, List.length_range] at this; omega
        · refine ⟨_, rfl, _, rfl, .int (-1), rfl, _, ix_last f1, .dict (esD (kss.getD (f.getLastD 0) [])), ix_ab (by rw [hk.1]; exact lt), esD (kss.getD (f.getLastD 0) []), rfl, fun p hp => ?_, ?_⟩
          · obtain ⟨j, _, rfl⟩ := List.mem_map.mp hp; rfl
          · have : (esD (kss.getD (f.getLastD 0) [])).map (·.1) = (kss.getD (f.getLastD 0) []).map fun j : Int => PyData.int j := by unfold esD; rw [List.map_map]; rfl
            rw [this]; exact rr
        · have rg := ((ab_at hk lt).mp hj).rng o.pr
          have ej : (j : Int) = ((j.toNat : Nat) : Int) := (Int.toNat_of_nonneg rg.2.1).symm
          refine ⟨_, rfl, f.map (fun (k : Nat) => .int (k : Int)), rfl, _, rfl, _, ?_, ?_, rr⟩
          · show keptL _ = some ((f ++ [j.toNat]).map fun (k : Nat) => .int (k : Int))
            rw [← natD_snoc, ← ej]
          · rw [List.length_map, List.length_append, sizeLine_eq]; simp; omega
      · have e0 : [] ++ ((lay kss n k).flatMap fun p => ((kss.getD (p.getLastD 0) []).filter ((fun _ _ => true) p)).map ((fun f j => natD (f ++ [j.toNat])) p)) = (lay kss n (k + 1)).map natD := by
          rw [List.nil_append, lay, List.map_flatMap]
          congr 1; funext f
          rw [List.filter_eq_self.mpr (fun _ _ => rfl), List.map_map]; rfl
        rw [e0]
        have ih' := ih (k + 1) s4 s5 (by omega)
        rw [fnd, List.map_append] at ih'
        exact ⟨_, rfl, ih'⟩
end
theorem okx_ws_forms : ∀ as Q E, spx_forms as Q E → wsx_forms (fun _ x => E x) (env0 6 as) (endsOf Q) := by
  rintro as Q E ⟨d1, rfl, b | ⟨n, ps, rfl, o, q⟩⟩
  · exact ⟨_, rfl, no_bad b⟩
  · have hn := o.hi
    refine ⟨_, rfl, no_good o ⟨n, ps, rfl, by omega, o.sm, fun kss hk => ⟨[], rfl, Nat.zero_le _, _, rfl, (show 2 ≤ sizeLine by decide), _, _, rfl, rfl, ?_⟩⟩⟩
    refine ⟨_, rfl, .int n, ix_o0 _ _, _, rngV (n := n) (by omega), ?_⟩
    refine lc_enc (fun i : Nat => .int (i : Nat)) (fun k => natD [k]) _ (fun k hk0 => ⟨_, rfl, fun R r => ⟨_, rfl, _, rfl, (show 1 ≤ sizeLine by decide), r⟩⟩) (by rw [List.length_range']; exact small_sz (by omega)) ?_
    refine ⟨_, rfl, ?_⟩
    refine ⟨n + 1, ?_⟩
    have := forms_loop (De := { nx := fun e => (wRet (wB tupleD (wCons (wB sortedD (wCons (wName 2) wNil)) wNil))) e (endsOf Q), rt := (endsOf Q).rt, bk := (endsOf Q).bk, ct := (endsOf Q).ct }) o hk (fun s4 s5 => ?_) n 0 .no .no (by omega)
    · have e : (lay kss n 0).map natD = (List.range' 0 n).map fun k => natD [k] := by rw [lay, List.map_map]; rfl
      rw [e] at this
      exact this
    · refine ⟨_, rfl, _, sorted_forms (fun f hf => ((fnd_mem hk o.pr n f).mp hf).1) (by have := fnd_len hk o.pr o.no n; have := pow12 hn; omega), _, rfl, _, rfl, q kss hk⟩
end PFT
namespace PFT
open PySem DL PF PFO
/-! ### how tall the kinds of a lot are -/
def addU (ks : List Int) (j : Int) : List Int := if j ∈ ks then ks else ks ++ [j]
theorem dput_addU (ks : List Int) (j : Int) : dput (esD ks) (.int j) (.bool true) = esD (addU ks j) := by
  unfold addU
  by_cases h : j ∈ ks
  · rw [if_pos h]
    unfold dput
    have : ((esD ks).any fun p => p.1.eqv (.int j)) = true := by
      rw [List.any_eq_true]
      exact ⟨(.int j, .bool true), List.mem_map.mpr ⟨j, h, rfl⟩, by rw [eqv_int]; simp⟩
    rw [if_pos this]
    unfold esD
    rw [List.map_map]
    refine List.map_congr_left fun x _ => ?_
    simp only [Function.comp]
    split <;> rfl
  · rw [if_neg h, dput_esD h]
theorem mem_addU {ks : List Int} {j x : Int} : x ∈ addU ks j ↔ x ∈ ks ∨ x = j := by
  unfold addU
  by_cases h : j ∈ ks
  · rw [if_pos h]
    exact ⟨.inl, fun z => z.elim id fun e => e ▸ h⟩
  · rw [if_neg h, List.mem_append, List.mem_singleton]
theorem len_addU (ks : List Int) (j : Int) : (addU ks j).length ≤ ks.length + 1 := by
  unfold addU
  by_cases h : j ∈ ks
  · rw [if_pos h]; omega
  · rw [if_neg h, List.length_append]; simp
theorem mem_foldU {x : Int} : ∀ (xs ks : List Int), x ∈ xs.foldl addU ks ↔ x ∈ ks ∨ x ∈ xs
  | [], ks => by simp
  | j :: r, ks => by
    rw [List.foldl_cons, mem_foldU r, mem_addU, List.mem_cons, or_assoc]
theorem len_foldU : ∀ (xs ks : List Int), (xs.foldl addU ks).length ≤ ks.length + xs.length
  | [], ks => by simp
  | j :: r, ks => by
    have := len_foldU r (addU ks j)
    have := len_addU ks j
    rw [List.foldl_cons, List.length_cons]; omega
theorem dcI_enc {α : Type} {gd : GD} {wt : WT} {wk wv : WE} {env : Ev} {P : List (D × D) → Prop} (c : α → D) (key : α → Int) (b : α → Bool) : ∀ (xs : List α) (ks : List Int),
    (∀ x ∈ xs, ∃ env', gd (c x) env = some env' ∧ (∀ R : Bool → Prop, R (b x) → wt env' R) ∧ (b x = true → (∀ R : Dv → Prop, R (.fz (.int (key x))) → wk env' R) ∧ ∀ R : Dv → Prop, R (.fz (.bool true)) → wv env' R)) →
    ks.length + xs.length ≤ sizeLine → P (esD (((xs.filter b).map key).foldl addU ks)) → wDcI gd wt wk wv env P (xs.map c) (esD ks)
  | [], ks, _, _, p => p
  | x :: r, ks, h, hl, p => by
    obtain ⟨env', h1, h2, h3⟩ := h x (List.mem_cons_self ..)
    rw [List.length_cons] at hl
    refine ⟨env', h1, h2 _ ?_⟩
    cases hb : b x with
    | true =>
      obtain ⟨k1, k2⟩ := h3 hb
      have le : (esD ks).length = ks.length := by unfold esD; rw [List.length_map]
      refine ifT rfl (k1 _ (k2 _ ⟨.inl (key x), .int (key x), .bool true, rfl, rfl, rfl, by rw [le]; omega, ?_⟩))
      rw [dput_addU]
      rw [List.filter_cons_of_pos hb, List.map_cons, List.foldl_cons] at p
      exact dcI_enc c key b r _ (fun y hy => h y (List.mem_cons_of_mem _ hy)) (by have := len_addU ks (key x); omega) p
    | false =>
      rw [List.filter_cons_of_neg (by rw [hb]; decide)] at p
      exact ifF rfl (dcI_enc c key b r _ (fun y hy => h y (List.mem_cons_of_mem _ hy)) (by omega) p)
theorem dc2_enc {α β : Type} {gd gd1 : GD} {wi1 : WI} {wt1 : WT} {wk wv : WE} {vs1 : List Nat} {env : Ev} {P : Dv → Prop} (c : α → D) (c1 : β → D) (qs : α → List β) (key : α → β → Int) (b : α → β → Bool) (N : Nat) : ∀ (xs : List α) (ks : List Int),
    (∀ x ∈ xs, (qs x).length ≤ N ∧ ∃ env', gd (c x) env = some env' ∧ (∀ R : List D → Prop, R ((qs x).map c1) → wi1 env' R) ∧ ∀ q ∈ qs x, ∃ env2, gd1 (c1 q) (wipeE env' vs1) = some env2 ∧ (∀ R : Bool → Prop, R (b x q) → wt1 env2 R) ∧ (b x q = true → (∀ R : Dv → Prop, R (.fz (.int (key x q))) → wk env2 R) ∧ ∀ R : Dv → Prop, R (.fz (.bool true)) → wv env2 R)) →
    ks.length + xs.length * N ≤ sizeLine → P (.nw (.dict (esD ((xs.flatMap fun x => ((qs x).filter (b x)).map (key x)).foldl addU ks)))) → wDc2L gd wYes wi1 gd1 wt1 wk wv vs1 env P (xs.map c) (esD ks)
  | [], ks, _, _, p => p
  | x :: r, ks, h, hl, p => by
    obtain ⟨hN, env', h1, h2, h3⟩ := h x (List.mem_cons_self ..)
    rw [List.length_cons, Nat.add_mul, Nat.one_mul] at hl
    refine ⟨env', h1, ?_⟩
    simp only [wYes, if_true]
    refine h2 _ (dcI_enc c1 (key x) (b x) (qs x) ks h3 (by omega) ?_)
    refine dc2_enc c c1 qs key b N r _ (fun y hy => h y (List.mem_cons_of_mem _ hy)) ?_ ?_
    · have l1 := len_foldU (((qs x).filter (b x)).map (key x)) ks
      have l2 := List.length_filter_le (b x) (qs x)
      rw [List.length_map] at l1
      omega
    · rw [List.flatMap_cons, List.foldl_append] at p
      exact p
/-- forms of the kinds of a lot -/
structure FrmIn (ps : List Pr) (l f : List Nat) : Prop where
  ch : f.Pairwise fun a b : Nat => Rch ps (a : Int) (b : Int)
  sub : ∀ k ∈ f, k ∈ l
structure IsTall (ps : List Pr) (l : List Nat) (t : Nat) : Prop where
  ex : ∃ f, FrmIn ps l f ∧ f.length = t
  le : ∀ f, FrmIn ps l f → f.length ≤ t
theorem IsTall.one {ps : List Pr} {l : List Nat} {t u : Nat} (a : IsTall ps l t) (b : IsTall ps l u) : t = u := by
  obtain ⟨f, h1, h2⟩ := a.ex
  obtain ⟨g, h3, h4⟩ := b.ex
  have := a.le g h3
  have := b.le f h1
  omega
def sp_tall_by : DL.Spec := fun as Q => ∃ (n : Nat) (ps : List Pr) (kss : List (List Int)) (l : List Nat), as = [.fz (abD kss), .fz (natD l)] ∧ Ord n ps ∧ IsAb ps n kss ∧ Lot n l ∧ ∀ t, IsTall ps l t → Q (.int (t : Nat))
theorem len_tall_by : ∀ as Q, sp_tall_by as Q → as.length = 2 := by rintro as Q ⟨n, ps, kss, l, rfl, _⟩; rfl
def ta_t : WT := (wTest (w2 neE (wName 3) (wC (.nw (.dict [])))))
def ta_b : WS := (wSeq (wAug addI 2 (wC (.fz (.int 1))))
    (wFrz 3 (wSet .own 3 (wDc2 (wKSrc (wName 3)) (gN 4) wYes (wKSrc (wIx (wName 0) (wName 4))) (gN 5) (wTest (w2 inV' (wName 5) (wName 1))) (wName 5) (wC (.fz (.bool true))) [4, 5] [5]))))
def ws_tall_by : WS := (wSeq (wPar2 .fz 2 .own 3 (wC (.fz (.int 0))) (wDc (wSrc (wName 1)) (gN 4) wYes (wName 4) (wC (.fz (.bool true))) [4]))
    (wSeq (wWhile (wTest (w2 neE (wName 3) (wC (.nw (.dict []))))) (wSeq (wAug addI 2 (wC (.fz (.int 1))))
    (wFrz 3 (wSet .own 3 (wDc2 (wKSrc (wName 3)) (gN 4) wYes (wKSrc (wIx (wName 0) (wName 4))) (gN 5) (wTest (w2 inV' (wName 5) (wName 1))) (wName 5) (wC (.fz (.bool true))) [4, 5] [5])))))
    (wRet (wName 2))))
/-- where forms of m + 1 kinds of the lot end -/
structure EndsAt (ps : List Pr) (l : List Nat) (m : Nat) (ks : List Int) : Prop where
  iff : ∀ j : Int, j ∈ ks ↔ ∃ (f : List Nat) (x : Nat), FrmIn ps l (f ++ [x]) ∧ f.length = m ∧ j = (x : Int)
  sz : ks.length ≤ 200
theorem neE_esD (ks : List Int) : neE (.dict (esD ks)) (.dict []) = some (.bool (!ks.isEmpty)) := by
  have h : ((esD ks).all fun p => !isT p.1) = true := by
    unfold esD
    rw [List.all_map, List.all_eq_true]
    exact fun _ _ => rfl
  show (if ((esD ks).all fun p => !isT p.1) = true then some (PyData.bool (!(esD ks).isEmpty)) else none) = _
  rw [if_pos h]
  cases ks <;> rfl
theorem in_nat {j : Int} {l : List Nat} : inV' (.int j) (natD l) = some (.bool (decide (j ∈ l.map fun (k : Nat) => (k : Int)))) := by
  have s2 : SeqAt.shaped (natD l) = true := by
    rw [natD_box]
    simp only [SeqAt.shaped, boxD, PyData.canLay0, lay_ints, PyData.depth, PySem.W.depth_ints]; decide
  have s1 : SeqAt.shaped (.int j) = true := by simp [SeqAt.shaped, PyData.canLay0, PyData.depth]
  show ((if SeqAt.shaped (.int j) = true ∧ SeqAt.shaped (natD l) = true then some ((l.map fun (k : Nat) => PyData.int (k : Int)).any fun z => z.eqv (.int j)) else none).map fun k => PyData.bool k) = _
  rw [if_pos ⟨s1, s2⟩]
  simp only [Option.map_some]
  congr 2
  rw [Bool.eq_iff_iff]
  simp only [List.any_map, List.any_eq_true, Function.comp, eqv_int, decide_eq_true_eq, List.mem_map]
theorem keys_esD (ks : List Int) : (esD ks).map (·.1) = ks.map fun j : Int => PyData.int j := by unfold esD; rw [List.map_map]; rfl
theorem noT_esD (ks : List Int) : ∀ p ∈ esD ks, isT p.1 = false := fun p hp => by
  obtain ⟨j, _, rfl⟩ := List.mem_map.mp hp; rfl
section
variable {ps : List Pr} {n : Nat} {kss : List (List Int)} {l : List Nat} {De : DEnds}
theorem row_len (o : Ord n ps) (hk : IsAb ps n kss) {i : Nat} (hi : i < n) : (kss.getD i []).length ≤ 12 := by
  have := nodup_len (kss.getD i []) ((List.range n).map fun (k : Nat) => (k : Int)) (ab_nd hk hi) fun x hx => by
    have rg := ((ab_at hk hi).mp hx).rng o.pr
    exact List.mem_map.mpr ⟨x.toNat, List.mem_range.mpr (by omega), by omega⟩
  have := o.hi
  rw [List.length_map, List.length_range] at *; omega
theorem FrmIn.len (o : Ord n ps) (hl : Lot n l) {f : List Nat} (h : FrmIn ps l f) : f.length ≤ n := Frm.len o.no ⟨h.ch, fun k hk => hl.lt k (h.sub k hk)⟩
theorem ends_next (o : Ord n ps) (hk : IsAb ps n kss) (hl : Lot n l) {m : Nat} {ks : List Int} (h : EndsAt ps l m ks) :
    EndsAt ps l (m + 1) ((ks.flatMap fun k => ((kss.getD k.toNat []).filter fun j => decide (j ∈ l.map fun (k : Nat) => (k : Int))).map fun j => j).foldl addU []) := by
  have key : ∀ j : Int, j ∈ (ks.flatMap fun k => ((kss.getD k.toNat []).filter fun j => decide (j ∈ l.map fun (k : Nat) => (k : Int))).map fun j => j).foldl addU [] ↔ ∃ (f : List Nat) (x : Nat), FrmIn ps l (f ++ [x]) ∧ f.length = m + 1 ∧ j = (x : Int) := by
    intro j
    rw [mem_foldU, List.mem_flatMap]
    constructor
    · rintro (z | ⟨k, hkk, hj⟩)
      · cases z
      · obtain ⟨f, x, hf, fl, rfl⟩ := (h.iff k).mp hkk
        rw [List.map_id', List.mem_filter, decide_eq_true_eq, Int.toNat_natCast] at hj
        have xl := hf.sub x (by simp)
        obtain ⟨y, hy, e⟩ := List.mem_map.mp hj.2
        have r := (ab_at hk (hl.lt x xl)).mp hj.1
        refine ⟨f ++ [x], y, ⟨List.pairwise_append.mpr ⟨hf.ch, by simp, fun a ha b hb => ?_⟩, fun q hq => ?_⟩, by rw [List.length_append, fl]; rfl, e.symm⟩
        · obtain rfl : b = y := by simpa using hb
          rw [← e] at r
          rcases List.mem_append.mp ha with q | q
          · exact ((List.pairwise_append.mp hf.ch).2.2 a q x (by simp)).trans r
          · obtain rfl : a = x := by simpa using q
            exact r
        · rcases List.mem_append.mp hq with z | z
          · exact hf.sub q z
          · obtain rfl : q = y := by simpa using z
            exact hy
    · rintro ⟨f, x, hf, fl, rfl⟩
      refine .inr ?_
      have hne : f ≠ [] := fun z => by rw [z] at fl; cases fl
      have ef := List.dropLast_concat_getLast hne
      generalize f.getLast hne = y at ef
      have c := hf.ch
      rw [← ef] at c
      have c' := List.pairwise_append.mp c
      have yf : y ∈ f := by rw [← ef]; simp
      refine ⟨(y : Int), (h.iff _).mpr ⟨f.dropLast, y, ⟨c'.1, fun k hk => hf.sub k ?_⟩, by rw [List.length_dropLast]; omega, rfl⟩, ?_⟩
      · rw [ef] at hk; exact List.mem_append_left _ hk
      · rw [List.map_id', List.mem_filter, decide_eq_true_eq, Int.toNat_natCast]
        refine ⟨(ab_at hk (hl.lt y (hf.sub y (List.mem_append_left _ yf)))).mpr (c'.2.2 y (by simp) x (by simp)), List.mem_map.mpr ⟨x, hf.sub x (by simp), rfl⟩⟩
  refine ⟨key, ?_⟩
  have l1 := len_foldU (ks.flatMap fun k => ((kss.getD k.toNat []).filter fun j => decide (j ∈ l.map fun (k : Nat) => (k : Int))).map fun j => j) []
  -- the keys have no repeats
  have nd : ∀ (xs ks : List Int), ks.Nodup → (xs.foldl addU ks).Nodup := by
    intro xs
    induction xs with
    | nil => exact fun ks h => h
    | cons x r ih =>
      intro ks h
      rw [List.foldl_cons]
      refine ih _ ?_
      unfold addU
      by_cases z : x ∈ ks
      · rw [if_pos z]; exact h
      · rw [if_neg z]
        exact List.nodup_append.mpr ⟨h, by simp, fun a ha b hb e => z (by have : b = x := by simpa using hb
                                                                          rw [← this, ← e]; exact ha)⟩
  have := nodup_len _ ((List.range n).map fun (k : Nat) => (k : Int)) (nd (ks.flatMap fun k => ((kss.getD k.toNat []).filter fun j => decide (j ∈ l.map fun (k : Nat) => (k : Int))).map fun j => j) [] List.nodup_nil) fun x hx => by
    obtain ⟨f, y, hf, _, rfl⟩ := (key x).mp hx
    exact List.mem_map.mpr ⟨y, List.mem_range.mpr (hl.lt y (hf.sub y (by simp))), rfl⟩
  have := o.hi
  rw [List.length_map, List.length_range] at *
  omega
theorem tall_loop (o : Ord n ps) (hk : IsAb ps n kss) (hl : Lot n l) (fin : ∀ t s3 s4 s5, IsTall ps l t → De.nx [.fz (abD kss), .fz (natD l), .fz (.int (t : Nat)), s3, s4, s5]) :
    ∀ (r m : Nat) (ks : List Int) (s4 s5 : Sl), m + r = n → EndsAt ps l m ks → (∃ f, FrmIn ps l f ∧ f.length = m) → wWh ta_t ta_b (r + 1) [.fz (abD kss), .fz (natD l), .fz (.int (m : Nat)), .own (.dict (esD ks)), s4, s5] De := by
  intro r
  have stop : ∀ (m : Nat) (ks : List Int) (s4 s5 : Sl), EndsAt ps l m ks → (∃ f, FrmIn ps l f ∧ f.length = m) → ks = [] → De.nx [.fz (abD kss), .fz (natD l), .fz (.int (m : Nat)), .own (.dict (esD ks)), s4, s5] := fun m ks s4 s5 he ex z => by
    refine fin m _ s4 s5 ⟨ex, fun f hf => ?_⟩
    rcases Nat.lt_or_ge m f.length with q | q
    · exfalso
      have sp : f.take (m + 1) = f.take m ++ [f[m]] := by rw [List.take_succ, List.getElem?_eq_getElem q]; rfl
      have : ((f[m] : Nat) : Int) ∈ ks := (he.iff _).mpr ⟨f.take m, f[m], ⟨by rw [← sp]; exact hf.ch.sublist (List.take_sublist ..), fun k hk => by rw [← sp] at hk; exact hf.sub k (List.take_subset _ _ hk)⟩, by rw [List.length_take]; omega, rfl⟩
      rw [z] at this; cases this
    · exact q
  induction r with
  | zero =>
    intro m ks s4 s5 e he ex
    obtain rfl : m = n := by omega
    have z : ks = [] := by
      rw [List.eq_nil_iff_forall_not_mem]
      intro j hj
      obtain ⟨f, x, hf, fl, _⟩ := (he.iff j).mp hj
      have := hf.len o hl
      rw [List.length_append, List.length_singleton] at this
      omega
    refine ⟨_, rfl, _, neE_esD ks, _, rfl, ifF (by rw [z]; rfl) (stop _ _ _ _ he ex z)⟩
  | succ r ih =>
    intro m ks s4 s5 e he ex
    refine ⟨_, rfl, _, neE_esD ks, _, rfl, ?_⟩
    by_cases z : ks = []
    · exact ifF (by rw [z]; rfl) (stop _ _ _ _ he ex z)
    · refine ifT (by cases ks with | nil => exact absurd rfl z | cons _ _ => rfl) ?_
      refine ⟨m, rfl, 1, rfl, ?_⟩
      refine ⟨.dict (esD ks), rfl, ?_⟩
      refine ⟨_, rfl, esD ks, rfl, noT_esD ks, ?_⟩
      rw [keys_esD]
      refine dc2_enc (fun j : Int => .int j) (fun j : Int => .int j) (fun k => kss.getD k.toNat []) (fun _ j => j) (fun _ j => decide (j ∈ l.map fun (k : Nat) => (k : Int))) 12 ks [] (fun k hkk => ?_) (by have := he.sz; rw [sizeLine_eq]; simp; omega) ?_
      · obtain ⟨f, x, hf, fl, rfl⟩ := (he.iff k).mp hkk
        have xl := hl.lt x (hf.sub x (by simp))
        rw [Int.toNat_natCast]
        refine ⟨row_len o hk xl, _, rfl, fun R rr => ⟨_, rfl, _, rfl, .dict (esD (kss.getD x [])), ix_ab (by rw [hk.1]; exact xl), esD (kss.getD x []), rfl, noT_esD _, by rw [keys_esD]; exact rr⟩, fun j hj => ⟨_, rfl, fun R rr => ⟨_, rfl, _, rfl, _, in_nat, _, rfl, rr⟩, fun _ => ⟨fun R rr => ⟨_, rfl, rr⟩, fun R rr => rr⟩⟩⟩
      · have ne := ends_next o hk hl he
        obtain ⟨j, hj⟩ := List.exists_mem_of_ne_nil ks z
        obtain ⟨f, x, hf, fl, _⟩ := (he.iff j).mp hj
        have := ih (m + 1) _ s4 s5 (by omega) ne ⟨f ++ [x], hf, by rw [List.length_append, fl]; rfl⟩
        exact ⟨_, rfl, this⟩
end
theorem ok_ws_tall_by : ∀ as Q, sp_tall_by as Q → ws_tall_by (env0 6 as) (endsOf Q) := by
  rintro as Q ⟨n, ps, kss, l, rfl, o, hk, hl, q⟩
  have hn := o.hi
  have ll := hl.len
  refine ⟨_, rfl, l.map (fun (k : Nat) => .int (k : Int)), rfl, ?_⟩
  refine dcI_enc (fun (k : Nat) => .int (k : Int)) (fun (k : Nat) => (k : Int)) (fun _ => true) l [] (fun x hx => ⟨_, rfl, fun R r => r, fun _ => ⟨fun R r => ⟨_, rfl, r⟩, fun R r => r⟩⟩) (by rw [sizeLine_eq]; simp; omega) ?_
  refine ⟨_, rfl, _, rfl, ?_⟩
  refine ⟨n + 1, ?_⟩
  refine tall_loop (De := { nx := fun e => (wRet (wName 2)) e (endsOf Q), rt := (endsOf Q).rt, bk := (endsOf Q).bk, ct := (endsOf Q).ct }) o hk hl (fun t s3 s4 s5 ht => ⟨_, rfl, _, rfl, q t ht⟩) n 0 _ .no .no (by omega) ⟨fun j => ?_, ?_⟩ ⟨[], ⟨List.Pairwise.nil, fun _ z => nomatch z⟩, rfl⟩
  · rw [mem_foldU, List.filter_eq_self.mpr (fun _ _ => rfl), List.mem_map]
    constructor
    · rintro (z | ⟨x, hx, rfl⟩)
      · cases z
      · exact ⟨[], x, ⟨by simp, fun k hk => List.mem_singleton.mp hk ▸ hx⟩, rfl, rfl⟩
    · rintro ⟨f, x, hf, fl, rfl⟩
      exact .inr ⟨x, hf.sub x (by simp), rfl⟩
  · have := len_foldU ((l.filter fun _ => true).map fun (k : Nat) => (k : Int)) []
    have := List.length_filter_le (fun _ : Nat => true) l
    rw [List.length_map] at *
    simp at *; omega
def spx_tall : DL.SpecX := fun as Q E => ∃ d1 d2, as = [.fz d1, .fz d2] ∧ (bad1 d1 E ∨ ∃ (n : Nat) (ps : List Pr), d1 = ordD n ps ∧ Ord n ps ∧ short d2 ∧ (isLot n d2 = false → oop E) ∧ ∀ l t, d2 = natD l → Lot n l → IsTall ps l t → Q (.int (t : Nat)))
theorem lenx_tall : ∀ as Q E, spx_tall as Q E → as.length = 2 := by rintro as Q E ⟨d1, d2, rfl, _⟩; rfl
def wsx_tall (Ex : EX) : WS := (wSeq (wDrop (wCallX spx_need_lot Ex (wCons (wName 0) (wCons (wName 1) wNil))))
    (wRet (wCall sp_tall_by (wCons (wCall sp_above_of (wCons (wName 0) wNil)) (wCons (wName 1) wNil)))))
theorem okx_ws_tall : ∀ as Q E, spx_tall as Q E → wsx_tall (fun _ x => E x) (env0 2 as) (endsOf Q) := by
  rintro as Q E ⟨d1, d2, rfl, b | ⟨n, ps, rfl, o, sh, e, q⟩⟩
  · exact ⟨_, rfl, _, rfl, d1, d2, rfl, .inl b⟩
  · refine ⟨_, rfl, _, rfl, _, d2, rfl, .inr ⟨n, ps, rfl, o, sh, fun h => ?_, e⟩⟩
    obtain ⟨l, rfl, hl⟩ := isLot_iff.mp h
    have hn := o.hi
    refine ⟨_, rfl, n, ps, rfl, by omega, o.sm, fun kss hk => ?_⟩
    exact ⟨_, rfl, n, ps, kss, l, rfl, o, hk, hl, fun t ht => ⟨_, rfl, q l t rfl hl ht⟩⟩
end PFT
/-! ### what the laws k01 - k13 share: drawn orders, the law's own rows -/
namespace G1
open PySem DL PF
def spNext (a : Addr) : DL.Spec := fun as Q => ∃ t : Int, as = [.raw (.ref a), .fz (.int t)] ∧ 0 < t ∧ t < 2 ^ 1000 ∧ ∀ r : Int, 0 ≤ r → r < t → Q (.int r)
theorem small1000 {t : Int} (h : t < 2 ^ 100) : t < 2 ^ 1000 := Int.lt_trans h (by decide +kernel)
def lnD (l : List Nat) : D := .list (l.map fun (k : Nat) => .int (k : Int))
theorem ix_ln {l : List Nat} {k : Nat} (h : k < l.length) : ixD (lnD l) (.int (k : Nat)) = some (.int ((l.getD k 0 : Nat) : Int)) := by
  refine L2.atI_nat ?_
  rw [List.getElem?_map, List.getD_eq_getElem?_getD, List.getElem?_eq_getElem h]; rfl
/-- the pairs so far -/
structure PrsAt (row : List Nat) (k j : Nat) (ps : List Pr) : Prop where
  al : ∀ p ∈ ps, ∃ a b : Nat, a < b ∧ b < row.length ∧ p = (((row.getD a 0 : Nat) : Int), ((row.getD b 0 : Nat) : Int)) ∧ (a < k ∨ (a = k ∧ b < j))
  nd : ps.Nodup
  sm : ps.length ≤ k * 12 + j
theorem PrsAt.skip {row : List Nat} {k j : Nat} {ps : List Pr} (h : PrsAt row k j ps) : PrsAt row k (j + 1) ps := by
  refine ⟨fun p hp => ?_, h.nd, by have := h.sm; omega⟩
  obtain ⟨a, b, h1, h2, h3, h4⟩ := h.al p hp
  exact ⟨a, b, h1, h2, h3, by omega⟩
theorem PrsAt.new {row : List Nat} {k j : Nat} {ps : List Pr} (h : PrsAt row k j ps) (hr : row.Nodup) (hkj : k < j) (hj : j < row.length) : (((row.getD k 0 : Nat) : Int), ((row.getD j 0 : Nat) : Int)) ∉ ps := fun hx => by
  obtain ⟨a, b, h1, h2, h3, h4⟩ := h.al _ hx
  have e1 : ((row.getD k 0 : Nat) : Int) = ((row.getD a 0 : Nat) : Int) := congrArg Prod.fst h3
  have e2 : ((row.getD j 0 : Nat) : Int) = ((row.getD b 0 : Nat) : Int) := congrArg Prod.snd h3
  have ea := nd_get hr (a := k) (b := a) (by omega) (by omega) (by omega)
  have eb := nd_get hr (a := j) (b := b) hj h2 (by omega)
  omega
theorem PrsAt.add {row : List Nat} {k j : Nat} {ps : List Pr} (h : PrsAt row k j ps) (hr : row.Nodup) (hkj : k < j) (hj : j < row.length) : PrsAt row k (j + 1) (ps ++ [(((row.getD k 0 : Nat) : Int), ((row.getD j 0 : Nat) : Int))]) := by
  refine ⟨fun p hp => ?_, ?_, by have := h.sm; rw [List.length_append]; simp; omega⟩
  · rcases List.mem_append.mp hp with hp | hp
    · obtain ⟨a, b, h1, h2, h3, h4⟩ := h.al p hp
      exact ⟨a, b, h1, h2, h3, by omega⟩
    · obtain rfl : p = _ := by simpa using hp
      exact ⟨k, j, hkj, hj, rfl, by omega⟩
  · rw [List.nodup_append]
    refine ⟨h.nd, by simp, fun x hx y hy z => ?_⟩
    obtain rfl : y = _ := by simpa using hy
    subst z
    exact h.new hr hkj hj hx
theorem PrsAt.next {row : List Nat} {k : Nat} {ps : List Pr} (h : PrsAt row k row.length ps) (h12 : row.length ≤ 12) : PrsAt row (k + 1) (k + 2) ps := by
  refine ⟨fun p hp => ?_, h.nd, by have := h.sm; omega⟩
  obtain ⟨a, b, h1, h2, h3, h4⟩ := h.al p hp
  exact ⟨a, b, h1, h2, h3, by omega⟩
/-! dicts whose keys are pairs -/
def esP (ps : List Pr) : List (D × D) := ps.map fun p => (prD p, .bool true)
theorem dlook_esP (ps : List Pr) (p : Pr) : dlook (esP ps) (prD p) = if p ∈ ps then some (.bool true) else none := by
  unfold dlook esP
  induction ps with
  | nil => rfl
  | cons q r ih =>
    rw [List.map_cons, List.find?_cons]
    simp only [eqv_pr]
    by_cases h : q = p
    · simp [h]
    · have h' : ¬ p = q := fun z => h z.symm
      simp only [h, decide_false]
      rw [ih]
      simp [h']
theorem put_esP (ps : List Pr) (p : Pr) : putOk (esP ps) (prD p) = true := by
  have e : dfind (esP ps) (prD p) = some (dlook (esP ps) (prD p)) := by
    have h : ((esP ps).all fun p => isT p.1) = true := by
      unfold esP
      rw [List.all_map, List.all_eq_true]
      exact fun _ _ => rfl
    show (keysD? [.int p.1, .int p.2]).bind (fun _ => if ((esP ps).all fun p => isT p.1) = true then some (dlook (esP ps) (prD p)) else none) = _
    rw [if_pos h]; rfl
  unfold putOk
  rw [e]; rfl
theorem dput_esP {ps : List Pr} {p : Pr} (h : p ∉ ps) : dput (esP ps) (prD p) (.bool true) = esP (ps ++ [p]) := by
  unfold dput
  rw [if_neg]
  · unfold esP; rw [List.map_append]; rfl
  · unfold esP
    rw [List.any_map, List.any_eq_true]
    rintro ⟨q, hq, e⟩
    simp only [Function.comp, eqv_pr, decide_eq_true_eq] at e
    exact h (e ▸ hq)
/-! ### a drawn order -/
def sp__law_order (a : Addr) : DL.Spec := fun as Q => ∃ m : Nat, as = [.raw (.ref a), .fz (.int (m : Nat))] ∧ 1 ≤ m ∧ m ≤ 12 ∧ ∀ n ps, Ord n ps → n ≤ m → Q (ordD n ps)
theorem len__law_order (a : Addr) : ∀ as Q, sp__law_order a as Q → as.length = 2 := by rintro as Q ⟨m, rfl, _⟩; rfl
def or_pop (a : Addr) : WS := (wAppPop 4 3 (wCall (spNext a) (wCons (wName 0) (wCons (wB lenD (wCons (wName 3) wNil)) wNil))))
def or_t : WT := (wTest (w2 neD (wName 3) (wLst wNil)))
def or_in (a : Addr) : WS := (wIfS (wTest (w2 ltD (wCall (spNext a) (wCons (wName 0) (wCons (wC (.fz (.int 5))) wNil))) (wName 6))) (wPut 5 (wTup (wCons (wIx (wName 4) (wName 7)) (wCons (wIx (wName 4) (wName 8)) wNil))) (wC (.fz (.bool true)))) wNext)
def or_rest (a : Addr) : WS := (wSeq (wSet .fz 6 (w2 addD (wC (.fz (.int 1))) (wCall (spNext a) (wCons (wName 0) (wCons (wC (.fz (.int 4))) wNil)))))
    (wSeq (wForI (wRng rng1 (wCons (wName 2) wNil)) (gN 7) (wForI (wRng rng2 (wCons (w2 addD (wName 7) (wC (.fz (.int 1)))) (wCons (wName 2) wNil))) (gN 8) (or_in a)))
    (wRet (wTup (wCons (wName 2) (wCons (wB tupleD (wCons (wB sortedD (wCons (wKeys (wName 5)) wNil)) wNil)) wNil))))))
def ws__law_order (a : Addr) : WS := (wSeq (wSet .fz 2 (w2 addD (wC (.fz (.int 1))) (wCall (spNext a) (wCons (wName 0) (wCons (wName 1) wNil)))))
    (wSeq (wPar3O 3 4 5 (wLrng rng1 (wCons (wName 2) wNil)) (wLst wNil) (wC (.nw (.dict []))))
    (wSeq (wWhileE (wTest (w2 neD (wName 3) (wLst wNil))) (wAppPop 4 3 (wCall (spNext a) (wCons (wName 0) (wCons (wB lenD (wCons (wName 3) wNil)) wNil)))))
    (wSeq (wSet .fz 6 (w2 addD (wC (.fz (.int 1))) (wCall (spNext a) (wCons (wName 0) (wCons (wC (.fz (.int 4))) wNil)))))
    (wSeq (wForI (wRng rng1 (wCons (wName 2) wNil)) (gN 7) (wForI (wRng rng2 (wCons (w2 addD (wName 7) (wC (.fz (.int 1)))) (wCons (wName 2) wNil))) (gN 8) (wIfS (wTest (w2 ltD (wCall (spNext a) (wCons (wName 0) (wCons (wC (.fz (.int 5))) wNil))) (wName 6))) (wPut 5 (wTup (wCons (wIx (wName 4) (wName 7)) (wCons (wIx (wName 4) (wName 8)) wNil))) (wC (.fz (.bool true)))) wNext)))
    (wRet (wTup (wCons (wName 2) (wCons (wB tupleD (wCons (wB sortedD (wCons (wKeys (wName 5)) wNil)) wNil)) wNil)))))))))
theorem ne_lnD (l : List Nat) : neD (lnD l) (.list []) = some (.bool (decide (l ≠ []))) := by
  have := ne_ints (l.map fun (k : Nat) => (k : Int))
  rw [List.map_map] at this
  have e : decide (l.map (fun (k : Nat) => (k : Int)) ≠ []) = decide (l ≠ []) := by
    rw [decide_eq_decide]; simp
  rw [e] at this
  exact this
theorem erase_map {α β : Type} (f : α → β) : ∀ (l : List α) (k : Nat), (l.map f).eraseIdx k = (l.eraseIdx k).map f
  | [], _ => rfl
  | _ :: _, 0 => rfl
  | x :: r, k + 1 => by rw [List.map_cons, List.eraseIdx_cons_succ, List.eraseIdx_cons_succ, List.map_cons, erase_map f r k]
theorem erase_perm {α : Type} : ∀ (l : List α) (k : Nat) (h : k < l.length), (l[k] :: l.eraseIdx k).Perm l
  | _ :: _, 0, _ => List.Perm.refl _
  | x :: r, k + 1, h => by
    have h' : k < r.length := by simpa using h
    rw [List.eraseIdx_cons_succ, List.getElem_cons_succ]
    exact (List.Perm.swap x r[k] _).trans (List.Perm.cons x (erase_perm r k h'))
theorem pile_loop {a : Addr} {s0 s1 s5 s6 s7 s8 : Sl} {n : Nat} {De : DEnds} (hn : n ≤ 12) (h0 : s0 = .raw (.ref a)) (fin : ∀ line : List Nat, line.Perm (List.range n) → De.nx [s0, s1, .fz (.int (n : Nat)), .own (lnD []), .own (lnD line), s5, s6, s7, s8]) :
    ∀ (m : Nat) (pile line : List Nat), pile.length = m → (line ++ pile).Perm (List.range n) → wWh or_t (or_pop a) (m + 1) [s0, s1, .fz (.int (n : Nat)), .own (lnD pile), .own (lnD line), s5, s6, s7, s8] De
  | 0, pile, line, hm, hp => by
    obtain rfl := List.length_eq_zero_iff.mp hm
    refine ⟨_, rfl, [], rfl, Nat.zero_le _, _, ne_lnD [], _, rfl, ifF rfl ?_⟩
    rw [List.append_nil] at hp
    exact fin line hp
  | m + 1, pile, line, hm, hp => by
    subst h0
    have hl := hp.length_eq
    rw [List.length_append, List.length_range] at hl
    refine ⟨_, rfl, [], rfl, Nat.zero_le _, _, ne_lnD pile, _, rfl, ifT (by rw [decide_eq_true_eq]; intro z; rw [z] at hm; cases hm) ?_⟩
    have lm : (pile.map fun (k : Nat) => PyData.int (k : Int)).length = pile.length := List.length_map ..
    refine ⟨line.map fun (k : Nat) => PyData.int (k : Int), pile.map fun (k : Nat) => PyData.int (k : Int), rfl, rfl, by decide, _, rfl, _, rfl, .int (pile.map fun (k : Nat) => PyData.int (k : Int)).length, rfl, ((pile.map fun (k : Nat) => PyData.int (k : Int)).length : Int), rfl, by rw [lm]; omega, small1000 (by rw [lm]; omega), fun r r0 r1 => ?_⟩
    rw [lm] at r1
    obtain ⟨k, rfl⟩ := Int.eq_ofNat_of_zero_le r0
    have hk : k < pile.length := by omega
    refine ⟨k, .int (pile[k] : Nat), rfl, by omega, by rw [List.getElem?_map, List.getElem?_eq_getElem hk]; rfl, by rw [List.length_map]; exact small_sz (by omega), ?_⟩
    have ih := pile_loop (s1 := s1) (s5 := s5) (s6 := s6) (s7 := s7) (s8 := s8) hn rfl fin m (pile.eraseIdx k) (line ++ [pile[k]]) (by rw [List.length_eraseIdx_of_lt hk]; omega) (by
      refine List.Perm.trans ?_ hp
      rw [List.append_assoc]
      refine List.Perm.append_left _ ?_
      exact erase_perm pile k hk)
    have e1 : (pile.map fun (k : Nat) => PyData.int (k : Int)).eraseIdx k = (pile.eraseIdx k).map fun (k : Nat) => PyData.int (k : Int) := erase_map _ _ _
    have e2 : (line.map fun (k : Nat) => PyData.int (k : Int)) ++ [.int (pile[k] : Nat)] = (line ++ [pile[k]]).map fun (k : Nat) => PyData.int (k : Int) := by rw [List.map_append]; rfl
    show wWh or_t (or_pop a) (m + 1) [_, s1, .fz (.int (n : Nat)), .own (.list ((pile.map fun (k : Nat) => PyData.int (k : Int)).eraseIdx k)), .own (.list ((line.map fun (k : Nat) => PyData.int (k : Int)) ++ [.int (pile[k] : Nat)])), s5, s6, s7, s8] De
    rw [e1, e2]
    exact ih
theorem rng1V {n : Nat} (h : n ≤ 1000) : (valL [.fz (.int (n : Int))]).bind rng1 = some ((List.range n).map fun i => .int (i : Nat)) := by
  rw [rngV h, List.range_eq_range']
theorem rest_ok {a : Addr} {s1 s3 : Sl} {n m : Nat} {line : List Nat} {Q : D → Prop} (hn : n ≤ 12) (h1 : 1 ≤ n) (hp : line.Perm (List.range n)) (q : ∀ ps, Ord n ps → Q (ordD n ps)) :
    or_rest a [.raw (.ref a), s1, .fz (.int (n : Nat)), s3, .own (lnD line), .own (.dict []), .no, .no, .no] (endsOf Q) := by
  have ll : line.length = n := by rw [hp.length_eq, List.length_range]
  have nd : line.Nodup := hp.nodup_iff.mpr List.nodup_range
  have lt : ∀ x ∈ line, x < n := fun x hx => List.mem_range.mp (hp.mem_iff.mp hx)
  refine ⟨_, rfl, 4, rfl, by decide, by decide +kernel, fun r r0 r4 => ⟨.int (1 + r), rfl, _, rfl, ?_⟩⟩
  refine ⟨_, rfl, _, rngV (n := n) (by omega), ?_⟩
  refine wFor_rng (n := n) (fun k env => ∃ (ps : List Pr) (s7 s8 : Sl), env = [.raw (.ref a), s1, .fz (.int (n : Nat)), s3, .own (lnD line), .own (.dict (esP ps)), .fz (.int (1 + r)), s7, s8] ∧ PrsAt line k (k + 1) ps) ?_ ?_ n 0 (by omega) _ ⟨[], .no, .no, rfl, ⟨fun _ z => (nomatch z), List.nodup_nil, by simp⟩⟩
  · rintro _ ⟨ps, s7, s8, rfl, S⟩
    have sm : ps.length < 1000 := by have := S.sm; omega
    refine ⟨_, rfl, _, rfl, esP ps, rfl, ?_⟩
    have e : (esP ps).map (·.1) = ps.map prD := by unfold esP; rw [List.map_map]; rfl
    rw [e]
    refine ⟨_, sorted_prs sm, .tuple ((srtP ps).map prD), rfl, _, rfl, (show 2 ≤ sizeLine by decide), _, rfl, ?_⟩
    have u : OrdU n ps := Along.u ⟨nd, fun p hp => by obtain ⟨x, y, h1, h2, h3, _⟩ := S.al p hp; exact ⟨x, y, h1, h2, h3⟩⟩ ll lt S.nd sm
    exact q (srtP ps) (u.srt h1 hn)
  · rintro k hk _ De' ⟨ps, s7, s8, rfl, S⟩ hrt hbk hnx hct
    refine ⟨_, rfl, _, rfl, .int ((k + 1 : Nat) : Int), rfl, _, rfl, _, rng2V (i := k) (n := n) (by omega) hk, ?_⟩
    have key : ∀ (r' j : Nat) (ps : List Pr) (s8 : Sl), j + r' = n → k < j → PrsAt line k j ps → wFor (gN 8) (or_in a) ((List.range' j r').map fun j => .int (j : Nat)) [.raw (.ref a), s1, .fz (.int (n : Nat)), s3, .own (lnD line), .own (.dict (esP ps)), .fz (.int (1 + r)), .fz (.int (k : Nat)), s8] De' := by
      intro r'
      induction r' with
      | zero =>
        intro j ps s8 e hkj S
        have ej : j = line.length := by omega
        subst ej
        exact hnx _ ⟨ps, _, _, rfl, S.next (by omega)⟩
      | succ r' ih =>
        intro j ps s8 e hkj S
        rw [List.range'_succ, List.map_cons]
        have hjl : j < line.length := by omega
        have sm := S.sm
        refine ⟨_, rfl, _, rfl, 5, rfl, by decide, by decide +kernel, fun t t0 t1 => ⟨_, rfl, .bool (decide (t < 1 + r)), rfl, _, rfl, ?_⟩⟩
        cases decide (t < 1 + r) with
        | false => exact ifF rfl (ih (j + 1) ps (.fz (.int (j : Nat))) (by omega) (by omega) S.skip)
        | true =>
          refine ifT rfl ⟨esP ps, rfl, ?_⟩
          refine ⟨_, rfl, _, rfl, .int ((line.getD k 0 : Nat) : Int), ix_ln (by omega), _, rfl, _, rfl, .int ((line.getD j 0 : Nat) : Int), ix_ln hjl, _, rfl, (show 2 ≤ sizeLine by decide), .bool true, prD (((line.getD k 0 : Nat) : Int), ((line.getD j 0 : Nat) : Int)), rfl, rfl, put_esP _ _, by unfold esP; rw [List.length_map]; exact Nat.lt_of_lt_of_le (show ps.length < 999 by omega) (small_sz (by omega)), ?_⟩
          rw [dput_esP (S.new nd hkj hjl)]
          exact ih (j + 1) _ (.fz (.int (j : Nat))) (by omega) (by omega) (S.add nd hkj hjl)
    exact key _ (k + 1) ps s8 (by omega) (by omega) S
theorem ok_ws__law_order (a : Addr) : ∀ as Q, sp__law_order a as Q → ws__law_order a (env0 9 as) (endsOf Q) := by
  rintro as Q ⟨m, rfl, h1, h12, q⟩
  refine ⟨_, rfl, _, rfl, (m : Int), rfl, by omega, small1000 (by omega), fun r r0 r1 => ?_⟩
  obtain ⟨m', rfl⟩ := Int.eq_ofNat_of_zero_le r0
  refine ⟨.int ((1 + m' : Nat) : Int), rfl, _, rfl, ?_⟩
  refine ⟨_, rfl, (List.range (1 + m')).map (fun i => .int (i : Nat)), rng1V (by omega), by rw [List.length_map, List.length_range]; omega, [], rfl, Nat.zero_le _, _, _, _, rfl, rfl, rfl, ?_⟩
  refine ⟨(List.range (1 + m')).length + 1, by rw [List.length_range]; exact Nat.le_trans (show 1 + m' + 1 ≤ 20 by omega) (by decide +kernel), ?_⟩
  refine pile_loop (s0 := .raw (.ref a)) (s1 := .fz (.int (m : Nat))) (s5 := .own (.dict [])) (s6 := .no) (s7 := .no) (s8 := .no) (n := 1 + m') (by omega) rfl (fun line hp => ?_) _ (List.range (1 + m')) [] rfl (by rw [List.nil_append])
  exact rest_ok (m := m) (by omega) (by omega) hp fun ps o => q _ ps o (by omega)
end G1
namespace G1
open PySem DL PF
/-! ### reaching in so many steps -/
inductive RchL (ps : List Pr) : Nat → Int → Int → Prop
  | one {m : Nat} {a b : Int} : (a, b) ∈ ps → RchL ps (m + 1) a b
  | more {m : Nat} {a b c : Int} : RchL ps m a b → (b, c) ∈ ps → RchL ps (m + 1) a c
theorem RchL.up {ps : List Pr} {m m' : Nat} {a b : Int} (h : m ≤ m') (r : RchL ps m a b) : RchL ps m' a b := by
  induction r generalizing m' with
  | one e =>
    obtain ⟨k, rfl⟩ : ∃ k, m' = k + 1 := ⟨m' - 1, by omega⟩
    exact .one e
  | more _ e ih =>
    obtain ⟨k, rfl⟩ : ∃ k, m' = k + 1 := ⟨m' - 1, by omega⟩
    exact .more (ih (by omega)) e
theorem rch_path {ps : List Pr} (no : ∀ k, ¬ Rch ps k k) {a b : Int} (r : Rch ps a b) : ∃ l : List Int, l.Nodup ∧ (∀ x ∈ l, Rch ps a x ∧ (x = b ∨ Rch ps x b)) ∧ RchL ps l.length a b := by
  induction r with
  | one e => exact ⟨[_], by simp, fun x hx => by obtain rfl := List.mem_singleton.mp hx; exact ⟨.one e, .inl rfl⟩, .one e⟩
  | @more b c r e ih =>
    obtain ⟨l, h1, h2, h3⟩ := ih
    refine ⟨c :: l, List.nodup_cons.mpr ⟨fun hc => ?_, h1⟩, fun x hx => ?_, .more h3 e⟩
    · rcases (h2 c hc).2 with z | z
      · exact no b (.one (z ▸ e))
      · exact no c (.more z e)
    · rcases List.mem_cons.mp hx with rfl | hx
      · exact ⟨.more r e, .inl rfl⟩
      · refine ⟨(h2 x hx).1, .inr ?_⟩
        rcases (h2 x hx).2 with z | z
        · rw [z]; exact .one e
        · exact .more z e
theorem rch_short {ps : List Pr} {n : Nat} (pr : ∀ p ∈ ps, isPair n p.1 p.2 = true) (no : ∀ k, ¬ Rch ps k k) {a b : Int} (r : Rch ps a b) : RchL ps n a b := by
  obtain ⟨l, h1, h2, h3⟩ := rch_path no r
  refine h3.up ?_
  have := nodup_len l ((List.range n).map fun (k : Nat) => (k : Int)) h1 fun x hx => by
    have := ((h2 x hx).1).rng pr
    exact List.mem_map.mpr ⟨x.toNat, List.mem_range.mpr (by omega), by omega⟩
  simpa using this
/-! ### the rows of a law -/
def rwD (r : List Int) : D := .list (r.map .int)
def rowsD (rows : List (List Int)) : D := .list (rows.map rwD)
/-- rows at a stage: what is told is so; what takes so many steps is told -/
structure RwAt (ps : List Pr) (n c : Nat) (rows : List (List Int)) : Prop where
  len : rows.length = n
  nd : ∀ r ∈ rows, r.Nodup
  so : ∀ (i : Nat) (r : List Int), rows[i]? = some r → ∀ j ∈ r, Rch ps i j
  all : ∀ (i : Nat) (r : List Int), rows[i]? = some r → ∀ j, RchL ps (c + 1) i j → j ∈ r
  asc : 0 < c → ∀ r ∈ rows, r.Pairwise fun a b => a < b
structure IsRows (ps : List Pr) (n : Nat) (rows : List (List Int)) : Prop where
  len : rows.length = n
  asc : ∀ r ∈ rows, r.Pairwise fun a b => a < b
  mem : ∀ (i : Nat) (r : List Int), rows[i]? = some r → ∀ j, j ∈ r ↔ Rch ps i j
theorem RchL.rch {ps : List Pr} {m : Nat} {a b : Int} (r : RchL ps m a b) : Rch ps a b := by
  induction r with
  | one e => exact .one e
  | more _ e ih => exact .more ih e
theorem RwAt.done {ps : List Pr} {n : Nat} {rows : List (List Int)} (pr : ∀ p ∈ ps, isPair n p.1 p.2 = true) (no : ∀ k, ¬ Rch ps k k) (h1 : 0 < n) (h : RwAt ps n n rows) : IsRows ps n rows :=
  ⟨h.len, h.asc h1, fun i r e j => ⟨h.so i r e j, fun q => h.all i r e j ((rch_short pr no q).up (by omega))⟩⟩
theorem RwAt.bd {ps : List Pr} {n c : Nat} {rows : List (List Int)} (pr : ∀ p ∈ ps, isPair n p.1 p.2 = true) (h : RwAt ps n c rows) {i : Nat} {r : List Int} (e : rows[i]? = some r) : (∀ j ∈ r, 0 ≤ j ∧ j < n) ∧ r.length ≤ n := by
  have b : ∀ j ∈ r, 0 ≤ j ∧ j < n := fun j hj => ((h.so i r e j hj).rng pr).2
  refine ⟨b, ?_⟩
  have := nodup_len r ((List.range n).map fun (k : Nat) => (k : Int)) (h.nd r (List.mem_of_getElem? e)) fun x hx => by
    have := b x hx
    exact List.mem_map.mpr ⟨x.toNat, List.mem_range.mpr (by omega), by omega⟩
  simpa using this
def row0 (ps : List Pr) (k : Nat) : List Int := (ps.filter fun p => decide (p.1 = (k : Int))).map (·.2)
theorem row0_mem {ps : List Pr} {k : Nat} {j : Int} : j ∈ row0 ps k ↔ ((k : Int), j) ∈ ps := by
  unfold row0
  rw [List.mem_map]
  constructor
  · rintro ⟨⟨x, y⟩, hp, rfl⟩
    obtain ⟨h1, h2⟩ := List.mem_filter.mp hp
    simp only [decide_eq_true_eq] at h2
    rw [← h2]; exact h1
  · intro h
    exact ⟨_, List.mem_filter.mpr ⟨h, by simp⟩, rfl⟩
theorem row0_nd {ps : List Pr} (h : ps.Nodup) (k : Nat) : (row0 ps k).Nodup := by
  unfold row0
  refine List.pairwise_map.mpr ?_
  have f : (ps.filter fun p => decide (p.1 = (k : Int))).Nodup := h.filter _
  refine List.Pairwise.imp_of_mem ?_ f
  intro x y hx hy ne z
  have h1 := (List.mem_filter.mp hx).2
  have h2 := (List.mem_filter.mp hy).2
  simp only [decide_eq_true_eq] at h1 h2
  exact ne (Prod.ext (h1.trans h2.symm) z)
theorem rw_0 {ps : List Pr} {n : Nat} (nd : ps.Nodup) : RwAt ps n 0 ((List.range n).map (row0 ps)) := by
  have g : ∀ (i : Nat) (r : List Int), ((List.range n).map (row0 ps))[i]? = some r → r = row0 ps i := fun i r e => by
    rw [List.getElem?_map, Option.map_eq_some_iff] at e
    obtain ⟨k, hk, rfl⟩ := e
    by_cases hi : i < n
    · rw [List.getElem?_range hi] at hk
      cases hk; rfl
    · rw [List.getElem?_eq_none (by simpa using hi)] at hk; cases hk
  refine ⟨by simp, fun r hr => ?_, fun i r e j hj => ?_, fun i r e j q => ?_, fun h => absurd h (Nat.lt_irrefl _)⟩
  · obtain ⟨k, _, rfl⟩ := List.mem_map.mp hr
    exact row0_nd nd k
  · obtain rfl := g i r e
    exact .one (row0_mem.mp hj)
  · obtain rfl := g i r e
    cases q with
    | one e => exact row0_mem.mpr e
    | more q _ => cases q
/-- one stage more: row i gets what its own ones have -/
def gath (rows : List (List Int)) (r : List Int) : List Int := r ++ r.flatMap fun j => rows.getD j.toNat []
theorem rw_step {ps : List Pr} {n c : Nat} {rows fresh : List (List Int)} (pr : ∀ p ∈ ps, isPair n p.1 p.2 = true) (h : RwAt ps n c rows) (hl : fresh.length = n) (hf : ∀ (i : Nat) (r m : List Int), rows[i]? = some r → fresh[i]? = some m → m.Pairwise (fun a b => a < b) ∧ ∀ k, k ∈ m ↔ k ∈ gath rows r) : RwAt ps n (c + 1) fresh := by
  have get : ∀ (i : Nat) (m : List Int), fresh[i]? = some m → ∃ r, rows[i]? = some r ∧ m.Pairwise (fun a b => a < b) ∧ ∀ k, k ∈ m ↔ k ∈ gath rows r := fun i m e => by
    have hi : i < rows.length := by
      rw [h.len, ← hl]
      rcases Nat.lt_or_ge i fresh.length with q | q
      · exact q
      · rw [List.getElem?_eq_none q] at e; cases e
    exact ⟨_, List.getElem?_eq_getElem hi, hf i _ m (List.getElem?_eq_getElem hi) e⟩
  have asc : ∀ r ∈ fresh, r.Pairwise fun a b => a < b := fun r hr => by
    obtain ⟨i, hi⟩ := List.getElem?_of_mem hr
    obtain ⟨_, _, q, _⟩ := get i r hi
    exact q
  have at' : ∀ {x : Int}, 0 ≤ x ∧ x < n → ∃ r, rows[x.toNat]? = some r ∧ rows.getD x.toNat [] = r ∧ ((x.toNat : Nat) : Int) = x := fun {x} hx => by
    have hlt : x.toNat < rows.length := by rw [h.len]; omega
    refine ⟨rows[x.toNat], List.getElem?_eq_getElem hlt, ?_, by omega⟩
    rw [List.getD_eq_getElem?_getD, List.getElem?_eq_getElem hlt]; rfl
  refine ⟨hl, fun r hr => (asc r hr).imp fun h => by omega, fun i m e j hj => ?_, fun i m e j q => ?_, fun _ => asc⟩
  · obtain ⟨r, hr, _, hm⟩ := get i m e
    rcases List.mem_append.mp ((hm j).mp hj) with q | q
    · exact h.so i r hr j q
    · obtain ⟨x, hx, hj⟩ := List.mem_flatMap.mp q
      obtain ⟨r2, g1, g2, g3⟩ := at' ((h.bd pr hr).1 x hx)
      rw [g2] at hj
      have := h.so x.toNat r2 g1 j hj
      rw [g3] at this
      exact (h.so i r hr x hx).trans this
  · obtain ⟨r, hr, _, hm⟩ := get i m e
    rw [hm]
    cases q with
    | one e => exact List.mem_append_left _ (h.all i r hr j (.one e))
    | @more _ _ b _ q e =>
      have hb := h.all i r hr b q
      refine List.mem_append_right _ (List.mem_flatMap.mpr ⟨b, hb, ?_⟩)
      obtain ⟨r2, g1, g2, g3⟩ := at' ((h.bd pr hr).1 b hb)
      rw [g2]
      exact h.all b.toNat r2 g1 j (by rw [g3]; exact .one e)
theorem gath_len {ps : List Pr} {n c : Nat} {rows : List (List Int)} (pr : ∀ p ∈ ps, isPair n p.1 p.2 = true) (h : RwAt ps n c rows) {i : Nat} {r : List Int} (e : rows[i]? = some r) (l : List Int) (hl : ∀ x ∈ l, x ∈ r) : (l.flatMap fun j => rows.getD j.toNat []).length ≤ l.length * n := by
  induction l with
  | nil => simp
  | cons x l ih =>
    have h1 := ih fun y hy => hl y (List.mem_cons_of_mem _ hy)
    have hx := (h.bd pr e).1 x (hl x (List.mem_cons_self ..))
    have hlt : x.toNat < rows.length := by rw [h.len]; omega
    have h2 := (h.bd pr (List.getElem?_eq_getElem hlt)).2
    rw [List.flatMap_cons, List.length_append, List.length_cons, Nat.add_mul, List.getD_eq_getElem?_getD, List.getElem?_eq_getElem hlt]
    simp only [Option.getD_some]
    omega
theorem lc_encK {α : Type} {gd : GD} {we : WE} {env : Ev} {P : Dv → Prop} (e g : α → D) : ∀ (ps : List α) (acc : List D), (∀ p ∈ ps, ∃ env', gd (e p) env = some env' ∧ ∀ R : Dv → Prop, (∀ y : Dv, y.kept = some (g p) → R y) → we env' R) → acc.length + ps.length ≤ sizeLine → P (.nw (.list (acc ++ ps.map g))) → wLcL gd wYes we env P (ps.map e) acc
  | [], acc, _, _, p => by simpa [wLcL] using p
  | d :: r, acc, h, hl, p => by
    obtain ⟨env', h1, h2⟩ := h d (List.mem_cons_self ..)
    rw [List.length_cons] at hl
    refine ⟨env', h1, ?_⟩
    simp only [wYes, if_true]
    refine h2 _ fun y hy => ⟨g d, hy, by omega, ?_⟩
    refine lc_encK e g r _ (fun e he => h e (List.mem_cons_of_mem _ he)) (by rw [List.length_append, List.length_singleton]; omega) ?_
    rw [List.append_assoc]; exact p
/-! ### _law_above -/
def sp__law_above : DL.Spec := fun as Q => ∃ (n : Nat) (ps : List Pr), as = [.fz (ordD n ps)] ∧ Ord n ps ∧ n ≤ 7 ∧ ∀ rows, IsRows ps n rows → Q (rowsD rows)
theorem len__law_above : ∀ as Q, sp__law_above as Q → as.length = 1 := by rintro as Q ⟨n, ps, rfl, _⟩; rfl
def ab_row : WS := (wSeq (wSet .fz 8 (wB listD (wCons (wName 7) wNil)))
    (wSeq (wForI (wSrc (wName 7)) (gN 2) (wSet .fz 8 (w2 addD (wName 8) (wIx (wName 1) (wName 2)))))
    (wApp 6 (wSSet (wName 8)))))
def ab_stage : WS := (wSeq (wSet .own 6 (wLst wNil))
    (wSeq (wForI (wSrc (wName 1)) (gN 7) ab_row)
    (wFrz 6 (wSet .fz 1 (wName 6)))))
def ws__law_above : WS := (wSeq (wSet .fz 1 (wLc (wRng rng1 (wCons (wIx (wName 0) (wC (.fz (.int 0)))) wNil)) (gN 4) wYes (wLc (wSrc (wIx (wName 0) (wC (.fz (.int 1))))) (gTup' 2 (gCons' (gN 2) (gCons' (gN 3) gNil'))) (wTest (w2 eqD (wName 2) (wName 4))) (wName 3) [2, 3]) [4]))
    (wSeq (wForI (wRng rng1 (wCons (wIx (wName 0) (wC (.fz (.int 0)))) wNil)) (gN 5) (wSeq (wSet .own 6 (wLst wNil))
    (wSeq (wForI (wSrc (wName 1)) (gN 7) (wSeq (wSet .fz 8 (wB listD (wCons (wName 7) wNil)))
    (wSeq (wForI (wSrc (wName 7)) (gN 2) (wSet .fz 8 (w2 addD (wName 8) (wIx (wName 1) (wName 2)))))
    (wApp 6 (wSSet (wName 8))))))
    (wFrz 6 (wSet .fz 1 (wName 6))))))
    (wRet (wName 1))))
theorem addL {a b : List D} (h : a.length + b.length ≤ 5000) : addD (.list a) (.list b) = some (.list (a ++ b)) := by
  show (if a.length + b.length ≤ sizeLine then some (PyData.list (a ++ b)) else none) = _
  rw [if_pos (by rw [sizeLine_eq]; omega)]
theorem ix_rows {rows : List (List Int)} {k : Nat} (h : k < rows.length) : ixD (rowsD rows) (.int (k : Nat)) = some (rwD (rows.getD k [])) := by
  refine L2.atI_nat ?_
  rw [List.getElem?_map, List.getD_eq_getElem?_getD, List.getElem?_eq_getElem h]; rfl
section
variable {n c : Nat} {ps : List Pr} {rows : List (List Int)}
theorem more_loop (pr : ∀ p ∈ ps, isPair n p.1 p.2 = true) (hn : n ≤ 7) (h : RwAt ps n c rows) {i : Nat} {r : List Int} (e : rows[i]? = some r) {s0 s3 s4 s5 s6 s7 : Sl} {De : DEnds} (fin : ∀ s2, De.nx [s0, .fz (rowsD rows), s2, s3, s4, s5, s6, s7, .fz (rwD (gath rows r))]) :
    ∀ (b a : List Int) (s2 : Sl), a ++ b = r → wFor (gN 2) (wSet .fz 8 (w2 addD (wName 8) (wIx (wName 1) (wName 2)))) (b.map .int) [s0, .fz (rowsD rows), s2, s3, s4, s5, s6, s7, .fz (rwD (r ++ a.flatMap fun j => rows.getD j.toNat []))] De
  | [], a, s2, ea => by
    rw [List.append_nil] at ea
    subst ea
    exact fin s2
  | x :: b, a, s2, ea => by
    have hx := (h.bd pr e).1 x (by rw [← ea]; simp)
    have hr := (h.bd pr e).2
    obtain ⟨k, rfl⟩ := Int.eq_ofNat_of_zero_le hx.1
    have hk : k < rows.length := by rw [h.len]; omega
    have hk2 := (h.bd pr (List.getElem?_eq_getElem hk)).2
    have l1 := gath_len pr h e a fun y hy => by rw [← ea]; exact List.mem_append_left _ hy
    have l2 : a.length ≤ n := by have := congrArg List.length ea; simp at this; omega
    have l3 : a.length * n ≤ 7 * 7 := Nat.mul_le_mul (by omega) hn
    have l4 : (rows.getD k []).length ≤ n := by rw [List.getD_eq_getElem?_getD, List.getElem?_eq_getElem hk]; exact hk2
    refine ⟨_, rfl, _, rfl, _, rfl, _, rfl, _, ix_rows hk, _, addL ?_, _, rfl, ?_⟩
    · rw [List.length_map, List.length_map, List.length_append]; omega
    · have ih := more_loop pr hn h e fin b (a ++ [(k : Int)]) (.fz (.int (k : Nat))) (by rw [List.append_assoc]; exact ea)
      have e2 : (a ++ [(k : Int)]).flatMap (fun j => rows.getD j.toNat []) = a.flatMap (fun j => rows.getD j.toNat []) ++ rows.getD k [] := by
        rw [List.flatMap_append]; simp
      rw [e2, ← List.append_assoc] at ih
      unfold rwD at ih
      rw [List.map_append] at ih
      exact ih
theorem row_ok (pr : ∀ p ∈ ps, isPair n p.1 p.2 = true) (hn : n ≤ 7) (h : RwAt ps n c rows) {i : Nat} {r : List Int} (e : rows[i]? = some r) {fresh : List (List Int)} (hz : fresh.length < 100) {s0 s2 s3 s4 s5 s8 : Sl} {De : DEnds}
    (fin : ∀ m s2 s8, m.Pairwise (fun a b => a < b) → (∀ k, k ∈ m ↔ k ∈ gath rows r) → De.nx [s0, .fz (rowsD rows), s2, s3, s4, s5, .own (rowsD (fresh ++ [m])), .fz (rwD r), s8]) : ab_row [s0, .fz (rowsD rows), s2, s3, s4, s5, .own (rowsD fresh), .fz (rwD r), s8] De := by
  have hr := (h.bd pr e).2
  have l1 := gath_len pr h e r fun y hy => hy
  have l3 : r.length * n ≤ 7 * 7 := Nat.mul_le_mul (by omega) hn
  refine ⟨_, rfl, rwD r, rfl, _, rfl, ?_⟩
  refine ⟨_, rfl, r.map .int, rfl, ?_⟩
  have := more_loop (s0 := s0) (s3 := s3) (s4 := s4) (s5 := s5) (s6 := .own (rowsD fresh)) (s7 := .fz (rwD r)) pr hn h e (De := { De with nx := fun e => wApp 6 (wSSet (wName 8)) e De }) (fun s2 => ?_) r [] s2 rfl
  · rw [List.flatMap_nil, List.append_nil] at this
    exact this
  · refine ⟨fresh.map rwD, rfl, _, rfl, gath rows r, rfl, ?_, fun ms h1 h2 => ⟨_, rfl, ?_, ?_⟩⟩
    · unfold gath
      rw [List.length_append]; omega
    · rw [List.length_map]; exact Nat.lt_of_lt_of_le (show fresh.length < 999 by omega) (small_sz (by omega))
    · have := fin ms s2 (.fz (rwD (gath rows r))) h1 h2
      unfold rowsD at this
      rw [List.map_append] at this
      exact this
theorem stage_ok (pr : ∀ p ∈ ps, isPair n p.1 p.2 = true) (hn : n ≤ 7) (h : RwAt ps n c rows) {s0 s2 s3 s4 s5 s6 s7 s8 : Sl} {De : DEnds}
    (fin : ∀ fresh s2 s6 s7 s8, RwAt ps n (c + 1) fresh → De.nx [s0, .fz (rowsD fresh), s2, s3, s4, s5, s6, s7, s8]) : ab_stage [s0, .fz (rowsD rows), s2, s3, s4, s5, s6, s7, s8] De := by
  have hl := h.len
  refine ⟨[], rfl, Nat.zero_le _, _, rfl, ?_⟩
  refine ⟨_, rfl, rows.map rwD, rfl, ?_⟩
  refine wFor_enc rwD rows (fun i env => ∃ (fresh : List (List Int)) (s2 s7 s8 : Sl), env = [s0, .fz (rowsD rows), s2, s3, s4, s5, .own (rowsD fresh), s7, s8] ∧ fresh.length = i ∧ ∀ (k : Nat) (r m : List Int), rows[k]? = some r → fresh[k]? = some m → m.Pairwise (fun a b => a < b) ∧ ∀ x, x ∈ m ↔ x ∈ gath rows r) ?_ ?_ rows 0 rfl (Nat.zero_le _) _ ⟨[], s2, s7, s8, rfl, rfl, fun k r m _ e => by simp at e⟩
  · rintro _ ⟨fresh, s2, s7, s8, rfl, h1, h2⟩
    exact ⟨_, rfl, _, rfl, _, rfl, fin fresh s2 _ s7 s8 (rw_step pr h (by omega) h2)⟩
  · rintro i r e _ De' ⟨fresh, s2, s7, s8, rfl, h1, h2⟩ hrt hbk hnx hct
    have hi : i < rows.length := by
      rcases Nat.lt_or_ge i rows.length with q | q
      · exact q
      · rw [List.getElem?_eq_none q] at e; cases e
    refine ⟨_, rfl, row_ok pr hn h e (by omega) fun m s2 s8 g1 g2 => hnx _ ⟨fresh ++ [m], s2, _, s8, rfl, by rw [List.length_append, h1]; rfl, fun k r' m' e1 e2 => ?_⟩⟩
    by_cases hk : k < fresh.length
    · rw [List.getElem?_append_left hk] at e2
      exact h2 k r' m' e1 e2
    · rw [List.getElem?_append_right (by omega)] at e2
      have hk0 : k = i := by
        rcases Nat.lt_or_ge (k - fresh.length) 1 with q | q
        · omega
        · rw [List.getElem?_eq_none (by simpa using q)] at e2; cases e2
      subst hk0
      rw [show k - fresh.length = 0 by omega] at e2
      cases e2
      rw [e1] at e
      cases e
      exact ⟨g1, g2⟩
end
theorem ok_ws__law_above : ∀ as Q, sp__law_above as Q → ws__law_above (env0 9 as) (endsOf Q) := by
  rintro as Q ⟨n, ps, rfl, o, hn, q⟩
  have sm := o.sm
  refine ⟨_, rfl, .int n, ix_o0 _ _, _, rng1V (n := n) (by omega), ?_⟩
  refine lc_encK (fun i : Nat => .int (i : Nat)) (fun k => rwD (row0 ps k)) (List.range n) [] (fun k hk => ⟨_, rfl, fun R r => ?_⟩) (by rw [List.length_range]; simp; exact small_sz (by omega)) ⟨_, rfl, ?_⟩
  · refine ⟨_, rfl, prsD ps, ix_o1 _ _, ps.map prD, rfl, ?_⟩
    refine lc_encF prD (fun p => .int p.2) (fun p => decide (p.1 = (k : Int))) ps [] (fun p hp => ⟨_, rfl, fun R r => ⟨_, rfl, _, rfl, _, eq_int _ _, _, rfl, r⟩, fun _ R r => ⟨_, rfl, r⟩⟩) (by simp; exact small_sz sm) ?_
    refine r _ ?_
    unfold rwD row0
    rw [List.map_map]; rfl
  have e0 : [] ++ (List.range n).map (fun k => rwD (row0 ps k)) = ((List.range n).map (row0 ps)).map rwD := by
    rw [List.map_map]; rfl
  rw [e0]
  refine ⟨_, rfl, .int n, ix_o0 _ _, _, rngV (n := n) (by omega), ?_⟩
  refine wFor_rng (n := n) (fun k env => ∃ (rows : List (List Int)) (s2 s3 s4 s5 s6 s7 s8 : Sl), env = [.fz (ordD n ps), .fz (rowsD rows), s2, s3, s4, s5, s6, s7, s8] ∧ RwAt ps n k rows) ?_ ?_ n 0 (by omega) _ ⟨_, .no, .no, .no, .no, .no, .no, .no, rfl, rw_0 o.u.nd⟩
  · rintro _ ⟨rows, s2, s3, s4, s5, s6, s7, s8, rfl, h⟩
    exact ⟨_, rfl, _, rfl, q rows (h.done o.pr o.no o.lo)⟩
  · rintro k hk _ De' ⟨rows, s2, s3, s4, s5, s6, s7, s8, rfl, h⟩ hrt hbk hnx hct
    exact ⟨_, rfl, stage_ok o.pr hn h fun fresh s2 s6 s7 s8 g => hnx _ ⟨fresh, s2, _, _, _, s6, s7, s8, rfl, g⟩⟩
end G1
namespace K01
open PySem DL PF PFO PFT
abbrev sp__law_next := K01.spNext
abbrev sp_is_pair := PFO.sp_is_pair
abbrev ws_is_pair := PFO.ws_is_pair
theorem len_is_pair : ∀ as Q, sp_is_pair as Q → as.length = 2 := PFO.len_is_pair
theorem ok_ws_is_pair : ∀ as Q, sp_is_pair as Q → ws_is_pair (env0 3 as) (endsOf Q) := PFO.ok_ws_is_pair
abbrev spx_need_order := PFO.spx_need_order
abbrev wsx_need_order := PFO.wsx_need_order
theorem lenx_need_order : ∀ as Q E, spx_need_order as Q E → as.length = 1 := PFO.lenx_need_order
theorem okx_ws_need_order : ∀ as Q E, spx_need_order as Q E → wsx_need_order (fun _ x => E x) (env0 4 as) (endsOf Q) := PFO.okx_ws_need_order
theorem ofx_need_order : ∀ as Q, PF.sp_need_order as Q → spx_need_order as Q (fun _ => False) := PFO.ofx_need_order
abbrev sp__law_order := G1.sp__law_order
abbrev ws__law_order := G1.ws__law_order
theorem len__law_order (a : Addr) : ∀ as Q, sp__law_order a as Q → as.length = 2 := G1.len__law_order a
theorem ok_ws__law_order (a : Addr) : ∀ as Q, sp__law_order a as Q → ws__law_order a (env0 9 as) (endsOf Q) := G1.ok_ws__law_order a
abbrev sp__law_above := G1.sp__law_above
abbrev ws__law_above := G1.ws__law_above
theorem len__law_above : ∀ as Q, sp__law_above as Q → as.length = 1 := G1.len__law_above
theorem ok_ws__law_above : ∀ as Q, sp__law_above as Q → ws__law_above (env0 9 as) (endsOf Q) := G1.ok_ws__law_above
def sp_need_kind : DL.Spec := fun as Q => spx_need_kind as Q fun _ => False
theorem ofx_need_kind : ∀ as Q, sp_need_kind as Q → spx_need_kind as Q (fun _ => False) := fun _ _ h => h
def sp_need_lot : DL.Spec := fun as Q => spx_need_lot as Q fun _ => False
theorem ofx_need_lot : ∀ as Q, sp_need_lot as Q → spx_need_lot as Q (fun _ => False) := fun _ _ h => h
def sp_is_within : DL.Spec := fun as Q => spx_is_within as Q fun _ => False
theorem ofx_is_within : ∀ as Q, sp_is_within as Q → spx_is_within as Q (fun _ => False) := fun _ _ h => h
def sp_is_clutter : DL.Spec := fun as Q => spx_is_clutter as Q fun _ => False
theorem ofx_is_clutter : ∀ as Q, sp_is_clutter as Q → spx_is_clutter as Q (fun _ => False) := fun _ _ h => h
def sp_clutters : DL.Spec := fun as Q => spx_clutters as Q fun _ => False
theorem ofx_clutters : ∀ as Q, sp_clutters as Q → spx_clutters as Q (fun _ => False) := fun _ _ h => h
def sp_is_form : DL.Spec := fun as Q => spx_is_form as Q fun _ => False
theorem ofx_is_form : ∀ as Q, sp_is_form as Q → spx_is_form as Q (fun _ => False) := fun _ _ h => h
def sp_forms : DL.Spec := fun as Q => spx_forms as Q fun _ => False
theorem ofx_forms : ∀ as Q, sp_forms as Q → spx_forms as Q (fun _ => False) := fun _ _ h => h
def sp_tall : DL.Spec := fun as Q => spx_tall as Q fun _ => False
theorem ofx_tall : ∀ as Q, sp_tall as Q → spx_tall as Q (fun _ => False) := fun _ _ h => h
open G1
/-! ### rows as what is above, sorted lots -/
theorem rows_ab {ps : List Pr} {n : Nat} {rows : List (List Int)} (h : IsRows ps n rows) : IsAb ps n rows := ⟨h.len, h.mem, fun r hr => (h.asc r hr).imp fun z => Int.ne_of_lt z⟩
def natI (l : List Nat) : List Int := l.map fun (k : Nat) => (k : Int)
theorem natI_inj {a b : List Nat} (h : natI a = natI b) : a = b := by
  have e : ∀ l : List Nat, (natI l).map Int.toNat = l := fun l => by
    unfold natI
    rw [List.map_map]
    exact (List.map_congr_left fun x _ => Int.toNat_natCast x).trans (List.map_id l)
  rw [← e a, ← e b, h]
theorem le_nat (a b : List Nat) : PySem.W.dataLe false id (natD a) (natD b) = decide (natI a ≤ natI b) := by
  show (!PySem.W.dataLt (natD b) (natD a)) = _
  rw [natD_box, natD_box]
  unfold boxD
  rw [PySem.W.dataLt_tuple]
  show (!PySem.W.rowLt _ _) = _
  rw [PySem.W.dataLt_ints]
  by_cases h : natI b < natI a
  · have h' : ¬ natI a ≤ natI b := fun r => List.not_lt.mpr r h
    rw [decide_eq_true (show (b.map fun (k : Nat) => (k : Int)) < (a.map fun (k : Nat) => (k : Int)) from h), decide_eq_false h']; rfl
  · have h' : natI a ≤ natI b := List.not_lt.mp h
    rw [decide_eq_false (show ¬ (b.map fun (k : Nat) => (k : Int)) < (a.map fun (k : Nat) => (k : Int)) from h), decide_eq_true h']; rfl
theorem srtL_sorted (L : List (List Nat)) : (srtL L).Pairwise fun a b => natI a ≤ natI b := by
  have := List.pairwise_mergeSort (le := fun a b => PySem.W.dataLe false id (natD a) (natD b)) (fun a b c h1 h2 => by
    rw [le_nat, decide_eq_true_eq] at *; exact List.le_trans h1 h2) (fun a b => by
    rw [le_nat, le_nat, Bool.or_eq_true, decide_eq_true_eq, decide_eq_true_eq]; exact List.le_total _ _) L
  unfold srtL
  exact this.imp fun {a b} h => by rw [le_nat, decide_eq_true_eq] at h; exact h
theorem srt_uniq {L M : List (List Nat)} (h : L.Perm M) (h1 : L.Pairwise fun a b => natI a ≤ natI b) (h2 : M.Pairwise fun a b => natI a ≤ natI b) : L = M :=
  List.Perm.eq_of_pairwise (le := fun a b => natI a ≤ natI b) (fun a b _ _ z1 z2 => natI_inj (List.le_antisymm z1 z2)) h1 h2 h
theorem srtL_perm (L : List (List Nat)) : (srtL L).Perm L := List.mergeSort_perm _ _
theorem srt_perm {L M : List (List Nat)} (h : L.Perm M) : srtL L = srtL M := srt_uniq ((srtL_perm L).trans (h.trans (srtL_perm M).symm)) (srtL_sorted L) (srtL_sorted M)
theorem srt_filter (L : List (List Nat)) (p : List Nat → Bool) : (srtL L).filter p = srtL (L.filter p) :=
  srt_uniq (((srtL_perm L).filter p).trans (srtL_perm _).symm) ((srtL_sorted L).filter p) (srtL_sorted _)
/-! ### all lots -/
def sp__law_lots : DL.Spec := fun as Q => ∃ n : Nat, as = [.fz (.int (n : Nat))] ∧ n ≤ 12 ∧ Q (.list ((subs n).map natD))
theorem len__law_lots : ∀ as Q, sp__law_lots as Q → as.length = 1 := by rintro as Q ⟨n, rfl, _⟩; rfl
def ws__law_lots : WS := (wSeq (wSet .fz 1 (wLst (wCons (wTup wNil) wNil)))
    (wSeq (wForI (wRng rng1 (wCons (wName 0) wNil)) (gN 2) (wSet .fz 1 (w2 addD (wName 1) (wLc (wSrc (wName 1)) (gN 3) wYes (w2 addD (wName 3) (wTup (wCons (wName 2) wNil))) [3]))))
    (wRet (wName 1))))
theorem addTn {a b : List D} (h : a.length + b.length ≤ 5000) : addD (.tuple a) (.tuple b) = some (.tuple (a ++ b)) := by
  show (if a.length + b.length ≤ sizeLine then some (PyData.tuple (a ++ b)) else none) = _
  rw [if_pos (by rw [sizeLine_eq]; omega)]
theorem natD_app (l m : List Nat) (h : l.length + m.length ≤ 5000) : addD (natD l) (natD m) = some (natD (l ++ m)) := by
  unfold natD
  rw [addTn (by rw [List.length_map, List.length_map]; exact h), List.map_append]
theorem ok_ws__law_lots : ∀ as Q, sp__law_lots as Q → ws__law_lots (env0 4 as) (endsOf Q) := by
  rintro as Q ⟨n, rfl, hn, q⟩
  refine ⟨[], rfl, Nat.zero_le _, [natD []], rfl, (show 1 ≤ sizeLine by decide), _, rfl, ?_⟩
  refine ⟨_, rfl, _, rngV (n := n) (by omega), ?_⟩
  refine wFor_rng (n := n) (fun k env => ∃ s2 s3, env = [.fz (.int (n : Nat)), .fz (.list ((subs k).map natD)), s2, s3]) ?_ ?_ n 0 (by omega) _ ⟨.no, .no, rfl⟩
  · rintro _ ⟨s2, s3, rfl⟩
    exact ⟨_, rfl, _, rfl, q⟩
  · rintro k hk _ De' ⟨s2, s3, rfl⟩ hrt hbk hnx hct
    have c3 := pow12 (k := k) (by omega)
    have sl := subs_len k
    refine ⟨_, rfl, _, rfl, _, rfl, (subs k).map natD, rfl, ?_⟩
    refine lc_enc natD (fun l => natD (l ++ [k])) _ (fun l hl => ⟨_, rfl, fun R r => ?_⟩) (by rw [sizeLine_eq]; omega) ?_
    · have := (mem_subs.mp hl).len
      exact ⟨_, rfl, _, rfl, _, rfl, (show 1 ≤ sizeLine by decide), _, natD_app l [k] (by simp; omega), r⟩
    · refine ⟨_, addLn (by rw [List.length_map, List.length_map]; omega), _, rfl, hnx _ ⟨.fz (.int (k : Nat)), s3, ?_⟩⟩
      rw [subs, List.map_append, List.map_map]; rfl
/-! ### apart, by the law's own rows -/
def sp__law_apart : DL.Spec := fun as Q => ∃ (rows : List (List Int)) (l : List Nat), as = [.fz (rowsD rows), .fz (natD l)] ∧ (∀ k ∈ l, k < rows.length) ∧ l.length ≤ 100 ∧ Q (.bool (apartB rows l))
theorem len__law_apart : ∀ as Q, sp__law_apart as Q → as.length = 2 := by rintro as Q ⟨rows, l, rfl, _⟩; rfl
def ws__law_apart : WS := (wSeq (wForI (wSrc (wName 1)) (gN 2) (wIfS (wTest (w2 neD (wLc (wSrc (wName 1)) (gN 3) (wTest (w2 inV' (wName 3) (wIx (wName 0) (wName 2)))) (wName 3) [3]) (wLst wNil))) (wRet (wC (.fz (.bool false)))) wNext))
    (wRet (wC (.fz (.bool true)))))
theorem in_row {j : Int} {r : List Int} : inV' (.int j) (rwD r) = some (.bool (decide (j ∈ r))) := by
  have s1 : SeqAt.shaped (.int j) = true := by simp [SeqAt.shaped, PyData.canLay0, PyData.depth]
  have s2 : SeqAt.shaped (.list (r.map .int)) = true := by
    simp only [SeqAt.shaped, PyData.canLay0, lay_ints, PyData.depth, PySem.W.depth_ints]; decide
  show ((if SeqAt.shaped (.int j) = true ∧ SeqAt.shaped (.list (r.map .int)) = true then some ((r.map PyData.int).any fun z => z.eqv (.int j)) else none).map fun k => PyData.bool k) = _
  rw [if_pos ⟨s1, s2⟩]
  simp only [Option.map_some]
  congr 2
  rw [Bool.eq_iff_iff]
  simp only [List.any_map, List.any_eq_true, Function.comp, eqv_int, decide_eq_true_eq]
  exact ⟨fun ⟨q, hq, e⟩ => e ▸ hq, fun hq => ⟨j, hq, rfl⟩⟩
theorem ne_natL (l : List Nat) : neD (.list (l.map fun (k : Nat) => .int (k : Int))) (.list []) = some (.bool (decide (l ≠ []))) := by
  have := ne_ints (natI l)
  unfold natI at this
  rw [List.map_map] at this
  have e : decide (l.map (fun (k : Nat) => (k : Int)) ≠ []) = decide (l ≠ []) := by rw [decide_eq_decide]; simp
  rw [e] at this
  exact this
theorem ok_ws__law_apart : ∀ as Q, sp__law_apart as Q → ws__law_apart (env0 4 as) (endsOf Q) := by
  rintro as Q ⟨rows, l, rfl, hl, hz, q⟩
  refine ⟨_, rfl, l.map (fun (k : Nat) => .int (k : Int)), rfl, ?_⟩
  have inner : ∀ i ∈ l, ∀ s3 (P : Bool → Prop), P (decide ((l.filter fun j : Nat => decide ((j : Int) ∈ rows.getD i [])) ≠ [])) → (wTest (w2 neD (wLc (wSrc (wName 1)) (gN 3) (wTest (w2 inV' (wName 3) (wIx (wName 0) (wName 2)))) (wName 3) [3]) (wLst wNil))) [.fz (rowsD rows), .fz (natD l), .fz (.int (i : Nat)), s3] P := fun i hi s3 P p => by
    refine ⟨_, rfl, l.map (fun (k : Nat) => .int (k : Int)), rfl, ?_⟩
    refine lc_encF (fun (k : Nat) => .int (k : Int)) (fun (k : Nat) => .int (k : Int)) (fun j : Nat => decide ((j : Int) ∈ rows.getD i [])) l [] (fun j hj => ⟨_, rfl, fun R r => ⟨_, rfl, _, rfl, _, rfl, _, ix_rows (hl i hi), _, in_row, _, rfl, r⟩, fun _ R r => ⟨_, rfl, r⟩⟩) (by rw [sizeLine_eq]; simp; omega) ?_
    exact ⟨[], rfl, Nat.zero_le _, _, ne_natL _, _, rfl, p⟩
  by_cases h : apartB rows l = true
  · refine wFor_inv (fun env => ∃ s2 s3, env = [.fz (rowsD rows), .fz (natD l), s2, s3]) ?_ _ ?_ _ ⟨.no, .no, rfl⟩
    · rintro _ ⟨s2, s3, rfl⟩
      exact ⟨_, rfl, by rw [h] at q; exact q⟩
    · rintro d hd _ De' ⟨s2, s3, rfl⟩ hrt hnx hct
      obtain ⟨i, hi, rfl⟩ := List.mem_map.mp hd
      refine ⟨_, rfl, inner i hi s3 _ ?_⟩
      have z : (l.filter fun j : Nat => decide ((j : Int) ∈ rows.getD i [])) = [] := by
        rw [List.filter_eq_nil_iff]
        intro j hj c
        unfold apartB at h
        rw [Bool.not_eq_true', List.any_eq_false] at h
        have := h i hi
        rw [Bool.not_eq_true, List.any_eq_false] at this
        exact this j hj c
      rw [z]
      exact ifF (by simp) (hnx _ ⟨_, _, rfl⟩)
  · have hf : apartB rows l = false := by simpa using h
    rw [hf] at q
    -- the first that is not apart
    have ex : ∃ i ∈ l, (l.filter fun j : Nat => decide ((j : Int) ∈ rows.getD i [])) ≠ [] := by
      unfold apartB at hf
      rw [Bool.not_eq_false', List.any_eq_true] at hf
      obtain ⟨i, hi, c⟩ := hf
      obtain ⟨j, hj, c⟩ := List.any_eq_true.mp c
      exact ⟨i, hi, fun z => by rw [List.filter_eq_nil_iff] at z; exact z j hj c⟩
    have key : ∀ (m : List Nat) (s2 s3 : Sl), (∀ i ∈ m, i ∈ l) → (∃ i ∈ m, (l.filter fun j : Nat => decide ((j : Int) ∈ rows.getD i [])) ≠ []) → wFor (gN 2) (wIfS (wTest (w2 neD (wLc (wSrc (wName 1)) (gN 3) (wTest (w2 inV' (wName 3) (wIx (wName 0) (wName 2)))) (wName 3) [3]) (wLst wNil))) (wRet (wC (.fz (.bool false)))) wNext) (m.map fun (k : Nat) => .int (k : Int)) [.fz (rowsD rows), .fz (natD l), s2, s3] { endsOf Q with nx := fun e => (wRet (wC (.fz (.bool true)))) e (endsOf Q) } := by
      intro m
      induction m with
      | nil => rintro _ _ _ ⟨i, hi, _⟩; cases hi
      | cons i r ih =>
        intro s2 s3 hm he
        refine ⟨_, rfl, inner i (hm i (List.mem_cons_self ..)) s3 _ ?_⟩
        by_cases c : (l.filter fun j : Nat => decide ((j : Int) ∈ rows.getD i [])) = []
        · refine ifF (by rw [c]; decide) (ih _ s3 (fun x hx => hm x (List.mem_cons_of_mem _ hx)) ?_)
          obtain ⟨x, hx, cx⟩ := he
          rcases List.mem_cons.mp hx with rfl | hx
          · exact absurd c cx
          · exact ⟨x, hx, cx⟩
        · exact ifT (by simpa using c) ⟨_, rfl, q⟩
    exact key l .no .no (fun _ h => h) ex
end K01
namespace K01
open PySem DL PF PFO PFT G1
/-! ### all forms, by the law's own rows -/
def sp__law_forms : DL.Spec := fun as Q => ∃ (n : Nat) (ps : List Pr) (rows : List (List Int)), as = [.fz (rowsD rows)] ∧ Ord n ps ∧ n ≤ 7 ∧ IsRows ps n rows ∧ Q (.list ((srtL (fnd rows n n)).map natD))
theorem len__law_forms : ∀ as Q, sp__law_forms as Q → as.length = 1 := by rintro as Q ⟨n, ps, rows, rfl, _⟩; rfl
def lf_t : WT := (wTest (w2 neD (wName 2) (wLst wNil)))
def lf_in : WS := (wSet .fz 4 (w2 addD (wName 4) (wLc (wSrc (wIx (wName 0) (wIx (wName 5) (w1 negD (wC (.fz (.int 1))))))) (gN 3) wYes (w2 addD (wName 5) (wTup (wCons (wName 3) wNil))) [3])))
def lf_b : WS := (wSeq (wPar2 .fz 1 .fz 4 (w2 addD (wName 1) (wName 2)) (wLst wNil))
    (wSeq (wForI (wSrc (wName 2)) (gN 5) lf_in) (wSet .fz 2 (wName 4))))
def ws__law_forms : WS := (wSeq (wPar2 .fz 1 .fz 2 (wLst wNil) (wLc (wRng rng1 (wCons (wB lenD (wCons (wName 0) wNil)) wNil)) (gN 3) wYes (wTup (wCons (wName 3) wNil)) [3]))
    (wSeq (wWhile (wTest (w2 neD (wName 2) (wLst wNil))) (wSeq (wPar2 .fz 1 .fz 4 (w2 addD (wName 1) (wName 2)) (wLst wNil))
    (wSeq (wForI (wSrc (wName 2)) (gN 5) (wSet .fz 4 (w2 addD (wName 4) (wLc (wSrc (wIx (wName 0) (wIx (wName 5) (w1 negD (wC (.fz (.int 1))))))) (gN 3) wYes (w2 addD (wName 5) (wTup (wCons (wName 3) wNil))) [3]))))
    (wSet .fz 2 (wName 4)))))
    (wRet (wB sortedD (wCons (wName 1) wNil)))))
theorem len_rows (rows : List (List Int)) : (valL [.fz (rowsD rows)]).bind lenD = some (.int (rows.length : Nat)) := by
  show some (PyData.int ((rows.map rwD).length : Nat)) = _
  rw [List.length_map]
theorem pow7 {n : Nat} (h : n ≤ 7) : 2 ^ n ≤ 128 := Nat.le_trans (Nat.pow_le_pow_right (by decide) h) (by decide)
section
variable {ps : List Pr} {n : Nat} {rows : List (List Int)} {De : DEnds}
theorem lforms_loop (o : Ord n ps) (h7 : n ≤ 7) (hk : IsAb ps n rows) (fin : ∀ s3 s4 s5, De.nx [.fz (rowsD rows), .fz (.list ((fnd rows n n).map natD)), .fz (.list []), s3, s4, s5]) :
    ∀ (r k : Nat) (s3 s4 s5 : Sl), k + r = n → wWh lf_t lf_b (r + 1) [.fz (rowsD rows), .fz (.list ((fnd rows n k).map natD)), .fz (.list ((lay rows n k).map natD)), s3, s4, s5] De := by
  have p7 := pow7 h7
  intro r
  induction r with
  | zero =>
    intro k s3 s4 s5 e
    obtain rfl : k = n := by omega
    have z := lay_end hk o.pr o.no
    refine ⟨_, rfl, [], rfl, Nat.zero_le _, _, ne_nats _, _, rfl, ?_⟩
    rw [z]
    exact ifF rfl (fin s3 s4 s5)
  | succ r ih =>
    intro k s3 s4 s5 e
    have fl := fnd_len hk o.pr o.no k
    have ll := lay_len hk o.pr o.no k
    refine ⟨_, rfl, [], rfl, Nat.zero_le _, _, ne_nats _, _, rfl, ?_⟩
    by_cases z : lay rows n k = []
    · rw [z]
      refine ifF rfl ?_
      have f0 := fnd_stop z (r + 1)
      rw [show k + (r + 1) = n by omega] at f0
      rw [← f0]
      exact fin s3 s4 s5
    · refine ifT (by simpa using z) ?_
      refine ⟨_, rfl, _, rfl, _, addLn (by rw [List.length_map, List.length_map]; omega), [], rfl, Nat.zero_le _, _, rfl, _, rfl, ?_⟩
      refine ⟨_, rfl, (lay rows n k).map natD, rfl, ?_⟩
      let g : List Nat → List (List Nat) := fun f => (rows.getD (f.getLastD 0) []).map fun j => f ++ [j.toNat]
      refine wFor_enc natD (lay rows n k) (fun i env => ∃ s3 s5, env = [.fz (rowsD rows), .fz (.list ((fnd rows n k).map natD ++ (lay rows n k).map natD)), .fz (.list ((lay rows n k).map natD)), s3, .fz (.list ((((lay rows n k).take i).flatMap g).map natD)), s5]) ?_ ?_ _ 0 rfl (Nat.zero_le _) _ ⟨s3, s5, rfl⟩
      · rintro _ ⟨s3, s5, rfl⟩
        have ih' := ih (k + 1) s3 (.fz (.list ((lay rows n (k + 1)).map natD))) s5 (by omega)
        rw [fnd, List.map_append] at ih'
        refine ⟨_, rfl, _, rfl, ?_⟩
        rw [List.take_length]
        exact ih'
      · rintro i f hif _ De' ⟨s3, s5, rfl⟩ hrt hbk hnx hct
        have hf := List.mem_of_getElem? hif
        obtain ⟨f1, f2⟩ := (lay_mem hk o.pr k f).mp hf
        have lt := f2.lt _ (last_mem f1)
        have f3 := f2.len o.no
        have rl := row_len o hk lt
        have lim : ∀ m : List (List Nat), (∀ f ∈ m, f ∈ lay rows n k) → (m.flatMap g).length ≤ m.length * 12 := by
          intro m
          induction m with
          | nil => intro _; simp
          | cons f r ih =>
            intro h
            have := ih fun x hx => h x (List.mem_cons_of_mem _ hx)
            obtain ⟨f1, f2⟩ := (lay_mem hk o.pr k f).mp (h f (List.mem_cons_self ..))
            have rl := row_len o hk (f2.lt _ (last_mem f1))
            rw [List.flatMap_cons, List.length_append, List.length_map, List.length_cons, Nat.add_mul]; omega
        have tl := lim ((lay rows n k).take i) fun x hx => List.take_subset _ _ hx
        have tl2 := List.length_take_le' i (lay rows n k)
        refine ⟨_, rfl, _, rfl, _, rfl, _, rfl, .int (-1), rfl, _, ix_last f1, rwD (rows.getD (f.getLastD 0) []), ix_rows (by rw [hk.1]; exact lt), _, rfl, ?_⟩
        refine lc_enc (fun j : Int => .int j) (fun j => natD (f ++ [j.toNat])) (rows.getD (f.getLastD 0) []) (fun j hj => ⟨_, rfl, fun R rr => ?_⟩) (by rw [sizeLine_eq]; omega) ?_
        · have rg := ((ab_at hk lt).mp hj).rng o.pr
          have ej : (j : Int) = ((j.toNat : Nat) : Int) := (Int.toNat_of_nonneg rg.2.1).symm
          refine ⟨_, rfl, _, rfl, [.int j], rfl, (show 1 ≤ sizeLine by decide), natD (f ++ [j.toNat]), ?_, rr⟩
          have := natD_app f [j.toNat] (by simp; omega)
          unfold natD at this ⊢
          simp only [List.map_cons, List.map_nil] at this
          rw [← ej] at this
          exact this
        · refine ⟨_, addLn (by rw [List.length_map, List.length_map]; omega), _, rfl, hnx _ ⟨s3, .fz (natD f), ?_⟩⟩
          have tk : (lay rows n k).take (i + 1) = (lay rows n k).take i ++ [f] := by rw [List.take_succ, hif]; rfl
          rw [tk, List.flatMap_append, List.map_append, List.flatMap_cons, List.flatMap_nil, List.append_nil]
          show _ = [_, _, _, _, Sl.fz (.list (((List.flatMap g (List.take i (lay rows n k))).map natD) ++ (g f).map natD)), _]
          have : (g f).map natD = (rows.getD (f.getLastD 0) []).map fun j => natD (f ++ [j.toNat]) := by show ((rows.getD (f.getLastD 0) []).map fun j => f ++ [j.toNat]).map natD = _; rw [List.map_map]; rfl
          rw [this]; rfl
end
theorem ok_ws__law_forms : ∀ as Q, sp__law_forms as Q → ws__law_forms (env0 6 as) (endsOf Q) := by
  rintro as Q ⟨n, ps, rows, rfl, o, h7, hr, q⟩
  have hk := rows_ab hr
  have rl := hr.len
  refine ⟨[], rfl, Nat.zero_le _, _, rfl, _, len_rows rows, _, rngV (n := rows.length) (by omega), ?_⟩
  refine lc_enc (fun i : Nat => .int (i : Nat)) (fun k => natD [k]) _ (fun k hk0 => ⟨_, rfl, fun R r => ⟨_, rfl, _, rfl, (show 1 ≤ sizeLine by decide), r⟩⟩) (by rw [List.length_range']; exact small_sz (by omega)) ?_
  refine ⟨_, rfl, _, rfl, n + 1, ?_⟩
  have := lforms_loop (De := { nx := fun e => (wRet (wB sortedD (wCons (wName 1) wNil))) e (endsOf Q), rt := (endsOf Q).rt, bk := (endsOf Q).bk, ct := (endsOf Q).ct }) o h7 hk (fun s3 s4 s5 => ?_) n 0 .no .no .no (by omega)
  · have e : (lay rows n 0).map natD = (List.range' 0 rows.length).map fun k => natD [k] := by rw [lay, List.map_map, rl]; rfl
    rw [e] at this
    exact this
  · exact ⟨_, rfl, _, sorted_forms (fun f hf => ((fnd_mem hk o.pr n f).mp hf).1) (by have := fnd_len hk o.pr o.no n; have := pow7 h7; omega), _, rfl, q⟩
/-! ### how tall, by the law's own table -/
def esB (bs : List (Nat × Int)) : List (D × D) := bs.map fun p => (.int (p.1 : Nat), .int p.2)
def lkB : List (Nat × Int) → Nat → Option Int
  | [], _ => none
  | p :: r, x => if p.1 = x then some p.2 else lkB r x
def putB (bs : List (Nat × Int)) (x : Nat) (v : Int) : List (Nat × Int) := if (bs.any fun p => decide (p.1 = x)) = true then bs.map fun p => if p.1 = x then (p.1, v) else p else bs ++ [(x, v)]
theorem eqv_nat (a b : Nat) : PyData.eqv (.int (a : Nat)) (.int (b : Nat)) = decide (a = b) := by
  rw [eqv_int, decide_eq_decide]; omega
theorem dlook_esB (bs : List (Nat × Int)) (x : Nat) : dlook (esB bs) (.int (x : Nat)) = (lkB bs x).map .int := by
  unfold dlook esB
  induction bs with
  | nil => rfl
  | cons p r ih =>
    rw [List.map_cons, List.find?_cons, lkB]
    simp only [eqv_nat]
    by_cases h : p.1 = x
    · rw [if_pos h, decide_eq_true h]; rfl
    · rw [if_neg h, decide_eq_false h]; exact ih
theorem dfind_esB (bs : List (Nat × Int)) (x : Nat) : dfind (esB bs) (.int (x : Nat)) = some ((lkB bs x).map .int) := by
  have h : ((esB bs).all fun p => !isT p.1) = true := by
    unfold esB
    rw [List.all_map, List.all_eq_true]
    exact fun _ _ => rfl
  show (if ((esB bs).all fun p => !isT p.1) = true then some (dlook (esB bs) (.int (x : Nat))) else none) = _
  rw [if_pos h, dlook_esB]
theorem dput_esB (bs : List (Nat × Int)) (x : Nat) (v : Int) : dput (esB bs) (.int (x : Nat)) (.int v) = esB (putB bs x v) := by
  unfold dput putB
  have e : ((esB bs).any fun p => p.1.eqv (.int (x : Nat))) = bs.any fun p => decide (p.1 = x) := by
    unfold esB
    rw [List.any_map]
    congr 1; funext p
    exact eqv_nat _ _
  rw [e]
  by_cases h : (bs.any fun p => decide (p.1 = x)) = true
  · rw [if_pos h, if_pos h]
    unfold esB
    rw [List.map_map, List.map_map]
    refine List.map_congr_left fun p _ => ?_
    simp only [Function.comp, eqv_nat, decide_eq_true_eq]
    split <;> rfl
  · rw [if_neg h, if_neg h]
    unfold esB
    rw [List.map_append]; rfl
theorem lk_map (x y : Nat) (v : Int) : ∀ bs : List (Nat × Int), lkB (bs.map fun p => if p.1 = x then (p.1, v) else p) y = if y = x then (if (bs.any fun p => decide (p.1 = x)) = true then some v else none) else lkB bs y
  | [] => by simp [lkB]
  | p :: r => by
    have ih := lk_map x y v r
    rw [List.map_cons, lkB, lkB, ih, List.any_cons]
    by_cases c : p.1 = x
    · by_cases d : y = x
      · simp [c, d]
      · have : ¬ p.1 = y := by omega
        simp [c, d, this]
        have : ¬ x = y := by omega
        simp [this]
    · rw [decide_eq_false c, Bool.false_or]
      by_cases d : y = x
      · have : ¬ p.1 = y := by omega
        simp only [if_neg c, if_pos d, if_neg this]
      · simp only [if_neg c, if_neg d]
theorem lk_app (x y : Nat) (v : Int) : ∀ bs : List (Nat × Int), (bs.any fun p => decide (p.1 = x)) = false → lkB (bs ++ [(x, v)]) y = if y = x then some v else lkB bs y
  | [], _ => by
    by_cases d : y = x
    · simp [lkB, d]
    · have : ¬ x = y := by omega
      simp [lkB, d, this]
  | p :: r, h => by
    rw [List.any_cons, Bool.or_eq_false_iff, decide_eq_false_iff_not] at h
    have ih := lk_app x y v r h.2
    rw [List.cons_append, lkB, lkB, ih]
    by_cases d : y = x
    · have : ¬ p.1 = y := by have := h.1; omega
      simp [this, d]
      have := h.1
      simp [this]
    · simp [d]
theorem lk_put (bs : List (Nat × Int)) (x y : Nat) (v : Int) : lkB (putB bs x v) y = if y = x then some v else lkB bs y := by
  unfold putB
  by_cases h : (bs.any fun p => decide (p.1 = x)) = true
  · rw [if_pos h, lk_map, if_pos h]
  · rw [if_neg h, lk_app x y v bs (Bool.not_eq_true _ ▸ h)]
theorem len_put (bs : List (Nat × Int)) (x : Nat) (v : Int) : (putB bs x v).length ≤ bs.length + 1 := by
  unfold putB
  split
  · rw [List.length_map]; omega
  · rw [List.length_append]; simp
end K01
namespace K01
open PySem DL PF PFO PFT G1
def sp__law_tall : DL.Spec := fun as Q => ∃ (n : Nat) (ps : List Pr) (rows : List (List Int)) (l : List Nat), as = [.fz (rowsD rows), .fz (natD l)] ∧ Ord n ps ∧ IsAb ps n rows ∧ Lot n l ∧ ∀ t, IsTall ps l t → Q (.int (t : Nat))
theorem len__law_tall : ∀ as Q, sp__law_tall as Q → as.length = 2 := by rintro as Q ⟨n, ps, rows, l, rfl, _⟩; rfl
def lt_in : WS := (wPut 2 (wName 4) (w2 addD (wC (.fz (.int 1))) (wB maxD (wCons (w2 addD (wLst (wCons (wC (.fz (.int 0))) wNil)) (wLc (wSrc (wIx (wName 0) (wName 4))) (gN 5) (wTest (w2 inV' (wName 5) (wName 1))) (wGet2 (wName 2) (wName 5) (wC (.fz (.int 0)))) [5])) wNil))))
def ws__law_tall : WS := (wSeq (wSet .own 2 (wC (.nw (.dict []))))
    (wSeq (wForI (wRng rng1 (wCons (w2 addD (wB lenD (wCons (wName 1) wNil)) (wC (.fz (.int 1)))) wNil)) (gN 3) (wForI (wSrc (wName 1)) (gN 4) (wPut 2 (wName 4) (w2 addD (wC (.fz (.int 1))) (wB maxD (wCons (w2 addD (wLst (wCons (wC (.fz (.int 0))) wNil)) (wLc (wSrc (wIx (wName 0) (wName 4))) (gN 5) (wTest (w2 inV' (wName 5) (wName 1))) (wGet2 (wName 2) (wName 5) (wC (.fz (.int 0)))) [5])) wNil))))))
    (wRet (wB maxD (wCons (w2 addD (wLst (wCons (wC (.fz (.int 0))) wNil)) (wLc (wSrc (wName 1)) (gN 4) wYes (wIx (wName 2) (wName 4)) [4])) wNil)))))
/-- what the table tells of a kind, so many rounds done -/
def Gd (ps : List Pr) (l : List Nat) (c : Nat) (bs : List (Nat × Int)) (x : Nat) : Prop := match lkB bs x with
  | some b => (∃ f, FrmIn ps l (x :: f) ∧ b = (f.length : Int) + 1) ∧ ∀ f, FrmIn ps l (x :: f) → f.length + 1 ≤ c → (f.length : Int) + 1 ≤ b
  | none => c = 0
theorem Gd.less {ps : List Pr} {l : List Nat} {c : Nat} {bs : List (Nat × Int)} {x : Nat} (h : Gd ps l (c + 1) bs x) : Gd ps l c bs x := by
  unfold Gd at h ⊢
  cases e : lkB bs x with
  | none => rw [e] at h; cases h
  | some b =>
    rw [e] at h
    exact ⟨h.1, fun f hf hl => h.2 f hf (by omega)⟩
theorem Gd.congr {ps : List Pr} {l : List Nat} {c : Nat} {bs bs' : List (Nat × Int)} {x : Nat} (e : lkB bs' x = lkB bs x) (h : Gd ps l c bs x) : Gd ps l c bs' x := by
  unfold Gd at h ⊢
  rw [e]; exact h
theorem max0 (ns : List Int) : ∃ M : Int, maxD [.list ((0 :: ns).map .int)] = some (.int M) ∧ (M = 0 ∨ M ∈ ns) ∧ 0 ≤ M ∧ ∀ y ∈ ns, y ≤ M := by
  obtain ⟨f1, f2, f3⟩ := foldl_max ns 0
  refine ⟨ns.foldl max 0, ?_, f1, f2, f3⟩
  show ((intsOf ((0 :: ns).map .int)).bind maxI).map _ = _
  have e : intsOf ((0 :: ns).map PyData.int) = some (0 :: ns) := by have := intsOf_map (fun x : Int => x) (0 :: ns); simpa using this
  rw [e]; rfl
section
variable {ps : List Pr} {n : Nat} {rows : List (List Int)} {l : List Nat}
/-- one entry more -/
theorem gd_step (o : Ord n ps) (hk : IsAb ps n rows) (hl : Lot n l) {c : Nat} {bs : List (Nat × Int)} {x : Nat} (hx : x ∈ l) (h : ∀ y ∈ l, Gd ps l c bs y) {M : Int}
    (m1 : M = 0 ∨ M ∈ ((rows.getD x []).filter fun j => decide (j ∈ l.map fun (k : Nat) => (k : Int))).map fun j => (lkB bs j.toNat).getD 0) (m2 : 0 ≤ M) (m3 : ∀ y ∈ ((rows.getD x []).filter fun j => decide (j ∈ l.map fun (k : Nat) => (k : Int))).map fun j => (lkB bs j.toNat).getD 0, y ≤ M) :
    Gd ps l (c + 1) (putB bs x (1 + M)) x := by
  have xn := hl.lt x hx
  unfold Gd
  rw [lk_put, if_pos rfl]
  refine ⟨?_, fun f hf hc => ?_⟩
  · rcases m1 with rfl | m1
    · exact ⟨[], ⟨by simp, fun k hk => List.mem_singleton.mp hk ▸ hx⟩, by simp⟩
    · obtain ⟨j, hj, e⟩ := List.mem_map.mp m1
      obtain ⟨j1, j2⟩ := List.mem_filter.mp hj
      obtain ⟨y, hy, rfl⟩ := List.mem_map.mp (of_decide_eq_true j2)
      rw [Int.toNat_natCast] at e
      have r := (ab_at hk xn).mp j1
      have g := h y hy
      unfold Gd at g
      cases q : lkB bs y with
      | none =>
        rw [q] at e
        have : M = 0 := e.symm
        subst this
        exact ⟨[], ⟨by simp, fun k hk => List.mem_singleton.mp hk ▸ hx⟩, by simp⟩
      | some b =>
        rw [q] at g e
        obtain ⟨f, hf, eb⟩ := g.1
        have eM : M = b := e.symm
        refine ⟨y :: f, ⟨List.pairwise_cons.mpr ⟨fun z hz => ?_, hf.ch⟩, fun k hk => ?_⟩, by rw [eM, eb, List.length_cons]; omega⟩
        · rcases List.mem_cons.mp hz with rfl | hz
          · exact r
          · exact r.trans ((List.pairwise_cons.mp hf.ch).1 z hz)
        · rcases List.mem_cons.mp hk with rfl | hk
          · exact hx
          · exact hf.sub k hk
  · cases f with
    | nil => simp; omega
    | cons y f =>
      obtain ⟨c1, c2⟩ := List.pairwise_cons.mp hf.ch
      have hy : y ∈ l := hf.sub y (by simp)
      have fy : FrmIn ps l (y :: f) := ⟨c2, fun k hk => hf.sub k (List.mem_cons_of_mem _ hk)⟩
      have g := h y hy
      unfold Gd at g
      rw [List.length_cons] at hc ⊢
      cases q : lkB bs y with
      | none => rw [q] at g; exfalso; have : c = 0 := g; omega
      | some b =>
        rw [q] at g
        have h1 := g.2 f fy (by omega)
        have h2 := m3 b (List.mem_map.mpr ⟨(y : Int), List.mem_filter.mpr ⟨(ab_at hk xn).mpr (c1 y (by simp)), decide_eq_true (List.mem_map.mpr ⟨y, hy, rfl⟩)⟩, by rw [Int.toNat_natCast, q]; rfl⟩)
        omega
theorem tall_of (hl : Lot n l) (o : Ord n ps) {bs : List (Nat × Int)} (h : ∀ y ∈ l, Gd ps l (l.length + 1) bs y) {M : Int} (m1 : M = 0 ∨ M ∈ l.map fun x => (lkB bs x).getD 0) (m2 : 0 ≤ M) (m3 : ∀ y ∈ l.map fun x => (lkB bs x).getD 0, y ≤ M) : ∃ t : Nat, M = (t : Int) ∧ IsTall ps l t := by
  have ll : ∀ f, FrmIn ps l f → f.length ≤ l.length := fun f hf => nd_le f l (Frm.nd (n := n) o.no ⟨hf.ch, fun k hk => hl.lt k (hf.sub k hk)⟩) hf.sub
  obtain ⟨t, rfl⟩ := Int.eq_ofNat_of_zero_le m2
  refine ⟨t, rfl, ?_, fun f hf => ?_⟩
  · rcases m1 with m1 | m1
    · exact ⟨[], ⟨List.Pairwise.nil, fun _ z => nomatch z⟩, by simp; omega⟩
    · obtain ⟨x, hx, e⟩ := List.mem_map.mp m1
      have g := h x hx
      unfold Gd at g
      cases q : lkB bs x with
      | none => rw [q] at g; cases g
      | some b =>
        rw [q] at g e
        obtain ⟨f, hf, eb⟩ := g.1
        have : b = (t : Int) := e
        exact ⟨x :: f, hf, by rw [List.length_cons]; omega⟩
  · cases f with
    | nil => exact Nat.zero_le _
    | cons x f =>
      have hx : x ∈ l := hf.sub x (by simp)
      have g := h x hx
      have lf := ll _ hf
      unfold Gd at g
      rw [List.length_cons] at lf ⊢
      cases q : lkB bs x with
      | none => rw [q] at g; cases g
      | some b =>
        rw [q] at g
        have h1 := g.2 f hf (by omega)
        have h2 := m3 b (List.mem_map.mpr ⟨x, hx, by rw [q]; rfl⟩)
        omega
end
theorem get_opt (r : Option Int) : ((r.map PyData.int).getD (.int 0)) = .int (r.getD 0) := by cases r <;> rfl
theorem ok_ws__law_tall : ∀ as Q, sp__law_tall as Q → ws__law_tall (env0 6 as) (endsOf Q) := by
  rintro as Q ⟨n, ps, rows, l, rfl, o, hk, hl, q⟩
  have hn := o.hi
  have ll := hl.len
  have nd : l.Nodup := hl.asc.imp fun z => Nat.ne_of_lt z
  refine ⟨_, rfl, ?_⟩
  refine ⟨_, rfl, .int (l.length : Nat), ?_, .int ((l.length + 1 : Nat) : Int), rfl, _, rngV (n := l.length + 1) (by omega), ?_⟩
  · show some (PyData.int ((l.map fun (k : Nat) => PyData.int (k : Int)).length : Nat)) = _
    rw [List.length_map]
  refine wFor_rng (n := l.length + 1) (fun c env => ∃ (bs : List (Nat × Int)) (s3 s4 s5 : Sl), env = [.fz (rowsD rows), .fz (natD l), .own (.dict (esB bs)), s3, s4, s5] ∧ bs.length ≤ c * 12 ∧ ∀ y ∈ l, Gd ps l c bs y) ?_ ?_ (l.length + 1) 0 (by omega) _ ⟨[], .no, .no, .no, rfl, Nat.zero_le _, fun y _ => rfl⟩
  · rintro _ ⟨bs, s3, s4, s5, rfl, _, g⟩
    refine ⟨[.int 0], rfl, (show 1 ≤ sizeLine by decide), _, rfl, l.map (fun (k : Nat) => .int (k : Int)), rfl, ?_⟩
    refine lc_enc (fun (k : Nat) => .int (k : Int)) (fun (k : Nat) => .int ((lkB bs k).getD 0)) l (fun x hx => ⟨_, rfl, fun R r => ?_⟩) (by rw [sizeLine_eq]; omega) ?_
    · have gx := g x hx
      unfold Gd at gx
      cases e : lkB bs x with
      | none => rw [e] at gx; cases gx
      | some b =>
        rw [e] at r
        refine ⟨_, rfl, _, rfl, .int b, ?_, r⟩
        show (dfind (esB bs) (.int (x : Nat))).bind id = _
        rw [dfind_esB, e]; rfl
    · obtain ⟨M, e, m1, m2, m3⟩ := max0 (l.map fun x => (lkB bs x).getD 0)
      have e2 : addD (.list [.int 0]) (.list (l.map fun (k : Nat) => PyData.int ((lkB bs k).getD 0))) = some (.list ((0 :: l.map fun x => (lkB bs x).getD 0).map .int)) := by
        rw [addLn (by rw [List.length_map]; simp; omega), List.map_cons, List.map_map]; rfl
      obtain ⟨t, rfl, ht⟩ := tall_of hl o g m1 m2 m3
      exact ⟨_, e2, _, e, _, rfl, q t ht⟩
  · rintro c hc _ De' ⟨bs, s3, s4, s5, rfl, bl, g⟩ hrt hbk hnx hct
    refine ⟨_, rfl, _, rfl, l.map (fun (k : Nat) => .int (k : Int)), rfl, ?_⟩
    refine wFor_enc (fun (k : Nat) => .int (k : Int)) l (fun i env => ∃ (bs : List (Nat × Int)) (s3 s4 s5 : Sl), env = [.fz (rowsD rows), .fz (natD l), .own (.dict (esB bs)), s3, s4, s5] ∧ bs.length ≤ c * 12 + i ∧ (∀ y ∈ l, Gd ps l c bs y) ∧ ∀ y ∈ l.take i, Gd ps l (c + 1) bs y) ?_ ?_ _ 0 rfl (Nat.zero_le _) _ ⟨bs, _, s4, s5, rfl, by omega, g, fun _ z => (nomatch z)⟩
    · rintro _ ⟨bs, s3, s4, s5, rfl, bl, g1, g2⟩
      refine hnx _ ⟨bs, s3, s4, s5, rfl, by omega, fun y hy => ?_⟩
      rw [List.take_length] at g2
      exact g2 y hy
    · rintro i x hix _ De'' ⟨bs, s3, s4, s5, rfl, bl, g1, g2⟩ hrt' hbk' hnx' hct'
      have hx : x ∈ l := List.mem_of_getElem? hix
      have hil : i < l.length := (List.getElem?_eq_some_iff.mp hix).1
      have xn := hl.lt x hx
      have rl := row_len o hk xn
      have eb : (esB bs).length = bs.length := by unfold esB; rw [List.length_map]
      refine ⟨_, rfl, esB bs, rfl, ?_⟩
      refine ⟨[.int 0], rfl, (show 1 ≤ sizeLine by decide), _, rfl, _, rfl, rwD (rows.getD x []), ix_rows (by rw [hk.1]; exact xn), _, rfl, ?_⟩
      refine lc_encF (fun j : Int => .int j) (fun j : Int => .int ((lkB bs j.toNat).getD 0)) (fun j => decide (j ∈ l.map fun (k : Nat) => (k : Int))) (rows.getD x []) [] (fun j hj => ⟨_, rfl, fun R r => ⟨_, rfl, _, rfl, _, in_nat, _, rfl, r⟩, fun hb R r => ?_⟩) (by rw [sizeLine_eq, List.length_nil]; omega) ?_
      · obtain ⟨y, hy, rfl⟩ := List.mem_map.mp (of_decide_eq_true hb)
        rw [Int.toNat_natCast] at r
        refine ⟨_, rfl, esB bs, rfl, _, rfl, .int (y : Nat), _, .int 0, rfl, dfind_esB bs y, rfl, ?_⟩
        rw [get_opt]; exact r
      · obtain ⟨M, e, m1, m2, m3⟩ := max0 (((rows.getD x []).filter fun j => decide (j ∈ l.map fun (k : Nat) => (k : Int))).map fun j => (lkB bs j.toNat).getD 0)
        have fl := List.length_filter_le (fun j => decide (j ∈ l.map fun (k : Nat) => (k : Int))) (rows.getD x [])
        have e2 : addD (.list [.int 0]) (.list ([] ++ ((rows.getD x []).filter fun j => decide (j ∈ l.map fun (k : Nat) => (k : Int))).map fun j : Int => PyData.int ((lkB bs j.toNat).getD 0))) = some (.list ((0 :: ((rows.getD x []).filter fun j => decide (j ∈ l.map fun (k : Nat) => (k : Int))).map fun j => (lkB bs j.toNat).getD 0).map .int)) := by
          rw [addLn (by rw [List.nil_append, List.length_map, List.length_singleton]; omega), List.map_cons, List.map_map, List.nil_append]; rfl
        refine ⟨_, e2, _, e, .int (1 + M), rfl, _, rfl, .int (1 + M), .int (x : Nat), rfl, rfl, ?_, by rw [eb, sizeLine_eq]; omega, ?_⟩
        · unfold putOk
          rw [dfind_esB]; rfl
        · rw [dput_esB]
          have st := gd_step o hk hl hx g1 m1 m2 m3
          have lp := len_put bs x (1 + M)
          refine hnx' _ ⟨putB bs x (1 + M), s3, _, s5, rfl, by omega, fun y hy => ?_, fun y hy => ?_⟩
          · by_cases z : y = x
            · subst z; exact st.less
            · exact (g1 y hy).congr (by rw [lk_put, if_neg z])
          · rw [List.take_succ, hix] at hy
            by_cases z : y = x
            · subst z; exact st
            · rcases List.mem_append.mp hy with hy | hy
              · exact (g2 y hy).congr (by rw [lk_put, if_neg z])
              · exact absurd (by simpa using hy) z
end K01
namespace K01
open PySem DL PF PFO PFT G1
/-! ### lots in lists -/
theorem eqv_natD (a b : List Nat) : PyData.eqv (natD a) (natD b) = decide (a = b) := by
  have e : ∀ l : List Nat, natD l = tD (l.map fun (k : Nat) => (Sum.inl (k : Int) : L2.Key)) := fun l => by
    unfold natD tD; rw [List.map_map]; rfl
  rw [e, e, tD_eqv, decide_eq_decide]
  constructor
  · intro h
    refine natI_inj ?_
    have := congrArg (List.map fun k : L2.Key => match k with | .inl i => i | .inr _ => 0) h
    rw [List.map_map, List.map_map] at this
    exact this
  · intro h; rw [h]
theorem shp_natD (l : List Nat) : SeqAt.shaped (natD l) = true := by
  rw [natD_box]
  simp only [SeqAt.shaped, boxD, PyData.canLay0, lay_ints, PyData.depth, PySem.W.depth_ints]; decide
theorem in_nats {l : List Nat} {L : List (List Nat)} : inV' (natD l) (.list (L.map natD)) = some (.bool (decide (l ∈ L))) := by
  show ((if SeqAt.shaped (natD l) = true ∧ SeqAt.shaped (.list (L.map natD)) = true then some ((L.map natD).any fun z => z.eqv (natD l)) else none).map fun k => PyData.bool k) = _
  rw [if_pos ⟨shp_natD l, shp_nats L⟩]
  simp only [Option.map_some]
  congr 2
  rw [Bool.eq_iff_iff]
  simp only [List.any_map, List.any_eq_true, Function.comp, eqv_natD, decide_eq_true_eq]
  exact ⟨fun ⟨q, hq, e⟩ => e ▸ hq, fun hq => ⟨l, hq, rfl⟩⟩
theorem eq_nats (L : List (List Nat)) : eqD (.list (L.map natD)) (.list []) = some (.bool (decide (L = []))) := by
  unfold eqD
  rw [if_pos ⟨shp_nats L, by decide⟩]
  cases L with
  | nil => rfl
  | cons p r => rfl
theorem eq_natL (l : List Nat) : eqD (.list (l.map fun (k : Nat) => .int (k : Int))) (.list []) = some (.bool (decide (l = []))) := by
  have s2 : SeqAt.shaped (.list (l.map fun (k : Nat) => PyData.int (k : Int))) = true := by
    have : (l.map fun (k : Nat) => PyData.int (k : Int)) = (natI l).map .int := by unfold natI; rw [List.map_map]; rfl
    rw [this]
    simp only [SeqAt.shaped, PyData.canLay0, lay_ints, PyData.depth, PySem.W.depth_ints]; decide
  unfold eqD
  rw [if_pos ⟨s2, by decide⟩]
  cases l <;> rfl
theorem ne_row (r : List Int) : neD (rwD r) (rwD r) = some (.bool false) := by
  have lay : (rwD r).canLay0 = true := lay_ints r
  have s2 : SeqAt.shaped (rwD r) = true := by
    unfold rwD
    simp only [SeqAt.shaped, PyData.canLay0, lay_ints, PyData.depth, PySem.W.depth_ints]; decide
  unfold neD
  rw [if_pos ⟨s2, s2⟩, SeqAt.eqv_refl _ lay]; rfl
/-! ### sorted kinds -/
def srtN (l : List Nat) : List Nat := l.mergeSort fun a b => decide (a ≤ b)
theorem sortD_ints (l : List Nat) : sortD (l.map fun (k : Nat) => .int (k : Int)) = (srtN l).map fun (k : Nat) => .int (k : Int) := by
  unfold sortD srtN
  rw [List.map_mergeSort]
  intro a _ b _
  have := congrFun (congrFun (PySem.W.dataLe_int (fun k : Nat => (k : Int))) a) b
  have e : PySem.W.dataLe false id (PyData.int (a : Nat)) (PyData.int (b : Nat)) = decide ((a : Int) ≤ (b : Int)) := this
  rw [e, decide_eq_decide]; omega
theorem sorted_lot (l : List Nat) (h : l.length ≤ 100) : sortedD [natD l] = some (.list ((srtN l).map fun (k : Nat) => .int (k : Int))) := by
  show (if sortOk (l.map fun (k : Nat) => PyData.int (k : Int)) = true then some (PyData.list (sortD (l.map fun (k : Nat) => PyData.int (k : Int)))) else none) = _
  rw [if_pos, sortD_ints]
  have h1 : alikeB (l.map fun (k : Nat) => PyData.int (k : Int)) = true := by
    simp only [alikeB, List.all_map, List.all_eq_true, Function.comp]
    exact fun a _ b _ => by simp [PySem.W.alike]
  have h2 : (l.map fun (k : Nat) => PyData.int (k : Int)).all plain1 = true := by
    rw [List.all_map, List.all_eq_true]
    exact fun _ _ => rfl
  have h3 : PyData.canLayAll0 (l.map fun (k : Nat) => PyData.int (k : Int)) = true := by
    have := lay_ints (natI l); unfold natI at this; rw [List.map_map] at this; exact this
  have h4 : (l.map fun (k : Nat) => PyData.int (k : Int)).all (fun d => decide (d.depth ≤ 50)) = true := by
    rw [List.all_map, List.all_eq_true]
    intro k _
    simp [Function.comp, PyData.depth]
  simp only [sortOk, h1, h2, h3, h4, Bool.or_true, Bool.true_or, Bool.and_true, Bool.true_and, List.length_map, decide_eq_true_eq, sizeLine_eq]
  omega
theorem srtN_perm (l : List Nat) : (srtN l).Perm l := List.mergeSort_perm _ _
theorem srtN_lot {n : Nat} {l : List Nat} {k : Nat} (hl : Lot n l) (hk : k < n) (h : k ∉ l) : Lot n (srtN (l ++ [k])) := by
  have pm := srtN_perm (l ++ [k])
  have nd : (l ++ [k]).Nodup := List.nodup_append.mpr ⟨hl.asc.imp fun z => Nat.ne_of_lt z, by simp, fun a ha b hb e => h ((List.mem_singleton.mp hb) ▸ e ▸ ha)⟩
  have nd2 : (srtN (l ++ [k])).Nodup := pm.nodup_iff.mpr nd
  have so : (srtN (l ++ [k])).Pairwise fun a b => a ≤ b := by
    have := List.pairwise_mergeSort (le := fun a b : Nat => decide (a ≤ b)) (fun a b c h1 h2 => by simp at *; omega) (fun a b => by simp; omega) (l ++ [k])
    exact this.imp fun {a b} z => of_decide_eq_true z
  refine ⟨(so.and nd2).imp fun {a b} z => by omega, fun x hx => ?_⟩
  rcases List.mem_append.mp (pm.mem_iff.mp hx) with q | q
  · exact hl.lt x q
  · have : x = k := by simpa using q
    omega
/-! ### apart, full, by any table -/
section
variable {ps : List Pr} {n : Nat} {kss rows : List (List Int)}
theorem apart_same (hk : IsAb ps n kss) (hr : IsAb ps n rows) {l : List Nat} (hl : ∀ k ∈ l, k < n) : apartB kss l = apartB rows l := by
  rw [Bool.eq_iff_iff, apart_iff hk hl, apart_iff hr hl]
theorem apart_perm (hr : IsAb ps n rows) {l m : List Nat} (p : l.Perm m) (hl : ∀ k ∈ l, k < n) : apartB rows l = apartB rows m := by
  rw [Bool.eq_iff_iff, apart_iff hr hl, apart_iff hr fun k hk => hl k (p.mem_iff.mpr hk)]
  exact ⟨fun h i hi j hj => h i (p.mem_iff.mpr hi) j (p.mem_iff.mpr hj), fun h i hi j hj => h i (p.mem_iff.mp hi) j (p.mem_iff.mp hj)⟩
theorem any_cg {α : Type} {f g : α → Bool} : ∀ l : List α, (∀ x ∈ l, f x = g x) → l.any f = l.any g
  | [], _ => rfl
  | x :: r, h => by rw [List.any_cons, List.any_cons, h x (List.mem_cons_self ..), any_cg r fun y hy => h y (List.mem_cons_of_mem _ hy)]
theorem full_same (hk : IsAb ps n kss) (hr : IsAb ps n rows) {l : List Nat} (hl : Lot n l) : fullB kss n l = fullB rows n l := by
  unfold fullB
  congr 1
  refine any_cg _ fun k hk' => ?_
  rw [apart_same hk hr]
  intro x hx
  rcases List.mem_append.mp hx with q | q
  · exact hl.lt x q
  · have : x = k := by simpa using q
    have := List.mem_range'.mp hk'
    omega
theorem subs_nd : ∀ k, (subs k).Nodup
  | 0 => by simp [subs]
  | k + 1 => by
    rw [subs]
    refine List.nodup_append.mpr ⟨subs_nd k, nodup_map (fun a b e => by simpa using e) (subs_nd k), fun a ha b hb e => ?_⟩
    obtain ⟨m, _, rfl⟩ := List.mem_map.mp hb
    have := (mem_subs.mp ha).lt k (by rw [e]; simp)
    omega
theorem clu_nd (kss : List (List Int)) : ∀ k, (clu kss k).Nodup
  | 0 => by simp [clu]
  | k + 1 => by
    rw [clu]
    refine List.nodup_append.mpr ⟨clu_nd kss k, nodup_map (fun a b e => by simpa using e) ((clu_nd kss k).filter _), fun a ha b hb e => ?_⟩
    obtain ⟨m, _, rfl⟩ := List.mem_map.mp hb
    have := ((clu_small kss k).2 a ha).2 k (by rw [e]; simp)
    omega
def flat (rows : List (List Int)) (n : Nat) : List (List Nat) := (subs n).filter (apartB rows)
theorem mem_flat {l : List Nat} : l ∈ flat rows n ↔ Lot n l ∧ apartB rows l = true := by
  unfold flat
  rw [List.mem_filter, mem_subs]
theorem flat_clu (hk : IsAb ps n kss) (hr : IsAb ps n rows) : (clu kss n).Perm (flat rows n) := by
  refine nd_perm (clu_nd kss n) ((subs_nd n).filter _) fun l => ?_
  rw [mem_clu hk n (Nat.le_refl _), mem_flat]
  constructor
  · intro h
    exact ⟨⟨h.asc, h.lt⟩, (apart_iff hr h.lt).mpr h.no⟩
  · rintro ⟨h, a⟩
    exact ⟨h.asc, h.lt, (apart_iff hr h.lt).mp a⟩
/-- the program's clutters are the law's -/
theorem clutters_same {kss' : List (List Int)} (hk : IsAb ps n kss) (hk' : IsAb ps n kss') (hr : IsAb ps n rows) : (srtL (clu kss' n)).filter (fullB kss n) = srtL ((flat rows n).filter (fullB rows n)) := by
  rw [srt_filter, srt_perm ((flat_clu hk' hr).filter _)]
  congr 1
  refine List.filter_congr fun l hl => full_same hk hr (mem_flat.mp hl).1
theorem forms_same (hk : IsAb ps n kss) (hr : IsAb ps n rows) (pr : ∀ p ∈ ps, isPair n p.1 p.2 = true) : srtL (fnd kss n n) = srtL (fnd rows n n) :=
  srt_perm (nd_perm (fnd_nd hk pr n) (fnd_nd hr pr n) fun f => by rw [fnd_mem hk pr, fnd_mem hr pr])
theorem full_ne (o : Ord n ps) (hr : IsAb ps n rows) {l : List Nat} (h : fullB rows n l = true) : l ≠ [] := fun z => by
  subst z
  unfold fullB at h
  rw [Bool.not_eq_true', List.any_eq_false] at h
  have := h 0 (List.mem_range'.mpr ⟨0, o.lo, rfl⟩)
  refine this ?_
  rw [Bool.and_eq_true]
  refine ⟨rfl, (apart_iff hr fun k hk => ?_).mpr fun i hi j hj r => ?_⟩
  · have : k = 0 := by simpa using hk
    have := o.lo; omega
  · have h1 : i = 0 := by simpa using hi
    have h2 : j = 0 := by simpa using hj
    subst h1; subst h2
    exact o.no _ r
/-- a form by its neighbours -/
theorem chain_iff (hk : IsAb ps n kss) : ∀ f : List Nat, (∀ k ∈ f, k < n) → (chainI kss (natI f) = true ↔ f.Pairwise fun a b : Nat => Rch ps (a : Int) (b : Int))
  | [], _ => by simp [chainI, natI]
  | [_], _ => by simp [chainI, natI]
  | a :: b :: r, h => by
    have ih := chain_iff hk (b :: r) fun k hk => h k (List.mem_cons_of_mem _ hk)
    have e : chainI kss (natI (a :: b :: r)) = (decide ((b : Int) ∈ kss.getD a []) && chainI kss (natI (b :: r))) := by
      show (decide ((b : Int) ∈ kss.getD ((a : Int).toNat) []) && _) = _
      rw [Int.toNat_natCast]; rfl
    rw [e, Bool.and_eq_true, decide_eq_true_eq, ab_at hk (h a (by simp)), ih, List.pairwise_cons (a := a)]
    constructor
    · rintro ⟨h1, h2⟩
      refine ⟨fun x hx => ?_, h2⟩
      rcases List.mem_cons.mp hx with rfl | hx
      · exact h1
      · exact h1.trans ((List.pairwise_cons.mp h2).1 x hx)
    · rintro ⟨h1, h2⟩
      exact ⟨h1 b (by simp), h2⟩
theorem isForm_iff (hk : IsAb ps n kss) (hr : IsAb ps n rows) (pr : ∀ p ∈ ps, isPair n p.1 p.2 = true) (no : ∀ k, ¬ Rch ps k k) (f : List Nat) : isForm kss (natD f) = decide (f ∈ srtL (fnd rows n n)) := by
  rw [Bool.eq_iff_iff, decide_eq_true_eq, srtL_mem, fnd_mem hr pr]
  have et : (f.map fun (k : Nat) => PyData.int (k : Int)).map toI = natI f := by rw [List.map_map]; rfl
  have ew : (f.map fun (k : Nat) => PyData.int (k : Int)).all (fun d => isWhole d 0 (some ((kss.length : Int) - 1))) = true ↔ ∀ k ∈ f, k < n := by
    rw [List.all_map, List.all_eq_true]
    have := hk.1
    constructor
    · intro h k hk
      have := h k hk
      simp [isWhole] at this; omega
    · intro h k hk
      have := h k hk
      simp [isWhole]; omega
  show (!(f.map fun (k : Nat) => PyData.int (k : Int)).isEmpty && ((f.map fun (k : Nat) => PyData.int (k : Int)).all (fun d => isWhole d 0 (some ((kss.length : Int) - 1))) && chainI kss ((f.map fun (k : Nat) => PyData.int (k : Int)).map toI))) = true ↔ _
  rw [Bool.and_eq_true, Bool.and_eq_true, ew, et]
  constructor
  · rintro ⟨h1, h2, h3⟩
    have fr : Frm ps n f := ⟨(chain_iff hk f h2).mp h3, h2⟩
    exact ⟨fun z => by rw [z] at h1; simp at h1, fr.len no, fr⟩
  · rintro ⟨h1, _, h3⟩
    refine ⟨?_, h3.lt, (chain_iff hk f h3.lt).mpr h3.ch⟩
    cases f with
    | nil => exact absurd rfl h1
    | cons _ _ => rfl
end
end K01
namespace K01
open PySem DL PF PFO PFT G1
abbrev evR (a : Addr) (n : Nat) (ps : List Pr) (rows : List (List Int)) (s4 s5 s6 s7 s8 s9 s10 s11 s12 s13 s14 s15 : Sl) : Ev := [.raw (.ref a), .fz (ordD n ps), .fz (rowsD rows), .fz (.list ((List.range n).map fun (k : Nat) => .int (k : Int))), s4, s5, s6, s7, s8, s9, s10, s11, s12, s13, s14, s15]
open Classical in
noncomputable def rchB (ps : List Pr) (i j : Nat) : Bool := decide (Rch ps i j)
open Classical in
theorem rchB_iff {ps : List Pr} {i j : Nat} : rchB ps i j = true ↔ Rch ps i j := by unfold rchB; exact decide_eq_true_iff
theorem rch_b {ps : List Pr} {i j : Nat} {b : Bool} (h : b = true ↔ Rch ps i j) : b = rchB ps i j := by
  rw [Bool.eq_iff_iff, h, rchB_iff]
theorem row_is {ps : List Pr} {n : Nat} {rows : List (List Int)} (o : Ord n ps) (hr : IsRows ps n rows) {i : Nat} (hi : i < n) : rows.getD i [] = natI ((List.range n).filter (rchB ps i)) := by
  have e := getD_of (show i < rows.length by rw [hr.len]; exact hi)
  have asc := hr.asc _ (List.mem_of_getElem? e)
  refine List.Perm.eq_of_pairwise (le := fun a b : Int => a < b) (fun a b _ _ h1 h2 => by omega) asc ?_ ?_
  · unfold natI
    rw [List.pairwise_map]
    exact (List.pairwise_lt_range.filter _).imp fun z => by omega
  · refine nd_perm (asc.imp fun z => Int.ne_of_lt z) (nodup_map (fun a b e => by omega) (List.nodup_range.filter _)) fun x => ?_
    rw [hr.mem i _ e x]
    unfold natI
    rw [List.mem_map]
    constructor
    · intro r
      have rg := r.rng o.pr
      refine ⟨x.toNat, List.mem_filter.mpr ⟨List.mem_range.mpr (by omega), ?_⟩, by omega⟩
      rw [rchB_iff, show ((x.toNat : Nat) : Int) = x by omega]; exact r
    · rintro ⟨k, hk, rfl⟩
      exact rchB_iff.mp (List.mem_filter.mp hk).2
theorem rok_natD {l : List Nat} (h : l.length ≤ 12) (h2 : ∀ k ∈ l, k ≤ 1000) : Rok 1 183 (natD l) := by
  refine (rok_tup (h := 0) (n := 13) (ds := l.map fun (k : Nat) => .int (k : Int)) fun d hd => ?_).mono (Nat.le_refl _) (by rw [List.length_map]; omega)
  obtain ⟨k, hk, rfl⟩ := List.mem_map.mp hd
  have := h2 k hk
  exact rok_int (by omega) (by omega)
theorem rok_nats {L : List (List Nat)} (hL : L.length ≤ 5000) (h : ∀ l ∈ L, l.length ≤ 12 ∧ ∀ k ∈ l, k ≤ 1000) : Rok 2 1000000 (.tuple (L.map natD)) := by
  refine (rok_tup (h := 1) (n := 183) (ds := L.map natD) fun d hd => ?_).mono (Nat.le_refl _) (by rw [List.length_map]; omega)
  obtain ⟨l, hl, rfl⟩ := List.mem_map.mp hd
  exact rok_natD (h l hl).1 (h l hl).2
theorem tup_list (ds : List D) : tupleD [.list ds] = some (.tuple ds) := rfl
section
variable {a : Addr} {n : Nat} {ps : List Pr} {rows : List (List Int)} {De : DEnds} {s4 s5 s6 s7 s8 s9 s10 s11 s12 s13 s14 s15 : Sl}
/-! the couples -/
def r_cpl : WS := (wForI (wSrc (wName 3)) (gN 4) (wIfS (wTest (w2 neD (wLc (wSrc (wName 3)) (gN 5) (wTest (wCall sp_is_within (wCons (wName 1) (wCons (wName 4) (wCons (wName 5) wNil))))) (wName 5) [5]) (wIx (wName 2) (wName 4)))) (wRet (wC (.fz (.bool false)))) wNext))
theorem cpl_ok (o : Ord n ps) (hr : IsRows ps n rows) (fin : ∀ s4 s5, De.nx (evR a n ps rows s4 s5 s6 s7 s8 s9 s10 s11 s12 s13 s14 s15)) : r_cpl (evR a n ps rows s4 s5 s6 s7 s8 s9 s10 s11 s12 s13 s14 s15) De := by
  have hn := o.hi
  refine ⟨_, rfl, (List.range n).map (fun (k : Nat) => .int (k : Int)), rfl, ?_⟩
  refine wFor_inv (fun env => ∃ s4 s5, env = evR a n ps rows s4 s5 s6 s7 s8 s9 s10 s11 s12 s13 s14 s15) ?_ _ ?_ _ ⟨_, _, rfl⟩
  · rintro _ ⟨s4, s5, rfl⟩; exact fin s4 s5
  · rintro d hd _ De' ⟨s4, s5, rfl⟩ hrt hnx hct
    obtain ⟨i, hi, rfl⟩ := List.mem_map.mp hd
    have hi := List.mem_range.mp hi
    refine ⟨_, rfl, _, rfl, (List.range n).map (fun (k : Nat) => .int (k : Int)), rfl, ?_⟩
    refine lc_encF (fun (k : Nat) => .int (k : Int)) (fun (k : Nat) => .int (k : Int)) (rchB ps i) (List.range n) [] (fun j hj => ⟨_, rfl, fun R r => ?_, fun _ R r => ⟨_, rfl, r⟩⟩) (by rw [List.length_range, List.length_nil, sizeLine_eq]; omega) ?_
    · have hj := List.mem_range.mp hj
      refine ⟨_, rfl, _, rfl, _, rfl, ordD n ps, .int (i : Nat), .int (j : Nat), rfl, .inr ⟨n, ps, rfl, o, fun z => ?_, fun i' j' ei ej hi' hj' b hb => ?_⟩⟩
      · exfalso
        rw [isK_iff.mpr ⟨i, rfl, hi⟩, isK_iff.mpr ⟨j, rfl, hj⟩] at z; cases z
      · have e1 : i' = i := by have := PyData.int.inj ei; omega
        have e2 : j' = j := by have := PyData.int.inj ej; omega
        subst e1; subst e2
        refine ⟨b, rfl, ?_⟩
        rw [rch_b hb]; exact r
    · refine ⟨_, rfl, _, rfl, rwD (rows.getD i []), ix_rows (by rw [hr.len]; exact hi), .bool false, ?_, _, rfl, ifF rfl (hnx _ ⟨_, _, rfl⟩)⟩
      have e : PyData.list ([] ++ ((List.range n).filter (rchB ps i)).map fun (k : Nat) => PyData.int (k : Int)) = rwD (rows.getD i []) := by
        rw [row_is o hr hi]
        unfold rwD natI
        rw [List.map_map]; rfl
      show neD (PyData.list ([] ++ ((List.range n).filter (rchB ps i)).map fun (k : Nat) => PyData.int (k : Int))) _ = _
      rw [e]; exact ne_row _
/-! all lots -/
def r_lots : WS := (wForI (wSrc (wName 6)) (gN 8) (wIfS (wTest (w2 neD (wB reprD (wCons (wLst (wCons (wCall sp_is_clutter (wCons (wName 1) (wCons (wName 8) wNil))) (wCons (wCall sp_tall (wCons (wName 1) (wCons (wName 8) wNil))) wNil))) wNil)) (wB reprD (wCons (wLst (wCons (w2 inV' (wName 8) (wName 7)) (wCons (wCall sp__law_tall (wCons (wName 2) (wCons (wName 8) wNil))) wNil))) wNil)))) (wRet (wC (.fz (.bool false)))) wNext))
theorem lots_ok (o : Ord n ps) (hr : IsRows ps n rows) (fin : ∀ s8, De.nx (evR a n ps rows s4 s5 (.fz (.list ((subs n).map natD))) (.fz (.list ((flat rows n).map natD))) s8 s9 s10 s11 s12 s13 s14 s15)) : r_lots (evR a n ps rows s4 s5 (.fz (.list ((subs n).map natD))) (.fz (.list ((flat rows n).map natD))) s8 s9 s10 s11 s12 s13 s14 s15) De := by
  have hn := o.hi
  have hk := rows_ab hr
  refine ⟨_, rfl, (subs n).map natD, rfl, ?_⟩
  refine wFor_inv (fun env => ∃ s8, env = evR a n ps rows s4 s5 (.fz (.list ((subs n).map natD))) (.fz (.list ((flat rows n).map natD))) s8 s9 s10 s11 s12 s13 s14 s15) ?_ _ ?_ _ ⟨_, rfl⟩
  · rintro _ ⟨s8, rfl⟩; exact fin s8
  · rintro d hd _ De' ⟨s8, rfl⟩ hrt hnx hct
    obtain ⟨l, hl, rfl⟩ := List.mem_map.mp hd
    have lot := mem_subs.mp hl
    have ll := lot.len
    have sh : short (natD l) := fun ds e => by cases e; rw [List.length_map]; omega
    refine ⟨_, rfl, _, rfl, _, rfl, ordD n ps, natD l, rfl, .inr ⟨n, ps, rfl, o, sh, fun z => ?_, fun l' kss el lot' hkss => ?_⟩⟩
    · exfalso; rw [isLot_iff.mpr ⟨l, rfl, lot⟩] at z; cases z
    have el' : l' = l := by
      have := congrArg (fun d => PyData.eqv d (natD l)) el
      simp only [eqv_natD, decide_true] at this
      exact (of_decide_eq_true this.symm)
    subst el'
    refine ⟨_, rfl, _, rfl, ordD n ps, natD l', rfl, .inr ⟨n, ps, rfl, o, sh, fun z => ?_, fun l2 t el2 lot2 ht => ?_⟩⟩
    · exfalso; rw [isLot_iff.mpr ⟨l', rfl, lot⟩] at z; cases z
    have el2' : l2 = l' := by
      have := congrArg (fun d => PyData.eqv d (natD l')) el2
      simp only [eqv_natD, decide_true] at this
      exact (of_decide_eq_true this.symm)
    subst el2'
    have tn : t ≤ 12 := by
      obtain ⟨f, hf, e⟩ := ht.ex
      have := hf.len o lot
      omega
    have rk : Rok 1 33 (.list [.bool (apartB kss l2), .int (t : Nat)]) := (rok_lst (h := 0) (n := 13) (ds := [.bool (apartB kss l2), .int (t : Nat)]) fun d hd => by
      simp only [List.mem_cons, List.not_mem_nil, or_false] at hd
      rcases hd with rfl | rfl
      · exact rok_bool _
      · exact rok_int (by omega) (by omega)).mono (Nat.le_refl _) (Nat.le_refl _)
    refine ⟨[.bool (apartB kss l2), .int (t : Nat)], rfl, (show 2 ≤ sizeLine by decide), _, rk.repr (by omega) (by omega), ?_⟩
    refine ⟨_, rfl, _, rfl, _, in_nats, _, rfl, _, rfl, n, ps, rows, l2, rfl, o, hk, lot, fun t' ht' => ?_⟩
    have e1 : t' = t := ht'.one ht
    subst e1
    have e2 : decide (l2 ∈ flat rows n) = apartB kss l2 := by
      rw [apart_same hkss hk lot.lt, Bool.eq_iff_iff, decide_eq_true_eq, mem_flat]
      exact ⟨fun h => h.2, fun h => ⟨lot, h⟩⟩
    rw [e2]
    exact ⟨[.bool (apartB kss l2), .int (t' : Nat)], rfl, (show 2 ≤ sizeLine by decide), _, rk.repr (by omega) (by omega), _, ne_str_self _, _, rfl, ifF rfl (hnx _ ⟨_, rfl⟩)⟩
/-! the full ones -/
def r_full : WS := (wForI (wSrc (wName 7)) (gN 8) (wIfS (wTest (w2 eqD (wLc (wSrc (wName 3)) (gN 10) (wAnd (wTest (w2 notInV (wName 10) (wName 8))) (wTest (w2 inV' (wB tupleD (wCons (wB sortedD (wCons (w2 addD (wName 8) (wTup (wCons (wName 10) wNil))) wNil)) wNil)) (wName 7)))) (wName 10) [10]) (wLst wNil))) (wApp 9 (wName 8)) wNext))
theorem full_iff (hk : IsAb ps n rows) {l : List Nat} (lot : Lot n l) : decide (((List.range n).filter fun k => !decide (k ∈ l) && decide (srtN (l ++ [k]) ∈ flat rows n)) = []) = fullB rows n l := by
  rw [Bool.eq_iff_iff, decide_eq_true_eq, List.filter_eq_nil_iff]
  unfold fullB
  rw [Bool.not_eq_true', List.any_eq_false]
  have c : ∀ k, k < n → ((!decide (k ∈ l) && decide (srtN (l ++ [k]) ∈ flat rows n)) = (!decide (k ∈ l) && apartB rows (l ++ [k]))) := fun k hkn => by
    by_cases z : k ∈ l
    · simp [z]
    · have ls := srtN_lot lot hkn z
      have e : decide (srtN (l ++ [k]) ∈ flat rows n) = apartB rows (l ++ [k]) := by
        rw [Bool.eq_iff_iff, decide_eq_true_eq, mem_flat, apart_perm hk (srtN_perm (l ++ [k])) ls.lt]
        exact ⟨fun h => h.2, fun h => ⟨ls, h⟩⟩
      rw [e]
  constructor
  · intro h k hk'
    have hkn : k < n := by have := List.mem_range'.mp hk'; omega
    rw [← c k hkn]
    exact h k (List.mem_range.mpr hkn)
  · intro h k hk'
    have hkn := List.mem_range.mp hk'
    rw [c k hkn]
    exact h k (List.mem_range'.mpr ⟨k, hkn, by omega⟩)
theorem fulls_ok (o : Ord n ps) (h7 : n ≤ 7) (hr : IsRows ps n rows) (fin : ∀ s8 s10, De.nx (evR a n ps rows s4 s5 s6 (.fz (.list ((flat rows n).map natD))) s8 (.own (.list (((flat rows n).filter (fullB rows n)).map natD))) s10 s11 s12 s13 s14 s15)) :
    r_full (evR a n ps rows s4 s5 s6 (.fz (.list ((flat rows n).map natD))) s8 (.own (.list [])) s10 s11 s12 s13 s14 s15) De := by
  have hk := rows_ab hr
  have fl : (flat rows n).length ≤ 128 := by
    have := List.length_filter_le (apartB rows) (subs n)
    rw [subs_len] at this
    have := pow7 h7
    unfold flat; omega
  refine ⟨_, rfl, (flat rows n).map natD, rfl, ?_⟩
  refine wFor_enc natD (flat rows n) (fun i env => ∃ s8 s10, env = evR a n ps rows s4 s5 s6 (.fz (.list ((flat rows n).map natD))) s8 (.own (.list ((((flat rows n).take i).filter (fullB rows n)).map natD))) s10 s11 s12 s13 s14 s15) ?_ ?_ _ 0 rfl (Nat.zero_le _) _ ⟨_, _, rfl⟩
  · rintro _ ⟨s8, s10, rfl⟩
    rw [List.take_length]; exact fin s8 s10
  · rintro i l hil _ De' ⟨s8, s10, rfl⟩ hrt hbk hnx hct
    have lot := (mem_flat.mp (List.mem_of_getElem? hil)).1
    have ll := lot.len
    refine ⟨_, rfl, _, rfl, (List.range n).map (fun (k : Nat) => .int (k : Int)), rfl, ?_⟩
    refine lc_encF (fun (k : Nat) => .int (k : Int)) (fun (k : Nat) => .int (k : Int)) (fun k => !decide (k ∈ l) && decide (srtN (l ++ [k]) ∈ flat rows n)) (List.range n) [] (fun k hk0 => ⟨_, rfl, fun R r => ?_, fun _ R r => ⟨_, rfl, r⟩⟩) (by rw [List.length_range, List.length_nil, sizeLine_eq]; omega) ?_
    · refine and_ok (p := !decide (k ∈ l)) (q := decide (srtN (l ++ [k]) ∈ flat rows n)) (fun R r => tst_ok (fun R r => ⟨_, rfl, _, rfl, _, notIn_nat, r⟩) r) (fun R r => tst_ok (fun R r => ?_) r) r
      refine ⟨_, rfl, _, rfl, [.int (k : Nat)], rfl, (show 1 ≤ sizeLine by decide), natD (l ++ [k]), natD_app l [k] (by simp; omega), _, sorted_lot _ (by rw [List.length_append]; simp; omega), _, rfl, _, rfl, _, in_nats (l := srtN (l ++ [k])), r⟩
    · refine ⟨[], rfl, Nat.zero_le _, _, eq_natL _, _, rfl, ?_⟩
      rw [full_iff hk lot]
      have tk : (flat rows n).take (i + 1) = (flat rows n).take i ++ [l] := by rw [List.take_succ, hil]; rfl
      cases hf : fullB rows n l with
      | true =>
        refine ifT rfl ⟨_, rfl, _, rfl, _, rfl, ?_, hnx _ ⟨.fz (natD l), s10, ?_⟩⟩
        · rw [List.length_map]
          have := List.length_filter_le (fullB rows n) ((flat rows n).take i)
          have := List.length_take_le' i (flat rows n)
          rw [sizeLine_eq]; omega
        · rw [tk, List.filter_append, List.map_append, List.filter_cons_of_pos hf]; rfl
      | false =>
        refine ifF rfl (hnx _ ⟨.fz (natD l), s10, ?_⟩)
        rw [tk, List.filter_append, List.map_append, List.filter_cons_of_neg (by rw [hf]; decide)]; simp
end
end K01
namespace K01
open PySem DL PF PFO PFT G1
section
variable {a : Addr} {n : Nat} {ps : List Pr} {rows : List (List Int)} {De : DEnds} {s4 s5 s6 s7 s8 s9 s10 s11 s12 s13 s14 s15 : Sl}
theorem due_sm (o : Ord n ps) (h7 : n ≤ 7) (hk : IsAb ps n rows) : (srtL (fnd rows n n)).length ≤ 128 ∧ ∀ f ∈ srtL (fnd rows n n), f.length ≤ 12 ∧ ∀ k ∈ f, k ≤ 1000 := by
  refine ⟨?_, fun f hf => ?_⟩
  · rw [srtL_len]
    have := fnd_len hk o.pr o.no n
    have := pow7 h7
    omega
  · obtain ⟨_, h2, h3⟩ := (fnd_mem hk o.pr n f).mp (srtL_mem.mp hf)
    exact ⟨by omega, fun k hk => by have := h3.lt k hk; omega⟩
def r_repr : WS := (wIfS (wOr (wTest (w2 neD (wB reprD (wCons (wCall sp_clutters (wCons (wName 1) wNil)) wNil)) (wB reprD (wCons (wB tupleD (wCons (wB sortedD (wCons (wName 9) wNil)) wNil)) wNil)))) (wTest (w2 neD (wB reprD (wCons (wCall sp_forms (wCons (wName 1) wNil)) wNil)) (wB reprD (wCons (wB tupleD (wCons (wName 11) wNil)) wNil))))) (wRet (wC (.fz (.bool false)))) wNext)
theorem repr_ok (o : Ord n ps) (h7 : n ≤ 7) (hr : IsRows ps n rows) (e9 : s9 = .own (.list (((flat rows n).filter (fullB rows n)).map natD))) (e11 : s11 = .fz (.list ((srtL (fnd rows n n)).map natD))) (fin : De.nx (evR a n ps rows s4 s5 s6 s7 s8 s9 s10 s11 s12 s13 s14 s15)) : r_repr (evR a n ps rows s4 s5 s6 s7 s8 s9 s10 s11 s12 s13 s14 s15) De := by
  subst e9; subst e11
  have hk := rows_ab hr
  have fl : ((flat rows n).filter (fullB rows n)).length ≤ 128 := by
    have := List.length_filter_le (fullB rows n) (flat rows n)
    have h2 := List.length_filter_le (apartB rows) (subs n)
    rw [subs_len] at h2
    have := pow7 h7
    unfold flat at *; omega
  have fs : ∀ l ∈ (flat rows n).filter (fullB rows n), l ≠ [] := fun l hl => full_ne o hk (List.mem_filter.mp hl).2
  have rk : Rok 2 1000000 (.tuple ((srtL ((flat rows n).filter (fullB rows n))).map natD)) := rok_nats (by rw [srtL_len]; omega) fun l hl => by
    have := (mem_flat.mp (List.mem_filter.mp (srtL_mem.mp hl)).1).1
    have l1 := this.len
    exact ⟨by omega, fun k hk => by have := this.lt k hk; omega⟩
  refine ⟨_, rfl, ordD n ps, rfl, .inr ⟨n, ps, rfl, o, fun kss kss' hkss hkss' => ?_⟩⟩
  rw [clutters_same hkss hkss' hk]
  refine ⟨_, rk.reprV (by omega) (by omega), _, rfl, _, sorted_forms fs (by omega), _, tup_list _, _, rk.reprV (by omega) (by omega), _, ne_strV _, _, rfl, ifF rfl ?_⟩
  refine ⟨_, rfl, ordD n ps, rfl, .inr ⟨n, ps, rfl, o, fun kss hkss => ?_⟩⟩
  rw [forms_same hkss hk o.pr]
  have ds := due_sm o h7 hk
  have rk2 : Rok 2 1000000 (.tuple ((srtL (fnd rows n n)).map natD)) := rok_nats (by omega) ds.2
  exact ⟨_, rk2.reprV (by omega) (by omega), _, rfl, _, tup_list _, _, rk2.reprV (by omega) (by omega), _, ne_strV _, _, rfl, ifF rfl fin⟩
theorem short_nat {f : List Nat} (h : f.length ≤ 12) : short (natD f) := fun ds e => by cases e; rw [List.length_map]; omega
def r_due : WS := (wIfS (wTest (w2 neD (wLc (wSrc (wName 11)) (gN 12) (wTest (w2 isNotD (wCall sp_is_form (wCons (wName 1) (wCons (wName 12) wNil))) (wC (.fz (.bool true))))) (wName 12) [12]) (wLst wNil))) (wRet (wC (.fz (.bool false)))) wNext)
theorem due_ok (o : Ord n ps) (h7 : n ≤ 7) (hr : IsRows ps n rows) (e11 : s11 = .fz (.list ((srtL (fnd rows n n)).map natD))) (fin : De.nx (evR a n ps rows s4 s5 s6 s7 s8 s9 s10 s11 s12 s13 s14 s15)) : r_due (evR a n ps rows s4 s5 s6 s7 s8 s9 s10 s11 s12 s13 s14 s15) De := by
  subst e11
  have hk := rows_ab hr
  have ds := due_sm o h7 hk
  refine ⟨_, rfl, (srtL (fnd rows n n)).map natD, rfl, ?_⟩
  refine lc_encF natD natD (fun _ => false) (srtL (fnd rows n n)) [] (fun f hf => ⟨_, rfl, fun R r => ?_, fun z => nomatch z⟩) (by rw [List.length_nil, sizeLine_eq]; omega) ?_
  · refine ⟨_, rfl, _, rfl, ordD n ps, natD f, rfl, .inr ⟨n, ps, rfl, o, short_nat (ds.2 f hf).1, shp_natD f, fun kss hkss => ?_⟩⟩
    rw [isForm_iff hkss hk o.pr o.no, decide_eq_true hf]
    exact ⟨.bool false, rfl, _, rfl, r⟩
  · rw [List.filter_eq_nil_iff.mpr (fun _ _ => Bool.false_ne_true)]
    exact ⟨[], rfl, Nat.zero_le _, .bool false, rfl, _, rfl, ifF rfl fin⟩
def r_rows (a : Addr) : WS := (wForI (wRng rng1 (wCons (wC (.fz (.int 5))) wNil)) (gN 13) (wSeq (wSet .fz 14 (wB tupleD (wCons (wLc (wRng rng1 (wCons (wCall (sp__law_next a) (wCons (wName 0) (wCons (wC (.fz (.int 4))) wNil))) wNil)) (gN 10) wYes (wCall (sp__law_next a) (wCons (wName 0) (wCons (w2 addD (wIx (wName 1) (wC (.fz (.int 0)))) (wC (.fz (.int 1)))) wNil))) [10]) wNil)))
    (wIfS (wTest (w2 neD (wB reprD (wCons (wCall sp_is_form (wCons (wName 1) (wCons (wName 14) wNil))) wNil)) (wB reprD (wCons (w2 inV' (wName 14) (wName 11)) wNil)))) (wRet (wC (.fz (.bool false)))) wNext)))
theorem rows_ok (o : Ord n ps) (h7 : n ≤ 7) (hr : IsRows ps n rows) (e11 : s11 = .fz (.list ((srtL (fnd rows n n)).map natD))) (fin : ∀ s10 s13 s14, De.nx (evR a n ps rows s4 s5 s6 s7 s8 s9 s10 s11 s12 s13 s14 s15)) : r_rows a (evR a n ps rows s4 s5 s6 s7 s8 s9 s10 s11 s12 s13 s14 s15) De := by
  subst e11
  have hk := rows_ab hr
  refine ⟨_, rngV (n := 5) (by decide), ?_⟩
  refine wFor_inv (fun env => ∃ s10 s13 s14, env = evR a n ps rows s4 s5 s6 s7 s8 s9 s10 (.fz (.list ((srtL (fnd rows n n)).map natD))) s12 s13 s14 s15) ?_ _ ?_ _ ⟨_, _, _, rfl⟩
  · rintro _ ⟨s10, s13, s14, rfl⟩; exact fin s10 s13 s14
  · rintro d hd _ De' ⟨s10, s13, s14, rfl⟩ hrt hnx hct
    refine ⟨_, rfl, ?_⟩
    refine ⟨_, rfl, 4, rfl, by decide, by decide +kernel, fun r r0 r4 => ?_⟩
    obtain ⟨m, rfl⟩ := Int.eq_ofNat_of_zero_le r0
    refine ⟨_, rngV (n := m) (by omega), ?_⟩
    refine lc_any (fun (k : Nat) => .int (k : Int)) (fun k => k ≤ 8) _ [] (fun d hd => ⟨_, rfl, fun R rr => ?_⟩) (by rw [List.length_map, List.length_range', List.length_nil, sizeLine_eq]; omega) (fun xs hx good => ?_)
    · refine ⟨_, rfl, _, rfl, .int n, ix_o0 _ _, .int ((n : Int) + 1), rfl, (n : Int) + 1, rfl, by omega, G1.small1000 (by omega), fun v v0 v1 => ?_⟩
      obtain ⟨k, rfl⟩ := Int.eq_ofNat_of_zero_le v0
      exact rr k (by omega)
    · rw [List.length_map, List.length_range'] at hx
      rw [List.nil_append]
      refine ⟨natD xs, rfl, _, rfl, ?_⟩
      refine ⟨_, rfl, _, rfl, ordD n ps, natD xs, rfl, .inr ⟨n, ps, rfl, o, short_nat (by omega), shp_natD xs, fun kss hkss => ?_⟩⟩
      rw [isForm_iff hkss hk o.pr o.no]
      exact ⟨_, (rok_bool _).reprV (by omega) (by omega), _, rfl, _, rfl, _, in_nats, _, (rok_bool _).reprV (by omega) (by omega), _, ne_strV _, _, rfl, ifF rfl (hnx _ ⟨_, _, _, rfl⟩)⟩
def r_odd : WS := (wRet (w2 eqD (wLc (wSrc (wTup (wCons (wC (.fz .none)) (wCons (wTup wNil) (wCons (wLst (wCons (wC (.fz (.int 0))) wNil)) (wCons (wTup (wCons (wC (.fz (.bool true))) wNil)) (wCons (wTup (wCons (wC (.fz (.str "0"))) wNil)) (wCons (wC (.fz (.int 0))) wNil)))))))) (gN 15) (wTest (w2 isNotD (wCall sp_is_form (wCons (wName 1) (wCons (wName 15) wNil))) (wC (.fz (.bool false))))) (wName 15) [15]) (wLst wNil)))
def odds : List D := [.none, .tuple [], .list [.int 0], .tuple [.bool true], .tuple [.str "0"], .int 0]
theorem odds_ok {kss : List (List Int)} : ∀ d ∈ odds, isForm kss d = false ∧ short d ∧ SeqAt.shaped d = true := fun d hd => by
  have ts : ∀ ds : List D, ds.length < 1000 → short (.tuple ds) := fun ds h es e => by cases e; exact h
  simp only [odds, List.mem_cons, List.not_mem_nil, or_false] at hd
  rcases hd with rfl | rfl | rfl | rfl | rfl | rfl
  · exact ⟨rfl, fun _ => nofun, by decide⟩
  · exact ⟨rfl, ts _ (by decide), by decide⟩
  · exact ⟨rfl, fun _ => nofun, by decide⟩
  · exact ⟨by simp [isForm, isWhole], ts _ (by decide), by decide⟩
  · exact ⟨by simp [isForm, isWhole], ts _ (by decide), by decide +kernel⟩
  · exact ⟨rfl, fun _ => nofun, by decide⟩
theorem odd_ok {Q : D → Prop} (o : Ord n ps) (q : Q (.bool true)) : r_odd (evR a n ps rows s4 s5 s6 s7 s8 s9 s10 s11 s12 s13 s14 s15) (endsOf Q) := by
  refine ⟨_, rfl, by decide, ?_⟩; refine ⟨_, rfl, by decide, ?_⟩; refine ⟨_, rfl, by decide, ?_⟩; refine ⟨_, rfl, by decide, ?_⟩
  refine ⟨odds, rfl, by decide, odds, rfl, ?_⟩
  have key : wLcL (gN 15) (wTest (w2 isNotD (wCall sp_is_form (wCons (wName 1) (wCons (wName 15) wNil))) (wC (.fz (.bool false))))) (wName 15) (wipeE (evR a n ps rows s4 s5 s6 s7 s8 s9 s10 s11 s12 s13 s14 s15) [15]) (fun x => (wLst wNil) (evR a n ps rows s4 s5 s6 s7 s8 s9 s10 s11 s12 s13 s14 s15) fun y => k2 eqD x y (endsOf Q).rt) (odds.map id) [] := by
    refine lc_encF id id (fun _ => false) odds [] (fun d hd => ⟨_, rfl, fun R r => ?_, fun z => nomatch z⟩) (by decide) ?_
    · have ok := fun kss => odds_ok (kss := kss) d hd
      refine ⟨_, rfl, _, rfl, ordD n ps, d, rfl, .inr ⟨n, ps, rfl, o, (ok []).2.1, (ok []).2.2, fun kss hkss => ?_⟩⟩
      rw [(ok kss).1]
      exact ⟨.bool false, rfl, _, rfl, r⟩
    · rw [List.filter_eq_nil_iff.mpr (fun _ _ => Bool.false_ne_true)]
      exact ⟨[], rfl, Nat.zero_le _, .bool true, rfl, _, rfl, q⟩
  rw [List.map_id] at key
  exact key
end
def sp__law_right (a : Addr) : DL.Spec := fun as Q => ∃ (n : Nat) (ps : List Pr), as = [.raw (.ref a), .fz (ordD n ps)] ∧ Ord n ps ∧ n ≤ 7 ∧ Q (.bool true)
theorem len__law_right (a : Addr) : ∀ as Q, sp__law_right a as Q → as.length = 2 := by rintro as Q ⟨n, ps, rfl, _⟩; rfl
def ws__law_right (a : Addr) : WS := (wSeq (wAsgT (wTup (wCons (wCall sp__law_above (wCons (wName 1) wNil)) (wCons (wLrng rng1 (wCons (wIx (wName 1) (wC (.fz (.int 0)))) wNil)) wNil))) (gTup' 2 (gCons' (gN 2) (gCons' (gN 3) gNil'))))
    (wSeq (wIfS (wTest (w2 neD (wCall sp_need_order (wCons (wName 1) wNil)) (wName 1))) (wRet (wC (.fz (.bool false)))) wNext)
    (wSeq (wForI (wSrc (wName 3)) (gN 4) (wIfS (wTest (w2 neD (wLc (wSrc (wName 3)) (gN 5) (wTest (wCall sp_is_within (wCons (wName 1) (wCons (wName 4) (wCons (wName 5) wNil))))) (wName 5) [5]) (wIx (wName 2) (wName 4)))) (wRet (wC (.fz (.bool false)))) wNext))
    (wSeq (wSet .fz 6 (wCall sp__law_lots (wCons (wIx (wName 1) (wC (.fz (.int 0)))) wNil)))
    (wSeq (wSet .fz 7 (wLc (wSrc (wName 6)) (gN 8) (wTest (wCall sp__law_apart (wCons (wName 2) (wCons (wName 8) wNil)))) (wName 8) [8]))
    (wSeq (wForI (wSrc (wName 6)) (gN 8) (wIfS (wTest (w2 neD (wB reprD (wCons (wLst (wCons (wCall sp_is_clutter (wCons (wName 1) (wCons (wName 8) wNil))) (wCons (wCall sp_tall (wCons (wName 1) (wCons (wName 8) wNil))) wNil))) wNil)) (wB reprD (wCons (wLst (wCons (w2 inV' (wName 8) (wName 7)) (wCons (wCall sp__law_tall (wCons (wName 2) (wCons (wName 8) wNil))) wNil))) wNil)))) (wRet (wC (.fz (.bool false)))) wNext))
    (wSeq (wSet .own 9 (wLst wNil))
    (wSeq (wForI (wSrc (wName 7)) (gN 8) (wIfS (wTest (w2 eqD (wLc (wSrc (wName 3)) (gN 10) (wAnd (wTest (w2 notInV (wName 10) (wName 8))) (wTest (w2 inV' (wB tupleD (wCons (wB sortedD (wCons (w2 addD (wName 8) (wTup (wCons (wName 10) wNil))) wNil)) wNil)) (wName 7)))) (wName 10) [10]) (wLst wNil))) (wApp 9 (wName 8)) wNext))
    (wSeq (wSet .fz 11 (wCall sp__law_forms (wCons (wName 2) wNil)))
    (wSeq (wIfS (wOr (wTest (w2 neD (wB reprD (wCons (wCall sp_clutters (wCons (wName 1) wNil)) wNil)) (wB reprD (wCons (wB tupleD (wCons (wB sortedD (wCons (wName 9) wNil)) wNil)) wNil)))) (wTest (w2 neD (wB reprD (wCons (wCall sp_forms (wCons (wName 1) wNil)) wNil)) (wB reprD (wCons (wB tupleD (wCons (wName 11) wNil)) wNil))))) (wRet (wC (.fz (.bool false)))) wNext)
    (wSeq (wIfS (wTest (w2 neD (wLc (wSrc (wName 11)) (gN 12) (wTest (w2 isNotD (wCall sp_is_form (wCons (wName 1) (wCons (wName 12) wNil))) (wC (.fz (.bool true))))) (wName 12) [12]) (wLst wNil))) (wRet (wC (.fz (.bool false)))) wNext)
    (wSeq (wForI (wRng rng1 (wCons (wC (.fz (.int 5))) wNil)) (gN 13) (wSeq (wSet .fz 14 (wB tupleD (wCons (wLc (wRng rng1 (wCons (wCall (sp__law_next a) (wCons (wName 0) (wCons (wC (.fz (.int 4))) wNil))) wNil)) (gN 10) wYes (wCall (sp__law_next a) (wCons (wName 0) (wCons (w2 addD (wIx (wName 1) (wC (.fz (.int 0)))) (wC (.fz (.int 1)))) wNil))) [10]) wNil)))
    (wIfS (wTest (w2 neD (wB reprD (wCons (wCall sp_is_form (wCons (wName 1) (wCons (wName 14) wNil))) wNil)) (wB reprD (wCons (w2 inV' (wName 14) (wName 11)) wNil)))) (wRet (wC (.fz (.bool false)))) wNext)))
    (wRet (w2 eqD (wLc (wSrc (wTup (wCons (wC (.fz .none)) (wCons (wTup wNil) (wCons (wLst (wCons (wC (.fz (.int 0))) wNil)) (wCons (wTup (wCons (wC (.fz (.bool true))) wNil)) (wCons (wTup (wCons (wC (.fz (.str "0"))) wNil)) (wCons (wC (.fz (.int 0))) wNil)))))))) (gN 15) (wTest (w2 isNotD (wCall sp_is_form (wCons (wName 1) (wCons (wName 15) wNil))) (wC (.fz (.bool false))))) (wName 15) [15]) (wLst wNil)))))))))))))))
theorem ok_ws__law_right (a : Addr) : ∀ as Q, sp__law_right a as Q → ws__law_right a (env0 16 as) (endsOf Q) := by
  rintro as Q ⟨n, ps, rfl, o, h7, q⟩
  have p7 := pow7 h7
  refine ⟨_, rfl, n, ps, rfl, o, h7, fun rows hr => ?_⟩
  refine ⟨_, rfl, .int n, ix_o0 _ _, (List.range n).map (fun i => .int (i : Nat)), G1.rng1V (by omega), by rw [List.length_map, List.length_range]; omega, _, rfl, (show 2 ≤ sizeLine by decide), _, _, rfl, rfl, ?_⟩
  refine ⟨_, rfl, n, ps, rfl, o, _, rfl, .bool false, (rok_ord (by omega) (by have := o.sm; omega) fun p hp => ?_).ne (by omega), _, rfl, ifF rfl ?_⟩
  · have := isPair_iff.mp (o.pr p hp); omega
  refine cpl_ok o hr fun s4 s5 => ?_
  refine ⟨_, rfl, .int n, ix_o0 _ _, n, rfl, by omega, _, rfl, ?_⟩
  have hk := rows_ab hr
  refine ⟨_, rfl, (subs n).map natD, rfl, ?_⟩
  refine lc_encF natD natD (apartB rows) (subs n) [] (fun l hl => ⟨_, rfl, fun R r => ?_, fun _ R r => ⟨_, rfl, r⟩⟩) (by rw [subs_len, List.length_nil, sizeLine_eq]; omega) ?_
  · have lot := mem_subs.mp hl
    have ll := lot.len
    exact ⟨_, rfl, _, rfl, rows, l, rfl, fun k hk' => by rw [hr.len]; exact lot.lt k hk', by omega, _, rfl, r⟩
  rw [List.nil_append]
  refine ⟨_, rfl, ?_⟩
  refine lots_ok o hr fun s8 => ?_
  refine ⟨[], rfl, Nat.zero_le _, _, rfl, ?_⟩
  refine fulls_ok o h7 hr fun s8 s10 => ?_
  refine ⟨_, rfl, n, ps, rows, rfl, o, h7, hr, _, rfl, ?_⟩
  refine repr_ok o h7 hr rfl rfl ?_
  refine due_ok o h7 hr rfl ?_
  refine rows_ok o h7 hr rfl fun s10 s13 s14 => ?_
  exact odd_ok o q
end K01
namespace K01
open PySem DL PF PFO PFT G1
/-! ### the orders by hand -/
theorem up_all {ps : List Pr} (h : ∀ p ∈ ps, p.1 < p.2) {a b : Int} (r : Rch ps a b) : a < b := by
  induction r with
  | one e => exact h _ e
  | more _ e ih => have := h _ e; simp only at this; omega
theorem ord_hand {n : Nat} {ps : List Pr} (n1 : 1 ≤ n) (n2 : n ≤ 12) (h1 : ∀ p ∈ ps, p.1 < p.2) (h2 : ∀ p ∈ ps, isPair n p.1 p.2 = true) (h3 : asc ps = true) (h4 : ps.length < 1000) : Ord n ps := ⟨n1, n2, h2, h3, fun k r => by have := up_all h1 r; omega, h4⟩
theorem k9 : Ord 9 [] := ord_hand (by decide) (by decide) (by decide) (by decide) (by decide) (by decide)
def p8 : List Pr := [(0, 7)]
theorem k8 : Ord 8 p8 := ord_hand (by decide) (by decide) (by decide) (by decide) (by decide) (by decide)
def lad : List Pr := (List.range 11).map fun (k : Nat) => ((k : Int), ((k + 1 : Nat) : Int))
theorem k12 : Ord 12 lad := ord_hand (by decide) (by decide) (by decide) (by decide) (by decide) (by decide)
theorem rch0 {a b : Int} (r : Rch [] a b) : False := by
  induction r with
  | one e => cases e
  | more _ e ih => exact ih
theorem lad_step {k : Nat} (h : k < 11) : ((k : Int), ((k + 1 : Nat) : Int)) ∈ lad := List.mem_map.mpr ⟨k, List.mem_range.mpr h, rfl⟩
theorem lad_rch : ∀ (d i : Nat), i + d < 11 → Rch lad (i : Nat) ((i + d + 1 : Nat) : Int)
  | 0, i, h => .one (lad_step h)
  | d + 1, i, h => .more (lad_rch d i (by omega)) (lad_step (k := i + d + 1) (by omega))
theorem lad_lt {i j : Nat} (h : i < j) (hj : j < 12) : Rch lad (i : Nat) (j : Nat) := by
  have := lad_rch (j - i - 1) i (by omega)
  rwa [show i + (j - i - 1) + 1 = j by omega] at this
theorem lad_iff {i j : Nat} (hj : j < 12) : Rch lad (i : Nat) (j : Nat) ↔ i < j := ⟨fun r => by have := up_all (ps := lad) (by decide) r; omega, fun h => lad_lt h hj⟩
theorem lad_frm {f : List Nat} : Frm lad 12 f ↔ Lot 12 f := by
  constructor
  · intro h
    exact ⟨h.ch.imp_of_mem fun {a b} ha hb r => (lad_iff (h.lt b hb)).mp r, h.lt⟩
  · intro h
    exact ⟨h.asc.imp_of_mem fun {a b} ha hb r => lad_lt r (h.lt b hb), h.lt⟩
theorem lot_range (n : Nat) : Lot n (List.range n) := ⟨List.pairwise_lt_range, fun k hk => List.mem_range.mp hk⟩
theorem forms_lad {kss : List (List Int)} (hk : IsAb lad 12 kss) : (fnd kss 12 12).length = 4095 := by
  have pm : (fnd kss 12 12).Perm ((subs 12).erase []) := nd_perm (fnd_nd hk k12.pr 12) ((subs_nd 12).erase _) fun f => by
    rw [fnd_mem hk k12.pr, (subs_nd 12).mem_erase_iff, mem_subs, lad_frm]
    exact ⟨fun h => ⟨h.1, h.2.2⟩, fun h => ⟨h.1, h.2.len, h.2⟩⟩
  have m0 : ([] : List Nat) ∈ subs 12 := mem_subs.mpr ⟨List.Pairwise.nil, fun _ z => nomatch z⟩
  rw [pm.length_eq, List.length_erase_of_mem m0, subs_len]
theorem tall_lad : IsTall lad (List.range 12) 12 := by
  refine ⟨⟨List.range 12, ⟨(lad_frm.mpr (lot_range 12)).ch, fun _ h => h⟩, List.length_range⟩, fun f hf => hf.len k12 (lot_range 12)⟩
theorem clutters_9 {kss kss' : List (List Int)} (hk : IsAb [] 9 kss) (hk' : IsAb [] 9 kss') : (srtL (clu kss' 9)).filter (fullB kss 9) = [List.range 9] := by
  have ap : ∀ (l : List Nat), (∀ k ∈ l, k < 9) → apartB kss l = true := fun l hl => (apart_iff hk hl).mpr fun i _ j _ r => rch0 r
  have nd : ((srtL (clu kss' 9)).filter (fullB kss 9)).Nodup := ((srtL_perm _).nodup_iff.mpr (clu_nd kss' 9)).filter _
  refine List.perm_singleton.mp (nd_perm nd (by simp) fun l => ?_)
  rw [List.mem_filter, srtL_mem, mem_clu hk' 9 (Nat.le_refl _), List.mem_singleton]
  constructor
  · rintro ⟨h, f⟩
    have all : ∀ k, k < 9 → k ∈ l := fun k hkn => by
      by_cases z : k ∈ l
      · exact z
      · exfalso
        unfold fullB at f
        rw [Bool.not_eq_true', List.any_eq_false] at f
        refine f k (List.mem_range'.mpr ⟨k, hkn, by omega⟩) ?_
        rw [ap (l ++ [k]) fun x hx => (List.mem_append.mp hx).elim (h.lt x) fun q => by have : x = k := by simpa using q
                                                                                        omega]
        simp [z]
    refine List.Perm.eq_of_pairwise (le := fun a b : Nat => a < b) (fun a b _ _ h1 h2 => by omega) h.asc List.pairwise_lt_range (nd_perm (h.asc.imp fun z => Nat.ne_of_lt z) List.nodup_range fun x => ?_)
    rw [List.mem_range]
    exact ⟨h.lt x, all x⟩
  · rintro rfl
    refine ⟨⟨(lot_range 9).asc, (lot_range 9).lt, fun i _ j _ r => rch0 r⟩, ?_⟩
    unfold fullB
    rw [Bool.not_eq_true', List.any_eq_false]
    intro k hk
    have : k ∈ List.range 9 := List.mem_range.mpr (by have := List.mem_range'.mp hk; omega)
    simp [this]
theorem apart_8 {kss : List (List Int)} (hk : IsAb p8 8 kss) : apartB kss (List.range 8) = false := by
  have h : ¬ apartB kss (List.range 8) = true := fun z => (apart_iff hk (lot_range 8).lt).mp z 0 (by decide) 7 (by decide) (.one (by decide))
  simpa using h
theorem trng {n : Nat} (h : n ≤ 1000) : (valL [.fz (.int (n : Int))]).bind rng1 = some ((List.range n).map fun (i : Nat) => .int (i : Int)) := G1.rng1V h
theorem natD_eq {l m : List Nat} (h : natD l = natD m) : l = m := by
  have := congrArg (fun d => PyData.eqv d (natD m)) h
  simp only [eqv_natD, decide_true] at this
  exact (of_decide_eq_true this)
def ws_law (a a0 : Addr) (n : Nat) : WS := (wSeq (wForI (wRng rng1 (wCons (w2 addD (wC (.fz (.int 2))) (wB minD (wCons (wLenS 0 a0 n) (wCons (wC (.fz (.int 4))) wNil)))) wNil)) (gN 2) (wIfS (wNot (wTest (wCall (sp__law_right a) (wCons (wName 1) (wCons (wCall (sp__law_order a) (wCons (wName 1) (wCons (wC (.fz (.int 7))) wNil))) wNil))))) (wRet (wC (.fz (.bool false)))) wNext))
    (wSeq (wIfS (wOr (wTest (w2 neD (wCall sp_clutters (wCons (wTup (wCons (wC (.fz (.int 9))) (wCons (wTup wNil) wNil))) wNil)) (wTup (wCons (wTrng rng1 (wCons (wC (.fz (.int 9))) wNil)) wNil)))) (wTest (wCall sp_is_clutter (wCons (wTup (wCons (wC (.fz (.int 8))) (wCons (wTup (wCons (wTup (wCons (wC (.fz (.int 0))) (wCons (wC (.fz (.int 7))) wNil))) wNil)) wNil))) (wCons (wTrng rng1 (wCons (wC (.fz (.int 8))) wNil)) wNil))))) (wRet (wC (.fz (.bool false)))) wNext)
    (wSeq (wSet .fz 3 (wTup (wCons (wC (.fz (.int 12))) (wCons (wB tupleD (wCons (wLc (wRng rng1 (wCons (wC (.fz (.int 11))) wNil)) (gN 4) wYes (wTup (wCons (wName 4) (wCons (w2 addD (wName 4) (wC (.fz (.int 1)))) wNil))) [4]) wNil)) wNil))))
    (wSeq (wIfS (wNot (wTest (wCall sp_is_form (wCons (wName 3) (wCons (wTrng rng1 (wCons (wC (.fz (.int 12))) wNil)) wNil))))) (wRet (wC (.fz (.bool false)))) wNext)
    (wRet (wAndV (w2 eqD (wB lenD (wCons (wCall sp_forms (wCons (wName 3) wNil)) wNil)) (wC (.fz (.int 4095)))) (wAndV (w2 eqD (wCall sp_tall (wCons (wName 3) (wCons (wTrng rng1 (wCons (wC (.fz (.int 12))) wNil)) wNil))) (wC (.fz (.int 12)))) (wCall sp_is_within (wCons (wName 3) (wCons (wC (.fz (.int 0))) (wCons (wC (.fz (.int 11))) wNil)))))))))))
abbrev evW (a0 a : Addr) (s2 s3 s4 : Sl) : Ev := [.raw (.ref a0), .raw (.ref a), s2, s3, s4]
theorem ok_ws_law : ∀ (a a0 : Addr) (n : Nat), n ≤ 63 → ws_law a a0 n (lawEnv a0 a 3) lawEnds := by
  intro a a0 n hn
  refine ⟨rfl, .int (if (4 : Int) < (n : Int) then (4 : Int) else (n : Int)), rfl, .int (2 + (if (4 : Int) < (n : Int) then (4 : Int) else (n : Int)) : Int), rfl, ?_⟩
  obtain ⟨k, hk, hk2⟩ : ∃ k : Nat, (2 + (if (4 : Int) < (n : Int) then (4 : Int) else (n : Int)) : Int) = (k : Int) ∧ k ≤ 1000 := by
    by_cases h : (4 : Int) < (n : Int)
    · exact ⟨6, by rw [if_pos h]; rfl, by decide⟩
    · exact ⟨2 + n, by rw [if_neg h]; rfl, by omega⟩
  rw [hk]
  refine ⟨_, rngV hk2, ?_⟩
  refine wFor_inv (fun env => ∃ s2 s3 s4, env = evW a0 a s2 s3 s4) ?_ _ ?_ _ ⟨_, _, _, rfl⟩
  · rintro _ ⟨s2, s3, s4, rfl⟩
    have l12 := lot_range 12
    have sh12 : short (natD (List.range 12)) := short_nat (by decide)
    -- nine kinds, no pairs
    refine ⟨[], rfl, Nat.zero_le _, _, rfl, (show 2 ≤ sizeLine by decide), ordD 9 [], rfl, .inr ⟨9, [], rfl, k9, fun kss kss' h1 h2 => ?_⟩⟩
    rw [clutters_9 h1 h2]
    refine ⟨(List.range 9).map (fun (i : Nat) => .int (i : Int)), trng (by decide), by decide, _, rfl, (show 1 ≤ sizeLine by decide), .bool false, rfl, _, rfl, ifF rfl ?_⟩
    -- eight kinds, one pair
    refine ⟨[.int 0, .int 7], rfl, (show 2 ≤ sizeLine by decide), _, rfl, (show 1 ≤ sizeLine by decide), _, rfl, (show 2 ≤ sizeLine by decide), (List.range 8).map (fun (i : Nat) => .int (i : Int)), trng (by decide), by decide, ?_⟩
    refine ⟨ordD 8 p8, natD (List.range 8), rfl, .inr ⟨8, p8, rfl, k8, short_nat (by decide), fun z => ?_, fun l kss el lot hkss => ?_⟩⟩
    · exact absurd z (by rw [isLot_iff.mpr ⟨_, rfl, lot_range 8⟩]; decide)
    have el' := natD_eq el
    subst el'
    rw [apart_8 hkss]
    refine ⟨_, rfl, ifF rfl ?_⟩
    -- the ladder
    refine ⟨_, rngV (n := 11) (by decide), ?_⟩
    refine lc_enc (fun (k : Nat) => .int (k : Int)) (fun (k : Nat) => prD ((k : Int), ((k + 1 : Nat) : Int))) _ (fun k hk => ⟨_, rfl, fun R r => ⟨_, rfl, _, rfl, .int ((k + 1 : Nat) : Int), rfl, _, rfl, (show 2 ≤ sizeLine by decide), r⟩⟩) (by decide) ?_
    refine ⟨_, rfl, [.int 12, prsD lad], rfl, (show 2 ≤ sizeLine by decide), _, rfl, ?_⟩
    refine ⟨_, rfl, (List.range 12).map (fun (i : Nat) => .int (i : Int)), trng (by decide), by decide, ?_⟩
    refine ⟨ordD 12 lad, natD (List.range 12), rfl, .inr ⟨12, lad, rfl, k12, sh12, shp_natD _, fun kss hkss => ?_⟩⟩
    have fm : List.range 12 ∈ srtL (fnd kss 12 12) := srtL_mem.mpr ((fnd_mem hkss k12.pr 12 _).mpr ⟨by decide, by decide, lad_frm.mpr l12⟩)
    rw [isForm_iff hkss hkss k12.pr k12.no, decide_eq_true fm]
    refine ⟨_, rfl, ifF rfl ?_⟩
    refine ⟨_, rfl, ordD 12 lad, rfl, .inr ⟨12, lad, rfl, k12, fun kss hkss => ?_⟩⟩
    refine ⟨.int 4095, ?_, .bool true, rfl, true, rfl, ifT rfl ?_⟩
    · show some (PyData.int ((((srtL (fnd kss 12 12)).map natD).length : Nat) : Int)) = _
      rw [List.length_map, srtL_len, forms_lad hkss]; rfl
    refine ⟨_, rfl, (List.range 12).map (fun (i : Nat) => .int (i : Int)), trng (by decide), by decide, ?_⟩
    refine ⟨ordD 12 lad, natD (List.range 12), rfl, .inr ⟨12, lad, rfl, k12, sh12, fun z => ?_, fun l t el lot ht => ?_⟩⟩
    · exact absurd z (by rw [isLot_iff.mpr ⟨_, rfl, l12⟩]; decide)
    have el' := natD_eq el
    subst el'
    have et : t = 12 := ht.one tall_lad
    subst et
    refine ⟨.bool true, rfl, true, rfl, ifT rfl ?_⟩
    refine ⟨_, rfl, ordD 12 lad, .int 0, .int 11, rfl, .inr ⟨12, lad, rfl, k12, fun z => ?_, fun i j ei ej hi hj b hb => ?_⟩⟩
    · exact absurd z (by decide)
    have e1 : i = 0 := by have := PyData.int.inj ei; omega
    have e2 : j = 11 := by have := PyData.int.inj ej; omega
    subst e1; subst e2
    have : b = true := hb.mpr (lad_lt (by decide) (by decide))
    rw [this]; rfl
  · rintro d hd _ De' ⟨s2, s3, s4, rfl⟩ hrt hnx hct
    refine ⟨_, rfl, ?_⟩
    refine ⟨_, rfl, _, rfl, 7, rfl, by decide, by decide, fun m ps o hm => ?_⟩
    exact ⟨m, ps, rfl, o, hm, _, rfl, ifF rfl (hnx _ ⟨_, _, _, rfl⟩)⟩
end K01
namespace K01
open PySem PySem.Spec PyProof.Rows L2 DL PF PFT
abbrev s5 : Stmt := topS 5
theorem sc5 : FnScope ["thing", "least", "most"] ["thing", "least", "most"] (defScope s5) := ⟨rfl, rfl, rfl, by decide +kernel, rfl, by decide +kernel, by decide +kernel⟩
abbrev s6 : Stmt := topS 6
theorem sc6 : FnScope ["items", "one", "other"] ["items"] (defScope s6) := ⟨rfl, rfl, rfl, by decide +kernel, rfl, by decide +kernel, by decide +kernel⟩
abbrev s7 : Stmt := topS 7
theorem sc7 : FnScope ["kinds", "thing", "one"] ["kinds", "thing"] (defScope s7) := ⟨rfl, rfl, rfl, by decide +kernel, rfl, by decide +kernel, by decide +kernel⟩
abbrev s8 : Stmt := topS 8
theorem sc8 : FnScope ["order", "found", "kind", "above", "waiting", "here", "one", "other"] ["order"] (defScope s8) := ⟨rfl, rfl, rfl, by decide +kernel, rfl, by decide +kernel, by decide +kernel⟩
abbrev s9 : Stmt := topS 9
theorem sc9 : FnScope ["thing", "one", "kind", "above"] ["thing"] (defScope s9) := ⟨rfl, rfl, rfl, by decide +kernel, rfl, by decide +kernel, by decide +kernel⟩
abbrev s10 : Stmt := topS 10
theorem sc10 : FnScope ["order", "kind"] ["order", "kind"] (defScope s10) := ⟨rfl, rfl, rfl, by decide +kernel, rfl, by decide +kernel, by decide +kernel⟩
abbrev s11 : Stmt := topS 11
theorem sc11 : FnScope ["order", "thing", "one"] ["order", "thing"] (defScope s11) := ⟨rfl, rfl, rfl, by decide +kernel, rfl, by decide +kernel, by decide +kernel⟩
abbrev s12 : Stmt := topS 12
theorem sc12 : FnScope ["order", "lot"] ["order", "lot"] (defScope s12) := ⟨rfl, rfl, rfl, by decide +kernel, rfl, by decide +kernel, by decide +kernel⟩
abbrev s13 : Stmt := topS 13
theorem sc13 : FnScope ["order", "one", "other"] ["order", "one", "other"] (defScope s13) := ⟨rfl, rfl, rfl, by decide +kernel, rfl, by decide +kernel, by decide +kernel⟩
abbrev s14 : Stmt := topS 14
theorem sc14 : FnScope ["above", "lot", "one", "other"] ["above", "lot"] (defScope s14) := ⟨rfl, rfl, rfl, by decide +kernel, rfl, by decide +kernel, by decide +kernel⟩
abbrev s15 : Stmt := topS 15
theorem sc15 : FnScope ["order", "lot"] ["order", "lot"] (defScope s15) := ⟨rfl, rfl, rfl, by decide +kernel, rfl, by decide +kernel, by decide +kernel⟩
abbrev s16 : Stmt := topS 16
theorem sc16 : FnScope ["order", "above", "found", "kind", "lot"] ["order"] (defScope s16) := ⟨rfl, rfl, rfl, by decide +kernel, rfl, by decide +kernel, by decide +kernel⟩
abbrev s17 : Stmt := topS 17
theorem sc17 : FnScope ["order", "above", "found", "lot", "kind"] ["order"] (defScope s17) := ⟨rfl, rfl, rfl, by decide +kernel, rfl, by decide +kernel, by decide +kernel⟩
abbrev s18 : Stmt := topS 18
theorem sc18 : FnScope ["above", "thing", "one", "other"] ["above", "thing"] (defScope s18) := ⟨rfl, rfl, rfl, by decide +kernel, rfl, by decide +kernel, by decide +kernel⟩
abbrev s19 : Stmt := topS 19
theorem sc19 : FnScope ["order", "value"] ["order", "value"] (defScope s19) := ⟨rfl, rfl, rfl, by decide +kernel, rfl, by decide +kernel, by decide +kernel⟩
abbrev s20 : Stmt := topS 20
theorem sc20 : FnScope ["order", "above", "found", "layer", "kind", "form"] ["order"] (defScope s20) := ⟨rfl, rfl, rfl, by decide +kernel, rfl, by decide +kernel, by decide +kernel⟩
abbrev s21 : Stmt := topS 21
theorem sc21 : FnScope ["above", "lot", "found", "layer", "kind", "other"] ["above", "lot"] (defScope s21) := ⟨rfl, rfl, rfl, by decide +kernel, rfl, by decide +kernel, by decide +kernel⟩
abbrev s22 : Stmt := topS 22
theorem sc22 : FnScope ["order", "lot"] ["order", "lot"] (defScope s22) := ⟨rfl, rfl, rfl, by decide +kernel, rfl, by decide +kernel, by decide +kernel⟩
abbrev s26 : Stmt := topS 26
theorem sc26 : FnScope ["_law_m", "_law_total", "_law_kinds", "_law_pile", "_law_line", "_law_pairs", "_law_dense", "_law_k", "_law_j"] ["_law_m", "_law_total"] (defScope s26) := ⟨rfl, rfl, rfl, by decide +kernel, rfl, by decide +kernel, by decide +kernel⟩
abbrev s27 : Stmt := topS 27
theorem sc27 : FnScope ["_law_order_here", "_law_rows", "_law_one", "_law_other", "_law_k", "_law_count", "_law_fresh", "_law_row", "_law_more"] ["_law_order_here"] (defScope s27) := ⟨rfl, rfl, rfl, by decide +kernel, rfl, by decide +kernel, by decide +kernel⟩
abbrev s28 : Stmt := topS 28
theorem sc28 : FnScope ["_law_kinds", "_law_found", "_law_k", "_law_lot"] ["_law_kinds"] (defScope s28) := ⟨rfl, rfl, rfl, by decide +kernel, rfl, by decide +kernel, by decide +kernel⟩
abbrev s29 : Stmt := topS 29
theorem sc29 : FnScope ["_law_rows", "_law_lot", "_law_one", "_law_other"] ["_law_rows", "_law_lot"] (defScope s29) := ⟨rfl, rfl, rfl, by decide +kernel, rfl, by decide +kernel, by decide +kernel⟩
abbrev s30 : Stmt := topS 30
theorem sc30 : FnScope ["_law_rows", "_law_found", "_law_layer", "_law_k", "_law_fresh", "_law_form"] ["_law_rows"] (defScope s30) := ⟨rfl, rfl, rfl, by decide +kernel, rfl, by decide +kernel, by decide +kernel⟩
abbrev s31 : Stmt := topS 31
theorem sc31 : FnScope ["_law_rows", "_law_lot", "_law_best", "_law_count", "_law_one", "_law_other"] ["_law_rows", "_law_lot"] (defScope s31) := ⟨rfl, rfl, rfl, by decide +kernel, rfl, by decide +kernel, by decide +kernel⟩
abbrev s32 : Stmt := topS 32
theorem sc32 : FnScope ["_law_m", "_law_order_here", "_law_rows", "_law_kinds", "_law_one", "_law_other", "_law_lots_here", "_law_flat", "_law_lot", "_law_full", "_law_k", "_law_due", "_law_form", "_law_count", "_law_row", "_law_odd"] ["_law_m", "_law_order_here"] (defScope s32) := ⟨rfl, rfl, rfl, by decide +kernel, rfl, by decide +kernel, by decide +kernel⟩
abbrev s33 : Stmt := topS 33
theorem sc33 : FnScope ["_law_script", "_law_m", "_law_turn", "_law_ladder", "_law_k"] ["_law_script"] (defScope s33) := ⟨rfl, rfl, rfl, by decide +kernel, rfl, by decide +kernel, by decide +kernel⟩
structure Tx (P : Program) (K : PySem.W.Frag) (mg : Str → Option Value) where
  f_is_whole : Addr
  fd_is_whole : FuncData
  F_is_whole : Fun K "is_whole" "is_whole" s5 f_is_whole fd_is_whole
  m_is_whole : mg "is_whole" = some (.ref f_is_whole)
  b_is_whole : Binds K fd_is_whole ["thing", "least", "most"] []
  f_are_ascending : Addr
  fd_are_ascending : FuncData
  F_are_ascending : Fun K "are_ascending" "are_ascending" s6 f_are_ascending fd_are_ascending
  m_are_ascending : mg "are_ascending" = some (.ref f_are_ascending)
  b_are_ascending : Binds K fd_are_ascending ["items"] []
  f_is_pair : Addr
  fd_is_pair : FuncData
  F_is_pair : Fun K "is_pair" "is_pair" s7 f_is_pair fd_is_pair
  m_is_pair : mg "is_pair" = some (.ref f_is_pair)
  b_is_pair : Binds K fd_is_pair ["kinds", "thing"] []
  f_above_of : Addr
  fd_above_of : FuncData
  F_above_of : Fun K "above_of" "above_of" s8 f_above_of fd_above_of
  m_above_of : mg "above_of" = some (.ref f_above_of)
  b_above_of : Binds K fd_above_of ["order"] []
  f_need_order : Addr
  fd_need_order : FuncData
  F_need_order : Fun K "need_order" "need_order" s9 f_need_order fd_need_order
  m_need_order : mg "need_order" = some (.ref f_need_order)
  b_need_order : Binds K fd_need_order ["thing"] []
  f_need_kind : Addr
  fd_need_kind : FuncData
  F_need_kind : Fun K "need_kind" "need_kind" s10 f_need_kind fd_need_kind
  m_need_kind : mg "need_kind" = some (.ref f_need_kind)
  b_need_kind : Binds K fd_need_kind ["order", "kind"] []
  f_is_lot_of : Addr
  fd_is_lot_of : FuncData
  F_is_lot_of : Fun K "is_lot_of" "is_lot_of" s11 f_is_lot_of fd_is_lot_of
  m_is_lot_of : mg "is_lot_of" = some (.ref f_is_lot_of)
  b_is_lot_of : Binds K fd_is_lot_of ["order", "thing"] []
  f_need_lot : Addr
  fd_need_lot : FuncData
  F_need_lot : Fun K "need_lot" "need_lot" s12 f_need_lot fd_need_lot
  m_need_lot : mg "need_lot" = some (.ref f_need_lot)
  b_need_lot : Binds K fd_need_lot ["order", "lot"] []
  f_is_within : Addr
  fd_is_within : FuncData
  F_is_within : Fun K "is_within" "is_within" s13 f_is_within fd_is_within
  m_is_within : mg "is_within" = some (.ref f_is_within)
  b_is_within : Binds K fd_is_within ["order", "one", "other"] []
  f_are_apart : Addr
  fd_are_apart : FuncData
  F_are_apart : Fun K "are_apart" "are_apart" s14 f_are_apart fd_are_apart
  m_are_apart : mg "are_apart" = some (.ref f_are_apart)
  b_are_apart : Binds K fd_are_apart ["above", "lot"] []
  f_is_clutter : Addr
  fd_is_clutter : FuncData
  F_is_clutter : Fun K "is_clutter" "is_clutter" s15 f_is_clutter fd_is_clutter
  m_is_clutter : mg "is_clutter" = some (.ref f_is_clutter)
  b_is_clutter : Binds K fd_is_clutter ["order", "lot"] []
  f_all_clutters : Addr
  fd_all_clutters : FuncData
  F_all_clutters : Fun K "all_clutters" "all_clutters" s16 f_all_clutters fd_all_clutters
  m_all_clutters : mg "all_clutters" = some (.ref f_all_clutters)
  b_all_clutters : Binds K fd_all_clutters ["order"] []
  f_clutters : Addr
  fd_clutters : FuncData
  F_clutters : Fun K "clutters" "clutters" s17 f_clutters fd_clutters
  m_clutters : mg "clutters" = some (.ref f_clutters)
  b_clutters : Binds K fd_clutters ["order"] []
  f_is_form_by : Addr
  fd_is_form_by : FuncData
  F_is_form_by : Fun K "is_form_by" "is_form_by" s18 f_is_form_by fd_is_form_by
  m_is_form_by : mg "is_form_by" = some (.ref f_is_form_by)
  b_is_form_by : Binds K fd_is_form_by ["above", "thing"] []
  f_is_form : Addr
  fd_is_form : FuncData
  F_is_form : Fun K "is_form" "is_form" s19 f_is_form fd_is_form
  m_is_form : mg "is_form" = some (.ref f_is_form)
  b_is_form : Binds K fd_is_form ["order", "value"] []
  f_forms : Addr
  fd_forms : FuncData
  F_forms : Fun K "forms" "forms" s20 f_forms fd_forms
  m_forms : mg "forms" = some (.ref f_forms)
  b_forms : Binds K fd_forms ["order"] []
  f_tall_by : Addr
  fd_tall_by : FuncData
  F_tall_by : Fun K "tall_by" "tall_by" s21 f_tall_by fd_tall_by
  m_tall_by : mg "tall_by" = some (.ref f_tall_by)
  b_tall_by : Binds K fd_tall_by ["above", "lot"] []
  f_tall : Addr
  fd_tall : FuncData
  F_tall : Fun K "tall" "tall" s22 f_tall fd_tall
  m_tall : mg "tall" = some (.ref f_tall)
  b_tall : Binds K fd_tall ["order", "lot"] []
  f__law_order : Addr
  fd__law_order : FuncData
  F__law_order : Fun K "_law_order" "_law_order" s26 f__law_order fd__law_order
  m__law_order : mg "_law_order" = some (.ref f__law_order)
  b__law_order : Binds K fd__law_order ["_law_m", "_law_total"] []
  f__law_above : Addr
  fd__law_above : FuncData
  F__law_above : Fun K "_law_above" "_law_above" s27 f__law_above fd__law_above
  m__law_above : mg "_law_above" = some (.ref f__law_above)
  b__law_above : Binds K fd__law_above ["_law_order_here"] []
  f__law_lots : Addr
  fd__law_lots : FuncData
  F__law_lots : Fun K "_law_lots" "_law_lots" s28 f__law_lots fd__law_lots
  m__law_lots : mg "_law_lots" = some (.ref f__law_lots)
  b__law_lots : Binds K fd__law_lots ["_law_kinds"] []
  f__law_apart : Addr
  fd__law_apart : FuncData
  F__law_apart : Fun K "_law_apart" "_law_apart" s29 f__law_apart fd__law_apart
  m__law_apart : mg "_law_apart" = some (.ref f__law_apart)
  b__law_apart : Binds K fd__law_apart ["_law_rows", "_law_lot"] []
  f__law_forms : Addr
  fd__law_forms : FuncData
  F__law_forms : Fun K "_law_forms" "_law_forms" s30 f__law_forms fd__law_forms
  m__law_forms : mg "_law_forms" = some (.ref f__law_forms)
  b__law_forms : Binds K fd__law_forms ["_law_rows"] []
  f__law_tall : Addr
  fd__law_tall : FuncData
  F__law_tall : Fun K "_law_tall" "_law_tall" s31 f__law_tall fd__law_tall
  m__law_tall : mg "_law_tall" = some (.ref f__law_tall)
  b__law_tall : Binds K fd__law_tall ["_law_rows", "_law_lot"] []
  f__law_right : Addr
  fd__law_right : FuncData
  F__law_right : Fun K "_law_right" "_law_right" s32 f__law_right fd__law_right
  m__law_right : mg "_law_right" = some (.ref f__law_right)
  b__law_right : Binds K fd__law_right ["_law_m", "_law_order_here"] []
  f_law : Addr
  fd_law : FuncData
  F_law : Fun K "law" "law" s33 f_law fd_law
  m_law : mg "law" = some (.ref f_law)
  b_law : Binds K fd_law ["_law_script"] []
  f__law_begun : Addr
  fd__law_begun : FuncData
  F__law_begun : Fun K "_law_begun" "_law_begun" s24 f__law_begun fd__law_begun
  m__law_begun : mg "_law_begun" = some (.ref f__law_begun)
  b__law_begun : Binds K fd__law_begun ["_law_script"] []
  f__law_next : Addr
  fd__law_next : FuncData
  F__law_next : Fun K "_law_next" "_law_next" s25 f__law_next fd__law_next
  m__law_next : mg "_law_next" = some (.ref f__law_next)
  b__law_next : Binds K fd__law_next ["_law_m", "_law_total"] []
  n_all : mg "all" = none
  n_any : mg "any" = none
  n_bool : mg "bool" = none
  n_enumerate : mg "enumerate" = none
  n_int : mg "int" = none
  n_isinstance : mg "isinstance" = none
  n_len : mg "len" = none
  n_list : mg "list" = none
  n_max : mg "max" = none
  n_min : mg "min" = none
  n_range : mg "range" = none
  n_repr : mg "repr" = none
  n_set : mg "set" = none
  n_sorted : mg "sorted" = none
  n_tuple : mg "tuple" = none
  n_zip : mg "zip" = none
  t_MOST_KINDS : Tok
  c_MOST_KINDS : mg "MOST_KINDS" = some (.int 12 t_MOST_KINDS)
  C_BadOrder : Addr
  fI_BadOrder : Addr
  x_BadOrder : PySem.EXN.Txt P K mg "BadOrder" "BadOrder.__init__" s1 C_BadOrder fI_BadOrder
  nn_BadOrder : PySem.W.findIn K (.ref C_BadOrder) "part" = some none
  C_OutOfPlace : Addr
  fI_OutOfPlace : Addr
  x_OutOfPlace : PySem.EXN.Txt P K mg "OutOfPlace" "OutOfPlace.__init__" s2 C_OutOfPlace fI_OutOfPlace
  e_BadOrder_BadOrder : PySem.W.exmOne K (.ref C_BadOrder) (.ref C_BadOrder) = some true
  e_BadOrder_OutOfPlace : PySem.W.exmOne K (.ref C_BadOrder) (.ref C_OutOfPlace) = some false
  e_OutOfPlace_BadOrder : PySem.W.exmOne K (.ref C_OutOfPlace) (.ref C_BadOrder) = some false
  e_OutOfPlace_OutOfPlace : PySem.W.exmOne K (.ref C_OutOfPlace) (.ref C_OutOfPlace) = some true
section
variable {P : Program} {w : World} {K : PySem.W.Frag} {mg : Str → Option Value}
def cmOf (T : Tx P K mg) : CM := fun y => if y = "BadOrder" then some (T.C_BadOrder, some ("part" : Str)) else if y = "OutOfPlace" then some (T.C_OutOfPlace, none) else none
theorem cm_BadOrder (T : Tx P K mg) : cmOf T "BadOrder" = some (T.C_BadOrder, some ("part" : Str)) := by simp [cmOf] <;> decide
theorem fi_BadOrder (T : Tx P K mg) : PySem.EXN.FieldInit P w K mg T.C_BadOrder T.fI_BadOrder "part" := fun A R s x t0 v X hlim hg hb hx hnx hroom hq => init_BadOrder T.x_BadOrder X hlim hg hb hx hnx hroom T.nn_BadOrder hq
theorem mt_BadOrder (T : Tx P K mg) : ∀ y C fo, cmOf T y = some (C, fo) → PySem.W.exmOne K (.ref C) (.ref T.C_BadOrder) = some (DL.mt "BadOrder" y) := by
  intro y C fo h
  unfold cmOf at h
  by_cases h_BadOrder : y = "BadOrder"
  · rw [if_pos h_BadOrder] at h; cases h; subst h_BadOrder; exact T.e_BadOrder_BadOrder
  rw [if_neg h_BadOrder] at h
  by_cases h_OutOfPlace : y = "OutOfPlace"
  · rw [if_pos h_OutOfPlace] at h; cases h; subst h_OutOfPlace; exact T.e_OutOfPlace_BadOrder
  rw [if_neg h_OutOfPlace] at h
  cases h
theorem cm_OutOfPlace (T : Tx P K mg) : cmOf T "OutOfPlace" = some (T.C_OutOfPlace, none) := by simp [cmOf] <;> decide
theorem fi_OutOfPlace (T : Tx P K mg) : PySem.EXN.PlainInit P w K mg T.C_OutOfPlace T.fI_OutOfPlace := fun A R s x t0 v X hlim hg hb hx hnx hroom hq => init_OutOfPlace T.x_OutOfPlace X hlim hg hb hx hnx hroom hq
theorem mt_OutOfPlace (T : Tx P K mg) : ∀ y C fo, cmOf T y = some (C, fo) → PySem.W.exmOne K (.ref C) (.ref T.C_OutOfPlace) = some (DL.mt "OutOfPlace" y) := by
  intro y C fo h
  unfold cmOf at h
  by_cases h_BadOrder : y = "BadOrder"
  · rw [if_pos h_BadOrder] at h; cases h; subst h_BadOrder; exact T.e_BadOrder_OutOfPlace
  rw [if_neg h_BadOrder] at h
  by_cases h_OutOfPlace : y = "OutOfPlace"
  · rw [if_pos h_OutOfPlace] at h; cases h; subst h_OutOfPlace; exact T.e_OutOfPlace_OutOfPlace
  rw [if_neg h_OutOfPlace] at h
  cases h
end
section
variable {P : Program} {w : World} {K : PySem.W.Frag} {mg : Str → Option Value} {base : Heap}
theorem ok__law_next (a : Addr) (T : Tx P K mg) : FnG P w K mg base CX0 2 T.f__law_next T.fd__law_next ["_law_m", "_law_total"] (spF (SI a) 1 (sp__law_next a)) := ok_next a T.F__law_next T.n_int T.n_len
theorem ok_begunG (T : Tx P K mg) : FnG P w K mg base CX0 2 T.f__law_begun T.fd__law_begun ["_law_script"] (spBeg K SI) := (ok_begun T.F__law_begun T.n_list).sp fun vs H Q E h => by
  obtain ⟨a0, ns, rfl, hS, hl, hq⟩ := h
  refine ⟨a0, ns, rfl, hS, hl, fun a g c gs cs H' sm h1 h2 h3 h4 h5 h6 h7 => hq a (fun x => x = a ∨ x = g ∨ x = c) H' sm (fun x hx => ?_) ⟨g, c, gs, cs, 0, .inl rfl, .inr (.inl rfl), .inr (.inr rfl), h4, h5, h6, h7, Nat.le_refl _⟩⟩
  rcases hx with rfl | rfl | rfl
  · exact ⟨h1, by rw [h5]; exact ⟨by simp, fun _ z => nomatch z⟩⟩
  · exact ⟨h2, by rw [h6]; exact ⟨by simp, fun _ z => nomatch z⟩⟩
  · exact ⟨h3, by rw [h7]; exact ⟨by simp, fun _ z => nomatch z⟩⟩
theorem ok_is_whole (T : Tx P K mg) : FnG P w K mg base CX0 1 T.f_is_whole T.fd_is_whole ["thing", "least", "most"] (spF SI0 0 sp_is_whole) :=
  fn_pure (k := 0) (ws := ws_is_whole) T.F_is_whole sc5 len_is_whole (fun G cdv A outer s H E hS hgd hr =>
    (dss_cons (ds_if (PW.pt (dw_or (dt_not (dt_val (de_isi kit_int (by rfl) T.n_isinstance (by rfl) T.n_int (by decide +kernel) (de_name 0)))) (dw_or (dt_val (de_isi kit_bool (by rfl) T.n_isinstance (by rfl) T.n_bool (by decide +kernel) (de_name 0))) (dw_or1 (dt_cmp (op_ltD hr.units0) (de_name 0) (de_name 1) (nomark _)))))) (dss_one (ds_ret de_bl)) dss_nil)
      (dss_one (ds_ret (de_or (de_cmp op_isD (de_name 2) de_non (nomark _)) (de_one (de_cmp op_leD (de_name 0) (de_name 2) (nomark _)))))))) ok_ws_is_whole
theorem ok_are_ascending (T : Tx P K mg) : FnG P w K mg base CX0 1 T.f_are_ascending T.fd_are_ascending ["items"] (spF SI0 0 sp_are_ascending) :=
  fn_pure (k := 0) (ws := ws_are_ascending) T.F_are_ascending sc6 len_are_ascending (fun G cdv A outer s H E hS hgd hr =>
    (dss_one (ds_ret (de_callB (call_allD rfl) (by rfl) T.n_all (by decide +kernel) (da_cons (de_lc rfl sc6.nd (di_zip (by rfl) T.n_zip (da_cons (de_name 0) (da_cons (de_slice (de_name 0) (do_some de_int) do_none) da_nil))) (blkOk_by (N := ["items", "one", "other"]) (sc := defScope s6) (own := [("one", 1), ("other", 2)]) (by decide +kernel)) (fun _ _ _ _ _ _ => (dg_tup rfl (dgs_cons (dg_name 1 sc6.nd) (dgs_cons (dg_name 2 sc6.nd) dgs_nil)))) (fun _ _ _ _ _ _ => dts_nil) (fun _ _ _ _ _ _ => (de_cmp (op_ltD hr.units0) (de_name 1) (de_name 2) (nomark _))) (by decide)) da_nil))))) ok_ws_are_ascending
theorem ok_is_pair (T : Tx P K mg) : FnG P w K mg base CX0 2 T.f_is_pair T.fd_is_pair ["kinds", "thing"] (spF SI0 0 sp_is_pair) :=
  fn_pure (k := 1) (ws := ws_is_pair) T.F_is_pair sc7 len_is_pair (fun G cdv A outer s H E hS hgd hr =>
    (dss_cons (ds_if (PW.pt (dw_or (dt_not (dt_val (de_isi kit_tuple (by rfl) T.n_isinstance (by rfl) T.n_tuple (by decide +kernel) (de_name 1)))) (dw_or (dt_cmp (op_neDD hr.units) (de_callB call_lenDD (by rfl) T.n_len (by decide +kernel) (da_cons (de_name 1) da_nil)) de_int (nomark _)) (dw_or1 (dt_not (dt_val (de_callB (call_allD rfl) (by rfl) T.n_all (by decide +kernel) (da_cons (de_lc rfl sc7.nd (di_val (de_name 1)) (blkOk_by (N := ["kinds", "thing", "one"]) (sc := defScope s7) (own := [("one", 2)]) (by decide +kernel)) (fun _ _ _ _ _ _ => (dg_name 2 sc7.nd)) (fun _ _ _ _ _ _ => dts_nil) (fun _ _ _ _ _ _ => (de_call (ok_is_whole T) hgd (hr.mono (by decide)) (by rfl) T.m_is_whole T.F_is_whole.kp T.b_is_whole (da_cons (de_name 2) (da_cons de_int (da_cons (de_op op_subD (de_name 0) de_int) da_nil))))) (by decide)) da_nil)))))))) (dss_one (ds_ret de_bl)) dss_nil)
      (dss_one (ds_ret (de_cmp (op_neDD hr.units) (de_ix (DL.Room.u1 hr) (de_name 1) de_int) (de_ix (DL.Room.u1 hr) (de_name 1) de_int) (nomark _)))))) ok_ws_is_pair
theorem ok_above_of (T : Tx P K mg) : FnG P w K mg base CX0 1 T.f_above_of T.fd_above_of ["order"] (spF SI0 0 sp_above_of) :=
  fn_pure (k := 0) (ws := ws_above_of) T.F_above_of sc8 len_above_of (fun G cdv A outer s H E hS hgd hr =>
    (dss_cons (ds_set .own 1 sc8.nd (de_lst da_nil))
      (dss_cons (ds_for PassesOwn.never rfl (di_range1 (by rfl) T.n_range (da_cons (de_ix (DL.Room.u1 hr) (de_name 0) de_int) da_nil)) (fun _ => (dg_name 2 sc8.nd)) (fun _ => (dss_cons (ds_par2 .own 3 .own 4 rfl sc8.nd de_dnewK (de_lst (da_cons (de_name 2) da_nil)))
      (dss_cons (ds_while PassesOwn.never (dt_cmp (op_neDD hr.units) (de_name 4) (de_lst da_nil) (nomark _)) (dss_cons (ds_pop 5 4 sc8.nd)
      (dss_one (ds_for PassesOwn.never rfl (di_val (de_ix (DL.Room.u1 hr) (de_name 0) de_int)) (fun _ => (dg_tup rfl (dgs_cons (dg_name 6 sc8.nd) (dgs_cons (dg_name 7 sc8.nd) dgs_nil)))) (fun _ => (dss_one (ds_if (PW.pt (dw_and (dt_cmp (op_eqDD hr.units) (de_name 6) (de_name 5) (nomark _)) (dw_and1 (dt_cmp (op_notInDD (DL.Room.u65 hr)) (de_name 7) (de_name 3) (by rfl))))) (dss_cons (ds_put 3 (DL.Room.u1 hr) (de_name 7) de_bl)
      (dss_one (ds_append 4 (de_name 7)))) dss_nil)))))))
      (dss_one (ds_appendF 1 3))))))
      (dss_one (ds_ret (de_name 1)))))) ok_ws_above_of
theorem okx_need_order (T : Tx P K mg) : FnG P w K mg base (L2.CX P w) 3 T.f_need_order T.fd_need_order ["thing"] (spX (cmOf T) spx_need_order) :=
  fn_raise (k := 2) (ws := wsx_need_order) T.F_need_order sc9 lenx_need_order (fun G cdv A outer s H E W Ex hS hgd hr tk hx hp =>
    (dss_cons (ds_if (PW.pt (dw_or (dt_not (dt_val (de_isi kit_tuple (by rfl) T.n_isinstance (by rfl) T.n_tuple (by decide +kernel) (de_name 0)))) (dw_or1 (dt_cmp (op_neDD hr.units) (de_callB call_lenDD (by rfl) T.n_len (by decide +kernel) (da_cons (de_name 0) da_nil)) de_int (nomark _))))) (dss_one (ds_raiseF tk hx T.x_BadOrder (fi_BadOrder T) (cm_BadOrder T) hr de_str (by rfl))) dss_nil)
      (dss_cons (ds_if (dt_not (dt_val (de_call (ok_is_whole T) hgd (hr.mono (by decide)) (by rfl) T.m_is_whole T.F_is_whole.kp T.b_is_whole (da_cons (de_ix (DL.Room.u1 hr) (de_name 0) de_int) (da_cons de_int (da_cons (de_gint (by rfl) T.c_MOST_KINDS) da_nil)))))) (dss_one (ds_raiseF tk hx T.x_BadOrder (fi_BadOrder T) (cm_BadOrder T) hr de_str (by rfl))) dss_nil)
      (dss_cons (ds_if (PW.pt (dw_or (dt_not (dt_val (de_isi kit_tuple (by rfl) T.n_isinstance (by rfl) T.n_tuple (by decide +kernel) (de_ix (DL.Room.u1 hr) (de_name 0) de_int)))) (dw_or1 (dt_not (dt_val (de_callB (call_allD rfl) (by rfl) T.n_all (by decide +kernel) (da_cons (de_lc rfl sc9.nd (di_val (de_ix (DL.Room.u1 hr) (de_name 0) de_int)) (blkOk_by (N := ["thing", "one", "kind", "above"]) (sc := defScope s9) (own := [("one", 1)]) (by decide +kernel)) (fun _ _ _ _ _ _ => (dg_name 1 sc9.nd)) (fun _ _ _ _ _ _ => dts_nil) (fun _ _ _ _ _ _ => (de_call (ok_is_pair T) hgd (hr.mono (by decide)) (by rfl) T.m_is_pair T.F_is_pair.kp T.b_is_pair (da_cons (de_ix (DL.Room.u1 hr) (de_name 0) de_int) (da_cons (de_name 1) da_nil)))) (by decide)) da_nil))))))) (dss_one (ds_raiseF tk hx T.x_BadOrder (fi_BadOrder T) (cm_BadOrder T) hr de_str (by rfl))) dss_nil)
      (dss_cons (ds_if (dt_not (dt_val (de_call (ok_are_ascending T) hgd (hr.mono (by decide)) (by rfl) T.m_are_ascending T.F_are_ascending.kp T.b_are_ascending (da_cons (de_ix (DL.Room.u1 hr) (de_name 0) de_int) da_nil)))) (dss_one (ds_raiseF tk hx T.x_BadOrder (fi_BadOrder T) (cm_BadOrder T) hr de_str (by rfl))) dss_nil)
      (dss_cons (ds_if (dt_val (de_callB (call_anyD rfl) (by rfl) T.n_any (by decide +kernel) (da_cons (de_lc rfl sc9.nd (di_enum (by rfl) T.n_enumerate (da_cons (de_call (ok_above_of T) hgd (hr.mono (by decide)) (by rfl) T.m_above_of T.F_above_of.kp T.b_above_of (da_cons (de_name 0) da_nil)) da_nil)) (blkOk_by (N := ["thing", "one", "kind", "above"]) (sc := defScope s9) (own := [("kind", 2), ("above", 3)]) (by decide +kernel)) (fun _ _ _ _ _ _ => (dg_tup rfl (dgs_cons (dg_name 2 sc9.nd) (dgs_cons (dg_name 3 sc9.nd) dgs_nil)))) (fun _ _ _ _ _ _ => dts_nil) (fun _ _ _ _ _ _ => (de_cmp (op_inDD (DL.Room.u65 hr)) (de_name 2) (de_name 3) (by rfl))) (by decide)) da_nil))) (dss_one (ds_raiseF tk hx T.x_BadOrder (fi_BadOrder T) (cm_BadOrder T) hr de_str (by rfl))) dss_nil)
      (dss_one (ds_ret (de_name 0))))))))) okx_ws_need_order
theorem ok_need_order (T : Tx P K mg) : FnG P w K mg base CX0 3 T.f_need_order T.fd_need_order ["thing"] (spF SI0 0 sp_need_order) := (okx_need_order T).noX ofx_need_order
theorem okx_need_kind (T : Tx P K mg) : FnG P w K mg base (L2.CX P w) 4 T.f_need_kind T.fd_need_kind ["order", "kind"] (spX (cmOf T) spx_need_kind) :=
  fn_raise (k := 3) (ws := wsx_need_kind) T.F_need_kind sc10 lenx_need_kind (fun G cdv A outer s H E W Ex hS hgd hr tk hx hp =>
    (dss_one (ds_if (dt_not (dt_val (de_call (ok_is_whole T) hgd (hr.mono (by decide)) (by rfl) T.m_is_whole T.F_is_whole.kp T.b_is_whole (da_cons (de_name 1) (da_cons de_int (da_cons (de_op op_subD (de_ix (DL.Room.u1 hr) (de_callX tk hx (okx_need_order T) hgd (hr.mono (by decide)) (by rfl) T.m_need_order T.F_need_order.kp T.b_need_order (da_cons (de_name 0) da_nil)) de_int) de_int) da_nil)))))) (dss_one (ds_raise0 tk hx T.x_OutOfPlace (fi_OutOfPlace T) (cm_OutOfPlace T) hr de_str (by rfl))) dss_nil))) okx_ws_need_kind
theorem ok_need_kind (T : Tx P K mg) : FnG P w K mg base CX0 4 T.f_need_kind T.fd_need_kind ["order", "kind"] (spF SI0 0 sp_need_kind) := (okx_need_kind T).noX ofx_need_kind
theorem ok_is_lot_of (T : Tx P K mg) : FnG P w K mg base CX0 2 T.f_is_lot_of T.fd_is_lot_of ["order", "thing"] (spF SI0 0 sp_is_lot_of) :=
  fn_pure (k := 1) (ws := ws_is_lot_of) T.F_is_lot_of sc11 len_is_lot_of (fun G cdv A outer s H E hS hgd hr =>
    (dss_cons (ds_if (PW.pt (dw_or (dt_not (dt_val (de_isi kit_tuple (by rfl) T.n_isinstance (by rfl) T.n_tuple (by decide +kernel) (de_name 1)))) (dw_or1 (dt_not (dt_val (de_callB (call_allD rfl) (by rfl) T.n_all (by decide +kernel) (da_cons (de_lc rfl sc11.nd (di_val (de_name 1)) (blkOk_by (N := ["order", "thing", "one"]) (sc := defScope s11) (own := [("one", 2)]) (by decide +kernel)) (fun _ _ _ _ _ _ => (dg_name 2 sc11.nd)) (fun _ _ _ _ _ _ => dts_nil) (fun _ _ _ _ _ _ => (de_call (ok_is_whole T) hgd (hr.mono (by decide)) (by rfl) T.m_is_whole T.F_is_whole.kp T.b_is_whole (da_cons (de_name 2) (da_cons de_int (da_cons (de_op op_subD (de_ix (DL.Room.u1 hr) (de_name 0) de_int) de_int) da_nil))))) (by decide)) da_nil))))))) (dss_one (ds_ret de_bl)) dss_nil)
      (dss_one (ds_ret (de_call (ok_are_ascending T) hgd (hr.mono (by decide)) (by rfl) T.m_are_ascending T.F_are_ascending.kp T.b_are_ascending (da_cons (de_name 1) da_nil)))))) ok_ws_is_lot_of
theorem okx_need_lot (T : Tx P K mg) : FnG P w K mg base (L2.CX P w) 4 T.f_need_lot T.fd_need_lot ["order", "lot"] (spX (cmOf T) spx_need_lot) :=
  fn_raise (k := 3) (ws := wsx_need_lot) T.F_need_lot sc12 lenx_need_lot (fun G cdv A outer s H E W Ex hS hgd hr tk hx hp =>
    (dss_one (ds_if (dt_not (dt_val (de_call (ok_is_lot_of T) hgd (hr.mono (by decide)) (by rfl) T.m_is_lot_of T.F_is_lot_of.kp T.b_is_lot_of (da_cons (de_callX tk hx (okx_need_order T) hgd (hr.mono (by decide)) (by rfl) T.m_need_order T.F_need_order.kp T.b_need_order (da_cons (de_name 0) da_nil)) (da_cons (de_name 1) da_nil))))) (dss_one (ds_raise0 tk hx T.x_OutOfPlace (fi_OutOfPlace T) (cm_OutOfPlace T) hr de_str (by rfl))) dss_nil))) okx_ws_need_lot
theorem ok_need_lot (T : Tx P K mg) : FnG P w K mg base CX0 4 T.f_need_lot T.fd_need_lot ["order", "lot"] (spF SI0 0 sp_need_lot) := (okx_need_lot T).noX ofx_need_lot
theorem okx_is_within (T : Tx P K mg) : FnG P w K mg base (L2.CX P w) 5 T.f_is_within T.fd_is_within ["order", "one", "other"] (spX (cmOf T) spx_is_within) :=
  fn_raise (k := 4) (ws := wsx_is_within) T.F_is_within sc13 lenx_is_within (fun G cdv A outer s H E W Ex hS hgd hr tk hx hp =>
    (dss_cons (ds_expr (de_callX tk hx (okx_need_kind T) hgd (hr.mono (by decide)) (by rfl) T.m_need_kind T.F_need_kind.kp T.b_need_kind (da_cons (de_name 0) (da_cons (de_name 1) da_nil))))
      (dss_cons (ds_expr (de_callX tk hx (okx_need_kind T) hgd (hr.mono (by decide)) (by rfl) T.m_need_kind T.F_need_kind.kp T.b_need_kind (da_cons (de_name 0) (da_cons (de_name 2) da_nil))))
      (dss_one (ds_ret (de_cmp (op_inDD (DL.Room.u65 hr)) (de_name 2) (de_ix (DL.Room.u1 hr) (de_call (ok_above_of T) hgd (hr.mono (by decide)) (by rfl) T.m_above_of T.F_above_of.kp T.b_above_of (da_cons (de_name 0) da_nil)) (de_name 1)) (by rfl))))))) okx_ws_is_within
theorem ok_is_within (T : Tx P K mg) : FnG P w K mg base CX0 5 T.f_is_within T.fd_is_within ["order", "one", "other"] (spF SI0 0 sp_is_within) := (okx_is_within T).noX ofx_is_within
theorem ok_are_apart (T : Tx P K mg) : FnG P w K mg base CX0 1 T.f_are_apart T.fd_are_apart ["above", "lot"] (spF SI0 0 sp_are_apart) :=
  fn_pure (k := 0) (ws := ws_are_apart) T.F_are_apart sc14 len_are_apart (fun G cdv A outer s H E hS hgd hr =>
    (dss_one (ds_ret (de_not (de_callB (call_anyD rfl) (by rfl) T.n_any (by decide +kernel) (da_cons (de_lc2 (vs1 := [3]) rfl sc14.nd (di_val (de_name 1)) (blkOk_by (N := ["above", "lot", "one", "other"]) (sc := defScope s14) (own := [("one", 2), ("other", 3)]) (by decide +kernel)) (gok_name 2) (fun _ _ _ _ _ _ => (dg_name 2 sc14.nd)) (fun _ _ _ _ _ _ => dts_nil) (fun _ _ _ _ _ _ => (di_val (de_name 1))) (fun _ _ _ _ _ _ _ => (dg_name 3 sc14.nd)) (fun _ _ _ _ _ _ _ => dts_nil) (fun _ _ _ _ _ _ _ => (de_cmp (op_inDD (DL.Room.u65 hr)) (de_name 3) (de_ix (DL.Room.u1 hr) (de_name 0) (de_name 2)) (by rfl))) (by decide) (by decide) (by decide)) da_nil)))))) ok_ws_are_apart
theorem okx_is_clutter (T : Tx P K mg) : FnG P w K mg base (L2.CX P w) 5 T.f_is_clutter T.fd_is_clutter ["order", "lot"] (spX (cmOf T) spx_is_clutter) :=
  fn_raise (k := 4) (ws := wsx_is_clutter) T.F_is_clutter sc15 lenx_is_clutter (fun G cdv A outer s H E W Ex hS hgd hr tk hx hp =>
    (dss_cons (ds_expr (de_callX tk hx (okx_need_lot T) hgd (hr.mono (by decide)) (by rfl) T.m_need_lot T.F_need_lot.kp T.b_need_lot (da_cons (de_name 0) (da_cons (de_name 1) da_nil))))
      (dss_one (ds_ret (de_call (ok_are_apart T) hgd (hr.mono (by decide)) (by rfl) T.m_are_apart T.F_are_apart.kp T.b_are_apart (da_cons (de_call (ok_above_of T) hgd (hr.mono (by decide)) (by rfl) T.m_above_of T.F_above_of.kp T.b_above_of (da_cons (de_name 0) da_nil)) (da_cons (de_name 1) da_nil))))))) okx_ws_is_clutter
theorem ok_is_clutter (T : Tx P K mg) : FnG P w K mg base CX0 5 T.f_is_clutter T.fd_is_clutter ["order", "lot"] (spF SI0 0 sp_is_clutter) := (okx_is_clutter T).noX ofx_is_clutter
theorem ok_all_clutters (T : Tx P K mg) : FnG P w K mg base CX0 2 T.f_all_clutters T.fd_all_clutters ["order"] (spF SI0 0 sp_all_clutters) :=
  fn_pure (k := 1) (ws := ws_all_clutters) T.F_all_clutters sc16 len_all_clutters (fun G cdv A outer s H E hS hgd hr =>
    (dss_cons (ds_asgT (de_tup (da_cons (de_call (ok_above_of T) hgd (hr.mono (by decide)) (by rfl) T.m_above_of T.F_above_of.kp T.b_above_of (da_cons (de_name 0) da_nil)) (da_cons (de_lst (da_cons (de_tup da_nil) da_nil)) da_nil))) (dg_tup rfl (dgs_cons (dg_name 1 sc16.nd) (dgs_cons (dg_name 2 sc16.nd) dgs_nil))))
      (dss_cons (ds_for PassesOwn.never rfl (di_range1 (by rfl) T.n_range (da_cons (de_ix (DL.Room.u1 hr) (de_name 0) de_int) da_nil)) (fun _ => (dg_name 3 sc16.nd)) (fun _ => (dss_one (ds_set .fz 2 sc16.nd (de_op op_addD (de_name 2) (de_lc rfl sc16.nd (di_val (de_name 2)) (blkOk_by (N := ["order", "above", "found", "kind", "lot"]) (sc := defScope s16) (own := [("lot", 4)]) (by decide +kernel)) (fun _ _ _ _ _ _ => (dg_name 4 sc16.nd)) (fun _ _ _ _ _ _ => (dts_one (dt_val (de_call (ok_are_apart T) hgd (hr.mono (by decide)) (by rfl) T.m_are_apart T.F_are_apart.kp T.b_are_apart (da_cons (de_name 1) (da_cons (de_tup (da_star (de_name 4) (da_cons (de_name 3) da_nil))) da_nil)))))) (fun _ _ _ _ _ _ => (de_tup (da_star (de_name 4) (da_cons (de_name 3) da_nil)))) (by decide)))))))
      (dss_one (ds_ret (de_callB (call_sortedD (DL.Room.u65 hr)) (by rfl) T.n_sorted (by decide +kernel) (da_cons (de_name 2) da_nil))))))) ok_ws_all_clutters
theorem okx_clutters (T : Tx P K mg) : FnG P w K mg base (L2.CX P w) 4 T.f_clutters T.fd_clutters ["order"] (spX (cmOf T) spx_clutters) :=
  fn_raise (k := 3) (ws := wsx_clutters) T.F_clutters sc17 lenx_clutters (fun G cdv A outer s H E W Ex hS hgd hr tk hx hp =>
    (dss_cons (ds_expr (de_callX tk hx (okx_need_order T) hgd (hr.mono (by decide)) (by rfl) T.m_need_order T.F_need_order.kp T.b_need_order (da_cons (de_name 0) da_nil)))
      (dss_cons (ds_asg2O 1 2 rfl sc17.nd (de_call (ok_above_of T) hgd (hr.mono (by decide)) (by rfl) T.m_above_of T.F_above_of.kp T.b_above_of (da_cons (de_name 0) da_nil)) (de_lst da_nil))
      (dss_cons (ds_for hp rfl (di_val (de_call (ok_all_clutters T) hgd (hr.mono (by decide)) (by rfl) T.m_all_clutters T.F_all_clutters.kp T.b_all_clutters (da_cons (de_name 0) da_nil))) (fun _ => (dg_name 3 sc17.nd)) (fun _ => (dss_one (ds_if (dt_not (dt_val (de_callB (call_anyD rfl) (by rfl) T.n_any (by decide +kernel) (da_cons (de_lc rfl sc17.nd (di_range1 (by rfl) T.n_range (da_cons (de_ix (DL.Room.u1 hr) (de_name 0) de_int) da_nil)) (blkOk_by (N := ["order", "above", "found", "lot", "kind"]) (sc := defScope s17) (own := [("kind", 4)]) (by decide +kernel)) (fun _ _ _ _ _ _ => (dg_name 4 sc17.nd)) (fun _ _ _ _ _ _ => dts_nil) (fun _ _ _ _ _ _ => (de_and (de_cmp (op_notInDD (DL.Room.u65 hr)) (de_name 4) (de_name 3) (by rfl)) (de_one (de_call (ok_are_apart T) hgd (hr.mono (by decide)) (by rfl) T.m_are_apart T.F_are_apart.kp T.b_are_apart (da_cons (de_name 1) (da_cons (de_tup (da_star (de_name 3) (da_cons (de_name 4) da_nil))) da_nil)))))) (by decide)) da_nil)))) (dss_one (ds_append 2 (de_name 3))) dss_nil))))
      (dss_one (ds_ret (de_callTy call_tupleD (by rfl) T.n_tuple (by decide +kernel) (da_cons (de_name 2) da_nil)))))))) okx_ws_clutters
theorem ok_clutters (T : Tx P K mg) : FnG P w K mg base CX0 4 T.f_clutters T.fd_clutters ["order"] (spF SI0 0 sp_clutters) := (okx_clutters T).noX ofx_clutters
theorem ok_is_form_by (T : Tx P K mg) : FnG P w K mg base CX0 2 T.f_is_form_by T.fd_is_form_by ["above", "thing"] (spF SI0 0 sp_is_form_by) :=
  fn_pure (k := 1) (ws := ws_is_form_by) T.F_is_form_by sc18 len_is_form_by (fun G cdv A outer s H E hS hgd hr =>
    (dss_cons (ds_if (PW.pt (dw_or (dt_not (dt_val (de_isi kit_tuple (by rfl) T.n_isinstance (by rfl) T.n_tuple (by decide +kernel) (de_name 1)))) (dw_or (dt_cmp (op_eqDD hr.units) (de_name 1) (de_tup da_nil) (nomark _)) (dw_or1 (dt_not (dt_val (de_callB (call_allD rfl) (by rfl) T.n_all (by decide +kernel) (da_cons (de_lc rfl sc18.nd (di_val (de_name 1)) (blkOk_by (N := ["above", "thing", "one", "other"]) (sc := defScope s18) (own := [("one", 2)]) (by decide +kernel)) (fun _ _ _ _ _ _ => (dg_name 2 sc18.nd)) (fun _ _ _ _ _ _ => dts_nil) (fun _ _ _ _ _ _ => (de_call (ok_is_whole T) hgd (hr.mono (by decide)) (by rfl) T.m_is_whole T.F_is_whole.kp T.b_is_whole (da_cons (de_name 2) (da_cons de_int (da_cons (de_op op_subD (de_callB call_lenDD (by rfl) T.n_len (by decide +kernel) (da_cons (de_name 0) da_nil)) de_int) da_nil))))) (by decide)) da_nil)))))))) (dss_one (ds_ret de_bl)) dss_nil)
      (dss_one (ds_ret (de_callB (call_allD rfl) (by rfl) T.n_all (by decide +kernel) (da_cons (de_lc rfl sc18.nd (di_zip (by rfl) T.n_zip (da_cons (de_name 1) (da_cons (de_slice (de_name 1) (do_some de_int) do_none) da_nil))) (blkOk_by (N := ["above", "thing", "one", "other"]) (sc := defScope s18) (own := [("one", 2), ("other", 3)]) (by decide +kernel)) (fun _ _ _ _ _ _ => (dg_tup rfl (dgs_cons (dg_name 2 sc18.nd) (dgs_cons (dg_name 3 sc18.nd) dgs_nil)))) (fun _ _ _ _ _ _ => dts_nil) (fun _ _ _ _ _ _ => (de_cmp (op_inDD (DL.Room.u65 hr)) (de_name 3) (de_ix (DL.Room.u1 hr) (de_name 0) (de_name 2)) (by rfl))) (by decide)) da_nil)))))) ok_ws_is_form_by
theorem okx_is_form (T : Tx P K mg) : FnG P w K mg base (L2.CX P w) 4 T.f_is_form T.fd_is_form ["order", "value"] (spX (cmOf T) spx_is_form) :=
  fn_raise (k := 3) (ws := wsx_is_form) T.F_is_form sc19 lenx_is_form (fun G cdv A outer s H E W Ex hS hgd hr tk hx hp =>
    (dss_one (ds_ret (de_call (ok_is_form_by T) hgd (hr.mono (by decide)) (by rfl) T.m_is_form_by T.F_is_form_by.kp T.b_is_form_by (da_cons (de_call (ok_above_of T) hgd (hr.mono (by decide)) (by rfl) T.m_above_of T.F_above_of.kp T.b_above_of (da_cons (de_callX tk hx (okx_need_order T) hgd (hr.mono (by decide)) (by rfl) T.m_need_order T.F_need_order.kp T.b_need_order (da_cons (de_name 0) da_nil)) da_nil)) (da_cons (de_name 1) da_nil)))))) okx_ws_is_form
theorem ok_is_form (T : Tx P K mg) : FnG P w K mg base CX0 4 T.f_is_form T.fd_is_form ["order", "value"] (spF SI0 0 sp_is_form) := (okx_is_form T).noX ofx_is_form
theorem okx_forms (T : Tx P K mg) : FnG P w K mg base (L2.CX P w) 4 T.f_forms T.fd_forms ["order"] (spX (cmOf T) spx_forms) :=
  fn_raise (k := 3) (ws := wsx_forms) T.F_forms sc20 lenx_forms (fun G cdv A outer s H E W Ex hS hgd hr tk hx hp =>
    (dss_cons (ds_asgT (de_tup (da_cons (de_call (ok_above_of T) hgd (hr.mono (by decide)) (by rfl) T.m_above_of T.F_above_of.kp T.b_above_of (da_cons (de_callX tk hx (okx_need_order T) hgd (hr.mono (by decide)) (by rfl) T.m_need_order T.F_need_order.kp T.b_need_order (da_cons (de_name 0) da_nil)) da_nil)) (da_cons (de_lst da_nil) da_nil))) (dg_tup rfl (dgs_cons (dg_name 1 sc20.nd) (dgs_cons (dg_name 2 sc20.nd) dgs_nil))))
      (dss_cons (ds_setLc .fz 3 rfl sc20.nd rfl rfl (sw_true rfl rfl rfl (by decide +kernel)) (di_range1 (by rfl) T.n_range (da_cons (de_ix (DL.Room.u1 hr) (de_name 0) de_int) da_nil)) (blkOk_by (N := ["order", "above", "found", "layer", "kind", "form"]) (sc := defScope s20) (own := [("kind", 4)]) (by decide +kernel)) (fun _ _ _ _ _ _ => (dg_name 4 sc20.nd)) (fun _ _ _ _ _ _ => dts_nil) (fun _ _ _ _ _ _ => (de_tup (da_cons (de_name 4) da_nil))) (by decide))
      (dss_cons (ds_while hp (dt_cmp (op_neDD hr.units) (de_name 3) (de_lst da_nil) (nomark _)) (dss_cons (ds_set .fz 2 sc20.nd (de_op op_addD (de_name 2) (de_name 3)))
      (dss_one (ds_setLc2 (vs1 := [4]) .fz 3 rfl sc20.nd rfl rfl (sw_true rfl rfl rfl (by decide +kernel)) (di_val (de_name 3)) (blkOk_by (N := ["order", "above", "found", "layer", "kind", "form"]) (sc := defScope s20) (own := [("form", 5), ("kind", 4)]) (by decide +kernel)) (gok_name 5) (fun _ _ _ _ _ _ => (dg_name 5 sc20.nd)) (fun _ _ _ _ _ _ => dts_nil) (fun _ _ _ _ _ _ => (di_keys (de_ix (DL.Room.u1 hr) (de_name 1) (de_ix (DL.Room.u1 hr) (de_name 5) (de_neg de_int))))) (fun _ _ _ _ _ _ _ => (dg_name 4 sc20.nd)) (fun _ _ _ _ _ _ _ => dts_nil) (fun _ _ _ _ _ _ _ => (de_tup (da_star (de_name 5) (da_cons (de_name 4) da_nil)))) (by decide) (by decide) (by decide)))))
      (dss_one (ds_ret (de_callTy call_tupleD (by rfl) T.n_tuple (by decide +kernel) (da_cons (de_callB (call_sortedD (DL.Room.u65 hr)) (by rfl) T.n_sorted (by decide +kernel) (da_cons (de_name 2) da_nil)) da_nil)))))))) okx_ws_forms
theorem ok_forms (T : Tx P K mg) : FnG P w K mg base CX0 4 T.f_forms T.fd_forms ["order"] (spF SI0 0 sp_forms) := (okx_forms T).noX ofx_forms
theorem ok_tall_by (T : Tx P K mg) : FnG P w K mg base CX0 1 T.f_tall_by T.fd_tall_by ["above", "lot"] (spF SI0 0 sp_tall_by) :=
  fn_pure (k := 0) (ws := ws_tall_by) T.F_tall_by sc21 len_tall_by (fun G cdv A outer s H E hS hgd hr =>
    (dss_cons (ds_par2 .fz 2 .own 3 rfl sc21.nd de_int (de_dc rfl sc21.nd (di_val (de_name 1)) (blkOk_by (N := ["above", "lot", "found", "layer", "kind", "other"]) (sc := defScope s21) (own := [("kind", 4)]) (by decide +kernel)) (fun _ _ _ _ _ _ => (dg_name 4 sc21.nd)) (fun _ _ _ _ _ _ => dts_nil) (fun _ _ _ _ _ _ => (de_name 4)) (fun _ _ _ _ _ _ => de_bl) (by decide)))
      (dss_cons (ds_while PassesOwn.never (dt_cmp (op_neE hr.units0) (de_name 3) de_dnewK (nomark _)) (dss_cons (ds_augAdd 2 sc21.nd de_int)
      (dss_one (ds_frz 3 (ds_setDc2 (vs1 := [5]) .own 3 rfl sc21.nd rfl rfl (sw_dict rfl rfl rfl (by decide +kernel)) (di_keys (de_name 3)) (blkOk_by (N := ["above", "lot", "found", "layer", "kind", "other"]) (sc := defScope s21) (own := [("kind", 4), ("other", 5)]) (by decide +kernel)) (gok_name 4) (fun _ _ _ _ _ _ => (dg_name 4 sc21.nd)) (fun _ _ _ _ _ _ => dts_nil) (fun _ _ _ _ _ _ => (di_keys (de_ix (DL.Room.u1 hr) (de_name 0) (de_name 4)))) (fun _ _ _ _ _ _ _ => (dg_name 5 sc21.nd)) (fun _ _ _ _ _ _ _ => (dts_one (dt_cmp (op_inDD (DL.Room.u65 hr)) (de_name 5) (de_name 1) (by rfl)))) (fun _ _ _ _ _ _ _ => (de_name 5)) (fun _ _ _ _ _ _ _ => de_bl) (by decide) (by decide) (by decide))))))
      (dss_one (ds_ret (de_name 2)))))) ok_ws_tall_by
theorem okx_tall (T : Tx P K mg) : FnG P w K mg base (L2.CX P w) 5 T.f_tall T.fd_tall ["order", "lot"] (spX (cmOf T) spx_tall) :=
  fn_raise (k := 4) (ws := wsx_tall) T.F_tall sc22 lenx_tall (fun G cdv A outer s H E W Ex hS hgd hr tk hx hp =>
    (dss_cons (ds_expr (de_callX tk hx (okx_need_lot T) hgd (hr.mono (by decide)) (by rfl) T.m_need_lot T.F_need_lot.kp T.b_need_lot (da_cons (de_name 0) (da_cons (de_name 1) da_nil))))
      (dss_one (ds_ret (de_call (ok_tall_by T) hgd (hr.mono (by decide)) (by rfl) T.m_tall_by T.F_tall_by.kp T.b_tall_by (da_cons (de_call (ok_above_of T) hgd (hr.mono (by decide)) (by rfl) T.m_above_of T.F_above_of.kp T.b_above_of (da_cons (de_name 0) da_nil)) (da_cons (de_name 1) da_nil))))))) okx_ws_tall
theorem ok_tall (T : Tx P K mg) : FnG P w K mg base CX0 5 T.f_tall T.fd_tall ["order", "lot"] (spF SI0 0 sp_tall) := (okx_tall T).noX ofx_tall
theorem ok__law_order (a : Addr) (T : Tx P K mg) : FnG P w K mg base CX0 3 T.f__law_order T.fd__law_order ["_law_m", "_law_total"] (spF (SI a) (2 ^ 500) (sp__law_order a)) :=
  fn_data (k := 2) (ws := ws__law_order a) (stabB _ _ _ a) T.F__law_order sc26 (len__law_order a) (fun G cdv A outer s H E hS hgd hr =>
    (dss_cons (ds_set .fz 2 sc26.nd (de_op op_addD de_int (de_callE hS (ok__law_next a T) hgd (hr.mono (by decide)) (by rfl) T.m__law_next T.F__law_next.kp T.b__law_next (da_cons (de_name 0) (da_cons (de_name 1) da_nil)))))
      (dss_cons (ds_par3O 3 4 5 rfl sc26.nd (de_lrng1 rfl (by rfl) T.n_list (by rfl) T.n_range (de_name 2)) (de_lst da_nil) de_dnewK)
      (dss_cons (ds_whileE PassesOwn.never (dt_cmp (op_neDD hr.units) (de_name 3) (de_lst da_nil) (nomark _)) (dss_one (ds_appPop 4 3 (de_callE hS (ok__law_next a T) hgd (hr.mono (by decide)) (by rfl) T.m__law_next T.F__law_next.kp T.b__law_next (da_cons (de_name 0) (da_cons (de_callB call_lenDD (by rfl) T.n_len (by decide +kernel) (da_cons (de_name 3) da_nil)) da_nil))))))
      (dss_cons (ds_set .fz 6 sc26.nd (de_op op_addD de_int (de_callE hS (ok__law_next a T) hgd (hr.mono (by decide)) (by rfl) T.m__law_next T.F__law_next.kp T.b__law_next (da_cons (de_name 0) (da_cons de_int da_nil)))))
      (dss_cons (ds_for PassesOwn.never rfl (di_range1 (by rfl) T.n_range (da_cons (de_name 2) da_nil)) (fun _ => (dg_name 7 sc26.nd)) (fun _ => (dss_one (ds_for PassesOwn.never rfl (di_range2 (by rfl) T.n_range (da_cons (de_op op_addD (de_name 7) de_int) (da_cons (de_name 2) da_nil))) (fun _ => (dg_name 8 sc26.nd)) (fun _ => (dss_one (ds_if (dt_cmp (op_ltD hr.units0) (de_callE hS (ok__law_next a T) hgd (hr.mono (by decide)) (by rfl) T.m__law_next T.F__law_next.kp T.b__law_next (da_cons (de_name 0) (da_cons de_int da_nil))) (de_name 6) (nomark _)) (dss_one (ds_put 5 (DL.Room.u1 hr) (de_tup (da_cons (de_ix (DL.Room.u1 hr) (de_name 4) (de_name 7)) (da_cons (de_ix (DL.Room.u1 hr) (de_name 4) (de_name 8)) da_nil))) de_bl)) dss_nil)))))))
      (dss_one (ds_ret (de_tup (da_cons (de_name 2) (da_cons (de_callTy call_tupleD (by rfl) T.n_tuple (by decide +kernel) (da_cons (de_callB (call_sortedD (DL.Room.u65 hr)) (by rfl) T.n_sorted (by decide +kernel) (da_cons (de_keys rfl (by rfl) T.n_list (de_name 5)) da_nil)) da_nil)) da_nil))))))))))) (ok_ws__law_order a)
theorem ok__law_above (T : Tx P K mg) : FnG P w K mg base CX0 1 T.f__law_above T.fd__law_above ["_law_order_here"] (spF SI0 0 sp__law_above) :=
  fn_pure (k := 0) (ws := ws__law_above) T.F__law_above sc27 len__law_above (fun G cdv A outer s H E hS hgd hr =>
    (dss_cons (ds_setLc .fz 1 rfl sc27.nd rfl rfl (sw_true rfl rfl rfl (by decide +kernel)) (di_range1 (by rfl) T.n_range (da_cons (de_ix (DL.Room.u1 hr) (de_name 0) de_int) da_nil)) (blkOk_by (N := ["_law_order_here", "_law_rows", "_law_one", "_law_other", "_law_k", "_law_count", "_law_fresh", "_law_row", "_law_more"]) (sc := defScope s27) (own := [("_law_k", 4)]) (by decide +kernel)) (fun _ _ _ _ _ _ => (dg_name 4 sc27.nd)) (fun _ _ _ _ _ _ => dts_nil) (fun _ _ _ _ _ _ => (de_lc rfl sc27.nd (di_val (de_ix (DL.Room.u1 hr) (de_name 0) de_int)) (blkOk_by (N := ["_law_order_here", "_law_rows", "_law_one", "_law_other", "_law_k", "_law_count", "_law_fresh", "_law_row", "_law_more"]) (sc := relS _ (defScope s27)) (own := [("_law_one", 2), ("_law_other", 3)]) (by decide +kernel)) (fun _ _ _ _ _ _ => (dg_tup rfl (dgs_cons (dg_name 2 sc27.nd) (dgs_cons (dg_name 3 sc27.nd) dgs_nil)))) (fun _ _ _ _ _ _ => (dts_one (dt_cmp (op_eqDD hr.units) (de_name 2) (de_name 4) (nomark _)))) (fun _ _ _ _ _ _ => (de_name 3)) (by decide))) (by decide))
      (dss_cons (ds_for PassesOwn.never rfl (di_range1 (by rfl) T.n_range (da_cons (de_ix (DL.Room.u1 hr) (de_name 0) de_int) da_nil)) (fun _ => (dg_name 5 sc27.nd)) (fun _ => (dss_cons (ds_set .own 6 sc27.nd (de_lst da_nil))
      (dss_cons (ds_for PassesOwn.never rfl (di_val (de_name 1)) (fun _ => (dg_name 7 sc27.nd)) (fun _ => (dss_cons (ds_set .fz 8 sc27.nd (de_callTy call_listD (by rfl) T.n_list (by decide +kernel) (da_cons (de_name 7) da_nil)))
      (dss_cons (ds_for PassesOwn.never rfl (di_val (de_name 7)) (fun _ => (dg_name 2 sc27.nd)) (fun _ => (dss_one (ds_set .fz 8 sc27.nd (de_op op_addD (de_name 8) (de_ix (DL.Room.u1 hr) (de_name 1) (de_name 2)))))))
      (dss_one (ds_append 6 (de_sset rfl (by rfl) T.n_sorted (by rfl) T.n_set (de_name 8))))))))
      (dss_one (ds_frz 6 (ds_set .fz 1 sc27.nd (de_name 6))))))))
      (dss_one (ds_ret (de_name 1)))))) ok_ws__law_above
theorem ok__law_lots (T : Tx P K mg) : FnG P w K mg base CX0 1 T.f__law_lots T.fd__law_lots ["_law_kinds"] (spF SI0 0 sp__law_lots) :=
  fn_pure (k := 0) (ws := ws__law_lots) T.F__law_lots sc28 len__law_lots (fun G cdv A outer s H E hS hgd hr =>
    (dss_cons (ds_set .fz 1 sc28.nd (de_lst (da_cons (de_tup da_nil) da_nil)))
      (dss_cons (ds_for PassesOwn.never rfl (di_range1 (by rfl) T.n_range (da_cons (de_name 0) da_nil)) (fun _ => (dg_name 2 sc28.nd)) (fun _ => (dss_one (ds_set .fz 1 sc28.nd (de_op op_addD (de_name 1) (de_lc rfl sc28.nd (di_val (de_name 1)) (blkOk_by (N := ["_law_kinds", "_law_found", "_law_k", "_law_lot"]) (sc := defScope s28) (own := [("_law_lot", 3)]) (by decide +kernel)) (fun _ _ _ _ _ _ => (dg_name 3 sc28.nd)) (fun _ _ _ _ _ _ => dts_nil) (fun _ _ _ _ _ _ => (de_op op_addD (de_name 3) (de_tup (da_cons (de_name 2) da_nil)))) (by decide)))))))
      (dss_one (ds_ret (de_name 1)))))) ok_ws__law_lots
theorem ok__law_apart (T : Tx P K mg) : FnG P w K mg base CX0 1 T.f__law_apart T.fd__law_apart ["_law_rows", "_law_lot"] (spF SI0 0 sp__law_apart) :=
  fn_pure (k := 0) (ws := ws__law_apart) T.F__law_apart sc29 len__law_apart (fun G cdv A outer s H E hS hgd hr =>
    (dss_cons (ds_for PassesOwn.never rfl (di_val (de_name 1)) (fun _ => (dg_name 2 sc29.nd)) (fun _ => (dss_one (ds_if (dt_cmp (op_neDD hr.units) (de_lc rfl sc29.nd (di_val (de_name 1)) (blkOk_by (N := ["_law_rows", "_law_lot", "_law_one", "_law_other"]) (sc := defScope s29) (own := [("_law_other", 3)]) (by decide +kernel)) (fun _ _ _ _ _ _ => (dg_name 3 sc29.nd)) (fun _ _ _ _ _ _ => (dts_one (dt_cmp (op_inDD (DL.Room.u65 hr)) (de_name 3) (de_ix (DL.Room.u1 hr) (de_name 0) (de_name 2)) (by rfl)))) (fun _ _ _ _ _ _ => (de_name 3)) (by decide)) (de_lst da_nil) (nomark _)) (dss_one (ds_ret de_bl)) dss_nil))))
      (dss_one (ds_ret de_bl)))) ok_ws__law_apart
theorem ok__law_forms (T : Tx P K mg) : FnG P w K mg base CX0 1 T.f__law_forms T.fd__law_forms ["_law_rows"] (spF SI0 0 sp__law_forms) :=
  fn_pure (k := 0) (ws := ws__law_forms) T.F__law_forms sc30 len__law_forms (fun G cdv A outer s H E hS hgd hr =>
    (dss_cons (ds_par2 .fz 1 .fz 2 rfl sc30.nd (de_lst da_nil) (de_lc rfl sc30.nd (di_range1 (by rfl) T.n_range (da_cons (de_callB call_lenDD (by rfl) T.n_len (by decide +kernel) (da_cons (de_name 0) da_nil)) da_nil)) (blkOk_by (N := ["_law_rows", "_law_found", "_law_layer", "_law_k", "_law_fresh", "_law_form"]) (sc := defScope s30) (own := [("_law_k", 3)]) (by decide +kernel)) (fun _ _ _ _ _ _ => (dg_name 3 sc30.nd)) (fun _ _ _ _ _ _ => dts_nil) (fun _ _ _ _ _ _ => (de_tup (da_cons (de_name 3) da_nil))) (by decide)))
      (dss_cons (ds_while PassesOwn.never (dt_cmp (op_neDD hr.units) (de_name 2) (de_lst da_nil) (nomark _)) (dss_cons (ds_par2 .fz 1 .fz 4 rfl sc30.nd (de_op op_addD (de_name 1) (de_name 2)) (de_lst da_nil))
      (dss_cons (ds_for PassesOwn.never rfl (di_val (de_name 2)) (fun _ => (dg_name 5 sc30.nd)) (fun _ => (dss_one (ds_set .fz 4 sc30.nd (de_op op_addD (de_name 4) (de_lc rfl sc30.nd (di_val (de_ix (DL.Room.u1 hr) (de_name 0) (de_ix (DL.Room.u1 hr) (de_name 5) (de_neg de_int)))) (blkOk_by (N := ["_law_rows", "_law_found", "_law_layer", "_law_k", "_law_fresh", "_law_form"]) (sc := defScope s30) (own := [("_law_k", 3)]) (by decide +kernel)) (fun _ _ _ _ _ _ => (dg_name 3 sc30.nd)) (fun _ _ _ _ _ _ => dts_nil) (fun _ _ _ _ _ _ => (de_op op_addD (de_name 5) (de_tup (da_cons (de_name 3) da_nil)))) (by decide)))))))
      (dss_one (ds_set .fz 2 sc30.nd (de_name 4))))))
      (dss_one (ds_ret (de_callB (call_sortedD (DL.Room.u65 hr)) (by rfl) T.n_sorted (by decide +kernel) (da_cons (de_name 1) da_nil))))))) ok_ws__law_forms
theorem ok__law_tall (T : Tx P K mg) : FnG P w K mg base CX0 1 T.f__law_tall T.fd__law_tall ["_law_rows", "_law_lot"] (spF SI0 0 sp__law_tall) :=
  fn_pure (k := 0) (ws := ws__law_tall) T.F__law_tall sc31 len__law_tall (fun G cdv A outer s H E hS hgd hr =>
    (dss_cons (ds_set .own 2 sc31.nd de_dnewK)
      (dss_cons (ds_for PassesOwn.never rfl (di_range1 (by rfl) T.n_range (da_cons (de_op op_addD (de_callB call_lenDD (by rfl) T.n_len (by decide +kernel) (da_cons (de_name 1) da_nil)) de_int) da_nil)) (fun _ => (dg_name 3 sc31.nd)) (fun _ => (dss_one (ds_for PassesOwn.never rfl (di_val (de_name 1)) (fun _ => (dg_name 4 sc31.nd)) (fun _ => (dss_one (ds_put 2 (DL.Room.u1 hr) (de_name 4) (de_op op_addD de_int (de_callB (call_maxD rfl) (by rfl) T.n_max (by decide +kernel) (da_cons (de_op op_addD (de_lst (da_cons de_int da_nil)) (de_lc rfl sc31.nd (di_val (de_ix (DL.Room.u1 hr) (de_name 0) (de_name 4))) (blkOk_by (N := ["_law_rows", "_law_lot", "_law_best", "_law_count", "_law_one", "_law_other"]) (sc := defScope s31) (own := [("_law_other", 5)]) (by decide +kernel)) (fun _ _ _ _ _ _ => (dg_name 5 sc31.nd)) (fun _ _ _ _ _ _ => (dts_one (dt_cmp (op_inDD (DL.Room.u65 hr)) (de_name 5) (de_name 1) (by rfl)))) (fun _ _ _ _ _ _ => (de_get2 (DL.Room.u1 hr) (de_name 2) (de_name 5) de_int ⟨by rfl, by rfl, by rfl, by rfl⟩)) (by decide))) da_nil))))))))))
      (dss_one (ds_ret (de_callB (call_maxD rfl) (by rfl) T.n_max (by decide +kernel) (da_cons (de_op op_addD (de_lst (da_cons de_int da_nil)) (de_lc rfl sc31.nd (di_val (de_name 1)) (blkOk_by (N := ["_law_rows", "_law_lot", "_law_best", "_law_count", "_law_one", "_law_other"]) (sc := defScope s31) (own := [("_law_one", 4)]) (by decide +kernel)) (fun _ _ _ _ _ _ => (dg_name 4 sc31.nd)) (fun _ _ _ _ _ _ => dts_nil) (fun _ _ _ _ _ _ => (de_ix (DL.Room.u1 hr) (de_name 2) (de_name 4))) (by decide))) da_nil))))))) ok_ws__law_tall
theorem ok__law_right (a : Addr) (T : Tx P K mg) : FnG P w K mg base CX0 6 T.f__law_right T.fd__law_right ["_law_m", "_law_order_here"] (spF (SI a) (2 ^ 500) (sp__law_right a)) :=
  fn_data (k := 5) (ws := ws__law_right a) (stabB _ _ _ a) T.F__law_right sc32 (len__law_right a) (fun G cdv A outer s H E hS hgd hr =>
    (dss_cons (ds_asgT (de_tup (da_cons (de_call (ok__law_above T) hgd (hr.mono (by decide)) (by rfl) T.m__law_above T.F__law_above.kp T.b__law_above (da_cons (de_name 1) da_nil)) (da_cons (de_lrng1 rfl (by rfl) T.n_list (by rfl) T.n_range (de_ix (DL.Room.u1 hr) (de_name 1) de_int)) da_nil))) (dg_tup rfl (dgs_cons (dg_name 2 sc32.nd) (dgs_cons (dg_name 3 sc32.nd) dgs_nil))))
      (dss_cons (ds_if (dt_cmp (op_neDD hr.units) (de_call (ok_need_order T) hgd (hr.mono (by decide)) (by rfl) T.m_need_order T.F_need_order.kp T.b_need_order (da_cons (de_name 1) da_nil)) (de_name 1) (nomark _)) (dss_one (ds_ret de_bl)) dss_nil)
      (dss_cons (ds_for PassesOwn.never rfl (di_val (de_name 3)) (fun _ => (dg_name 4 sc32.nd)) (fun _ => (dss_one (ds_if (dt_cmp (op_neDD hr.units) (de_lc rfl sc32.nd (di_val (de_name 3)) (blkOk_by (N := ["_law_m", "_law_order_here", "_law_rows", "_law_kinds", "_law_one", "_law_other", "_law_lots_here", "_law_flat", "_law_lot", "_law_full", "_law_k", "_law_due", "_law_form", "_law_count", "_law_row", "_law_odd"]) (sc := defScope s32) (own := [("_law_other", 5)]) (by decide +kernel)) (fun _ _ _ _ _ _ => (dg_name 5 sc32.nd)) (fun _ _ _ _ _ _ => (dts_one (dt_val (de_call (ok_is_within T) hgd (hr.mono (by decide)) (by rfl) T.m_is_within T.F_is_within.kp T.b_is_within (da_cons (de_name 1) (da_cons (de_name 4) (da_cons (de_name 5) da_nil))))))) (fun _ _ _ _ _ _ => (de_name 5)) (by decide)) (de_ix (DL.Room.u1 hr) (de_name 2) (de_name 4)) (nomark _)) (dss_one (ds_ret de_bl)) dss_nil))))
      (dss_cons (ds_set .fz 6 sc32.nd (de_call (ok__law_lots T) hgd (hr.mono (by decide)) (by rfl) T.m__law_lots T.F__law_lots.kp T.b__law_lots (da_cons (de_ix (DL.Room.u1 hr) (de_name 1) de_int) da_nil)))
      (dss_cons (ds_set .fz 7 sc32.nd (de_lc rfl sc32.nd (di_val (de_name 6)) (blkOk_by (N := ["_law_m", "_law_order_here", "_law_rows", "_law_kinds", "_law_one", "_law_other", "_law_lots_here", "_law_flat", "_law_lot", "_law_full", "_law_k", "_law_due", "_law_form", "_law_count", "_law_row", "_law_odd"]) (sc := defScope s32) (own := [("_law_lot", 8)]) (by decide +kernel)) (fun _ _ _ _ _ _ => (dg_name 8 sc32.nd)) (fun _ _ _ _ _ _ => (dts_one (dt_val (de_call (ok__law_apart T) hgd (hr.mono (by decide)) (by rfl) T.m__law_apart T.F__law_apart.kp T.b__law_apart (da_cons (de_name 2) (da_cons (de_name 8) da_nil)))))) (fun _ _ _ _ _ _ => (de_name 8)) (by decide)))
      (dss_cons (ds_for PassesOwn.never rfl (di_val (de_name 6)) (fun _ => (dg_name 8 sc32.nd)) (fun _ => (dss_one (ds_if (dt_cmp (op_neDD hr.units) (de_callB (call_reprD hgd (DL.Room.u65 hr)) (by rfl) T.n_repr (by decide +kernel) (da_cons (de_lst (da_cons (de_call (ok_is_clutter T) hgd (hr.mono (by decide)) (by rfl) T.m_is_clutter T.F_is_clutter.kp T.b_is_clutter (da_cons (de_name 1) (da_cons (de_name 8) da_nil))) (da_cons (de_call (ok_tall T) hgd (hr.mono (by decide)) (by rfl) T.m_tall T.F_tall.kp T.b_tall (da_cons (de_name 1) (da_cons (de_name 8) da_nil))) da_nil))) da_nil)) (de_callB (call_reprD hgd (DL.Room.u65 hr)) (by rfl) T.n_repr (by decide +kernel) (da_cons (de_lst (da_cons (de_cmp (op_inDD (DL.Room.u65 hr)) (de_name 8) (de_name 7) (by rfl)) (da_cons (de_call (ok__law_tall T) hgd (hr.mono (by decide)) (by rfl) T.m__law_tall T.F__law_tall.kp T.b__law_tall (da_cons (de_name 2) (da_cons (de_name 8) da_nil))) da_nil))) da_nil)) (nomark _)) (dss_one (ds_ret de_bl)) dss_nil))))
      (dss_cons (ds_set .own 9 sc32.nd (de_lst da_nil))
      (dss_cons (ds_for PassesOwn.never rfl (di_val (de_name 7)) (fun _ => (dg_name 8 sc32.nd)) (fun _ => (dss_one (ds_if (dt_cmp (op_eqDD hr.units) (de_lc rfl sc32.nd (di_val (de_name 3)) (blkOk_by (N := ["_law_m", "_law_order_here", "_law_rows", "_law_kinds", "_law_one", "_law_other", "_law_lots_here", "_law_flat", "_law_lot", "_law_full", "_law_k", "_law_due", "_law_form", "_law_count", "_law_row", "_law_odd"]) (sc := defScope s32) (own := [("_law_k", 10)]) (by decide +kernel)) (fun _ _ _ _ _ _ => (dg_name 10 sc32.nd)) (fun _ _ _ _ _ _ => (dts_one (PW.pt (dw_and (dt_cmp (op_notInDD (DL.Room.u65 hr)) (de_name 10) (de_name 8) (by rfl)) (dw_and1 (dt_cmp (op_inDD (DL.Room.u65 hr)) (de_callTy call_tupleD (by rfl) T.n_tuple (by decide +kernel) (da_cons (de_callB (call_sortedD (DL.Room.u65 hr)) (by rfl) T.n_sorted (by decide +kernel) (da_cons (de_op op_addD (de_name 8) (de_tup (da_cons (de_name 10) da_nil))) da_nil)) da_nil)) (de_name 7) (by rfl))))))) (fun _ _ _ _ _ _ => (de_name 10)) (by decide)) (de_lst da_nil) (nomark _)) (dss_one (ds_append 9 (de_name 8))) dss_nil))))
      (dss_cons (ds_set .fz 11 sc32.nd (de_call (ok__law_forms T) hgd (hr.mono (by decide)) (by rfl) T.m__law_forms T.F__law_forms.kp T.b__law_forms (da_cons (de_name 2) da_nil)))
      (dss_cons (ds_if (PW.pt (dw_or (dt_cmp (op_neDD hr.units) (de_callB (call_reprD hgd (DL.Room.u65 hr)) (by rfl) T.n_repr (by decide +kernel) (da_cons (de_call (ok_clutters T) hgd (hr.mono (by decide)) (by rfl) T.m_clutters T.F_clutters.kp T.b_clutters (da_cons (de_name 1) da_nil)) da_nil)) (de_callB (call_reprD hgd (DL.Room.u65 hr)) (by rfl) T.n_repr (by decide +kernel) (da_cons (de_callTy call_tupleD (by rfl) T.n_tuple (by decide +kernel) (da_cons (de_callB (call_sortedD (DL.Room.u65 hr)) (by rfl) T.n_sorted (by decide +kernel) (da_cons (de_name 9) da_nil)) da_nil)) da_nil)) (nomark _)) (dw_or1 (dt_cmp (op_neDD hr.units) (de_callB (call_reprD hgd (DL.Room.u65 hr)) (by rfl) T.n_repr (by decide +kernel) (da_cons (de_call (ok_forms T) hgd (hr.mono (by decide)) (by rfl) T.m_forms T.F_forms.kp T.b_forms (da_cons (de_name 1) da_nil)) da_nil)) (de_callB (call_reprD hgd (DL.Room.u65 hr)) (by rfl) T.n_repr (by decide +kernel) (da_cons (de_callTy call_tupleD (by rfl) T.n_tuple (by decide +kernel) (da_cons (de_name 11) da_nil)) da_nil)) (nomark _))))) (dss_one (ds_ret de_bl)) dss_nil)
      (dss_cons (ds_if (dt_cmp (op_neDD hr.units) (de_lc rfl sc32.nd (di_val (de_name 11)) (blkOk_by (N := ["_law_m", "_law_order_here", "_law_rows", "_law_kinds", "_law_one", "_law_other", "_law_lots_here", "_law_flat", "_law_lot", "_law_full", "_law_k", "_law_due", "_law_form", "_law_count", "_law_row", "_law_odd"]) (sc := defScope s32) (own := [("_law_form", 12)]) (by decide +kernel)) (fun _ _ _ _ _ _ => (dg_name 12 sc32.nd)) (fun _ _ _ _ _ _ => (dts_one (dt_cmp op_isNotD (de_call (ok_is_form T) hgd (hr.mono (by decide)) (by rfl) T.m_is_form T.F_is_form.kp T.b_is_form (da_cons (de_name 1) (da_cons (de_name 12) da_nil))) de_bl (nomark _)))) (fun _ _ _ _ _ _ => (de_name 12)) (by decide)) (de_lst da_nil) (nomark _)) (dss_one (ds_ret de_bl)) dss_nil)
      (dss_cons (ds_for PassesOwn.never rfl (di_range1 (by rfl) T.n_range (da_cons de_int da_nil)) (fun _ => (dg_name 13 sc32.nd)) (fun _ => (dss_cons (ds_set .fz 14 sc32.nd (de_callTy call_tupleD (by rfl) T.n_tuple (by decide +kernel) (da_cons (de_lc rfl sc32.nd (di_range1 (by rfl) T.n_range (da_cons (de_callE hS (ok__law_next a T) hgd (hr.mono (by decide)) (by rfl) T.m__law_next T.F__law_next.kp T.b__law_next (da_cons (de_name 0) (da_cons de_int da_nil))) da_nil)) (blkOk_by (N := ["_law_m", "_law_order_here", "_law_rows", "_law_kinds", "_law_one", "_law_other", "_law_lots_here", "_law_flat", "_law_lot", "_law_full", "_law_k", "_law_due", "_law_form", "_law_count", "_law_row", "_law_odd"]) (sc := defScope s32) (own := [("_law_k", 10)]) (by decide +kernel)) (fun _ _ _ _ _ _ => (dg_name 10 sc32.nd)) (fun _ _ _ _ _ _ => dts_nil) (fun _ _ _ _ _ _ => (de_callE hS (ok__law_next a T) hgd (hr.mono (by decide)) (by rfl) T.m__law_next T.F__law_next.kp T.b__law_next (da_cons (de_name 0) (da_cons (de_op op_addD (de_ix (DL.Room.u1 hr) (de_name 1) de_int) de_int) da_nil)))) (by decide)) da_nil)))
      (dss_one (ds_if (dt_cmp (op_neDD hr.units) (de_callB (call_reprD hgd (DL.Room.u65 hr)) (by rfl) T.n_repr (by decide +kernel) (da_cons (de_call (ok_is_form T) hgd (hr.mono (by decide)) (by rfl) T.m_is_form T.F_is_form.kp T.b_is_form (da_cons (de_name 1) (da_cons (de_name 14) da_nil))) da_nil)) (de_callB (call_reprD hgd (DL.Room.u65 hr)) (by rfl) T.n_repr (by decide +kernel) (da_cons (de_cmp (op_inDD (DL.Room.u65 hr)) (de_name 14) (de_name 11) (by rfl)) da_nil)) (nomark _)) (dss_one (ds_ret de_bl)) dss_nil)))))
      (dss_one (ds_ret (de_cmp (op_eqDD hr.units) (de_lc rfl sc32.nd (di_val (de_tup (da_cons de_non (da_cons (de_tup da_nil) (da_cons (de_lst (da_cons de_int da_nil)) (da_cons (de_tup (da_cons de_bl da_nil)) (da_cons (de_tup (da_cons de_str da_nil)) (da_cons de_int da_nil)))))))) (blkOk_by (N := ["_law_m", "_law_order_here", "_law_rows", "_law_kinds", "_law_one", "_law_other", "_law_lots_here", "_law_flat", "_law_lot", "_law_full", "_law_k", "_law_due", "_law_form", "_law_count", "_law_row", "_law_odd"]) (sc := defScope s32) (own := [("_law_odd", 15)]) (by decide +kernel)) (fun _ _ _ _ _ _ => (dg_name 15 sc32.nd)) (fun _ _ _ _ _ _ => (dts_one (dt_cmp op_isNotD (de_call (ok_is_form T) hgd (hr.mono (by decide)) (by rfl) T.m_is_form T.F_is_form.kp T.b_is_form (da_cons (de_name 1) (da_cons (de_name 15) da_nil))) de_bl (nomark _)))) (fun _ _ _ _ _ _ => (de_name 15)) (by decide)) (de_lst da_nil) (nomark _))))))))))))))))) (ok_ws__law_right a)
theorem ok_law (T : Tx P K mg) : FnG P w K mg base CX0 8 T.f_law T.fd_law ["_law_script"] (spLaw K) :=
  fn_law (k := 7) (SIa := SI) (fun a => stabB _ _ _ a) (ws := ws_law) T.F_law sc33 rfl rfl (fun cdv A outer s H E hgd hr => ps_set (i := 1) sc33.nd rfl (by first | exact .inl rfl | exact .inr rfl) (pe_callG (ok_begunG T) hgd (hr.mono (by decide)) (by rfl) T.m__law_begun T.F__law_begun.kp T.b__law_begun (pa_cons (pv 0) pa_nil))) (fun a a0 n G cdv A outer s H E hS hs hgd hr =>
    (dss_cons (ds_for PassesOwn.never rfl (di_range1 (by rfl) T.n_range (da_cons (de_op op_addD de_int (de_callB (call_minD rfl) (by rfl) T.n_min (by decide +kernel) (da_cons (de_lenS 0 hs (by rfl) T.n_len) (da_cons de_int da_nil)))) da_nil)) (fun _ => (dg_name 2 sc33.nd)) (fun _ => (dss_one (ds_if (dt_not (dt_val (de_callE hS (ok__law_right a T) hgd (hr.mono (by decide)) (by rfl) T.m__law_right T.F__law_right.kp T.b__law_right (da_cons (de_name 1) (da_cons (de_callE hS (ok__law_order a T) hgd (hr.mono (by decide)) (by rfl) T.m__law_order T.F__law_order.kp T.b__law_order (da_cons (de_name 1) (da_cons de_int da_nil))) da_nil))))) (dss_one (ds_ret de_bl)) dss_nil))))
      (dss_cons (ds_if (PW.pt (dw_or (dt_cmp (op_neDD hr.units) (de_call (ok_clutters T) hgd (hr.mono (by decide)) (by rfl) T.m_clutters T.F_clutters.kp T.b_clutters (da_cons (de_tup (da_cons de_int (da_cons (de_tup da_nil) da_nil))) da_nil)) (de_tup (da_cons (de_trng1 rfl (by rfl) T.n_tuple (by rfl) T.n_range de_int) da_nil)) (nomark _)) (dw_or1 (dt_val (de_call (ok_is_clutter T) hgd (hr.mono (by decide)) (by rfl) T.m_is_clutter T.F_is_clutter.kp T.b_is_clutter (da_cons (de_tup (da_cons de_int (da_cons (de_tup (da_cons (de_tup (da_cons de_int (da_cons de_int da_nil))) da_nil)) da_nil))) (da_cons (de_trng1 rfl (by rfl) T.n_tuple (by rfl) T.n_range de_int) da_nil))))))) (dss_one (ds_ret de_bl)) dss_nil)
      (dss_cons (ds_set .fz 3 sc33.nd (de_tup (da_cons de_int (da_cons (de_callTy call_tupleD (by rfl) T.n_tuple (by decide +kernel) (da_cons (de_lc rfl sc33.nd (di_range1 (by rfl) T.n_range (da_cons de_int da_nil)) (blkOk_by (N := ["_law_script", "_law_m", "_law_turn", "_law_ladder", "_law_k"]) (sc := defScope s33) (own := [("_law_k", 4)]) (by decide +kernel)) (fun _ _ _ _ _ _ => (dg_name 4 sc33.nd)) (fun _ _ _ _ _ _ => dts_nil) (fun _ _ _ _ _ _ => (de_tup (da_cons (de_name 4) (da_cons (de_op op_addD (de_name 4) de_int) da_nil)))) (by decide)) da_nil)) da_nil))))
      (dss_cons (ds_if (dt_not (dt_val (de_call (ok_is_form T) hgd (hr.mono (by decide)) (by rfl) T.m_is_form T.F_is_form.kp T.b_is_form (da_cons (de_name 3) (da_cons (de_trng1 rfl (by rfl) T.n_tuple (by rfl) T.n_range de_int) da_nil))))) (dss_one (ds_ret de_bl)) dss_nil)
      (dss_one (ds_ret (de_and (de_cmp (op_eqDD hr.units) (de_callB call_lenDD (by rfl) T.n_len (by decide +kernel) (da_cons (de_call (ok_forms T) hgd (hr.mono (by decide)) (by rfl) T.m_forms T.F_forms.kp T.b_forms (da_cons (de_name 3) da_nil)) da_nil)) de_int (nomark _)) (de_and (de_cmp (op_eqDD hr.units) (de_call (ok_tall T) hgd (hr.mono (by decide)) (by rfl) T.m_tall T.F_tall.kp T.b_tall (da_cons (de_name 3) (da_cons (de_trng1 rfl (by rfl) T.n_tuple (by rfl) T.n_range de_int) da_nil))) de_int (nomark _)) (de_one (de_call (ok_is_within T) hgd (hr.mono (by decide)) (by rfl) T.m_is_within T.F_is_within.kp T.b_is_within (da_cons (de_name 3) (da_cons de_int (da_cons de_int da_nil)))))))))))))) ok_ws_law

end
theorem all_mk {l : PySem.W.OpenLaw} {w : World} {K : PySem.W.Frag} {h : Heap} {mg : Str → Option Value} {fa : Addr} (X : K.In h) (G : h.Ns mainGlobals mg) (hfa : mg "law" = some (.ref fa))
    {f0 : Addr} {od0 an0 : Option Addr} {sl0 : Array (Option Value)} {oc0 kV0 dc0 pm0 cd0 ct0 : Value} (a0 : PySem.W.nsIn K mainGlobals "is_whole" = some (some (.ref f0))) (l0 : K.lookup f0 = some ⟨oc0, od0, .func (PySem.W.fnOf "is_whole" "is_whole" (defArgs s5) (defBody s5) (defScope s5) .none kV0 dc0 pm0 an0 cd0 ct0), sl0⟩) (c0 : PySem.W.codeIn K cd0 "is_whole" = true) (k0 : PySem.W.keepIn K (.ref f0) = true)
    {f1 : Addr} {od1 an1 : Option Addr} {sl1 : Array (Option Value)} {oc1 kV1 dc1 pm1 cd1 ct1 : Value} (a1 : PySem.W.nsIn K mainGlobals "are_ascending" = some (some (.ref f1))) (l1 : K.lookup f1 = some ⟨oc1, od1, .func (PySem.W.fnOf "are_ascending" "are_ascending" (defArgs s6) (defBody s6) (defScope s6) .none kV1 dc1 pm1 an1 cd1 ct1), sl1⟩) (c1 : PySem.W.codeIn K cd1 "are_ascending" = true) (k1 : PySem.W.keepIn K (.ref f1) = true)
    {f2 : Addr} {od2 an2 : Option Addr} {sl2 : Array (Option Value)} {oc2 kV2 dc2 pm2 cd2 ct2 : Value} (a2 : PySem.W.nsIn K mainGlobals "is_pair" = some (some (.ref f2))) (l2 : K.lookup f2 = some ⟨oc2, od2, .func (PySem.W.fnOf "is_pair" "is_pair" (defArgs s7) (defBody s7) (defScope s7) .none kV2 dc2 pm2 an2 cd2 ct2), sl2⟩) (c2 : PySem.W.codeIn K cd2 "is_pair" = true) (k2 : PySem.W.keepIn K (.ref f2) = true)
    {f3 : Addr} {od3 an3 : Option Addr} {sl3 : Array (Option Value)} {oc3 kV3 dc3 pm3 cd3 ct3 : Value} (a3 : PySem.W.nsIn K mainGlobals "above_of" = some (some (.ref f3))) (l3 : K.lookup f3 = some ⟨oc3, od3, .func (PySem.W.fnOf "above_of" "above_of" (defArgs s8) (defBody s8) (defScope s8) .none kV3 dc3 pm3 an3 cd3 ct3), sl3⟩) (c3 : PySem.W.codeIn K cd3 "above_of" = true) (k3 : PySem.W.keepIn K (.ref f3) = true)
    {f4 : Addr} {od4 an4 : Option Addr} {sl4 : Array (Option Value)} {oc4 kV4 dc4 pm4 cd4 ct4 : Value} (a4 : PySem.W.nsIn K mainGlobals "need_order" = some (some (.ref f4))) (l4 : K.lookup f4 = some ⟨oc4, od4, .func (PySem.W.fnOf "need_order" "need_order" (defArgs s9) (defBody s9) (defScope s9) .none kV4 dc4 pm4 an4 cd4 ct4), sl4⟩) (c4 : PySem.W.codeIn K cd4 "need_order" = true) (k4 : PySem.W.keepIn K (.ref f4) = true)
    {f5 : Addr} {od5 an5 : Option Addr} {sl5 : Array (Option Value)} {oc5 kV5 dc5 pm5 cd5 ct5 : Value} (a5 : PySem.W.nsIn K mainGlobals "need_kind" = some (some (.ref f5))) (l5 : K.lookup f5 = some ⟨oc5, od5, .func (PySem.W.fnOf "need_kind" "need_kind" (defArgs s10) (defBody s10) (defScope s10) .none kV5 dc5 pm5 an5 cd5 ct5), sl5⟩) (c5 : PySem.W.codeIn K cd5 "need_kind" = true) (k5 : PySem.W.keepIn K (.ref f5) = true)
    {f6 : Addr} {od6 an6 : Option Addr} {sl6 : Array (Option Value)} {oc6 kV6 dc6 pm6 cd6 ct6 : Value} (a6 : PySem.W.nsIn K mainGlobals "is_lot_of" = some (some (.ref f6))) (l6 : K.lookup f6 = some ⟨oc6, od6, .func (PySem.W.fnOf "is_lot_of" "is_lot_of" (defArgs s11) (defBody s11) (defScope s11) .none kV6 dc6 pm6 an6 cd6 ct6), sl6⟩) (c6 : PySem.W.codeIn K cd6 "is_lot_of" = true) (k6 : PySem.W.keepIn K (.ref f6) = true)
    {f7 : Addr} {od7 an7 : Option Addr} {sl7 : Array (Option Value)} {oc7 kV7 dc7 pm7 cd7 ct7 : Value} (a7 : PySem.W.nsIn K mainGlobals "need_lot" = some (some (.ref f7))) (l7 : K.lookup f7 = some ⟨oc7, od7, .func (PySem.W.fnOf "need_lot" "need_lot" (defArgs s12) (defBody s12) (defScope s12) .none kV7 dc7 pm7 an7 cd7 ct7), sl7⟩) (c7 : PySem.W.codeIn K cd7 "need_lot" = true) (k7 : PySem.W.keepIn K (.ref f7) = true)
    {f8 : Addr} {od8 an8 : Option Addr} {sl8 : Array (Option Value)} {oc8 kV8 dc8 pm8 cd8 ct8 : Value} (a8 : PySem.W.nsIn K mainGlobals "is_within" = some (some (.ref f8))) (l8 : K.lookup f8 = some ⟨oc8, od8, .func (PySem.W.fnOf "is_within" "is_within" (defArgs s13) (defBody s13) (defScope s13) .none kV8 dc8 pm8 an8 cd8 ct8), sl8⟩) (c8 : PySem.W.codeIn K cd8 "is_within" = true) (k8 : PySem.W.keepIn K (.ref f8) = true)
    {f9 : Addr} {od9 an9 : Option Addr} {sl9 : Array (Option Value)} {oc9 kV9 dc9 pm9 cd9 ct9 : Value} (a9 : PySem.W.nsIn K mainGlobals "are_apart" = some (some (.ref f9))) (l9 : K.lookup f9 = some ⟨oc9, od9, .func (PySem.W.fnOf "are_apart" "are_apart" (defArgs s14) (defBody s14) (defScope s14) .none kV9 dc9 pm9 an9 cd9 ct9), sl9⟩) (c9 : PySem.W.codeIn K cd9 "are_apart" = true) (k9 : PySem.W.keepIn K (.ref f9) = true)
    {f10 : Addr} {od10 an10 : Option Addr} {sl10 : Array (Option Value)} {oc10 kV10 dc10 pm10 cd10 ct10 : Value} (a10 : PySem.W.nsIn K mainGlobals "is_clutter" = some (some (.ref f10))) (l10 : K.lookup f10 = some ⟨oc10, od10, .func (PySem.W.fnOf "is_clutter" "is_clutter" (defArgs s15) (defBody s15) (defScope s15) .none kV10 dc10 pm10 an10 cd10 ct10), sl10⟩) (c10 : PySem.W.codeIn K cd10 "is_clutter" = true) (k10 : PySem.W.keepIn K (.ref f10) = true)
    {f11 : Addr} {od11 an11 : Option Addr} {sl11 : Array (Option Value)} {oc11 kV11 dc11 pm11 cd11 ct11 : Value} (a11 : PySem.W.nsIn K mainGlobals "all_clutters" = some (some (.ref f11))) (l11 : K.lookup f11 = some ⟨oc11, od11, .func (PySem.W.fnOf "all_clutters" "all_clutters" (defArgs s16) (defBody s16) (defScope s16) .none kV11 dc11 pm11 an11 cd11 ct11), sl11⟩) (c11 : PySem.W.codeIn K cd11 "all_clutters" = true) (k11 : PySem.W.keepIn K (.ref f11) = true)
    {f12 : Addr} {od12 an12 : Option Addr} {sl12 : Array (Option Value)} {oc12 kV12 dc12 pm12 cd12 ct12 : Value} (a12 : PySem.W.nsIn K mainGlobals "clutters" = some (some (.ref f12))) (l12 : K.lookup f12 = some ⟨oc12, od12, .func (PySem.W.fnOf "clutters" "clutters" (defArgs s17) (defBody s17) (defScope s17) .none kV12 dc12 pm12 an12 cd12 ct12), sl12⟩) (c12 : PySem.W.codeIn K cd12 "clutters" = true) (k12 : PySem.W.keepIn K (.ref f12) = true)
    {f13 : Addr} {od13 an13 : Option Addr} {sl13 : Array (Option Value)} {oc13 kV13 dc13 pm13 cd13 ct13 : Value} (a13 : PySem.W.nsIn K mainGlobals "is_form_by" = some (some (.ref f13))) (l13 : K.lookup f13 = some ⟨oc13, od13, .func (PySem.W.fnOf "is_form_by" "is_form_by" (defArgs s18) (defBody s18) (defScope s18) .none kV13 dc13 pm13 an13 cd13 ct13), sl13⟩) (c13 : PySem.W.codeIn K cd13 "is_form_by" = true) (k13 : PySem.W.keepIn K (.ref f13) = true)
    {f14 : Addr} {od14 an14 : Option Addr} {sl14 : Array (Option Value)} {oc14 kV14 dc14 pm14 cd14 ct14 : Value} (a14 : PySem.W.nsIn K mainGlobals "is_form" = some (some (.ref f14))) (l14 : K.lookup f14 = some ⟨oc14, od14, .func (PySem.W.fnOf "is_form" "is_form" (defArgs s19) (defBody s19) (defScope s19) .none kV14 dc14 pm14 an14 cd14 ct14), sl14⟩) (c14 : PySem.W.codeIn K cd14 "is_form" = true) (k14 : PySem.W.keepIn K (.ref f14) = true)
    {f15 : Addr} {od15 an15 : Option Addr} {sl15 : Array (Option Value)} {oc15 kV15 dc15 pm15 cd15 ct15 : Value} (a15 : PySem.W.nsIn K mainGlobals "forms" = some (some (.ref f15))) (l15 : K.lookup f15 = some ⟨oc15, od15, .func (PySem.W.fnOf "forms" "forms" (defArgs s20) (defBody s20) (defScope s20) .none kV15 dc15 pm15 an15 cd15 ct15), sl15⟩) (c15 : PySem.W.codeIn K cd15 "forms" = true) (k15 : PySem.W.keepIn K (.ref f15) = true)
    {f16 : Addr} {od16 an16 : Option Addr} {sl16 : Array (Option Value)} {oc16 kV16 dc16 pm16 cd16 ct16 : Value} (a16 : PySem.W.nsIn K mainGlobals "tall_by" = some (some (.ref f16))) (l16 : K.lookup f16 = some ⟨oc16, od16, .func (PySem.W.fnOf "tall_by" "tall_by" (defArgs s21) (defBody s21) (defScope s21) .none kV16 dc16 pm16 an16 cd16 ct16), sl16⟩) (c16 : PySem.W.codeIn K cd16 "tall_by" = true) (k16 : PySem.W.keepIn K (.ref f16) = true)
    {f17 : Addr} {od17 an17 : Option Addr} {sl17 : Array (Option Value)} {oc17 kV17 dc17 pm17 cd17 ct17 : Value} (a17 : PySem.W.nsIn K mainGlobals "tall" = some (some (.ref f17))) (l17 : K.lookup f17 = some ⟨oc17, od17, .func (PySem.W.fnOf "tall" "tall" (defArgs s22) (defBody s22) (defScope s22) .none kV17 dc17 pm17 an17 cd17 ct17), sl17⟩) (c17 : PySem.W.codeIn K cd17 "tall" = true) (k17 : PySem.W.keepIn K (.ref f17) = true)
    {f18 : Addr} {od18 an18 : Option Addr} {sl18 : Array (Option Value)} {oc18 kV18 dc18 pm18 cd18 ct18 : Value} (a18 : PySem.W.nsIn K mainGlobals "_law_order" = some (some (.ref f18))) (l18 : K.lookup f18 = some ⟨oc18, od18, .func (PySem.W.fnOf "_law_order" "_law_order" (defArgs s26) (defBody s26) (defScope s26) .none kV18 dc18 pm18 an18 cd18 ct18), sl18⟩) (c18 : PySem.W.codeIn K cd18 "_law_order" = true) (k18 : PySem.W.keepIn K (.ref f18) = true)
    {f19 : Addr} {od19 an19 : Option Addr} {sl19 : Array (Option Value)} {oc19 kV19 dc19 pm19 cd19 ct19 : Value} (a19 : PySem.W.nsIn K mainGlobals "_law_above" = some (some (.ref f19))) (l19 : K.lookup f19 = some ⟨oc19, od19, .func (PySem.W.fnOf "_law_above" "_law_above" (defArgs s27) (defBody s27) (defScope s27) .none kV19 dc19 pm19 an19 cd19 ct19), sl19⟩) (c19 : PySem.W.codeIn K cd19 "_law_above" = true) (k19 : PySem.W.keepIn K (.ref f19) = true)
    {f20 : Addr} {od20 an20 : Option Addr} {sl20 : Array (Option Value)} {oc20 kV20 dc20 pm20 cd20 ct20 : Value} (a20 : PySem.W.nsIn K mainGlobals "_law_lots" = some (some (.ref f20))) (l20 : K.lookup f20 = some ⟨oc20, od20, .func (PySem.W.fnOf "_law_lots" "_law_lots" (defArgs s28) (defBody s28) (defScope s28) .none kV20 dc20 pm20 an20 cd20 ct20), sl20⟩) (c20 : PySem.W.codeIn K cd20 "_law_lots" = true) (k20 : PySem.W.keepIn K (.ref f20) = true)
    {f21 : Addr} {od21 an21 : Option Addr} {sl21 : Array (Option Value)} {oc21 kV21 dc21 pm21 cd21 ct21 : Value} (a21 : PySem.W.nsIn K mainGlobals "_law_apart" = some (some (.ref f21))) (l21 : K.lookup f21 = some ⟨oc21, od21, .func (PySem.W.fnOf "_law_apart" "_law_apart" (defArgs s29) (defBody s29) (defScope s29) .none kV21 dc21 pm21 an21 cd21 ct21), sl21⟩) (c21 : PySem.W.codeIn K cd21 "_law_apart" = true) (k21 : PySem.W.keepIn K (.ref f21) = true)
    {f22 : Addr} {od22 an22 : Option Addr} {sl22 : Array (Option Value)} {oc22 kV22 dc22 pm22 cd22 ct22 : Value} (a22 : PySem.W.nsIn K mainGlobals "_law_forms" = some (some (.ref f22))) (l22 : K.lookup f22 = some ⟨oc22, od22, .func (PySem.W.fnOf "_law_forms" "_law_forms" (defArgs s30) (defBody s30) (defScope s30) .none kV22 dc22 pm22 an22 cd22 ct22), sl22⟩) (c22 : PySem.W.codeIn K cd22 "_law_forms" = true) (k22 : PySem.W.keepIn K (.ref f22) = true)
    {f23 : Addr} {od23 an23 : Option Addr} {sl23 : Array (Option Value)} {oc23 kV23 dc23 pm23 cd23 ct23 : Value} (a23 : PySem.W.nsIn K mainGlobals "_law_tall" = some (some (.ref f23))) (l23 : K.lookup f23 = some ⟨oc23, od23, .func (PySem.W.fnOf "_law_tall" "_law_tall" (defArgs s31) (defBody s31) (defScope s31) .none kV23 dc23 pm23 an23 cd23 ct23), sl23⟩) (c23 : PySem.W.codeIn K cd23 "_law_tall" = true) (k23 : PySem.W.keepIn K (.ref f23) = true)
    {f24 : Addr} {od24 an24 : Option Addr} {sl24 : Array (Option Value)} {oc24 kV24 dc24 pm24 cd24 ct24 : Value} (a24 : PySem.W.nsIn K mainGlobals "_law_right" = some (some (.ref f24))) (l24 : K.lookup f24 = some ⟨oc24, od24, .func (PySem.W.fnOf "_law_right" "_law_right" (defArgs s32) (defBody s32) (defScope s32) .none kV24 dc24 pm24 an24 cd24 ct24), sl24⟩) (c24 : PySem.W.codeIn K cd24 "_law_right" = true) (k24 : PySem.W.keepIn K (.ref f24) = true)
    {f25 : Addr} {od25 an25 : Option Addr} {sl25 : Array (Option Value)} {oc25 kV25 dc25 pm25 cd25 ct25 : Value} (a25 : PySem.W.nsIn K mainGlobals "law" = some (some (.ref f25))) (l25 : K.lookup f25 = some ⟨oc25, od25, .func (PySem.W.fnOf "law" "law" (defArgs s33) (defBody s33) (defScope s33) .none kV25 dc25 pm25 an25 cd25 ct25), sl25⟩) (c25 : PySem.W.codeIn K cd25 "law" = true) (k25 : PySem.W.keepIn K (.ref f25) = true)
    {f26 : Addr} {od26 an26 : Option Addr} {sl26 : Array (Option Value)} {oc26 kV26 dc26 pm26 cd26 ct26 : Value} (a26 : PySem.W.nsIn K mainGlobals "_law_begun" = some (some (.ref f26))) (l26 : K.lookup f26 = some ⟨oc26, od26, .func (PySem.W.fnOf "_law_begun" "_law_begun" (defArgs s24) (defBody s24) (defScope s24) .none kV26 dc26 pm26 an26 cd26 ct26), sl26⟩) (c26 : PySem.W.codeIn K cd26 "_law_begun" = true) (k26 : PySem.W.keepIn K (.ref f26) = true)
    {f27 : Addr} {od27 an27 : Option Addr} {sl27 : Array (Option Value)} {oc27 kV27 dc27 pm27 cd27 ct27 : Value} (a27 : PySem.W.nsIn K mainGlobals "_law_next" = some (some (.ref f27))) (l27 : K.lookup f27 = some ⟨oc27, od27, .func (PySem.W.fnOf "_law_next" "_law_next" (defArgs s25) (defBody s25) (defScope s25) .none kV27 dc27 pm27 an27 cd27 ct27), sl27⟩) (c27 : PySem.W.codeIn K cd27 "_law_next" = true) (k27 : PySem.W.keepIn K (.ref f27) = true)
    (z0 : PySem.W.nsIn K mainGlobals "all" = some none)
    (z1 : PySem.W.nsIn K mainGlobals "any" = some none)
    (z2 : PySem.W.nsIn K mainGlobals "bool" = some none)
    (z3 : PySem.W.nsIn K mainGlobals "enumerate" = some none)
    (z4 : PySem.W.nsIn K mainGlobals "int" = some none)
    (z5 : PySem.W.nsIn K mainGlobals "isinstance" = some none)
    (z6 : PySem.W.nsIn K mainGlobals "len" = some none)
    (z7 : PySem.W.nsIn K mainGlobals "list" = some none)
    (z8 : PySem.W.nsIn K mainGlobals "max" = some none)
    (z9 : PySem.W.nsIn K mainGlobals "min" = some none)
    (z10 : PySem.W.nsIn K mainGlobals "range" = some none)
    (z11 : PySem.W.nsIn K mainGlobals "repr" = some none)
    (z12 : PySem.W.nsIn K mainGlobals "set" = some none)
    (z13 : PySem.W.nsIn K mainGlobals "sorted" = some none)
    (z14 : PySem.W.nsIn K mainGlobals "tuple" = some none)
    (z15 : PySem.W.nsIn K mainGlobals "zip" = some none)
    {t0 : Tok} (y0 : PySem.W.nsIn K mainGlobals "MOST_KINDS" = some (some (.int 12 t0)))
    {C1 fI1 N1 cda1 ccX1 : Addr} {nmX1 qX1 file1 : Str} {bsX1 subX1 : List Value} {snX1 : List Str} {abX1 : Bool} {colX1 : Option Bool} {ddX1 odI1 anX1 cdd1 cld1 : Option Addr} {m0_1 m1_1 m2_1 m3_1 m5_1 : Option Value} {ocI1 dcI1 pmI1 ctI1 ccl1 clX1 : Value} {slI1 ccs1 csl1 : Array (Option Value)} {vsA1 : Array Value} {tfX1 : Tok}
    (xa1 : PySem.W.nsIn K mainGlobals "BadOrder" = some (some (.ref C1)))
    (xl1 : K.lookup C1 = some (PySem.excClassObj nmX1 qX1 C1 N1 bsX1 [.type "ValueError", .type "Exception", .type "BaseException", .type "object"] true snX1 subX1 abX1 colX1 ddX1 m0_1 m1_1 m2_1 m3_1 m5_1 "ValueError.__new__"))
    (xs1 : PySem.W.findIn K (.ref C1) "__setattr__" = some (some (.builtin "object.__setattr__")))
    (xg1 : PySem.W.findIn K (.ref C1) "__getattribute__" = some (some (.builtin "BaseException.__getattribute__")))
    (xh1 : PySem.W.findIn K (.ref C1) "__getattr__" = some none)
    (xi1 : PySem.W.findIn K (.ref C1) "__init__" = some (some (.ref fI1)))
    (xt1 : PySem.W.typeIn K (.ref fI1) = some (.type "function"))
    (xk1 : PySem.W.keepIn K (.ref C1) = true)
    (xe1 : PySem.W.subIn K (.ref C1) (.type "BaseException") = some true)
    (xv1 : PySem.W.subIn K (.ref C1) (.type "ValueError") = some true)
    (xy1 : PySem.W.typeIn K (.ref C1) = some (.type "type"))
    (xd1 : PySem.W.hasDictIn K C1 = true)
    (xb1 : PySem.W.isClsIn K C1 = true)
    (xm1 : PySem.W.mroIn K C1 (.ref C1) = some true)
    (xu1 : PySem.W.ks_superIn K C1 C1 "__init__" = some (some (.builtin "ValueError.__init__")))
    (xn1 : PySem.W.nsIn K cStatics "thirdparty.any" = some none)
    (xz1 : PySem.W.nsIn K mainGlobals "super" = some none)
    (xp1 : (l.prog.main.scope.names.lookup ("super" : Str)).isSome = false)
    (xf1 : K.lookup fI1 = some ⟨ocI1, odI1, .func (PySem.W.ksFn "__init__" "BadOrder.__init__" (L2.defArgs (PySem.EXN.cInit s1)) (L2.defBody (PySem.EXN.cInit s1)) (L2.defScope (PySem.EXN.cInit s1)) .none .none dcI1 pmI1 anX1 (.ref cda1) ctI1 ccX1), slI1⟩)
    (xc1 : PySem.W.codeIn K (.ref cda1) "BadOrder.__init__" = true)
    (xq1 : K.lookup cda1 = some ⟨ccl1, cdd1, .fields vsA1, ccs1⟩)
    (xr1 : vsA1[2]? = some (.str file1 tfX1))
    (xw1 : ((l.prog.main.file : Str) == file1) = true)
    (xj1 : K.lookup ccX1 = some ⟨clX1, cld1, .cell (some (.ref C1)), csl1⟩)
    (xo1 : PySem.W.findIn K (.ref C1) "part" = some none)
    {C2 fI2 N2 cda2 ccX2 : Addr} {nmX2 qX2 file2 : Str} {bsX2 subX2 : List Value} {snX2 : List Str} {abX2 : Bool} {colX2 : Option Bool} {ddX2 odI2 anX2 cdd2 cld2 : Option Addr} {m0_2 m1_2 m2_2 m3_2 m5_2 : Option Value} {ocI2 dcI2 pmI2 ctI2 ccl2 clX2 : Value} {slI2 ccs2 csl2 : Array (Option Value)} {vsA2 : Array Value} {tfX2 : Tok}
    (xa2 : PySem.W.nsIn K mainGlobals "OutOfPlace" = some (some (.ref C2)))
    (xl2 : K.lookup C2 = some (PySem.excClassObj nmX2 qX2 C2 N2 bsX2 [.type "ValueError", .type "Exception", .type "BaseException", .type "object"] true snX2 subX2 abX2 colX2 ddX2 m0_2 m1_2 m2_2 m3_2 m5_2 "ValueError.__new__"))
    (xs2 : PySem.W.findIn K (.ref C2) "__setattr__" = some (some (.builtin "object.__setattr__")))
    (xg2 : PySem.W.findIn K (.ref C2) "__getattribute__" = some (some (.builtin "BaseException.__getattribute__")))
    (xh2 : PySem.W.findIn K (.ref C2) "__getattr__" = some none)
    (xi2 : PySem.W.findIn K (.ref C2) "__init__" = some (some (.ref fI2)))
    (xt2 : PySem.W.typeIn K (.ref fI2) = some (.type "function"))
    (xk2 : PySem.W.keepIn K (.ref C2) = true)
    (xe2 : PySem.W.subIn K (.ref C2) (.type "BaseException") = some true)
    (xv2 : PySem.W.subIn K (.ref C2) (.type "ValueError") = some true)
    (xy2 : PySem.W.typeIn K (.ref C2) = some (.type "type"))
    (xd2 : PySem.W.hasDictIn K C2 = true)
    (xb2 : PySem.W.isClsIn K C2 = true)
    (xm2 : PySem.W.mroIn K C2 (.ref C2) = some true)
    (xu2 : PySem.W.ks_superIn K C2 C2 "__init__" = some (some (.builtin "ValueError.__init__")))
    (xn2 : PySem.W.nsIn K cStatics "thirdparty.any" = some none)
    (xz2 : PySem.W.nsIn K mainGlobals "super" = some none)
    (xp2 : (l.prog.main.scope.names.lookup ("super" : Str)).isSome = false)
    (xf2 : K.lookup fI2 = some ⟨ocI2, odI2, .func (PySem.W.ksFn "__init__" "OutOfPlace.__init__" (L2.defArgs (PySem.EXN.cInit s2)) (L2.defBody (PySem.EXN.cInit s2)) (L2.defScope (PySem.EXN.cInit s2)) .none .none dcI2 pmI2 anX2 (.ref cda2) ctI2 ccX2), slI2⟩)
    (xc2 : PySem.W.codeIn K (.ref cda2) "OutOfPlace.__init__" = true)
    (xq2 : K.lookup cda2 = some ⟨ccl2, cdd2, .fields vsA2, ccs2⟩)
    (xr2 : vsA2[2]? = some (.str file2 tfX2))
    (xw2 : ((l.prog.main.file : Str) == file2) = true)
    (xj2 : K.lookup ccX2 = some ⟨clX2, cld2, .cell (some (.ref C2)), csl2⟩)
    (ex1_1 : PySem.W.subIn K (.ref C1) (.ref C1) = some true)
    (ex1_2 : PySem.W.subIn K (.ref C1) (.ref C2) = some false)
    (ex2_1 : PySem.W.subIn K (.ref C2) (.ref C1) = some false)
    (ex2_2 : PySem.W.subIn K (.ref C2) (.ref C2) = some true) :
    ∃ fd : FuncData, (∀ (s : Shared) (v : Value), BindsTo s fd ⟨[v], []⟩ [("_law_script", v)]) ∧ ∀ base : Heap, K.In base → base.Ns mainGlobals mg → FnG l.prog w K mg base CX0 8 fa fd ["_law_script"] (spLaw K) := by
  have e := hfa.symm.trans (PySem.W.mg_of X G a25)
  cases e
  have F0 := fun_mk (st := s5) l0 c0 k0
  have F1 := fun_mk (st := s6) l1 c1 k1
  have F2 := fun_mk (st := s7) l2 c2 k2
  have F3 := fun_mk (st := s8) l3 c3 k3
  have F4 := fun_mk (st := s9) l4 c4 k4
  have F5 := fun_mk (st := s10) l5 c5 k5
  have F6 := fun_mk (st := s11) l6 c6 k6
  have F7 := fun_mk (st := s12) l7 c7 k7
  have F8 := fun_mk (st := s13) l8 c8 k8
  have F9 := fun_mk (st := s14) l9 c9 k9
  have F10 := fun_mk (st := s15) l10 c10 k10
  have F11 := fun_mk (st := s16) l11 c11 k11
  have F12 := fun_mk (st := s17) l12 c12 k12
  have F13 := fun_mk (st := s18) l13 c13 k13
  have F14 := fun_mk (st := s19) l14 c14 k14
  have F15 := fun_mk (st := s20) l15 c15 k15
  have F16 := fun_mk (st := s21) l16 c16 k16
  have F17 := fun_mk (st := s22) l17 c17 k17
  have F18 := fun_mk (st := s26) l18 c18 k18
  have F19 := fun_mk (st := s27) l19 c19 k19
  have F20 := fun_mk (st := s28) l20 c20 k20
  have F21 := fun_mk (st := s29) l21 c21 k21
  have F22 := fun_mk (st := s30) l22 c22 k22
  have F23 := fun_mk (st := s31) l23 c23 k23
  have F24 := fun_mk (st := s32) l24 c24 k24
  have F25 := fun_mk (st := s33) l25 c25 k25
  have F26 := fun_mk (st := s24) l26 c26 k26
  have F27 := fun_mk (st := s25) l27 c27 k27
  let T : Tx l.prog K mg := ⟨f0,
    _,
    F0,
    PySem.W.mg_of X G a0,
    F0.binds fun _ _ _ _ _ _ us hl => match us, hl with | [_, _, _], _ => rfl,
    f1,
    _,
    F1,
    PySem.W.mg_of X G a1,
    F1.binds fun _ _ _ _ _ _ us hl => match us, hl with | [_], _ => rfl,
    f2,
    _,
    F2,
    PySem.W.mg_of X G a2,
    F2.binds fun _ _ _ _ _ _ us hl => match us, hl with | [_, _], _ => rfl,
    f3,
    _,
    F3,
    PySem.W.mg_of X G a3,
    F3.binds fun _ _ _ _ _ _ us hl => match us, hl with | [_], _ => rfl,
    f4,
    _,
    F4,
    PySem.W.mg_of X G a4,
    F4.binds fun _ _ _ _ _ _ us hl => match us, hl with | [_], _ => rfl,
    f5,
    _,
    F5,
    PySem.W.mg_of X G a5,
    F5.binds fun _ _ _ _ _ _ us hl => match us, hl with | [_, _], _ => rfl,
    f6,
    _,
    F6,
    PySem.W.mg_of X G a6,
    F6.binds fun _ _ _ _ _ _ us hl => match us, hl with | [_, _], _ => rfl,
    f7,
    _,
    F7,
    PySem.W.mg_of X G a7,
    F7.binds fun _ _ _ _ _ _ us hl => match us, hl with | [_, _], _ => rfl,
    f8,
    _,
    F8,
    PySem.W.mg_of X G a8,
    F8.binds fun _ _ _ _ _ _ us hl => match us, hl with | [_, _, _], _ => rfl,
    f9,
    _,
    F9,
    PySem.W.mg_of X G a9,
    F9.binds fun _ _ _ _ _ _ us hl => match us, hl with | [_, _], _ => rfl,
    f10,
    _,
    F10,
    PySem.W.mg_of X G a10,
    F10.binds fun _ _ _ _ _ _ us hl => match us, hl with | [_, _], _ => rfl,
    f11,
    _,
    F11,
    PySem.W.mg_of X G a11,
    F11.binds fun _ _ _ _ _ _ us hl => match us, hl with | [_], _ => rfl,
    f12,
    _,
    F12,
    PySem.W.mg_of X G a12,
    F12.binds fun _ _ _ _ _ _ us hl => match us, hl with | [_], _ => rfl,
    f13,
    _,
    F13,
    PySem.W.mg_of X G a13,
    F13.binds fun _ _ _ _ _ _ us hl => match us, hl with | [_, _], _ => rfl,
    f14,
    _,
    F14,
    PySem.W.mg_of X G a14,
    F14.binds fun _ _ _ _ _ _ us hl => match us, hl with | [_, _], _ => rfl,
    f15,
    _,
    F15,
    PySem.W.mg_of X G a15,
    F15.binds fun _ _ _ _ _ _ us hl => match us, hl with | [_], _ => rfl,
    f16,
    _,
    F16,
    PySem.W.mg_of X G a16,
    F16.binds fun _ _ _ _ _ _ us hl => match us, hl with | [_, _], _ => rfl,
    f17,
    _,
    F17,
    PySem.W.mg_of X G a17,
    F17.binds fun _ _ _ _ _ _ us hl => match us, hl with | [_, _], _ => rfl,
    f18,
    _,
    F18,
    PySem.W.mg_of X G a18,
    F18.binds fun _ _ _ _ _ _ us hl => match us, hl with | [_, _], _ => rfl,
    f19,
    _,
    F19,
    PySem.W.mg_of X G a19,
    F19.binds fun _ _ _ _ _ _ us hl => match us, hl with | [_], _ => rfl,
    f20,
    _,
    F20,
    PySem.W.mg_of X G a20,
    F20.binds fun _ _ _ _ _ _ us hl => match us, hl with | [_], _ => rfl,
    f21,
    _,
    F21,
    PySem.W.mg_of X G a21,
    F21.binds fun _ _ _ _ _ _ us hl => match us, hl with | [_, _], _ => rfl,
    f22,
    _,
    F22,
    PySem.W.mg_of X G a22,
    F22.binds fun _ _ _ _ _ _ us hl => match us, hl with | [_], _ => rfl,
    f23,
    _,
    F23,
    PySem.W.mg_of X G a23,
    F23.binds fun _ _ _ _ _ _ us hl => match us, hl with | [_, _], _ => rfl,
    f24,
    _,
    F24,
    PySem.W.mg_of X G a24,
    F24.binds fun _ _ _ _ _ _ us hl => match us, hl with | [_, _], _ => rfl,
    fa,
    _,
    F25,
    PySem.W.mg_of X G a25,
    F25.binds fun _ _ _ _ _ _ us hl => match us, hl with | [_], _ => rfl,
    f26,
    _,
    F26,
    PySem.W.mg_of X G a26,
    F26.binds fun _ _ _ _ _ _ us hl => match us, hl with | [_], _ => rfl,
    f27,
    _,
    F27,
    PySem.W.mg_of X G a27,
    F27.binds fun _ _ _ _ _ _ us hl => match us, hl with | [_, _], _ => rfl,
    PySem.W.mg_none_of X G z0,
    PySem.W.mg_none_of X G z1,
    PySem.W.mg_none_of X G z2,
    PySem.W.mg_none_of X G z3,
    PySem.W.mg_none_of X G z4,
    PySem.W.mg_none_of X G z5,
    PySem.W.mg_none_of X G z6,
    PySem.W.mg_none_of X G z7,
    PySem.W.mg_none_of X G z8,
    PySem.W.mg_none_of X G z9,
    PySem.W.mg_none_of X G z10,
    PySem.W.mg_none_of X G z11,
    PySem.W.mg_none_of X G z12,
    PySem.W.mg_none_of X G z13,
    PySem.W.mg_none_of X G z14,
    PySem.W.mg_none_of X G z15,
    t0,
    PySem.W.mg_of X G y0,
    C1,
    fI1,
    ⟨PySem.W.mg_of X G xa1, ⟨_, _, _, _, [.type "ValueError", .type "Exception", .type "BaseException", .type "object"], _, _, _, _, _, _, _, _, _, _, xl1, by decide +kernel⟩, xs1, xg1, xh1, xi1, xt1, xk1, xe1, xv1, xy1, xd1, xm1, xu1, xn1, PySem.W.mg_none_of X G xz1, xp1, ⟨_, _, _, _, _, _, _, _, _, xf1, xc1, ⟨_, _, _, _, _, _, xq1, xr1, xw1⟩, _, _, _, xj1⟩⟩,
    xo1,
    C2,
    fI2,
    ⟨PySem.W.mg_of X G xa2, ⟨_, _, _, _, [.type "ValueError", .type "Exception", .type "BaseException", .type "object"], _, _, _, _, _, _, _, _, _, _, xl2, by decide +kernel⟩, xs2, xg2, xh2, xi2, xt2, xk2, xe2, xv2, xy2, xd2, xm2, xu2, xn2, PySem.W.mg_none_of X G xz2, xp2, ⟨_, _, _, _, _, _, _, _, _, xf2, xc2, ⟨_, _, _, _, _, _, xq2, xr2, xw2⟩, _, _, _, xj2⟩⟩,
    DL.exm_of xe1 xb1 xy1 ex1_1,
    DL.exm_of xe2 xb2 xy2 ex1_2,
    DL.exm_of xe1 xb1 xy1 ex2_1,
    DL.exm_of xe2 xb2 xy2 ex2_2⟩
  exact ⟨PySem.W.fnOf "law" "law" (defArgs s33) (defBody s33) (defScope s33) .none kV25 dc25 pm25 an25 cd25 ct25, fun s v => .of_eq rfl, fun base _ _ => ok_law T⟩
theorem walk {l : PySem.W.OpenLaw} {q : Program} {loose : List Str} {XP : (Str → Option Value) → Heap → Prop} {YP : World → Heap → Prop} {d : DefRec} {K : Params → PySem.W.Frag} (hn : l.most = some 63) (hdf : d.params.defaults = [])
    (hY : ∀ (w : World) (h : Heap), YP w h → (K w.params).In h)
    (F : ∀ (w : World) (mg : Str → Option Value) (fa : Addr) (h : Heap), (K w.params).In h → h.Ns mainGlobals mg → mg d.name = some (.ref fa) →
      ∃ fd : FuncData, (∀ (s : Shared) (u : Value), BindsTo s fd ⟨[u], []⟩ [("_law_script", u)]) ∧ ∀ base : Heap, (K w.params).In base → base.Ns mainGlobals mg → FnG l.prog w (K w.params) mg base CX0 8 fa fd ["_law_script"] (spLaw (K w.params))) :
    PySem.W.WalkO q loose XP YP l.row.toRowW d [] (fun f vs => PySem.call f vs) :=
  walkG (n := 63) (k := 8) (x := "_law_script") (sp := fun w => spLaw (K w.params)) hn (by decide) hdf ⟨rfl, by decide, by decide⟩ hY F fun _ _ a ns hl hO hS => ⟨a, ns, rfl, hl, hO, hS, fun _ => rfl⟩
end K01
open PySem PySem.W PyProof.Rows
set_option maxRecDepth 100000 in
set_option maxHeartbeats 0 in
theorem PySem.Challenge.cw_nestcrates_k01_whole_orders_holds : PySem.Challenge.rw_nestcrates_k01_whole_orders.Holds := by
  w_on; o_law; k_head; (case hw => w_witness2)
  k_fill
  refine K01.walk (l := PySem.Challenge.rw_nestcrates_k01_whole_orders) rfl rfl (fun w h Y => PySem.W.kIn_of Y) ?F
  case F =>
    intro w mg fa h KX G hmg
    refine' K01.all_mk KX G hmg ?a0 ?l0 ?c0 ?k0 ?a1 ?l1 ?c1 ?k1 ?a2 ?l2 ?c2 ?k2 ?a3 ?l3 ?c3 ?k3 ?a4 ?l4 ?c4 ?k4 ?a5 ?l5 ?c5 ?k5 ?a6 ?l6 ?c6 ?k6 ?a7 ?l7 ?c7 ?k7 ?a8 ?l8 ?c8 ?k8 ?a9 ?l9 ?c9 ?k9 ?a10 ?l10 ?c10 ?k10 ?a11 ?l11 ?c11 ?k11 ?a12 ?l12 ?c12 ?k12 ?a13 ?l13 ?c13 ?k13 ?a14 ?l14 ?c14 ?k14 ?a15 ?l15 ?c15 ?k15 ?a16 ?l16 ?c16 ?k16 ?a17 ?l17 ?c17 ?k17 ?a18 ?l18 ?c18 ?k18 ?a19 ?l19 ?c19 ?k19 ?a20 ?l20 ?c20 ?k20 ?a21 ?l21 ?c21 ?k21 ?a22 ?l22 ?c22 ?k22 ?a23 ?l23 ?c23 ?k23 ?a24 ?l24 ?c24 ?k24 ?a25 ?l25 ?c25 ?k25 ?a26 ?l26 ?c26 ?k26 ?a27 ?l27 ?c27 ?k27 ?z0 ?z1 ?z2 ?z3 ?z4 ?z5 ?z6 ?z7 ?z8 ?z9 ?z10 ?z11 ?z12 ?z13 ?z14 ?z15 ?y0 ?xa1 ?xl1 ?xs1 ?xg1 ?xh1 ?xi1 ?xt1 ?xk1 ?xe1 ?xv1 ?xy1 ?xd1 ?xb1 ?xm1 ?xu1 ?xn1 ?xz1 ?xp1 ?xf1 ?xc1 ?xq1 ?xr1 ?xw1 ?xj1 ?xo1 ?xa2 ?xl2 ?xs2 ?xg2 ?xh2 ?xi2 ?xt2 ?xk2 ?xe2 ?xv2 ?xy2 ?xd2 ?xb2 ?xm2 ?xu2 ?xn2 ?xz2 ?xp2 ?xf2 ?xc2 ?xq2 ?xr2 ?xw2 ?xj2 ?ex1_1 ?ex1_2 ?ex2_1 ?ex2_2
    (case a0 => k_is); (case l0 => k_is); (case c0 => k_is); (case k0 => k_is)
    (case a1 => k_is); (case l1 => k_is); (case c1 => k_is); (case k1 => k_is)
    (case a2 => k_is); (case l2 => k_is); (case c2 => k_is); (case k2 => k_is)
    (case a3 => k_is); (case l3 => k_is); (case c3 => k_is); (case k3 => k_is)
    (case a4 => k_is); (case l4 => k_is); (case c4 => k_is); (case k4 => k_is)
    (case a5 => k_is); (case l5 => k_is); (case c5 => k_is); (case k5 => k_is)
    (case a6 => k_is); (case l6 => k_is); (case c6 => k_is); (case k6 => k_is)
    (case a7 => k_is); (case l7 => k_is); (case c7 => k_is); (case k7 => k_is)
    (case a8 => k_is); (case l8 => k_is); (case c8 => k_is); (case k8 => k_is)
    (case a9 => k_is); (case l9 => k_is); (case c9 => k_is); (case k9 => k_is)
    (case a10 => k_is); (case l10 => k_is); (case c10 => k_is); (case k10 => k_is)
    (case a11 => k_is); (case l11 => k_is); (case c11 => k_is); (case k11 => k_is)
    (case a12 => k_is); (case l12 => k_is); (case c12 => k_is); (case k12 => k_is)
    (case a13 => k_is); (case l13 => k_is); (case c13 => k_is); (case k13 => k_is)
    (case a14 => k_is); (case l14 => k_is); (case c14 => k_is); (case k14 => k_is)
    (case a15 => k_is); (case l15 => k_is); (case c15 => k_is); (case k15 => k_is)
    (case a16 => k_is); (case l16 => k_is); (case c16 => k_is); (case k16 => k_is)
    (case a17 => k_is); (case l17 => k_is); (case c17 => k_is); (case k17 => k_is)
    (case a18 => k_is); (case l18 => k_is); (case c18 => k_is); (case k18 => k_is)
    (case a19 => k_is); (case l19 => k_is); (case c19 => k_is); (case k19 => k_is)
    (case a20 => k_is); (case l20 => k_is); (case c20 => k_is); (case k20 => k_is)
    (case a21 => k_is); (case l21 => k_is); (case c21 => k_is); (case k21 => k_is)
    (case a22 => k_is); (case l22 => k_is); (case c22 => k_is); (case k22 => k_is)
    (case a23 => k_is); (case l23 => k_is); (case c23 => k_is); (case k23 => k_is)
    (case a24 => k_is); (case l24 => k_is); (case c24 => k_is); (case k24 => k_is)
    (case a25 => k_is); (case l25 => k_is); (case c25 => k_is); (case k25 => k_is)
    (case a26 => k_is); (case l26 => k_is); (case c26 => k_is); (case k26 => k_is)
    (case a27 => k_is); (case l27 => k_is); (case c27 => k_is); (case k27 => k_is)
    (case z0 => k_is); (case z1 => k_is); (case z2 => k_is); (case z3 => k_is)
    (case z4 => k_is); (case z5 => k_is); (case z6 => k_is); (case z7 => k_is)
    (case z8 => k_is); (case z9 => k_is); (case z10 => k_is); (case z11 => k_is)
    (case z12 => k_is); (case z13 => k_is); (case z14 => k_is); (case z15 => k_is)
    (case y0 => k_is); (case xa1 => k_is); (case xl1 => k_is); (case xs1 => k_is)
    (case xg1 => k_is); (case xh1 => k_is); (case xi1 => k_is); (case xt1 => k_is)
    (case xk1 => k_is); (case xe1 => k_is); (case xv1 => k_is); (case xy1 => k_is)
    (case xd1 => k_is); (case xb1 => k_is); (case xm1 => k_is); (case xu1 => ks_is)
    (case xn1 => k_is); (case xz1 => k_is); (case xp1 => first | rfl | decide +kernel); (case xf1 => k_is)
    (case xc1 => k_is); (case xq1 => k_is); (case xr1 => rfl); (case xw1 => first | rfl | decide +kernel)
    (case xj1 => k_is); (case xo1 => k_is); (case xa2 => k_is); (case xl2 => k_is)
    (case xs2 => k_is); (case xg2 => k_is); (case xh2 => k_is); (case xi2 => k_is)
    (case xt2 => k_is); (case xk2 => k_is); (case xe2 => k_is); (case xv2 => k_is)
    (case xy2 => k_is); (case xd2 => k_is); (case xb2 => k_is); (case xm2 => k_is)
    (case xu2 => ks_is); (case xn2 => k_is); (case xz2 => k_is); (case xp2 => first | rfl | decide +kernel)
    (case xf2 => k_is); (case xc2 => k_is); (case xq2 => k_is); (case xr2 => rfl)
    (case xw2 => first | rfl | decide +kernel); (case xj2 => k_is); (case ex1_1 => first | rfl | k_is); (case ex1_2 => first | rfl | k_is)
    (case ex2_1 => first | rfl | k_is); (case ex2_2 => first | rfl | k_is)
