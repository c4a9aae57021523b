import PyProof.Rows.All
import Wide.All
import OpenK.AllK
import Wide.FinOn
import HandS.ForMost
import HandS.IsInst
import HandS.Zip
import HandS.Flow
import HandS.Conv
import HandS.TupAny
import HandS.TupLe
import HandS.TupMul
import HandS.Deep
import HandS.Wide
import HandS.TupLen
import HandS.WordsDict
import HandS.Style
import KE.SortData
import PyProof.ReprRoads
import PyProof.CallFns
import KE.GoesEnum
import HandS.Defaults
import HandS.MakeKwOnly
import HandS.Small
import HandS.Ends
import PySem.Challenge.RW_nestcrates_k42_whole_boxes
set_option Elab.async false
set_option linter.all false
set_option maxRecDepth 100000
set_option maxHeartbeats 4000000
/-! A data layer of my own over the hand layer: values of the heap read as trees of data, so that a def's body becomes a predicate transformer over plain data. -/
namespace DL
open PySem PySem.Spec PyProof.Rows L2

abbrev D := PyData
def kD : Key → D
  | .inl i => .int i
  | .inr x => .str x

/-- a world: what is tracked, what may change (M: owned by some frame; C: the law's own state) -/
structure Wd where
  H : Hp
  M : Addr → Prop
  C : Addr → Prop

mutual
inductive Rp (w : Wd) : V → D → Prop
  | non : Rp w .non .none
  | bl (b : Bool) : Rp w (.bl b) (.bool b)
  | int (i : Int) : Rp w (.int i) (.int i)
  | str (x : Str) : Rp w (.str x) (.str x)
  | lst {a : Addr} {xs : List V} {ds : List D} : ¬ w.M a → w.H a = some (.lst xs) → RpL w xs ds → Rp w (.ref a) (.list ds)
  | tup {a : Addr} {xs : List V} {ds : List D} : ¬ w.M a → w.H a = some (.tup xs) → RpL w xs ds → Rp w (.ref a) (.tuple ds)
  | dK {a : Addr} {kvs : List (Key × V)} {es : List (D × D)} : ¬ w.M a → Rd w.H a (.dK kvs) → es.map (·.1) = kvs.map (fun p => kD p.1) → RpL w (kvs.map (·.2)) (es.map (·.2)) → Rp w (.ref a) (.dict es)
  | dT {a : Addr} {kvs : List (List Key × V)} {es : List (D × D)} : ¬ w.M a → Rd w.H a (.dT kvs) → es.map (·.1) = kvs.map (fun p => .tuple (p.1.map kD)) → RpL w (kvs.map (·.2)) (es.map (·.2)) → Rp w (.ref a) (.dict es)
inductive RpL (w : Wd) : List V → List D → Prop
  | nil : RpL w [] []
  | cons {v : V} {vs : List V} {d : D} {ds : List D} : Rp w v d → RpL w vs ds → RpL w (v :: vs) (d :: ds)
end

/-- what is to be read now: as Rp, its own top object may be somebody's own -/
inductive Rq (w : Wd) : V → D → Prop
  | non : Rq w .non .none
  | bl (b : Bool) : Rq w (.bl b) (.bool b)
  | int (i : Int) : Rq w (.int i) (.int i)
  | str (x : Str) : Rq w (.str x) (.str x)
  | lst {a : Addr} {xs : List V} {ds : List D} : w.H a = some (.lst xs) → RpL w xs ds → Rq w (.ref a) (.list ds)
  | tup {a : Addr} {xs : List V} {ds : List D} : ¬ w.M a → w.H a = some (.tup xs) → RpL w xs ds → Rq w (.ref a) (.tuple ds)
  | dK {a : Addr} {kvs : List (Key × V)} {es : List (D × D)} : Rd w.H a (.dK kvs) → es.map (·.1) = kvs.map (fun p => kD p.1) → RpL w (kvs.map (·.2)) (es.map (·.2)) → Rq w (.ref a) (.dict es)
  | dT {a : Addr} {kvs : List (List Key × V)} {es : List (D × D)} : Rd w.H a (.dT kvs) → es.map (·.1) = kvs.map (fun p => .tuple (p.1.map kD)) → RpL w (kvs.map (·.2)) (es.map (·.2)) → Rq w (.ref a) (.dict es)

/-- an object that somebody owns: its content -/
inductive Ow (w : Wd) (a : Addr) : D → Prop
  | lst {xs : List V} {ds : List D} : w.H a = some (.lst xs) → RpL w xs ds → Ow w a (.list ds)
  | dK {kvs : List (Key × V)} {es : List (D × D)} : w.H a = some (.dK kvs) → es.map (·.1) = kvs.map (fun p => kD p.1) → RpL w (kvs.map (·.2)) (es.map (·.2)) → Ow w a (.dict es)
  | dT {kvs : List (List Key × V)} {es : List (D × D)} : w.H a = some (.dT kvs) → es.map (·.1) = kvs.map (fun p => .tuple (p.1.map kD)) → RpL w (kvs.map (·.2)) (es.map (·.2)) → Ow w a (.dict es)

theorem Rp.rq {w : Wd} {v : V} {d : D} (h : Rp w v d) : Rq w v d := by
  cases h with
  | non => exact .non
  | bl b => exact .bl b
  | int i => exact .int i
  | str x => exact .str x
  | lst _ h r => exact .lst h r
  | tup n h r => exact .tup n h r
  | dK _ h e r => exact .dK h e r
  | dT _ h e r => exact .dT h e r
theorem Ow.rq {w : Wd} {a : Addr} {d : D} (h : Ow w a d) : Rq w (.ref a) d := by
  cases h with
  | lst h r => exact .lst h r
  | dK h e r => exact .dK (.inl h) e r
  | dT h e r => exact .dT (.inl h) e r
theorem Ow.rp {w : Wd} {a : Addr} {d : D} (h : Ow w a d) (n : ¬ w.M a) : Rp w (.ref a) d := by
  cases h with
  | lst h r => exact .lst n h r
  | dK h e r => exact .dK n (.inl h) e r
  | dT h e r => exact .dT n (.inl h) e r

/-! ### how worlds go on -/
def IsDct (o : HO) : Prop := (∃ kvs, o = .dK kvs) ∨ ∃ kvs, o = .dT kvs
/-- o stands as it was; or it is a dict, and has been locked -/
def Lk (o : HO) (x : Option HO) : Prop := x = some o ∨ (IsDct o ∧ ∃ ob, x = some (.frz ob o))
theorem Lk.refl {o : HO} {x : Option HO} (h : x = some o) : Lk o x := .inl h
theorem Lk.exact {o : HO} {x : Option HO} (h : Lk o x) (n : ¬ IsDct o) : x = some o := h.elim id fun q => absurd q.1 n
theorem Lk.there {o : HO} {x : Option HO} (h : Lk o x) : x ≠ none := by
  rcases h with h | ⟨_, ob, h⟩ <;> (rw [h]; simp)
theorem no_dct_lst {xs : List V} : ¬ IsDct (.lst xs) := fun h => by rcases h with ⟨_, h⟩ | ⟨_, h⟩ <;> cases h
theorem no_dct_tup {xs : List V} : ¬ IsDct (.tup xs) := fun h => by rcases h with ⟨_, h⟩ | ⟨_, h⟩ <;> cases h
theorem no_dct_frz {o : Obj} {u : HO} : ¬ IsDct (.frz o u) := fun h => by rcases h with ⟨_, h⟩ | ⟨_, h⟩ <;> cases h
theorem Lk.rd {H' : Hp} {a : Addr} {u : HO} {o : Option HO} (H : Hp) (h : Rd H a u) (k : ∀ o, H a = some o → Lk o (H' a)) : Rd H' a u := by
  rcases h with h | ⟨o, h⟩
  · rcases k _ h with q | ⟨_, ob, q⟩
    · exact .inl q
    · exact .inr ⟨ob, q⟩
  · exact .inr ⟨o, (k _ h).exact no_dct_frz⟩
/-- what frozen data lean on stays -/
structure St1 (w w' : Wd) : Prop where
  keep : ∀ a o, ¬ w.M a → w.H a = some o → Lk o (w'.H a)
  newM : ∀ a, w'.M a → w.M a ∨ w.H a = none

theorem St1.rd {w w' : Wd} (e : St1 w w') {a : Addr} {u : HO} (n : ¬ w.M a) (h : Rd w.H a u) : Rd w'.H a u ∧ ¬ w'.M a := by
  refine ⟨Lk.rd (o := none) w.H h fun o q => e.keep a o n q, fun z => ?_⟩
  rcases e.newM a z with q | q
  · exact n q
  · rcases h with h | ⟨o, h⟩ <;> (rw [q] at h; cases h)
theorem St1.nm {w w' : Wd} (e : St1 w w') {a : Addr} {u : HO} (n : ¬ w.M a) (h : w.H a = some u) : ¬ w'.M a := fun z => (e.newM a z).elim n fun q => by rw [q] at h; cases h
theorem Rp.st {w w' : Wd} (e : St1 w w') {v : V} {d : D} (h : Rp w v d) : Rp w' v d :=
  Rp.rec (motive_1 := fun v d _ => Rp w' v d) (motive_2 := fun vs ds _ => RpL w' vs ds) .non .bl .int .str
    (fun n h _ r => .lst (e.nm n h) ((e.keep _ _ n h).exact no_dct_lst) r) (fun n h _ r => .tup (e.nm n h) ((e.keep _ _ n h).exact no_dct_tup) r)
    (fun n h k _ r => .dK (e.rd n h).2 (e.rd n h).1 k r) (fun n h k _ r => .dT (e.rd n h).2 (e.rd n h).1 k r) .nil (fun _ _ a b => .cons a b) h
theorem RpL.st {w w' : Wd} (e : St1 w w') : ∀ {vs : List V} {ds : List D}, RpL w vs ds → RpL w' vs ds
  | _, _, .nil => .nil
  | _, _, .cons h r => .cons (h.st e) (RpL.st e r)
theorem RpL.length {w : Wd} : ∀ {vs : List V} {ds : List D}, RpL w vs ds → vs.length = ds.length
  | _, _, .nil => rfl
  | _, _, .cons _ r => by rw [List.length_cons, List.length_cons, RpL.length r]
theorem RpL.append {w : Wd} : ∀ {vs us : List V} {ds es : List D}, RpL w vs ds → RpL w us es → RpL w (vs ++ us) (ds ++ es)
  | _, _, _, _, .nil, q => q
  | _, _, _, _, .cons h r, q => .cons h (RpL.append r q)
theorem RpL.get {w : Wd} : ∀ {vs : List V} {ds : List D} {i : Nat} {d : D}, RpL w vs ds → ds[i]? = some d → ∃ v, vs[i]? = some v ∧ Rp w v d
  | _, _, _, _, .nil, e => by simp at e
  | _, _, 0, _, .cons h _, e => by simp at e; subst e; exact ⟨_, rfl, h⟩
  | _, _, i + 1, _, .cons _ r, e => by
    obtain ⟨v, a, b⟩ := RpL.get (i := i) r (by simpa using e)
    exact ⟨v, by simpa using a, b⟩
theorem RpL.getV {w : Wd} : ∀ {vs : List V} {ds : List D} {i : Nat} {v : V}, RpL w vs ds → vs[i]? = some v → ∃ d, ds[i]? = some d ∧ Rp w v d
  | _, _, _, _, .nil, e => by simp at e
  | _, _, 0, _, .cons h _, e => by simp at e; subst e; exact ⟨_, rfl, h⟩
  | _, _, i + 1, _, .cons _ r, e => by
    obtain ⟨v, a, b⟩ := RpL.getV (i := i) r (by simpa using e)
    exact ⟨v, by simpa using a, b⟩
theorem RpL.take {w : Wd} : ∀ {vs : List V} {ds : List D} (n : Nat), RpL w vs ds → RpL w (vs.take n) (ds.take n)
  | _, _, 0, _ => .nil
  | _, _, _ + 1, .nil => .nil
  | _, _, n + 1, .cons h r => .cons h (RpL.take n r)
theorem RpL.drop {w : Wd} : ∀ {vs : List V} {ds : List D} (n : Nat), RpL w vs ds → RpL w (vs.drop n) (ds.drop n)
  | _, _, 0, r => r
  | _, _, _ + 1, .nil => .nil
  | _, _, n + 1, .cons _ r => RpL.drop n r
theorem RpL.set {w : Wd} {v : V} {d : D} (h : Rp w v d) : ∀ {vs : List V} {ds : List D} (i : Nat), RpL w vs ds → RpL w (vs.set i v) (ds.set i d)
  | _, _, _, .nil => .nil
  | _, _, 0, .cons _ r => .cons h r
  | _, _, i + 1, .cons q r => .cons q (RpL.set h i r)
theorem RpL.eraseIdx {w : Wd} : ∀ {vs : List V} {ds : List D} (i : Nat), RpL w vs ds → RpL w (vs.eraseIdx i) (ds.eraseIdx i)
  | _, _, _, .nil => .nil
  | _, _, 0, .cons _ r => r
  | _, _, i + 1, .cons q r => .cons q (RpL.eraseIdx i r)
theorem RpL.dropLast {w : Wd} {vs : List V} {ds : List D} (r : RpL w vs ds) : RpL w vs.dropLast ds.dropLast := by
  rw [List.dropLast_eq_take, List.dropLast_eq_take, r.length]; exact r.take _
theorem RpL.reverse {w : Wd} : ∀ {vs : List V} {ds : List D}, RpL w vs ds → RpL w vs.reverse ds.reverse
  | _, _, .nil => .nil
  | _, _, .cons h r => by rw [List.reverse_cons, List.reverse_cons]; exact (RpL.reverse r).append (.cons h .nil)
theorem RpL.rep {w : Wd} {vs : List V} {ds : List D} (h : RpL w vs ds) : ∀ k : Nat, RpL w (List.replicate k vs).flatten (List.replicate k ds).flatten
  | 0 => .nil
  | k + 1 => by rw [List.replicate_succ, List.replicate_succ, List.flatten_cons, List.flatten_cons]; exact h.append (RpL.rep h k)
theorem Ow.st {w w' : Wd} (e : St1 w w') {a : Addr} {d : D} (h : Ow w a d) (k : w'.H a = w.H a) : Ow w' a d := by
  cases h with
  | lst h r => exact .lst (k.trans h) (r.st e)
  | dK h q r => exact .dK (k.trans h) q (r.st e)
  | dT h q r => exact .dT (k.trans h) q (r.st e)

/-- an expression has run: all but the law's state is as it was -/
structure Ext (w w' : Wd) : Prop where
  keep : ∀ a o, ¬ w.C a → w.H a = some o → w'.H a = some o ∨ (¬ w.M a ∧ IsDct o ∧ ∃ ob, w'.H a = some (.frz ob o))
  dom : ∀ a, w.H a ≠ none → w'.H a ≠ none
  newC : ∀ a, w'.C a → w.C a ∨ w.H a = none
  newM : ∀ a, w'.M a → w.M a ∨ w.H a = none
  oldM : ∀ a, w.M a → w'.M a
theorem Ext.refl (w : Wd) : Ext w w := ⟨fun _ _ _ h => .inl h, fun _ h => h, fun _ h => .inl h, fun _ h => .inl h, fun _ h => h⟩
theorem Ext.free {w w' : Wd} (e : Ext w w') {a : Addr} (h : w'.H a = none) : w.H a = none := by
  cases q : w.H a with
  | none => rfl
  | some o => exact absurd h (e.dom a (by rw [q]; simp))
theorem Ext.own {w w' : Wd} (e : Ext w w') {a : Addr} {o : HO} (n : ¬ w.C a) (m : w.M a) (h : w.H a = some o) : w'.H a = some o := (e.keep a o n h).elim id fun q => absurd m q.1
theorem Ext.lk {w w' : Wd} (e : Ext w w') {a : Addr} {o : HO} (n : ¬ w.C a) (h : w.H a = some o) : Lk o (w'.H a) := (e.keep a o n h).elim .inl fun q => .inr q.2
theorem Ext.trans {w w1 w2 : Wd} (e : Ext w w1) (f : Ext w1 w2) : Ext w w2 where
  keep := fun a o n h => by
    have nc : ¬ w1.C a := fun z => (e.newC a z).elim n fun q => by rw [q] at h; cases h
    rcases e.keep a o n h with q | ⟨nm, d, ob, q⟩
    · rcases f.keep a o nc q with r | ⟨nm, r⟩
      · exact .inl r
      · exact .inr ⟨fun m => nm (e.oldM a m), r⟩
    · exact .inr ⟨nm, d, ob, (f.lk nc q).exact no_dct_frz⟩
  dom := fun a h => f.dom a (e.dom a h)
  newC := fun a h => (f.newC a h).elim (e.newC a) fun q => .inr (e.free q)
  newM := fun a h => (f.newM a h).elim (e.newM a) fun q => .inr (e.free q)
  oldM := fun a h => f.oldM a (e.oldM a h)
theorem Ext.st {w w' : Wd} (e : Ext w w') (cm : ∀ a, w.C a → w.M a) : St1 w w' := ⟨fun a o n h => e.lk (fun z => n (cm a z)) h, e.newM⟩
theorem Ext.same {w : Wd} {H' : Hp} (s : Same w.H H') : Ext w ⟨H', w.M, w.C⟩ := ⟨fun a o _ h => .inl (s a o h), fun a h z => h (s.free z), fun _ h => .inl h, fun _ h => .inl h, fun _ h => h⟩
theorem St1.same {w : Wd} {H' : Hp} (s : Same w.H H') : St1 w ⟨H', w.M, w.C⟩ := ⟨fun a o _ h => .inl (s a o h), fun _ h => .inl h⟩

/-! ### the slots of a frame, as data -/
inductive Sl where
  | no
  | fz (d : D)
  | raw (v : V)
  | own (d : D)
  | bw (d : D)
abbrev Ev := List Sl

/-- the ghost of a run: what is protected, what was there at the entry, the law's state -/
structure Gh where
  Pt : Hp
  H0 : Hp
  M0 : Addr → Prop
  mh : ∀ a, M0 a → H0 a ≠ none
  C0 : Addr → Prop
  /-- values that are walked, or kept aside -/
  gs : List (V × D)
  /-- how much has been drawn, at most -/
  b : Nat
  SI : Nat → (Addr → Prop) → Hp → Prop
  stab : ∀ b C H H', SI b C H → (∀ a o, C a → H a = some o → H' a = some o) → SI b C H'
abbrev Gh.at (G : Gh) (b : Nat) : Gh := { G with b := b }
/-- no more than this is drawn -/
def cap : Nat := 2 ^ 100000

def SlR (G : Gh) (w : Wd) (ov : Option V) : Sl → Prop
  | .no => True
  | .fz d => ∃ v, ov = some v ∧ Rp w v d
  | .raw v => ov = some v
  | .own d => ∃ a, ov = some (.ref a) ∧ w.M a ∧ ¬ w.C a ∧ G.Pt a = none ∧ G.H0 a = none ∧ Ow w a d
  | .bw d => ∃ a, ov = some (.ref a) ∧ w.M a ∧ ¬ w.C a ∧ (∃ o, G.Pt a = some o) ∧ Ow w a d

/-- what holds wherever a body stands -/
structure EH (G : Gh) (w : Wd) : Prop where
  kp : ∀ a o, G.Pt a = some o → w.H a = some o ∨ (¬ G.M0 a ∧ IsDct o ∧ ∃ ob, w.H a = some (.frz ob o))
  m0 : ∀ a, G.M0 a → w.M a
  nc : ∀ a, w.C a → G.C0 a ∨ G.H0 a = none
  cp : ∀ a, w.C a → G.Pt a = none
  cm : ∀ a, w.C a → w.M a
  md : ∀ a, w.M a → w.H a ≠ none
  hd : ∀ a, G.H0 a ≠ none → w.H a ≠ none
  gk : ∀ p ∈ G.gs, Rp w p.1 p.2
  si : G.SI G.b w.C w.H
structure ER (G : Gh) (w : Wd) (env : Ev) (σ : L2.St) : Prop extends EH G w where
  len : env.length = σ.length
  sl : ∀ (i : Nat) (s : Sl) (ov : Option V), env[i]? = some s → σ[i]? = some ov → SlR G w ov s
  od : ∀ (i j : Nat) (d e : D) (a : Addr), env[i]? = some (.own d) → env[j]? = some (.own e) → σ[i]? = some (some (.ref a)) → σ[j]? = some (some (.ref a)) → i = j

theorem SlR.ext {G : Gh} {w w' : Wd} {ov : Option V} {s : Sl} (e : Ext w w') (cm : ∀ a, w.C a → w.M a) (r : SlR G w ov s) : SlR G w' ov s := by
  have st := e.st cm
  have cn : ∀ a, ¬ w.C a → w.H a ≠ none → ¬ w'.C a := fun a n q z => (e.newC a z).elim n q
  cases s with
  | no => trivial
  | fz d => obtain ⟨v, q, r⟩ := r; exact ⟨v, q, r.st st⟩
  | raw v => exact r
  | own d =>
    obtain ⟨a, q, m, n, p, z, o⟩ := r
    have hd : ∃ ob, w.H a = some ob := by cases o <;> exact ⟨_, by assumption⟩
    obtain ⟨ob, hd⟩ := hd
    exact ⟨a, q, e.oldM a m, cn a n (by rw [hd]; simp), p, z, o.st st (by rw [hd]; exact e.own n m hd)⟩
  | bw d =>
    obtain ⟨a, q, m, n, p, o⟩ := r
    have hd : ∃ ob, w.H a = some ob := by cases o <;> exact ⟨_, by assumption⟩
    obtain ⟨ob, hd⟩ := hd
    exact ⟨a, q, e.oldM a m, cn a n (by rw [hd]; simp), p, o.st st (by rw [hd]; exact e.own n m hd)⟩

/-- all that was tracked stays: a pure step -/
theorem EH.same {G : Gh} {w : Wd} {H' : Hp} (h : EH G w) (s : Same w.H H') : EH G ⟨H', w.M, w.C⟩ :=
  ⟨fun a o q => (h.kp a o q).elim (fun z => .inl (s _ _ z)) fun ⟨n, d, ob, z⟩ => .inr ⟨n, d, ob, s _ _ z⟩, h.m0, h.nc, h.cp, h.cm, fun a m z => h.md a m (s.free z), fun a m z => h.hd a m (s.free z), fun p hp => (h.gk p hp).st (St1.same s), G.stab _ _ _ _ h.si fun a o _ q => s a o q⟩
theorem ER.same {G : Gh} {w : Wd} {H' : Hp} {env : Ev} {σ : L2.St} (h : ER G w env σ) (s : Same w.H H') : ER G ⟨H', w.M, w.C⟩ env σ :=
  ⟨h.toEH.same s, h.len, fun i sl ov a b => SlR.ext (Ext.same s) h.cm (h.sl i sl ov a b), h.od⟩

/-- a world in which a is somebody's own, too -/
def Wd.plus (w : Wd) (a : Addr) : Wd := ⟨w.H, fun b => w.M b ∨ b = a, w.C⟩
theorem St1.less (w : Wd) (a : Addr) : St1 (w.plus a) w := ⟨fun b o n h => .inl h, fun b m => .inl (.inl m)⟩
theorem St1.plus {w w' : Wd} (e : St1 w w') (a : Addr) : St1 (w.plus a) (w'.plus a) := ⟨fun b o n h => e.keep b o (fun m => n (.inl m)) h, fun b m => m.elim (fun m => (e.newM b m).elim (fun m => .inl (.inl m)) .inr) fun q => .inl (.inr q)⟩

theorem ER.ext' {G : Gh} {b b' : Nat} {w w' : Wd} {env : Ev} {σ : L2.St} (h : ER (G.at b) w env σ) (e : Ext w w') (eh : EH (G.at b') w') : ER (G.at b') w' env σ := ⟨eh, h.len, fun i sl ov a b => SlR.ext e h.cm (h.sl i sl ov a b), h.od⟩

/-! ### values of expressions -/
inductive Dv where
  /-- data that nobody may change -/
  | fz (d : D)
  /-- a new list or dict that nothing else refers to -/
  | nw (d : D)
  /-- a local's own list or dict -/
  | ow (d : D)
  /-- a caller's own -/
  | bw (d : D)
  | raw (v : V)
def Dv.val : Dv → Option D
  | .fz d => some d
  | .nw d => some d
  | .ow d => some d
  | .bw d => some d
  | .raw _ => none
/-- the data of a value that may be kept -/
def isDct : D → Bool
  | .dict _ => true
  | _ => false
def Dv.kept : Dv → Option D
  | .fz d => some d
  | .nw d => if isDct d = true then none else some d
  | _ => none

/-- Hs: the heap at the start of the expression -/
def VR (G : Gh) (Hs : Hp) (w : Wd) (v : V) : Dv → Prop
  | .fz d => Rp w v d
  | .nw d => ∃ a, v = .ref a ∧ Hs a = none ∧ (isDct d = true ↔ w.M a) ∧ ¬ w.C a ∧ Ow (w.plus a) a d
  | .ow d => ∃ a, v = .ref a ∧ w.M a ∧ G.H0 a = none ∧ G.Pt a = none ∧ ¬ w.C a ∧ Ow w a d
  | .bw d => ∃ a, v = .ref a ∧ w.M a ∧ ¬ w.C a ∧ Ow w a d
  | .raw u => v = u

theorem VR.rq {G : Gh} {Hs : Hp} {w : Wd} {v : V} {dv : Dv} {d : D} (h : VR G Hs w v dv) (e : dv.val = some d) : Rq w v d := by
  cases dv with
  | fz d' => cases e; exact Rp.rq h
  | nw d' => cases e; obtain ⟨a, rfl, _, _, _, o⟩ := h; exact (o.st (St1.less w a) rfl).rq
  | ow d' => cases e; obtain ⟨a, rfl, _, _, _, _, o⟩ := h; exact o.rq
  | bw d' => cases e; obtain ⟨a, rfl, _, _, o⟩ := h; exact o.rq
  | raw u => cases e
theorem VR.rp {G : Gh} {Hs : Hp} {w : Wd} {v : V} {dv : Dv} {d : D} (h : VR G Hs w v dv) (e : dv.kept = some d) : Rp w v d := by
  cases dv with
  | fz d' => cases e; exact h
  | nw d' =>
    obtain ⟨a, rfl, _, n, _, o⟩ := h
    simp only [Dv.kept] at e
    by_cases q : isDct d' = true
    · rw [if_pos q] at e; cases e
    · rw [if_neg q] at e; cases e
      exact (o.st (St1.less w a) rfl).rp fun m => q (n.mpr m)
  | ow d' => cases e
  | bw d' => cases e
  | raw u => cases e
theorem Dv.val_of_kept {dv : Dv} {d : D} (e : dv.kept = some d) : dv.val = some d := by
  cases dv with
  | nw d' =>
    simp only [Dv.kept] at e
    by_cases q : isDct d' = true
    · rw [if_pos q] at e; cases e
    · rw [if_neg q] at e; exact e
  | _ => first | exact e | cases e
theorem VR.ext {G : Gh} {Hs Hs' : Hp} {w w' : Wd} {v : V} {dv : Dv} (h : VR G Hs w v dv) (e : Ext w w') (cm : ∀ a, w.C a → w.M a) (hs : ∀ a, Hs a = none → Hs' a = none) : VR G Hs' w' v dv := by
  have st := e.st cm
  have cn : ∀ a, ¬ w.C a → w.H a ≠ none → ¬ w'.C a := fun a n q z => (e.newC a z).elim n q
  have hd : ∀ {a d}, Ow w a d → ∃ ob, w.H a = some ob := fun o => by cases o <;> exact ⟨_, by assumption⟩
  cases dv with
  | fz d => exact Rp.st st h
  | nw d =>
    obtain ⟨a, q, z, m, n, o⟩ := h
    obtain ⟨ob, ho⟩ : ∃ ob, w.H a = some ob := by cases o <;> exact ⟨_, by assumption⟩
    have hk : w'.H a = w.H a := by
      rw [ho]
      rcases e.keep a ob n ho with k | ⟨nm, dc, _⟩
      · exact k
      · exfalso
        have nd : ¬ isDct d = true := fun t => nm (m.mp t)
        cases o with
        | lst h r =>
          have h' : w.H a = some (.lst _) := h
          rw [ho] at h'; cases h'
          exact no_dct_lst dc
        | dK _ _ _ => exact nd rfl
        | dT _ _ _ => exact nd rfl
    exact ⟨a, q, hs a z, ⟨fun t => e.oldM a (m.mp t), fun k => (e.newM a k).elim m.mpr (by rw [ho]; simp)⟩, cn a n (by rw [ho]; simp), o.st (st.plus a) hk⟩
  | ow d =>
    obtain ⟨a, q, m, z, p, n, o⟩ := h
    obtain ⟨ob, ho⟩ := hd o
    exact ⟨a, q, e.oldM a m, z, p, cn a n (by rw [ho]; simp), o.st st (by rw [ho]; exact e.own n m ho)⟩
  | bw d =>
    obtain ⟨a, q, m, n, o⟩ := h
    obtain ⟨ob, ho⟩ := hd o
    exact ⟨a, q, e.oldM a m, cn a n (by rw [ho]; simp), o.st st (by rw [ho]; exact e.own n m ho)⟩
  | raw u => exact h

/-! ### the judgements -/
abbrev WE := Ev → (Dv → Prop) → Prop
abbrev WT := Ev → (Bool → Prop) → Prop
abbrev WA := Ev → (List Dv → Prop) → Prop
inductive VRs (G : Gh) (Hs : Hp) (w : Wd) : List V → List Dv → Prop
  | nil : VRs G Hs w [] []
  | cons {v : V} {vs : List V} {d : Dv} {ds : List Dv} : VR G Hs w v d → VRs G Hs w vs ds → VRs G Hs w (v :: vs) (d :: ds)
theorem VRs.ext {G : Gh} {Hs Hs' : Hp} {w w' : Wd} (e : Ext w w') (cm : ∀ a, w.C a → w.M a) (hs : ∀ a, Hs a = none → Hs' a = none) : ∀ {vs : List V} {ds : List Dv}, VRs G Hs w vs ds → VRs G Hs' w' vs ds
  | _, _, .nil => .nil
  | _, _, .cons h r => .cons (h.ext e cm hs) (VRs.ext e cm hs r)
theorem VRs.length {G : Gh} {Hs : Hp} {w : Wd} : ∀ {vs : List V} {ds : List Dv}, VRs G Hs w vs ds → vs.length = ds.length
  | _, _, .nil => rfl
  | _, _, .cons _ r => by rw [List.length_cons, List.length_cons, VRs.length r]

def tV (G : Gh) (f : WE) (c : Nat) : TE := fun σ H Q => ∃ (env : Ev) (M C : Addr → Prop) (b : Nat) (P : Dv → Prop), b + c ≤ cap ∧ ER (G.at b) ⟨H, M, C⟩ env σ ∧ f env P ∧ ∀ dv, P dv → ∀ b' w' v, b' ≤ b + c → ER (G.at b') w' env σ → Ext ⟨H, M, C⟩ w' → VR G H w' v dv → Q v w'.H
def tT (G : Gh) (f : WT) (c : Nat) : TT := fun σ H Q => ∃ (env : Ev) (M C : Addr → Prop) (b : Nat) (P : Bool → Prop), b + c ≤ cap ∧ ER (G.at b) ⟨H, M, C⟩ env σ ∧ f env P ∧ ∀ k, P k → ∀ b' w', b' ≤ b + c → ER (G.at b') w' env σ → Ext ⟨H, M, C⟩ w' → Q k w'.H
def tA (G : Gh) (f : WA) (c : Nat) : TA := fun σ H Q => ∃ (env : Ev) (M C : Addr → Prop) (b : Nat) (P : List Dv → Prop), b + c ≤ cap ∧ ER (G.at b) ⟨H, M, C⟩ env σ ∧ f env P ∧ ∀ ds, P ds → ∀ b' w' vs, b' ≤ b + c → ER (G.at b') w' env σ → Ext ⟨H, M, C⟩ w' → VRs G H w' vs ds → Q vs w'.H
abbrev DE (X : Cx) (G : Gh) (e : Expr) (f : WE) (c : Nat) : Prop := PE X e (tV G f c)
abbrev DT (X : Cx) (G : Gh) (e : Expr) (f : WT) (c : Nat) : Prop := PT X e (tT G f c)
abbrev DW (X : Cx) (G : Gh) (e : Expr) (f : WT) (c : Nat) : Prop := PW X e (tT G f c)
abbrev DA (X : Cx) (G : Gh) (es : List Expr) (f : WA) (c : Nat) : Prop := PA X es (tA G f c)

structure DEnds where
  nx : Ev → Prop
  rt : Dv → Prop
  bk : Ev → Prop
  ct : Ev → Prop
abbrev WS := Ev → DEnds → Prop
/-- what the statement's ends are worth -/
structure Lift (G : Gh) (B : Nat) (T : Ends) (De : DEnds) : Prop where
  nx : ∀ env, De.nx env → ∀ b w σ, b ≤ B → ER (G.at b) w env σ → T.nx σ w.H
  rt : ∀ dv, De.rt dv → ∀ b w Hs v, b ≤ B → EH (G.at b) w → VR G Hs w v dv → (∀ a, G.H0 a ≠ none → Hs a ≠ none) → T.rt v w.H
  bk : ∀ env, De.bk env → ∀ b w σ, b ≤ B → ER (G.at b) w env σ → T.bk σ w.H
  ct : ∀ env, De.ct env → ∀ b w σ, b ≤ B → ER (G.at b) w env σ → T.ct σ w.H
theorem Lift.mono {G : Gh} {B B' : Nat} {T : Ends} {De : DEnds} (h : Lift G B T De) (l : B' ≤ B) : Lift G B' T De :=
  ⟨fun e q b w σ hb => h.nx e q b w σ (Nat.le_trans hb l), fun d q b w Hs v hb => h.rt d q b w Hs v (Nat.le_trans hb l), fun e q b w σ hb => h.bk e q b w σ (Nat.le_trans hb l), fun e q b w σ hb => h.ct e q b w σ (Nat.le_trans hb l)⟩
def tS (G : Gh) (f : WS) (c : Nat) : TS := fun T σ H => ∃ (env : Ev) (M C : Addr → Prop) (b : Nat) (De : DEnds), b + c ≤ cap ∧ ER (G.at b) ⟨H, M, C⟩ env σ ∧ f env De ∧ Lift G (b + c) T De
abbrev DS (X : Cx) (G : Gh) (st : Stmt) (f : WS) (c : Nat) : Prop := PS X st (tS G f c)
abbrev DSs (X : Cx) (G : Gh) (st : List Stmt) (f : WS) (c : Nat) : Prop := PSs X st (tS G f c)
end DL
namespace DL
open PySem PySem.Spec PyProof.Rows L2

theorem PE_imp {X : Cx} {e : Expr} {t t' : TE} (h : PE X e t) (i : ∀ σ H Q, t' σ H Q → t σ H Q) : PE X e t' := ⟨fun pins s σ H Q I q => h.run pins s σ H Q I (i σ H Q q)⟩
theorem PT_imp {X : Cx} {e : Expr} {t t' : TT} (h : PT X e t) (i : ∀ σ H Q, t' σ H Q → t σ H Q) : PT X e t' := ⟨fun pins s σ H Q I q => h.run pins s σ H Q I (i σ H Q q)⟩
theorem PW_imp {X : Cx} {e : Expr} {t t' : TT} (h : PW X e t) (i : ∀ σ H Q, t' σ H Q → t σ H Q) : PW X e t' := ⟨fun wh pins s σ H Q I q => h.run wh pins s σ H Q I (i σ H Q q)⟩
theorem PA_imp {X : Cx} {e : List Expr} {t t' : TA} (h : PA X e t) (i : ∀ σ H Q, t' σ H Q → t σ H Q) : PA X e t' := ⟨fun pos pins s σ H Q I q => h.run pos pins s σ H Q I (i σ H Q q)⟩
theorem PS_imp {X : Cx} {e : Stmt} {t t' : TS} (h : PS X e t) (i : ∀ σ H Q, t' Q σ H → t Q σ H) : PS X e t' := ⟨fun pins s σ H Q I q => h.run pins s σ H Q I (i σ H Q q)⟩
theorem PSs_imp {X : Cx} {e : List Stmt} {t t' : TS} (h : PSs X e t) (i : ∀ σ H Q, t' Q σ H → t Q σ H) : PSs X e t' := ⟨fun pins s σ H Q I q => h.run pins s σ H Q I (i σ H Q q)⟩

/-- what is left to do with an expression's value -/
def Fin (G : Gh) (b : Nat) (σ : L2.St) (env : Ev) (w : Wd) (Q : VK) (P : Dv → Prop) : Prop := ∀ dv, P dv → ∀ b' w' v, b' ≤ b → ER (G.at b') w' env σ → Ext w w' → VR G w.H w' v dv → Q v w'.H
theorem VR.hs {G : Gh} {Hs Hs' : Hp} {w : Wd} {v : V} {dv : Dv} (h : VR G Hs w v dv) (e : ∀ a, Hs a = none → Hs' a = none) : VR G Hs' w v dv := by
  cases dv with
  | nw d => obtain ⟨a, q, z, r⟩ := h; exact ⟨a, q, e a z, r⟩
  | fz d => exact h
  | ow d => exact h
  | bw d => exact h
  | raw d => exact h
theorem Fin.ext {G : Gh} {b b2 : Nat} {σ : L2.St} {env : Ev} {w w2 : Wd} {Q : VK} {P : Dv → Prop} (f : Fin G b σ env w Q P) (e : Ext w w2) (l : b2 ≤ b) : Fin G b2 σ env w2 Q P :=
  fun dv p b' w' v hb er e' r => f dv p b' w' v (Nat.le_trans hb l) er (e.trans e') (r.hs fun a h => e.free h)
theorem Fin.now {G : Gh} {b : Nat} {σ : L2.St} {env : Ev} {w : Wd} {Q : VK} {P : Dv → Prop} (f : Fin G b σ env w Q P) {dv : Dv} (p : P dv) {v : V} (er : ER (G.at b) w env σ) (r : VR G w.H w v dv) : Q v w.H := f dv p b w v (Nat.le_refl _) er (Ext.refl w) r
/-- the start -/
theorem Fin.of {G : Gh} {b c : Nat} {σ : L2.St} {env : Ev} {w : Wd} {Q : VK} {P : Dv → Prop} (f : ∀ dv, P dv → ∀ b' w' v, b' ≤ b + c → ER (G.at b') w' env σ → Ext w w' → VR G w.H w' v dv → Q v w'.H) : Fin G (b + c) σ env w Q P := f
/-- one operand -/
theorem tV.one {G : Gh} {c : Nat} {wa : WE} {K : Ev → Dv → (Dv → Prop) → Prop} {σ : L2.St} {H : Hp} {Q : VK} {R : V → Hp → Prop} (h : tV G (fun env P => wa env fun x => K env x P) c σ H Q)
    (fin : ∀ {b : Nat} env w x dx P, ER (G.at b) w env σ → VR G H w x dx → K env dx P → Fin G b σ env w Q P → R x w.H) : tV G wa c σ H R := by
  obtain ⟨env, M, C, b, P, hb, er, hw, hf⟩ := h
  refine ⟨env, M, C, b, _, hb, er, hw, fun dx hx b1 w1 x hb1 er1 e1 r1 => fin env w1 x dx P er1 r1 hx (Fin.ext (w := ⟨H, M, C⟩) hf e1 hb1)⟩
/-- two operands, one after another -/
theorem tV.two {G : Gh} {ca cb : Nat} {wa wb : WE} {K : Ev → Dv → Dv → (Dv → Prop) → Prop} {σ : L2.St} {H : Hp} {Q : VK} {R : V → V → Hp → Prop} (h : tV G (fun env P => wa env fun x => wb env fun y => K env x y P) (ca + cb) σ H Q)
    (fin : ∀ {b : Nat} env w x y dx dy P, ER (G.at b) w env σ → VR G H w x dx → VR G H w y dy → K env dx dy P → Fin G b σ env w Q P → R x y w.H) : tV G wa ca σ H fun x H1 => tV G wb cb σ H1 fun y H2 => R x y H2 := by
  obtain ⟨env, M, C, b, P, hb, er, hw, hf⟩ := h
  refine ⟨env, M, C, b, _, by omega, er, hw, fun dx hx b1 w1 x hb1 er1 e1 r1 => ⟨env, w1.M, w1.C, b1, _, by omega, er1, hx, fun dy hy b2 w2 y hb2 er2 e2 r2 => ?_⟩⟩
  exact fin env w2 x y dx dy P er2 (r1.ext e2 er1.cm fun _ z => z) (r2.hs fun a z => e1.free z) hy (Fin.ext (Fin.ext (w := ⟨H, M, C⟩) hf e1 (Nat.le_refl _)) e2 (by omega))

theorem tV.twoX {G : Gh} {ca cb cc : Nat} {wa wb : WE} {K : Ev → Dv → Dv → (Dv → Prop) → Prop} {σ : L2.St} {H : Hp} {Q : VK} {R : V → V → Hp → Prop} (h : tV G (fun env P => wa env fun x => wb env fun y => K env x y P) (ca + cb + cc) σ H Q)
    (fin : ∀ {b : Nat} env w x y dx dy P, b + cc ≤ cap → ER (G.at b) w env σ → VR G H w x dx → VR G H w y dy → K env dx dy P → Fin G (b + cc) σ env w Q P → R x y w.H) : tV G wa ca σ H fun x H1 => tV G wb cb σ H1 fun y H2 => R x y H2 := by
  obtain ⟨env, M, C, b, P, hb, er, hw, hf⟩ := h
  refine ⟨env, M, C, b, _, by omega, er, hw, fun dx hx b1 w1 x hb1 er1 e1 r1 => ⟨env, w1.M, w1.C, b1, _, by omega, er1, hx, fun dy hy b2 w2 y hb2 er2 e2 r2 => ?_⟩⟩
  exact fin env w2 x y dx dy P (by omega) er2 (r1.ext e2 er1.cm fun _ z => z) (r2.hs fun a z => e1.free z) hy (Fin.ext (Fin.ext (w := ⟨H, M, C⟩) hf e1 (Nat.le_refl _)) e2 (by omega))

/-! ### the values that pure operations give -/
def mkDv : D → Dv
  | .list ds => .nw (.list ds)
  | .dict es => .nw (.dict es)
  | .none => .fz .none
  | .bool b => .fz (.bool b)
  | .int i => .fz (.int i)
  | .str x => .fz (.str x)
  | .tuple ds => .fz (.tuple ds)
def VN (w : Wd) (H' : Hp) (v : V) : D → Prop
  | .list ds => ∃ a, v = .ref a ∧ w.H a = none ∧ Ow (Wd.plus ⟨H', w.M, w.C⟩ a) a (.list ds)
  | .dict es => ∃ a, v = .ref a ∧ w.H a = none ∧ Ow (Wd.plus ⟨H', w.M, w.C⟩ a) a (.dict es)
  | d => Rp ⟨H', w.M, w.C⟩ v d
theorem same_new {H : Hp} {p : Addr} {o : HO} (h : H p = none) : Same H (upd H p o) := fun b x e => by
  rw [upd_ne (ne_of_none e h)]; exact e
theorem Ext.plus {w : Wd} {H' : Hp} {a : Addr} (s : Same w.H H') (n : w.H a = none) : Ext w (Wd.plus ⟨H', w.M, w.C⟩ a) := ⟨fun b o _ h => .inl (s b o h), fun b h z => h (s.free z), fun _ h => .inl h, fun b h => h.elim .inl fun q => .inr (by rw [q]; exact n), fun _ h => .inl h⟩
theorem EH.plus {G : Gh} {w : Wd} {H' : Hp} {a : Addr} (h : EH G w) (s : Same w.H H') (n : w.H a = none) (t : H' a ≠ none) : EH G (Wd.plus ⟨H', w.M, w.C⟩ a) :=
  ⟨(h.same s).kp, fun b m => .inl (h.m0 b m), h.nc, h.cp, fun b c => .inl (h.cm b c), fun b m => m.elim ((h.same s).md b) fun q => by rw [q]; exact t, (h.same s).hd, fun p hp => (h.gk p hp).st ((Ext.plus s n).st h.cm), (h.same s).si⟩
/-- a pure step's end -/
theorem Fin.pure {G : Gh} {b : Nat} {σ : L2.St} {env : Ev} {w : Wd} {Q : VK} {P : Dv → Prop} (f : Fin G b σ env w Q P) (er : ER (G.at b) w env σ) {d : D} (p : P (mkDv d)) {v : V} {H' : Hp} (s : Same w.H H') (r : VN w H' v d) : Q v H' := by
  have nm : ∀ a, w.H a = none → ¬ w.M a := fun a z m => er.md a m z
  cases d with
  | list ds =>
    refine f _ p b ⟨H', w.M, w.C⟩ v (Nat.le_refl _) (er.same s) (Ext.same s) ?_
    obtain ⟨a, q, z, o⟩ := r
    exact ⟨a, q, z, ⟨fun t => (nomatch t), fun m => (nm a z m).elim⟩, fun c => nm a z (er.cm a c), o⟩
  | dict ds =>
    obtain ⟨a, q, z, o⟩ := r
    have t : H' a ≠ none := by cases o with | dK h _ _ => (rw [show H' a = some _ from h]; simp) | dT h _ _ => (rw [show H' a = some _ from h]; simp)
    refine f _ p b (Wd.plus ⟨H', w.M, w.C⟩ a) v (Nat.le_refl _) (er.ext' (Ext.plus s z) (er.toEH.plus s z t)) (Ext.plus s z) ?_
    have st : St1 (Wd.plus ⟨H', w.M, w.C⟩ a) (Wd.plus (Wd.plus ⟨H', w.M, w.C⟩ a) a) := ⟨fun b x nb h => .inl h, fun b m => m.elim (fun m => .inl m) fun q => .inl (.inr q)⟩
    exact ⟨a, q, z, ⟨fun _ => .inr rfl, fun _ => rfl⟩, fun c => nm a z (er.cm a c), o.st st rfl⟩
  | none => exact f _ p b ⟨H', w.M, w.C⟩ v (Nat.le_refl _) (er.same s) (Ext.same s) r
  | bool _ => exact f _ p b ⟨H', w.M, w.C⟩ v (Nat.le_refl _) (er.same s) (Ext.same s) r
  | int _ => exact f _ p b ⟨H', w.M, w.C⟩ v (Nat.le_refl _) (er.same s) (Ext.same s) r
  | str _ => exact f _ p b ⟨H', w.M, w.C⟩ v (Nat.le_refl _) (er.same s) (Ext.same s) r
  | tuple _ => exact f _ p b ⟨H', w.M, w.C⟩ v (Nat.le_refl _) (er.same s) (Ext.same s) r
theorem Fin.rp {G : Gh} {b : Nat} {σ : L2.St} {env : Ev} {w : Wd} {Q : VK} {P : Dv → Prop} (f : Fin G b σ env w Q P) (er : ER (G.at b) w env σ) {d : D} (p : P (.fz d)) {v : V} {H' : Hp} (s : Same w.H H') (r : Rp ⟨H', w.M, w.C⟩ v d) : Q v H' :=
  f _ p b ⟨H', w.M, w.C⟩ v (Nat.le_refl _) (er.same s) (Ext.same s) r
theorem st_new {w : Wd} {p : Addr} {o : HO} (n : w.H p = none) : St1 w (Wd.plus ⟨upd w.H p o, w.M, w.C⟩ p) := ⟨fun b x _ h => .inl (by
  show upd w.H p o b = some x
  rw [upd_ne (ne_of_none h n)]; exact h), fun b m => m.elim .inl fun q => .inr (by rw [q]; exact n)⟩
/-! ### names and constants -/
def Sl.dv : Sl → Option Dv
  | .no => none
  | .fz d => some (.fz d)
  | .raw v => some (.raw v)
  | .own d => some (.ow d)
  | .bw d => some (.bw d)
def wName (i : Nat) : WE := fun env P => ∃ dv, (env[i]?).bind Sl.dv = some dv ∧ P dv
def wC (dv : Dv) : WE := fun _ P => P dv
section
variable {X : Cx} {G : Gh} {a b : Expr} {wa wb : WE} {ca cb : Nat} {pos : Pos}
theorem SlR.vr {w : Wd} {Hs : Hp} {ov : Option V} {s : Sl} {dv : Dv} (h : SlR G w ov s) (e : s.dv = some dv) : ∃ v, ov = some v ∧ VR G Hs w v dv := by
  cases s with
  | no => cases e
  | fz d => cases e; exact h
  | raw v => cases e; exact ⟨v, h, rfl⟩
  | own d => cases e; obtain ⟨a, q, m, n, p, z, o⟩ := h; exact ⟨_, q, a, rfl, m, z, p, n, o⟩
  | bw d => cases e; obtain ⟨a, q, m, n, p, o⟩ := h; exact ⟨_, q, a, rfl, m, n, o⟩
theorem de_name (i : Nat) {x : Str} (hN : X.N[i]? = some x := by rfl) (hv : Vis X.env.scope x := by first | exact Or.inl rfl | exact Or.inr (Or.inl rfl) | exact Or.inr (Or.inr rfl)) (hd : (x == ("__debug__" : Str)) = false := by decide)
    (hcd : (x == ("__classdict__" : Str)) = false := by decide) : DE X G (.Name x pos) (wName i) 0 := by
  refine PE_imp (pe_var hN hv hd hcd) fun σ H Q h => ?_
  obtain ⟨env, M, C, b0, P, hb0, er, ⟨dv, e, p⟩, hf⟩ := h
  cases q : env[i]? with
  | none => rw [q] at e; cases e
  | some s =>
    rw [q] at e
    have hi : i < σ.length := by
      have := er.len
      have := (List.getElem?_eq_some_iff.mp q).1
      omega
    obtain ⟨v, hv, r⟩ := SlR.vr (Hs := H) (er.sl i s σ[i] q (List.getElem?_eq_getElem hi)) e
    refine ⟨v, ?_, Fin.now (b := b0) (w := ⟨H, M, C⟩) hf p er r⟩
    rw [List.getElem?_eq_getElem hi, hv]
theorem de_const {e : Expr} {v : V} {d : D} (h : PE X e (tC v)) (r : ∀ w, Rp w v d) : DE X G e (wC (.fz d)) 0 :=
  PE_imp h fun σ H Q h => by
    obtain ⟨env, M, C, b0, P, hb0, er, p, hf⟩ := h
    exact Fin.now (b := b0) (w := ⟨H, M, C⟩) hf p er (r _)
theorem de_int {i j} : DE X G (.Constant (.int i) j pos) (wC (.fz (.int i))) 0 := de_const pe_int fun _ => .int i
theorem de_bl {i j} : DE X G (.Constant (.bool i) j pos) (wC (.fz (.bool i))) 0 := de_const pe_bl fun _ => .bl i
theorem de_non {j} : DE X G (.Constant .none j pos) (wC (.fz .none)) 0 := de_const pe_non fun _ => .non
theorem de_str {i j} : DE X G (.Constant (.str i) j pos) (wC (.fz (.str i))) 0 := de_const pe_str fun _ => .str i
theorem de_gint {x : Str} {i : Int} {t : Tok} (hg : Gl X x) (hm : X.mg x = some (.int i t)) (hd : (x == ("__debug__" : Str)) = false := by decide) : DE X G (.Name x pos) (wC (.fz (.int i))) 0 := de_const (pe_glob (v := .int i) hg hm ⟨t, rfl⟩ hd) fun _ => .int i
theorem de_gstr {x : Str} {i : Str} {t : Tok} (hg : Gl X x) (hm : X.mg x = some (.str i t)) (hd : (x == ("__debug__" : Str)) = false := by decide) : DE X G (.Name x pos) (wC (.fz (.str i))) 0 := de_const (pe_glob (v := .str i) hg hm ⟨t, rfl⟩ hd) fun _ => .str i
/-- a name of the module as a bare value: a class, a def -/
theorem de_graw {x : Str} {v : V} {u : Value} (hg : Gl X x) (hm : X.mg x = some u) (r : RelV v u) (hd : (x == ("__debug__" : Str)) = false := by decide) : DE X G (.Name x pos) (wC (.raw v)) 0 :=
  PE_imp (pe_glob hg hm r hd) fun σ H Q h => by
    obtain ⟨env, M, C, b0, P, hb0, er, p, hf⟩ := h
    exact Fin.now (b := b0) (w := ⟨H, M, C⟩) hf p er rfl
theorem de_bltn {x : Str} {v : V} {u : Value} (hg : Gl X x) (hm : X.mg x = none) (hv : bootBuiltins x = some u) (r : RelV v u) (hn : x ≠ "__name__" := by decide) (hd : (x == ("__debug__" : Str)) = false := by decide) : DE X G (.Name x pos) (wC (.raw v)) 0 :=
  PE_imp (pe_bltn hg hm hv r hn hd) fun σ H Q h => by
    obtain ⟨env, M, C, b0, P, hb0, er, p, hf⟩ := h
    exact Fin.now (b := b0) (w := ⟨H, M, C⟩) hf p er rfl

/-! ### operators -/
def k2 (f : D → D → Option D) (x y : Dv) (P : Dv → Prop) : Prop := ∃ d, (x.val.bind fun a => y.val.bind fun b => f a b) = some d ∧ P (mkDv d)
def w2 (f : D → D → Option D) (wa wb : WE) : WE := fun env P => wa env fun x => wb env fun y => k2 f x y P
def Wk (w : Wd) : Prop := ∀ a, w.M a → w.H a ≠ none
def rV2 (f : D → D → Option D) : R2 := fun x y H Q => ∃ w dx dy d, w.H = H ∧ Wk w ∧ Rq w x dx ∧ Rq w y dy ∧ f dx dy = some d ∧ ∀ v H', Same H H' → VN w H' v d → Q v H'
theorem k2.get {f : D → D → Option D} {x y : Dv} {P : Dv → Prop} (h : k2 f x y P) : ∃ dx dy d, x.val = some dx ∧ y.val = some dy ∧ f dx dy = some d ∧ P (mkDv d) := by
  obtain ⟨d, e, p⟩ := h
  cases hx : x.val with
  | none => rw [hx] at e; cases e
  | some dx =>
    cases hy : y.val with
    | none => rw [hx, hy] at e; cases e
    | some dy => rw [hx, hy] at e; exact ⟨dx, dy, d, rfl, rfl, e, p⟩
theorem rd2 {f : D → D → Option D} {σ : L2.St} {H : Hp} {Q : VK} (h : tV G (w2 f wa wb) (ca + cb) σ H Q) : tOp (rV2 f) (tV G wa ca) (tV G wb cb) σ H Q :=
  tV.two h fun env w x y dx dy P er rx ry k hf => by
    obtain ⟨ex, ey, d, h1, h2, h3, p⟩ := k.get
    exact ⟨w, ex, ey, d, rfl, er.md, rx.rq h1, ry.rq h2, h3, fun v H' s r => hf.pure er p s r⟩
theorem de_op {op : Operator} {f : D → D → Option D} (ho : OpR X (binaryOp op) (rV2 f)) (ha : DE X G a wa ca) (hb : DE X G b wb cb) : DE X G (.BinOp a op b pos) (w2 f wa wb) (ca + cb) := PE_imp (pe_op ho ha hb) fun _ _ _ h => rd2 h
theorem de_cmp {op : CmpOp} {f : D → D → Option D} (ho : OpR X (compareOp op) (rV2 f)) (ha : DE X G a wa ca) (hb : DE X G b wb cb) (hm : behindInMarks op b = false) : DE X G (.Compare a [op] [b] pos) (w2 f wa wb) (ca + cb) := PE_imp (pe_cmpR ho ha hb hm) fun _ _ _ h => rd2 h
def wTest (wa : WE) : WT := fun env P => wa env fun x => ∃ k, x = .fz (.bool k) ∧ P k
theorem tT.of {σ : L2.St} {H : Hp} {Q : Bool → Hp → Prop} (h : tT G (wTest wa) ca σ H Q) : tV G wa ca σ H fun x H1 => ∃ k, x = .bl k ∧ Q k H1 := by
  obtain ⟨env, M, C, b0, P, hb0, er, hw, hf⟩ := h
  refine ⟨env, M, C, b0, _, hb0, er, hw, fun dx hx b1 w1 x hb1 er1 e1 r1 => ?_⟩
  obtain ⟨k, rfl, p⟩ := hx
  cases r1
  exact ⟨k, rfl, hf k p b1 w1 hb1 er1 e1⟩
theorem dt_cmp {op : CmpOp} {f : D → D → Option D} (ho : OpR X (compareOp op) (rV2 f)) (ha : DE X G a wa ca) (hb : DE X G b wb cb) (hm : behindInMarks op b = false) : DT X G (.Compare a [op] [b] pos) (wTest (w2 f wa wb)) (ca + cb) :=
  PT_imp (pt_cmpR ho ha hb hm) fun _ _ _ h => rd2 (tT.of h)
/-- an expression that gives a truth value, as a test -/
theorem dt_val {e : Expr} (h : DE X G e wa ca) (he : ∀ whole, isTrue e X.env whole = (do let v ← whole; standAt e.pos; holding [v] (truthy v)) := by intro _; rfl) : DT X G e (wTest wa) ca :=
  PT_imp (pt_val h he) fun _ _ _ h => tT.of h
end

/-! ### and, or, not, if .. else -/
section
variable {X : Cx} {G : Gh} {a b c : Expr} {ta tb : WT} {wa wb : WE} {ca cb cc : Nat} {pos : Pos} {rest : List Expr}
def wNot (t : WT) : WT := fun env P => t env fun b => P (!b)
def wAnd (t u : WT) : WT := fun env P => t env fun b => if b = true then u env P else P false
def wOr (t u : WT) : WT := fun env P => t env fun b => if b = true then P true else u env P
theorem dt_not (ha : DT X G a ta ca) : DT X G (.UnaryOp .Not a pos) (wNot ta) ca := PT_imp (pt_not ha) fun σ H Q h => by
  obtain ⟨env, M, C, b0, P, hb0, er, hw, hf⟩ := h
  exact ⟨env, M, C, b0, _, hb0, er, hw, fun b hb b1 w1 hb1 er1 e1 => hf _ hb b1 w1 hb1 er1 e1⟩
theorem dw_and1 (ha : DT X G a ta ca) : DW X G (.BoolOp .And [a] pos) ta ca := pw_and1 ha
theorem dw_or1 (ha : DT X G a ta ca) : DW X G (.BoolOp .Or [a] pos) ta ca := pw_or1 ha
theorem dw_and (ha : DT X G a ta ca) (hb : DW X G (.BoolOp .And (b :: rest) pos) tb cb) : DW X G (.BoolOp .And (a :: b :: rest) pos) (wAnd ta tb) (ca + cb) := PW_imp (pw_and ha hb) fun σ H Q h => by
  obtain ⟨env, M, C, b0, P, hb0, er, hw, hf⟩ := h
  refine ⟨env, M, C, b0, _, by omega, er, hw, fun k hk b1 w1 hb1 er1 e1 => ?_⟩
  cases k with
  | true =>
    rw [if_pos rfl] at hk ⊢
    exact ⟨env, w1.M, w1.C, b1, P, by omega, er1, hk, fun b' p b2 w' hb2 er' e' => hf b' p b2 w' (by omega) er' (e1.trans e')⟩
  | false =>
    rw [if_neg Bool.false_ne_true] at hk ⊢
    exact hf _ hk b1 w1 (by omega) er1 e1
theorem dw_or (ha : DT X G a ta ca) (hb : DW X G (.BoolOp .Or (b :: rest) pos) tb cb) : DW X G (.BoolOp .Or (a :: b :: rest) pos) (wOr ta tb) (ca + cb) := PW_imp (pw_or ha hb) fun σ H Q h => by
  obtain ⟨env, M, C, b0, P, hb0, er, hw, hf⟩ := h
  refine ⟨env, M, C, b0, _, by omega, er, hw, fun k hk b1 w1 hb1 er1 e1 => ?_⟩
  cases k with
  | false =>
    rw [if_neg Bool.false_ne_true] at hk ⊢
    exact ⟨env, w1.M, w1.C, b1, P, by omega, er1, hk, fun b' p b2 w' hb2 er' e' => hf b' p b2 w' (by omega) er' (e1.trans e')⟩
  | true =>
    rw [if_pos rfl] at hk ⊢
    exact hf _ hk b1 w1 (by omega) er1 e1
/-! .. as values -/
def wNotV (wa : WE) : WE := fun env P => wa env fun x => ∃ k, x = .fz (.bool k) ∧ P (.fz (.bool (!k)))
def wAndV (wa wb : WE) : WE := fun env P => wa env fun x => ∃ k, x = .fz (.bool k) ∧ if k = true then wb env P else P (.fz (.bool false))
def wOrV (wa wb : WE) : WE := fun env P => wa env fun x => ∃ k, x = .fz (.bool k) ∧ if k = true then P (.fz (.bool true)) else wb env P
theorem de_not (ha : DE X G a wa ca) : DE X G (.UnaryOp .Not a pos) (wNotV wa) ca := PE_imp (pe_not ha) fun σ H Q h => by
  obtain ⟨env, M, C, b0, P, hb0, er, hw, hf⟩ := h
  refine ⟨env, M, C, b0, _, by omega, er, hw, fun dv hd b1 w1 v hb1 er1 e1 r1 => ?_⟩
  obtain ⟨k, rfl, p⟩ := hd
  cases r1
  exact ⟨k, rfl, hf _ p b1 w1 _ hb1 er1 e1 (.bl _)⟩
theorem de_one {op} (ha : DE X G a wa ca) : DE X G (.BoolOp op [a] pos) wa ca := pe_one ha
theorem de_and (ha : DE X G a wa ca) (hb : DE X G (.BoolOp .And (b :: rest) pos) wb cb) : DE X G (.BoolOp .And (a :: b :: rest) pos) (wAndV wa wb) (ca + cb) := PE_imp (pe_and ha hb) fun σ H Q h => by
  obtain ⟨env, M, C, b0, P, hb0, er, hw, hf⟩ := h
  refine ⟨env, M, C, b0, _, by omega, er, hw, fun dv hd b1 w1 v hb1 er1 e1 r1 => ?_⟩
  obtain ⟨k, rfl, hk⟩ := hd
  cases r1
  refine ⟨k, rfl, ?_⟩
  cases k with
  | true =>
    rw [if_pos rfl] at hk ⊢
    exact ⟨env, w1.M, w1.C, b1, P, by omega, er1, hk, Fin.ext (w := ⟨H, M, C⟩) hf e1 (by omega)⟩
  | false =>
    rw [if_neg Bool.false_ne_true] at hk ⊢
    exact hf _ hk b1 w1 _ (by omega) er1 e1 (.bl _)
theorem de_or (ha : DE X G a wa ca) (hb : DE X G (.BoolOp .Or (b :: rest) pos) wb cb) : DE X G (.BoolOp .Or (a :: b :: rest) pos) (wOrV wa wb) (ca + cb) := PE_imp (pe_or ha hb) fun σ H Q h => by
  obtain ⟨env, M, C, b0, P, hb0, er, hw, hf⟩ := h
  refine ⟨env, M, C, b0, _, by omega, er, hw, fun dv hd b1 w1 v hb1 er1 e1 r1 => ?_⟩
  obtain ⟨k, rfl, hk⟩ := hd
  cases r1
  refine ⟨k, rfl, ?_⟩
  cases k with
  | false =>
    rw [if_neg Bool.false_ne_true] at hk ⊢
    exact ⟨env, w1.M, w1.C, b1, P, by omega, er1, hk, Fin.ext (w := ⟨H, M, C⟩) hf e1 (by omega)⟩
  | true =>
    rw [if_pos rfl] at hk ⊢
    exact hf _ hk b1 w1 _ (by omega) er1 e1 (.bl _)
def wIf (t : WT) (wa wb : WE) : WE := fun env P => t env fun k => if k = true then wa env P else wb env P
theorem de_if (hc : DT X G c ta cc) (ha : DE X G a wa ca) (hb : DE X G b wb cb) : DE X G (.IfExp c a b pos) (wIf ta wa wb) (cc + (ca + cb)) := PE_imp (pe_ifExp hc ha hb) fun σ H Q h => by
  obtain ⟨env, M, C, b0, P, hb0, er, hw, hf⟩ := h
  refine ⟨env, M, C, b0, _, by omega, er, hw, fun k hk b1 w1 hb1 er1 e1 => ?_⟩
  cases k with
  | true =>
    rw [if_pos rfl] at hk ⊢
    exact ⟨env, w1.M, w1.C, b1, P, by omega, er1, hk, Fin.ext (w := ⟨H, M, C⟩) hf e1 (by omega)⟩
  | false =>
    rw [if_neg Bool.false_ne_true] at hk ⊢
    exact ⟨env, w1.M, w1.C, b1, P, by omega, er1, hk, Fin.ext (w := ⟨H, M, C⟩) hf e1 (by omega)⟩
/-! chains: a op b op' c -/
def wChain (f g : D → D → Option D) (wa wb wc : WE) : WE := fun env P => wa env fun x => wb env fun y => ∃ k, (x.val.bind fun a => y.val.bind fun b => f a b) = some (.bool k) ∧ if k = true then wc env fun z => k2 g y z P else P (.fz (.bool false))
theorem rdChain {wc : WE} {f g : D → D → Option D} {σ : L2.St} {H : Hp} {Q : VK} (h : tV G (wChain f g wa wb wc) (ca + cb + cc) σ H Q) : tChain (rV2 f) (rV2 g) (tV G wa ca) (tV G wb cb) (tV G wc cc) σ H Q :=
  tV.twoX h fun {b0} env w x y dx dy P hb0 er rx ry k hf => by
    obtain ⟨kk, e, hk⟩ := k
    obtain ⟨ex, ey, d, h1, h2, h3, _⟩ := k2.get (P := fun v => v = .fz (.bool kk)) ⟨_, e, rfl⟩
    have hd : d = .bool kk := by
      rw [h1, h2] at e
      exact Option.some.inj (h3.symm.trans e)
    subst hd
    refine ⟨w, ex, ey, _, rfl, er.md, rx.rq h1, ry.rq h2, h3, fun v H' s r => ?_⟩
    cases (show Rp ⟨H', w.M, w.C⟩ v (.bool kk) from r)
    refine ⟨kk, rfl, ?_⟩
    cases kk with
    | false =>
      rw [if_neg Bool.false_ne_true] at hk ⊢
      exact (hf.ext (Ext.refl _) (Nat.le_add_right _ _)).rp er hk s (.bl _)
    | true =>
      rw [if_pos rfl] at hk ⊢
      refine ⟨env, w.M, w.C, b0, _, hb0, er.same s, hk, fun dz hz b3 w3 z hb3 er3 e3 r3 => ?_⟩
      obtain ⟨fy, ez, d, q1, q2, q3, p⟩ := k2.get hz
      have ry3 := ry.ext (Hs' := H) ((Ext.same s).trans e3) er.cm fun _ q => q
      exact ⟨w3, fy, ez, d, rfl, er3.md, ry3.rq q1, r3.rq q2, q3, fun v H'' s' r' => (Fin.ext (Fin.ext hf (Ext.same s) (Nat.le_refl _)) e3 hb3).pure er3 p s' r'⟩
theorem de_chain {op op' : CmpOp} {wc : WE} {f g : D → D → Option D} (ho : OpR X (compareOp op) (rV2 f)) (ho' : OpR X (compareOp op') (rV2 g)) (ha : DE X G a wa ca) (hb : DE X G b wb cb) (hc : DE X G c wc cc)
    (hm : lastMarks [op, op'] [b, c] = false := by with_unfolding_all rfl) : DE X G (.Compare a [op, op'] [b, c] pos) (wChain f g wa wb wc) (ca + cb + cc) := PE_imp (pe_chain ho ho' ha hb hc hm) fun _ _ _ h => rdChain h
theorem dt_chain {op op' : CmpOp} {wc : WE} {f g : D → D → Option D} (ho : OpR X (compareOp op) (rV2 f)) (ho' : OpR X (compareOp op') (rV2 g)) (ha : DE X G a wa ca) (hb : DE X G b wb cb) (hc : DE X G c wc cc)
    (hm : lastMarks [op, op'] [b, c] = false := by with_unfolding_all rfl) : DT X G (.Compare a [op, op'] [b, c] pos) (wTest (wChain f g wa wb wc)) (ca + cb + cc) := PT_imp (pt_chain ho ho' ha hb hc hm) fun _ _ _ h => rdChain (tT.of h)
end
end DL
namespace DL
open PySem PySem.Spec PyProof.Rows L2

/-! ### data without dicts: the layer's own relation -/
mutual
theorem Rp.dp {K : PySem.W.Frag} {w : Wd} : ∀ {d : D} {v : V}, Rp w v d → d.canLay0 = true → Dp K w.H v d
  | .none, _, h, _ => by cases h; exact .non
  | .bool b, _, h, _ => by cases h; exact .bl b
  | .int i, _, h, _ => by cases h; exact .int i
  | .str x, _, h, _ => by cases h; exact .str x
  | .list ds, _, h, c => by
    cases h with
    | lst n r q => exact .lst (SqL.of r) (RpL.dp q c)
  | .tuple ds, _, h, c => by
    cases h with
    | tup n r q => exact .tup (SqT.of r) (RpL.dp q c)
  | .dict _, _, _, c => by cases c
theorem RpL.dp {K : PySem.W.Frag} {w : Wd} : ∀ {ds : List D} {vs : List V}, RpL w vs ds → PyData.canLayAll0 ds = true → DpAll K w.H vs ds
  | [], _, h, _ => by cases h; exact .nil
  | d :: ds, _, h, c => by
    rw [PyData.canLayAll0, Bool.and_eq_true] at c
    cases h with
    | cons a b => exact .cons (Rp.dp a c.1) (RpL.dp b c.2)
end
theorem Rq.dp {K : PySem.W.Frag} {w : Wd} {v : V} {d : D} (h : Rq w v d) (c : d.canLay0 = true) : Dp K w.H v d := by
  cases h with
  | non => exact .non
  | bl b => exact .bl b
  | int b => exact .int b
  | str b => exact .str b
  | lst r q => exact .lst (SqL.of r) (RpL.dp q c)
  | tup _ r q => exact .tup (SqT.of r) (RpL.dp q c)
  | dK _ _ _ => cases c
  | dT _ _ _ => cases c

/-! ### arithmetic -/
def addD : D → D → Option D
  | .int i, .int j => some (.int (i + j))
  | .str a, .str b => if a.length + b.length ≤ sizeLine then some (.str (a ++ b)) else none
  | .list a, .list b => if a.length + b.length ≤ sizeLine then some (.list (a ++ b)) else none
  | .tuple a, .tuple b => if a.length + b.length ≤ sizeLine then some (.tuple (a ++ b)) else none
  | _, _ => none
def subD : D → D → Option D
  | .int i, .int j => some (.int (i - j))
  | _, _ => none
/-- a product: one of both within 64 bits; a list or tuple some times -/
def mulD : D → D → Option D
  | .int i, .int j => if ((-(2 ^ 64) < i ∧ i < 2 ^ 64) ∨ (-(2 ^ 64) < j ∧ j < 2 ^ 64)) then some (.int (i * j)) else none
  | .list a, .int k => if -(2 ^ 63) ≤ k ∧ k < 2 ^ 63 ∧ a.length * k.toNat ≤ sizeLine then some (.list (List.replicate k.toNat a).flatten) else none
  | .tuple a, .int k => if a ≠ [] ∧ 2 ≤ k ∧ k ≤ 1000 ∧ a.length ≤ 1000 then some (.tuple (List.replicate k.toNat a).flatten) else none
  | _, _ => none
def modD : D → D → Option D
  | .int i, .int j => if 0 < j then some (.int (i % j)) else none
  | _, _ => none
def fdivD : D → D → Option D
  | .int i, .int j => if 0 < j ∧ j < 1073741824 then some (.int (i / j)) else none
  | _, _ => none
def negD : D → Option D
  | .int i => some (.int (-i))
  | _ => none
section
variable {X : Cx}
theorem newL {w : Wd} {p : Addr} {xs : List V} {ds : List D} (n : w.H p = none) (r : RpL w xs ds) : VN w (upd w.H p (.lst xs)) (.ref p) (.list ds) :=
  ⟨p, rfl, n, .lst upd_same (r.st (st_new n))⟩
theorem newT {w : Wd} (k : Wk w) {p : Addr} {xs : List V} {ds : List D} (n : w.H p = none) (r : RpL w xs ds) : Rp ⟨upd w.H p (.tup xs), w.M, w.C⟩ (.ref p) (.tuple ds) :=
  .tup (fun m => k p m n) upd_same (r.st (St1.same (same_new n)))
theorem RpL.nil_iff {w : Wd} {xs : List V} {ds : List D} (r : RpL w xs ds) : xs = [] ↔ ds = [] := by
  cases r <;> simp
theorem of_if {c : Prop} [Decidable c] {α : Type} {a b : α} (h : (if c then some a else none) = some b) : c ∧ a = b := by
  by_cases hc : c
  · rw [if_pos hc] at h; exact ⟨hc, Option.some.inj h⟩
  · rw [if_neg hc] at h; cases h
theorem op_addD : OpR X (binaryOp .Add) (rV2 addD) := by
  intro pins s σ H x y v u Q I rx ry ⟨w, dx, dy, d, eH, wk, qx, qy, hf, hq⟩
  subst eH
  cases dx with
  | int i =>
    cases dy with
    | int j =>
      cases qx; cases qy; cases hf
      exact op_add pins s σ _ _ _ v u Q I rx ry ⟨i, j, rfl, rfl, hq _ _ (Same.refl _) (.int _)⟩
    | _ => cases hf
  | str i =>
    cases dy with
    | str j =>
      cases qx; cases qy
      obtain ⟨c, rfl⟩ := of_if hf
      exact op_add_str pins s σ _ _ _ v u Q I rx ry ⟨i, j, rfl, rfl, c, hq _ _ (Same.refl _) (.str _)⟩
    | _ => cases hf
  | list a =>
    cases dy with
    | list b =>
      obtain ⟨c, rfl⟩ := of_if hf
      cases qx with
      | lst h1 r1 =>
        cases qy with
        | lst h2 r2 =>
          exact op_cat pins s σ _ _ _ v u Q I rx ry ⟨_, _, _, _, rfl, rfl, h1, h2, by rw [r1.length, r2.length]; exact c, fun p n => hq _ _ (same_new n) (newL n (r1.append r2))⟩
    | _ => cases hf
  | tuple a =>
    cases dy with
    | tuple b =>
      obtain ⟨c, rfl⟩ := of_if hf
      cases qx with
      | tup n1 h1 r1 =>
        cases qy with
        | tup n2 h2 r2 =>
          refine op_catA pins s σ _ _ _ v u Q I rx ry ⟨_, _, _, _, rfl, rfl, SqT.of h1, SqT.of h2, by rw [r1.length, r2.length]; exact c, fun e => ?_, fun e e' => ?_, fun e e' p n => ?_⟩
          · have z := r1.nil_iff.mp e
            subst z
            exact hq _ _ (Same.refl _) (.tup n2 h2 r2)
          · have z := r2.nil_iff.mp e'
            subst z
            exact hq _ _ (Same.refl _) (by rw [List.append_nil]; exact .tup n1 h1 r1)
          · exact hq _ _ (same_new n) (newT wk n (r1.append r2))
    | _ => cases hf
  | _ => cases dy <;> cases hf
theorem op_subD : OpR X (binaryOp .Sub) (rV2 subD) := by
  intro pins s σ H x y v u Q I rx ry ⟨w, dx, dy, d, eH, wk, qx, qy, hf, hq⟩
  subst eH
  cases dx with
  | int i =>
    cases dy with
    | int j =>
      cases qx; cases qy; cases hf
      exact op_sub pins s σ _ _ _ v u Q I rx ry ⟨i, j, rfl, rfl, hq _ _ (Same.refl _) (.int _)⟩
    | _ => cases hf
  | _ => cases dy <;> cases hf
theorem op_mulD : OpR X (binaryOp .Mult) (rV2 mulD) := by
  intro pins s σ H x y v u Q I rx ry ⟨w, dx, dy, d, eH, wk, qx, qy, hf, hq⟩
  subst eH
  cases dx with
  | int i =>
    cases dy with
    | int j =>
      cases qx; cases qy
      obtain ⟨c, rfl⟩ := of_if hf
      exact op_mul pins s σ _ _ _ v u Q I rx ry ⟨i, j, rfl, rfl, c, hq _ _ (Same.refl _) (.int _)⟩
    | _ => cases hf
  | list a =>
    cases dy with
    | int k =>
      obtain ⟨⟨c1, c2, c3⟩, rfl⟩ := of_if hf
      cases qy
      cases qx with
      | lst h1 r1 => exact op_rep pins s σ _ _ _ v u Q I rx ry ⟨_, k, _, rfl, rfl, h1, c1, c2, by rw [r1.length]; exact c3, fun p n => hq _ _ (same_new n) (newL n (r1.rep _))⟩
    | _ => cases hf
  | tuple a =>
    cases dy with
    | int k =>
      cases qy
      cases qx with
      | tup n1 h1 r1 =>
        by_cases hc : a ≠ [] ∧ 2 ≤ k ∧ k ≤ 1000 ∧ a.length ≤ 1000
        · have e : d = .tuple (List.replicate k.toNat a).flatten := by
            simp only [mulD, if_pos hc] at hf
            exact (Option.some.inj hf).symm
          subst e
          exact op_repT pins s σ _ _ _ v u Q I rx ry ⟨_, k, _, rfl, rfl, SqT.of h1, fun z => hc.1 (r1.nil_iff.mp z), hc.2.1, hc.2.2.1, by rw [r1.length]; exact hc.2.2.2, fun p n => hq _ _ (same_new n) (newT wk n (r1.rep _))⟩
        · simp only [mulD, if_neg hc] at hf
          cases hf
    | _ => cases hf
  | _ => cases dy <;> cases hf
theorem op_modD : OpR X (binaryOp .Mod) (rV2 modD) := by
  intro pins s σ H x y v u Q I rx ry ⟨w, dx, dy, d, eH, wk, qx, qy, hf, hq⟩
  subst eH
  cases dx with
  | int i =>
    cases dy with
    | int j =>
      cases qx; cases qy
      obtain ⟨c, rfl⟩ := of_if hf
      exact op_mod pins s σ _ _ _ v u Q I rx ry ⟨i, j, rfl, rfl, c, hq _ _ (Same.refl _) (.int _)⟩
    | _ => cases hf
  | _ => cases dy <;> cases hf
theorem op_fdivD : OpR X (binaryOp .FloorDiv) (rV2 fdivD) := by
  intro pins s σ H x y v u Q I rx ry ⟨w, dx, dy, d, eH, wk, qx, qy, hf, hq⟩
  subst eH
  cases dx with
  | int i =>
    cases dy with
    | int j =>
      cases qx; cases qy
      obtain ⟨c, rfl⟩ := of_if hf
      exact op_fdiv pins s σ _ _ _ v u Q I rx ry ⟨i, j, rfl, rfl, c, hq _ _ (Same.refl _) (.int _)⟩
    | _ => cases hf
  | _ => cases dy <;> cases hf

/-! ### comparisons -/
def eqS : D → D → Option Bool
  | .str x, .str y => some (decide (x = y))
  | _, _ => none
def eqD (a b : D) : Option D := if SeqAt.shaped a = true ∧ SeqAt.shaped b = true then some (.bool (a.eqv b)) else (eqS a b).map fun k => .bool k
def neD (a b : D) : Option D := if SeqAt.shaped a = true ∧ SeqAt.shaped b = true then some (.bool (!a.eqv b)) else (eqS a b).map fun k => .bool (!k)
theorem eqS_get {a b : D} {k : Bool} (h : eqS a b = some k) : ∃ x y, a = .str x ∧ b = .str y ∧ k = decide (x = y) := by
  unfold eqS at h
  split at h
  · cases h; exact ⟨_, _, rfl, rfl, rfl⟩
  · cases h
theorem op_eqDD (hu : X.A.units + 64 < cLine) : OpR X (compareOp .Eq) (rV2 eqD) := by
  intro pins s σ H x y v u Q I rx ry ⟨w, dx, dy, d, eH, wk, qx, qy, hf, hq⟩
  subst eH
  unfold eqD at hf
  by_cases c : SeqAt.shaped dx = true ∧ SeqAt.shaped dy = true
  · rw [if_pos c] at hf; cases hf
    exact op_eqD hu pins s σ _ _ _ v u Q I rx ry ⟨dx, dy, qx.dp (SeqAt.canLay_of_shaped c.1), qy.dp (SeqAt.canLay_of_shaped c.2), c.1, c.2, hq _ _ (Same.refl _) (.bl _)⟩
  · rw [if_neg c] at hf
    obtain ⟨k, h1, rfl⟩ := Option.map_eq_some_iff.mp hf
    obtain ⟨i, j, rfl, rfl, rfl⟩ := eqS_get h1
    cases qx; cases qy
    exact op_eq pins s σ _ _ _ v u Q I rx ry ⟨rfl, by rw [show decide (V.str i = V.str j) = decide (i = j) by simp]; exact hq _ _ (Same.refl _) (.bl _)⟩
theorem op_neDD (hu : X.A.units + 64 < cLine) : OpR X (compareOp .NotEq) (rV2 neD) := by
  intro pins s σ H x y v u Q I rx ry ⟨w, dx, dy, d, eH, wk, qx, qy, hf, hq⟩
  subst eH
  unfold neD at hf
  by_cases c : SeqAt.shaped dx = true ∧ SeqAt.shaped dy = true
  · rw [if_pos c] at hf; cases hf
    exact op_neD hu pins s σ _ _ _ v u Q I rx ry ⟨dx, dy, qx.dp (SeqAt.canLay_of_shaped c.1), qy.dp (SeqAt.canLay_of_shaped c.2), c.1, c.2, hq _ _ (Same.refl _) (.bl _)⟩
  · rw [if_neg c] at hf
    obtain ⟨k, h1, rfl⟩ := Option.map_eq_some_iff.mp hf
    obtain ⟨i, j, rfl, rfl, rfl⟩ := eqS_get h1
    cases qx; cases qy
    exact op_ne pins s σ _ _ _ v u Q I rx ry ⟨rfl, by rw [show decide (V.str i = V.str j) = decide (i = j) by simp]; exact hq _ _ (Same.refl _) (.bl _)⟩
theorem eq_strs (x y : Str) : eqD (.str x) (.str y) = some (.bool (decide (x = y))) := by
  unfold eqD
  by_cases c : SeqAt.shaped (.str x) = true ∧ SeqAt.shaped (.str y) = true
  · rw [if_pos c]
    congr 2
  · rw [if_neg c]; rfl
theorem ne_strs (x y : Str) : neD (.str x) (.str y) = some (.bool (!decide (x = y))) := by
  unfold neD
  by_cases c : SeqAt.shaped (.str x) = true ∧ SeqAt.shaped (.str y) = true
  · rw [if_pos c]
    congr 3
  · rw [if_neg c]; rfl
/-- the ints of a tuple of ints -/
def intsOf : List D → Option (List Int)
  | [] => some []
  | .int i :: r => (intsOf r).map (i :: ·)
  | _ :: _ => none
theorem intsOf_rp {w : Wd} : ∀ {ds : List D} {vs : List V} {ns : List Int}, intsOf ds = some ns → RpL w vs ds → vs = ns.map V.int
  | [], _, _, e, r => by cases e; cases r; rfl
  | d :: ds, _, ns, e, r => by
    cases d with
    | int i =>
      simp only [intsOf, Option.map_eq_some_iff] at e
      obtain ⟨ms, e1, rfl⟩ := e
      cases r with
      | cons a b =>
        cases a
        rw [intsOf_rp e1 b]
        rfl
    | _ => cases e
def ltD : D → D → Option D
  | .int i, .int j => some (.bool (decide (i < j)))
  | .str i, .str j => some (.bool (decide (i.cps.toList < j.cps.toList)))
  | .tuple a, .tuple b => match intsOf a, intsOf b with
    | some ns, some ms => some (.bool (HT.lexLt ns ms))
    | _, _ => none
  | _, _ => none
def cmpI (p : Int → Int → Bool) : D → D → Option D
  | .int i, .int j => some (.bool (p i j))
  | _, _ => none
def leD : D → D → Option D := cmpI fun i j => decide (i ≤ j)
def gtD : D → D → Option D := cmpI fun i j => decide (j < i)
def geD : D → D → Option D := cmpI fun i j => decide (j ≤ i)
theorem op_cmpI {op : CmpOp} {p : Int → Int → Bool} (ho : OpR X (compareOp op) (rI0 fun i j => .bl (p i j))) : OpR X (compareOp op) (rV2 (cmpI p)) := by
  intro pins s σ H x y v u Q I rx ry ⟨w, dx, dy, d, eH, wk, qx, qy, hf, hq⟩
  subst eH
  cases dx with
  | int i =>
    cases dy with
    | int j =>
      cases qx; cases qy; cases hf
      exact ho pins s σ _ _ _ v u Q I rx ry ⟨i, j, rfl, rfl, hq _ _ (Same.refl _) (.bl _)⟩
    | _ => cases hf
  | _ => cases dy <;> cases hf
theorem op_leD : OpR X (compareOp .LtE) (rV2 leD) := op_cmpI op_le
theorem op_gtD : OpR X (compareOp .Gt) (rV2 gtD) := op_cmpI op_gt
theorem op_geD : OpR X (compareOp .GtE) (rV2 geD) := op_cmpI op_ge
theorem op_ltD (hu : X.A.units < cLine) : OpR X (compareOp .Lt) (rV2 ltD) := by
  intro pins s σ H x y v u Q I rx ry ⟨w, dx, dy, d, eH, wk, qx, qy, hf, hq⟩
  subst eH
  cases dx with
  | int i =>
    cases dy with
    | int j =>
      cases qx; cases qy; cases hf
      exact op_lt pins s σ _ _ _ v u Q I rx ry ⟨i, j, rfl, rfl, hq _ _ (Same.refl _) (.bl _)⟩
    | _ => cases hf
  | str i =>
    cases dy with
    | str j =>
      cases qx; cases qy; cases hf
      exact op_lt_str pins s σ _ _ _ v u Q I rx ry ⟨i, j, rfl, rfl, hq _ _ (Same.refl _) (.bl _)⟩
    | _ => cases hf
  | tuple a =>
    cases dy with
    | tuple b =>
      cases ha : intsOf a with
      | none => simp only [ltD, ha] at hf; cases hf
      | some ns =>
        cases hb : intsOf b with
        | none => simp only [ltD, ha, hb] at hf; cases hf
        | some ms =>
          simp only [ltD, ha, hb] at hf
          cases hf
          cases qx with
          | tup n1 h1 r1 =>
            cases qy with
            | tup n2 h2 r2 =>
              have e1 := intsOf_rp ha r1
              have e2 := intsOf_rp hb r2
              subst e1 e2
              exact op_ltT hu pins s σ _ _ _ v u Q I rx ry ⟨_, _, ns, ms, rfl, rfl, SqT.of h1, SqT.of h2, hq _ _ (Same.refl _) (.bl _)⟩
    | _ => cases hf
  | _ => cases dy <;> cases hf
/-- is, is not: None on the right, or two truth values -/
def isNone : D → Bool
  | .none => true
  | _ => false
def isD : D → D → Option D
  | .bool a, .bool b => some (.bool (a == b))
  | d, .none => some (.bool (isNone d))
  | _, _ => none
def isNotD : D → D → Option D
  | .bool a, .bool b => some (.bool (!(a == b)))
  | d, .none => some (.bool (!isNone d))
  | _, _ => none
theorem Rq.isN {w : Wd} {v : V} {d : D} (h : Rq w v d) : decide (v = .non) = isNone d := by
  cases h <;> rfl
theorem op_isD : OpR X (compareOp .Is) (rV2 isD) := by
  intro pins s σ H x y v u Q I rx ry ⟨w, dx, dy, d, eH, wk, qx, qy, hf, hq⟩
  subst eH
  cases dy with
  | none =>
    cases qy
    have e : d = .bool (isNone dx) := by cases dx <;> (cases hf; rfl)
    subst e
    refine op_isN pins s σ _ _ _ v u Q I rx ry ⟨rfl, ?_⟩
    rw [qx.isN]
    exact hq _ _ (Same.refl _) (.bl _)
  | bool b =>
    cases dx with
    | bool a =>
      cases qx; cases qy; cases hf
      refine op_is_bl pins s σ _ _ _ v u Q I rx ry ⟨a, b, rfl, rfl, ?_⟩
      have := hq (.bl (a == b)) _ (Same.refl _) (.bl _)
      rwa [← Bool.beq_eq_decide_eq]
    | _ => cases hf
  | _ => cases dx <;> cases hf
theorem op_isNotD : OpR X (compareOp .IsNot) (rV2 isNotD) := by
  intro pins s σ H x y v u Q I rx ry ⟨w, dx, dy, d, eH, wk, qx, qy, hf, hq⟩
  subst eH
  cases dy with
  | none =>
    cases qy
    have e : d = .bool (!isNone dx) := by cases dx <;> (cases hf; rfl)
    subst e
    refine op_notN pins s σ _ _ _ v u Q I rx ry ⟨rfl, ?_⟩
    rw [qx.isN]
    exact hq _ _ (Same.refl _) (.bl _)
  | bool b =>
    cases dx with
    | bool a =>
      cases qx; cases qy; cases hf
      refine op_isnot_bl pins s σ _ _ _ v u Q I rx ry ⟨a, b, rfl, rfl, ?_⟩
      have := hq (.bl (!(a == b))) _ (Same.refl _) (.bl _)
      rwa [← Bool.beq_eq_decide_eq]
    | _ => cases hf
  | _ => cases dx <;> cases hf
end
end DL
namespace DL
open PySem PySem.Spec PyProof.Rows L2

/-! ### dicts as lists of pairs of data -/
def dlook (es : List (D × D)) (k : D) : Option D := (es.find? fun p => p.1.eqv k).map (·.2)
def dput (es : List (D × D)) (k v : D) : List (D × D) := if (es.any fun p => p.1.eqv k) = true then es.map (fun p => if p.1.eqv k = true then (p.1, v) else p) else es ++ [(k, v)]
def tD (ks : List Key) : D := .tuple (ks.map kD)
theorem kD_eqv (a b : Key) : (kD a).eqv (kD b) = decide (a = b) := by
  cases a with
  | inl i =>
    cases b with
    | inl j =>
      show (i == j) = _
      by_cases h : i = j
      · subst h; simp
      · rw [decide_eq_false fun z => h (Sum.inl.inj z)]; exact beq_eq_false_iff_ne.mpr h
    | inr y => rw [decide_eq_false fun z => nomatch z]; simp [kD, PyData.eqv]
  | inr x =>
    cases b with
    | inl j => rw [decide_eq_false fun z => nomatch z]; simp [kD, PyData.eqv]
    | inr y =>
      simp only [kD, PyData.eqv]
      by_cases h : x = y
      · subst h; simp
      · rw [decide_eq_false fun z => h (Sum.inr.inj z)]; exact beq_eq_false_iff_ne.mpr h
theorem tD_eqvAll : ∀ a b : List Key, PyData.eqvAll (a.map kD) (b.map kD) = decide (a = b)
  | [], [] => by simp [PyData.eqvAll]
  | [], _ :: _ => by simp [PyData.eqvAll]
  | _ :: _, [] => by simp [PyData.eqvAll]
  | x :: a, y :: b => by
    simp only [List.map_cons, PyData.eqvAll, kD_eqv, tD_eqvAll a b]
    by_cases h1 : x = y <;> by_cases h2 : a = b <;> simp [h1, h2]
theorem tD_eqv (a b : List Key) : (tD a).eqv (tD b) = decide (a = b) := by simp only [tD, PyData.eqv, tD_eqvAll]
section
variable {κ : Type} [DecidableEq κ] {enc : κ → D} (he : ∀ a b, (enc a).eqv (enc b) = decide (a = b)) {w : Wd}
include he
theorem look_of : ∀ (kvs : List (κ × V)) (es : List (D × D)) (k : κ), es.map (·.1) = kvs.map (fun p => enc p.1) → RpL w (kvs.map (·.2)) (es.map (·.2)) →
    (∃ v d, valV kvs k = some v ∧ dlook es (enc k) = some d ∧ Rp w v d) ∨ (valV kvs k = none ∧ dlook es (enc k) = none)
  | [], es, k, e, _ => by
    cases es with
    | nil => exact .inr ⟨rfl, rfl⟩
    | cons p r => simp at e
  | (k', v) :: kvs, es, k, e, r => by
    cases es with
    | nil => simp at e
    | cons p es =>
      obtain ⟨pk, pd⟩ := p
      simp only [List.map_cons, List.cons.injEq] at e
      obtain ⟨e1, e2⟩ := e
      subst e1
      cases r with
      | cons r1 r2 =>
        by_cases h : k' = k
        · refine .inl ⟨v, pd, valV_pos h, ?_, r1⟩
          simp [dlook, List.find?_cons, he, h]
        · have q := look_of kvs es k e2 r2
          rw [valV_neg (p := (k', v)) h]
          have z : dlook ((enc k', pd) :: es) (enc k) = dlook es (enc k) := by simp [dlook, List.find?_cons, he, h]
          rw [z]
          exact q
theorem any_of : ∀ (kvs : List (κ × V)) (es : List (D × D)) (k : κ), es.map (·.1) = kvs.map (fun p => enc p.1) → (es.any fun p => p.1.eqv (enc k)) = kvs.any fun p => decide (p.1 = k)
  | [], es, k, e => by
    cases es with
    | nil => rfl
    | cons p r => simp at e
  | (k', v) :: kvs, es, k, e => by
    cases es with
    | nil => simp at e
    | cons p es =>
      obtain ⟨pk, pd⟩ := p
      simp only [List.map_cons, List.cons.injEq] at e
      obtain ⟨e1, e2⟩ := e
      subst e1
      simp only [List.any_cons, he, any_of kvs es k e2]
theorem put_keys (kvs : List (κ × V)) (es : List (D × D)) (k : κ) (v : V) (d : D) (e : es.map (·.1) = kvs.map (fun p => enc p.1)) : (dput es (enc k) d).map (·.1) = (putK kvs k v).map (fun p => enc p.1) := by
  unfold dput putK
  rw [any_of he kvs es k e]
  by_cases h : (kvs.any fun p => decide (p.1 = k)) = true
  · rw [if_pos h, if_pos h, List.map_map, List.map_map]
    have a : ((fun p : D × D => p.1) ∘ fun p => if p.1.eqv (enc k) = true then (p.1, d) else p) = fun p => p.1 := by funext p; simp only [Function.comp]; split <;> rfl
    have b : ((fun p : κ × V => enc p.1) ∘ fun p => if p.1 = k then (p.1, v) else p) = fun p => enc p.1 := by funext p; simp only [Function.comp]; split <;> rfl
    rw [a, b, e]
  · rw [if_neg h, if_neg h, List.map_append, List.map_append, e]
    rfl
theorem put_vals {v : V} {d : D} (r : Rp w v d) (kvs : List (κ × V)) (es : List (D × D)) (k : κ) (e : es.map (·.1) = kvs.map (fun p => enc p.1)) (q : RpL w (kvs.map (·.2)) (es.map (·.2))) : RpL w ((putK kvs k v).map (·.2)) ((dput es (enc k) d).map (·.2)) := by
  unfold dput putK
  rw [any_of he kvs es k e]
  by_cases h : (kvs.any fun p => decide (p.1 = k)) = true
  · rw [if_pos h, if_pos h]
    clear h
    induction kvs generalizing es with
    | nil =>
      cases es with
      | nil => exact .nil
      | cons p r => simp at e
    | cons p kvs ih =>
      cases es with
      | nil => simp at e
      | cons p' es =>
        obtain ⟨k', v'⟩ := p
        obtain ⟨pk, pd⟩ := p'
        simp only [List.map_cons, List.cons.injEq] at e
        obtain ⟨e1, e2⟩ := e
        subst e1
        cases q with
        | cons q1 q2 =>
          have t := ih es e2 q2
          simp only [List.map_cons, he]
          by_cases z : k' = k
          · simp only [z, decide_true, if_true]
            exact .cons r t
          · simp only [z, decide_false, if_false]
            exact .cons q1 t
  · rw [if_neg h, if_neg h, List.map_append, List.map_append]
    exact q.append (.cons r .nil)
end
/-- the key of a dict: an int or a text; a tuple of such -/
def keyD? : D → Option Key
  | .int i => some (.inl i)
  | .str x => some (.inr x)
  | _ => none
def keysD? : List D → Option (List Key)
  | [] => some []
  | d :: r => (keyD? d).bind fun k => (keysD? r).map (k :: ·)
theorem keyD?_eq {d : D} {k : Key} (h : keyD? d = some k) : d = kD k := by
  cases d <;> first | (cases h; rfl) | cases h
theorem keysD?_eq : ∀ {ds : List D} {ks : List Key}, keysD? ds = some ks → ds = ks.map kD
  | [], _, h => by cases h; rfl
  | d :: r, ks, h => by
    simp only [keysD?, Option.bind_eq_some_iff, Option.map_eq_some_iff] at h
    obtain ⟨k, h1, ks', h2, rfl⟩ := h
    rw [keyD?_eq h1, keysD?_eq h2]
    rfl
theorem Rq.key {w : Wd} {v : V} {k : Key} (h : Rq w v (kD k)) : v = kV k := by
  cases k with
  | inl i => cases h; rfl
  | inr x => cases h; rfl
theorem Rp.key {w : Wd} {v : V} {k : Key} (h : Rp w v (kD k)) : v = kV k := by
  cases k with
  | inl i => cases h; rfl
  | inr x => cases h; rfl
theorem RpL.keys {w : Wd} : ∀ {ks : List Key} {vs : List V}, RpL w vs (ks.map kD) → vs = ks.map kV
  | [], _, h => by cases h; rfl
  | k :: ks, _, h => by
    cases h with
    | cons a b => rw [a.key, RpL.keys b]; rfl
/-! the empty dict takes keys of both kinds -/
section
variable {X : Cx} {pins : List (Addr × Obj)} {σ : L2.St} {H : Hp} {s : Shared} {a b : Addr} {A : Around} {E : Value → Shared → Prop}
theorem dK0 (I : Inv X pins σ H s) (e : Rd H a (.dK [])) : (a == sysModules) = false ∧ s.heap.DictOfH (tupleKind (mixKind X.prog X.w)) a [] := by
  obtain ⟨_, hd, vs, rel, o, es, ep, h1, h2, h3, h4, h5, h6⟩ := dk_rd I.hok e
  cases rel
  have z : es.toList = [] := by
    generalize es.toList = l at h5
    cases h5; rfl
  exact ⟨hd, o, es, ep, h1, h2, h3, z, fun x hx => (List.not_mem_nil hx).elim, List.nodup_nil⟩
theorem dT0 (I : Inv X pins σ H s) (e : Rd H a (.dT [])) : (a == sysModules) = false ∧ s.heap.DictOf (mixKind X.prog X.w) a [] := by
  obtain ⟨_, hd, xs, rel, o, es, ep, h1, h2, h3, h4, h5, h6⟩ := dt_rd I.hok e
  cases rel
  have z : es = #[] := by simpa using h4
  subst z
  exact ⟨hd, o, #[], ep, h1, h2, h3, fun e he => by simp at he, Pairs.nil, List.nodup_nil⟩
/-- what the dict at a has at the key y, the empty one of any kind -/
def DG (H : Hp) (a : Addr) (y : V) (r : Option V) : Prop :=
  DGet H a y r ∨ (Rd H a (.dK []) ∧ (∃ (b : Addr) (k : List Key), y = .ref b ∧ H b = some (.tup (k.map kV))) ∧ r = none) ∨ (Rd H a (.dT []) ∧ (∃ k : Key, y = kV k) ∧ r = none)
theorem g_in {y : V} {u : Value} {o : Option V} {Q : Value → Shared → Prop} (hu : A.units + 1 < cLine) (I : Inv X pins σ H s) (g : DG H a y o) (ry : RelV y u) (h : ∀ s', Inv X pins σ H s' → Q (.bool o.isSome) s') :
    wpAny (model X.prog X.w) A (compareOp .In u (.ref a)) Q E s := by
  rcases g with g | ⟨e, ⟨b, k, rfl, eb⟩, rfl⟩ | ⟨e, ⟨k, rfl⟩, rfl⟩
  · exact d_in hu I g ry h
  · cases (show u = Value.ref b from ry)
    obtain ⟨hd, dd⟩ := dK0 I e
    exact wpAny_in_heap (tupleKind_room_in1 hu) (key_of I.hok eb) hd dd (h _ (I.tok _))
  · obtain ⟨hd, dd⟩ := dT0 I e
    exact wpAny_in_of (kV_is ry) hd dd.mapOf (h _ (I.tok _))
theorem g_notIn {y : V} {u : Value} {o : Option V} {Q : Value → Shared → Prop} (hu : A.units + 1 < cLine) (I : Inv X pins σ H s) (g : DG H a y o) (ry : RelV y u) (h : ∀ s', Inv X pins σ H s' → Q (.bool (!o.isSome)) s') :
    wpAny (model X.prog X.w) A (compareOp .NotIn u (.ref a)) Q E s := by
  rcases g with g | ⟨e, ⟨b, k, rfl, eb⟩, rfl⟩ | ⟨e, ⟨k, rfl⟩, rfl⟩
  · exact d_notIn hu I g ry h
  · cases (show u = Value.ref b from ry)
    obtain ⟨hd, dd⟩ := dK0 I e
    exact wpAny_notIn_heap (tupleKind_room_in1 hu) (key_of I.hok eb) hd dd (h _ (I.tok _))
  · obtain ⟨hd, dd⟩ := dT0 I e
    exact wpAny_notIn_of (kV_is ry) hd dd.mapOf (h _ (I.tok _))
theorem g_get2 {y d : V} {u r : Value} {o : Option V} {Q : Value → Shared → Prop} (hu : A.units + 1 < cLine) (I : Inv X pins σ H s) (g : DG H a y o) (ry : RelV y u) (rd : RelV d r) (h : ∀ w' s', Inv X pins σ H s' → RelV (o.getD d) w' → Q w' s') :
    wpAny (model X.prog X.w) A (call (.builtin "dict.get") [.ref a, u, r]) Q E s := by
  rcases g with g | ⟨e, ⟨b, k, rfl, eb⟩, rfl⟩ | ⟨e, ⟨k, rfl⟩, rfl⟩
  · exact d_get2 hu I g ry rd h
  · cases (show u = Value.ref b from ry)
    obtain ⟨hd, dd⟩ := dK0 I e
    exact call_meetsIn PySem.F.slot_dict_get dd.typeIs PySem.F.entry_dict_get (PySem.F.args_dict_get_3 _ _ _) (meetsH_dict_get_default (tupleKind (mixKind X.prog X.w)) a b hd r) ⟨tupleKind_room_in1 hu, k, [], key_of I.hok eb, dd, h _ _ (I.tok _) rd⟩
  · obtain ⟨hd, dd⟩ := dT0 I e
    exact call_meetsIn PySem.F.slot_dict_get dd.typeIs PySem.F.entry_dict_get (PySem.F.args_dict_get_3 _ _ _) (meets_dict_get_default (mixKind X.prog X.w) a (kV_is ry) hd r) ⟨_, dd.mapOf, h _ _ (I.tok _) rd⟩
end
def isT : D → Bool
  | .tuple _ => true
  | _ => false
/-- a look for the key k: some r if the key is of a kind that the dict's keys are of -/
def dfind (es : List (D × D)) (k : D) : Option (Option D) :=
  match k with
  | .tuple ds => (keysD? ds).bind fun _ => if (es.all fun p => isT p.1) = true then some (dlook es k) else none
  | d => (keyD? d).bind fun _ => if (es.all fun p => !isT p.1) = true then some (dlook es k) else none
theorem dfind_dg {w : Wd} {a : Addr} {v : V} {es : List (D × D)} {k : D} {r : Option D} (h : Rq w (.ref a) (.dict es)) (hk : Rq w v k) (e : dfind es k = some r) :
    (∃ u d, DG w.H a v (some u) ∧ r = some d ∧ Rp w u d) ∨ (DG w.H a v none ∧ r = none) := by
  have notT : ∀ q : Key, isT (kD q) = false := fun q => by cases q <;> rfl
  have plain : ∀ q : Key, k = kD q → dfind es k = (if (es.all fun p => !isT p.1) = true then some (dlook es k) else none) := fun q z => by subst z; cases q <;> rfl
  cases hT : isT k with
  | true =>
    cases k with
    | tuple ds =>
      simp only [dfind, Option.bind_eq_some_iff] at e
      obtain ⟨ks, e1, e⟩ := e
      obtain ⟨c, rfl⟩ := of_if e
      have e2 := keysD?_eq e1
      subst e2
      cases hk with
      | @tup b xs _ nb hb rb =>
        have ex := RpL.keys rb
        subst ex
        cases h with
        | @dK _ kvs _ hr hks hvs =>
          cases es with
          | nil =>
            cases kvs with
            | nil => exact .inr ⟨.inr (.inl ⟨hr, ⟨b, ks, rfl, hb⟩, rfl⟩), rfl⟩
            | cons p r => simp at hks
          | cons p es =>
            cases kvs with
            | nil => simp at hks
            | cons q kvs =>
              simp only [List.map_cons, List.cons.injEq] at hks
              simp only [List.all_cons, Bool.and_eq_true, hks.1, notT] at c
              cases c.1
        | @dT _ kvs _ hr hks hvs =>
          rcases look_of (enc := tD) tD_eqv kvs es ks hks hvs with ⟨u, d, g1, g2, g3⟩ | ⟨g1, g2⟩
          · exact .inl ⟨u, d, .inl (.inr ⟨kvs, ks, b, hr, rfl, hb, g1.symm⟩), g2, g3⟩
          · exact .inr ⟨.inl (.inr ⟨kvs, ks, b, hr, rfl, hb, g1.symm⟩), g2⟩
    | _ => cases hT
  | false =>
    have hq : ∃ q, k = kD q := by
      cases k with
      | int i => exact ⟨.inl i, rfl⟩
      | str x => exact ⟨.inr x, rfl⟩
      | tuple ds => cases hT
      | none => cases e
      | bool _ => cases e
      | list _ => cases e
      | dict _ => cases e
    obtain ⟨q, rfl⟩ := hq
    rw [plain q rfl] at e
    obtain ⟨c, rfl⟩ := of_if e
    have ev := hk.key
    subst ev
    cases h with
    | @dK _ kvs _ hr hks hvs =>
      rcases look_of (enc := kD) kD_eqv kvs es q hks hvs with ⟨u, d, g1, g2, g3⟩ | ⟨g1, g2⟩
      · exact .inl ⟨u, d, .inl (.inl ⟨kvs, q, hr, rfl, g1.symm⟩), g2, g3⟩
      · exact .inr ⟨.inl (.inl ⟨kvs, q, hr, rfl, g1.symm⟩), g2⟩
    | @dT _ kvs _ hr hks hvs =>
      cases es with
      | nil =>
        cases kvs with
        | nil => exact .inr ⟨.inr (.inr ⟨hr, ⟨q, rfl⟩, rfl⟩), rfl⟩
        | cons p r => simp at hks
      | cons p es =>
        cases kvs with
        | nil => simp at hks
        | cons q' kvs =>
          simp only [List.map_cons, List.cons.injEq] at hks
          simp only [List.all_cons, Bool.and_eq_true, hks.1, isT] at c
          cases c.1

/-! ### in, not in -/
def inD : D → D → Option Bool
  | d, .list ds => if SeqAt.shaped d = true ∧ SeqAt.shaped (.list ds) = true then some (ds.any fun z => z.eqv d) else none
  | d, .tuple ds => if SeqAt.shaped d = true ∧ SeqAt.shaped (.tuple ds) = true then some (ds.any fun z => z.eqv d) else none
  | d, .dict es => (dfind es d).map Option.isSome
  | .str x, .str y => some (!(Builtin.Str.occurrences y x 0 y.length 1).isEmpty)
  | _, _ => none
def inV' (a b : D) : Option D := (inD a b).map fun k => .bool k
def notInV (a b : D) : Option D := (inD a b).map fun k => .bool (!k)
section
variable {X : Cx}
theorem op_inDD (hu : X.A.units + 65 < cLine) : OpR X (compareOp .In) (rV2 inV') := by
  intro pins s σ H x y v u Q I rx ry ⟨w, dx, dy, d, eH, wk, qx, qy, hf, hq⟩
  subst eH
  obtain ⟨k, hk, rfl⟩ := Option.map_eq_some_iff.mp hf
  have fin : Q (.bl k) w.H := hq _ _ (Same.refl _) (.bl _)
  cases dy with
  | list ds =>
    obtain ⟨c, rfl⟩ := of_if (show (if SeqAt.shaped dx = true ∧ SeqAt.shaped (.list ds) = true then some (ds.any fun z => z.eqv dx) else none) = some k by cases dx <;> exact hk)
    exact op_inD hu pins s σ _ _ _ v u Q I rx ry ⟨dx, ds, qx.dp (SeqAt.canLay_of_shaped c.1), qy.dp (SeqAt.canLay_of_shaped c.2), c.1, c.2, fin⟩
  | tuple ds =>
    obtain ⟨c, rfl⟩ := of_if (show (if SeqAt.shaped dx = true ∧ SeqAt.shaped (.tuple ds) = true then some (ds.any fun z => z.eqv dx) else none) = some k by cases dx <;> exact hk)
    obtain ⟨as, r1⟩ := Dp.reads I dx x v (qx.dp (SeqAt.canLay_of_shaped c.1)) rx
    obtain ⟨bs, r2⟩ := Dp.reads I (.tuple ds) y u (qy.dp (SeqAt.canLay_of_shaped c.2)) ry
    exact SeqAt.in_tuple_reads r2 r1 (SeqAt.canLay_of_shaped c.2) (SeqAt.canLay_of_shaped c.1) (room_in_shaped c.1 hu) ⟨.bl _, _, I, rfl, fin⟩
  | dict es =>
    obtain ⟨r, e1, rfl⟩ := Option.map_eq_some_iff.mp (show (dfind es dx).map Option.isSome = some k by cases dx <;> exact hk)
    obtain ⟨a, rfl⟩ : ∃ a, y = .ref a := by cases qy <;> exact ⟨_, rfl⟩
    cases (show u = Value.ref a from ry)
    rcases dfind_dg qy qx e1 with ⟨z, d', g, rfl, _⟩ | ⟨g, rfl⟩
    · exact g_in (by omega) I g rx fun s' I' => ⟨.bl true, _, I', rfl, fin⟩
    · exact g_in (by omega) I g rx fun s' I' => ⟨.bl false, _, I', rfl, fin⟩
  | str j =>
    cases dx with
    | str i =>
      cases qx; cases qy; cases hk
      exact op_in_str pins s σ _ _ _ v u Q I rx ry ⟨i, j, rfl, rfl, fin⟩
    | _ => cases hk
  | _ => cases dx <;> cases hk
theorem op_notInDD (hu : X.A.units + 65 < cLine) : OpR X (compareOp .NotIn) (rV2 notInV) := by
  intro pins s σ H x y v u Q I rx ry ⟨w, dx, dy, d, eH, wk, qx, qy, hf, hq⟩
  subst eH
  obtain ⟨k, hk, rfl⟩ := Option.map_eq_some_iff.mp hf
  have fin : Q (.bl (!k)) w.H := hq _ _ (Same.refl _) (.bl _)
  cases dy with
  | list ds =>
    obtain ⟨c, rfl⟩ := of_if (show (if SeqAt.shaped dx = true ∧ SeqAt.shaped (.list ds) = true then some (ds.any fun z => z.eqv dx) else none) = some k by cases dx <;> exact hk)
    exact op_notInD hu pins s σ _ _ _ v u Q I rx ry ⟨dx, ds, qx.dp (SeqAt.canLay_of_shaped c.1), qy.dp (SeqAt.canLay_of_shaped c.2), c.1, c.2, fin⟩
  | tuple ds =>
    obtain ⟨c, rfl⟩ := of_if (show (if SeqAt.shaped dx = true ∧ SeqAt.shaped (.tuple ds) = true then some (ds.any fun z => z.eqv dx) else none) = some k by cases dx <;> exact hk)
    obtain ⟨as, r1⟩ := Dp.reads I dx x v (qx.dp (SeqAt.canLay_of_shaped c.1)) rx
    obtain ⟨bs, r2⟩ := Dp.reads I (.tuple ds) y u (qy.dp (SeqAt.canLay_of_shaped c.2)) ry
    exact SeqAt.notIn_tuple_reads r2 r1 (SeqAt.canLay_of_shaped c.2) (SeqAt.canLay_of_shaped c.1) (room_in_shaped c.1 hu) ⟨.bl _, _, I, rfl, fin⟩
  | dict es =>
    obtain ⟨r, e1, rfl⟩ := Option.map_eq_some_iff.mp (show (dfind es dx).map Option.isSome = some k by cases dx <;> exact hk)
    obtain ⟨a, rfl⟩ : ∃ a, y = .ref a := by cases qy <;> exact ⟨_, rfl⟩
    cases (show u = Value.ref a from ry)
    rcases dfind_dg qy qx e1 with ⟨z, d', g, rfl, _⟩ | ⟨g, rfl⟩
    · exact g_notIn (by omega) I g rx fun s' I' => ⟨.bl false, _, I', rfl, fin⟩
    · exact g_notIn (by omega) I g rx fun s' I' => ⟨.bl true, _, I', rfl, fin⟩
  | str j =>
    cases dx with
    | str i =>
      cases qx; cases qy; cases hk
      exact op_notIn_str pins s σ _ _ _ v u Q I rx ry ⟨i, j, rfl, rfl, fin⟩
    | _ => cases hk
  | _ => cases dx <;> cases hk

/-! ### subscripts -/
def ixD : D → D → Option D
  | .list ds, .int i => atI ds i
  | .tuple ds, .int i => atI ds i
  | .str z, .int i => if z.length ≤ sizeLine then (atI z.cps.toList i).map fun c => .str ⟨#[c]⟩ else none
  | .dict es, k => (dfind es k).bind id
  | _, _ => none
def kE (f : D → D → Option D) (x y : Dv) (P : Dv → Prop) : Prop := ∃ d, (x.val.bind fun a => y.val.bind fun b => f a b) = some d ∧ P (.fz d)
def wIx (wa wb : WE) : WE := fun env P => wa env fun x => wb env fun y => kE ixD x y P
theorem kE.get {f : D → D → Option D} {x y : Dv} {P : Dv → Prop} (h : kE f x y P) : ∃ dx dy d, x.val = some dx ∧ y.val = some dy ∧ f dx dy = some d ∧ P (.fz d) := by
  obtain ⟨d, e, p⟩ := h
  cases hx : x.val with
  | none => rw [hx] at e; cases e
  | some dx =>
    cases hy : y.val with
    | none => rw [hx, hy] at e; cases e
    | some dy => rw [hx, hy] at e; exact ⟨dx, dy, d, rfl, rfl, e, p⟩
def rE2 (f : D → D → Option D) : R2 := fun x y H Q => ∃ w dx dy d, w.H = H ∧ Rq w x dx ∧ Rq w y dy ∧ f dx dy = some d ∧ ∀ v, Rp w v d → Q v H
theorem atI_rp {w : Wd} {vs : List V} {ds : List D} {i : Int} {d : D} (r : RpL w vs ds) (h : atI ds i = some d) : ∃ v, atI vs i = some v ∧ Rp w v d := by
  unfold atI at h ⊢
  rw [r.length]
  cases e : ixN ds.length i with
  | none => rw [e] at h; cases h
  | some j =>
    rw [e] at h
    obtain ⟨v, h1, h2⟩ := r.get (show ds[j]? = some d from h)
    exact ⟨v, h1, h2⟩
theorem ix_D (hu : X.A.units + 1 < cLine) : IxR X (rE2 ixD) := by
  intro value slice pins s σ H x y v u Q I rx ry ⟨w, dx, dy, d, eH, qx, qy, hf, hq⟩ hs
  subst eH
  cases dx with
  | list ds =>
    cases dy with
    | int i =>
      cases qy
      cases qx with
      | lst h1 r1 =>
        obtain ⟨z, g1, g2⟩ := atI_rp r1 hf
        exact ix_list value slice pins s σ _ _ _ v u Q I rx ry ⟨_, _, i, z, rfl, rfl, SqL.of h1, g1, hq _ g2⟩ hs
    | _ => cases hf
  | tuple ds =>
    cases dy with
    | int i =>
      cases qy
      cases qx with
      | tup n1 h1 r1 =>
        obtain ⟨z, g1, g2⟩ := atI_rp r1 hf
        exact ix_tup value slice pins s σ _ _ _ v u Q I rx ry ⟨_, _, i, z, rfl, rfl, SqT.of h1, g1, hq _ g2⟩ hs
    | _ => cases hf
  | str z =>
    cases dy with
    | int i =>
      cases qy; cases qx
      obtain ⟨c, hf⟩ : z.length ≤ sizeLine ∧ (atI z.cps.toList i).map (fun c => PyData.str ⟨#[c]⟩) = some d := by
        by_cases c : z.length ≤ sizeLine
        · simp only [ixD, if_pos c] at hf; exact ⟨c, hf⟩
        · simp only [ixD, if_neg c] at hf; cases hf
      obtain ⟨ch, e1, rfl⟩ := Option.map_eq_some_iff.mp hf
      exact ix_str value slice pins s σ _ _ _ v u Q I rx ry ⟨z, i, ch, rfl, rfl, c, e1, hq _ (.str _)⟩ hs
    | _ => cases hf
  | dict es =>
    obtain ⟨r, e1, e2⟩ := Option.bind_eq_some_iff.mp (show (dfind es dy).bind id = some d by cases dy <;> exact hf)
    cases (show r = some d from e2)
    obtain ⟨a, rfl⟩ : ∃ a, x = .ref a := by cases qx <;> exact ⟨_, rfl⟩
    cases (show v = Value.ref a from rx)
    rcases dfind_dg qx qy e1 with ⟨z, d', g, e3, rz⟩ | ⟨_, e3⟩
    · cases e3
      have g' : DGet w.H a y (some z) := by
        rcases g with g | ⟨_, _, g⟩ | ⟨_, _, g⟩
        · exact g
        · cases g
        · cases g
      exact tail_any (dict_typeIs I g') PySem.F.slot_dict_getitem.lookup (d_getItem hu I g' ry fun w' s' I' r' => ⟨z, _, I', r', hq _ rz⟩) hs
    · cases e3
  | _ => cases dy <;> cases hf
theorem de_ix {G : Gh} {a b : Expr} {wa wb : WE} {ca cb : Nat} {pos : Pos} (hu : X.A.units + 1 < cLine) (ha : DE X G a wa ca) (hb : DE X G b wb cb) (hs : PlainIx b := by intro _ _; rfl) : DE X G (.Subscript a b pos) (wIx wa wb) (ca + cb) :=
  PE_imp (pe_ix (ix_D hu) ha hb hs) fun σ H Q h => tV.two h fun env w x y dx dy P er rx ry k hf => by
    obtain ⟨ex, ey, d, h1, h2, h3, p⟩ := k.get
    exact ⟨w, ex, ey, d, rfl, rx.rq h1, ry.rq h2, h3, fun v r => hf.rp er p (Same.refl _) r⟩

/-! ### slices -/
def cutD (ds : List D) (lo hi : Option Int) : List D := (ds.drop (HT.sIx ds.length 0 lo)).take (HT.sIx ds.length ds.length hi - HT.sIx ds.length 0 lo)
theorem cut_rp {w : Wd} {vs : List V} {ds : List D} (r : RpL w vs ds) (lo hi : Option Int) : RpL w (cutV vs lo hi) (cutD ds lo hi) := by
  unfold cutV cutD
  rw [r.length]
  exact (r.drop _).take _
abbrev WO := Ev → (Option Int → Prop) → Prop
def tO (G : Gh) (f : WO) (c : Nat) : TO := fun σ H Q => ∃ (env : Ev) (M C : Addr → Prop) (b : Nat) (P : Option Int → Prop), b + c ≤ cap ∧ ER (G.at b) ⟨H, M, C⟩ env σ ∧ f env P ∧ ∀ o, P o → ∀ b' w', b' ≤ b + c → ER (G.at b') w' env σ → Ext ⟨H, M, C⟩ w' → Q o w'.H
def wNoPart : WO := fun _ P => P none
def wPart (wa : WE) : WO := fun env P => wa env fun x => ∃ i, x.val = some (.int i) ∧ P (some i)
theorem do_none {G : Gh} : PO X none (tO G wNoPart 0) := ⟨fun pins s σ H Q I h => po_none.run pins s σ H Q I (by
  obtain ⟨env, M, C, b, P, hb, er, p, hf⟩ := h
  exact hf _ p b _ (Nat.le_refl _) er (Ext.refl _))⟩
theorem do_some {G : Gh} {a : Expr} {wa : WE} {ca : Nat} (ha : DE X G a wa ca) : PO X (some a) (tO G (wPart wa) ca) := ⟨fun pins s σ H Q I h => (po_some ha).run pins s σ H Q I (by
  obtain ⟨env, M, C, b, P, hb, er, hw, hf⟩ := h
  refine ⟨env, M, C, b, _, hb, er, hw, fun dv ⟨i, e, p⟩ b1 w1 v hb1 er1 e1 r1 => ?_⟩
  have q := r1.rq e
  cases q
  exact ⟨i, rfl, hf _ p b1 w1 hb1 er1 e1⟩)⟩
def slD : D → Option Int → Option Int → Option D
  | .list ds, lo, hi => some (.list (cutD ds lo hi))
  | .tuple ds, lo, hi => some (.tuple (cutD ds lo hi))
  | _, _, _ => none
def wSl (wa : WE) (wl wh : WO) : WE := fun env P => wa env fun x => wl env fun lo => wh env fun hi => ∃ d, (x.val.bind fun a => slD a lo hi) = some d ∧ P (mkDv d)
def rSlD : V → Option Int → Option Int → Hp → VK → Prop := fun x lo hi H Q => ∃ w dx d, w.H = H ∧ Wk w ∧ Rq w x dx ∧ slD dx lo hi = some d ∧ ∀ v H', Same H H' → VN w H' v d → Q v H'
theorem sl_D : L2.SlR X rSlD := by
  intro pins s σ H x v vl vu lo hi sl Q I rx hs pl pu ⟨w, dx, d, eH, wk, qx, hf, hq⟩
  subst eH
  cases dx with
  | list ds =>
    cases hf
    cases qx with
    | lst h1 r1 => exact sl_list pins s σ _ _ v vl vu lo hi sl Q I rx hs pl pu ⟨_, _, rfl, SqL.of h1, fun p n => hq _ _ (same_new n) (newL n (cut_rp r1 lo hi))⟩
  | tuple ds =>
    cases hf
    cases qx with
    | tup n1 h1 r1 =>
      refine sl_tupA pins s σ _ _ v vl vu lo hi sl Q I rx hs pl pu ⟨_, _, rfl, SqT.of h1, fun e => ?_, fun e p n => hq _ _ (same_new n) (newT wk n (cut_rp r1 lo hi))⟩
      have z : cutD ds lo hi = ds := by
        unfold cutD
        rw [r1.length] at e
        rw [e.1, e.2, List.drop_zero, Nat.sub_zero, List.take_length]
      exact hq _ _ (Same.refl _) (by rw [z]; exact .tup n1 h1 r1)
  | _ => cases hf
theorem de_slice {G : Gh} {a : Expr} {lo hi : Option Expr} {wa : WE} {wl wh : WO} {ca cb cc : Nat} {pos p2 : Pos} (ha : DE X G a wa ca) (hl : PO X lo (tO G wl cb)) (hh : PO X hi (tO G wh cc)) : DE X G (.Subscript a (.Slice lo hi none p2) pos) (wSl wa wl wh) (ca + cb + cc) :=
  PE_imp (pe_slice sl_D ha hl hh) fun σ H Q h => by
    obtain ⟨env, M, C, b, P, hb, er, hw, hf⟩ := h
    refine ⟨env, M, C, b, _, by omega, er, hw, fun dx hx b1 w1 x hb1 er1 e1 r1 => ⟨env, w1.M, w1.C, b1, _, by omega, er1, hx, fun lo hl b2 w2 hb2 er2 e2 => ⟨env, w2.M, w2.C, b2, _, by omega, er2, hl, fun hi hh b3 w3 hb3 er3 e3 => ?_⟩⟩⟩
    obtain ⟨d, e, p⟩ := hh
    obtain ⟨dx', e4, e5⟩ := Option.bind_eq_some_iff.mp e
    have r3 := r1.ext (Hs' := H) (e2.trans e3) er1.cm fun _ z => z
    exact ⟨w3, dx', d, rfl, er3.md, r3.rq e4, e5, fun v H' s r => (Fin.ext (Fin.ext (Fin.ext (w := ⟨H, M, C⟩) hf e1 (Nat.le_refl _)) e2 (Nat.le_refl _)) e3 (by omega)).pure er3 p s r⟩
end
end DL
namespace DL
open PySem PySem.Spec PyProof.Rows L2

/-! ### argument lists and displays -/
def wNil : WA := fun _ P => P []
def wCons (wa : WE) (wr : WA) : WA := fun env P => wa env fun x => wr env fun xs => P (x :: xs)
section
variable {X : Cx} {G : Gh} {e : Expr} {es : List Expr} {wa : WE} {wr : WA} {ca cb : Nat} {pos : Pos}
theorem da_nil : DA X G [] wNil 0 := PA_imp pa_nil fun σ H Q h => by
  obtain ⟨env, M, C, b, P, hb, er, p, hf⟩ := h
  exact hf _ p b _ _ (Nat.le_refl _) er (Ext.refl _) .nil
theorem da_cons (ha : DE X G e wa ca) (hr : DA X G es wr cb) (hs : starEach (e :: es) X.env = (false, eval e X.env) :: starEach es X.env := by rfl) : DA X G (e :: es) (wCons wa wr) (ca + cb) := PA_imp (pa_cons ha hr hs) fun σ H Q h => by
  obtain ⟨env, M, C, b, P, hb, er, hw, hf⟩ := h
  refine ⟨env, M, C, b, _, by omega, er, hw, fun dx hx b1 w1 x hb1 er1 e1 r1 => ⟨env, w1.M, w1.C, b1, _, by omega, er1, hx, fun ds hd b2 w2 xs hb2 er2 e2 r2 => ?_⟩⟩
  refine hf _ hd b2 w2 _ (by omega) er2 (e1.trans e2) (.cons (r1.ext e2 er1.cm fun _ z => z) ?_)
  exact r2.ext (Ext.refl w2) er2.cm fun a z => e1.free z
/-- the data of values that may be kept -/
def keptL : List Dv → Option (List D)
  | [] => some []
  | x :: r => x.kept.bind fun d => (keptL r).map (d :: ·)
def valL : List Dv → Option (List D)
  | [] => some []
  | x :: r => x.val.bind fun d => (valL r).map (d :: ·)
theorem VRs.rp {Hs : Hp} {w : Wd} : ∀ {vs : List V} {ds : List Dv} {es : List D}, VRs G Hs w vs ds → keptL ds = some es → RpL w vs es
  | _, _, _, .nil, e => by cases e; exact .nil
  | _, _, _, .cons h r, e => by
    simp only [keptL, Option.bind_eq_some_iff, Option.map_eq_some_iff] at e
    obtain ⟨d, e1, es', e2, rfl⟩ := e
    exact .cons (VR.rp h e1) (VRs.rp r e2)
def wTup (wr : WA) : WE := fun env P => wr env fun xs => ∃ ds, keptL xs = some ds ∧ ds.length ≤ sizeLine ∧ P (.fz (.tuple ds))
def wLst (wr : WA) : WE := fun env P => wr env fun xs => ∃ ds, keptL xs = some ds ∧ ds.length ≤ sizeLine ∧ P (.nw (.list ds))
theorem tA.one {K : Ev → List Dv → (Dv → Prop) → Prop} {σ : L2.St} {H : Hp} {Q : VK} {R : List V → Hp → Prop} (h : tV G (fun env P => wr env fun x => K env x P) ca σ H Q)
    (fin : ∀ {b : Nat} env w x dx P, ER (G.at b) w env σ → VRs G H w x dx → K env dx P → Fin G b σ env w Q P → R x w.H) : tA G wr ca σ H R := by
  obtain ⟨env, M, C, b, P, hb, er, hw, hf⟩ := h
  exact ⟨env, M, C, b, _, hb, er, hw, fun dx hx b1 w1 x hb1 er1 e1 r1 => fin env w1 x dx P er1 r1 hx (Fin.ext (w := ⟨H, M, C⟩) hf e1 hb1)⟩
theorem de_tup {x1} (h : DA X G es wr ca) : DE X G (.Tuple es x1 pos) (wTup wr) ca := PE_imp (pe_tup h) fun σ H Q h => tA.one h fun env w xs dxs P er rs k hf => by
  obtain ⟨ds, e, z, p⟩ := k
  have r := rs.rp e
  exact ⟨by rw [r.length]; exact z, fun q n => hf.rp er p (same_new n) (newT er.md n r)⟩
theorem de_lst (h : DA X G es wr ca) : DE X G (.List es pos) (wLst wr) ca := PE_imp (pe_lst h) fun σ H Q h => tA.one h fun env w xs dxs P er rs k hf => by
  obtain ⟨ds, e, z, p⟩ := k
  have r := rs.rp e
  exact ⟨by rw [r.length]; exact z, fun q n => hf.pure er (d := .list ds) p (same_new n) (newL n r)⟩
theorem de_dnewK : DE X G (.Dict [] [] pos) (wC (.nw (.dict []))) 0 := PE_imp pe_dnewK fun σ H Q h => by
  obtain ⟨env, M, C, b, P, hb, er, p, hf⟩ := h
  exact fun q n => Fin.pure (b := b) (w := ⟨H, M, C⟩) hf er (d := .dict []) p (same_new n) ⟨q, rfl, n, .dK upd_same rfl .nil⟩
theorem de_dnewT : DE X G (.Dict [] [] pos) (wC (.nw (.dict []))) 0 := PE_imp pe_dnewT fun σ H Q h => by
  obtain ⟨env, M, C, b, P, hb, er, p, hf⟩ := h
  exact fun q n => Fin.pure (b := b) (w := ⟨H, M, C⟩) hf er (d := .dict []) p (same_new n) ⟨q, rfl, n, .dT upd_same rfl .nil⟩

/-! ### calls of built-ins by values -/
inductive RqL (w : Wd) : List V → List D → Prop
  | nil : RqL w [] []
  | cons {v : V} {vs : List V} {d : D} {ds : List D} : Rq w v d → RqL w vs ds → RqL w (v :: vs) (d :: ds)
theorem VRs.rq {Hs : Hp} {w : Wd} : ∀ {vs : List V} {ds : List Dv} {es : List D}, VRs G Hs w vs ds → valL ds = some es → RqL w vs es
  | _, _, _, .nil, e => by cases e; exact .nil
  | _, _, _, .cons h r, e => by
    simp only [valL, Option.bind_eq_some_iff, Option.map_eq_some_iff] at e
    obtain ⟨d, e1, es', e2, rfl⟩ := e
    exact .cons (VR.rq h e1) (VRs.rq r e2)
def rB (f : List D → Option D) : List V → Hp → VK → Prop := fun xs H Q => ∃ w ds d, w.H = H ∧ Wk w ∧ RqL w xs ds ∧ f ds = some d ∧ ∀ v H', Same H H' → VN w H' v d → Q v H'
def wB (f : List D → Option D) (wr : WA) : WE := fun env P => wr env fun xs => ∃ d, (valL xs).bind f = some d ∧ P (mkDv d)
theorem rdB {f : List D → Option D} {σ : L2.St} {H : Hp} {Q : VK} (h : tV G (wB f wr) ca σ H Q) : tCB (rB f) (tA G wr ca) σ H Q := tA.one h fun env w xs dxs P er rs k hf => by
  obtain ⟨d, e, p⟩ := k
  obtain ⟨ds, e1, e2⟩ := Option.bind_eq_some_iff.mp e
  exact ⟨w, ds, d, rfl, er.md, rs.rq e1, e2, fun v H' s r => hf.pure er p s r⟩
theorem de_callB {x : Str} {id : String} {p : Pos} {f : List D → Option D} (hc : CallR X (.builtin id) (rB f)) (hg : Gl X x) (hm : X.mg x = none) (hv : bootBuiltins x = some (.builtin id)) (ha : DA X G (e :: es) wr ca) (hn : x ≠ "__name__" := by decide) (hdb : (x == ("__debug__" : Str)) = false := by decide)
    (he : starEach (e :: es) X.env = (false, eval e X.env) :: starEach es X.env := by rfl) (hpl : (backTo pos (starEach es X.env)).any (·.1) = false := by rfl) : DE X G (.Call (.Name x p) (e :: es) [] pos) (wB f wr) ca :=
  PE_imp (pe_callB hc hg hm hv ha hn hdb he hpl) fun _ _ _ h => rdB h
theorem de_callTy {x : Str} {T : String} {p : Pos} {f : List D → Option D} (hc : CallR X (.type T) (rB f)) (hg : Gl X x) (hm : X.mg x = none) (hv : bootBuiltins x = some (.type T)) (ha : DA X G (e :: es) wr ca) (hn : x ≠ "__name__" := by decide) (hdb : (x == ("__debug__" : Str)) = false := by decide)
    (he : starEach (e :: es) X.env = (false, eval e X.env) :: starEach es X.env := by rfl) (hpl : (backTo pos (starEach es X.env)).any (·.1) = false := by rfl) : DE X G (.Call (.Name x p) (e :: es) [] pos) (wB f wr) ca :=
  PE_imp (pe_callTy hc hg hm hv ha hn hdb he hpl) fun _ _ _ h => rdB h
end
end DL
namespace DL
open PySem PySem.Spec PyProof.Rows L2

/-! ### slots are set -/
section
variable {G : Gh} {w w' : Wd} {env : Ev} {σ : L2.St}
theorem get_set {α : Type} {l : List α} {i j : Nat} {x y : α} (h : (l.set i x)[j]? = some y) : (j = i ∧ y = x) ∨ (j ≠ i ∧ l[j]? = some y) := by
  by_cases e : j = i
  · subst e
    by_cases hl : j < l.length
    · rw [List.getElem?_set_self hl] at h; exact .inl ⟨rfl, (Option.some.inj h).symm⟩
    · rw [List.getElem?_eq_none (by simpa using hl)] at h; cases h
  · rw [List.getElem?_set_ne (Ne.symm e)] at h; exact .inr ⟨e, h⟩
theorem ER.setSl {s : Sl} {v : Option V} (er : ER G w env σ) (h : SlR G w v s) (ns : ∀ d, s ≠ .own d) (i : Nat) : ER G w (env.set i s) (σ.set i v) where
  toEH := er.toEH
  len := by rw [List.length_set, List.length_set]; exact er.len
  sl := fun j s' ov h1 h2 => by
    rcases get_set h1 with ⟨rfl, rfl⟩ | ⟨n1, q1⟩
    · rcases get_set h2 with ⟨_, rfl⟩ | ⟨n2, _⟩
      · exact h
      · exact absurd rfl n2
    · rcases get_set h2 with ⟨n2, _⟩ | ⟨_, q2⟩
      · exact absurd n2 n1
      · exact er.sl j s' ov q1 q2
  od := fun j k d e a h1 h2 h3 h4 => by
    rcases get_set h1 with ⟨_, q⟩ | ⟨n1, q1⟩
    · exact absurd q.symm (ns d)
    · rcases get_set h2 with ⟨_, q⟩ | ⟨n2, q2⟩
      · exact absurd q.symm (ns e)
      · rcases get_set h3 with ⟨z, _⟩ | ⟨_, q3⟩
        · exact absurd z n1
        · rcases get_set h4 with ⟨z, _⟩ | ⟨_, q4⟩
          · exact absurd z n2
          · exact er.od j k d e a q1 q2 q3 q4
theorem ER.setFz {d : D} {v : V} (er : ER G w env σ) (h : Rp w v d) (i : Nat) : ER G w (env.set i (.fz d)) (σ.set i (some v)) := er.setSl (s := .fz d) ⟨v, rfl, h⟩ (fun _ z => nomatch z) i
theorem ER.setRaw {v : V} (er : ER G w env σ) (i : Nat) : ER G w (env.set i (.raw v)) (σ.set i (some v)) := er.setSl (s := .raw v) rfl (fun _ z => nomatch z) i
theorem ER.setNo {v : Option V} (er : ER G w env σ) (i : Nat) : ER G w (env.set i .no) (σ.set i v) := er.setSl (s := .no) trivial (fun _ z => nomatch z) i
theorem ER.lt (er : ER G w env σ) {i : Nat} {s : Sl} (h : env[i]? = some s) : i < σ.length := by
  have := (List.getElem?_eq_some_iff.mp h).1
  have := er.len
  omega
theorem ER.at (er : ER G w env σ) {i : Nat} {s : Sl} (h : env[i]? = some s) : ∃ ov, σ[i]? = some ov ∧ SlR G w ov s := ⟨σ[i]'(er.lt h), List.getElem?_eq_getElem (er.lt h), er.sl i s _ h (List.getElem?_eq_getElem (er.lt h))⟩
/-- a new list or dict becomes a local's own -/
theorem ER.setNw {d : D} {a : Addr} {b0 b1 : Nat} (er : ER (G.at b0) w env σ) (er' : ER (G.at b1) w' env σ) (e : Ext w w') (hs : w.H a = none) (nc : ¬ w'.C a) (o : Ow (w'.plus a) a d) (i : Nat) :
    ER (G.at b1) (w'.plus a) (env.set i (.own d)) (σ.set i (some (.ref a))) := by
  have st0 : St1 w (w'.plus a) := ⟨(e.st er.cm).keep, fun b z => z.elim (e.newM b) fun q => .inr (by rw [q]; exact hs)⟩
  have hdO : ∀ {u : Wd} {b d}, Ow u b d → ∃ ob, u.H b = some ob := fun o => by cases o <;> exact ⟨_, by assumption⟩
  have hH0 : G.H0 a = none := by
    cases q : G.H0 a with
    | none => rfl
    | some x => exact absurd hs (er.hd a (by rw [q]; simp))
  have hPt : G.Pt a = none := by
    cases q : G.Pt a with
    | none => rfl
    | some x => rcases er.kp a x q with z | ⟨_, _, ob, z⟩ <;> (rw [hs] at z; cases z)
  refine ⟨⟨er'.kp, fun b m => .inl (er'.m0 b m), er'.nc, er'.cp, fun b c => .inl (er'.cm b c), fun b z => z.elim (er'.md b) fun q => ?_, er'.hd, fun p hp => (er.gk p hp).st st0, er'.si⟩, by rw [List.length_set, List.length_set]; exact er.len, fun j s ov h1 h2 => ?_, fun j k d1 d2 b h1 h2 h3 h4 => ?_⟩
  · subst q
    obtain ⟨ob, h⟩ := hdO o
    show w'.H b ≠ none
    rw [show w'.H b = some ob from h]; simp
  · rcases get_set h1 with ⟨rfl, rfl⟩ | ⟨n1, q1⟩
    · rcases get_set h2 with ⟨_, rfl⟩ | ⟨n2, _⟩
      · exact ⟨a, rfl, .inr rfl, nc, hPt, hH0, o⟩
      · exact absurd rfl n2
    · rcases get_set h2 with ⟨n2, _⟩ | ⟨_, q2⟩
      · exact absurd n2 n1
      · have s0 := er.sl j s ov q1 q2
        have s1 := er'.sl j s ov q1 q2
        cases s with
        | no => trivial
        | fz d => obtain ⟨v, z, r⟩ := s0; exact ⟨v, z, r.st st0⟩
        | raw v => exact s0
        | own d =>
          obtain ⟨b, z, m, n, p, h0, ob⟩ := s0
          obtain ⟨b', z', m', n', _, _, _⟩ := s1
          rw [z] at z'
          cases z'
          obtain ⟨x, hx⟩ := hdO ob
          exact ⟨b, z, .inl m', n', p, h0, ob.st st0 (by show w'.H b = w.H b; rw [hx]; exact e.own n m hx)⟩
        | bw d =>
          obtain ⟨b, z, m, n, p, ob⟩ := s0
          obtain ⟨b', z', m', n', _, _⟩ := s1
          rw [z] at z'
          cases z'
          obtain ⟨x, hx⟩ := hdO ob
          exact ⟨b, z, .inl m', n', p, ob.st st0 (by show w'.H b = w.H b; rw [hx]; exact e.own n m hx)⟩
  · have ne : ∀ {m : Nat} {dd : D}, env[m]? = some (.own dd) → σ[m]? = some (some (.ref a)) → False := fun {m dd} g1 g2 => by
      obtain ⟨b, z, _, _, _, _, ob⟩ := er.sl m _ _ g1 g2
      cases z
      obtain ⟨x, hx⟩ := hdO ob
      rw [hs] at hx; cases hx
    rcases get_set h1 with ⟨rfl, q⟩ | ⟨n1, q1⟩
    · rcases get_set h2 with ⟨rfl, _⟩ | ⟨n2, q2⟩
      · rfl
      · rcases get_set h3 with ⟨_, z⟩ | ⟨z, _⟩
        · cases z
          rcases get_set h4 with ⟨z, _⟩ | ⟨_, q4⟩
          · exact absurd z n2
          · exact (ne q2 q4).elim
        · exact absurd rfl z
    · rcases get_set h3 with ⟨z, _⟩ | ⟨_, q3⟩
      · exact absurd z n1
      · rcases get_set h2 with ⟨rfl, _⟩ | ⟨n2, q2⟩
        · rcases get_set h4 with ⟨_, z⟩ | ⟨z, _⟩
          · cases z
            exact (ne q1 q3).elim
          · exact absurd rfl z
        · rcases get_set h4 with ⟨z, _⟩ | ⟨_, q4⟩
          · exact absurd z n2
          · exact er.od j k d1 d2 b q1 q2 q3 q4
end

/-! ### blocks and small statements -/
section
variable {X : Cx} {G : Gh} {st : Stmt} {rest body : List Stmt} {f g : WS} {e a b c : Expr} {wa wb : WE} {ta : WT} {ca cb cc : Nat} {pos : Pos}
def wNext : WS := fun env De => De.nx env
def wSeq (f g : WS) : WS := fun env De => f env { De with nx := fun e => g e De }
theorem dss_nil : DSs X G [] wNext 0 := PSs_imp pss_nil fun σ H T h => by
  obtain ⟨env, M, C, b0, De, hb0, er, hw, lf⟩ := h
  exact lf.nx env hw b0 _ σ (Nat.le_refl _) er
theorem dss_cons (h1 : DS X G st f ca) (h2 : DSs X G rest g cb) : DSs X G (st :: rest) (wSeq f g) (ca + cb) := PSs_imp (pss_cons h1 h2) fun σ H T h => by
  obtain ⟨env, M, C, b0, De, hb0, er, hw, lf⟩ := h
  have lm := lf.mono (B' := b0 + ca) (by omega)
  exact ⟨env, M, C, b0, _, by omega, er, hw, ⟨fun env' q b w σ' hb er' => ⟨env', w.M, w.C, b, De, by omega, er', q, lf.mono (by omega)⟩, lm.rt, lm.bk, lm.ct⟩⟩
theorem dss_one (h1 : DS X G st f ca) : DSs X G [st] f ca := pss_one h1
theorem ds_pass : DS X G (.Pass pos) wNext 0 := PS_imp ps_pass fun σ H T h => by
  obtain ⟨env, M, C, b0, De, hb0, er, hw, lf⟩ := h
  exact lf.nx env hw b0 _ σ (Nat.le_refl _) er
def wBreak : WS := fun env De => De.bk env
def wCont : WS := fun env De => De.ct env
theorem ds_break : DS X G (.Break pos) wBreak 0 := PS_imp ps_break fun σ H T h => by
  obtain ⟨env, M, C, b0, De, hb0, er, hw, lf⟩ := h
  exact lf.bk env hw b0 _ σ (Nat.le_refl _) er
theorem ds_continue : DS X G (.Continue pos) wCont 0 := PS_imp ps_continue fun σ H T h => by
  obtain ⟨env, M, C, b0, De, hb0, er, hw, lf⟩ := h
  exact lf.ct env hw b0 _ σ (Nat.le_refl _) er
/-- a statement that is never reached -/
def wNever : WS := fun _ _ => False
theorem ds_never : DS X G st wNever 0 := PS_imp ps_never fun σ H T h => by
  obtain ⟨env, M, C, b0, De, hb0, er, hw, lf⟩ := h
  exact hw
def wDrop (wa : WE) : WS := fun env De => wa env fun _ => De.nx env
theorem ds_expr (he : DE X G e wa ca) (hs : swapsWith e none pos.line X.env = pure false := by rfl) : DS X G (.Expr e pos) (wDrop wa) ca := PS_imp (ps_expr he hs) fun σ H T h => by
  obtain ⟨env, M, C, b0, De, hb0, er, hw, lf⟩ := h
  exact ⟨env, M, C, b0, _, hb0, er, hw, fun dv p b' w' v hb' er' e' r => lf.nx env p b' w' σ hb' er'⟩
def wRet (wa : WE) : WS := fun env De => wa env De.rt
theorem ds_ret (he : DE X G e wa ca) : DS X G (.Return (some e) pos) (wRet wa) ca := PS_imp (ps_ret he) fun σ H T h => by
  obtain ⟨env, M, C, b0, De, hb0, er, hw, lf⟩ := h
  exact ⟨env, M, C, b0, _, hb0, er, hw, fun dv p b' w' v hb' er' e' r => lf.rt dv p b' w' H v hb' er'.toEH r er.hd⟩
def wRetN : WS := fun _ De => De.rt (.fz .none)
theorem ds_retN : DS X G (.Return none pos) wRetN 0 := PS_imp ps_retN fun σ H T h => by
  obtain ⟨env, M, C, b0, De, hb0, er, hw, lf⟩ := h
  exact lf.rt _ hw b0 ⟨H, M, C⟩ H .non (Nat.le_refl _) er.toEH .non er.hd
def wIfS (t : WT) (f g : WS) : WS := fun env De => t env fun k => if k = true then f env De else g env De
theorem ds_if {x y : List Stmt} (hc : DT X G c ta cc) (ha : DSs X G x f ca) (hb : DSs X G y g cb) : DS X G (.If c x y pos) (wIfS ta f g) (cc + (ca + cb)) := PS_imp (ps_if hc ha hb) fun σ H T h => by
  obtain ⟨env, M, C, b0, De, hb0, er, hw, lf⟩ := h
  refine ⟨env, M, C, b0, _, by omega, er, hw, fun k hk b1 w1 hb1 er1 e1 => ?_⟩
  cases k with
  | true =>
    rw [if_pos rfl] at hk ⊢
    exact ⟨env, w1.M, w1.C, b1, De, by omega, er1, hk, lf.mono (by omega)⟩
  | false =>
    rw [if_neg Bool.false_ne_true] at hk ⊢
    exact ⟨env, w1.M, w1.C, b1, De, by omega, er1, hk, lf.mono (by omega)⟩

/-! ### name = value -/
/-- how a value is kept in a slot -/
inductive Kp where | fz | own | raw
def store (k : Kp) (i : Nat) (x : Dv) (env : Ev) (N : Ev → Prop) : Prop := match k with
  | .fz => ∃ d, x.kept = some d ∧ N (env.set i (.fz d))
  | .own => ∃ d, x = .nw d ∧ N (env.set i (.own d))
  | .raw => ∃ v, x = .raw v ∧ N (env.set i (.raw v))
def wSet (k : Kp) (i : Nat) (wa : WE) : WS := fun env De => wa env fun x => store k i x env De.nx
theorem stored {k : Kp} {i : Nat} {x : Dv} {env : Ev} {N : Ev → Prop} {σ : L2.St} {w w' : Wd} {v : V} {b0 b1 : Nat} (h : store k i x env N) (er : ER (G.at b0) w env σ) (er' : ER (G.at b1) w' env σ) (e : Ext w w') (r : VR G w.H w' v x) :
    ∃ env' w'', N env' ∧ w''.H = w'.H ∧ ER (G.at b1) w'' env' (σ.set i (some v)) := by
  cases k with
  | fz =>
    obtain ⟨d, h1, h2⟩ := h
    exact ⟨_, w', h2, rfl, er'.setFz (r.rp h1) i⟩
  | own =>
    obtain ⟨d, rfl, h2⟩ := h
    obtain ⟨a, rfl, hs, nm, nc, o⟩ := r
    exact ⟨_, w'.plus a, h2, rfl, ER.setNw er er' e hs nc o i⟩
  | raw =>
    obtain ⟨u, rfl, h2⟩ := h
    obtain rfl : v = u := r
    exact ⟨_, w', h2, rfl, er'.setRaw i⟩
theorem rdSet {k : Kp} {i : Nat} {σ : L2.St} {H : Hp} {T : Ends} {te : TE} (h : tS G (wSet k i wa) ca T σ H) (imp : ∀ Q, tV G wa ca σ H Q → te σ H Q) : tAsg te (gName i) T σ H := by
  obtain ⟨env, M, C, b0, De, hb0, er, hw, lf⟩ := h
  refine imp _ ⟨env, M, C, b0, _, hb0, er, hw, fun dv p b' w' v hb' er' e' r => ?_⟩
  obtain ⟨env', w'', n, e1, er''⟩ := stored p er er' e' r
  show T.nx (σ.set i (some v)) w'.H
  rw [← e1]
  exact lf.nx env' n b' w'' _ hb' er''
theorem ds_set (k : Kp) (i : Nat) {x : Str} {pos' : Pos} (hN : X.N.Nodup) (he : DE X G e wa ca) (hi : X.N[i]? = some x := by rfl) (hx : Loc X.env.scope x := by first | exact Or.inl rfl | exact Or.inr rfl) (hs : swapsWith e (some (.Name x pos')) pos.line X.env = pure false := by rfl)
    (hf : X.fn x = true ∨ X.env.scope.names.lookup x = some .local := by first | exact .inl rfl | exact .inr rfl | assumption) : DS X G (.Assign [.Name x pos'] e pos) (wSet k i wa) ca :=
  PS_imp (ps_set hN hi hx he hs hf) fun σ H T h => rdSet h fun _ q => q

/-! ### while -/
def wWh (t : WT) (f : WS) : Nat → WS
  | 0 => fun _ _ => False
  | n + 1 => fun env De => t env fun k => if k = true then f env { nx := fun e => wWh t f n e De, ct := fun e => wWh t f n e De, bk := De.nx, rt := De.rt } else De.nx env
def wWhile (t : WT) (f : WS) : WS := fun env De => ∃ n, wWh t f n env De
theorem ds_while (hp : PassesOwn (model X.prog X.w) X.A X.env X.xe) (hc : DT X G c ta cc) (hb : DSs X G body f cb) (h0 : cc + cb = 0 := by rfl) : DS X G (.While c body [] pos) (wWhile ta f) 0 := PS_imp (ps_while hp hc hb) fun σ H T h => by
  obtain ⟨env, M, C, b0, De, hb0, er, ⟨n, hw⟩, lf⟩ := h
  refine ⟨fun m σ H => ∃ env M C b, b ≤ b0 ∧ ER (G.at b) ⟨H, M, C⟩ env σ ∧ wWh ta f m env De, ⟨n, env, M, C, b0, Nat.le_refl _, er, hw⟩, fun m σ1 H1 hm => ?_⟩
  obtain ⟨env1, M1, C1, b1, hb1, er1, hw1⟩ := hm
  cases m with
  | zero => exact hw1.elim
  | succ m =>
    refine ⟨env1, M1, C1, b1, _, by omega, er1, hw1, fun k hk b2 w2 hb2 er2 e2 => ?_⟩
    cases k with
    | true =>
      rw [if_pos rfl] at hk ⊢
      refine ⟨fun σ' H' => ∃ env M C b, b ≤ b0 ∧ ER (G.at b) ⟨H', M, C⟩ env σ' ∧ wWh ta f m env De, fun σ' H' q => ⟨m, Nat.lt_succ_self m, q⟩, ?_⟩
      have lm := lf.mono (B' := b2 + cb) (by omega)
      exact ⟨env1, w2.M, w2.C, b2, _, by omega, er2, hk, ⟨fun env' q b w σ' hb er' => ⟨env', w.M, w.C, b, by omega, er', q⟩, lm.rt, fun env' q b w σ' hb er' => lm.nx env' q b w σ' hb er', fun env' q b w σ' hb er' => ⟨env', w.M, w.C, b, by omega, er', q⟩⟩⟩
    | false =>
      rw [if_neg Bool.false_ne_true] at hk ⊢
      exact lf.nx env1 hk b2 w2 σ1 (by omega) er2
/-- a loop that draws: at most many turns -/
def many : Nat := 2 ^ 64
def wWhileE (t : WT) (f : WS) : WS := fun env De => ∃ n, n ≤ many ∧ wWh t f n env De
theorem mul_step {n m a b : Nat} (h : m + 1 ≤ n) (q : b ≤ a) : b + (n - (m + 1)) * a + a ≤ b + (n - m) * a := by
  have e : n - m = (n - (m + 1)) + 1 := by omega
  rw [e, Nat.add_mul, Nat.one_mul]; omega
theorem le_many {n a : Nat} (h : n ≤ many) : n * a ≤ many * a := Nat.mul_le_mul_right a h
theorem ds_whileE (hp : PassesOwn (model X.prog X.w) X.A X.env X.xe) (hc : DT X G c ta cc) (hb : DSs X G body f cb) : DS X G (.While c body [] pos) (wWhileE ta f) (many * (cc + cb)) := PS_imp (ps_while hp hc hb) fun σ H T h => by
  obtain ⟨env, M, C, b0, De, hb0, er, ⟨n, hn, hw⟩, lf⟩ := h
  have hn' := le_many (a := cc + cb) hn
  refine ⟨fun m σ H => ∃ env M C b, b + m * (cc + cb) ≤ b0 + n * (cc + cb) ∧ ER (G.at b) ⟨H, M, C⟩ env σ ∧ wWh ta f m env De, ⟨n, env, M, C, b0, Nat.le_refl _, er, hw⟩, fun m σ1 H1 hm => ?_⟩
  obtain ⟨env1, M1, C1, b1, hb1, er1, hw1⟩ := hm
  cases m with
  | zero => exact hw1.elim
  | succ m =>
    rw [Nat.add_mul, Nat.one_mul] at hb1
    refine ⟨env1, M1, C1, b1, _, by omega, er1, hw1, fun k hk b2 w2 hb2 er2 e2 => ?_⟩
    cases k with
    | true =>
      rw [if_pos rfl] at hk ⊢
      refine ⟨fun σ' H' => ∃ env M C b, b + m * (cc + cb) ≤ b0 + n * (cc + cb) ∧ ER (G.at b) ⟨H', M, C⟩ env σ' ∧ wWh ta f m env De, fun σ' H' q => ⟨m, Nat.lt_succ_self m, q⟩, ?_⟩
      have lm := lf.mono (B' := b2 + cb) (by omega)
      exact ⟨env1, w2.M, w2.C, b2, _, by omega, er2, hk, ⟨fun env' q b w σ' hb er' => ⟨env', w.M, w.C, b, by omega, er', q⟩, lm.rt, fun env' q b w σ' hb er' => lm.nx env' q b w σ' hb er', fun env' q b w σ' hb er' => ⟨env', w.M, w.C, b, by omega, er', q⟩⟩⟩
    | false =>
      rw [if_neg Bool.false_ne_true] at hk ⊢
      exact lf.nx env1 hk b2 w2 σ1 (by omega) er2

/-! ### what is walked -/
def Gh.more (G : Gh) (l : List (V × D)) : Gh := { G with gs := l ++ G.gs }
theorem EH.more {w : Wd} {b : Nat} {l : List (V × D)} (h : EH (G.at b) w) (q : ∀ p ∈ l, Rp w p.1 p.2) : EH ((G.more l).at b) w := ⟨h.kp, h.m0, h.nc, h.cp, h.cm, h.md, h.hd, fun p hp => (List.mem_append.mp hp).elim (q p) (h.gk p), h.si⟩
theorem EH.fewer {w : Wd} {b : Nat} {l : List (V × D)} (h : EH ((G.more l).at b) w) : EH (G.at b) w := ⟨h.kp, h.m0, h.nc, h.cp, h.cm, h.md, h.hd, fun p hp => h.gk p (List.mem_append_right _ hp), h.si⟩
theorem EH.those {w : Wd} {b : Nat} {l : List (V × D)} (h : EH ((G.more l).at b) w) : ∀ p ∈ l, Rp w p.1 p.2 := fun p hp => h.gk p (List.mem_append_left _ hp)
theorem ER.more {w : Wd} {b : Nat} {env : Ev} {σ : L2.St} {l : List (V × D)} (h : ER (G.at b) w env σ) (q : ∀ p ∈ l, Rp w p.1 p.2) : ER ((G.more l).at b) w env σ := ⟨h.toEH.more q, h.len, h.sl, h.od⟩
theorem ER.fewer {w : Wd} {b : Nat} {env : Ev} {σ : L2.St} {l : List (V × D)} (h : ER ((G.more l).at b) w env σ) : ER (G.at b) w env σ := ⟨h.toEH.fewer, h.len, h.sl, h.od⟩
/-- J walks the data ds while the values l stand -/
structure Walk (J : It) (l : List (V × D)) (ds : List D) : Prop where
  go : ∀ (w : Wd) (i : Nat), (∀ p ∈ l, Rp w p.1 p.2) → i < ds.length → J.go i w.H
  stop : ∀ (w : Wd) (i : Nat), (∀ p ∈ l, Rp w p.1 p.2) → ds.length ≤ i → J.stop i w.H
  yld : ∀ (w : Wd) (i : Nat) (x : V) (H' : Hp), Wk w → (∀ p ∈ l, Rp w p.1 p.2) → i < ds.length → J.yld i w.H x H' → Same w.H H' ∧ ∃ d, ds[i]? = some d ∧ Rp ⟨H', w.M, w.C⟩ x d
abbrev WI := Ev → (List D → Prop) → Prop
def tI (G : Gh) (f : WI) (c : Nat) : TI := fun σ H R => ∃ (env : Ev) (M C : Addr → Prop) (b : Nat) (P : List D → Prop), b + c ≤ cap ∧ ER (G.at b) ⟨H, M, C⟩ env σ ∧ f env P ∧ ∀ ds, P ds → ∀ (b' : Nat) (w' : Wd) (J : It) (l : List (V × D)), b' ≤ b + c → ER (G.at b') w' env σ → Ext ⟨H, M, C⟩ w' → (∀ p ∈ l, Rp w' p.1 p.2) → Walk J l ds → ds.length ≤ many → R J w'.H
abbrev DI (X : Cx) (G : Gh) (tg iter : Expr) (f : WI) (c : Nat) : Prop := PI X tg iter (tI G f c)

/-! ### targets -/
/-- the slots ix may have been set, no other ones -/
def Eqx (ix : List Nat) (σ σ' : L2.St) : Prop := σ'.length = σ.length ∧ ∀ j, j ∉ ix → σ'[j]? = σ[j]?
theorem Eqx.refl (ix : List Nat) (σ : L2.St) : Eqx ix σ σ := ⟨rfl, fun _ _ => rfl⟩
theorem Eqx.trans {ix jx : List Nat} {σ σ1 σ2 : L2.St} (a : Eqx ix σ σ1) (b : Eqx jx σ1 σ2) : Eqx (ix ++ jx) σ σ2 := ⟨b.1.trans a.1, fun j h => (b.2 j fun z => h (List.mem_append_right _ z)).trans (a.2 j fun z => h (List.mem_append_left _ z))⟩
theorem Eqx.set (i : Nat) (σ : L2.St) (v : Option V) : Eqx [i] σ (σ.set i v) := ⟨List.length_set, fun j h => List.getElem?_set_ne fun z => h (by simp [z])⟩
abbrev GD := D → Ev → Option Ev
def tG (G : Gh) (ix : List Nat) (g : GD) : TG := fun v σ H Q => ∃ (env env' : Ev) (M C : Addr → Prop) (b : Nat) (d : D), ER (G.at b) ⟨H, M, C⟩ env σ ∧ Rp ⟨H, M, C⟩ v d ∧ g d env = some env' ∧ ∀ σ', ER (G.at b) ⟨H, M, C⟩ env' σ' → Eqx ix σ σ' → Q σ' H
def tGs (G : Gh) (ix : List Nat) (g : List D → Ev → Option Ev) : TGs := fun vs σ H Q => ∃ (env env' : Ev) (M C : Addr → Prop) (b : Nat) (ds : List D), ER (G.at b) ⟨H, M, C⟩ env σ ∧ RpL ⟨H, M, C⟩ vs ds ∧ g ds env = some env' ∧ ∀ σ', ER (G.at b) ⟨H, M, C⟩ env' σ' → Eqx ix σ σ' → Q σ' H
def gN (i : Nat) : GD := fun d env => some (env.set i (.fz d))
def gNil' : List D → Ev → Option Ev
  | [], env => some env
  | _, _ => none
def gCons' (g : GD) (r : List D → Ev → Option Ev) : List D → Ev → Option Ev
  | d :: ds, env => (g d env).bind (r ds)
  | _, _ => none
def gTup' (n : Nat) (r : List D → Ev → Option Ev) : GD
  | .tuple ds, env => if ds.length = n then r ds env else none
  | _, _ => none
theorem PG_imp {e : Expr} {t t' : TG} (h : PG X e t) (i : ∀ v σ H Q, t' v σ H Q → t v σ H Q) : PG X e t' := ⟨fun pins s σ H v u Q I r q => h.run pins s σ H v u Q I r (i v σ H Q q)⟩
theorem PGs_imp {e : List Expr} {t t' : TGs} (h : PGs X e t) (i : ∀ v σ H Q, t' v σ H Q → t v σ H Q) : PGs X e t' := ⟨fun pins s σ H v u Q I r q => h.run pins s σ H v u Q I r (i v σ H Q q)⟩
theorem dg_name (i : Nat) {x : Str} (hN : X.N.Nodup) (hi : X.N[i]? = some x := by rfl) (hx : Loc X.env.scope x := by first | exact Or.inl rfl | exact Or.inr rfl) (hf : X.fn x = true ∨ X.env.scope.names.lookup x = some .local := by first | exact .inl rfl | exact .inr rfl | assumption) : PG X (.Name x pos) (tG G [i] (gN i)) :=
  PG_imp (pg_name hN hi hx hf) fun v σ H Q h => by
    obtain ⟨env, env', M, C, b0, d, er, r, e, q⟩ := h
    cases e
    exact q _ (er.setFz r i) (Eqx.set i σ _)
theorem dgs_nil : PGs X [] (tGs G [] gNil') := PGs_imp pgs_nil fun v σ H Q h => by
  obtain ⟨env, env', M, C, b0, d, er, r, e, q⟩ := h
  cases r with
  | nil => cases e; exact ⟨rfl, q _ er (Eqx.refl _ _)⟩
  | cons _ _ => cases e
theorem dgs_cons {es : List Expr} {ix jx : List Nat} {g : GD} {r : List D → Ev → Option Ev} (h1 : PG X e (tG G ix g)) (h2 : PGs X es (tGs G jx r)) (hs : (assignEach (e :: es) X.env).map (·.2) = assign e X.env :: (assignEach es X.env).map (·.2) := by rfl) : PGs X (e :: es) (tGs G (ix ++ jx) (gCons' g r)) :=
  PGs_imp (pgs_cons h1 h2 hs) fun v σ H Q h => by
    obtain ⟨env, env', M, C, b0, d, er, rr, e, q⟩ := h
    cases rr with
    | nil => cases e
    | @cons v0 vs d0 ds a b =>
      obtain ⟨env1, e1, e2⟩ := Option.bind_eq_some_iff.mp e
      exact ⟨v0, vs, rfl, env, env1, M, C, b0, d0, er, a, e1, fun σ1 er1 x1 => ⟨env1, env', M, C, b0, ds, er1, b, e2, fun σ2 er2 x2 => q σ2 er2 (x1.trans x2)⟩⟩
theorem dg_tup {es : List Expr} {ix : List Nat} {k n : Nat} {r : List D → Ev → Option Ev} (hc : X.calm = true) (h : PGs X es (tGs G ix r)) (hn : (assignEach es X.env).length = n := by rfl) (hst : (assignEach es X.env).findIdx? (·.1) = none := by rfl) : PG X (.Tuple es k pos) (tG G ix (gTup' n r)) :=
  PG_imp (pg_tup hc h hn hst) fun v σ H Q h => by
    obtain ⟨env, env', M, C, b0, d, er, rr, e, q⟩ := h
    cases d with
    | tuple ds =>
      cases rr with
      | @tup a xs _ nm hr rl =>
        by_cases hl : ds.length = n
        · simp only [gTup', if_pos hl] at e
          exact ⟨a, xs, rfl, SqT.of hr, by rw [rl.length]; exact hl, env, env', M, C, b0, ds, er, rl, e, q⟩
        · simp only [gTup', if_neg hl] at e
          cases e
    | _ => cases e

/-! ### for -/
def wFor (g : GD) (f : WS) : List D → WS
  | [] => fun env De => De.nx env
  | d :: r => fun env De => ∃ env', g d env = some env' ∧ f env' { nx := fun e => wFor g f r e De, ct := fun e => wFor g f r e De, bk := De.nx, rt := De.rt }
def wForI (wi : WI) (g : GD) (f : WS) : WS := fun env De => wi env fun ds => wFor g f ds env De
theorem ds_for {iter tg : Expr} {ix : List Nat} {wi : WI} {gd : GD} (hp : PassesOwn (model X.prog X.w) X.A X.env X.xe) (hc : X.calm = true) (hi : DI X G tg iter wi ca) (hg : ∀ l, PG X tg (tG (G.more l) ix gd)) (hb : ∀ l, DSs X (G.more l) body f cb)
    (hs : ∀ x, foldedSetIterable iter X.env x = pure x := by intro _; rfl) : DS X G (.For tg iter body [] pos) (wForI wi gd f) (ca + many * cb) := by
  have hg' : PG X tg (fun v σ H Q => ∃ l, tG (G.more l) ix gd v σ H Q) := ⟨fun pins s σ H v u Q I r ⟨l, q⟩ => (hg l).run pins s σ H v u Q I r q⟩
  have hb' : PSs X body (fun T σ H => ∃ l, tS (G.more l) f cb T σ H) := ⟨fun pins s σ H T I ⟨l, q⟩ => (hb l).run pins s σ H T I q⟩
  refine PS_imp (ps_for hp hc hi hg' hb' hs) fun σ H T h => ?_
  obtain ⟨env, M, C, b0, De, hb0, er, hw, lf⟩ := h
  refine ⟨env, M, C, b0, _, by omega, er, hw, fun ds hds b00 w0 J l hb00 er0 e0 hl wk hz => ?_⟩
  have hz' := le_many (a := cb) hz
  refine ⟨fun i m σ H => m = ds.length - i ∧ i ≤ ds.length ∧ ∃ env M C b, b + m * cb ≤ b00 + ds.length * cb ∧ ER ((G.more l).at b) ⟨H, M, C⟩ env σ ∧ wFor gd f (ds.drop i) env De, ⟨ds.length, by simp, Nat.zero_le _, env, w0.M, w0.C, b00, Nat.le_refl _, er0.more hl, hds⟩, fun i m σ1 H1 hW => ?_⟩
  obtain ⟨rfl, hi1, env1, M1, C1, b1, hb1, er1, hw1⟩ := hW
  have ok1 := er1.toEH.those
  by_cases hlt : i < ds.length
  · rw [List.drop_eq_getElem_cons hlt] at hw1
    obtain ⟨env2, hg2, hw2⟩ := hw1
    have hb1' : b1 + (ds.length - (i + 1)) * cb + cb ≤ b00 + ds.length * cb := by
      rw [show ds.length - i = (ds.length - (i + 1)) + 1 by omega, Nat.add_mul, Nat.one_mul] at hb1; omega
    refine .inr ⟨wk.go ⟨H1, M1, C1⟩ i ok1 hlt, fun σ' H' => ∃ env M C b, b + (ds.length - (i + 1)) * cb ≤ b00 + ds.length * cb ∧ ER ((G.more l).at b) ⟨H', M, C⟩ env σ' ∧ wFor gd f (ds.drop (i + 1)) env De, fun σ' H' q => ⟨ds.length - (i + 1), by omega, rfl, hlt, q⟩, fun x H' hy => ?_⟩
    obtain ⟨sm, d, hd, rx⟩ := wk.yld ⟨H1, M1, C1⟩ i x H' er1.md ok1 hlt hy
    have hd' : d = ds[i] := by rw [List.getElem?_eq_getElem hlt] at hd; exact (Option.some.inj hd).symm
    subst hd'
    refine ⟨l, env1, env2, M1, C1, b1, ds[i], er1.same sm, rx, hg2, fun σ2 er2 _ => ⟨l, env2, M1, C1, b1, _, by omega, er2, hw2, ?_⟩⟩
    have lm := lf.mono (B' := b1 + cb) (by omega)
    exact ⟨fun env' q b w σ' hb er' => ⟨env', w.M, w.C, b, by omega, er', q⟩, fun dv q b w Hs v hb eh r hh => lm.rt dv q b w Hs v hb eh.fewer (by cases dv <;> exact r) hh, fun env' q b w σ' hb er' => lm.nx env' q b w σ' hb er'.fewer, fun env' q b w σ' hb er' => ⟨env', w.M, w.C, b, by omega, er', q⟩⟩
  · rw [List.drop_eq_nil_of_le (by omega)] at hw1
    have l0 : ds.length - i = 0 := by omega
    rw [l0, Nat.zero_mul] at hb1
    exact .inl ⟨wk.stop ⟨H1, M1, C1⟩ i ok1 (by omega), lf.nx env1 hw1 b1 ⟨H1, M1, C1⟩ σ1 (by omega) er1.fewer⟩
end
end DL
namespace DL
open PySem PySem.Spec PyProof.Rows L2 RZ
section
variable {X : Cx} {G : Gh} {tg e e2 : Expr} {wa : WE} {wr : WA} {ca : Nat} {pos p : Pos}
theorem walk_list {K : PySem.W.Frag} {a : Addr} {ds : List D} : Walk (Itl K a) [(.ref a, .list ds)] ds where
  go := fun w i h hi => by
    cases h _ (List.mem_singleton.mpr rfl) with
    | @lst _ xs _ _ hr rl => exact ⟨xs, xs[i]'(by rw [rl.length]; exact hi), SqL.of hr, List.getElem?_eq_getElem _⟩
  stop := fun w i h hi => by
    cases h _ (List.mem_singleton.mpr rfl) with
    | @lst _ xs _ _ hr rl => exact ⟨xs, SqL.of hr, by rw [rl.length]; exact hi⟩
  yld := fun w i x H' wk h hi hy => by
    obtain ⟨rfl, q⟩ := hy
    cases h _ (List.mem_singleton.mpr rfl) with
    | @lst _ xs _ _ hr rl =>
      obtain ⟨d, h1, h2⟩ := rl.getV (q xs (SqL.of hr))
      exact ⟨Same.refl _, d, h1, h2⟩
theorem walk_tup {K : PySem.W.Frag} {a : Addr} {ds : List D} : Walk (Itt K a) [(.ref a, .tuple ds)] ds where
  go := fun w i h hi => by
    cases h _ (List.mem_singleton.mpr rfl) with
    | @tup _ xs _ _ hr rl => exact ⟨xs, xs[i]'(by rw [rl.length]; exact hi), SqT.of hr, List.getElem?_eq_getElem _⟩
  stop := fun w i h hi => by
    cases h _ (List.mem_singleton.mpr rfl) with
    | @tup _ xs _ _ hr rl => exact ⟨xs, SqT.of hr, by rw [rl.length]; exact hi⟩
  yld := fun w i x H' wk h hi hy => by
    obtain ⟨rfl, q⟩ := hy
    cases h _ (List.mem_singleton.mpr rfl) with
    | @tup _ xs _ _ hr rl =>
      obtain ⟨d, h1, h2⟩ := rl.getV (q xs (SqT.of hr))
      exact ⟨Same.refl _, d, h1, h2⟩
def rangeD (lo : Int) (n : Nat) : List D := (List.range n).map fun i => .int (lo + (i : Nat))
theorem rangeD_length (lo : Int) (n : Nat) : (rangeD lo n).length = n := by simp [rangeD]
theorem walk_range (lo : Int) (n : Nat) : Walk (Itr lo n) [] (rangeD lo n) where
  go := fun w i h hi => by rw [rangeD_length] at hi; exact hi
  stop := fun w i h hi => by rw [rangeD_length] at hi; exact hi
  yld := fun w i x H' wk h hi hy => by
    obtain ⟨rfl, rfl⟩ := hy
    rw [rangeD_length] at hi
    refine ⟨Same.refl _, .int (lo + i), ?_, .int _⟩
    simp [rangeD, hi]
theorem zip_get {α : Type} {f : D → D → α} {a b : List D} {i : Nat} {x y : D} (h1 : a[i]? = some x) (h2 : b[i]? = some y) : (List.zipWith f a b)[i]? = some (f x y) := by
  rw [List.getElem?_zipWith, h1, h2]
def pairD (x y : D) : D := .tuple [x, y]
theorem zip_lt {a b : List D} {i : Nat} (h : i < (List.zipWith pairD a b).length) : i < a.length ∧ i < b.length := by
  rw [List.length_zipWith] at h; omega
theorem newPair {w : Wd} (k : Wk w) {T : Addr} {x y : V} {d e : D} (n : w.H T = none) (r1 : Rp w x d) (r2 : Rp w y e) : Rp ⟨upd w.H T (.tup [x, y]), w.M, w.C⟩ (.ref T) (pairD d e) := newT k n (.cons r1 (.cons r2 .nil))
theorem walk_zipL {K : PySem.W.Frag} {a b : Addr} {ds es : List D} : Walk (Itz K a b) [(.ref a, .list ds), (.ref b, .list es)] (List.zipWith pairD ds es) where
  go := fun w i h hi => by
    obtain ⟨l1, l2⟩ := zip_lt hi
    cases h _ (List.mem_cons_self ..) with
    | @lst _ xs _ _ hr rl =>
      cases h _ (List.mem_cons_of_mem _ (List.mem_singleton.mpr rfl)) with
      | @lst _ ys _ _ hr2 rl2 => exact ⟨xs, ys, xs[i]'(by rw [rl.length]; exact l1), ys[i]'(by rw [rl2.length]; exact l2), SqL.of hr, SqL.of hr2, List.getElem?_eq_getElem _, List.getElem?_eq_getElem _⟩
  stop := fun w i h hi => by
    rw [List.length_zipWith] at hi
    cases h _ (List.mem_cons_self ..) with
    | @lst _ xs _ _ hr rl =>
      cases h _ (List.mem_cons_of_mem _ (List.mem_singleton.mpr rfl)) with
      | @lst _ ys _ _ hr2 rl2 =>
        refine ⟨xs, ys, SqL.of hr, SqL.of hr2, ?_⟩
        rw [rl.length, rl2.length]; omega
  yld := fun w i x H' wk h hi hy => by
    obtain ⟨T, x1, y1, rfl, nT, rfl, q1, q2⟩ := hy
    cases h _ (List.mem_cons_self ..) with
    | @lst _ xs _ _ hr rl =>
      cases h _ (List.mem_cons_of_mem _ (List.mem_singleton.mpr rfl)) with
      | @lst _ ys _ _ hr2 rl2 =>
        obtain ⟨d1, g1, r1⟩ := rl.getV (q1 xs (SqL.of hr))
        obtain ⟨d2, g2, r2⟩ := rl2.getV (q2 ys (SqL.of hr2))
        exact ⟨same_new nT, pairD d1 d2, zip_get g1 g2, newPair wk nT r1 r2⟩
theorem walk_zipT {K : PySem.W.Frag} {a b : Addr} {ds es : List D} : Walk (ItzT K a b) [(.ref a, .tuple ds), (.ref b, .tuple es)] (List.zipWith pairD ds es) where
  go := fun w i h hi => by
    obtain ⟨l1, l2⟩ := zip_lt hi
    cases h _ (List.mem_cons_self ..) with
    | @tup _ xs _ _ hr rl =>
      cases h _ (List.mem_cons_of_mem _ (List.mem_singleton.mpr rfl)) with
      | @tup _ ys _ _ hr2 rl2 => exact ⟨xs, ys, xs[i]'(by rw [rl.length]; exact l1), ys[i]'(by rw [rl2.length]; exact l2), SqT.of hr, SqT.of hr2, List.getElem?_eq_getElem _, List.getElem?_eq_getElem _⟩
  stop := fun w i h hi => by
    rw [List.length_zipWith] at hi
    cases h _ (List.mem_cons_self ..) with
    | @tup _ xs _ _ hr rl =>
      cases h _ (List.mem_cons_of_mem _ (List.mem_singleton.mpr rfl)) with
      | @tup _ ys _ _ hr2 rl2 =>
        refine ⟨xs, ys, SqT.of hr, SqT.of hr2, ?_⟩
        rw [rl.length, rl2.length]; omega
  yld := fun w i x H' wk h hi hy => by
    obtain ⟨T, x1, y1, rfl, nT, rfl, q1, q2⟩ := hy
    cases h _ (List.mem_cons_self ..) with
    | @tup _ xs _ _ hr rl =>
      cases h _ (List.mem_cons_of_mem _ (List.mem_singleton.mpr rfl)) with
      | @tup _ ys _ _ hr2 rl2 =>
        obtain ⟨d1, g1, r1⟩ := rl.getV (q1 xs (SqT.of hr))
        obtain ⟨d2, g2, r2⟩ := rl2.getV (q2 ys (SqT.of hr2))
        exact ⟨same_new nT, pairD d1 d2, zip_get g1 g2, newPair wk nT r1 r2⟩
def enumD : Nat → List D → List D
  | _, [] => []
  | i, d :: r => pairD (.int (i : Nat)) d :: enumD (i + 1) r
theorem enumD_length : ∀ (i : Nat) (ds : List D), (enumD i ds).length = ds.length
  | _, [] => rfl
  | i, d :: r => by rw [enumD, List.length_cons, List.length_cons, enumD_length]
theorem enumD_get : ∀ (i : Nat) (ds : List D) (j : Nat) (d : D), ds[j]? = some d → (enumD i ds)[j]? = some (pairD (.int ((i + j : Nat) : Int)) d)
  | _, [], _, _, h => by simp at h
  | i, d :: r, 0, _, h => by simp at h; subst h; rfl
  | i, d :: r, j + 1, _, h => by
    simp only [List.getElem?_cons_succ] at h
    simp only [enumD, List.getElem?_cons_succ]
    rw [enumD_get (i + 1) r j _ h, show i + 1 + j = i + (j + 1) by omega]
theorem walk_enumL {K : PySem.W.Frag} {a : Addr} {ds : List D} : Walk (Ite K a) [(.ref a, .list ds)] (enumD 0 ds) where
  go := fun w i h hi => by
    rw [enumD_length] at hi
    cases h _ (List.mem_singleton.mpr rfl) with
    | @lst _ xs _ _ hr rl => exact ⟨xs, xs[i]'(by rw [rl.length]; exact hi), SqL.of hr, List.getElem?_eq_getElem _⟩
  stop := fun w i h hi => by
    rw [enumD_length] at hi
    cases h _ (List.mem_singleton.mpr rfl) with
    | @lst _ xs _ _ hr rl => exact ⟨xs, SqL.of hr, by rw [rl.length]; exact hi⟩
  yld := fun w i x H' wk h hi hy => by
    obtain ⟨T, x1, rfl, nT, rfl, q⟩ := hy
    cases h _ (List.mem_singleton.mpr rfl) with
    | @lst _ xs _ _ hr rl =>
      obtain ⟨d, h1, h2⟩ := rl.getV (q xs (SqL.of hr))
      have g := enumD_get 0 ds i d h1
      rw [Nat.zero_add] at g
      exact ⟨same_new nT, _, g, newPair wk nT (.int _) h2⟩

theorem PI_imp {tg iter : Expr} {t t' : TI} (h : PI X tg iter t) (i : ∀ σ H R, t' σ H R → t σ H R) : PI X tg iter t' := ⟨fun pins s σ H R I q => h.run pins s σ H R I (i σ H R q)⟩
/-- lists and tuples have their bounds -/
def Szd (H : Hp) : Prop := (∀ a xs, H a = some (.lst xs) → xs.length ≤ sizeLine) ∧ ∀ a xs, H a = some (.tup xs) → xs.length ≤ sizeLine
theorem szd_of {pins : List (Addr × Obj)} {σ : L2.St} {H : Hp} {s : Shared} (I : Inv X pins σ H s) : Szd H := ⟨fun a xs h => (I.hok a _ h).1, fun a xs h => (I.hok a _ h).1⟩
theorem size_many {n : Nat} (h : n ≤ sizeLine) : n ≤ many := Nat.le_trans h (by decide +kernel)
theorem PI_sz {tg iter : Expr} {t t' : TI} (h : PI X tg iter t) (i : ∀ σ H R, t' σ H R → t σ H fun J H1 => Szd H1 → R J H1) : PI X tg iter t' := ⟨fun pins s σ H R I q => thn (h.run pins s σ H _ I (i σ H R q)) fun v s1 hq => thn hq fun itv s2 pie => by
  obtain ⟨it, fp, tn, J, H', e, I', T, z, f, r⟩ := pie
  exact ⟨it, fp, tn, J, H', e, I', T, z, f, r (szd_of I')⟩⟩
/-- what a list or a tuple holds -/
def seqD : D → Option (List D)
  | .list ds => some ds
  | .tuple ds => some ds
  | _ => none
def wSrc (wa : WE) : WI := fun env P => wa env fun x => ∃ ds, x.kept.bind seqD = some ds ∧ P ds
theorem di_val (he : DE X G e wa ca) : DI X G tg e (wSrc wa) ca := by
  refine ⟨fun pins s σ H R I h => ?_⟩
  obtain ⟨env, M, C, b0, P, hb0, er, hw, hf⟩ := h
  refine thn (he.run pins s σ H (fun v H1 => ∃ w' d ds, w'.H = H1 ∧ Rp w' v d ∧ seqD d = some ds ∧ ∀ (J : It) (l : List (V × D)), (∀ p ∈ l, Rp w' p.1 p.2) → Walk J l ds → ds.length ≤ many → R J H1) I ⟨env, M, C, b0, _, hb0, er, hw, fun dv hd b' w' v hb' er' e' r => ?_⟩) fun u s1 hq => ?_
  · obtain ⟨ds, h1, p⟩ := hd
    obtain ⟨d, h2, h3⟩ := Option.bind_eq_some_iff.mp h1
    exact ⟨w', d, ds, rfl, r.rp h2, h3, fun J l hl wk hz => hf ds p b' w' J l hb' er' e' hl wk hz⟩
  · obtain ⟨x, H1, I1, r1, w', d, ds, rfl, rp, hd, go⟩ := hq
    have fin : ∀ b, b ∈ [s1.heap.objs.size] → FpOk X pins w'.H b := fun b hb => by
      have eb : b = s1.heap.objs.size := List.mem_singleton.mp hb
      rw [eb]
      exact I1.fpOk (Nat.le_refl _) (I1.hok.fresh (Nat.le_refl _))
    cases d with
    | list ds' =>
      cases hd
      cases rp with
      | @lst a xs _ nm hr rl =>
        cases r1
        obtain ⟨its, rv, pl, _⟩ := I1.list (SqL.of hr)
        refine wpAny_pyIter_list pl.isList ⟨_, [s1.heap.objs.size], _, Itl X.K a, w'.H, rfl, I1.kept (t' := s1.toks) fun b o q => Heap.get?_push_of_some _ q, turn_list a _, ⟨_, Heap.get?_push_size _ rfl, rfl, rfl⟩, fin, ?_⟩
        exact go _ [(.ref a, .list ds)] (fun p hp => by rw [List.mem_singleton.mp hp]; exact .lst nm hr rl) walk_list (by rw [← rl.length]; exact size_many ((szd_of I1).1 _ _ hr))
    | tuple ds' =>
      cases hd
      cases rp with
      | @tup a xs _ nm hr rl =>
        cases r1
        obtain ⟨its, rv, pl, _⟩ := I1.tuple (SqT.of hr)
        refine wpAny_pyIter_tuple (show s1.heap.IsTuple a its.toArray from pl) ⟨_, [s1.heap.objs.size], _, Itt X.K a, w'.H, rfl, I1.kept (t' := s1.toks) fun b o q => Heap.get?_push_of_some _ q, turn_tuple a _, ⟨_, Heap.get?_push_size _ rfl, rfl, rfl⟩, fin, ?_⟩
        exact go _ [(.ref a, .tuple ds)] (fun p hp => by rw [List.mem_singleton.mp hp]; exact .tup nm hr rl) walk_tup (by rw [← rl.length]; exact size_many ((szd_of I1).2 _ _ hr))
    | _ => cases hd
/-- range(n), range(a, b) -/
def rng1 : List D → Option (List D)
  | [.int j] => if -(2 ^ 62) ≤ j ∧ j < 2 ^ 62 then some (rangeD 0 j.toNat) else none
  | _ => none
def rng2 : List D → Option (List D)
  | [.int i, .int j] => if -(2 ^ 62) ≤ i ∧ i < 2 ^ 62 ∧ -(2 ^ 62) ≤ j ∧ j < 2 ^ 62 then some (rangeD i (j - i).toNat) else none
  | _ => none
def wRng (f : List D → Option (List D)) (wr : WA) : WI := fun env P => wr env fun xs => ∃ ds, (valL xs).bind f = some ds ∧ P ds
theorem tA.src {K : Ev → List Dv → (List D → Prop) → Prop} {σ : L2.St} {H : Hp} {R : It → Hp → Prop} {R' : List V → Hp → Prop} (h : tI G (fun env P => wr env fun x => K env x P) ca σ H R)
    (fin : ∀ {b : Nat} env w x dx P, ER (G.at b) w env σ → VRs G H w x dx → K env dx P → (∀ ds, P ds → ∀ (J : It) (l : List (V × D)), (∀ p ∈ l, Rp w p.1 p.2) → Walk J l ds → ds.length ≤ many → R J w.H) → R' x w.H) : tA G wr ca σ H R' := by
  obtain ⟨env, M, C, b0, P, hb0, er, hw, hf⟩ := h
  exact ⟨env, M, C, b0, _, hb0, er, hw, fun dx hx b1 w1 x hb1 er1 e1 r1 => fin env w1 x dx P er1 r1 hx fun ds p J l hl wk hz => hf ds p b1 w1 J l hb1 er1 e1 hl wk hz⟩
theorem rng1_get {es ds : List D} (h : rng1 es = some ds) : ∃ j, es = [.int j] ∧ (-(2 ^ 62) ≤ j ∧ j < 2 ^ 62) ∧ ds = rangeD 0 j.toNat := by
  unfold rng1 at h
  split at h
  · obtain ⟨c, rfl⟩ := of_if h
    exact ⟨_, rfl, c, rfl⟩
  · cases h
theorem rng2_get {es ds : List D} (h : rng2 es = some ds) : ∃ i j, es = [.int i, .int j] ∧ (-(2 ^ 62) ≤ i ∧ i < 2 ^ 62 ∧ -(2 ^ 62) ≤ j ∧ j < 2 ^ 62) ∧ ds = rangeD i (j - i).toNat := by
  unfold rng2 at h
  split at h
  · obtain ⟨c, rfl⟩ := of_if h
    exact ⟨_, _, rfl, c, rfl⟩
  · cases h
theorem di_range1 (hg : Gl X "range") (hm : X.mg "range" = none) (ha : DA X G [e] wr ca) (hs : starEach [e] X.env = [(false, eval e X.env)] := by rfl) : DI X G tg (.Call (.Name "range" p) [e] [] pos) (wRng rng1 wr) ca :=
  PI_imp (pi_range1 hg hm ha hs) fun σ H R h => tA.src h fun env w xs dxs P er rs k go => by
    obtain ⟨ds, h1, pp⟩ := k
    obtain ⟨es, h2, h3⟩ := Option.bind_eq_some_iff.mp h1
    obtain ⟨j, rfl, c, rfl⟩ := rng1_get h3
    cases rs.rq h2 with
    | cons a b =>
      cases a; cases b
      exact ⟨j, rfl, c.1, c.2, go _ pp _ [] (fun p hp => nomatch hp) (walk_range 0 j.toNat) (by rw [rangeD_length]; show j.toNat ≤ 2 ^ 64; omega)⟩
theorem di_range2 (hg : Gl X "range") (hm : X.mg "range" = none) (ha : DA X G [e, e2] wr ca) (hs : starEach [e, e2] X.env = [(false, eval e X.env), (false, eval e2 X.env)] := by rfl) (hs2 : starEach [e2] X.env = [(false, eval e2 X.env)] := by rfl) : DI X G tg (.Call (.Name "range" p) [e, e2] [] pos) (wRng rng2 wr) ca :=
  PI_imp (pi_range2 hg hm ha hs hs2) fun σ H R h => tA.src h fun env w xs dxs P er rs k go => by
    obtain ⟨ds, h1, pp⟩ := k
    obtain ⟨es, h2, h3⟩ := Option.bind_eq_some_iff.mp h1
    obtain ⟨i, j, rfl, c, rfl⟩ := rng2_get h3
    cases rs.rq h2 with
    | cons a b =>
      cases a
      cases b with
      | cons a b =>
        cases a; cases b
        exact ⟨i, j, rfl, c, go _ pp _ [] (fun p hp => nomatch hp) (walk_range i _) (by rw [rangeD_length]; show (j - i).toNat ≤ 2 ^ 64; omega)⟩
/-- zip of two lists, of two tuples -/
def zipD : List D → Option (List D)
  | [.list a, .list b] => some (List.zipWith pairD a b)
  | [.tuple a, .tuple b] => some (List.zipWith pairD a b)
  | _ => none
def wZip (wr : WA) : WI := fun env P => wr env fun xs => ∃ ds, (keptL xs).bind zipD = some ds ∧ P ds
theorem di_zip {elts : List Expr} {kk : Nat} {tpos : Pos} (hg : Gl X "zip") (hm : X.mg "zip" = none) (ha : DA X G [e, e2] wr ca) (hs : starEach [e, e2] X.env = (false, eval e X.env) :: starEach [e2] X.env := by rfl) (hpl : (backTo pos (starEach [e2] X.env)).any (·.1) = false := by rfl) :
    DI X G (.Tuple elts kk tpos) (.Call (.Name "zip" p) [e, e2] [] pos) (wZip wr) ca :=
  PI_sz (pi_zipA hg hm ha hs hpl) fun σ H R h => tA.src h fun env w xs dxs P er rs k go => by
    obtain ⟨ds, h1, pp⟩ := k
    obtain ⟨es, h2, h3⟩ := Option.bind_eq_some_iff.mp h1
    have rp := rs.rp h2
    unfold zipD at h3
    split at h3
    · cases h3
      cases rp with
      | cons a b =>
        cases b with
        | cons a2 b =>
          cases b
          have w1 := a
          have w2 := a2
          cases a with
          | lst n1 g1 q1 =>
            cases a2 with
            | lst n2 g2 q2 =>
              exact ⟨_, _, _, _, rfl, .inl ⟨SqL.of g1, SqL.of g2, fun sz => go _ pp _ _ (fun p hp => by
                rcases List.mem_cons.mp hp with rfl | hp
                · exact w1
                · rw [List.mem_singleton.mp hp]; exact w2) walk_zipL (by rw [List.length_zipWith, ← q1.length]; exact Nat.le_trans (Nat.min_le_left _ _) (size_many (sz.1 _ _ g1)))⟩⟩
    · cases h3
      cases rp with
      | cons a b =>
        cases b with
        | cons a2 b =>
          cases b
          have w1 := a
          have w2 := a2
          cases a with
          | tup n1 g1 q1 =>
            cases a2 with
            | tup n2 g2 q2 =>
              exact ⟨_, _, _, _, rfl, .inr ⟨SqT.of g1, SqT.of g2, fun sz => go _ pp _ _ (fun p hp => by
                rcases List.mem_cons.mp hp with rfl | hp
                · exact w1
                · rw [List.mem_singleton.mp hp]; exact w2) walk_zipT (by rw [List.length_zipWith, ← q1.length]; exact Nat.le_trans (Nat.min_le_left _ _) (size_many (sz.2 _ _ g1)))⟩⟩
    · cases h3
end
end DL
namespace DL
open PySem PySem.Spec PyProof.Rows L2

def wipeE (env : Ev) : List Nat → Ev
  | [] => env
  | v :: vs => (wipeE env vs).set v .no
theorem ER.wipe {G : Gh} {w : Wd} {env : Ev} {σ : L2.St} (er : ER G w env σ) : ∀ vs : List Nat, ER G w (wipeE env vs) (L2.wipe σ vs)
  | [] => er
  | v :: vs => (ER.wipe er vs).setNo v
theorem wipe_in {σ : L2.St} {i : Nat} : ∀ {vs : List Nat}, i ∈ vs → i < σ.length → (L2.wipe σ vs)[i]? = some none
  | v :: vs, h, hl => by
    unfold L2.wipe
    by_cases e : v = i
    · subst e
      rw [List.getElem?_set_self (by rw [wipe_length]; exact hl)]
    · rw [List.getElem?_set_ne e]
      rcases List.mem_cons.mp h with q | q
      · exact absurd q.symm e
      · exact wipe_in q hl
theorem wipe_eqx {σ σ' : L2.St} {ix vs : List Nat} (h : Eqx ix (L2.wipe σ vs) σ') (hs : ∀ i ∈ ix, i ∈ vs) : L2.wipe σ' vs = L2.wipe σ vs := by
  have hl : σ'.length = σ.length := by rw [h.1, wipe_length]
  refine List.ext_getElem? fun i => ?_
  by_cases hi : i ∈ vs
  · by_cases hb : i < σ.length
    · rw [wipe_in hi (by rw [hl]; exact hb), wipe_in hi hb]
    · rw [List.getElem?_eq_none (by rw [wipe_length]; omega), List.getElem?_eq_none (by rw [wipe_length]; omega)]
  · rw [wipe_out hi]
    exact h.2 i fun z => hi (hs i z)
theorem EH.poke {G : Gh} {w : Wd} {a : Addr} {o : HO} (h : EH G w) (m : w.M a) (c : ¬ w.C a) (p : G.Pt a = none) : EH G ⟨upd w.H a o, w.M, w.C⟩ := by
  have ne : ∀ b x, G.Pt b = some x → b ≠ a := fun b x q z => by rw [z, p] at q; cases q
  have st : St1 w ⟨upd w.H a o, w.M, w.C⟩ := ⟨fun b x n q => .inl (by show upd w.H a o b = some x; rw [upd_ne (fun z => n (by rw [z]; exact m))]; exact q), fun b m => .inl m⟩
  have up : ∀ b, w.H b ≠ none → upd w.H a o b ≠ none := fun b q => by
    by_cases z : b = a
    · rw [z, upd_same]; simp
    · rw [upd_ne z]; exact q
  refine ⟨fun b x q => ?_, h.m0, h.nc, h.cp, h.cm, fun b q => up b (h.md b q), fun b q => up b (h.hd b q), fun p hp => (h.gk p hp).st st, G.stab _ _ _ _ h.si fun b x q z => ?_⟩
  · show upd w.H a o b = some x ∨ _
    rw [upd_ne (ne b x q)]
    exact (h.kp b x q).elim .inl fun ⟨q1, q2, ob, q3⟩ => .inr ⟨q1, q2, ob, by show upd w.H a o b = _; rw [upd_ne (ne b x q)]; exact q3⟩
  · show upd w.H a o b = some x
    rw [upd_ne (fun y => c (by rw [← y]; exact q))]; exact z
section
variable {X : Cx} {G : Gh} {elt tg iter : Expr} {ifs : List Expr} {scope : Scope} {own : List (Str × Nat)} {pos : Pos} {ix : List Nat} {wi : WI} {gd : GD} {wt : WT} {we : WE} {ci ct ce : Nat}
def wYes : WT := fun _ P => P true
theorem dts_nil : PTs X [] (tT G wYes 0) := ⟨fun pins s σ H Q I h => pts_nil.run pins s σ H Q I (by
  obtain ⟨env, M, C, b0, P, hb0, er, p, hf⟩ := h
  exact hf _ p b0 _ (Nat.le_refl _) er (Ext.refl _))⟩
theorem dts_one {c : Expr} (h : DT X G c wt ct) : PTs X [c] (tT G wt ct) := pts_one h
def wLcL (gd : GD) (wt : WT) (we : WE) (env : Ev) (P : Dv → Prop) : List D → List D → Prop
  | [], acc => P (.nw (.list acc))
  | d :: r, acc => ∃ env', gd d env = some env' ∧ wt env' fun b => if b = true then we env' fun y => ∃ dy, y.kept = some dy ∧ acc.length < sizeLine ∧ wLcL gd wt we env P r (acc ++ [dy]) else wLcL gd wt we env P r acc
def wLc (wi : WI) (gd : GD) (wt : WT) (we : WE) (vs : List Nat) : WE := fun env P => wi env fun ds => wLcL gd wt we (wipeE env vs) P ds []
/-- the readings with the values that are walked kept aside -/
def gE (G : Gh) (ix : List Nat) (gd : GD) : TG := fun v σ H Q => ∃ l, tG (G.more l) ix gd v σ H Q
def ttE (G : Gh) (wt : WT) (ct : Nat) : TT := fun σ H Q => ∃ l, tT (G.more l) wt ct σ H Q
def teE (G : Gh) (we : WE) (ce : Nat) : TE := fun σ H Q => ∃ l, tV (G.more l) we ce σ H Q
theorem rdLc {vs : List Nat} {σ : L2.St} {H : Hp} {Q : VK} (h : tV G (wLc wi gd wt we vs) (ci + many * (ct + ce)) σ H Q) (hix : ∀ i ∈ ix, i ∈ vs) : tLc (tI G wi ci) (gE G ix gd) (ttE G wt ct) (teE G we ce) vs σ H Q := by
  obtain ⟨env, M, C, b0, P, hb0, er, hw, hf⟩ := h
  refine ⟨env, M, C, b0, _, by omega, er, hw, fun ds hds b1 w1 J l hb1 er1 e1 hl wk hz L nL => ?_⟩
  have hz' := le_many (a := ct + ce) hz
  have nM1 : ¬ w1.M L := fun m => er1.md L m nL
  have nC1 : ¬ w1.C L := fun c => nM1 (er1.cm L c)
  have pL : G.Pt L = none := by
    cases q : G.Pt L with
    | none => rfl
    | some x => rcases er1.kp L x q with z | ⟨_, _, ob, z⟩ <;> (rw [nL] at z; cases z)
  refine ⟨fun i m H => m = ds.length - i ∧ i ≤ ds.length ∧ ∃ (M C : Addr → Prop) (b : Nat) (accV : List V) (acc : List D), b + m * (ct + ce) ≤ b1 + ds.length * (ct + ce) ∧ ER ((G.more l).at b) ⟨H, M, C⟩ (wipeE env vs) (L2.wipe σ vs) ∧ Ext w1 ⟨H, M, C⟩ ∧ M L ∧ ¬ C L ∧ H L = some (.lst accV) ∧ RpL ⟨H, M, C⟩ accV acc ∧ wLcL gd wt we (wipeE env vs) P (ds.drop i) acc, ?_, fun i m H2 hW => ?_⟩
  · refine ⟨ds.length, by simp, Nat.zero_le _, fun b => w1.M b ∨ b = L, w1.C, b1, [], [], Nat.le_refl _, ?_, ?_, .inr rfl, nC1, upd_same, .nil, hds⟩
    · exact ((er1.more hl).ext' (Ext.plus (same_new nL) nL) ((er1.more hl).toEH.plus (same_new nL) nL (by rw [upd_same]; simp))).wipe vs
    · exact Ext.plus (same_new nL) nL
  · obtain ⟨rfl, hi, M2, C2, b2, accV, acc, hb2, er2, e2, mL, cL, hL, rl, hw2⟩ := hW
    have ok2 := er2.toEH.those
    by_cases hlt : i < ds.length
    · rw [List.drop_eq_getElem_cons hlt] at hw2
      obtain ⟨env3, hg3, hw3⟩ := hw2
      have hb2' : b2 + (ds.length - (i + 1)) * (ct + ce) + (ct + ce) ≤ b1 + ds.length * (ct + ce) := by
        rw [show ds.length - i = (ds.length - (i + 1)) + 1 by omega, Nat.add_mul, Nat.one_mul] at hb2; omega
      refine .inr ⟨wk.go ⟨H2, M2, C2⟩ i ok2 hlt, fun H' => ∃ (M C : Addr → Prop) (b : Nat) (accV : List V) (acc : List D), b + (ds.length - (i + 1)) * (ct + ce) ≤ b1 + ds.length * (ct + ce) ∧ ER ((G.more l).at b) ⟨H', M, C⟩ (wipeE env vs) (L2.wipe σ vs) ∧ Ext w1 ⟨H', M, C⟩ ∧ M L ∧ ¬ C L ∧ H' L = some (.lst accV) ∧ RpL ⟨H', M, C⟩ accV acc ∧ wLcL gd wt we (wipeE env vs) P (ds.drop (i + 1)) acc,
        fun H' q => ⟨ds.length - (i + 1), by omega, rfl, hlt, q⟩, fun x H' hy => ?_⟩
      obtain ⟨sm, d, hd, rx⟩ := wk.yld ⟨H2, M2, C2⟩ i x H' er2.md ok2 hlt hy
      have hd' : d = ds[i] := by rw [List.getElem?_eq_getElem hlt] at hd; exact (Option.some.inj hd).symm
      subst hd'
      have hL' : H' L = some (.lst accV) := sm _ _ hL
      refine ⟨l, wipeE env vs, env3, M2, C2, b2, ds[i], er2.same sm, rx, hg3, fun σ3 er3 x3 => ⟨wipe_eqx x3 hix, l, env3, M2, C2, b2, _, by omega, er3, hw3, fun b hb b4 w4 hb4 er4 e4 => ?_⟩⟩
      have ex4 : Ext w1 w4 := (e2.trans (Ext.same (w := ⟨H2, M2, C2⟩) sm)).trans e4
      have cL4 : ¬ w4.C L := fun c => (e4.newC L c).elim cL fun q => by have q' : H' L = none := q; rw [hL'] at q'; cases q'
      have hL4 : w4.H L = some (.lst accV) := e4.own (w := ⟨H', M2, C2⟩) cL mL hL'
      have rl4 : RpL w4 accV acc := (rl.st (St1.same (w := ⟨H2, M2, C2⟩) sm)).st (e4.st er3.cm)
      have back : ∀ {b5 : Nat} {w5 : Wd}, EH ((G.more l).at b5) w5 → Ext w1 w5 → ER ((G.more l).at b5) w5 (wipeE env vs) (L2.wipe σ vs) := fun {b5 w5} eh5 e5 => by
        have z := ((er1.wipe vs).ext' e5 eh5.fewer)
        exact ⟨eh5, z.len, z.sl, z.od⟩
      cases b with
      | false =>
        rw [if_neg Bool.false_ne_true] at hb
        refine iteF ?_
        exact ⟨w4.M, w4.C, b4, accV, acc, by omega, back er4.toEH ex4, ex4, e4.oldM L mL, cL4, hL4, rl4, hb⟩
      | true =>
        rw [if_pos rfl] at hb
        refine iteT ?_
        refine ⟨l, env3, w4.M, w4.C, b4, _, by omega, er4, hb, fun y hy b5 w5 v5 hb5 er5 e5 r5 => ?_⟩
        obtain ⟨dy, hk, hz5, hn⟩ := hy
        have ex5 := ex4.trans e5
        have mL4 : w4.M L := e4.oldM L mL
        have cL5 : ¬ w5.C L := fun c => (e5.newC L c).elim cL4 fun q => by rw [hL4] at q; cases q
        have hL5 : w5.H L = some (.lst accV) := e5.own cL4 mL4 hL4
        have mL5 : w5.M L := e5.oldM L mL4
        have rl5 : RpL w5 accV acc := rl4.st (e5.st er4.cm)
        have ry : Rp w5 v5 dy := r5.rp hk
        have ex6 : Ext w1 ⟨upd w5.H L (.lst (accV ++ [v5])), w5.M, w5.C⟩ := by
          refine ⟨fun a o n h => ?_, fun a h => ?_, ex5.newC, ex5.newM, ex5.oldM⟩
          · have ne : a ≠ L := fun z => by rw [z, nL] at h; cases h
            show upd w5.H L _ a = some o ∨ _
            rw [upd_ne ne]
            exact (ex5.keep a o n h).elim .inl fun ⟨q1, q2, ob, q3⟩ => .inr ⟨q1, q2, ob, by show upd w5.H L _ a = _; rw [upd_ne ne]; exact q3⟩
          · have ne : a ≠ L := fun z => h (by rw [z]; exact nL)
            show upd w5.H L _ a ≠ none
            rw [upd_ne ne]
            exact ex5.dom a h
        have st : St1 w5 ⟨upd w5.H L (.lst (accV ++ [v5])), w5.M, w5.C⟩ := ⟨fun a o n h => .inl (by show upd w5.H L _ a = some o; rw [upd_ne (fun z => n (by rw [z]; exact mL5))]; exact h), fun a m => .inl m⟩
        exact ⟨accV, hL5, by rw [rl5.length]; exact hz5, w5.M, w5.C, b5, accV ++ [v5], acc ++ [dy], by omega, back (er5.toEH.poke mL5 cL5 pL) ex6, ex6, mL5, cL5, upd_same, (rl5.append (.cons ry .nil)).st st, hn⟩
    · rw [List.drop_eq_nil_of_le (by omega)] at hw2
      refine .inl ⟨wk.stop ⟨H2, M2, C2⟩ i ok2 (by omega), ?_⟩
      -- the new list is nobody's own any more
      have eh := er2.toEH.fewer
      have nw1 : ∀ a, w1.M a → a ≠ L := fun a m z => nM1 (by rw [← z]; exact m)
      have st : St1 ⟨H2, M2, C2⟩ ⟨H2, fun a => M2 a ∧ a ≠ L, C2⟩ := ⟨fun a o _ h => .inl h, fun a m => .inl m.1⟩
      have ex : Ext w1 ⟨H2, fun a => M2 a ∧ a ≠ L, C2⟩ := ⟨fun a o n h => e2.keep a o n h, e2.dom, e2.newC, fun a m => e2.newM a m.1, fun a m => ⟨e2.oldM a m, nw1 a m⟩⟩
      have eh' : EH (G.at b2) ⟨H2, fun a => M2 a ∧ a ≠ L, C2⟩ := ⟨eh.kp, fun a m => ⟨eh.m0 a m, nw1 a (er1.m0 a m)⟩, eh.nc, eh.cp, fun a c => ⟨eh.cm a c, fun z => cL (by rw [← z]; exact c)⟩, fun a m => eh.md a m.1, eh.hd, fun p hp => (eh.gk p hp).st st, eh.si⟩
      have st2 : St1 ⟨H2, M2, C2⟩ (Wd.plus ⟨H2, fun a => M2 a ∧ a ≠ L, C2⟩ L) := ⟨fun a o _ h => .inl h, fun a m => .inl (Or.elim m (fun q => q.1) fun q => by rw [q]; exact mL)⟩
      refine hf _ hw2 b2 ⟨H2, fun a => M2 a ∧ a ≠ L, C2⟩ _ (by rw [show ds.length - i = 0 by omega, Nat.zero_mul] at hb2; omega) (er1.ext' ex eh') (e1.trans ex) ⟨L, rfl, e1.free nL, ⟨fun t => (nomatch t), fun m => (m.2 rfl).elim⟩, cL, .lst hL (rl.st st2)⟩
theorem de_lc {vs : List Nat} (hc : X.calm = true) (hN : X.N.Nodup) (hi : DI X G tg iter wi ci) (ok : BlkOk X.N X.env.scope scope own)
    (hg : ∀ (l : List (V × D)) (s : Shared) (H : Hp) (C : Addr) (cl : List (Str × Addr)) (fp : List Addr), PG (X.blk s H scope (compEnvC scope cl C X.env) fp) tg (tG (G.more l) ix gd))
    (ht : ∀ (l : List (V × D)) (s : Shared) (H : Hp) (C : Addr) (cl : List (Str × Addr)) (fp : List Addr), PTs (X.blk s H scope (compEnvC scope cl C X.env) fp) ifs (tT (G.more l) wt ct))
    (he : ∀ (l : List (V × D)) (s : Shared) (H : Hp) (C : Addr) (cl : List (Str × Addr)) (fp : List Addr), DE (X.blk s H scope (compEnvC scope cl C X.env) fp) (G.more l) elt we ce)
    (hix : ∀ i ∈ ix, i ∈ vs) (hs : ∀ x, foldedSetIterable iter X.env x = pure x := by intro _; rfl) (hvs : own.map (·.2) = vs := by rfl) : DE X G (.ListComp elt [⟨tg, iter, ifs, 0⟩] scope pos) (wLc wi gd wt we vs) (ci + many * (ct + ce)) := by
  subst hvs
  exact PE_imp (pe_lc hc hN hi ok (fun s H C cl fp => ⟨fun pins s' σ H' v u Q I r ⟨l, q⟩ => (hg l s H C cl fp).run pins s' σ H' v u Q I r q⟩)
    (fun s H C cl fp => ⟨fun pins s' σ H' Q I ⟨l, q⟩ => (ht l s H C cl fp).run pins s' σ H' Q I q⟩) (fun s H C cl fp => ⟨fun pins s' σ H' Q I ⟨l, q⟩ => (he l s H C cl fp).run pins s' σ H' Q I q⟩) hs) fun σ H Q h => rdLc h hix
theorem ds_setLc (k : Kp) (i : Nat) {vs : List Nat} {y : Str} {py spos : Pos} (hc : X.calm = true) (hN : X.N.Nodup) (hy : X.N[i]? = some y) (hyl : X.env.scope.names.lookup y = some .local)
    (hsw : swapsWith (.ListComp elt [⟨tg, iter, ifs, 0⟩] scope pos) (some (.Name y py)) spos.line X.env = pure true) (hi : DI X G tg iter wi ci) (ok : BlkOk X.N X.env.scope scope own)
    (hg : ∀ (l : List (V × D)) (s : Shared) (H : Hp) (C : Addr) (cl : List (Str × Addr)) (fp : List Addr), PG (X.blk s H scope (compEnvC scope cl C X.env) fp) tg (tG (G.more l) ix gd))
    (ht : ∀ (l : List (V × D)) (s : Shared) (H : Hp) (C : Addr) (cl : List (Str × Addr)) (fp : List Addr), PTs (X.blk s H scope (compEnvC scope cl C X.env) fp) ifs (tT (G.more l) wt ct))
    (he : ∀ (l : List (V × D)) (s : Shared) (H : Hp) (C : Addr) (cl : List (Str × Addr)) (fp : List Addr), DE (X.blk s H scope (compEnvC scope cl C X.env) fp) (G.more l) elt we ce)
    (hix : ∀ i ∈ ix, i ∈ vs) (hs : ∀ x, foldedSetIterable iter X.env x = pure x := by intro _; rfl) (hvs : own.map (·.2) = vs := by rfl) : DS X G (.Assign [.Name y py] (.ListComp elt [⟨tg, iter, ifs, 0⟩] scope pos) spos) (wSet k i (wLc wi gd wt we vs)) (ci + many * (ct + ce)) := by
  subst hvs
  exact PS_imp (ps_setLc hc hN hy hyl hsw hi ok (fun s H C cl fp => ⟨fun pins s' σ H' v u Q I r ⟨l, q⟩ => (hg l s H C cl fp).run pins s' σ H' v u Q I r q⟩)
    (fun s H C cl fp => ⟨fun pins s' σ H' Q I ⟨l, q⟩ => (ht l s H C cl fp).run pins s' σ H' Q I q⟩) (fun s H C cl fp => ⟨fun pins s' σ H' Q I ⟨l, q⟩ => (he l s H C cl fp).run pins s' σ H' Q I q⟩) hs) fun σ H T h => rdSet h fun Q q => rdLc q hix
end
end DL
namespace DL
open PySem PySem.Spec PyProof.Rows L2

/-! ### a def's promise, where no repr runs around -/
structure FnG (P : Program) (w : World) (K : PySem.W.Frag) (mg : Str → Option Value) (base : Heap) (CX : CXT) (k : Nat) (f : Addr) (fd : FuncData) (ps : List Str) (sp : Sp) : Prop where
  len : ∀ vs H Q E, sp vs H Q E → vs.length = ps.length
  run : ∀ (A : Around) (outer : List Env) (s : Shared) (H : Hp) (args : Args) (us : List Value) (vs : List V) (Q : VK) (E : XK), A.guards = some [] → Room k A → Env0 P w K mg base A outer s H → BindsTo s fd args (ps.zip us) → Vals vs us → sp vs H Q E →
    codeAny (model P w) A (.call (.ref f) args) (CR CX outer P w H s Q E) s
theorem FnG.mono {P : Program} {w : World} {K : PySem.W.Frag} {mg : Str → Option Value} {base : Heap} {CX : CXT} {j k : Nat} {f : Addr} {fd : FuncData} {ps : List Str} {sp : Sp} (F : FnG P w K mg base CX j f fd ps sp) (h : j ≤ k) : FnG P w K mg base CX k f fd ps sp :=
  ⟨F.len, fun A outer s H args us vs Q E g r => F.run A outer s H args us vs Q E g (r.mono h)⟩
theorem fnG_of {CX : CXT} {P : Program} {w : World} {K : PySem.W.Frag} {mg : Str → Option Value} {base : Heap} {k : Nat} {f : Addr} {name qual : Str} {params : Arguments} {body : List Stmt} {scope : Scope} {dV kV doc pm cdv ct oc : Value} {an od : Option Addr}
    {osl : Array (Option Value)} {N ps : List Str} {sp : Sp} (hlk : K.lookup f = some ⟨oc, od, .func (PySem.W.fnOf name qual params body scope dV kV doc pm an cdv ct), osl⟩) (hco : PySem.W.codeIn K cdv qual = true) (S : FnScope N ps scope)
    (hlen : ∀ vs H Q E, sp vs H Q E → vs.length = ps.length)
    (hb : ∀ (A : Around) (outer : List Env) (s : Shared) (H : Hp) (vs : List V) (Q : VK) (E : XK), A.guards = some [] → Room k (A.deeper (envOfC qual scope s.heap.objs.size f cdv)) → sp vs H Q E →
      ∃ t, PSs (cxOf CX P w K mg base N qual scope f cdv A outer s H E) body t ∧ t { nx := fun _ H' => Q .non H', rt := Q } (L2.start N vs) H) :
    FnG P w K mg base CX (k + 1) f (PySem.W.fnOf name qual params body scope dV kV doc pm an cdv ct) ps sp := by
  refine ⟨hlen, fun A outer s H args us vs Q E hgd hroom env0 hbind hvals hs => ?_⟩
  have inK : K.In s.heap := env0.mod.kin.keeps fun b o q => (env0.bs b o q).1
  have nol : s.heap.NoLimit := env0.mod.nolimit.keeps fun b o q => (env0.bs b o q).1
  have kinds : ∀ y ∈ ps.zip us, scope.names.lookup y.1 = some .local ∨ (scope.names.lookup y.1 = some .cell ∧ ((cellsFrom (s.heap.objs.size + 1) scope.names []).lookup y.1).isSome = true) := by
    rintro ⟨n, v⟩ hy
    exact (S.par n (List.of_mem_zip hy).1).imp id fun q => ⟨q, PySem.W.cellsFrom_some _ _ _ (.inl q)⟩
  refine codeAny_call_function hroom.depth (inK _ _ hlk) rfl S.co S.gen rfl (PySem.W.codeRec_of inK hco) (hbind _ _ _ _ (wpAny_newFunctionEnv_cells S.kind kinds fun env he s1 x => ?_))
  subst he
  refine ⟨nol.keeps x.toInCall.keep, codeAny_func ?_⟩
  obtain ⟨t, pt, ht⟩ := hb A outer s H vs Q E hgd (hroom.deeper _) hs
  have inv0 := inv_start (CX := CX) (E := E) S hroom.hd env0 (hlen _ _ _ _ hs) hvals x
  refine wpAny_mono (pt.run [] s1 (L2.start N vs) H _ inv0 ht) (fun fl s2 q => ?_) fun e s2 q => q
  cases fl with
  | ret u => obtain ⟨v, σ2, H2, J, rv, q⟩ := q; exact ⟨v, H2, J.os, J.bare, J.base, J.hok, rv, q⟩
  | next => obtain ⟨σ2, H2, J, q⟩ := q; exact ⟨.non, H2, J.os, J.bare, J.base, J.hok, rfl, q⟩
  | brk => obtain ⟨_, _, _, q⟩ := q; exact q.elim
  | cont => obtain ⟨_, _, _, q⟩ := q; exact q.elim

/-! ### promises over data -/
inductive Ag where
  | fz (d : D) | bw (d : D) | raw (v : V)
def AR (w : Wd) (v : V) : Ag → Prop
  | .fz d => Rp w v d
  | .bw d => ∃ a, v = .ref a ∧ w.M a ∧ ¬ w.C a ∧ Ow w a d
  | .raw u => v = u
inductive ARs (w : Wd) : List V → List Ag → Prop
  | nil : ARs w [] []
  | cons {v : V} {vs : List V} {a : Ag} {as : List Ag} : AR w v a → ARs w vs as → ARs w (v :: vs) (a :: as)
theorem ARs.length {w : Wd} : ∀ {vs : List V} {as : List Ag}, ARs w vs as → vs.length = as.length
  | _, _, .nil => rfl
  | _, _, .cons _ r => by rw [List.length_cons, List.length_cons, ARs.length r]
def Dv.ag : Dv → Ag
  | .fz d => .fz d
  | .nw d => if isDct d = true then .bw d else .fz d
  | .ow d => .bw d
  | .bw d => .bw d
  | .raw v => .raw v
def Ag.sl : Ag → Sl
  | .fz d => .fz d
  | .bw d => .bw d
  | .raw v => .raw v
theorem VR.ar {G : Gh} {Hs : Hp} {w : Wd} {v : V} {dv : Dv} (h : VR G Hs w v dv) : AR w v dv.ag := by
  cases dv with
  | fz d => exact h
  | nw d =>
    by_cases q : isDct d = true
    · obtain ⟨a, rfl, z, m, n, o⟩ := h
      simp only [Dv.ag, if_pos q]
      exact ⟨a, rfl, m.mp q, n, o.st (St1.less w a) rfl⟩
    · simp only [Dv.ag, if_neg q]
      exact VR.rp h (by simp only [Dv.kept, if_neg q])
  | ow d => obtain ⟨a, e, m, _, _, n, o⟩ := h; exact ⟨a, e, m, n, o⟩
  | bw d => obtain ⟨a, e, m, n, o⟩ := h; exact ⟨a, e, m, n, o⟩
  | raw u => exact h
theorem VRs.ars {G : Gh} {Hs : Hp} {w : Wd} : ∀ {vs : List V} {ds : List Dv}, VRs G Hs w vs ds → ARs w vs (ds.map Dv.ag)
  | _, _, .nil => .nil
  | _, _, .cons h r => .cons h.ar (VRs.ars r)
/-- C is part of M, M of what there is -/
structure Wf (w : Wd) : Prop where
  cm : ∀ a, w.C a → w.M a
  md : ∀ a, w.M a → w.H a ≠ none
abbrev Spec := List Ag → (D → Prop) → Prop
abbrev SInv := Nat → (Addr → Prop) → Hp → Prop
def Stab (SI : SInv) : Prop := ∀ b C H H', SI b C H → (∀ a o, C a → H a = some o → H' a = some o) → SI b C H'
def spF (SI : SInv) (c : Nat) (spec : Spec) : Sp := fun vs H Q _ => ∃ (as : List Ag) (M C : Addr → Prop) (b : Nat) (Pd : D → Prop), b + c ≤ cap ∧ Wf ⟨H, M, C⟩ ∧ SI b C H ∧ ARs ⟨H, M, C⟩ vs as ∧ spec as Pd ∧ ∀ d, Pd d → ∀ b' w' v, b' ≤ b + c → Ext ⟨H, M, C⟩ w' → SI b' w'.C w'.H → Wf w' → Rp w' v d → Q v w'.H
/-- the state's promise: none -/
def SI0 : SInv := fun _ _ _ => True
theorem stab0 : Stab SI0 := fun _ _ _ _ _ _ => trivial
theorem EH.ext {G : Gh} {b b' : Nat} {w w' : Wd} (h : EH (G.at b) w) (e : Ext w w') (si : G.SI b' w'.C w'.H) (wf : Wf w') : EH (G.at b') w' where
  kp := fun a o q => by
    have nc : ¬ w.C a := fun c => by rw [h.cp a c] at q; cases q
    rcases h.kp a o q with z | ⟨n, d, ob, z⟩
    · exact (e.keep a o nc z).imp id fun ⟨m, r⟩ => ⟨fun k => m (h.m0 a k), r⟩
    · exact .inr ⟨n, d, ob, (e.lk nc z).exact no_dct_frz⟩
  m0 := fun a m => e.oldM a (h.m0 a m)
  nc := fun a c => (e.newC a c).elim (h.nc a) fun q => .inr (by
    cases z : G.H0 a with
    | none => rfl
    | some o => exact absurd q (h.hd a (by rw [z]; simp)))
  cp := fun a c => (e.newC a c).elim (h.cp a) fun q => by
    cases z : G.Pt a with
    | none => rfl
    | some o => rcases h.kp a o z with y | ⟨_, _, ob, y⟩ <;> (rw [q] at y; cases y)
  cm := wf.cm
  md := wf.md
  hd := fun a q => e.dom a (h.hd a q)
  gk := fun p hp => (h.gk p hp).st (e.st h.cm)
  si := si
theorem EH.wf {G : Gh} {w : Wd} (h : EH G w) : Wf w := ⟨h.cm, h.md⟩

/-! ### the body of a def -/
open Classical in
noncomputable def ghPt (C : Addr → Prop) (H : Hp) : Hp := fun a => if C a then none else H a
noncomputable def ghOf (SI : SInv) (st : Stab SI) (H : Hp) (M C : Addr → Prop) (mh : ∀ a, M a → H a ≠ none) : Gh where
  b := 0
  Pt := ghPt C H
  H0 := H
  M0 := M
  mh := mh
  C0 := C
  gs := []
  SI := SI
  stab := st
theorem ghOf_pt {H : Hp} {C : Addr → Prop} {a : Addr} (n : ¬ C a) : ghPt C H a = H a := if_neg n
theorem ghOf_pt0 {H : Hp} {C : Addr → Prop} {a : Addr} (n : C a) : ghPt C H a = none := if_pos n
def env0 (n : Nat) (as : List Ag) : Ev := as.map Ag.sl ++ List.replicate (n - as.length) .no
theorem start_er {SI : SInv} {st : Stab SI} {H : Hp} {M C : Addr → Prop} {N : List Str} {vs : List V} {as : List Ag} {b : Nat} (wf : Wf ⟨H, M, C⟩) (si : SI b C H) (r : ARs ⟨H, M, C⟩ vs as) : ER ((ghOf SI st H M C wf.md).at b) ⟨H, M, C⟩ (env0 N.length as) (L2.start N vs) := by
  have hl := r.length
  refine ⟨⟨fun a o q => ?_, fun a m => m, fun a c => .inl c, fun a c => ghOf_pt0 c, wf.cm, wf.md, fun a q => q, fun p hp => (nomatch hp), si⟩, ?_, fun i s ov h1 h2 => ?_, fun i j d e a h1 h2 _ _ => ?_⟩
  · by_cases c : C a
    · have q' := (ghOf_pt0 (H := H) c).symm.trans q; cases q'
    · exact .inl ((ghOf_pt c).symm.trans q)
  · unfold env0 L2.start
    rw [List.length_append, List.length_append, List.length_map, List.length_map, List.length_replicate, List.length_replicate, hl]
  · unfold env0 at h1
    unfold L2.start at h2
    by_cases hi : i < as.length
    · rw [List.getElem?_append_left (by rw [List.length_map]; exact hi), List.getElem?_map] at h1
      rw [List.getElem?_append_left (by rw [List.length_map, hl]; exact hi), List.getElem?_map] at h2
      have get : ∀ {vs : List V} {as : List Ag} {i : Nat} {a : Ag} {v : V}, ARs ⟨H, M, C⟩ vs as → as[i]? = some a → vs[i]? = some v → AR ⟨H, M, C⟩ v a := by
        intro vs as i a v r
        induction r generalizing i with
        | nil => intro h; simp at h
        | cons h r ih =>
          cases i with
          | zero => intro h1 h2; simp at h1 h2; subst h1; subst h2; exact h
          | succ i => intro h1 h2; exact ih (by simpa using h1) (by simpa using h2)
      obtain ⟨ag, g1, rfl⟩ := Option.map_eq_some_iff.mp h1
      obtain ⟨v, g2, rfl⟩ := Option.map_eq_some_iff.mp h2
      have q := get r g1 g2
      cases ag with
      | fz d => exact ⟨v, rfl, q⟩
      | raw u => exact congrArg some q
      | bw d =>
        obtain ⟨a, rfl, m, n, o⟩ := q
        have hd : ∃ ob, H a = some ob := by cases o <;> exact ⟨_, by assumption⟩
        obtain ⟨ob, ho⟩ := hd
        exact ⟨a, rfl, m, n, ⟨ob, (ghOf_pt n).trans ho⟩, o⟩
    · rw [List.getElem?_append_right (by rw [List.length_map]; omega), List.getElem?_replicate] at h1
      split at h1
      · cases h1; trivial
      · cases h1
  · exfalso
    unfold env0 at h1
    by_cases hi : i < as.length
    · rw [List.getElem?_append_left (by rw [List.length_map]; exact hi), List.getElem?_map] at h1
      obtain ⟨ag, _, g⟩ := Option.map_eq_some_iff.mp h1
      cases ag <;> cases g
    · rw [List.getElem?_append_right (by rw [List.length_map]; omega), List.getElem?_replicate] at h1
      split at h1 <;> cases h1
/-- the data that a def hands back -/
def Dv.ret : Dv → Option D
  | .fz d => some d
  | .nw d => some d
  | .ow d => some d
  | _ => none
def endsOf (Qd : D → Prop) : DEnds := { nx := fun _ => Qd .none, rt := fun dv => ∃ d, dv.ret = some d ∧ Qd d, bk := fun _ => False, ct := fun _ => False }
/-- a def of the text keeps its promise over data -/
theorem fn_data {SI : SInv} (st : Stab SI) {P : Program} {w : World} {K : PySem.W.Frag} {mg : Str → Option Value} {base : Heap} {x qual : Str} {stm : Stmt} {f : Addr} {fd : FuncData} {N ps : List Str} {k c c' : Nat} {spec : Spec} {ws : WS}
    (F : Fun K x qual stm f fd) (S : FnScope N ps (defScope stm)) (hlen : ∀ as Q, spec as Q → as.length = ps.length)
    (hbody : ∀ (G : Gh) (cdv : Value) (A : Around) (outer : List Env) (s : Shared) (H : Hp) (E : XK), G.SI = SI → A.guards = some [] → Room k (A.deeper (envOfC qual (defScope stm) s.heap.objs.size f cdv)) → DSs (cxOf CX0 P w K mg base N qual (defScope stm) f cdv A outer s H E).nox G (defBody stm) ws c)
    (hspec : ∀ as Q, spec as Q → ws (env0 N.length as) (endsOf Q)) (hcc : c ≤ c' := by decide +kernel) : FnG P w K mg base CX0 (k + 1) f fd ps (spF SI c' spec) := by
  obtain ⟨oc, od, kV, doc, pm, an, cdv, ct, osl, rfl, lk, hcd⟩ := F.ex
  refine fnG_of lk hcd S (fun vs H Q E h => ?_) fun A outer s H vs Q E hgd hr h => ?_
  · obtain ⟨as, M, C, b, Pd, _, _, _, r, q, _⟩ := h
    rw [r.length]; exact hlen _ _ q
  · obtain ⟨as, M, C, b, Pd, hb, wf, si, r, q, hq⟩ := h
    refine ⟨_, (hbody (ghOf SI st H M C wf.md) cdv A outer s H E rfl hgd hr).nox, env0 N.length as, M, C, b, _, by omega, start_er wf si r, hspec as _ q, ?_⟩
    -- what the ends are worth
    have fin : ∀ (b' : Nat) (w' : Wd), EH ((ghOf SI st H M C wf.md).at b') w' → Ext ⟨H, M, C⟩ ⟨w'.H, fun a => M a ∨ w'.C a, w'.C⟩ ∧ Wf ⟨w'.H, fun a => M a ∨ w'.C a, w'.C⟩ ∧ St1 w' ⟨w'.H, fun a => M a ∨ w'.C a, w'.C⟩ := fun b' w' eh => by
      refine ⟨⟨fun a o n h => ?_, eh.hd, eh.nc, fun a m => m.elim .inl fun c => (eh.nc a c).imp (wf.cm a) id, fun a m => .inl m⟩, ⟨fun a c => .inr c, fun a m => eh.md a (m.elim (eh.m0 a) (eh.cm a))⟩, ⟨fun a o _ h => .inl h, fun a m => .inl (Or.elim m (eh.m0 a) (eh.cm a))⟩⟩
      exact eh.kp a o ((ghOf_pt n).trans h)
    refine ⟨fun env' q b' w' σ' hb' er' => ?_, fun dv q b' w' Hs v hb' eh rv hh => ?_, fun _ q => q.elim, fun _ q => q.elim⟩
    · obtain ⟨e1, e2, e3⟩ := fin b' w' er'.toEH
      exact hq _ q b' ⟨w'.H, fun a => M a ∨ w'.C a, w'.C⟩ .non (by omega) e1 er'.si e2 .non
    · obtain ⟨e1, e2, e3⟩ := fin b' w' eh
      obtain ⟨d, hd, q⟩ := q
      refine hq _ q b' ⟨w'.H, fun a => M a ∨ w'.C a, w'.C⟩ v (by omega) e1 eh.si e2 ?_
      have fresh : ∀ {a : Addr}, H a = none → ¬ w'.C a → ¬ (M a ∨ w'.C a) := fun h0 nc m => m.elim (fun m => wf.md _ m h0) nc
      cases dv with
      | fz d' => cases hd; exact Rp.st e3 rv
      | nw d' =>
        cases hd
        obtain ⟨a, rfl, z, m, n, o⟩ := rv
        have h0 : H a = none := by
          cases y : H a with
          | none => rfl
          | some o => exact absurd z (hh a (by show H a ≠ none; rw [y]; simp))
        exact ((o.st (St1.less w' a) rfl).st e3 rfl).rp (fresh h0 n)
      | ow d' =>
        cases hd
        obtain ⟨a, rfl, m, z, p, n, o⟩ := rv
        exact (o.st e3 rfl).rp (fresh z n)
      | bw d' => cases hd
      | raw u => cases hd

theorem FnG.sp {P : Program} {w : World} {K : PySem.W.Frag} {mg : Str → Option Value} {base : Heap} {CX : CXT} {k : Nat} {f : Addr} {fd : FuncData} {ps : List Str} {sp sp' : Sp} (F : FnG P w K mg base CX k f fd ps sp) (h : ∀ vs H Q E, sp' vs H Q E → sp vs H Q E) : FnG P w K mg base CX k f fd ps sp' :=
  ⟨fun vs H Q E q => F.len vs H Q E (h vs H Q E q), fun A outer s H args us vs Q E g r e b v q => F.run A outer s H args us vs Q E g r e b v (h vs H Q E q)⟩
/-- a def that knows nothing of the law's state -/
theorem fn_pure {P : Program} {w : World} {K : PySem.W.Frag} {mg : Str → Option Value} {base : Heap} {x qual : Str} {stm : Stmt} {f : Addr} {fd : FuncData} {N ps : List Str} {k c : Nat} {spec : Spec} {ws : WS}
    (F : Fun K x qual stm f fd) (S : FnScope N ps (defScope stm)) (hlen : ∀ as Q, spec as Q → as.length = ps.length)
    (hbody : ∀ (G : Gh) (cdv : Value) (A : Around) (outer : List Env) (s : Shared) (H : Hp) (E : XK), G.SI = SI0 → A.guards = some [] → Room k (A.deeper (envOfC qual (defScope stm) s.heap.objs.size f cdv)) → DSs (cxOf CX0 P w K mg base N qual (defScope stm) f cdv A outer s H E).nox G (defBody stm) ws c)
    (hspec : ∀ as Q, spec as Q → ws (env0 N.length as) (endsOf Q)) (hcc : c ≤ cap := by decide +kernel) : FnG P w K mg base CX0 (k + 1) f fd ps (spF SI0 0 spec) :=
  (fn_data (c' := c) stab0 F S hlen hbody hspec (Nat.le_refl _)).sp fun vs H Q E h => by
    obtain ⟨as, M, C, b, Pd, hb, wf, si, r, q, hq⟩ := h
    exact ⟨as, M, C, 0, Pd, by omega, wf, trivial, r, q, fun d pd b' w' v hb' e _ wf' rv => hq d pd 0 w' v (Nat.zero_le _) e trivial wf' rv⟩

/-! ### calls -/
def wCall (spec : Spec) (wr : WA) : WE := fun env P => wr env fun xs => spec (xs.map Dv.ag) fun d => P (.fz d)
section
variable {X : Cx} {G : Gh} {k : Nat} {f : Addr} {fd : FuncData} {ps : List Str} {spec : Spec} {x : Str} {e : Expr} {es : List Expr} {wr : WA} {ca c : Nat} {p pos : Pos}
theorem run_fnG {sp : Sp} {pins : List (Addr × Obj)} {σ : L2.St} {H : Hp} {s : Shared} {Q : VK} {us : List Value} {vs : List V} (F : FnG X.prog X.w X.K X.mg X.base CX0 k f fd ps sp) (hgd : X.A.guards = some []) (hr : Room k X.A) (hb : Binds X.K fd ps [])
    (I : Inv X pins σ H s) (r : Vals vs us) (h : sp vs H Q E0) : wpAny (model X.prog X.w) X.A (call (.ref f) us) (EP X pins σ Q) X.xe s := by
  have hl : (us ++ []).length = ps.length := by rw [List.append_nil, ← r.length]; exact F.len _ _ _ _ h
  have bd := hb s us I.kIn hl
  rw [List.append_nil] at bd
  refine wpAny_call (codeAny_mono (F.run X.A X.stack s H ⟨us, []⟩ us vs Q E0 hgd hr I.env0 bd r h) fun r s' hq => ?_)
  cases r with
  | error e => exact False.elim hq
  | ok fl => cases fl with
    | ret u => exact I.after hq
    | next => exact False.elim hq
    | brk => exact False.elim hq
    | cont => exact False.elim hq
theorem pe_callG {sp : Sp} {t : TA} (F : FnG X.prog X.w X.K X.mg X.base CX0 k f fd ps sp) (hgd : X.A.guards = some []) (hr : Room k X.A) (hg : Gl X x) (hm : X.mg x = some (.ref f)) (hk : PySem.W.keepIn X.K (.ref f) = true) (hb : Binds X.K fd ps [])
    (ha : PA X (e :: es) t) (hdb : (x == ("__debug__" : Str)) = false := by decide) (he : starEach (e :: es) X.env = (false, eval e X.env) :: starEach es X.env := by rfl) (hpl : (backTo pos (starEach es X.env)).any (·.1) = false := by rfl) :
    PE X (.Call (.Name x p) (e :: es) [] pos) (tCall sp [] E0 t) := by
  refine ⟨fun pins s σ H Q I h => wpAny_Call_Name_kw (ld_glob I hg hm ?_ hdb)⟩
  exact PySem.W.callWith_K (h₀ := X.base) I.ok.mod.kin hk (thn (ha.run pos pins s σ H _ I h) fun us s1 ⟨vs, H1, I1, r, q⟩ => ⟨I1.kIn, run_fnG F hgd hr hb I1 r (by have q' : sp (vs ++ []) H1 Q E0 := q; rw [List.append_nil] at q'; exact q')⟩) he hpl
/-- a pure def is called: it knows nothing of the law's state -/
theorem rd_pure {σ : L2.St} {H : Hp} {Q : VK} (h : tV G (wCall spec wr) ca σ H Q) : tCall (spF SI0 0 spec) [] E0 (tA G wr ca) σ H Q := tA.one h fun {b0} env w xs dxs P er rs kk hf => by
  rw [List.append_nil]
  have up : St1 w ⟨w.H, w.M, fun _ => False⟩ := ⟨fun a o _ h => .inl h, fun a m => .inl m⟩
  have ars : ∀ {vs : List V} {as : List Ag}, ARs w vs as → ARs ⟨w.H, w.M, fun _ => False⟩ vs as := by
    intro vs as r
    induction r with
    | nil => exact .nil
    | @cons v vs a as h r ih =>
      refine .cons ?_ ih
      cases a with
      | fz d => exact Rp.st up h
      | raw u => exact h
      | bw d => obtain ⟨b, e, m, n, o⟩ := h; exact ⟨b, e, m, fun z => z, o.st up rfl⟩
  refine ⟨_, w.M, fun _ => False, 0, _, Nat.zero_le _, ⟨fun a c => c.elim, er.md⟩, trivial, ars rs.ars, kk, fun d pd _ w' v _ e _ wf r => ?_⟩
  have ex : Ext w ⟨w'.H, w.M, w.C⟩ := ⟨fun a o n h => e.keep a o (fun z => z) h, e.dom, fun a c => .inl c, fun a m => .inl m, fun a m => m⟩
  have si : G.SI b0 w.C w'.H := G.stab _ _ _ _ er.si fun a o c h => (e.keep a o (fun z => z) h).elim id fun q => absurd (er.cm a c) q.1
  refine hf _ pd b0 ⟨w'.H, w.M, w.C⟩ v (Nat.le_refl _) (er.ext' ex (er.toEH.ext ex si ⟨er.cm, fun a m => e.dom a (er.md a m)⟩)) ex ?_
  have down : St1 w' ⟨w'.H, w.M, w.C⟩ := ⟨fun a o _ h => .inl h, fun a m => .inl (e.oldM a m)⟩
  exact Rp.st down r
/-- a def that draws is called -/
theorem rd_eff {σ : L2.St} {H : Hp} {Q : VK} {SI : SInv} (hS : G.SI = SI) (h : tV G (wCall spec wr) (ca + c) σ H Q) : tCall (spF SI c spec) [] E0 (tA G wr ca) σ H Q := by
  subst hS
  obtain ⟨env, M, C, b0, P, hb0, er, hw, hf⟩ := h
  refine ⟨env, M, C, b0, _, by omega, er, hw, fun ds hd b1 w1 xs hb1 er1 e1 r1 => ?_⟩
  show spF G.SI c spec (xs ++ []) w1.H Q E0
  rw [List.append_nil]
  exact ⟨_, w1.M, w1.C, b1, _, by omega, er1.toEH.wf, er1.si, r1.ars, hd, fun d pd b' w' v hb' e si wf r => hf _ pd b' w' v (by omega) (er1.ext' e (er1.toEH.ext e si wf)) (e1.trans e) r⟩
theorem de_call (F : FnG X.prog X.w X.K X.mg X.base CX0 k f fd ps (spF SI0 0 spec)) (hgd : X.A.guards = some []) (hr : Room k X.A) (hg : Gl X x) (hm : X.mg x = some (.ref f)) (hk : PySem.W.keepIn X.K (.ref f) = true) (hb : Binds X.K fd ps [])
    (ha : DA X G (e :: es) wr ca) (hdb : (x == ("__debug__" : Str)) = false := by decide) (he : starEach (e :: es) X.env = (false, eval e X.env) :: starEach es X.env := by rfl) (hpl : (backTo pos (starEach es X.env)).any (·.1) = false := by rfl) :
    DE X G (.Call (.Name x p) (e :: es) [] pos) (wCall spec wr) ca := PE_imp (pe_callG F hgd hr hg hm hk hb ha hdb he hpl) fun _ _ _ h => rd_pure h
theorem de_callE {SI : SInv} (hS : G.SI = SI) (F : FnG X.prog X.w X.K X.mg X.base CX0 k f fd ps (spF SI c spec)) (hgd : X.A.guards = some []) (hr : Room k X.A) (hg : Gl X x) (hm : X.mg x = some (.ref f)) (hk : PySem.W.keepIn X.K (.ref f) = true) (hb : Binds X.K fd ps [])
    (ha : DA X G (e :: es) wr ca) (hdb : (x == ("__debug__" : Str)) = false := by decide) (he : starEach (e :: es) X.env = (false, eval e X.env) :: starEach es X.env := by rfl) (hpl : (backTo pos (starEach es X.env)).any (·.1) = false := by rfl) :
    DE X G (.Call (.Name x p) (e :: es) [] pos) (wCall spec wr) (ca + c) := PE_imp (pe_callG F hgd hr hg hm hk hb ha hdb he hpl) fun _ _ _ h => rd_eff hS h
end
end DL
namespace DL
open PySem PySem.Spec PyProof.Rows L2
section
variable {X : Cx} {G : Gh}
theorem RqL.one' {w : Wd} {xs : List V} {d : D} (h : RqL w xs [d]) : ∃ x, xs = [x] ∧ Rq w x d := by
  cases h with
  | cons a b => cases b; exact ⟨_, rfl, a⟩
/-! ### len -/
def lenD : List D → Option D
  | [.list ds] => some (.int ds.length)
  | [.tuple ds] => some (.int ds.length)
  | [.dict es] => some (.int es.length)
  | [.str x] => if x.length ≤ sizeLine then some (.int x.length) else none
  | _ => none
theorem call_lenDD : CallR X (.builtin "len") (rB lenD) := by
  intro pins s σ H xs us Q I r ⟨w, ds, d, eH, wk, qx, hf, hq⟩
  subst eH
  unfold lenD at hf
  split at hf
  · cases hf
    obtain ⟨x, rfl, q⟩ := qx.one'
    cases q with
    | lst h r1 => exact call_len_seq pins s σ _ _ us Q I r ⟨_, _, rfl, .inl (SqL.of h), by rw [r1.length]; exact hq _ _ (Same.refl _) (.int _)⟩
  · cases hf
    obtain ⟨x, rfl, q⟩ := qx.one'
    cases q with
    | tup n h r1 => exact call_len_seq pins s σ _ _ us Q I r ⟨_, _, rfl, .inr (SqT.of h), by rw [r1.length]; exact hq _ _ (Same.refl _) (.int _)⟩
  · cases hf
    obtain ⟨x, rfl, q⟩ := qx.one'
    obtain ⟨u, rfl, ru⟩ := vals1 r
    rename_i es
    cases q with
    | @dK a kvs _ h k1 k2 =>
      cases (show u = Value.ref a from ru)
      have el : es.length = kvs.length := by have := congrArg List.length k1; simpa using this
      exact d_len I h fun t s' I' => ⟨.int es.length, _, I', ⟨t, by rw [el]⟩, hq _ _ (Same.refl _) (.int _)⟩
    | @dT a kvs _ h k1 k2 =>
      cases (show u = Value.ref a from ru)
      have el : es.length = kvs.length := by have := congrArg List.length k1; simpa using this
      obtain ⟨z, hd, xs', rel, dd⟩ := dt_rd I.hok h
      have el2 : kvs.length = xs'.length := Paired.length rel
      refine call_len_dictH hd dd (by rw [← el2]; rw [sizeLine_eq] at z; omega) ⟨.int es.length, _, I.tok _, ⟨_, by rw [el, el2]⟩, hq _ _ (Same.refl _) (.int _)⟩
  · obtain ⟨c, rfl⟩ := of_if hf
    obtain ⟨x, rfl, q⟩ := qx.one'
    cases q
    exact call_len_str pins s σ _ _ us Q I r ⟨_, rfl, c, hq _ _ (Same.refl _) (.int _)⟩
  · cases hf

/-! ### all, any, sum -/
def boolsOf : List D → Option (List Bool)
  | [] => some []
  | .bool b :: r => (boolsOf r).map (b :: ·)
  | _ :: _ => none
theorem boolsOf_rp {w : Wd} : ∀ {ds : List D} {vs : List V} {bs : List Bool}, boolsOf ds = some bs → RpL w vs ds → vs = bs.map V.bl
  | [], _, _, e, r => by cases e; cases r; rfl
  | d :: ds, _, bs, e, r => by
    cases d with
    | bool b =>
      simp only [boolsOf, Option.map_eq_some_iff] at e
      obtain ⟨ms, e1, rfl⟩ := e
      cases r with
      | cons a b => cases a; rw [boolsOf_rp e1 b]; rfl
    | _ => cases e
def onBools (f : List Bool → Bool) : List D → Option D
  | [.list ds] => (boolsOf ds).map fun bs => .bool (f bs)
  | _ => none
def allD : List D → Option D := onBools fun bs => bs.all id
def anyD : List D → Option D := onBools fun bs => bs.any id
theorem call_bools {id : String} {g : List Bool → Bool} (hc : CallR X (.builtin id) (fun vs H Q => ∃ (a : Addr) (bs : List Bool), vs = [V.ref a] ∧ SqL X.K H a (bs.map V.bl) ∧ Q (.bl (g bs)) H)) : CallR X (.builtin id) (rB (onBools g)) := by
  intro pins s σ H xs us Q I r ⟨w, ds, d, eH, wk, qx, hf, hq⟩
  subst eH
  unfold onBools at hf
  split at hf
  · obtain ⟨bs, e1, rfl⟩ := Option.map_eq_some_iff.mp hf
    obtain ⟨x, rfl, q⟩ := qx.one'
    cases q with
    | lst h r1 =>
      have e2 := boolsOf_rp e1 r1
      subst e2
      exact hc pins s σ _ _ us Q I r ⟨_, bs, rfl, SqL.of h, hq _ _ (Same.refl _) (.bl _)⟩
  · cases hf
theorem call_allD (hc : X.calm = true) : CallR X (.builtin "all") (rB allD) := call_bools (cr_all hc)
theorem call_anyD (hc : X.calm = true) : CallR X (.builtin "any") (rB anyD) := call_bools (cr_any hc)
def sumD : List D → Option D
  | [.list ds] => (intsOf ds).map fun ns => .int ns.sum
  | _ => none
theorem call_sumD (hc : X.calm = true) : CallR X (.builtin "sum") (rB sumD) := by
  intro pins s σ H xs us Q I r ⟨w, ds, d, eH, wk, qx, hf, hq⟩
  subst eH
  unfold sumD at hf
  split at hf
  · obtain ⟨ns, e1, rfl⟩ := Option.map_eq_some_iff.mp hf
    obtain ⟨x, rfl, q⟩ := qx.one'
    cases q with
    | lst h r1 =>
      have e2 := intsOf_rp e1 r1
      subst e2
      exact cr_sum hc pins s σ _ _ us Q I r ⟨_, ns, rfl, SqL.of h, hq _ _ (Same.refl _) (.int _)⟩
  · cases hf

/-! ### list(..), tuple(..), int(..) -/
def listD : List D → Option D
  | [.list ds] => some (.list ds)
  | [.tuple ds] => some (.list ds)
  | _ => none
def tupleD : List D → Option D
  | [.list ds] => some (.tuple ds)
  | [.tuple ds] => some (.tuple ds)
  | _ => none
def intD : List D → Option D
  | [.int i] => some (.int i)
  | [.bool b] => some (.int (if b then 1 else 0))
  | _ => none
theorem call_listD : CallR X (.type "list") (rB listD) := by
  intro pins s σ H xs us Q I r ⟨w, ds, d, eH, wk, qx, hf, hq⟩
  subst eH
  unfold listD at hf
  split at hf
  · cases hf
    obtain ⟨x, rfl, q⟩ := qx.one'
    cases q with
    | lst h r1 => exact call_list_of pins s σ _ _ us Q I r ⟨_, _, rfl, .inl (SqL.of h), fun l n => hq _ _ (same_new n) (newL n r1)⟩
  · cases hf
    obtain ⟨x, rfl, q⟩ := qx.one'
    cases q with
    | tup nn h r1 => exact call_list_of pins s σ _ _ us Q I r ⟨_, _, rfl, .inr (SqT.of h), fun l n => hq _ _ (same_new n) (newL n r1)⟩
  · cases hf
theorem call_tupleD : CallR X (.type "tuple") (rB tupleD) := by
  intro pins s σ H xs us Q I r ⟨w, ds, d, eH, wk, qx, hf, hq⟩
  subst eH
  unfold tupleD at hf
  split at hf
  · cases hf
    obtain ⟨x, rfl, q⟩ := qx.one'
    cases q with
    | lst h r1 => exact call_tuple_of pins s σ _ _ us Q I r ⟨_, _, rfl, .inl ⟨SqL.of h, fun l n => hq _ _ (same_new n) (newT wk n r1)⟩⟩
  · cases hf
    obtain ⟨x, rfl, q⟩ := qx.one'
    cases q with
    | tup nn h r1 => exact call_tuple_of pins s σ _ _ us Q I r ⟨_, _, rfl, .inr ⟨SqT.of h, hq _ _ (Same.refl _) (.tup nn h r1)⟩⟩
  · cases hf
theorem call_intD : CallR X (.type "int") (rB intD) := by
  intro pins s σ H xs us Q I r ⟨w, ds, d, eH, wk, qx, hf, hq⟩
  subst eH
  unfold intD at hf
  split at hf
  · cases hf
    obtain ⟨x, rfl, q⟩ := qx.one'
    cases q
    exact call_int1 pins s σ _ _ us Q I r (.inl ⟨_, rfl, hq _ _ (Same.refl _) (.int _)⟩)
  · cases hf
    obtain ⟨x, rfl, q⟩ := qx.one'
    cases q
    exact call_int1 pins s σ _ _ us Q I r (.inr ⟨_, rfl, hq _ _ (Same.refl _) (.int _)⟩)
  · cases hf
/-- list(range(..)) -/
def lrng (f : List D → Option (List D)) : List D → Option D := fun ds => (f ds).bind fun r => if r.length ≤ 2 ^ 24 then some (.list r) else none

/-! ### isinstance(x, T), T a built-in class -/
def tyD : D → String
  | .none => "NoneType"
  | .bool _ => "bool"
  | .int _ => "int"
  | .str _ => "str"
  | .list _ => "list"
  | .tuple _ => "tuple"
  | .dict _ => "dict"
theorem Rq.ty {pins : List (Addr × Obj)} {σ : L2.St} {s : Shared} {w : Wd} {x : V} {u : Value} {d : D} (I : Inv X pins σ w.H s) (rx : RelV x u) (h : Rq w x d) : ∃ P : Heap → Prop, PySem.W.KitX X.K u (.type (tyD d)) P ∧ P s.heap ∧ u ≠ .builtin "__main__.__loader__#opaque" := by
  cases h with
  | non => exact kit_of I rx (.base .non)
  | bl b => exact kit_of I rx (.base (.bl b))
  | int b => exact kit_of I rx (.base (.int b))
  | str b => exact kit_of I rx (.base (.str b))
  | lst h _ => exact kit_of I rx (.base (.lst h))
  | tup _ h _ => exact kit_of I rx (.base (.tup h))
  | dK h _ _ =>
    rcases h with h | ⟨o, h⟩
    · exact kit_of I rx (.base (.dK h))
    · exact kit_of I rx (.fDict h)
  | @dT a kvs _ h _ _ =>
    cases (show u = Value.ref a from rx)
    obtain ⟨z, hd, xs, rel, o, es, ep, h1, h2, _⟩ := dt_rd I.hok h
    exact ⟨_, PySem.W.kitx_dict, ⟨o, h1, h2.1⟩, fun z => nomatch z⟩
def wIsi (g : D → Bool) (wa : WE) : WE := fun env P => wa env fun x => ∃ d, x.val = some d ∧ P (.fz (.bool (g d)))
theorem de_isi {T : Str} {tn : String} {g : D → Bool} {e : Expr} {wa : WE} {ca : Nat} {p p2 pos : Pos} (hk : ∀ d, kitB (tyD d) tn = some (g d)) (hg : Gl X "isinstance") (hm : X.mg "isinstance" = none) (hgT : Gl X T) (hmT : X.mg T = none) (hvT : bootBuiltins T = some (.type tn)) (ha : DE X G e wa ca)
    (hnT : T ≠ "__name__" := by decide) (hdT : (T == ("__debug__" : Str)) = false := by decide) (hs : starEach [e, .Name T p2] X.env = (false, eval e X.env) :: starEach [.Name T p2] X.env := by rfl) (hs2 : starEach [.Name T p2] X.env = (false, eval (.Name T p2) X.env) :: starEach [] X.env := by rfl) (hpl : (backTo pos (starEach [.Name T p2] X.env)).any (·.1) = false := by rfl) :
    DE X G (.Call (.Name "isinstance" p) [e, .Name T p2] [] pos) (wIsi g wa) ca := by
  have hc : CallR X (.builtin "isinstance") (fun xs H Q => ∃ w x d, w.H = H ∧ xs = [x, .ty tn] ∧ Rq w x d ∧ Q (.bl (g d)) H) := by
    intro pins s σ H xs us Q I r h
    obtain ⟨w, x, d, eH, e2, q, hq⟩ := h
    subst eH e2
    obtain ⟨u1, u2, rfl, r1, r2⟩ := vals2 r
    cases (show u2 = Value.type tn from r2)
    obtain ⟨P, Z, pp, hx⟩ := q.ty I r1
    exact PySem.W.kia_one Z I.kIn pp (kit_ty (hk d)) hx fun tk => ⟨.bl (g d), _, I.tok tk, rfl, hq⟩
  refine PE_imp (pe_callB hc hg hm (by decide +kernel) (pa_cons ha (pa_cons (pe_bltn (v := .ty tn) hgT hmT hvT rfl hnT hdT) pa_nil hs2) hs) (by decide) (by decide) hs hpl) fun σ H Q h => ?_
  obtain ⟨env, M, C, b0, P, hb0, er, hw, hf⟩ := h
  refine ⟨env, M, C, b0, _, hb0, er, hw, fun dv hd b1 w1 v hb1 er1 e1 r1 => ?_⟩
  obtain ⟨d, h1, p⟩ := hd
  exact ⟨w1, v, d, rfl, rfl, r1.rq h1, hf _ p b1 w1 _ hb1 er1 e1 (.bl _)⟩
def isInt : D → Bool
  | .int _ => true
  | .bool _ => true
  | _ => false
def isBool : D → Bool
  | .bool _ => true
  | _ => false
def isTuple : D → Bool
  | .tuple _ => true
  | _ => false
def isList : D → Bool
  | .list _ => true
  | _ => false
def isStr : D → Bool
  | .str _ => true
  | _ => false
theorem kit7 {T : String} {b1 b2 b3 b4 b5 b6 b7 : Bool} (h1 : kitB "NoneType" T = some b1) (h2 : kitB "bool" T = some b2) (h3 : kitB "int" T = some b3) (h4 : kitB "str" T = some b4) (h5 : kitB "list" T = some b5) (h6 : kitB "tuple" T = some b6) (h7 : kitB "dict" T = some b7) (g : D → Bool)
    (g1 : g .none = b1) (g2 : ∀ b, g (.bool b) = b2) (g3 : ∀ i, g (.int i) = b3) (g4 : ∀ i, g (.str i) = b4) (g5 : ∀ i, g (.list i) = b5) (g6 : ∀ i, g (.tuple i) = b6) (g7 : ∀ i, g (.dict i) = b7) (d : D) : kitB (tyD d) T = some (g d) := by
  cases d with
  | none => rw [g1]; exact h1
  | bool _ => rw [g2]; exact h2
  | int _ => rw [g3]; exact h3
  | str _ => rw [g4]; exact h4
  | list _ => rw [g5]; exact h5
  | tuple _ => rw [g6]; exact h6
  | dict _ => rw [g7]; exact h7
theorem kit_int (d : D) : kitB (tyD d) "int" = some (isInt d) := kit7 (by decide +kernel) (by decide +kernel) (by decide +kernel) (by decide +kernel) (by decide +kernel) (by decide +kernel) (by decide +kernel) isInt rfl (fun _ => rfl) (fun _ => rfl) (fun _ => rfl) (fun _ => rfl) (fun _ => rfl) (fun _ => rfl) d
theorem kit_bool (d : D) : kitB (tyD d) "bool" = some (isBool d) := kit7 (by decide +kernel) (by decide +kernel) (by decide +kernel) (by decide +kernel) (by decide +kernel) (by decide +kernel) (by decide +kernel) isBool rfl (fun _ => rfl) (fun _ => rfl) (fun _ => rfl) (fun _ => rfl) (fun _ => rfl) (fun _ => rfl) d
theorem kit_tuple (d : D) : kitB (tyD d) "tuple" = some (isTuple d) := kit7 (by decide +kernel) (by decide +kernel) (by decide +kernel) (by decide +kernel) (by decide +kernel) (by decide +kernel) (by decide +kernel) isTuple rfl (fun _ => rfl) (fun _ => rfl) (fun _ => rfl) (fun _ => rfl) (fun _ => rfl) (fun _ => rfl) d
theorem kit_list (d : D) : kitB (tyD d) "list" = some (isList d) := kit7 (by decide +kernel) (by decide +kernel) (by decide +kernel) (by decide +kernel) (by decide +kernel) (by decide +kernel) (by decide +kernel) isList rfl (fun _ => rfl) (fun _ => rfl) (fun _ => rfl) (fun _ => rfl) (fun _ => rfl) (fun _ => rfl) d
theorem kit_str (d : D) : kitB (tyD d) "str" = some (isStr d) := kit7 (by decide +kernel) (by decide +kernel) (by decide +kernel) (by decide +kernel) (by decide +kernel) (by decide +kernel) (by decide +kernel) isStr rfl (fun _ => rfl) (fun _ => rfl) (fun _ => rfl) (fun _ => rfl) (fun _ => rfl) (fun _ => rfl) d
/-- list(range(..)) as a list -/
def wLrng (f : List D → Option (List D)) (wr : WA) : WE := fun env P => wr env fun xs => ∃ ds, (valL xs).bind f = some ds ∧ ds.length ≤ 2 ^ 24 ∧ P (.nw (.list ds))
theorem rg_rp {w : Wd} (a : Int) (n : Nat) : RpL w ((List.range n).map fun i => V.int (a + (i : Nat))) (rangeD a n) := by
  unfold rangeD
  induction List.range n with
  | nil => exact .nil
  | cons i r ih => exact .cons (.int _) ih
theorem de_lrng1 {e : Expr} {wa : WE} {ca : Nat} {p p2 pos pos2 : Pos} (hc : X.calm = true) (hg : Gl X "list") (hm : X.mg "list" = none) (hg2 : Gl X "range") (hm2 : X.mg "range" = none) (ha : DE X G e wa ca) (na : starEach [e] X.env = (false, eval e X.env) :: starEach [] X.env := by rfl)
    (nb : starEach [.Call (.Name "range" p2) [e] [] pos2] X.env = (false, eval (.Call (.Name "range" p2) [e] [] pos2) X.env) :: starEach [] X.env := by rfl) : DE X G (.Call (.Name "list" p) [.Call (.Name "range" p2) [e] [] pos2] [] pos) (wLrng rng1 (wCons wa wNil)) ca :=
  PE_imp (pe_listRg hc hg hm (prg_1 hg2 hm2 ha na) nb) fun σ H Q h => by
    obtain ⟨env, M, C, b0, P, hb0, er, hw, hf⟩ := h
    refine ⟨env, M, C, b0, _, hb0, er, hw, fun dv hd b1 w1 v hb1 er1 e1 r1 => ?_⟩
    obtain ⟨ds, h1, h4, p⟩ := hd
    obtain ⟨es, h2, h3⟩ := Option.bind_eq_some_iff.mp h1
    obtain ⟨j, rfl, c, rfl⟩ := rng1_get h3
    have hv : dv.val = some (.int j) := by
      simp only [valL, Option.bind_eq_some_iff, Option.map_eq_some_iff] at h2
      obtain ⟨d, q1, _, q2, q3⟩ := h2
      cases q2; cases q3; exact q1
    have q := r1.rq hv
    cases q
    rw [rangeD_length] at h4
    refine ⟨j, rfl, ⟨by omega, by omega, c.1, c.2, by rw [Int.sub_zero]; exact h4⟩, fun l n => ?_⟩
    have fin := Fin.pure (Fin.ext (w := ⟨H, M, C⟩) hf e1 hb1) er1 (d := .list (rangeD 0 j.toNat)) p (same_new n) (newL n (rg_rp 0 j.toNat))
    have e2 : rgV 0 j = (List.range j.toNat).map fun i => V.int (0 + (i : Nat)) := by unfold rgV; rw [Int.sub_zero]
    rw [e2]
    exact fin
end
end DL
namespace DL
open PySem PySem.Spec PyProof.Rows L2
theorem Ow.there {w : Wd} {a : Addr} {d : D} (o : Ow w a d) : ∃ ob, w.H a = some ob := by cases o <;> exact ⟨_, by assumption⟩
section
variable {G : Gh} {w w' : Wd} {env : Ev} {σ : L2.St}
/-- the slot of an own thing -/
theorem ER.ownAt (er : ER G w env σ) {i : Nat} {d : D} (h : env[i]? = some (.own d)) : ∃ a, σ[i]? = some (some (.ref a)) ∧ w.M a ∧ ¬ w.C a ∧ G.Pt a = none ∧ G.H0 a = none ∧ Ow w a d := by
  obtain ⟨ov, h1, a, rfl, r⟩ := er.at h
  exact ⟨a, h1, r⟩
/-- an own thing has changed -/
theorem ER.mut (er : ER G w env σ) {i : Nat} {d d' : D} {a : Addr} {o : HO} (h : env[i]? = some (.own d)) (hs : σ[i]? = some (some (.ref a))) (no : Ow ⟨upd w.H a o, w.M, w.C⟩ a d') : ER G ⟨upd w.H a o, w.M, w.C⟩ (env.set i (.own d')) σ := by
  obtain ⟨a', h1, m, c, p, z, _⟩ := er.ownAt h
  rw [hs] at h1
  cases h1
  have st : St1 w ⟨upd w.H a o, w.M, w.C⟩ := ⟨fun b x n q => .inl (by show upd w.H a o b = some x; rw [upd_ne (fun z => n (by rw [z]; exact m))]; exact q), fun b m => .inl m⟩
  refine ⟨er.toEH.poke m c p, by rw [List.length_set]; exact er.len, fun j s ov q1 q2 => ?_, fun j k d1 d2 b q1 q2 q3 q4 => ?_⟩
  · rcases get_set q1 with ⟨rfl, rfl⟩ | ⟨ne, q1⟩
    · rw [hs] at q2; cases q2
      exact ⟨a, rfl, m, c, p, z, no⟩
    · have s0 := er.sl j s ov q1 q2
      cases s with
      | no => trivial
      | fz d => obtain ⟨v, y, r⟩ := s0; exact ⟨v, y, r.st st⟩
      | raw v => exact s0
      | own d =>
        obtain ⟨b, rfl, mb, cb, pb, zb, ob⟩ := s0
        have nb : b ≠ a := fun y => ne (er.od j i _ _ a q1 h (by rw [← y]; exact q2) hs)
        exact ⟨b, rfl, mb, cb, pb, zb, ob.st st (by show upd w.H a o b = w.H b; rw [upd_ne nb])⟩
      | bw d =>
        obtain ⟨b, rfl, mb, cb, ⟨x, pb⟩, ob⟩ := s0
        have nb : b ≠ a := fun y => by rw [y, p] at pb; cases pb
        exact ⟨b, rfl, mb, cb, ⟨x, pb⟩, ob.st st (by show upd w.H a o b = w.H b; rw [upd_ne nb])⟩
  · have own : ∀ {j : Nat} {d1 : D}, (env.set i (.own d'))[j]? = some (.own d1) → ∃ d0, env[j]? = some (.own d0) := fun {j d1} q => by
      rcases get_set q with ⟨rfl, _⟩ | ⟨_, q⟩
      · exact ⟨d, h⟩
      · exact ⟨_, q⟩
    obtain ⟨e1, g1⟩ := own q1
    obtain ⟨e2, g2⟩ := own q2
    exact er.od j k e1 e2 b g1 g2 q3 q4
/-- an own thing is frozen -/
theorem ER.freeze (er : ER G w env σ) {i : Nat} {d : D} {a : Addr} (h : env[i]? = some (.own d)) (hs : σ[i]? = some (some (.ref a))) : ER G ⟨w.H, fun b => w.M b ∧ b ≠ a, w.C⟩ (env.set i (.fz d)) σ ∧ Rp ⟨w.H, fun b => w.M b ∧ b ≠ a, w.C⟩ (.ref a) d := by
  obtain ⟨a', h1, m, c, p, z, o⟩ := er.ownAt h
  rw [hs] at h1
  cases h1
  have st : St1 w ⟨w.H, fun b => w.M b ∧ b ≠ a, w.C⟩ := ⟨fun b x n q => .inl q, fun b m => .inl m.1⟩
  have rp : Rp ⟨w.H, fun b => w.M b ∧ b ≠ a, w.C⟩ (.ref a) d := (o.st st rfl).rp fun q => q.2 rfl
  refine ⟨⟨⟨er.kp, fun b q => ⟨er.m0 b q, fun y => G.mh b q (by rw [y]; exact z)⟩, er.nc, er.cp, fun b q => ⟨er.cm b q, fun y => c (by rw [← y]; exact q)⟩, fun b q => er.md b q.1, er.hd, fun p hp => (er.gk p hp).st st, er.si⟩, by rw [List.length_set]; exact er.len, fun j s ov q1 q2 => ?_, fun j k d1 d2 b q1 q2 q3 q4 => ?_⟩, rp⟩
  · rcases get_set q1 with ⟨rfl, rfl⟩ | ⟨ne, q1⟩
    · rw [hs] at q2; cases q2
      exact ⟨_, rfl, rp⟩
    · have s0 := er.sl j s ov q1 q2
      cases s with
      | no => trivial
      | fz d => obtain ⟨v, y, r⟩ := s0; exact ⟨v, y, r.st st⟩
      | raw v => exact s0
      | own d =>
        obtain ⟨b, rfl, mb, cb, pb, zb, ob⟩ := s0
        exact ⟨b, rfl, ⟨mb, fun y => ne (er.od j i _ _ a q1 h (by rw [← y]; exact q2) hs)⟩, cb, pb, zb, ob.st st rfl⟩
      | bw d =>
        obtain ⟨b, rfl, mb, cb, ⟨x, pb⟩, ob⟩ := s0
        exact ⟨b, rfl, ⟨mb, fun y => by rw [y, p] at pb; cases pb⟩, cb, ⟨x, pb⟩, ob.st st rfl⟩
  · rcases get_set q1 with ⟨_, y⟩ | ⟨_, q1⟩
    · cases y
    · rcases get_set q2 with ⟨_, y⟩ | ⟨_, q2⟩
      · cases y
      · exact er.od j k d1 d2 b q1 q2 q3 q4
/-- something new is somebody's own while an expression goes on -/
theorem ER.held {d : D} {a : Addr} {b0 b1 : Nat} (er : ER (G.at b0) w env σ) (er' : ER (G.at b1) w' env σ) (e : Ext w w') (hs : w.H a = none) (t : w'.H a ≠ none) : ER (G.at b1) (w'.plus a) env σ ∧ Ext w (w'.plus a) := by
  have ex : Ext w (w'.plus a) := ⟨e.keep, e.dom, e.newC, fun b m => m.elim (e.newM b) fun q => .inr (by rw [q]; exact hs), fun b m => .inl (e.oldM b m)⟩
  exact ⟨er.ext' ex (er.toEH.ext ex er'.si ⟨fun b c => .inl (er'.cm b c), fun b m => m.elim (er'.md b) fun q => by rw [q]; exact t⟩), ex⟩
end

/-! ### x.append(e), x = y.pop(), d[k] = e of own things -/
section
variable {X : Cx} {G : Gh} {e k o : Expr} {we wk : WE} {ca cb : Nat} {pos p1 p2 p3 : Pos}
def wApp (i : Nat) (we : WE) : WS := fun env De => ∃ ds, env[i]? = some (.own (.list ds)) ∧ we env fun x => ∃ d, x.kept = some d ∧ ds.length < sizeLine ∧ De.nx (env.set i (.own (.list (ds ++ [d]))))
theorem ds_append (i : Nat) {x : Str} (he : DE X G e we ca) (hN : X.N[i]? = some x := by rfl) (hv : Vis X.env.scope x := by first | exact Or.inl rfl | exact Or.inr (Or.inl rfl) | exact Or.inr (Or.inr rfl)) (hd : (x == ("__debug__" : Str)) = false := by decide) (hcd : (x == ("__classdict__" : Str)) = false := by decide)
    (hbase : attributeBase (.Name x p1) "append" X.env (eval (.Name x p1) X.env) = eval (.Name x p1) X.env := by rfl)
    (hfew : ((backTo p3 (starEach [e] X.env)).all (fun x => !x.1) && (backToKw p3 (keywordEach [] X.env)).all (fun x => x.1.isSome)
      && decide ([e].length + ([] : List Keyword).length + (if ([] : List Keyword).isEmpty then 0 else 1) < 30)) = true := by rfl)
    (hline : (p2.endLine == p3.line) = true := by rfl) (hs : starEach [e] X.env = (false, eval e X.env) :: starEach [] X.env := by rfl) (hplain : (backTo p3 (starEach [] X.env)).any (·.1) = false := by rfl)
    (hsw : swapsWith (.Call (.Attribute (.Name x p1) "append" p2) [e] [] p3) none pos.line X.env = pure false := by rfl) :
    DS X G (.Expr (.Call (.Attribute (.Name x p1) "append" p2) [e] [] p3) pos) (wApp i we) ca :=
  PS_imp (ps_expr (pe_bm PySem.F.plainAttrs_list PySem.F.slot_list_append PySem.F.type_list_append mt_append (pe_var hN hv hd hcd) (pa_cons he pa_nil hs) hbase hfew hline hs hplain) hsw) fun σ H T h => by
    obtain ⟨env, M, C, b0, De, hb0, er, ⟨ds, hi, hw⟩, lf⟩ := h
    obtain ⟨a, h1, m, c, p, z, ob⟩ := er.ownAt hi
    cases ob with
    | @lst xs _ hx rl =>
      refine ⟨.ref a, h1, .inl ⟨rfl, xs, SqL.of hx⟩, env, M, C, b0, _, hb0, er, hw, fun dv hd b1 w1 v hb1 er1 e1 r1 => ?_⟩
      obtain ⟨d, hk, hz, n⟩ := hd
      obtain ⟨a', h1', m', c', p', z', ob'⟩ := er1.ownAt hi
      rw [h1] at h1'
      cases h1'
      cases ob' with
      | @lst xs' _ hx' rl' =>
        refine ⟨a, xs', v, rfl, rfl, hx', by rw [rl'.length]; exact hz, ?_⟩
        have st : St1 w1 ⟨upd w1.H a (.lst (xs' ++ [v])), w1.M, w1.C⟩ := ⟨fun b x n q => .inl (by show upd w1.H a _ b = some x; rw [upd_ne (fun z => n (by rw [z]; exact m'))]; exact q), fun b m => .inl m⟩
        exact lf.nx _ n b1 ⟨upd w1.H a (.lst (xs' ++ [v])), w1.M, w1.C⟩ σ hb1 (er1.mut hi h1 (.lst upd_same ((rl'.append (.cons (r1.rp hk) .nil)).st st)))
/-- x.append(y), y an own thing: y is frozen -/
def wAppF (i j : Nat) : WS := fun env De => ∃ ds d, env[i]? = some (.own (.list ds)) ∧ env[j]? = some (.own d) ∧ i ≠ j ∧ ds.length < sizeLine ∧ De.nx ((env.set j (.fz d)).set i (.own (.list (ds ++ [d]))))
theorem ds_appendF (i j : Nat) {x y : Str} {py : Pos} (hN : X.N[i]? = some x := by rfl) (hv : Vis X.env.scope x := by first | exact Or.inl rfl | exact Or.inr (Or.inl rfl) | exact Or.inr (Or.inr rfl)) (hNy : X.N[j]? = some y := by rfl) (hvy : Vis X.env.scope y := by first | exact Or.inl rfl | exact Or.inr (Or.inl rfl) | exact Or.inr (Or.inr rfl))
    (hd : (x == ("__debug__" : Str)) = false := by decide) (hcd : (x == ("__classdict__" : Str)) = false := by decide) (hdy : (y == ("__debug__" : Str)) = false := by decide) (hcdy : (y == ("__classdict__" : Str)) = false := by decide)
    (hbase : attributeBase (.Name x p1) "append" X.env (eval (.Name x p1) X.env) = eval (.Name x p1) X.env := by rfl)
    (hfew : ((backTo p3 (starEach [.Name y py] X.env)).all (fun x => !x.1) && (backToKw p3 (keywordEach [] X.env)).all (fun x => x.1.isSome)
      && decide ([Expr.Name y py].length + ([] : List Keyword).length + (if ([] : List Keyword).isEmpty then 0 else 1) < 30)) = true := by rfl)
    (hline : (p2.endLine == p3.line) = true := by rfl) (hs : starEach [.Name y py] X.env = (false, eval (.Name y py) X.env) :: starEach [] X.env := by rfl) (hplain : (backTo p3 (starEach [] X.env)).any (·.1) = false := by rfl)
    (hsw : swapsWith (.Call (.Attribute (.Name x p1) "append" p2) [.Name y py] [] p3) none pos.line X.env = pure false := by rfl) :
    DS X G (.Expr (.Call (.Attribute (.Name x p1) "append" p2) [.Name y py] [] p3) pos) (wAppF i j) 0 :=
  PS_imp (ps_expr (pe_bm PySem.F.plainAttrs_list PySem.F.slot_list_append PySem.F.type_list_append mt_append (pe_var hN hv hd hcd) (pa_cons (pe_var hNy hvy hdy hcdy) pa_nil hs) hbase hfew hline hs hplain) hsw) fun σ H T h => by
    obtain ⟨env, M, C, b0, De, hb0, er, ⟨ds, d, hi, hj, hij, hz, n⟩, lf⟩ := h
    obtain ⟨a, h1, m, c, p, z, ob⟩ := er.ownAt hi
    obtain ⟨b, h2, mb, cb, pb, zb, _⟩ := er.ownAt hj
    obtain ⟨er1, rp⟩ := er.freeze hj h2
    have hi' : (env.set j (.fz d))[i]? = some (.own (.list ds)) := by rw [List.getElem?_set_ne hij.symm]; exact hi
    obtain ⟨a', h1', m', c', _, _, ob'⟩ := er1.ownAt hi'
    rw [h1] at h1'
    cases h1'
    cases ob' with
    | @lst xs _ hx rl =>
      refine ⟨.ref a, h1, .inl ⟨rfl, xs, SqL.of hx⟩, .ref b, h2, a, xs, .ref b, rfl, rfl, hx, by rw [rl.length]; exact hz, ?_⟩
      have st : St1 ⟨H, fun q => M q ∧ q ≠ b, C⟩ ⟨upd H a (.lst (xs ++ [.ref b])), fun q => M q ∧ q ≠ b, C⟩ := ⟨fun b x n q => .inl (by show upd H a _ b = some x; rw [upd_ne (fun z => n (by rw [z]; exact m'))]; exact q), fun b m => .inl m⟩
      exact lf.nx _ n b0 ⟨upd H a (.lst (xs ++ [.ref b])), fun q => M q ∧ q ≠ b, C⟩ σ (Nat.le_refl _) (er1.mut hi' h1 (.lst upd_same ((rl.append (.cons rp .nil)).st st)))
/-- y = x.pop() -/
def wPop (j i : Nat) : WS := fun env De => ∃ ds d, env[i]? = some (.own (.list (ds ++ [d]))) ∧ De.nx ((env.set i (.own (.list ds))).set j (.fz d))
theorem ds_pop (j i : Nat) {x y : Str} {py : Pos} (hnd : X.N.Nodup) (hN : X.N[i]? = some x := by rfl) (hv : Vis X.env.scope x := by first | exact Or.inl rfl | exact Or.inr (Or.inl rfl) | exact Or.inr (Or.inr rfl)) (hd : (x == ("__debug__" : Str)) = false := by decide) (hcd : (x == ("__classdict__" : Str)) = false := by decide)
    (hj : X.N[j]? = some y := by rfl) (hx : Loc X.env.scope y := by first | exact Or.inl rfl | exact Or.inr rfl) (hbase : attributeBase (.Name x p1) "pop" X.env (eval (.Name x p1) X.env) = eval (.Name x p1) X.env := by rfl) (hline : (p2.endLine == p3.line) = true := by rfl)
    (hs : swapsWith (.Call (.Attribute (.Name x p1) "pop" p2) [] [] p3) (some (.Name y py)) pos.line X.env = pure false := by rfl) (hf : X.fn y = true ∨ X.env.scope.names.lookup y = some .local := by first | exact .inl rfl | exact .inr rfl | assumption) :
    DS X G (.Assign [.Name y py] (.Call (.Attribute (.Name x p1) "pop" p2) [] [] p3) pos) (wPop j i) 0 :=
  PS_imp (ps_set hnd hj hx (pe_bm0 PySem.F.plainAttrs_list PySem.F.slot_list_pop PySem.F.type_list_pop mt_pop (pe_var hN hv hd hcd) hbase hline) hs hf) fun σ H T h => by
    obtain ⟨env, M, C, b0, De, hb0, er, ⟨ds, d, hi, n⟩, lf⟩ := h
    obtain ⟨a, h1, m, c, p, z, ob⟩ := er.ownAt hi
    cases ob with
    | @lst xs _ hx rl =>
      have hl : xs.length = ds.length + 1 := by rw [rl.length, List.length_append]; rfl
      obtain ⟨v, hv, rv⟩ := rl.get (i := ds.length) (d := d) (by rw [List.getElem?_append_right (Nat.le_refl _), Nat.sub_self]; rfl)
      refine ⟨.ref a, h1, .inl ⟨rfl, xs, SqL.of hx⟩, a, xs, v, rfl, rfl, hx, by rw [hl]; exact hv, ?_⟩
      have st : St1 ⟨H, M, C⟩ ⟨upd H a (.lst xs.dropLast), M, C⟩ := ⟨fun b x n q => .inl (by show upd H a _ b = some x; rw [upd_ne (fun z => n (by rw [z]; exact m))]; exact q), fun b m => .inl m⟩
      have er1 := er.mut hi h1 (d' := .list ds) (o := .lst xs.dropLast) (.lst upd_same (by have := rl.dropLast; rw [List.dropLast_concat] at this; exact this.st st))
      exact lf.nx _ n b0 _ _ (Nat.le_refl _) (er1.setFz (rv.st st) j)
/-- d[k] = e, d an own dict -/
def putOk (es : List (D × D)) (k : D) : Bool := (dfind es k).isSome
def wPut (i : Nat) (wk we : WE) : WS := fun env De => ∃ es, env[i]? = some (.own (.dict es)) ∧ we env fun v => wk env fun k => ∃ dv dk, v.kept = some dv ∧ k.val = some dk ∧ putOk es dk = true ∧ es.length < sizeLine ∧ De.nx (env.set i (.own (.dict (dput es dk dv))))
theorem Inv.swapD {pins : List (Addr × Obj)} {σ : L2.St} {H : Hp} {s : Shared} {a : Addr} (I : Inv X pins σ H s) (h : (H a = some (.dT []) ∨ H a = some (.dK []))) : Inv X pins σ (upd H a (.dK [])) s ∧ Inv X pins σ (upd H a (.dT [])) s := by
  have mu : Mut (H a) := by rcases h with h | h <;> (rw [h]; trivial)
  have okK : ObjOk X.prog X.w (upd H a (.dK [])) s.heap a (.dK []) := by
    rcases h with h | h
    · obtain ⟨hd, dd⟩ := dT0 I (.inl h)
      exact ⟨Nat.zero_le _, hd, [], .nil, dd⟩
    · obtain ⟨z, y, vs, r, dd⟩ := I.hok a _ h
      exact ⟨z, y, vs, r, dd⟩
  have okT : ObjOk X.prog X.w (upd H a (.dT [])) s.heap a (.dT []) := by
    rcases h with h | h
    · obtain ⟨z, y, xs, r, dd⟩ := I.hok a _ h
      cases r
      exact ⟨z, y, [], .nil, dd⟩
    · obtain ⟨hd, o, es, ep, h1, h2, h3, h4, h5, h6⟩ := dK0 I (.inl h)
      exact ⟨Nat.zero_le _, hd, [], .nil, o, es, ep, h1, h2, h3, h4, h6⟩
  have there : ∃ u, s.heap.get? a = some u := by
    obtain ⟨_, _, _, _, o, _, _, e, _⟩ := okK
    exact ⟨o, e⟩
  exact ⟨I.write (t' := s.toks) mu (.inl rfl) (fun b u _ q => q) there okK, I.write (t' := s.toks) mu (.inl rfl) (fun b u _ q => q) there okT⟩
theorem ds_put (i : Nat) {x : Str} {px pt : Pos} (hu : X.A.units + 1 < cLine) (hk : DE X G k wk cb) (he : DE X G e we ca) (hN : X.N[i]? = some x := by rfl) (hv : Vis X.env.scope x := by first | exact Or.inl rfl | exact Or.inr (Or.inl rfl) | exact Or.inr (Or.inr rfl)) (hd : (x == ("__debug__" : Str)) = false := by decide) (hcd : (x == ("__classdict__" : Str)) = false := by decide)
    (hs : swapsWith e (some (.Subscript (.Name x px) k pt)) pos.line X.env = pure false := by rfl) : DS X G (.Assign [.Subscript (.Name x px) k pt] e pos) (wPut i wk we) (ca + cb) := by
  refine ⟨fun pins s σ H T I h => ?_⟩
  obtain ⟨env, M, C, b0, De, hb0, er, ⟨es, hi, hw⟩, lf⟩ := h
  have hx : PE X (.Name x px) (tVar i) := pe_var hN hv hd hcd
  obtain ⟨a, ha, m, c, p, z, _⟩ := er.ownAt hi
  have q0 : tV G we ca σ H fun v H1 => tV G wk cb σ H1 fun y H3 => ∃ (b3 : Nat) (w3 : Wd) (d dk : D), b3 ≤ b0 + (ca + cb) ∧ w3.H = H3 ∧ ER (G.at b3) w3 env σ ∧ Rp w3 v d ∧ Rq w3 y dk ∧ putOk es dk = true ∧ es.length < sizeLine ∧ De.nx (env.set i (.own (.dict (dput es dk d)))) :=
    ⟨env, M, C, b0, _, by omega, er, hw, fun dv hd b1 w1 v hb1 er1 e1 r1 => ⟨env, w1.M, w1.C, b1, _, by omega, er1, hd, fun dk hk b3 w3 y hb3 er3 e3 r3 => by
      obtain ⟨d1, d2, k1, k2, k3, k4, n⟩ := hk
      exact ⟨b3, w3, d1, d2, by omega, rfl, er3, (r1.ext (Hs' := H) e3 er1.cm fun _ z => z).rp k1, r3.rq k2, k3, k4, n⟩⟩⟩
  refine wpAny_Assign_Subscript (thn (he.run pins s σ H _ I q0) fun r s1 ⟨v, H1, I1, rv, q1⟩ => thn (hx.run pins s1 σ H1 (fun x H2 => x = .ref a ∧ H2 = H1) I1 ⟨.ref a, ha, rfl, rfl⟩) fun u s2 ⟨x2, H2, I2, rx, ex, eH⟩ => ?_) hs
  subst ex eH
  refine thn (hk.run pins s2 σ H2 _ I2 q1) fun iv s3 ⟨y, H3, I3, ry, q3⟩ => ?_
  obtain rfl : u = Value.ref a := rx
  obtain ⟨b3, w3, d, dk, hb3, rfl, er3, rd, rk, ok, hz, n⟩ := q3
  obtain ⟨a', ha', m3, c3, p3, z3, ob⟩ := er3.ownAt hi
  rw [ha] at ha'
  cases ha'
  have st : ∀ o, St1 w3 ⟨upd w3.H a o, w3.M, w3.C⟩ := fun o => ⟨fun b x n q => .inl (by show upd w3.H a _ b = some x; rw [upd_ne (fun z => n (by rw [z]; exact m3))]; exact q), fun b m => .inl m⟩
  obtain ⟨rr, hr⟩ := Option.isSome_iff_exists.mp ok
  have finK : ∀ (q : Key) (kvs : List (Key × V)), dk = kD q → es.map (·.1) = kvs.map (fun p => kD p.1) → RpL w3 (kvs.map (·.2)) (es.map (·.2)) → T.nx σ (upd w3.H a (.dK (putK kvs q v))) := fun q kvs e1 k1 k2 => by
    subst e1
    exact lf.nx _ n b3 _ σ hb3 (er3.mut hi ha (.dK upd_same (put_keys kD_eqv kvs es q v d k1) ((put_vals kD_eqv rd kvs es q k1 k2).st (st _))))
  have finT : ∀ (q : List Key) (kvs : List (List Key × V)), dk = tD q → es.map (·.1) = kvs.map (fun p => .tuple (p.1.map kD)) → RpL w3 (kvs.map (·.2)) (es.map (·.2)) → T.nx σ (upd w3.H a (.dT (putK kvs q v))) := fun q kvs e1 k1 k2 => by
    subst e1
    exact lf.nx _ n b3 _ σ hb3 (er3.mut hi ha (.dT upd_same (put_keys tD_eqv kvs es q v d k1) ((put_vals tD_eqv rd kvs es q k1 k2).st (st _))))
  have notT : ∀ q : Key, isT (kD q) = false := fun q => by cases q <;> rfl
  cases hT : isT dk with
  | true =>
    cases dk with
    | tuple ds =>
      simp only [dfind, Option.bind_eq_some_iff] at hr
      obtain ⟨ks, e1, hr⟩ := hr
      obtain ⟨cc, _⟩ := of_if hr
      have e2 := keysD?_eq e1
      subst e2
      cases rk with
      | @tup b xs _ nb hb rb =>
        have exs := RpL.keys rb
        subst exs
        cases ob with
        | @dT kvs _ hh k1 k2 => exact d_setItem hu I3 (DPut.t hh hb (by have := congrArg List.length k1; simp at this; omega)) ry rv fun s4 I4 => ⟨σ, _, I4, finT ks kvs rfl k1 k2⟩
        | @dK kvs _ hh k1 k2 =>
          have e0 : es = [] := by
            cases es with
            | nil => rfl
            | cons e0 es =>
              cases kvs with
              | nil => simp at k1
              | cons q kvs =>
                simp only [List.map_cons, List.cons.injEq] at k1
                simp only [List.all_cons, Bool.and_eq_true, k1.1, notT] at cc
                cases cc.1
          subst e0
          have e3 : kvs = [] := by cases kvs with | nil => rfl | cons q r => simp at k1
          subst e3
          have nba : b ≠ a := fun y => by rw [y, hh] at hb; cases hb
          have I3' := (Inv.swapD I3 (.inr hh)).2
          refine d_setItem hu I3' (DPut.t (k := ks) upd_same (by rw [upd_ne nba]; exact hb) hz) ry rv fun s4 I4 => ⟨σ, _, I4, ?_⟩
          rw [upd_upd]
          exact finT ks [] rfl rfl .nil
    | _ => cases hT
  | false =>
    obtain ⟨q, rfl⟩ : ∃ q, dk = kD q := by
      cases dk with
      | int i => exact ⟨.inl i, rfl⟩
      | str x => exact ⟨.inr x, rfl⟩
      | tuple ds => cases hT
      | none => cases hr
      | bool _ => cases hr
      | list _ => cases hr
      | dict _ => cases hr
    have ev := rk.key
    subst ev
    have cc : (es.all fun p => !isT p.1) = true := by
      have := hr
      cases q <;> exact (of_if this).1
    cases ob with
    | @dK kvs _ hh k1 k2 => exact d_setItem hu I3 (DPut.k hh (by have := congrArg List.length k1; simp at this; omega)) ry rv fun s4 I4 => ⟨σ, _, I4, finK q kvs rfl k1 k2⟩
    | @dT kvs _ hh k1 k2 =>
      have e0 : es = [] := by
        cases es with
        | nil => rfl
        | cons e0 es =>
          cases kvs with
          | nil => simp at k1
          | cons q' kvs =>
            simp only [List.map_cons, List.cons.injEq] at k1
            simp only [List.all_cons, Bool.and_eq_true, k1.1, isT] at cc
            cases cc.1
      subst e0
      have e3 : kvs = [] := by cases kvs with | nil => rfl | cons q r => simp at k1
      subst e3
      have I3' := (Inv.swapD I3 (.inl hh)).1
      refine d_setItem hu I3' (DPut.k (k := q) upd_same hz) ry rv fun s4 I4 => ⟨σ, _, I4, ?_⟩
      rw [upd_upd]
      exact finK q [] rfl rfl .nil
end
end DL
namespace DL
open PySem PySem.Spec PyProof.Rows L2
theorem Room.u65 {k : Nat} {A : Around} (r : Room k A) : A.units + 65 < cLine := by have := r.un; omega
theorem Room.u1 {k : Nat} {A : Around} (r : Room k A) : A.units + 1 < cLine := by have := r.un; omega
section
variable {X : Cx} {G : Gh} {e e2 : Expr} {wa wb : WE} {ca cb : Nat} {pos : Pos}
/-! ### unary minus, powers -/
def w1 (f : D → Option D) (wa : WE) : WE := fun env P => wa env fun x => ∃ d, x.val.bind f = some d ∧ P (mkDv d)
theorem de_neg (ha : DE X G e wa ca) : DE X G (.UnaryOp .USub e pos) (w1 negD wa) ca := PE_imp (pe_un un_neg ha) fun σ H Q h => tV.one h fun env w x dx P er rx k hf => by
  obtain ⟨d, h1, p⟩ := k
  obtain ⟨dx', h2, h3⟩ := Option.bind_eq_some_iff.mp h1
  have q := rx.rq h2
  cases dx' with
  | int i =>
    cases q; cases h3
    exact ⟨i, rfl, hf.pure er p (Same.refl _) (.int _)⟩
  | _ => cases h3
def powD : D → D → Option D
  | .int i, .int j => if 0 ≤ j ∧ j ≤ 1000000 ∧ i.natAbs < 2 ^ 64 then some (.int (i ^ j.toNat)) else none
  | _, _ => none
theorem op_powD : OpR X (binaryOp .Pow) (rV2 powD) := by
  intro pins s σ H x y v u Q I rx ry ⟨w, dx, dy, d, eH, wk, qx, qy, hf, hq⟩
  subst eH
  cases dx with
  | int i =>
    cases dy with
    | int j =>
      cases qx; cases qy
      obtain ⟨c, rfl⟩ := of_if hf
      exact op_pow pins s σ _ _ _ v u Q I rx ry ⟨i, j, rfl, rfl, c, hq _ _ (Same.refl _) (.int _)⟩
    | _ => cases hf
  | _ => cases dy <;> cases hf

/-! ### several targets at once: a, b = x, y -/
/-- as VR, but what is new is held meanwhile -/
def VRo (G : Gh) (Hs : Hp) (w : Wd) (v : V) : Dv → Prop
  | .nw d => ∃ a, v = .ref a ∧ Hs a = none ∧ w.M a ∧ ¬ w.C a ∧ Ow w a d
  | dv => VR G Hs w v dv
theorem VRo.ext {Hs : Hp} {w w' : Wd} {v : V} {dv : Dv} (h : VRo G Hs w v dv) (ex : Ext w w') (cm : ∀ a, w.C a → w.M a) : VRo G Hs w' v dv := by
  cases dv with
  | nw d =>
    obtain ⟨a, q, z, m, n, o⟩ := h
    obtain ⟨ob, ho⟩ := o.there
    exact ⟨a, q, z, ex.oldM a m, fun c => (ex.newC a c).elim n (by rw [ho]; simp), o.st (ex.st cm) (by rw [ho]; exact ex.own n m ho)⟩
  | fz d => exact VR.ext (G := G) (Hs := Hs) (Hs' := Hs) (dv := .fz d) h ex cm fun _ z => z
  | ow d => exact VR.ext (G := G) (Hs := Hs) (Hs' := Hs) (dv := .ow d) h ex cm fun _ z => z
  | bw d => exact VR.ext (G := G) (Hs := Hs) (Hs' := Hs) (dv := .bw d) h ex cm fun _ z => z
  | raw d => exact VR.ext (G := G) (Hs := Hs) (Hs' := Hs) (dv := .raw d) h ex cm fun _ z => z
/-- an expression's value, held -/
theorem tV.held {wa : WE} {K : Ev → Dv → Prop} {σ : L2.St} {w : Wd} {env : Ev} {R : V → Hp → Prop} {b : Nat} (hb : b + ca ≤ cap) (er : ER (G.at b) w env σ) (h : wa env (K env)) (fin : ∀ b' w' x dx, b' ≤ b + ca → ER (G.at b') w' env σ → Ext w w' → VRo G w.H w' x dx → K env dx → R x w'.H) : tV G wa ca σ w.H R := by
  refine ⟨env, w.M, w.C, b, _, hb, er, h, fun dv k b' w' v hb' er' e' r => ?_⟩
  cases dv with
  | nw d =>
    obtain ⟨a, rfl, z, m, n, o⟩ := r
    obtain ⟨ob, ho⟩ := o.there
    obtain ⟨er2, e2⟩ := ER.held (d := d) er er' e' z (by rw [show w'.H a = some ob from ho]; simp)
    exact fin b' (w'.plus a) _ (.nw d) hb' er2 e2 ⟨a, rfl, z, .inr rfl, n, o⟩ k
  | fz d => exact fin b' w' v (.fz d) hb' er' e' r k
  | ow d => exact fin b' w' v (.ow d) hb' er' e' r k
  | bw d => exact fin b' w' v (.bw d) hb' er' e' r k
  | raw d => exact fin b' w' v (.raw d) hb' er' e' r k
/-- a held value comes into a slot -/
theorem storeO {k : Kp} {i : Nat} {x : Dv} {env : Ev} {N : Ev → Prop} {σ : L2.St} {w0 w : Wd} {env0 : Ev} {σ0 : L2.St} {v : V} {b0 b1 : Nat} (h : store k i x env N) (er0 : ER (G.at b0) w0 env0 σ0) (er : ER (G.at b1) w env σ) (r : VRo G w0.H w v x) (nd : ∀ (a : Addr) (d : D) (j : Nat), (∃ dd, x = .nw dd) → v = .ref a → env[j]? = some (Sl.own d) → σ[j]? ≠ some (some (V.ref a))) :
    ∃ env' w', N env' ∧ w'.H = w.H ∧ ER (G.at b1) w' env' (σ.set i (some v)) ∧ (∀ a, w'.M a → w.M a) ∧ (∀ a, w.M a → w'.M a ∨ (v = .ref a ∧ ∃ d, x = .nw d)) ∧ w'.C = w.C ∧ ∃ sl, env' = env.set i sl ∧ ((∃ d, sl = Sl.own d) → ∃ d, x = .nw d) := by
  have fr : ∀ a, w0.H a = none → G.Pt a = none ∧ G.H0 a = none := fun a z => ⟨by
      cases q : G.Pt a with
      | none => rfl
      | some x => rcases er0.kp a x q with y | ⟨_, _, ob, y⟩ <;> (rw [z] at y; cases y), by
      cases q : G.H0 a with
      | none => rfl
      | some x => exact absurd z (er0.hd a (by rw [q]; simp))⟩
  cases k with
  | fz =>
    obtain ⟨d, h1, h2⟩ := h
    cases x with
    | nw d' =>
      simp only [Dv.kept] at h1
      by_cases q : isDct d' = true
      · rw [if_pos q] at h1; cases h1
      · rw [if_neg q] at h1; cases h1
        obtain ⟨a, rfl, z, m, n, o⟩ := r
        have st : St1 w ⟨w.H, fun b => w.M b ∧ b ≠ a, w.C⟩ := ⟨fun b x n q => .inl q, fun b m => .inl m.1⟩
        have rp : Rp ⟨w.H, fun b => w.M b ∧ b ≠ a, w.C⟩ (.ref a) d := (o.st st rfl).rp fun q => q.2 rfl
        have er' : ER (G.at b1) ⟨w.H, fun b => w.M b ∧ b ≠ a, w.C⟩ env σ := by
          refine ⟨⟨er.kp, fun b q => ⟨er.m0 b q, fun y => G.mh b q (by rw [y]; exact (fr a z).2)⟩, er.nc, er.cp, fun b q => ⟨er.cm b q, fun y => n (by rw [← y]; exact q)⟩, fun b q => er.md b q.1, er.hd, fun p hp => (er.gk p hp).st st, er.si⟩, er.len, fun j s ov q1 q2 => ?_, er.od⟩
          have s0 := er.sl j s ov q1 q2
          cases s with
          | no => trivial
          | fz d => obtain ⟨v, y, r⟩ := s0; exact ⟨v, y, r.st st⟩
          | raw v => exact s0
          | own d =>
            obtain ⟨b, rfl, mb, cb, pb, zb, ob⟩ := s0
            exact ⟨b, rfl, ⟨mb, fun y => nd a d j ⟨_, rfl⟩ rfl q1 (by rw [← y]; exact q2)⟩, cb, pb, zb, ob.st st rfl⟩
          | bw d =>
            obtain ⟨b, rfl, mb, cb, ⟨x, pb⟩, ob⟩ := s0
            exact ⟨b, rfl, ⟨mb, fun y => by rw [y, (fr a z).1] at pb; cases pb⟩, cb, ⟨x, pb⟩, ob.st st rfl⟩
        exact ⟨_, ⟨w.H, fun b => w.M b ∧ b ≠ a, w.C⟩, h2, rfl, er'.setFz rp i, fun b m => m.1, fun b m => by
          by_cases y : b = a
          · exact .inr ⟨by rw [y], _, rfl⟩
          · exact .inl ⟨m, y⟩, rfl, _, rfl, fun ⟨_, q⟩ => (nomatch q)⟩
    | fz d' => exact ⟨_, w, h2, rfl, er.setFz (VR.rp (G := G) (Hs := w0.H) (dv := .fz d') r h1) i, fun _ m => m, fun _ m => .inl m, rfl, _, rfl, fun ⟨_, q⟩ => (nomatch q)⟩
    | ow d' => cases h1
    | bw d' => cases h1
    | raw d' => cases h1
  | own =>
    obtain ⟨d, rfl, h2⟩ := h
    obtain ⟨a, rfl, z, m, n, o⟩ := r
    refine ⟨_, w, h2, rfl, ⟨er.toEH, by rw [List.length_set, List.length_set]; exact er.len, fun j s ov q1 q2 => ?_, fun j k d1 d2 b q1 q2 q3 q4 => ?_⟩, fun _ m => m, fun _ m => .inl m, rfl, _, rfl, fun _ => ⟨_, rfl⟩⟩
    · rcases get_set q1 with ⟨rfl, rfl⟩ | ⟨n1, q1⟩
      · rcases get_set q2 with ⟨_, rfl⟩ | ⟨n2, _⟩
        · exact ⟨a, rfl, m, n, (fr a z).1, (fr a z).2, o⟩
        · exact absurd rfl n2
      · rcases get_set q2 with ⟨n2, _⟩ | ⟨_, q2⟩
        · exact absurd n2 n1
        · exact er.sl j s ov q1 q2
    · rcases get_set q1 with ⟨ej, _⟩ | ⟨n1, g1⟩
      · rcases get_set q2 with ⟨ek, _⟩ | ⟨n2, g2⟩
        · rw [ej, ek]
        · rcases get_set q3 with ⟨_, y⟩ | ⟨y, _⟩
          · rcases get_set q4 with ⟨y, _⟩ | ⟨_, g4⟩
            · exact absurd y n2
            · rw [V.ref.inj (Option.some.inj y)] at g4
              exact (nd _ _ k ⟨_, rfl⟩ rfl g2 g4).elim
          · exact absurd ej y
      · rcases get_set q3 with ⟨y, _⟩ | ⟨_, g3⟩
        · exact absurd y n1
        · rcases get_set q2 with ⟨ek, _⟩ | ⟨n2, g2⟩
          · rcases get_set q4 with ⟨_, y⟩ | ⟨y, _⟩
            · rw [V.ref.inj (Option.some.inj y)] at g3
              exact (nd _ _ j ⟨_, rfl⟩ rfl g1 g3).elim
            · exact absurd ek y
          · rcases get_set q4 with ⟨y, _⟩ | ⟨_, g4⟩
            · exact absurd y n2
            · exact er.od j k d1 d2 b g1 g2 g3 g4
  | raw =>
    obtain ⟨u, rfl, h2⟩ := h
    obtain rfl : v = u := r
    exact ⟨_, w, h2, rfl, er.setRaw i, fun _ m => m, fun _ m => .inl m, rfl, _, rfl, fun ⟨_, q⟩ => (nomatch q)⟩
theorem VRo.less {Hs : Hp} {w w' : Wd} {v : V} {dv : Dv} {U : Addr → Prop} (h : VRo G Hs w v dv) (eH : w'.H = w.H) (eC : w'.C = w.C) (h1 : ∀ a, w'.M a → w.M a) (h2 : ∀ a, w.M a → w'.M a ∨ U a) (ne : ∀ a, U a → Hs a ≠ none) (nb : dv.kept ≠ none ∨ (∃ d, dv = .nw d) ∨ ∃ v, dv = .raw v) : VRo G Hs w' v dv := by
  have st : St1 w w' := ⟨fun a o _ q => .inl (by rw [eH]; exact q), fun a m => .inl (h1 a m)⟩
  cases dv with
  | nw d =>
    obtain ⟨a, q, z, m, n, o⟩ := h
    exact ⟨a, q, z, (h2 a m).elim id fun y => absurd z (ne a y), by rw [eC]; exact n, o.st st (by rw [eH])⟩
  | fz d => exact Rp.st st h
  | raw d => exact h
  | ow d =>
    rcases nb with q | ⟨_, q⟩ | ⟨_, q⟩
    · exact (q rfl).elim
    · cases q
    · cases q
  | bw d =>
    rcases nb with q | ⟨_, q⟩ | ⟨_, q⟩
    · exact (q rfl).elim
    · cases q
    · cases q
theorem store_nb {k : Kp} {i : Nat} {x : Dv} {env : Ev} {N : Ev → Prop} (h : store k i x env N) : x.kept ≠ none ∨ (∃ d, x = .nw d) ∨ ∃ v, x = .raw v := by
  cases k with
  | fz => obtain ⟨d, q, _⟩ := h; exact .inl (by rw [q]; simp)
  | own => obtain ⟨d, q, _⟩ := h; exact .inr (.inl ⟨d, q⟩)
  | raw => obtain ⟨d, q, _⟩ := h; exact .inr (.inr ⟨d, q⟩)
/-- no own slot holds what is new -/
theorem ER.notNew {w : Wd} {env : Ev} {σ : L2.St} (er : ER G w env σ) {a : Addr} {d : D} {j : Nat} (h : env[j]? = some (.own d)) (z : w.H a = none) : σ[j]? ≠ some (some (.ref a)) := fun q => by
  obtain ⟨b, h1, _, _, _, _, o⟩ := er.ownAt h
  rw [q] at h1
  cases h1
  obtain ⟨ob, ho⟩ := o.there
  rw [z] at ho; cases ho
def wPar2 (k1 : Kp) (i : Nat) (k2 : Kp) (j : Nat) (wa wb : WE) : WS := fun env De => wa env fun x => wb env fun y => store k1 i x env fun env1 => store k2 j y env1 De.nx
theorem ds_par2 (k1 : Kp) (i : Nat) (k2 : Kp) (j : Nat) {x y : Str} {px py pt : Pos} {kt kk pt2} (hc : X.calm = true) (hN : X.N.Nodup) (ha : DE X G e wa ca) (hb : DE X G e2 wb cb) (hi : X.N[i]? = some x := by rfl) (hj : X.N[j]? = some y := by rfl) (hij : i ≠ j := by decide)
    (hx : X.env.scope.names.lookup x = some .local := by rfl) (hy : X.env.scope.names.lookup y = some .local := by rfl) (ne : starEach [e, e2] X.env = (false, eval e X.env) :: starEach [e2] X.env := by rfl) (ne2 : starEach [e2] X.env = (false, eval e2 X.env) :: starEach [] X.env := by rfl)
    (hw : swappedStores [.Tuple [.Name x px, .Name y py] kt pt] (.Tuple [e, e2] kk pt2) X.env = pure (some [x, y]) := by rfl)
    (hs : swapsWithSole [.Tuple [.Name x px, .Name y py] kt pt] (.Tuple [e, e2] kk pt2) pos.line X.env = pure false := by rfl) :
    DS X G (.Assign [.Tuple [.Name x px, .Name y py] kt pt] (.Tuple [e, e2] kk pt2) pos) (wPar2 k1 i k2 j wa wb) (ca + cb) :=
  PS_imp (ps_par hc hN hi hj hij hx hy (pa_cons ha (pa_cons hb pa_nil ne2) ne) hw hs) fun σ H T h => by
    obtain ⟨env, M, C, b0, De, hb0, er, hp, lf⟩ := h
    suffices q : tV G wa ca σ H fun v1 H1 => tV G wb cb σ H1 fun v2 H2 => ∃ v w, [v1, v2] = [v, w] ∧ T.nx ((σ.set i (some v)).set j (some w)) H2 from q
    refine tV.held (K := fun env x => wb env fun y => store k1 i x env fun env1 => store k2 j y env1 De.nx) (w := ⟨H, M, C⟩) (b := b0) (by omega) er hp fun b1 w1 v1 d1 hb1 er1 e1 r1 hq => ?_
    refine tV.held (K := fun env y => store k1 i d1 env fun env1 => store k2 j y env1 De.nx) (b := b1) (by omega) er1 hq fun b2 w2 v2 d2 hb2 er2 e2' r2 hs => ?_
    refine ⟨v1, v2, rfl, ?_⟩
    have r1' := r1.ext e2' er1.cm
    have new1 : ∀ a d, v1 = .ref a → d1 = .nw d → H a = none ∧ w1.H a ≠ none := fun a d ea ed => by
      subst ed
      obtain ⟨b, q, z, _, _, o⟩ := r1
      rw [ea] at q; cases q
      obtain ⟨ob, ho⟩ := o.there
      exact ⟨z, by rw [ho]; simp⟩
    obtain ⟨env1, w3, hn, eH, er3, g1, g2, eC, sl, esl, hsl⟩ := storeO hs er er2 r1' fun a d m ⟨dd, ed⟩ ea hm => er.notNew hm (new1 a dd ea ed).1
    -- the second value stands in the world behind the first store
    have r2' : VRo G w1.H w3 v2 d2 := VRo.less r2 eH eC g1 g2 (fun a ⟨ea, dd, ed⟩ => (new1 a dd ea ed).2) (store_nb hn)
    obtain ⟨env2, w4, hn2, eH2, er4, _⟩ := storeO hn er1 er3 r2' fun a d m ⟨dd, ed⟩ ea hm hq => by
      subst ed
      obtain ⟨b, q, z, _, _, o⟩ := r2
      rw [ea] at q; cases q
      rw [esl] at hm
      rcases get_set hm with ⟨em, es⟩ | ⟨nm, hm⟩
      · rcases get_set hq with ⟨_, y⟩ | ⟨y, _⟩
        · obtain ⟨dd', ed'⟩ := hsl ⟨d, es.symm⟩
          exact (new1 _ dd' (Option.some.inj y).symm ed').2 z
        · exact absurd em y
      · rcases get_set hq with ⟨y, _⟩ | ⟨_, hq⟩
        · exact absurd y nm
        · exact er1.notNew hm z hq
    rw [← eH, ← eH2]
    exact lf.nx env2 hn2 b2 w4 _ (by omega) er4
end
end DL
namespace DL
open PySem PySem.Spec PyProof.Rows L2 PySem.W
/-! ### sorted -/
def alikeB (ds : List D) : Bool := ds.all fun d => ds.all fun e => alike d e
def tup1 : D → Bool
  | .tuple (_ :: _) => true
  | _ => false
def plain1 : D → Bool
  | .none => false
  | .tuple _ => false
  | _ => true
def sortOk (ds : List D) : Bool := alikeB ds && (ds.all tup1 || ds.all plain1) && decide (ds.length ≤ sizeLine) && ds.all (fun d => decide (d.depth ≤ 50)) && PyData.canLayAll0 ds
def sortD (ds : List D) : List D := ds.mergeSort (dataLe false id)
def sortedD : List D → Option D
  | [.list ds] => if sortOk ds = true then some (.list (sortD ds)) else none
  | [.tuple ds] => if sortOk ds = true then some (.list (sortD ds)) else none
  | _ => none
theorem sortOk_get {ds : List D} (h : sortOk ds = true) : AllAlike (ds.map id) ∧ Sortable (ds.map id) ∧ ds.length ≤ sizeLine ∧ (∀ d ∈ ds, d.depth ≤ 50) ∧ PyData.canLayAll0 ds = true := by
  simp only [sortOk, Bool.and_eq_true, decide_eq_true_eq, Bool.or_eq_true, List.all_eq_true, alikeB] at h
  obtain ⟨⟨⟨⟨h1, h2⟩, h3⟩, h4⟩, h5⟩ := h
  rw [List.map_id]
  refine ⟨fun d hd e he => h1 d hd e he, ?_, h3, h4, h5⟩
  rcases h2 with q | q
  · refine .inl fun d hd => ?_
    have := q d hd
    cases d with
    | tuple xs =>
      cases xs with
      | nil => cases this
      | cons x r => exact ⟨x, r, rfl⟩
    | _ => cases this
  · refine .inr fun d hd => ⟨fun z => ?_, fun xs z => ?_⟩
    · have := q d hd; rw [z] at this; cases this
    · have := q d hd; rw [z] at this; cases this
section
variable {X : Cx} {G : Gh}
theorem each_of {w : Wd} : ∀ {ds : List D} {vs : List V} {us : List Value}, RpL w vs ds → Vals vs us → EachIs (fun u d => ∃ v, RelV v u ∧ Rp w v d) us ds
  | _, _, _, .nil, .nil => .nil
  | _, _, _, .cons h r, .cons q t => .cons ⟨_, q, h⟩ (each_of r t)
theorem of_each {w : Wd} : ∀ {ds : List D} {us : List Value}, EachIs (fun u d => ∃ v, RelV v u ∧ Rp w v d) us ds → ∃ vs, RpL w vs ds ∧ Vals vs us
  | _, _, .nil => ⟨[], .nil, .nil⟩
  | _, _, .cons ⟨v, q, h⟩ r => by
    obtain ⟨vs, a, b⟩ := of_each r
    exact ⟨v :: vs, .cons h a, .cons q b⟩
theorem each_reads {pins : List (Addr × Obj)} {σ : L2.St} {w : Wd} {s : Shared} (I : Inv X pins σ w.H s) : ∀ {ds : List D} {vs : List V} {us : List Value}, RpL w vs ds → Vals vs us → PyData.canLayAll0 ds = true → EachIs (fun u d => ∃ as, Reads s.heap u (id d) as) us ds
  | _, _, _, .nil, .nil, _ => .nil
  | _, _, _, .cons h r, .cons q t, c => by
    rw [PyData.canLayAll0, Bool.and_eq_true] at c
    exact .cons (Dp.reads I _ _ _ (Rp.dp (K := X.K) h c.1) q) (each_reads I r t c.2)
theorem sorted_end {pins : List (Addr × Obj)} {σ : L2.St} {w : Wd} {s : Shared} {Q : VK} {ds : List D} {us out : List Value} (I : Inv X pins σ w.H s) (hz : ds.length ≤ sizeLine) (ho : out.length = ds.length) (eo : EachIs (fun u d => ∃ v, RelV v u ∧ Rp w v d) out (ds.mergeSort (dataLe false id)))
    (hq : ∀ v H', Same w.H H' → VN w H' v (.list (sortD ds)) → Q v H') : EP X pins σ Q (.ref (s.heap.objs.size + 1)) { s with heap := sortedAll s.heap us out.toArray } := by
  obtain ⟨vs, r1, r2⟩ := of_each eo
  obtain ⟨c, hc⟩ := sortedAll_at s.heap us out.toArray
  have hp : w.H (s.heap.objs.size + 1) = none := I.hok.fresh (Nat.le_succ _)
  refine ⟨.ref (s.heap.objs.size + 1), upd w.H (s.heap.objs.size + 1) (.lst vs), I.laid (t' := s.toks) (fun b u q => sortedAll_old q) (Nat.le_succ _) ⟨?_, out, c, r2, hc⟩, rfl, hq _ _ (same_new hp) (newL hp r1)⟩
  rw [r2.length, ho]; exact hz
/-- a tuple's items, collected -/
theorem collectT {prog : Program} {w : World} {A : Around} {E : Value → Shared → Prop} {s : Shared} {l : Addr} {vs : List Value} {Q : List Value → Shared → Prop} (ht : s.heap.IsTuple l vs.toArray) (hz : vs.length ≤ sizeLine)
    (h : Q vs { s with heap := (s.heap.push (seqObj "list" #[] 0)).update s.heap.objs.size (Obj.mapSeq (· ++ vs.toArray)) }) : wpAny (model prog w) A (collect (.ref l)) Q E s := by
  obtain ⟨o, ho, hc, n, hd⟩ := id ht
  unfold collect; refine wpAny_bind (wpAny_runValue (codeAny_builtin entry_proto_collect' ?_))
  show wpAny _ _ (do again (.builtin "list.__iadd__" ⟨[← newList [], .ref l], []⟩)) _ _ s; refine wpAny_bind (wpAny_newList (wpAny_pure ⟨Code.quiet_builtin _ (by decide +kernel), codeAny_builtin entry_list_iadd' ?_⟩))
  show wpAny _ _ (Builtin.List.listExtendWith (.ref s.heap.objs.size) (.ref l) (.ref s.heap.objs.size)) _ _ { s with heap := s.heap.push (seqObj "list" #[] 0) }; unfold Builtin.List.listExtendWith
  have ho' : (s.heap.push (seqObj "list" #[] 0)).get? l = some o := Heap.get?_push_of_some _ ho
  refine wpAny_bind (wpAny_typeOf (T := "tuple") ⟨o, ho', hc⟩ ?_)
  have e2 : (Value.type "tuple" == Value.type "tuple") = true := by rfl
  rw [if_pos (by rw [e2]; simp)]; refine wpAny_bind (listItems_at ho' hd ?_)
  refine wpAny_bind (listItems_at (xs := #[]) (n := 0) (Heap.get?_push_size _ rfl) rfl ?_); rw [if_neg (by simp)]
  refine wpAny_bind (listUpdate_at (xs := #[]) (n := 0) (Heap.get?_push_size _ rfl) rfl ?_ (Nat.zero_le _) (by show (#[] ++ vs.toArray).size ≤ sizeLine + 1; simp only [Array.size_append, List.size_toArray, List.length_nil]; omega)); refine wpAny_pure ?_
  show wpAny (model prog w) A (do let o ← load s.heap.objs.size
                                  match o.data with
                                  | .seq xs _ => pure xs.toList
                                  | _ => unsupported "internal:collect") Q E { s with heap := (s.heap.push (seqObj "list" #[] 0)).update s.heap.objs.size (Obj.mapSeq (· ++ vs.toArray)) }
  refine wpAny_bind (wpAny_load (get?_update_seq (Heap.get?_push_size _ rfl) _) ?_); show wpAny _ _ (pure ((#[] : Array Value) ++ vs.toArray).toList) Q E _
  rw [show ((#[] : Array Value) ++ vs.toArray).toList = vs by simp]; exact wpAny_pure h
theorem sortedT {prog : Program} {w : World} {A : Around} {E : Value → Shared → Prop} {s : Shared} {κ : PyProof.Rows.KeyKind} {l : Addr} {vs : List Value} {Q : Value → Shared → Prop} (ht : s.heap.IsTuple l vs.toArray) (S : SortsAt prog w A.in1.in1 { s with heap := sortingHeap (copyHeap s.heap vs) (s.heap.objs.size + 1) vs } κ vs) (hL : vs.length ≤ sizeLine)
    (h : Q (.ref (s.heap.objs.size + 1)) { s with heap := sortedAll s.heap vs (sortVals κ false vs vs).toArray }) : wpAny (model prog w) A (call (.builtin "sorted") [.ref l]) Q E s := by
  refine Calls.call_function_entry kind_sorted plain_sorted entry_sorted (args_sorted1 _) ?_; unfold Builtin.«sorted»
  refine wpAny_bind (m := checkCount "sorted" 1 1 _) (wpAny_pure ?_); refine wpAny_bind (collectT ht hL ?_)
  refine wpAny_bind (wpAny_newList ?_ hL)
  have hsz : ((s.heap.push (seqObj "list" #[] 0)).update s.heap.objs.size (Obj.mapSeq (· ++ vs.toArray))).objs.size = s.heap.objs.size + 1 := by rw [Heap.size_update, size_push']
  show wpAny _ _ _ _ _ { s with heap := copyHeap s.heap vs }; rw [hsz]
  refine wpAny_bind (wpAny_holding (wpAny_call_entry_kw slot_list_sort ⟨_, copyHeap_at s.heap vs, rfl⟩ entry_list_sort ?_ (args_list_sort _)))
  refine list_sort_vals (s := { s with heap := copyHeap s.heap vs }) (copyHeap_at s.heap vs) S hL ⟨_, rfl, wpAny_pure ⟨_, rfl, h⟩⟩
theorem call_sortedD (hu : X.A.units + 65 < cLine) : CallR X (.builtin "sorted") (rB sortedD) := by
  intro pins s σ H xs us Q I r ⟨w, ds, d, eH, wk, qx, hf, hq⟩
  subst eH
  unfold sortedD at hf
  split at hf
  · obtain ⟨c, rfl⟩ := of_if hf
    obtain ⟨x, rfl, q⟩ := qx.one'
    obtain ⟨u, rfl, ru⟩ := vals1 r
    obtain ⟨h1, h2, h3, h4, h5⟩ := sortOk_get c
    cases q with
    | @lst a xs _ h rl =>
      cases (show u = Value.ref a from ru)
      obtain ⟨its, rv, pl, _⟩ := I.list (SqL.of h)
      exact sorted_data (enc := id) pl.isList (each_of rl rv) (each_reads I rl rv h5) h1 h2 h3 (fun b hb => by have := h4 b hb; show X.A.units + 2 + b.depth < cLine; omega) fun out ho eo => sorted_end I h3 ho eo hq
  · obtain ⟨c, rfl⟩ := of_if hf
    obtain ⟨x, rfl, q⟩ := qx.one'
    obtain ⟨u, rfl, ru⟩ := vals1 r
    obtain ⟨h1, h2, h3, h4, h5⟩ := sortOk_get c
    cases q with
    | @tup a xs _ _ h rl =>
      cases (show u = Value.ref a from ru)
      obtain ⟨its, rv, pl, _⟩ := I.tuple (SqT.of h)
      have er : EachIs (fun u d => ∃ as, Reads (sortingHeap (copyHeap s.heap its) (s.heap.objs.size + 1) its) u (id d) as) its _ := (each_reads I rl rv h5).mono fun _ _ ⟨as, r⟩ => ⟨as, PyProof.Rows.Reads.keeps (fun _ _ => sorting_copy_old) r⟩
      have el := (each_of rl rv).length
      refine sortedT (show s.heap.IsTuple a its.toArray from pl) (SortsAt.data (s := { s with heap := sortingHeap (copyHeap s.heap its) (s.heap.objs.size + 1) its }) (each_map (R := fun v d => ∃ as, Reads (sortingHeap (copyHeap s.heap its) (s.heap.objs.size + 1) its) v d as) id er) h1 h2 (bound_map fun b hb => by have := h4 b hb; show X.A.units + 2 + b.depth < cLine; omega)) (by rw [el]; exact h3) ?_
      exact sorted_end I h3 (by rw [sortVals_length false rfl]; exact el) (sortVals_data false (each_of rl rv) er h1) hq
  · cases hf
/-! ### repr -/
mutual
theorem noDict : ∀ d : D, d.canLay0 = true → d.hasDict = false
  | .none, _ => by simp [PyData.hasDict]
  | .bool _, _ => by simp [PyData.hasDict]
  | .int _, _ => by simp [PyData.hasDict]
  | .str _, _ => by simp [PyData.hasDict]
  | .list xs, h => by rw [PyData.hasDict]; exact noDictAll xs h
  | .tuple xs, h => by rw [PyData.hasDict]; exact noDictAll xs h
  | .dict _, h => by cases h
theorem noDictAll : ∀ ds : List D, PyData.canLayAll0 ds = true → PyData.hasDictAll ds = false
  | [], _ => by simp [PyData.hasDictAll]
  | d :: ds, h => by
    rw [PyData.canLayAll0, Bool.and_eq_true] at h
    rw [PyData.hasDictAll, noDict d h.1, noDictAll ds h.2]; rfl
end
def reprOk (d : D) : Bool := d.canLay0 && d.showable && decide (d.depth ≤ 50) && decide (d.shown.length ≤ sizeLine)
def reprD : List D → Option D
  | [d] => if reprOk d = true then some (.str d.shown) else none
  | _ => none
theorem call_reprD (hgd : X.A.guards = some []) (hu : X.A.units + 65 < cLine) : CallR X (.builtin "repr") (rB reprD) := by
  intro pins s σ H xs us Q I r ⟨w, ds, d, eH, wk, qx, hf, hq⟩
  subst eH
  unfold reprD at hf
  split at hf
  · rename_i d0
    obtain ⟨c, rfl⟩ := of_if hf
    obtain ⟨x, rfl, q⟩ := qx.one'
    obtain ⟨u, rfl, ru⟩ := vals1 r
    simp only [reprOk, Bool.and_eq_true, decide_eq_true_eq] at c
    obtain ⟨⟨⟨c1, c2⟩, c3⟩, c4⟩ := c
    have fin : ∀ (t : Tok) (s' : Shared), Inv X pins σ w.H s' → EP X pins σ Q (.str d0.shown t) s' := fun t s' I' => ⟨.str d0.shown, _, I', ⟨t, rfl⟩, hq _ _ (Same.refl _) (.str _)⟩
    obtain ⟨as, rd⟩ := Dp.reads I d0 x u (q.dp c1) ru
    have big : ∀ a, u = .ref a → wpAny (model X.prog X.w) X.A (call (.builtin "repr") [u]) (EP X pins σ Q) X.xe s := fun a e => by
      subst e
      exact repr_of_reads' rd c2 (fun z => by rw [noDict d0 c1] at z; cases z) hgd (by omega) (fun _ _ z => z) (fun h' t tk k => fin _ _ (I.kept k)) c4
    cases rd with
    | none => exact PySem.P.repr_of_none (fin _ _ (I.tok _))
    | bool b => simp only [PyData.shown] at fin; exact PySem.P.repr_of_bool (fin _ _ (I.tok _))
    | int i t => simp only [PyData.shown] at fin; exact PySem.P.repr_of_int (by simpa [PyData.showable] using c2) (fin _ _ (I.tok _))
    | str y t => simp only [PyData.shown] at fin c4; exact PySem.P.repr_of_str (fin _ _ (I.tok _)) c4
    | list _ _ _ _ => exact big _ rfl
    | tuple _ _ _ _ => exact big _ rfl
    | dict _ _ _ _ _ => cases c1
  · cases hf
end
end DL
namespace DL
open PySem PySem.Spec PyProof.Rows L2 PySem.W
/-! ### enumerate of a tuple -/
set_option maxHeartbeats 1000000 in
theorem meets_enumT {v : Value} {o : Obj} {H : Heap → Prop} (B : Begins v o H) :
    Meets (Builtin.«enumerate.__new__» ⟨[.type "enumerate", v], []⟩) (fun _ R s => H s.heap ∧ R (.ok (.ret (.ref (s.heap.push o).objs.size))) { s with heap := (s.heap.push o).push { cls := .type "enumerate", data := .fields #[.none, .bool false, .ref s.heap.objs.size, rawInt 0, .none, .none] } }) :=
  .of_wp fun prog w A R s h => by
    obtain ⟨hp, g, d, tk, os⟩ := s
    obtain ⟨h1, h⟩ := h
    have hsub := sub_enumerate
    have q1 : ∀ {A' : Around} {E : Value → Shared → Prop} {Q : Value → Shared → Prop}, Q (.ref hp.objs.size) ⟨hp.push o, g, d, tk, os⟩ → wpAny (model prog w) A' (pyIter v) Q E ⟨hp, g, d, tk, os⟩ := fun q => B.iter prog w _ _ ⟨hp, g, d, tk, os⟩ _ h1 q
    wp_walk using q1
    refine wpAny_stack_any fun st => wpAny_pure ?_
    split
    · rename_i c _ _ _ _ _
      cases (c == Value.type "enumerate") <;> (wp_walk using q1; exact ⟨_, rfl, h⟩)
    · wp_walk using q1; exact ⟨_, rfl, h⟩
theorem enumT_begins {prog : Program} {w : World} {A : Around} {E : Value → Shared → Prop} {s : Shared} {v : Value} {o : Obj} {H : Heap → Prop} {Q : Value → Shared → Prop} (B : Begins v o H) (h1 : H s.heap)
    (h : ∀ h', IsEnum h' (s.heap.objs.size + 1) s.heap.objs.size 0 .none → h'.get? s.heap.objs.size = some o → h'.objs.size = s.heap.objs.size + 2 → (∀ b o, s.heap.get? b = some o → h'.get? b = some o) → Q (.ref (s.heap.objs.size + 1)) { s with heap := h' }) :
    wpAny (model prog w) A (call (.type "enumerate") [v]) Q E s := by
  refine callType_new F.called_enumerate (by decide) (F.typeCall_enumerate_1 _) (F.newCall_enumerate_1 _) (fun obj => F.args_object_init_2 obj _) F.entry_enumerate_new (meets_enumT B) ⟨h1, ?_⟩
  have hz : (s.heap.push o).objs.size = s.heap.objs.size + 1 := Heap.size_push ..
  show _ ∧ _; rw [hz]
  have he : IsEnum ((s.heap.push o).push { cls := .type "enumerate", data := .fields #[.none, .bool false, .ref s.heap.objs.size, rawInt 0, .none, .none] }) (s.heap.objs.size + 1) s.heap.objs.size 0 .none := by
    have q := Heap.get?_push_size (s.heap.push o) (o := { cls := .type "enumerate", data := .fields #[.none, .bool false, .ref s.heap.objs.size, rawInt 0, .none, .none] }) rfl
    rw [hz] at q; exact q
  exact ⟨⟨_, he, rfl⟩, h _ he (Heap.get?_push_of_some _ (Heap.get?_push_size _ B.free)) (by rw [Heap.size_push, hz]) fun b o x => Heap.get?_push_of_some _ (Heap.get?_push_of_some _ x)⟩
def IteT (K : PySem.W.Frag) (a : Addr) : It :=
  ⟨fun i H => ∃ (xs : List V) (x : V), SqT K H a xs ∧ xs[i]? = some x, fun i H v H' => ∃ T x, v = .ref T ∧ H T = none ∧ H' = upd H T (.tup [.int (i : Nat), x]) ∧ ∀ xs, SqT K H a xs → xs[i]? = some x, fun i H => ∃ xs : List V, SqT K H a xs ∧ xs.length ≤ i⟩
theorem cls_ne {h : Heap} {a b : Addr} {o u : Obj} {c d : String} (h1 : h.get? a = some o) (h2 : h.get? b = some u) (e1 : o.cls = .type c) (e2 : u.cls = .type d) (n : c ≠ d) : a ≠ b := fun z => by
  rw [z, h2] at h1; cases h1; rw [e1] at e2; cases e2; exact n rfl
/-- a tuple's iterator that is at the end -/
theorem drawsEnd {prog : Program} {w : World} {A : Around} (hh : A.handled = none) (it t : Addr) (items : Array Value) (i : Nat) (hi : items.size ≤ i) : Draws prog w A it [it, t] i (fun _ _ => False) (fun j h => j = i ∧ h.IsTupleIter it t j ∧ h.IsTuple t items) where
  live := fun _ _ st => let ⟨o, ho, _⟩ := st.2.1; ⟨o, ho⟩
  frame := fun _ _ _ st hk => ⟨st.1, st.2.1.at fun o e => hk it (by simp) o e, st.2.2.at fun o e => hk t (by simp) o e⟩
  item := fun j s Q E hj st _ => absurd st.1 (Nat.ne_of_lt hj)
  done := fun s Q E st hE => wpAny_nextOf_tuple_end hh st.2.1 st.2.2 (Array.getElem?_eq_none hi) hE
theorem turn_enumT {P : Program} {w : World} {K : PySem.W.Frag} {elts : List Expr} {kk : Nat} {tpos : Pos} (a e it : Addr) :
    Turn P w K (.Tuple elts kk tpos) (IteT K a) [e, it] e (fun i h => (∃ old, IsEnum h e it ((i : Nat) : Int) old) ∧ h.IsTupleIter it a i ∧ e ≠ it) where
  mem := by simp
  obj := fun i h st b hb => by
    obtain ⟨⟨old, he⟩, ⟨o, ho, hc, hd⟩, _⟩ := st
    rcases (show b = e ∨ b = it by simpa using hb) with z | z
    · rw [z]; exact ⟨_, he, fun v q => nomatch q⟩
    · rw [z]; exact ⟨o, ho, fun v q => by rw [hd] at q; cases q⟩
  keep := fun i h h' st k => let ⟨⟨old, he⟩, hi, hne⟩ := st; ⟨⟨old, k e (by simp) _ he⟩, hi.at fun o q => k it (by simp) o q, hne⟩
  item := by
    intro X hP hw hK hc i pins s σ H E I hf st hg
    subst hP hw hK
    obtain ⟨⟨old, he⟩, hit, hne⟩ := st
    obtain ⟨xs, x, hq, hx⟩ := hg
    obtain ⟨its, rv, p, hz⟩ := I.tuple hq
    obtain ⟨u, hu, ru⟩ := rv.get hx
    have hel : e < s.heap.objs.size := Heap.lt_size he
    have hil : it < s.heap.objs.size := by obtain ⟨_, q, _⟩ := hit; exact Heap.lt_size q
    have nai : a ≠ it := by obtain ⟨o1, g1, c1, _⟩ := p; obtain ⟨o2, g2, c2, _⟩ := hit; exact cls_ne g1 g2 c1 c2 (by decide)
    have nea : e ≠ a := by obtain ⟨o1, g1, c1, _⟩ := p; exact cls_ne he g1 rfl c1 (by decide)
    have hlt : i < its.toArray.size := by have := (List.getElem?_eq_some_iff.mp hu).1; simpa using this
    refine wpAny_pyNext_enum_itemD (Draws.tuple (A := X.A.in1) (I.ok.hd hc) it a nai its.toArray) he ⟨hit, p⟩ hlt hne (by simp [hne, nea]) fun y h' tk hy ho hst' hT hsz hk => ?_
    have eu : y = u := by have h1 : its.toArray[i]? = some u := by simpa using hu
                          rw [h1] at hy; exact (Option.some.inj hy).symm
    subst eu
    refine ⟨_, rfl, wpAny_letOwnedTupleGo_enum (s := { s with heap := h', toks := tk + 1 }) ho fun h'' he' sb => ?_⟩
    have hT2 : h''.get? s.heap.objs.size = some { cls := .type "tuple", data := .seq #[.int i tk, y] } := (sb.2 _ (Nat.ne_of_gt hel)).trans hT
    have new : ObjOk X.prog X.w (upd H s.heap.objs.size (.tup [.int (i : Nat), x])) h'' s.heap.objs.size (.tup [.int (i : Nat), x]) := ⟨by show 2 ≤ sizeLine; decide, [.int i tk, y], .cons ⟨_, rfl⟩ (.cons ru .nil), ⟨_, hT2, rfl, _, rfl⟩⟩
    have I1 : Inv X pins σ (upd H s.heap.objs.size (.tup [.int (i : Nat), x])) { s with heap := h'', toks := tk + 1 } :=
      I.turnedNew (ch := [e, it]) (fun b ob hb q => (sb.2 b (fun z => hb (by simp [z]))).trans (hk b ob (fun z => hb (by simp [z])) (fun z => hb (by simp [z])) q)) hf (Nat.le_refl _) new
    refine ⟨.ref s.heap.objs.size, _, I1, rfl, ⟨_, x, rfl, I.hok.fresh (Nat.le_refl _), rfl, fun ys hy => by rw [I.tuple_inj hy hq]; exact hx⟩, ⟨⟨y, ?_⟩, hst'.1.at fun o q => (sb.2 it (Ne.symm hne)).trans q, hne⟩, fun b hb => ?_⟩
    · rw [show ((i + 1 : Nat) : Int) = (i : Int) + 1 by omega]; exact he'
    · have hb' : b < s.heap.objs.size := by
        rcases (show b = e ∨ b = it by simpa using hb) with z | z
        · rw [z]; exact hel
        · rw [z]; exact hil
      rw [upd_ne (Nat.ne_of_lt hb')]; exact (hf b hb).1
  done := by
    intro X hP hw hK hc i pins s σ H E I hf st hg
    subst hP hw hK
    obtain ⟨⟨old, he⟩, hit, hne⟩ := st
    obtain ⟨xs, hq, hx⟩ := hg
    obtain ⟨its, rv, p, hz⟩ := I.tuple hq
    obtain ⟨f0, f1, f2, f3, f4, f5⟩ := hf it (by simp)
    have e1 : its.toArray.size ≤ i := by rw [List.size_toArray, ← rv.length]; exact hx
    exact wpAny_pyNext_enum_endD (drawsEnd (A := X.A.in1) (I.ok.hd hc) it a its.toArray i e1) he ⟨rfl, hit, p⟩ fun h' eb => ⟨rfl, I.turned (t' := s.toks) (fun b o hb q => eb b o hb q) f0 f1 f3 f4 f5⟩
  self := fun A i s Q E st h => let ⟨⟨_, he⟩, _⟩ := st; wpAny_pyIter_enum he h
section
variable {X : Cx} {G : Gh} {e : Expr} {wr : WA} {ca : Nat} {p pos tpos : Pos} {elts : List Expr} {kk : Nat}
def iEnumA (K : PySem.W.Frag) (ta : TA) : TI := fun σ H R => ta σ H fun vs H1 => ∃ a xs, vs = [.ref a] ∧ ((SqL K H1 a xs ∧ R (Ite K a) H1) ∨ (SqT K H1 a xs ∧ R (IteT K a) H1))
theorem pi_enumA {ta : TA} (hg : Gl X "enumerate") (hm : X.mg "enumerate" = none) (ha : PA X [e] ta) (hs : starEach [e] X.env = [(false, eval e X.env)] := by rfl) : PI X (.Tuple elts kk tpos) (.Call (.Name "enumerate" p) [e] [] pos) (iEnumA X.K ta) := by
  refine ⟨fun pins s σ H R I h => Call_ (ld_blt I hg hm boot_enumerate (PyProof.Rows.callWith_type1 (thn (ha.run pos pins s σ H _ I h) fun us s1 ⟨vs, H1, I1, r1, q1⟩ => ?_) hs rfl))⟩
  obtain ⟨a, xs, ex, hq⟩ := q1
  subst ex
  have far : ∀ b, b ∈ [s1.heap.objs.size + 1, s1.heap.objs.size] → FpOk X pins H1 b := fun b hb => by
    have hle : s1.heap.objs.size ≤ b := by
      rcases (show b = s1.heap.objs.size + 1 ∨ b = s1.heap.objs.size by simpa using hb) with z | z
      · rw [z]; exact Nat.le_add_right _ _
      · rw [z]; exact Nat.le_refl _
    exact I1.fpOk hle (I1.hok.fresh hle)
  cases r1 with
  | cons r rr =>
    cases rr; cases r
    rcases hq with ⟨hq, q⟩ | ⟨hq, q⟩
    · obtain ⟨its, rv, p', hz⟩ := I1.list hq
      exact call_enumerate_list p'.isList fun h' he hit hsz hk => wpAny_pyIter_enum he ⟨s1.heap.objs.size + 1, [s1.heap.objs.size + 1, s1.heap.objs.size], _, _, H1, rfl, I1.kept (t' := s1.toks) hk, turn_enum a (s1.heap.objs.size + 1) s1.heap.objs.size, ⟨⟨.none, he⟩, hit, Nat.succ_ne_self _⟩, far, q⟩
    · obtain ⟨its, rv, p', hz⟩ := I1.tuple hq
      exact enumT_begins (begins_tuple a its.toArray) p' fun h' he hit hsz hk => wpAny_pyIter_enum he ⟨s1.heap.objs.size + 1, [s1.heap.objs.size + 1, s1.heap.objs.size], _, _, H1, rfl, I1.kept (t' := s1.toks) hk, turn_enumT a (s1.heap.objs.size + 1) s1.heap.objs.size, ⟨⟨.none, he⟩, ⟨_, hit, rfl, rfl⟩, Nat.succ_ne_self _⟩, far, q⟩
theorem walk_enumT {K : PySem.W.Frag} {a : Addr} {ds : List D} : Walk (IteT K a) [(.ref a, .tuple ds)] (enumD 0 ds) where
  go := fun w i h hi => by
    rw [enumD_length] at hi
    cases h _ (List.mem_singleton.mpr rfl) with
    | @tup _ xs _ _ hr rl => exact ⟨xs, xs[i]'(by rw [rl.length]; exact hi), SqT.of hr, List.getElem?_eq_getElem _⟩
  stop := fun w i h hi => by
    rw [enumD_length] at hi
    cases h _ (List.mem_singleton.mpr rfl) with
    | @tup _ xs _ _ hr rl => exact ⟨xs, SqT.of hr, by rw [rl.length]; exact hi⟩
  yld := fun w i x H' wk h hi hy => by
    obtain ⟨T, x1, rfl, nT, rfl, q⟩ := hy
    cases h _ (List.mem_singleton.mpr rfl) with
    | @tup _ xs _ _ hr rl =>
      obtain ⟨d, h1, h2⟩ := rl.getV (q xs (SqT.of hr))
      have g := enumD_get 0 ds i d h1
      rw [Nat.zero_add] at g
      exact ⟨same_new nT, _, g, newPair wk nT (.int _) h2⟩
def enumA : List D → Option (List D)
  | [.list a] => some (enumD 0 a)
  | [.tuple a] => some (enumD 0 a)
  | _ => none
def wEnum (wr : WA) : WI := fun env P => wr env fun xs => ∃ ds, (keptL xs).bind enumA = some ds ∧ P ds
theorem di_enum (hg : Gl X "enumerate") (hm : X.mg "enumerate" = none) (ha : DA X G [e] wr ca) (hs : starEach [e] X.env = [(false, eval e X.env)] := by rfl) : DI X G (.Tuple elts kk tpos) (.Call (.Name "enumerate" p) [e] [] pos) (wEnum wr) ca :=
  PI_sz (pi_enumA hg hm ha hs) fun σ H R h => tA.src h fun env w xs dxs P er rs k go => by
    obtain ⟨ds, h1, pp⟩ := k
    obtain ⟨es, h2, h3⟩ := Option.bind_eq_some_iff.mp h1
    have rp := rs.rp h2
    unfold enumA at h3
    split at h3
    · cases h3
      cases rp with
      | cons a b =>
        cases b
        have w1 := a
        cases a with
        | lst n1 g1 q1 => exact ⟨_, _, rfl, .inl ⟨SqL.of g1, fun sz => go _ pp _ _ (fun p hp => by rw [List.mem_singleton.mp hp]; exact w1) walk_enumL (by rw [enumD_length, ← q1.length]; exact size_many (sz.1 _ _ g1))⟩⟩
    · cases h3
      cases rp with
      | cons a b =>
        cases b
        have w1 := a
        cases a with
        | tup n1 g1 q1 => exact ⟨_, _, rfl, .inr ⟨SqT.of g1, fun sz => go _ pp _ _ (fun p hp => by rw [List.mem_singleton.mp hp]; exact w1) walk_enumT (by rw [enumD_length, ← q1.length]; exact size_many (sz.2 _ _ g1))⟩⟩
    · cases h3
end
end DL
namespace DL
open PySem PySem.Spec PyProof.Rows L2
/-! ### comprehensions with two fors -/
/-- a target sets its own slots to frozen data, and no others -/
def GOk (ix : List Nat) (g : GD) : Prop := ∀ d env env', g d env = some env' → (∀ i, i ∉ ix → env'[i]? = env[i]?) ∧ ∀ i s, i ∈ ix → env'[i]? = some s → ∃ d, s = .fz d
def GsOk (ix : List Nat) (r : List D → Ev → Option Ev) : Prop := ∀ ds env env', r ds env = some env' → (∀ i, i ∉ ix → env'[i]? = env[i]?) ∧ ∀ i s, i ∈ ix → env'[i]? = some s → ∃ d, s = .fz d
theorem gok_name (i : Nat) : GOk [i] (gN i) := fun d env env' h => by
  cases h
  refine ⟨fun j hj => List.getElem?_set_ne fun z => hj (by simp [z]), fun j s hj hs => ?_⟩
  have e : j = i := by simpa using hj
  subst e
  rcases get_set hs with ⟨_, q⟩ | ⟨q, _⟩
  · exact ⟨d, q⟩
  · exact absurd rfl q
theorem gsok_nil : GsOk [] gNil' := fun ds env env' h => by
  cases ds with
  | nil => cases h; exact ⟨fun _ _ => rfl, fun _ _ z => nomatch z⟩
  | cons _ _ => cases h
theorem gsok_cons {ix jx : List Nat} {g : GD} {r : List D → Ev → Option Ev} (h1 : GOk ix g) (h2 : GsOk jx r) : GsOk (ix ++ jx) (gCons' g r) := fun ds env env' h => by
  cases ds with
  | nil => cases h
  | cons d ds =>
    obtain ⟨e1, q1, q2⟩ := Option.bind_eq_some_iff.mp h
    have a := h1 d env e1 q1
    have b := h2 ds e1 env' q2
    refine ⟨fun i hi => (b.1 i fun z => hi (List.mem_append_right _ z)).trans (a.1 i fun z => hi (List.mem_append_left _ z)), fun i s hi hs => ?_⟩
    by_cases hj : i ∈ jx
    · exact b.2 i s hj hs
    · rw [b.1 i hj] at hs
      exact a.2 i s ((List.mem_append.mp hi).resolve_right hj) hs
theorem gok_tup {ix : List Nat} {n : Nat} {r : List D → Ev → Option Ev} (h : GsOk ix r) : GOk ix (gTup' n r) := fun d env env' q => by
  cases d with
  | tuple ds =>
    by_cases hl : ds.length = n
    · simp only [gTup', if_pos hl] at q; exact h ds env env' q
    · simp only [gTup', if_neg hl] at q; cases q
  | _ => cases q
section
variable {X : Cx} {G : Gh}
/-- a frame whose slots ix are new, in a later world -/
theorem ER.mix {w w1 w' : Wd} {b b1 b' : Nat} {env env3 : Ev} {σ σ3 : L2.St} {ix : List Nat} (er1 : ER (G.at b1) w1 env σ) (e1 : Ext w1 w') (er3 : ER (G.at b) w env3 σ3) (st : St1 w w') (hx : Eqx ix σ σ3) (h1 : ∀ i, i ∉ ix → env3[i]? = env[i]?) (h2 : ∀ i s, i ∈ ix → env3[i]? = some s → ∃ d, s = .fz d) (eh : EH (G.at b') w') : ER (G.at b') w' env3 σ3 := by
  refine ⟨eh, er3.len, fun i s ov q1 q2 => ?_, fun i j d e a q1 q2 q3 q4 => ?_⟩
  · by_cases hi : i ∈ ix
    · obtain ⟨d, rfl⟩ := h2 i s hi q1
      obtain ⟨v, z, r⟩ := er3.sl i _ ov q1 q2
      exact ⟨v, z, r.st st⟩
    · rw [h1 i hi] at q1
      rw [hx.2 i hi] at q2
      exact SlR.ext e1 er1.cm (er1.sl i s ov q1 q2)
  · have ni : ∀ {i : Nat} {d : D}, env3[i]? = some (.own d) → i ∉ ix := fun {i d} q hi => by obtain ⟨d, z⟩ := h2 i _ hi q; cases z
    rw [hx.2 i (ni q1)] at q3
    rw [hx.2 j (ni q2)] at q4
    rw [h1 i (ni q1)] at q1
    rw [h1 j (ni q2)] at q2
    exact er1.od i j d e a q1 q2 q3 q4
theorem ER.regs {w : Wd} {b : Nat} {env : Ev} {σ : L2.St} {l : List (V × D)} (er : ER (G.at b) w env σ) (eh : EH ((G.more l).at b) w) : ER ((G.more l).at b) w env σ := ⟨eh, er.len, er.sl, er.od⟩

def wLcI (gd : GD) (wt : WT) (we : WE) (env : Ev) (P : List D → Prop) : List D → List D → Prop
  | [], acc => P acc
  | d :: r, acc => ∃ env', gd d env = some env' ∧ wt env' fun b => if b = true then we env' fun y => ∃ dy, y.kept = some dy ∧ acc.length < sizeLine ∧ wLcI gd wt we env P r (acc ++ [dy]) else wLcI gd wt we env P r acc
def wLc2L (gd : GD) (wt : WT) (wi1 : WI) (gd1 : GD) (wt1 : WT) (we : WE) (vs1 : List Nat) (env : Ev) (P : Dv → Prop) : List D → List D → Prop
  | [], acc => P (.nw (.list acc))
  | d :: r, acc => ∃ env', gd d env = some env' ∧ wt env' fun b => if b = true then wi1 env' fun ds1 => wLcI gd1 wt1 we (wipeE env' vs1) (fun acc' => wLc2L gd wt wi1 gd1 wt1 we vs1 env P r acc') ds1 acc else wLc2L gd wt wi1 gd1 wt1 we vs1 env P r acc
def wLc2 (wi : WI) (gd : GD) (wt : WT) (wi1 : WI) (gd1 : GD) (wt1 : WT) (we : WE) (vs vs1 : List Nat) : WE := fun env P => wi env fun ds => wLc2L gd wt wi1 gd1 wt1 we vs1 (wipeE env vs) P ds []
def tiE (G : Gh) (wi : WI) (c : Nat) : TI := fun σ H R => ∃ l, tI (G.more l) wi c σ H R
def gE2 (G : Gh) (ix : List Nat) (gd : GD) : TG := fun v σ H Q => ∃ l l1, tG ((G.more l).more l1) ix gd v σ H Q
def ttE2 (G : Gh) (wt : WT) (c : Nat) : TT := fun σ H Q => ∃ l l1, tT ((G.more l).more l1) wt c σ H Q
def teE2 (G : Gh) (we : WE) (c : Nat) : TE := fun σ H Q => ∃ l l1, tV ((G.more l).more l1) we c σ H Q
/-- an own list that grows: the worlds before it know nothing of it -/
theorem Ext.grow {w1 w : Wd} {L : Addr} {o : HO} (e : Ext w1 w) (n : w1.H L = none) : Ext w1 ⟨upd w.H L o, w.M, w.C⟩ := by
  refine ⟨fun a o n' h => ?_, fun a h => ?_, e.newC, e.newM, e.oldM⟩
  · have ne : a ≠ L := fun z => by rw [z, n] at h; cases h
    show upd w.H L _ a = some o ∨ _
    rw [upd_ne ne]
    exact (e.keep a o n' h).elim .inl fun ⟨q1, q2, ob, q3⟩ => .inr ⟨q1, q2, ob, by show upd w.H L _ a = _; rw [upd_ne ne]; exact q3⟩
  · have ne : a ≠ L := fun z => h (by rw [z]; exact n)
    show upd w.H L _ a ≠ none
    rw [upd_ne ne]; exact e.dom a h
theorem St1.grow {w : Wd} {L : Addr} {o : HO} (m : w.M L) : St1 w ⟨upd w.H L o, w.M, w.C⟩ := ⟨fun a x n h => .inl (by show upd w.H L _ a = some x; rw [upd_ne (fun z => n (by rw [z]; exact m))]; exact h), fun a m => .inl m⟩
theorem St1.trans {w w1 w2 : Wd} (a : St1 w w1) (b : St1 w1 w2) : St1 w w2 := by
  refine ⟨fun x o n h => ?_, fun x m => ?_⟩
  · have n1 := a.nm n h
    rcases a.keep x o n h with q | ⟨d, ob, q⟩
    · exact b.keep x o n1 q
    · exact .inr ⟨d, ob, (b.keep x _ n1 q).exact no_dct_frz⟩
  · rcases b.newM x m with q | q
    · exact a.newM x q
    · by_cases z : w.M x
      · exact .inl z
      · refine .inr ?_
        cases y : w.H x with
        | none => rfl
        | some o => exact absurd q (a.keep x o z y).there
/-- what is known of the list that grows -/
structure Gr (w1 : Wd) (L : Addr) (w : Wd) (acc : List D) : Prop where
  ex : Ext w1 w
  m : w.M L
  c : ¬ w.C L
  ls : ∃ vs, w.H L = some (.lst vs) ∧ RpL w vs acc
theorem Gr.ext {w1 w w' : Wd} {L : Addr} {acc : List D} (g : Gr w1 L w acc) (e : Ext w w') (cm : ∀ a, w.C a → w.M a) : Gr w1 L w' acc := by
  obtain ⟨vs, h, r⟩ := g.ls
  exact ⟨g.ex.trans e, e.oldM L g.m, fun c => (e.newC L c).elim g.c (fun q => by rw [h] at q; cases q), vs, e.own g.c g.m h, r.st (e.st cm)⟩
theorem Gr.more {w1 w : Wd} {L : Addr} {acc : List D} {v : V} {d : D} (g : Gr w1 L w acc) (n : w1.H L = none) (r : Rp w v d) : ∃ vs, w.H L = some (.lst vs) ∧ vs.length = acc.length ∧ Gr w1 L ⟨upd w.H L (.lst (vs ++ [v])), w.M, w.C⟩ (acc ++ [d]) := by
  obtain ⟨vs, h, q⟩ := g.ls
  exact ⟨vs, h, q.length, g.ex.grow n, g.m, g.c, _, upd_same, (q.append (.cons r .nil)).st (St1.grow g.m)⟩
section
variable {elt tg iter tg1 iter1 : Expr} {ifs ifs1 : List Expr} {scope : Scope} {own : List (Str × Nat)} {pos : Pos} {ix ix1 : List Nat} {wi wi1 : WI} {gd gd1 : GD} {wt wt1 : WT} {we : WE} {ci ct ci1 ct1 ce : Nat}
theorem rdLc2 {vs vs1 : List Nat} {σ : L2.St} {H : Hp} {Q : VK} (h : tV G (wLc2 wi gd wt wi1 gd1 wt1 we vs vs1) (ci + many * (ct + (ci1 + many * (ct1 + ce)))) σ H Q) (hix : ∀ i ∈ ix, i ∈ vs) (hix1 : ∀ i ∈ ix1, i ∈ vs1) (ok : GOk ix gd) :
    tLc2 (tI G wi ci) (gE G ix gd) (ttE G wt ct) (tiE G wi1 ci1) (gE2 G ix1 gd1) (ttE2 G wt1 ct1) (teE2 G we ce) vs vs1 σ H Q := by
  obtain ⟨env, M, C, b0, P, hb0, er, hw, hf⟩ := h
  refine ⟨env, M, C, b0, _, by omega, er, hw, fun ds hds b1 w1 J l hb1 er1 e1 hl wk hz L nL => ?_⟩
  generalize hk : ct + (ci1 + many * (ct1 + ce)) = kk at hb0 hb1 hf
  have hz' := le_many (a := kk) hz
  have nM1 : ¬ w1.M L := fun m => er1.md L m nL
  have nC1 : ¬ w1.C L := fun c => nM1 (er1.cm L c)
  have pL : G.Pt L = none := by
    cases q : G.Pt L with
    | none => rfl
    | some x => rcases er1.kp L x q with z | ⟨_, _, ob, z⟩ <;> (rw [nL] at z; cases z)
  have back : ∀ {b5 : Nat} {w5 : Wd}, EH ((G.more l).at b5) w5 → Ext w1 w5 → ER ((G.more l).at b5) w5 (wipeE env vs) (L2.wipe σ vs) := fun {b5 w5} eh5 e5 => by
    have z := ((er1.wipe vs).ext' e5 eh5.fewer)
    exact ⟨eh5, z.len, z.sl, z.od⟩
  refine ⟨fun i m H => m = ds.length - i ∧ i ≤ ds.length ∧ ∃ (M C : Addr → Prop) (b : Nat) (acc : List D), b + m * kk ≤ b1 + ds.length * kk ∧ EH ((G.more l).at b) ⟨H, M, C⟩ ∧ Gr w1 L ⟨H, M, C⟩ acc ∧ wLc2L gd wt wi1 gd1 wt1 we vs1 (wipeE env vs) P (ds.drop i) acc, ?_, fun i m H2 hW => ?_⟩
  · refine ⟨ds.length, by simp, Nat.zero_le _, fun b => w1.M b ∨ b = L, w1.C, b1, [], Nat.le_refl _, ?_, ?_, hds⟩
    · exact (er1.more hl).toEH.plus (H' := upd w1.H L (.lst [])) (same_new nL) nL (by rw [upd_same]; simp)
    · exact ⟨Ext.plus (same_new nL) nL, .inr rfl, nC1, [], upd_same, .nil⟩
  · obtain ⟨rfl, hi, M2, C2, b2, acc, hb2, eh2, gr2, hw2⟩ := hW
    have ok2 := eh2.those
    by_cases hlt : i < ds.length
    · rw [List.drop_eq_getElem_cons hlt] at hw2
      obtain ⟨env3, hg3, hw3⟩ := hw2
      have hb2' : b2 + (ds.length - (i + 1)) * kk + kk ≤ b1 + ds.length * kk := by
        rw [show ds.length - i = (ds.length - (i + 1)) + 1 by omega, Nat.add_mul, Nat.one_mul] at hb2; omega
      refine .inr ⟨wk.go ⟨H2, M2, C2⟩ i ok2 hlt, fun H' => ∃ (M C : Addr → Prop) (b : Nat) (acc : List D), b + (ds.length - (i + 1)) * kk ≤ b1 + ds.length * kk ∧ EH ((G.more l).at b) ⟨H', M, C⟩ ∧ Gr w1 L ⟨H', M, C⟩ acc ∧ wLc2L gd wt wi1 gd1 wt1 we vs1 (wipeE env vs) P (ds.drop (i + 1)) acc,
        fun H' q => ⟨ds.length - (i + 1), by omega, rfl, hlt, q⟩, fun x H' hy => ?_⟩
      obtain ⟨sm, d, hd, rx⟩ := wk.yld ⟨H2, M2, C2⟩ i x H' eh2.md ok2 hlt hy
      have hd' : d = ds[i] := by rw [List.getElem?_eq_getElem hlt] at hd; exact (Option.some.inj hd).symm
      subst hd'
      have er2 := back eh2 gr2.ex
      have gr2' := gr2.ext (Ext.same (w := ⟨H2, M2, C2⟩) sm) eh2.cm
      refine ⟨l, wipeE env vs, env3, M2, C2, b2, ds[i], er2.same sm, rx, hg3, fun σ3 er3 x3 => ⟨wipe_eqx x3 hix, l, env3, M2, C2, b2, _, by omega, er3, hw3, fun b hb b4 w4 hb4 er4 e4 => ?_⟩⟩
      have gr4 := gr2'.ext e4 er3.cm
      cases b with
      | false =>
        rw [if_neg Bool.false_ne_true] at hb
        refine iteF ?_
        exact ⟨w4.M, w4.C, b4, acc, by omega, er4.toEH, gr4, hb⟩
      | true =>
        rw [if_pos rfl] at hb
        refine iteT ?_
        refine ⟨l, env3, w4.M, w4.C, b4, _, by omega, er4, hb, fun ds1 hds1 b5 w5 J1 l1 hb5 er5 e5 hl1 wk1 hz1 => ?_⟩
        have gr5 := gr4.ext e5 er4.cm
        have hz1' := le_many (a := ct1 + ce) hz1
        -- the inner frame in later worlds
        have back1 : ∀ {b' : Nat} {w' : Wd}, EH (((G.more l).more l1).at b') w' → Ext w1 w' → St1 w5 w' → ER (((G.more l).more l1).at b') w' (wipeE env3 vs1) (L2.wipe σ3 vs1) := fun {b' w'} eh' e' st => by
          have z := ((ER.mix (G := G.more l) ((er1.more hl).wipe vs) e' er5 st x3 (ok _ _ _ hg3).1 (ok _ _ _ hg3).2 eh'.fewer).wipe vs1)
          exact ⟨eh', z.len, z.sl, z.od⟩
        refine ⟨fun j m H => m = ds1.length - j ∧ j ≤ ds1.length ∧ ∃ (M C : Addr → Prop) (b : Nat) (acc : List D), b + m * (ct1 + ce) ≤ b5 + ds1.length * (ct1 + ce) ∧ EH (((G.more l).more l1).at b) ⟨H, M, C⟩ ∧ Gr w1 L ⟨H, M, C⟩ acc ∧ St1 w5 ⟨H, M, C⟩ ∧ wLcI gd1 wt1 we (wipeE env3 vs1) (fun acc' => wLc2L gd wt wi1 gd1 wt1 we vs1 (wipeE env vs) P (ds.drop (i + 1)) acc') (ds1.drop j) acc, ?_, fun j m H6 hW => ?_⟩
        · exact ⟨ds1.length, by simp, Nat.zero_le _, w5.M, w5.C, b5, acc, Nat.le_refl _, (er5.more hl1).toEH, gr5, ⟨fun a o _ h => .inl h, fun a m => .inl m⟩, hds1⟩
        · obtain ⟨rfl, hj, M6, C6, b6, acc6, hb6, eh6, gr6, st6, hw6⟩ := hW
          have ok6 := eh6.those
          by_cases hlt1 : j < ds1.length
          · rw [List.drop_eq_getElem_cons hlt1] at hw6
            obtain ⟨env7, hg7, hw7⟩ := hw6
            have hb6' : b6 + (ds1.length - (j + 1)) * (ct1 + ce) + (ct1 + ce) ≤ b5 + ds1.length * (ct1 + ce) := by
              rw [show ds1.length - j = (ds1.length - (j + 1)) + 1 by omega, Nat.add_mul, Nat.one_mul] at hb6; omega
            refine .inr ⟨wk1.go ⟨H6, M6, C6⟩ j ok6 hlt1, fun H' => ∃ (M C : Addr → Prop) (b : Nat) (acc : List D), b + (ds1.length - (j + 1)) * (ct1 + ce) ≤ b5 + ds1.length * (ct1 + ce) ∧ EH (((G.more l).more l1).at b) ⟨H', M, C⟩ ∧ Gr w1 L ⟨H', M, C⟩ acc ∧ St1 w5 ⟨H', M, C⟩ ∧ wLcI gd1 wt1 we (wipeE env3 vs1) (fun acc' => wLc2L gd wt wi1 gd1 wt1 we vs1 (wipeE env vs) P (ds.drop (i + 1)) acc') (ds1.drop (j + 1)) acc,
              fun H' q => ⟨ds1.length - (j + 1), by omega, rfl, hlt1, q⟩, fun x7 H7 hy7 => ?_⟩
            obtain ⟨sm7, d7, hd7, rx7⟩ := wk1.yld ⟨H6, M6, C6⟩ j x7 H7 eh6.md ok6 hlt1 hy7
            have hd7' : d7 = ds1[j] := by rw [List.getElem?_eq_getElem hlt1] at hd7; exact (Option.some.inj hd7).symm
            subst hd7'
            have er6 := back1 eh6 gr6.ex st6
            have gr6' := gr6.ext (Ext.same (w := ⟨H6, M6, C6⟩) sm7) eh6.cm
            have st6' := st6.trans (St1.same (w := ⟨H6, M6, C6⟩) sm7)
            refine ⟨l, l1, wipeE env3 vs1, env7, M6, C6, b6, ds1[j], er6.same sm7, rx7, hg7, fun σ7 er7 x7' => ⟨wipe_eqx x7' hix1, l, l1, env7, M6, C6, b6, _, by omega, er7, hw7, fun k hk b8 w8 hb8 er8 e8 => ?_⟩⟩
            have gr8 := gr6'.ext e8 er7.cm
            have st8 := st6'.trans (e8.st er7.cm)
            cases k with
            | false =>
              rw [if_neg Bool.false_ne_true] at hk
              refine iteF ?_
              exact ⟨w8.M, w8.C, b8, acc6, by omega, er8.toEH, gr8, st8, hk⟩
            | true =>
              rw [if_pos rfl] at hk
              refine iteT ?_
              refine ⟨l, l1, env7, w8.M, w8.C, b8, _, by omega, er8, hk, fun y hy b9 w9 v9 hb9 er9 e9 r9 => ?_⟩
              obtain ⟨dy, hkk, hz9, hn⟩ := hy
              have gr9 := gr8.ext e9 er8.cm
              obtain ⟨vs9, h9, l9, gr10⟩ := gr9.more nL (r9.rp hkk)
              exact ⟨vs9, h9, by rw [l9]; exact hz9, w9.M, w9.C, b9, _, by omega, er9.toEH.poke gr9.m gr9.c pL, gr10, (st8.trans (e9.st er8.cm)).trans (St1.grow gr9.m), hn⟩
          · rw [List.drop_eq_nil_of_le (show ds1.length ≤ j by omega)] at hw6
            rw [show ds1.length - j = 0 by omega, Nat.zero_mul] at hb6
            exact .inl ⟨wk1.stop ⟨H6, M6, C6⟩ j ok6 (by omega), M6, C6, b6, acc6, by rw [show many * (ct1 + ce) = kk - ct - ci1 by omega] at hz1'; omega, eh6.fewer, gr6, hw6⟩
    · rw [List.drop_eq_nil_of_le (by omega)] at hw2
      refine .inl ⟨wk.stop ⟨H2, M2, C2⟩ i ok2 (by omega), ?_⟩
      have eh := eh2.fewer
      obtain ⟨e2, mL, cL, accV, hL, rl⟩ := gr2
      have nw1 : ∀ a, w1.M a → a ≠ L := fun a m z => nM1 (by rw [← z]; exact m)
      have st : St1 ⟨H2, M2, C2⟩ ⟨H2, fun a => M2 a ∧ a ≠ L, C2⟩ := ⟨fun a o _ h => .inl h, fun a m => .inl m.1⟩
      have ex : Ext w1 ⟨H2, fun a => M2 a ∧ a ≠ L, C2⟩ := ⟨fun a o n h => e2.keep a o n h, e2.dom, e2.newC, fun a m => e2.newM a m.1, fun a m => ⟨e2.oldM a m, nw1 a m⟩⟩
      have eh' : EH (G.at b2) ⟨H2, fun a => M2 a ∧ a ≠ L, C2⟩ := ⟨eh.kp, fun a m => ⟨eh.m0 a m, nw1 a (er1.m0 a m)⟩, eh.nc, eh.cp, fun a c => ⟨eh.cm a c, fun z => cL (by rw [← z]; exact c)⟩, fun a m => eh.md a m.1, eh.hd, fun p hp => (eh.gk p hp).st st, eh.si⟩
      have st2 : St1 ⟨H2, M2, C2⟩ (Wd.plus ⟨H2, fun a => M2 a ∧ a ≠ L, C2⟩ L) := ⟨fun a o _ h => .inl h, fun a m => .inl (Or.elim m (fun q => q.1) fun q => by rw [q]; exact mL)⟩
      refine hf _ hw2 b2 ⟨H2, fun a => M2 a ∧ a ≠ L, C2⟩ _ (by rw [show ds.length - i = 0 by omega, Nat.zero_mul] at hb2; omega) (er1.ext' ex eh') (e1.trans ex) ⟨L, rfl, e1.free nL, ⟨fun t => (nomatch t), fun m => (m.2 rfl).elim⟩, cL, .lst hL (rl.st st2)⟩
theorem de_lc2 {vs vs1 : List Nat} (hc : X.calm = true) (hN : X.N.Nodup) (hi : DI X G tg iter wi ci) (ok : BlkOk X.N X.env.scope scope own) (okg : GOk ix gd)
    (hg : ∀ (l : List (V × D)) (s : Shared) (H : Hp) (C : Addr) (cl : List (Str × Addr)) (fp : List Addr), PG (X.blk s H scope (compEnvC scope cl C X.env) fp) tg (tG (G.more l) ix gd))
    (ht : ∀ (l : List (V × D)) (s : Shared) (H : Hp) (C : Addr) (cl : List (Str × Addr)) (fp : List Addr), PTs (X.blk s H scope (compEnvC scope cl C X.env) fp) ifs (tT (G.more l) wt ct))
    (hi1 : ∀ (l : List (V × D)) (s : Shared) (H : Hp) (C : Addr) (cl : List (Str × Addr)) (fp : List Addr), DI (X.blk s H scope (compEnvC scope cl C X.env) fp) (G.more l) tg1 iter1 wi1 ci1)
    (hg1 : ∀ (l l1 : List (V × D)) (s : Shared) (H : Hp) (C : Addr) (cl : List (Str × Addr)) (fp : List Addr), PG (X.blk s H scope (compEnvC scope cl C X.env) fp) tg1 (tG ((G.more l).more l1) ix1 gd1))
    (ht1 : ∀ (l l1 : List (V × D)) (s : Shared) (H : Hp) (C : Addr) (cl : List (Str × Addr)) (fp : List Addr), PTs (X.blk s H scope (compEnvC scope cl C X.env) fp) ifs1 (tT ((G.more l).more l1) wt1 ct1))
    (he : ∀ (l l1 : List (V × D)) (s : Shared) (H : Hp) (C : Addr) (cl : List (Str × Addr)) (fp : List Addr), DE (X.blk s H scope (compEnvC scope cl C X.env) fp) ((G.more l).more l1) elt we ce)
    (hix : ∀ i ∈ ix, i ∈ vs) (hix1 : ∀ i ∈ ix1, i ∈ vs1) (hv : ∀ i ∈ vs1, i ∈ vs) (hs : ∀ x, foldedSetIterable iter X.env x = pure x := by intro _; rfl) (hs1 : ∀ env x, foldedSetIterable iter1 env x = pure x := by intro _ _; rfl) (hvs : own.map (·.2) = vs := by rfl) :
    DE X G (.ListComp elt [⟨tg, iter, ifs, 0⟩, ⟨tg1, iter1, ifs1, 0⟩] scope pos) (wLc2 wi gd wt wi1 gd1 wt1 we vs vs1) (ci + many * (ct + (ci1 + many * (ct1 + ce)))) := by
  subst hvs
  exact PE_imp (pe_lc2 hc hN hi ok hv (fun s H C cl fp => ⟨fun pins s' σ H' v u Q I r ⟨l, q⟩ => (hg l s H C cl fp).run pins s' σ H' v u Q I r q⟩) (fun s H C cl fp => ⟨fun pins s' σ H' Q I ⟨l, q⟩ => (ht l s H C cl fp).run pins s' σ H' Q I q⟩)
    (fun s H C cl fp => ⟨fun pins s' σ H' Q I ⟨l, q⟩ => (hi1 l s H C cl fp).run pins s' σ H' Q I q⟩) (fun s H C cl fp => ⟨fun pins s' σ H' v u Q I r ⟨l, l1, q⟩ => (hg1 l l1 s H C cl fp).run pins s' σ H' v u Q I r q⟩) (fun s H C cl fp => ⟨fun pins s' σ H' Q I ⟨l, l1, q⟩ => (ht1 l l1 s H C cl fp).run pins s' σ H' Q I q⟩)
    (fun s H C cl fp => ⟨fun pins s' σ H' Q I ⟨l, l1, q⟩ => (he l l1 s H C cl fp).run pins s' σ H' Q I q⟩) hs hs1) fun σ H Q h => rdLc2 h hix hix1 okg
theorem ds_setLc2 (k : Kp) (i : Nat) {vs vs1 : List Nat} {y : Str} {py spos : Pos} (hc : X.calm = true) (hN : X.N.Nodup) (hy : X.N[i]? = some y) (hyl : X.env.scope.names.lookup y = some .local)
    (hsw : swapsWith (.ListComp elt [⟨tg, iter, ifs, 0⟩, ⟨tg1, iter1, ifs1, 0⟩] scope pos) (some (.Name y py)) spos.line X.env = pure true) (hi : DI X G tg iter wi ci) (ok : BlkOk X.N X.env.scope scope own) (okg : GOk ix gd)
    (hg : ∀ (l : List (V × D)) (s : Shared) (H : Hp) (C : Addr) (cl : List (Str × Addr)) (fp : List Addr), PG (X.blk s H scope (compEnvC scope cl C X.env) fp) tg (tG (G.more l) ix gd))
    (ht : ∀ (l : List (V × D)) (s : Shared) (H : Hp) (C : Addr) (cl : List (Str × Addr)) (fp : List Addr), PTs (X.blk s H scope (compEnvC scope cl C X.env) fp) ifs (tT (G.more l) wt ct))
    (hi1 : ∀ (l : List (V × D)) (s : Shared) (H : Hp) (C : Addr) (cl : List (Str × Addr)) (fp : List Addr), DI (X.blk s H scope (compEnvC scope cl C X.env) fp) (G.more l) tg1 iter1 wi1 ci1)
    (hg1 : ∀ (l l1 : List (V × D)) (s : Shared) (H : Hp) (C : Addr) (cl : List (Str × Addr)) (fp : List Addr), PG (X.blk s H scope (compEnvC scope cl C X.env) fp) tg1 (tG ((G.more l).more l1) ix1 gd1))
    (ht1 : ∀ (l l1 : List (V × D)) (s : Shared) (H : Hp) (C : Addr) (cl : List (Str × Addr)) (fp : List Addr), PTs (X.blk s H scope (compEnvC scope cl C X.env) fp) ifs1 (tT ((G.more l).more l1) wt1 ct1))
    (he : ∀ (l l1 : List (V × D)) (s : Shared) (H : Hp) (C : Addr) (cl : List (Str × Addr)) (fp : List Addr), DE (X.blk s H scope (compEnvC scope cl C X.env) fp) ((G.more l).more l1) elt we ce)
    (hix : ∀ i ∈ ix, i ∈ vs) (hix1 : ∀ i ∈ ix1, i ∈ vs1) (hv : ∀ i ∈ vs1, i ∈ vs) (hs : ∀ x, foldedSetIterable iter X.env x = pure x := by intro _; rfl) (hs1 : ∀ env x, foldedSetIterable iter1 env x = pure x := by intro _ _; rfl) (hvs : own.map (·.2) = vs := by rfl) :
    DS X G (.Assign [.Name y py] (.ListComp elt [⟨tg, iter, ifs, 0⟩, ⟨tg1, iter1, ifs1, 0⟩] scope pos) spos) (wSet k i (wLc2 wi gd wt wi1 gd1 wt1 we vs vs1)) (ci + many * (ct + (ci1 + many * (ct1 + ce)))) := by
  subst hvs
  exact PS_imp (ps_setLc2 hc hN hy hyl hsw hi ok hv (fun s H C cl fp => ⟨fun pins s' σ H' v u Q I r ⟨l, q⟩ => (hg l s H C cl fp).run pins s' σ H' v u Q I r q⟩) (fun s H C cl fp => ⟨fun pins s' σ H' Q I ⟨l, q⟩ => (ht l s H C cl fp).run pins s' σ H' Q I q⟩)
    (fun s H C cl fp => ⟨fun pins s' σ H' Q I ⟨l, q⟩ => (hi1 l s H C cl fp).run pins s' σ H' Q I q⟩) (fun s H C cl fp => ⟨fun pins s' σ H' v u Q I r ⟨l, l1, q⟩ => (hg1 l l1 s H C cl fp).run pins s' σ H' v u Q I r q⟩) (fun s H C cl fp => ⟨fun pins s' σ H' Q I ⟨l, l1, q⟩ => (ht1 l l1 s H C cl fp).run pins s' σ H' Q I q⟩)
    (fun s H C cl fp => ⟨fun pins s' σ H' Q I ⟨l, l1, q⟩ => (he l l1 s H C cl fp).run pins s' σ H' Q I q⟩) hs hs1) fun σ H T h => rdSet h fun Q q => rdLc2 q hix hix1 okg
end
end
end DL
namespace DL
open PySem PySem.Spec PyProof.Rows L2
section
variable {X : Cx} {G : Gh} {e tg : Expr} {es : List Expr} {wa : WE} {wr wk : WA} {ca cb c : Nat} {pos p kpos : Pos} {nm : Option Str} {kws : List Keyword}
/-! ### a, b = e: what is frozen is unpacked -/
def wAsgT (wa : WE) (g : GD) : WS := fun env De => wa env fun x => ∃ d env', x.kept = some d ∧ g d env = some env' ∧ De.nx env'
theorem ds_asgT {ix : List Nat} {g : GD} (he : DE X G e wa ca) (hg : PG X tg (tG G ix g)) (hs : swapsWithSole [tg] e pos.line X.env = pure false := by rfl) (hw : swappedStores [tg] e X.env = pure none := by rfl) (h1 : (assignEach [tg] X.env).map (·.2) = [assign tg X.env] := by rfl) : DS X G (.Assign [tg] e pos) (wAsgT wa g) ca :=
  PS_imp (ps_asg he hg hs hw h1) fun σ H T h => by
    obtain ⟨env, M, C, b0, De, hb0, er, hw, lf⟩ := h
    refine ⟨env, M, C, b0, _, hb0, er, hw, fun dv hd b1 w1 v hb1 er1 e1 r1 => ?_⟩
    obtain ⟨d, env', h1, h2, n⟩ := hd
    exact ⟨env, env', w1.M, w1.C, b1, d, er1, r1.rp h1, h2, fun σ' er' _ => lf.nx env' n b1 w1 σ' hb1 er'⟩
/-! ### x += i, x -= i of ints -/
def wAug (f : Int → Int → Int) (i : Nat) (wa : WE) : WS := fun env De => ∃ m, env[i]? = some (.fz (.int m)) ∧ wa env fun x => ∃ k, x.val = some (.int k) ∧ De.nx (env.set i (.fz (.int (f m k))))
theorem ds_aug {op : Operator} {f : Int → Int → Int} (ho : PIp X op (ipI f)) (i : Nat) {x : Str} {pos' : Pos} (hN : X.N.Nodup) (he : DE X G e wa ca) (hi : X.N[i]? = some x := by rfl) (hx : Loc X.env.scope x := by first | exact Or.inl rfl | exact Or.inr rfl)
    (hf : X.fn x = true ∨ X.env.scope.names.lookup x = some .local := by first | exact .inl rfl | exact .inr rfl | assumption) : DS X G (.AugAssign (.Name x pos') op e pos) (wAug f i wa) ca :=
  PS_imp (ps_aug hN hi hx he ho hf) fun σ H T h => by
    obtain ⟨env, M, C, b0, De, hb0, er, ⟨m, hm, hw⟩, lf⟩ := h
    obtain ⟨ov, h1, v, rfl, rv⟩ := er.at hm
    cases rv
    refine ⟨.int m, h1, env, M, C, b0, _, hb0, er, hw, fun dv hd b1 w1 v hb1 er1 e1 r1 => ?_⟩
    obtain ⟨k, h2, n⟩ := hd
    have q := r1.rq h2
    cases q
    exact ⟨m, k, rfl, rfl, lf.nx _ n b1 w1 _ hb1 (er1.setFz (.int _) i)⟩
abbrev addI : Int → Int → Int := fun i j => i + j
abbrev subI : Int → Int → Int := fun i j => i - j
theorem ds_augAdd (i : Nat) {x : Str} {pos' : Pos} (hN : X.N.Nodup) (he : DE X G e wa ca) (hi : X.N[i]? = some x := by rfl) (hx : Loc X.env.scope x := by first | exact Or.inl rfl | exact Or.inr rfl) (hf : X.fn x = true ∨ X.env.scope.names.lookup x = some .local := by first | exact .inl rfl | exact .inr rfl | assumption) : DS X G (.AugAssign (.Name x pos') .Add e pos) (wAug addI i wa) ca := ds_aug ip_add i hN he hi hx hf
theorem ds_augSub (i : Nat) {x : Str} {pos' : Pos} (hN : X.N.Nodup) (he : DE X G e wa ca) (hi : X.N[i]? = some x := by rfl) (hx : Loc X.env.scope x := by first | exact Or.inl rfl | exact Or.inr rfl) (hf : X.fn x = true ∨ X.env.scope.names.lookup x = some .local := by first | exact .inl rfl | exact .inr rfl | assumption) : DS X G (.AugAssign (.Name x pos') .Sub e pos) (wAug subI i wa) ca := ds_aug ip_sub i hN he hi hx hf
/-! ### calls with defaults, with keywords -/
theorem dk_nil : PK X [] (tA G wNil 0) := ⟨fun pos pins s σ H Q I h => pk_nil.run pos pins s σ H Q I (by
  obtain ⟨env, M, C, b, P, hb, er, p, hf⟩ := h
  exact hf _ p b _ _ (Nat.le_refl _) er (Ext.refl _) .nil)⟩
theorem dk_cons (ha : DE X G e wa ca) (hr : PK X kws (tA G wr cb)) : PK X (⟨nm, e, kpos⟩ :: kws) (tA G (wCons wa wr) (ca + cb)) := ⟨fun pos pins s σ H Q I h => (pk_cons ha hr).run pos pins s σ H Q I (by
  obtain ⟨env, M, C, b, P, hb, er, hw, hf⟩ := h
  refine ⟨env, M, C, b, _, by omega, er, hw, fun dx hx b1 w1 x hb1 er1 e1 r1 => ⟨env, w1.M, w1.C, b1, _, by omega, er1, hx, fun ds hd b2 w2 xs hb2 er2 e2 r2 => ?_⟩⟩
  exact hf _ hd b2 w2 _ (by omega) er2 (e1.trans e2) (.cons (r1.ext e2 er1.cm fun _ z => z) (r2.ext (Ext.refl w2) er2.cm fun a z => e1.free z)))⟩
variable {k n : Nat} {f : Addr} {fd : FuncData} {ps ks : List Str} {spec : Spec} {x : Str}
theorem ARs.append {w : Wd} : ∀ {vs us : List V} {as bs : List Ag}, ARs w vs as → ARs w us bs → ARs w (vs ++ us) (as ++ bs)
  | _, _, _, _, .nil, q => q
  | _, _, _, _, .cons h r, q => .cons h (ARs.append r q)
theorem ARs.pure {w : Wd} (C : Addr → Prop) (hC : ∀ a, ¬ C a) : ∀ {vs : List V} {as : List Ag}, ARs w vs as → ARs ⟨w.H, w.M, C⟩ vs as
  | _, _, .nil => .nil
  | _, _, .cons (a := a) h r => .cons (by
      have up : St1 w ⟨w.H, w.M, C⟩ := ⟨fun a o _ h => .inl h, fun a m => .inl m⟩
      cases a with
      | fz d => exact Rp.st up h
      | raw u => exact h
      | bw d => obtain ⟨b, e, m, n, o⟩ := h; exact ⟨b, e, m, hC b, o.st up rfl⟩) (ARs.pure C hC r)
/-- a pure def runs: from its promise to the expression's end -/
theorem pure_call {σ : L2.St} {env : Ev} {w : Wd} {b0 : Nat} {Q : VK} {P : Dv → Prop} {vs : List V} {as : List Ag} (er : ER (G.at b0) w env σ) (ars : ARs w vs as) (kk : spec as fun d => P (.fz d)) (hf : Fin G b0 σ env w Q P) : spF SI0 0 spec vs w.H Q E0 := by
  refine ⟨as, w.M, fun _ => False, 0, _, Nat.zero_le _, ⟨fun a c => c.elim, er.md⟩, trivial, ars.pure _ fun _ z => z, kk, fun d pd _ w' v _ e _ wf r => ?_⟩
  have ex : Ext w ⟨w'.H, w.M, w.C⟩ := ⟨fun a o n h => e.keep a o (fun z => z) h, e.dom, fun a c => .inl c, fun a m => .inl m, fun a m => m⟩
  have si : G.SI b0 w.C w'.H := G.stab _ _ _ _ er.si fun a o c h => (e.keep a o (fun z => z) h).elim id fun q => absurd (er.cm a c) q.1
  refine hf _ pd b0 ⟨w'.H, w.M, w.C⟩ v (Nat.le_refl _) (er.ext' ex (er.toEH.ext ex si ⟨er.cm, fun a m => e.dom a (er.md a m)⟩)) ex ?_
  have down : St1 w' ⟨w'.H, w.M, w.C⟩ := ⟨fun a o _ h => .inl h, fun a m => .inl (e.oldM a m)⟩
  exact Rp.st down r
theorem run_fnGd {sp : Sp} {pins : List (Addr × Obj)} {σ : L2.St} {H : Hp} {s : Shared} {Q : VK} {us ds : List Value} {vs dvs : List V} (F : FnG X.prog X.w X.K X.mg X.base CX0 k f fd ps sp) (hgd : X.A.guards = some []) (hr : Room k X.A) (hb : Binds X.K fd ps ds) (hd : Vals dvs ds)
    (I : Inv X pins σ H s) (r : Vals vs us) (h : sp (vs ++ dvs) H Q E0) : wpAny (model X.prog X.w) X.A (call (.ref f) us) (EP X pins σ Q) X.xe s := by
  have r2 := r.append hd
  have hl : (us ++ ds).length = ps.length := by rw [← r2.length]; exact F.len _ _ _ _ h
  refine wpAny_call (codeAny_mono (F.run X.A X.stack s H ⟨us, []⟩ (us ++ ds) (vs ++ dvs) Q E0 hgd hr I.env0 (hb s us I.kIn hl) r2 h) fun r s' hq => ?_)
  cases r with
  | error e => exact False.elim hq
  | ok fl => cases fl with
    | ret u => exact I.after hq
    | next => exact False.elim hq
    | brk => exact False.elim hq
    | cont => exact False.elim hq
/-- f(e, ..) of a pure def, the last parameters by their defaults -/
def wCallD (spec : Spec) (das : List Ag) (wr : WA) : WE := fun env P => wr env fun xs => spec (xs.map Dv.ag ++ das) fun d => P (.fz d)
theorem de_callD {ds : List Value} {dvs : List V} {das : List Ag} (F : FnG X.prog X.w X.K X.mg X.base CX0 k f fd ps (spF SI0 0 spec)) (hgd : X.A.guards = some []) (hr : Room k X.A) (hg : Gl X x) (hm : X.mg x = some (.ref f)) (hk : PySem.W.keepIn X.K (.ref f) = true) (hb : Binds X.K fd ps ds) (hd : Vals dvs ds) (hda : ∀ w, ARs w dvs das)
    (ha : DA X G (e :: es) wr ca) (hdb : (x == ("__debug__" : Str)) = false := by decide) (he : starEach (e :: es) X.env = (false, eval e X.env) :: starEach es X.env := by rfl) (hpl : (backTo pos (starEach es X.env)).any (·.1) = false := by rfl) :
    DE X G (.Call (.Name x p) (e :: es) [] pos) (wCallD spec das wr) ca := by
  refine ⟨fun pins s σ H Q I h => wpAny_Call_Name_kw (ld_glob I hg hm ?_ hdb)⟩
  have h' : tA G wr ca σ H fun vs H1 => spF SI0 0 spec (vs ++ dvs) H1 Q E0 := tA.one h fun env w xs dxs P er rs kk hf => pure_call er (rs.ars.append (hda w)) kk hf
  exact PySem.W.callWith_K (h₀ := X.base) I.ok.mod.kin hk (thn (ha.run pos pins s σ H _ I h') fun us s1 ⟨vs, H1, I1, r, q⟩ => ⟨I1.kIn, run_fnGd F hgd hr hb hd I1 r q⟩) he hpl
/-- f(e, .., k = v, ..): the keywords' values behind the others -/
def wCallK (n m : Nat) (spec : Spec) (wr wk : WA) : WE := fun env P => wr env fun xs => wk env fun zs => xs.length = n ∧ zs.length = m ∧ spec (xs.map Dv.ag ++ zs.map Dv.ag) fun d => P (.fz d)
theorem de_callK {m : Nat} (F : FnG X.prog X.w X.K X.mg X.base CX0 k f fd ps (spF SI0 0 spec)) (hgd : X.A.guards = some []) (hr : Room k X.A) (hg : Gl X x) (hm : X.mg x = some (.ref f)) (hk : PySem.W.keepIn X.K (.ref f) = true) (hb : KBn X.K fd ps n ks (fun us ws => us ++ ws) (fun vs zs => vs ++ zs))
    (ha : DA X G (e :: es) wr ca) (hkw : PK X kws (tA G wk cb)) (hall : (backToKw pos (keywordEach kws X.env)).all (·.1.isSome) = true := by rfl) (hks : (backToKw pos (keywordEach kws X.env)).filterMap (·.1) = ks := by rfl)
    (hdb : (x == ("__debug__" : Str)) = false := by decide) (he : starEach (e :: es) X.env = (false, eval e X.env) :: starEach es X.env := by rfl)
    (hpl : ((backTo pos (starEach (e :: es) X.env)).any (·.1) || (backToKw pos (keywordEach kws X.env)).any (·.1.isNone)) = false := by rfl) (hml : ks.length = m := by rfl) :
    DE X G (.Call (.Name x p) (e :: es) kws pos) (wCallK n m spec wr wk) (ca + cb) := by
  subst hml
  refine ⟨fun pins s σ H Q I h => wpAny_Call_Name_kw (ld_glob I hg hm ?_ hdb)⟩
  have h' : tA G wr ca σ H fun vs H1 => tA G wk cb σ H1 fun zs H2 => vs.length = n ∧ zs.length = ks.length ∧ spF SI0 0 spec (vs ++ zs) H2 Q E0 := by
    obtain ⟨env, M, C, b0, P, hb0, er, hw, hf⟩ := h
    refine ⟨env, M, C, b0, _, by omega, er, hw, fun ds hd b1 w1 xs hb1 er1 e1 r1 => ⟨env, w1.M, w1.C, b1, _, by omega, er1, hd, fun zs hz b2 w2 ys hb2 er2 e2 r2 => ?_⟩⟩
    obtain ⟨l1, l2, kk⟩ := hz
    have r1' := r1.ext (Hs' := H) e2 er1.cm fun _ z => z
    exact ⟨by rw [r1.length]; exact l1, by rw [r2.length]; exact l2, pure_call er2 (r1'.ars.append r2.ars) kk (Fin.ext (Fin.ext (w := ⟨H, M, C⟩) hf e1 (Nat.le_refl _)) e2 (by omega))⟩
  refine PySem.W.callWith_KW (h₀ := X.base) I.ok.mod.kin hk hall (thn (ha.run pos pins s σ H _ I h') fun us s1 ⟨vs, H1, I1, r, q⟩ => ?_) hpl he
  refine thn (hkw.run pos pins s1 σ H1 _ I1 q) fun ws s2 ⟨zs, H2, I2, rz, l1, l2, q2⟩ => ⟨I2.kIn, ?_⟩
  rw [hks]
  refine wpAny_call (codeAny_mono (F.run X.A X.stack s2 H2 ⟨us, ks.zip ws⟩ (us ++ ws) (vs ++ zs) Q E0 hgd hr I2.env0 (hb.to s2 us ws I2.kIn (r.length.symm.trans l1) (rz.length.symm.trans l2)) (hb.rel r rz) q2) fun r s' hq => ?_)
  cases r with
  | error e => exact False.elim hq
  | ok fl => cases fl with
    | ret u => exact I2.after hq
    | next => exact False.elim hq
    | brk => exact False.elim hq
    | cont => exact False.elim hq
/-! ### min, max -/
def minI : List Int → Option Int
  | [] => none
  | a :: r => some (r.foldl min a)
def maxI : List Int → Option Int
  | [] => none
  | a :: r => some (r.foldl max a)
theorem foldl_max : ∀ (r : List Int) (a : Int), (r.foldl max a = a ∨ r.foldl max a ∈ r) ∧ a ≤ r.foldl max a ∧ ∀ y ∈ r, y ≤ r.foldl max a
  | [], a => ⟨.inl rfl, Int.le_refl _, fun _ h => nomatch h⟩
  | x :: r, a => by
    obtain ⟨h1, h2, h3⟩ := foldl_max r (max a x)
    rw [List.foldl_cons]
    refine ⟨?_, by omega, fun y hy => ?_⟩
    · rcases h1 with h | h
      · rw [h]
        by_cases c : a ≤ x
        · rw [Int.max_eq_right c]; exact .inr (List.mem_cons_self ..)
        · rw [Int.max_eq_left (by omega)]; exact .inl rfl
      · exact .inr (List.mem_cons_of_mem _ h)
    · rcases List.mem_cons.mp hy with rfl | hy
      · omega
      · exact h3 y hy
theorem foldl_min : ∀ (r : List Int) (a : Int), (r.foldl min a = a ∨ r.foldl min a ∈ r) ∧ r.foldl min a ≤ a ∧ ∀ y ∈ r, r.foldl min a ≤ y
  | [], a => ⟨.inl rfl, Int.le_refl _, fun _ h => nomatch h⟩
  | x :: r, a => by
    obtain ⟨h1, h2, h3⟩ := foldl_min r (min a x)
    rw [List.foldl_cons]
    refine ⟨?_, by omega, fun y hy => ?_⟩
    · rcases h1 with h | h
      · rw [h]
        by_cases c : a ≤ x
        · rw [Int.min_eq_left c]; exact .inl rfl
        · rw [Int.min_eq_right (by omega)]; exact .inr (List.mem_cons_self ..)
      · exact .inr (List.mem_cons_of_mem _ h)
    · rcases List.mem_cons.mp hy with rfl | hy
      · omega
      · exact h3 y hy
theorem maxI_get {ns : List Int} {m : Int} (h : maxI ns = some m) : m ∈ ns ∧ ∀ y ∈ ns, y ≤ m := by
  cases ns with
  | nil => cases h
  | cons a r =>
    cases h
    obtain ⟨h1, h2, h3⟩ := foldl_max r a
    refine ⟨h1.elim (fun h => by rw [h]; exact List.mem_cons_self ..) fun h => List.mem_cons_of_mem _ h, fun y hy => ?_⟩
    rcases List.mem_cons.mp hy with rfl | hy
    · exact h2
    · exact h3 y hy
theorem minI_get {ns : List Int} {m : Int} (h : minI ns = some m) : m ∈ ns ∧ ∀ y ∈ ns, m ≤ y := by
  cases ns with
  | nil => cases h
  | cons a r =>
    cases h
    obtain ⟨h1, h2, h3⟩ := foldl_min r a
    refine ⟨h1.elim (fun h => by rw [h]; exact List.mem_cons_self ..) fun h => List.mem_cons_of_mem _ h, fun y hy => ?_⟩
    rcases List.mem_cons.mp hy with rfl | hy
    · exact h2
    · exact h3 y hy
def minD : List D → Option D
  | [.int i, .int j] => some (.int (if j < i then j else i))
  | [.list ds] => ((intsOf ds).bind minI).map .int
  | _ => none
def maxD : List D → Option D
  | [.int i, .int j] => some (.int (if j > i then j else i))
  | [.list ds] => ((intsOf ds).bind maxI).map .int
  | _ => none
theorem call_minD (hc : X.calm = true) : CallR X (.builtin "min") (rB minD) := by
  intro pins s σ H xs us Q I r ⟨w, ds, d, eH, wk, qx, hf, hq⟩
  subst eH
  unfold minD at hf
  split at hf
  · cases hf
    cases qx with
    | cons a b =>
      cases a
      cases b with
      | cons a b =>
        cases a; cases b
        exact call_min2 hc pins s σ _ _ us Q I r ⟨_, _, rfl, hq _ _ (Same.refl _) (.int _)⟩
  · obtain ⟨m, h1, rfl⟩ := Option.map_eq_some_iff.mp hf
    obtain ⟨ns, e1, e2⟩ := Option.bind_eq_some_iff.mp h1
    obtain ⟨x, rfl, q⟩ := qx.one'
    cases q with
    | lst h r1 =>
      have e3 := intsOf_rp e1 r1
      subst e3
      obtain ⟨g1, g2⟩ := minI_get e2
      refine cr_min hc pins s σ _ _ us Q I r ⟨_, ns, rfl, SqL.of h, List.length_pos_of_mem g1, fun k k1 k2 => ?_⟩
      have e4 : k = m := Int.le_antisymm (k2 m g1) (g2 k k1)
      subst e4
      exact hq _ _ (Same.refl _) (.int _)
  · cases hf
theorem call_maxD (hc : X.calm = true) : CallR X (.builtin "max") (rB maxD) := by
  intro pins s σ H xs us Q I r ⟨w, ds, d, eH, wk, qx, hf, hq⟩
  subst eH
  unfold maxD at hf
  split at hf
  · cases hf
    cases qx with
    | cons a b =>
      cases a
      cases b with
      | cons a b =>
        cases a; cases b
        exact call_max2 hc pins s σ _ _ us Q I r ⟨_, _, rfl, hq _ _ (Same.refl _) (.int _)⟩
  · obtain ⟨m, h1, rfl⟩ := Option.map_eq_some_iff.mp hf
    obtain ⟨ns, e1, e2⟩ := Option.bind_eq_some_iff.mp h1
    obtain ⟨x, rfl, q⟩ := qx.one'
    cases q with
    | lst h r1 =>
      have e3 := intsOf_rp e1 r1
      subst e3
      obtain ⟨g1, g2⟩ := maxI_get e2
      refine cr_max hc pins s σ _ _ us Q I r ⟨_, ns, rfl, SqL.of h, List.length_pos_of_mem g1, fun k k1 k2 => ?_⟩
      have e4 : k = m := Int.le_antisymm (g2 k k1) (k2 m g1)
      subst e4
      exact hq _ _ (Same.refl _) (.int _)
  · cases hf
end
end DL
namespace DL
open PySem PySem.Spec PyProof.Rows L2
/-! ### the law's own state: a dict of two lists of ints and a count -/
def stO (kc kg ks : Str) (c g : Addr) (n : Nat) : HO := .dK [(.inr kc, .ref c), (.inr kg, .ref g), (.inr ks, .int n)]
/-- a: the dict; C: what belongs to it -/
def SIB (kc kg ks : Str) (a : Addr) : SInv := fun b C H => ∃ (g c : Addr) (gs cs : List Int) (n : Nat), C a ∧ C g ∧ C c ∧ g ≠ c ∧ H a = some (stO kc kg ks c g n) ∧ H g = some (.lst (gs.map V.int)) ∧ H c = some (.lst (cs.map V.int)) ∧ n ≤ b
theorem stabB (kc kg ks : Str) (a : Addr) : Stab (SIB kc kg ks a) := fun b C H H' ⟨g, c, gs, cs, n, h1, h2, h3, h4, h5, h6, h7, h8⟩ k => ⟨g, c, gs, cs, n, h1, h2, h3, h4, k _ _ h1 h5, k _ _ h2 h6, k _ _ h3 h7, h8⟩
/-- .. while the def that draws runs, w0 the world at its entry -/
structure StB (kc kg ks : Str) (a : Addr) (w0 : Wd) (H : Hp) (C : Addr → Prop) (g c : Addr) (gs cs : List Int) (n : Nat) : Prop where
  ex : Ext w0 ⟨H, fun x => w0.M x ∨ C x, C⟩
  cd : ∀ x, C x → H x ≠ none
  ha : C a
  hg : C g
  hc : C c
  gc : g ≠ c
  da : H a = some (stO kc kg ks c g n)
  dg : H g = some (.lst (gs.map V.int))
  dc : H c = some (.lst (cs.map V.int))
section
variable {kc kg ks : Str} {a : Addr} {w0 : Wd} {H : Hp} {C : Addr → Prop} {g c : Addr} {gs cs : List Int} {n : Nat}
theorem StB.ag (h : StB kc kg ks a w0 H C g c gs cs n) : a ≠ g := fun z => by have := h.da; rw [z, h.dg] at this; cases this
theorem StB.ac (h : StB kc kg ks a w0 H C g c gs cs n) : a ≠ c := fun z => by have := h.da; rw [z, h.dc] at this; cases this
theorem StB.alloc (h : StB kc kg ks a w0 H C g c gs cs n) {p : Addr} {o : HO} (np : H p = none) : StB kc kg ks a w0 (upd H p o) C g c gs cs n := by
  have ne : ∀ {x : Addr} {u : HO}, H x = some u → x ≠ p := fun q z => by rw [z, np] at q; cases q
  exact ⟨h.ex.trans (Ext.same (w := ⟨H, fun x => w0.M x ∨ C x, C⟩) (same_new np)), fun x q z => by
    by_cases e : x = p
    · rw [e, upd_same] at z; cases z
    · rw [upd_ne e] at z; exact h.cd x q z, h.ha, h.hg, h.hc, h.gc, by rw [upd_ne (ne h.da)]; exact h.da, by rw [upd_ne (ne h.dg)]; exact h.dg, by rw [upd_ne (ne h.dc)]; exact h.dc⟩
theorem StB.same (h : StB kc kg ks a w0 H C g c gs cs n) {H' : Hp} (s : Same H H') : StB kc kg ks a w0 H' C g c gs cs n :=
  ⟨h.ex.trans (Ext.same (w := ⟨H, fun x => w0.M x ∨ C x, C⟩) s), fun x q z => h.cd x q (s.free z), h.ha, h.hg, h.hc, h.gc, s _ _ h.da, s _ _ h.dg, s _ _ h.dc⟩
/-- something of the state is written -/
theorem StB.poke (h : StB kc kg ks a w0 H C g c gs cs n) {x : Addr} {o : HO} (hx : C x) : Ext w0 ⟨upd H x o, fun x => w0.M x ∨ C x, C⟩ ∧ ∀ y, C y → upd H x o y ≠ none := by
  have nw : ∀ b o', ¬ w0.C b → w0.H b = some o' → b ≠ x := fun b o' nc hb z => by
    rw [z] at nc hb
    rcases h.ex.newC x hx with q | q
    · exact nc q
    · rw [q] at hb; cases hb
  refine ⟨⟨fun b o' nc hb => ?_, fun b hb => ?_, h.ex.newC, h.ex.newM, h.ex.oldM⟩, fun y hy => ?_⟩
  · show upd H x o b = some o' ∨ _
    rw [upd_ne (nw b o' nc hb)]
    exact (h.ex.keep b o' nc hb).elim .inl fun ⟨q1, q2, ob, q3⟩ => .inr ⟨q1, q2, ob, by show upd H x o b = _; rw [upd_ne (nw b o' nc hb)]; exact q3⟩
  · show upd H x o b ≠ none
    by_cases e : b = x
    · rw [e, upd_same]; simp
    · rw [upd_ne e]; exact h.ex.dom b hb
  · by_cases e : y = x
    · rw [e, upd_same]; simp
    · rw [upd_ne e]; exact h.cd y hy
/-- the list of great numbers: another one -/
theorem StB.newG (h : StB kc kg ks a w0 H C g c gs cs n) {p : Addr} {gs' : List Int} (np : H p = none) : StB kc kg ks a w0 (upd (upd H p (.lst (gs'.map V.int))) a (stO kc kg ks c p n)) (fun x => C x ∨ x = p) p c gs' cs n := by
  have h1 := h.alloc (o := .lst (gs'.map V.int)) np
  have ne : ∀ {x : Addr} {u : HO}, H x = some u → x ≠ p := fun q z => by rw [z, np] at q; cases q
  have npw : w0.H p = none := h.ex.free np
  have h2 : StB kc kg ks a w0 (upd H p (.lst (gs'.map V.int))) (fun x => C x ∨ x = p) g c gs cs n := by
    refine ⟨⟨h1.ex.keep, h1.ex.dom, fun b q => q.elim (h1.ex.newC b) fun z => .inr (by rw [z]; exact npw), fun b q => ?_, fun b q => .inl q⟩, fun x q => ?_, .inl h.ha, .inl h.hg, .inl h.hc, h.gc, h1.da, h1.dg, h1.dc⟩
    · rcases q with q | q | q
      · exact .inl q
      · exact h1.ex.newM b (.inr q)
      · exact .inr (by rw [q]; exact npw)
    · rcases q with q | q
      · exact h1.cd x q
      · rw [q, upd_same]; simp
  obtain ⟨e1, e2⟩ := h2.poke (o := stO kc kg ks c p n) (x := a) h2.ha
  have pa : p ≠ a := (ne h.da).symm
  exact ⟨e1, e2, .inl h.ha, .inr rfl, .inl h.hc, (ne h.dc).symm, upd_same, by rw [upd_ne pa, upd_same], by rw [upd_ne (h.ac).symm]; exact h1.dc⟩
theorem StB.setG (h : StB kc kg ks a w0 H C g c gs cs n) {gs' : List Int} : StB kc kg ks a w0 (upd H g (.lst (gs'.map V.int))) C g c gs' cs n := by
  obtain ⟨e1, e2⟩ := h.poke (o := .lst (gs'.map V.int)) h.hg
  exact ⟨e1, e2, h.ha, h.hg, h.hc, h.gc, by rw [upd_ne h.ag]; exact h.da, upd_same, by rw [upd_ne h.gc.symm]; exact h.dc⟩
theorem StB.setN (h : StB kc kg ks a w0 H C g c gs cs n) {n' : Nat} : StB kc kg ks a w0 (upd H a (stO kc kg ks c g n')) C g c gs cs n' := by
  obtain ⟨e1, e2⟩ := h.poke (o := stO kc kg ks c g n') h.ha
  exact ⟨e1, e2, h.ha, h.hg, h.hc, h.gc, upd_same, by rw [upd_ne h.ag.symm]; exact h.dg, by rw [upd_ne h.ac.symm]; exact h.dc⟩
theorem StB.start {M : Addr → Prop} {b : Nat} (wf : Wf ⟨H, M, C⟩) (h : SIB kc kg ks a b C H) : ∃ g c gs cs n, n ≤ b ∧ StB kc kg ks a ⟨H, M, C⟩ H C g c gs cs n := by
  obtain ⟨g, c, gs, cs, n, h1, h2, h3, h4, h5, h6, h7, h8⟩ := h
  exact ⟨g, c, gs, cs, n, h8, ⟨⟨fun a o _ h => .inl h, fun a h => h, fun a h => .inl h, fun a h => h.elim .inl fun q => .inl (wf.cm a q), fun a h => .inl h⟩, fun x q => wf.md x (wf.cm x q), h1, h2, h3, h4, h5, h6, h7⟩⟩
/-- the end -/
theorem StB.done {b b' : Nat} {Q : VK} {Pd : D → Prop} {d : D} {v : V} (h : StB kc kg ks a w0 H C g c gs cs n) (wf0 : Wf w0) (hn : n ≤ b') (hb : b' ≤ b) (p : Pd d) (r : ∀ w, Rp w v d) (hq : ∀ d, Pd d → ∀ b' w' v, b' ≤ b → Ext w0 w' → SIB kc kg ks a b' w'.C w'.H → Wf w' → Rp w' v d → Q v w'.H) : Q v H :=
  hq d p b' ⟨H, fun x => w0.M x ∨ C x, C⟩ v hb h.ex ⟨g, c, gs, cs, n, h.ha, h.hg, h.hc, h.gc, h.da, h.dg, h.dc, hn⟩ ⟨fun x q => .inr q, fun x q => q.elim (fun m => h.ex.dom x (wf0.md x m)) (h.cd x)⟩ (r _)
end
/-! ### raw rules for its body -/
section
variable {X : Cx} {o i e : Expr} {to ti tv : TE} {t : TSet} {pos p : Pos}
def sISet (to ti tv : TE) (t : TSet) : TS := fun D σ H => tv σ H fun v H1 => to σ H1 fun x H2 => ti σ H2 fun y H3 => t x y v H3 fun H4 => D.nx σ H4
theorem ps_iset (hp : PSet X t) (ho : PE X o to) (hi : PE X i ti) (hv : PE X e tv) (hs : swapsWith e (some (.Subscript o i p)) pos.line X.env = pure false := by rfl) : PS X (.Assign [.Subscript o i p] e pos) (sISet to ti tv t) := by
  refine ⟨fun pins s σ H D I h => ?_⟩
  refine wpAny_Assign_Subscript (thn (hv.run pins s σ H _ I h) fun r s1 ⟨v, H1, I1, rv, q1⟩ => thn (ho.run pins s1 σ H1 _ I1 q1) fun u s2 ⟨x, H2, I2, rx, q2⟩ => thn (hi.run pins s2 σ H2 _ I2 q2) fun iv s3 ⟨y, H3, I3, ry, q3⟩ => ?_) hs
  exact thn (hp pins s3 σ H3 x y v u iv r _ I3 rx ry rv q3) fun _ s4 ⟨H4, I4, q4⟩ => ⟨σ, H4, I4, q4⟩
def CMulB (i j : Int) : Prop := Builtin.Int.intBits i ≤ 2 ^ 20 ∧ Builtin.Int.intBits j ≤ 2 ^ 20
theorem op_mulB : OpR X (binaryOp .Mult) (rI CMulB fun i j => .int (i * j)) := opI fun _ _ _ _ _ _ _ hc q => mul_int q (.of_bits hc.1 hc.2)
def CDivB (_ j : Int) : Prop := 0 < j ∧ j < 2 ^ 1000
theorem small1000 {j : Int} (h : j < 2 ^ 63) : j < 2 ^ 1000 := Int.lt_trans h (by decide +kernel)
theorem CDivB.of {i j : Int} (h0 : 0 < j) (h : j < 2 ^ 63) : CDivB i j := ⟨h0, small1000 h⟩
theorem op_fdivB : OpR X (binaryOp .FloorDiv) (rI CDivB fun i j => .int (i / j)) := opI fun i j _ _ _ _ _ hc q => by
  obtain ⟨h1, h2⟩ := hc
  refine floordiv_int (by omega) (by rw [Int.fdiv_eq_ediv_of_nonneg i (by omega)]; exact q) (.inl (PyProof.noPylong_of_log2 ?_))
  have h3 : j.natAbs < 2 ^ 1000 := by omega
  have h4 : j.natAbs.log2 < 1000 := (Nat.log2_lt (by omega)).mpr h3
  omega
/-- a list of ints, as data, whoever owns it -/
def allW (H : Hp) : Wd := ⟨H, fun _ => False, fun _ => False⟩
def intL (ns : List Int) : D := .list (ns.map .int)
theorem ints_rp {w : Wd} : ∀ ns : List Int, RpL w (ns.map V.int) (ns.map .int)
  | [] => .nil
  | n :: r => .cons (.int n) (ints_rp r)
theorem ints_rq {H : Hp} {g : Addr} {gs : List Int} (h : H g = some (.lst (gs.map V.int))) : Rq (allW H) (.ref g) (intL gs) := .lst h (ints_rp gs)
theorem ints_shaped (gs : List Int) : SeqAt.shaped (intL gs) = true := by
  have h1 : ∀ gs : List Int, PyData.canLayAll0 (gs.map .int) = true := fun gs => by
    induction gs with
    | nil => rfl
    | cons n r ih => rw [List.map_cons, PyData.canLayAll0, ih]; rfl
  have h2 := PySem.W.depth_ints gs
  unfold SeqAt.shaped intL
  rw [show PyData.canLay0 (.list (gs.map .int)) = PyData.canLayAll0 (gs.map .int) from rfl, h1, PyData.depth, h2]
  decide
theorem ints_eqv (gs : List Int) : (intL gs).eqv (.list []) = decide (gs = []) := by
  cases gs with
  | nil => simp [intL, PyData.eqv, PyData.eqvAll]
  | cons n r => simp [intL, PyData.eqv, PyData.eqvAll]
/-- great != [] -/
theorem ne_nil {H : Hp} {g p : Addr} {gs : List Int} {Q : VK} (h1 : H g = some (.lst (gs.map V.int))) (h2 : H p = some (.lst [])) (q : ∀ H', Same H H' → Q (.bl (decide (gs ≠ []))) H') : rV2 neD (.ref g) (.ref p) H Q := by
  refine ⟨allW H, intL gs, .list [], .bool (decide (gs ≠ [])), rfl, fun _ z => z.elim, ints_rq h1, .lst h2 .nil, ?_, fun v H' s r => ?_⟩
  · unfold neD
    rw [if_pos ⟨ints_shaped gs, by decide⟩, ints_eqv, decide_not]
  · cases (show Rp ⟨H', fun _ => False, fun _ => False⟩ v (.bool (decide (gs ≠ []))) from r)
    exact q H' s

theorem ix0 (x : V) (r : List V) : ixN (x :: r).length 0 = some 0 := by
  unfold ixN
  rw [if_pos (by omega), if_pos (by rw [List.length_cons]; omega)]; rfl
theorem cap_bits {n : Nat} (h : n + 1 ≤ cap) : (67 * ((n : Int) + 1)).natAbs < 2 ^ 100010 ∧ ((n : Int) + 1).natAbs < 2 ^ 100010 := by
  have e : (2 : Nat) ^ 100010 = 1024 * cap := by decide +kernel
  rw [e]
  omega
theorem cut1 (gs : List Int) : cutV (gs.map V.int) (some 1) none = (gs.drop 1).map V.int := by
  unfold cutV
  rw [List.map_drop]
  have e1 : HT.sIx (gs.map V.int).length 0 (some 1) = min 1 (gs.map V.int).length := by
    unfold HT.sIx; simp
  have e2 : HT.sIx (gs.map V.int).length (gs.map V.int).length none = (gs.map V.int).length := rfl
  rw [e1, e2]
  cases gs with
  | nil => rfl
  | cons n r => simp [List.take_of_length_le]
section
variable {kc kg ks : Str} {a : Addr} {w0 : Wd} {H : Hp} {C : Addr → Prop} {g c : Addr} {gs cs : List Int} {n : Nat} {σ : L2.St} {Q : VK}
structure Kd (kc kg ks : Str) : Prop where
  cg : kc ≠ kg
  cs : kc ≠ ks
  gs : kg ≠ ks
theorem inr_ne {x y : Str} (h : x ≠ y) : ¬ ((Sum.inr x : Key) = Sum.inr y) := fun z => h (Sum.inr.inj z)
theorem StB.getC (S : StB kc kg ks a w0 H C g c gs cs n) (h0 : σ[0]? = some (some (.ref a))) (q : Q (.ref c) H) : tDGet (tVar 0) (tC (.str kc)) σ H Q :=
  ⟨.ref a, h0, a, .ref c, rfl, by have := DGet.k (k := .inr kc) S.da; rwa [valV_pos rfl] at this, q⟩
theorem StB.getG (S : StB kc kg ks a w0 H C g c gs cs n) (d : Kd kc kg ks) (h0 : σ[0]? = some (some (.ref a))) (q : Q (.ref g) H) : tDGet (tVar 0) (tC (.str kg)) σ H Q :=
  ⟨.ref a, h0, a, .ref g, rfl, by have := DGet.k (k := .inr kg) S.da; rwa [valV_neg (inr_ne d.cg), valV_pos rfl] at this, q⟩
theorem StB.getS (S : StB kc kg ks a w0 H C g c gs cs n) (d : Kd kc kg ks) (h0 : σ[0]? = some (some (.ref a))) (q : Q (.int n) H) : tDGet (tVar 0) (tC (.str ks)) σ H Q :=
  ⟨.ref a, h0, a, .int n, rfl, by have := DGet.k (k := .inr ks) S.da; rwa [valV_neg (inr_ne d.cs), valV_neg (inr_ne d.gs), valV_pos rfl] at this, q⟩
theorem StB.putG (S : StB kc kg ks a w0 H C g c gs cs n) (d : Kd kc kg ks) {p : Addr} : DPut H a (.str kg) (.ref p) (upd H a (stO kc kg ks c p n)) := by
  have h := DPut.k (k := .inr kg) (v := .ref p) S.da (by show 3 < sizeLine; decide)
  have e : putK [((.inr kc : Key), V.ref c), (.inr kg, .ref g), (.inr ks, .int n)] (.inr kg) (.ref p) = [(.inr kc, .ref c), (.inr kg, .ref p), (.inr ks, .int n)] := by
    unfold putK
    simp [inr_ne d.cg, inr_ne d.gs.symm]
  rw [e] at h
  exact h
theorem StB.putS (S : StB kc kg ks a w0 H C g c gs cs n) (d : Kd kc kg ks) {m : Nat} : DPut H a (.str ks) (.int m) (upd H a (stO kc kg ks c g m)) := by
  have h := DPut.k (k := .inr ks) (v := .int m) S.da (by show 3 < sizeLine; decide)
  have e : putK [((.inr kc : Key), V.ref c), (.inr kg, .ref g), (.inr ks, .int n)] (.inr ks) (.int m) = [(.inr kc, .ref c), (.inr kg, .ref g), (.inr ks, .int m)] := by
    unfold putK
    simp [inr_ne d.cs, inr_ne d.gs]
  rw [e] at h
  exact h
/-- the test m[kg] != [] -/
theorem StB.neG {Qt : Bool → Hp → Prop} (S : StB kc kg ks a w0 H C g c gs cs n) (d : Kd kc kg ks) (h0 : σ[0]? = some (some (.ref a))) (q : ∀ H', StB kc kg ks a w0 H' C g c gs cs n → Qt (decide (gs ≠ [])) H') : tTest (tOp (rV2 neD) (tDGet (tVar 0) (tC (.str kg))) (tLst tNil)) σ H Qt :=
  S.getG d h0 ⟨Nat.zero_le _, fun p np => ne_nil ((S.alloc np).dg) upd_same fun H' sm => ⟨_, rfl, q H' ((S.alloc np).same sm)⟩⟩
theorem StB.neC {Qt : Bool → Hp → Prop} (S : StB kc kg ks a w0 H C g c gs cs n) (h0 : σ[0]? = some (some (.ref a))) (q : ∀ H', StB kc kg ks a w0 H' C g c gs cs n → Qt (decide (cs ≠ [])) H') : tTest (tOp (rV2 neD) (tDGet (tVar 0) (tC (.str kc))) (tLst tNil)) σ H Qt :=
  S.getC h0 ⟨Nat.zero_le _, fun p np => ne_nil ((S.alloc np).dc) upd_same fun H' sm => ⟨_, rfl, q H' ((S.alloc np).same sm)⟩⟩
theorem bits_le {i : Int} {k : Nat} (h : i.natAbs < 2 ^ k) : Builtin.Int.intBits i ≤ k := by
  unfold Builtin.Int.intBits
  split
  · exact Nat.zero_le _
  · rename_i z
    have nz : i.natAbs ≠ 0 := fun q => z (by simpa using q)
    exact (Nat.log2_lt nz).mpr h
end
end
end DL
namespace DL
open PySem PySem.Spec PyProof.Rows L2
/-! ### the law's own call, for a def whose promise needs that no repr runs -/
theorem lawG_call {P : Program} {w : World} {K : PySem.W.Frag} {mg mb : Str → Option Value} {k : Nat} {fa a : Addr} {fd : FuncData} {x : Str} {sp : Sp} {s1 : Shared} {vs : List Value} {ns : List Int} (KX : K.In s1.heap) (hns : s1.heap.Ns mainGlobals mg) (hb : s1.heap.Ns builtinsNs mb)
    (hbb : ∀ x : Str, x ≠ "__name__" → mb x = bootBuiltins x) (hlim : s1.heap.NoLimit) (hg : s1.gens = #[]) (ha : s1.heap.get? a = some { cls := .type "list", data := .seq vs.toArray }) (hi : IntsAre vs ns) (hl : ns.length ≤ sizeLine) (hr : Room k callerA)
    (F : ∀ base : Heap, K.In base → base.Ns mainGlobals mg → FnG P w K mg base CX0 k fa fd [x] sp) (hbind : ∀ (s : Shared) (u : Value), BindsTo s fd ⟨[u], []⟩ [(x, u)]) (hsp : ∀ H : Hp, Only H → SqL K H a (ns.map V.int) → sp [.ref a] H (fun v _ => v = .bl true) fun _ _ _ => False) :
    codeAny (model P w) callerA (.call (.ref fa) ⟨[.ref a], []⟩) (fun r s' => r = .ok (.ret (.bool true)) ∧ OldK s1.heap s'.heap ∧ s'.os = s1.os ∧ AllBare s'.gens) s1 := by
  have rv := vals_ints hi; have lenV := hi.length
  have core : ∀ H : Hp, Only H → SqL K H a (ns.map V.int) → HOk P w H s1.heap → (∀ b, H b ≠ none → b = a) → (H a ≠ none → K.lookup a = none) → codeAny (model P w) callerA (.call (.ref fa) ⟨[.ref a], []⟩) (fun r s' => r = .ok (.ret (.bool true)) ∧ OldK s1.heap s'.heap ∧ s'.os = s1.os ∧ AllBare s'.gens) s1 := by
    intro H hO hS hok hA hK
    have bs : ∀ {b : Addr} {o : Obj}, s1.heap.get? b = some o → H b = none → (hidT s1.heap H).get? b = some o := fun e n => hidT_get e n
    have noA : ∀ {b : Addr} {o : Obj} {es : Array DictEntry} {ep : Nat}, s1.heap.get? b = some o → o.data = .dict es ep → H b = none := fun {b o es ep} e d => by
      cases q : H b with | none => rfl | some u =>
        obtain rfl : b = a := hA b (by rw [q]; simp)
        rw [ha] at e; cases e; cases (show Data.seq vs.toArray _ = Data.dict es ep from d)
    have nsK : ∀ {b : Addr} {m : Str → Option Value}, s1.heap.Ns b m → (hidT s1.heap H).Ns b m := fun {b m} ⟨o, es, ep, e, d, r⟩ => ⟨o, es, ep, bs e (noA e d), d, r⟩
    have hKb : K.In (hidT s1.heap H) := fun b o e => bs (KX b o e) (by
      cases q : H b with | none => rfl | some u => (obtain rfl : b = a := hA b (by rw [q]; simp)); rw [hK (by rw [q]; simp)] at e; cases e)
    have hM : Mod K mg (hidT s1.heap H) := ⟨hKb, nsK hns, ⟨mb, nsK hb, hbb⟩, let ⟨mc, h1, h2⟩ := hlim; ⟨mc, nsK h1, h2⟩⟩
    have e0 : Env0 P w K mg (hidT s1.heap H) callerA [] s1 H := ⟨rfl, hM, fun b o e => of_hidT e, Nat.le_of_eq (hidT_size _ _), trivial, fun b hb => absurd (show b ∈ ([] : List Addr) from hb) (by simp), hok, .of_eq hg⟩
    refine codeAny_mono ((F _ hKb (nsK hns)).run callerA [] s1 H ⟨[.ref a], []⟩ [.ref a] [.ref a] _ _ rfl hr e0 (hbind s1 (.ref a)) (.cons rfl .nil) (hsp H hO hS)) fun r s' h => ?_
    cases r with | error e => exact False.elim h | ok fl =>
      cases fl with
      | ret u =>
        obtain ⟨v, H', os, bare, un, hok', r', q⟩ := h
        cases (show v = .bl true from q); cases (show u = Value.bool true from r')
        refine ⟨rfl, OldK.of_keep fun b o e => ?_, os, bare⟩
        cases q : H b with
        | none => exact un.keep b o e q (by intro z; exact absurd (show b ∈ ([] : List Addr) from z) (by simp)) (by simp)
        | some u =>
          rcases hO b with z | ⟨ob, xs, z⟩
          · rw [q] at z; cases z
          · have z2 := un.frzs b ob _ z; obtain ⟨e1, _⟩ := hok b _ z; obtain ⟨e2, _⟩ := hok' b _ z2
            rw [e] at e1; cases e1; exact e2
      | _ => exact False.elim h
  cases hk : K.lookup a with
  | some o =>
    have e := KX a o hk
    rw [ha] at e; cases e
    exact core (fun _ => none) (fun _ => .inl rfl) (.inr ⟨_, vs.toArray, _, hk, rfl, rfl, rfl, by rw [List.size_toArray, lenV]; exact hl, by simpa using rv⟩) (fun b u z => by cases (show (none : Option HO) = some u from z)) (fun b z => absurd rfl z) fun z => absurd rfl z
  | none =>
    refine core (fun b => if b = a then some (.frz { cls := .type "list", data := .seq vs.toArray } (.lst (ns.map V.int))) else none) (fun b => ?_) (.inl (.inr ⟨{ cls := .type "list", data := .seq vs.toArray }, if_pos rfl⟩)) (fun b u z => ?_) (fun b z => ?_) fun _ => hk
    · by_cases hb : b = a; exact .inr ⟨_, _, if_pos hb⟩; exact .inl (if_neg hb)
    · by_cases hb : b = a
      · have z' := (if_pos hb).symm.trans z; cases z'; subst hb
        exact ⟨ha, by rw [List.length_map]; exact hl, vs, _, rv, ha⟩
      · have z' := (if_neg hb).symm.trans z; cases z'
    · by_cases hb : b = a; exact hb; exact absurd (if_neg hb) z
/-- what k_head leaves (case hc), from the promise of the law's def -/
theorem walkG {l : PySem.W.OpenLaw} {n k : Nat} {q : Program} {loose : List Str} {XP : (Str → Option Value) → Heap → Prop} {YP : World → Heap → Prop} {d : DefRec} {K : Params → PySem.W.Frag} {sp : World → Sp} {x : Str} (hn : l.most = some n) (hn2 : n ≤ sizeLine) (hdf : d.params.defaults = []) (hr : Room k callerA)
    (hY : ∀ (w : World) (h : Heap), YP w h → (K w.params).In h) (F : ∀ (w : World) (mg : Str → Option Value) (fa : Addr) (h : Heap), (K w.params).In h → h.Ns mainGlobals mg → mg d.name = some (.ref fa) → ∃ fd : FuncData, (∀ (s : Shared) (u : Value), BindsTo s fd ⟨[u], []⟩ [(x, u)]) ∧ ∀ base : Heap, (K w.params).In base → base.Ns mainGlobals mg → FnG l.prog w (K w.params) mg base CX0 k fa fd [x] (sp w))
    (hsp : ∀ (w : World) (H : Hp) (a : Addr) (ns : List Int), ns.length ≤ n → Only H → SqL (K w.params) H a (ns.map V.int) → sp w [.ref a] H (fun v _ => v = .bl true) fun _ _ _ => False) : PySem.W.WalkO q loose XP YP l.row.toRowW d [] (fun f vs => PySem.call f vs) := by
  refine Att.attach_call hn hdf fun w s0 s1 mg mb fa o pm cd doc a vs ns G Y ho hd hcd hmg hobj hints hlen hg => ?_
  have KX := hY w _ Y; obtain ⟨fd, hb, hF⟩ := F w mg fa _ KX G.T.g hmg
  exact lawG_call KX G.T.g G.T.b G.T.builtins G.T.nolimit hg hobj hints (Nat.le_trans hlen hn2) hr hF hb fun H hO hS => hsp w H a ns hlen hO hS
/-! ### the script: it stands as it was, and only its length is asked for -/
section
variable {X : Cx} {G : Gh}
/-- the script at a0 is among what is protected -/
def Scr (K : PySem.W.Frag) (G : Gh) (a0 : Addr) (n : Nat) : Prop := ∃ xs : List V, xs.length = n ∧ ((∃ o, G.Pt a0 = some (.frz o (.lst xs))) ∨ ∀ H, SqL K H a0 xs)
theorem Scr.sq {K : PySem.W.Frag} {a0 : Addr} {n b : Nat} {w : Wd} (h : Scr K G a0 n) (eh : EH (G.at b) w) : ∃ xs : List V, xs.length = n ∧ SqL K w.H a0 xs := by
  obtain ⟨xs, hl, ⟨o, ho⟩ | h⟩ := h
  · refine ⟨xs, hl, .inl (.inr ⟨o, ?_⟩)⟩
    rcases eh.kp a0 _ ho with q | ⟨_, d, _⟩
    · exact q
    · exact (no_dct_frz d).elim
  · exact ⟨xs, hl, h _⟩
def wLenS (i : Nat) (a0 : Addr) (n : Nat) : WE := fun env P => env[i]? = some (.raw (.ref a0)) ∧ P (.fz (.int n))
theorem de_lenS (i : Nat) {x : Str} {a0 : Addr} {n : Nat} {p p2 pos : Pos} (hs : Scr X.K G a0 n) (hg : Gl X "len") (hm : X.mg "len" = none) (hN : X.N[i]? = some x := by rfl) (hv : Vis X.env.scope x := by first | exact Or.inl rfl | exact Or.inr (Or.inl rfl) | exact Or.inr (Or.inr rfl)) (hd : (x == ("__debug__" : Str)) = false := by decide) (hcd : (x == ("__classdict__" : Str)) = false := by decide)
    (he : starEach [.Name x p2] X.env = (false, eval (.Name x p2) X.env) :: starEach [] X.env := by rfl) : DE X G (.Call (.Name "len" p) [.Name x p2] [] pos) (wLenS i a0 n) 0 :=
  PE_imp (pe_callB call_len_seq hg hm PySem.boot_len (pa_cons (pe_var hN hv hd hcd) pa_nil he) (by decide) (by decide) he rfl) fun σ H Q h => by
    obtain ⟨env, M, C, b0, P, hb0, er, ⟨hi, p⟩, hf⟩ := h
    obtain ⟨ov, h1, h2⟩ := er.at hi
    obtain rfl : ov = some (.ref a0) := h2
    obtain ⟨xs, hl, hq⟩ := hs.sq er.toEH
    refine ⟨.ref a0, h1, a0, xs, rfl, .inl hq, ?_⟩
    rw [hl]
    exact Fin.now (b := b0) (w := ⟨H, M, C⟩) hf p er (.int _)
end
/-! ### the law's def: its state is made, the rest draws -/
def spBeg (K : PySem.W.Frag) (SIa : Addr → SInv) : Sp := fun vs H Q _ => ∃ (a0 : Addr) (ns : List Int), vs = [.ref a0] ∧ SqL K H a0 (ns.map V.int) ∧ ns.length ≤ 63 ∧ ∀ (a : Addr) (C : Addr → Prop) (H' : Hp), Same H H' → (∀ x, C x → H x = none ∧ H' x ≠ none) → SIa a 0 C H' → Q (.ref a) H'
def spLaw (K : PySem.W.Frag) : Sp := fun vs H Q _ => ∃ (a0 : Addr) (ns : List Int), vs = [.ref a0] ∧ ns.length ≤ 63 ∧ Only H ∧ SqL K H a0 (ns.map V.int) ∧ ∀ H', Q (.bl true) H'
def lawEnds : DEnds := { nx := fun _ => False, rt := fun dv => dv = .fz (.bool true), bk := fun _ => False, ct := fun _ => False }
def lawEnv (a0 a : Addr) (m : Nat) : Ev := .raw (.ref a0) :: .raw (.ref a) :: List.replicate m .no
theorem fn_law {SIa : Addr → SInv} (st : ∀ a, Stab (SIa a)) {P : Program} {w : World} {K : PySem.W.Frag} {mg : Str → Option Value} {base : Heap} {stm s0 : Stmt} {rest : List Stmt} {f : Addr} {fd : FuncData} {N : List Str} {x : Str} {k c m : Nat} {ws : Addr → Addr → Nat → WS}
    (F : Fun K "law" "law" stm f fd) (S : FnScope N [x] (defScope stm)) (hN : N.length = m + 2) (hb : defBody stm = s0 :: rest)
    (h0 : ∀ (cdv : Value) (A : Around) (outer : List Env) (s : Shared) (H : Hp) (E : XK), A.guards = some [] → Room k (A.deeper (envOfC "law" (defScope stm) s.heap.objs.size f cdv)) → PS (cxOf CX0 P w K mg base N "law" (defScope stm) f cdv A outer s H E).nox s0 (tAsg (tCall (spBeg K SIa) [] E0 (tCons (tVar 0) tNil)) (gName 1)))
    (hrest : ∀ (a a0 : Addr) (n : Nat) (G : Gh) (cdv : Value) (A : Around) (outer : List Env) (s : Shared) (H : Hp) (E : XK), G.SI = SIa a → Scr K G a0 n → A.guards = some [] → Room k (A.deeper (envOfC "law" (defScope stm) s.heap.objs.size f cdv)) → DSs (cxOf CX0 P w K mg base N "law" (defScope stm) f cdv A outer s H E).nox G rest (ws a a0 n) c)
    (hd : ∀ (a a0 : Addr) (n : Nat), n ≤ 63 → ws a a0 n (lawEnv a0 a m) lawEnds) (hc : c ≤ cap := by decide +kernel) : FnG P w K mg base CX0 (k + 1) f fd [x] (spLaw K) := by
  obtain ⟨oc, od, kV, doc, pm, an, cdv, ct, osl, rfl, lk, hcd⟩ := F.ex
  refine fnG_of lk hcd S (fun vs H Q E h => ?_) fun A outer s H vs Q E hgd hr h => ?_
  · obtain ⟨a0, ns, rfl, _⟩ := h
    rfl
  · obtain ⟨a0, ns, rfl, hl, hO, hS, hq⟩ := h
    have dR : PSs (cxOf CX0 P w K mg base N "law" (defScope stm) f cdv A outer s H E).nox rest (fun T σ H => ∃ a a0 n G, G.SI = SIa a ∧ Scr K G a0 n ∧ tS G (ws a a0 n) c T σ H) := ⟨fun pins s' σ H' T I ⟨a, a0, n, G, h1, h2, q⟩ => (hrest a a0 n G cdv A outer s H E h1 h2 hgd hr).run pins s' σ H' T I q⟩
    have dA := (pss_cons (h0 cdv A outer s H E hgd hr) dR).nox
    rw [← hb] at dA
    refine ⟨_, dA, ?_⟩
    refine ⟨.ref a0, rfl, a0, ns, rfl, hS, hl, fun a C H' sm hC si => ?_⟩
    have eσ : (L2.start N [V.ref a0]).set 1 (some (V.ref a)) = some (.ref a0) :: some (.ref a) :: List.replicate m none := by
      unfold L2.start
      rw [hN]; rfl
    have mh : ∀ x, C x → H' x ≠ none := fun x q => (hC x q).2
    have wf : Wf ⟨H', C, C⟩ := ⟨fun x q => q, mh⟩
    refine ⟨a, a0, ns.length, ghOf (SIa a) (st a) H' C C mh, rfl, ?_, lawEnv a0 a m, C, C, 0, lawEnds, by omega, ?_, hd a a0 _ hl, ?_⟩
    · refine ⟨ns.map V.int, List.length_map .., ?_⟩
      rcases hS with (h | ⟨o, h⟩) | h
      · rcases hO a0 with z | ⟨o, xs, z⟩
        · rw [h] at z; cases z
        · rw [h] at z; cases z
      · exact .inl ⟨o, (ghOf_pt (C := C) (H := H') fun q => by rw [(hC a0 q).1] at h; cases h).trans (sm _ _ h)⟩
      · exact .inr fun _ => .inr h
    · refine ⟨⟨fun b o q => ?_, fun b q => q, fun b q => .inl q, fun b q => ghOf_pt0 q, fun b q => q, mh, fun b q => q, fun p hp => (nomatch hp), si⟩, ?_, fun i sl ov q1 q2 => ?_, fun i j d e b q1 q2 _ _ => ?_⟩
      · by_cases z : C b
        · have q' := (ghOf_pt0 (H := H') z).symm.trans q; cases q'
        · exact .inl ((ghOf_pt z).symm.trans q)
      · rw [eσ]; simp [lawEnv]
      · rw [eσ] at q2
        match i with
        | 0 =>
          cases q1; cases q2
          exact rfl
        | 1 =>
          cases q1; cases q2
          exact rfl
        | i + 2 =>
          have q1' : (List.replicate m Sl.no)[i]? = some sl := q1
          rw [List.getElem?_replicate] at q1'
          split at q1'
          · cases q1'; trivial
          · cases q1'
      · exfalso
        match i with
        | 0 => cases q1
        | 1 => cases q1
        | i + 2 =>
          have q1' : (List.replicate m Sl.no)[i]? = some (.own d) := q1
          rw [List.getElem?_replicate] at q1'
          split at q1' <;> cases q1'
    · refine ⟨fun _ q => q.elim, fun dv q b' w' Hs v hb' eh rv _ => ?_, fun _ q => q.elim, fun _ q => q.elim⟩
      obtain rfl : dv = .fz (.bool true) := q
      cases rv
      exact hq _
end DL
namespace PF
open PySem DL
/-! ### values by their kinds -/
theorem val_fz (d : D) : (Dv.fz d).val = some d := rfl
theorem val_nw (d : D) : (Dv.nw d).val = some d := rfl
theorem val_ow (d : D) : (Dv.ow d).val = some d := rfl
theorem val_bw (d : D) : (Dv.bw d).val = some d := rfl
theorem kept_fz (d : D) : (Dv.fz d).kept = some d := rfl
theorem kept_nl (ds : List D) : (Dv.nw (.list ds)).kept = some (.list ds) := rfl
theorem ag_fz (d : D) : (Dv.fz d).ag = .fz d := rfl
theorem ag_nl (ds : List D) : (Dv.nw (.list ds)).ag = .fz (.list ds) := rfl
theorem ag_ow (d : D) : (Dv.ow d).ag = .bw d := rfl
theorem ag_bw (d : D) : (Dv.bw d).ag = .bw d := rfl
theorem ag_raw (v : L2.V) : (Dv.raw v).ag = .raw v := rfl
theorem ret_fz (d : D) : (Dv.fz d).ret = some d := rfl
theorem ret_nw (d : D) : (Dv.nw d).ret = some d := rfl
theorem ret_ow (d : D) : (Dv.ow d).ret = some d := rfl
theorem dv_fz (d : D) : (Sl.fz d).dv = some (.fz d) := rfl
theorem dv_own (d : D) : (Sl.own d).dv = some (.ow d) := rfl
theorem dv_bw (d : D) : (Sl.bw d).dv = some (.bw d) := rfl
theorem dv_raw (v : L2.V) : (Sl.raw v).dv = some (.raw v) := rfl
theorem sl_fz (d : D) : (Ag.fz d).sl = .fz d := rfl
theorem sl_bw (d : D) : (Ag.bw d).sl = .bw d := rfl
theorem sl_raw (v : L2.V) : (Ag.raw v).sl = .raw v := rfl
theorem mk_none : mkDv .none = .fz .none := rfl
theorem mk_bool (b : Bool) : mkDv (.bool b) = .fz (.bool b) := rfl
theorem mk_int (i : Int) : mkDv (.int i) = .fz (.int i) := rfl
theorem mk_str (i : Str) : mkDv (.str i) = .fz (.str i) := rfl
theorem mk_tuple (i : List D) : mkDv (.tuple i) = .fz (.tuple i) := rfl
theorem mk_list (i : List D) : mkDv (.list i) = .nw (.list i) := rfl
theorem seq_list (i : List D) : seqD (.list i) = some i := rfl
theorem seq_tuple (i : List D) : seqD (.tuple i) = some i := rfl
/-! ### comprehensions over data -/
/-- a comprehension without draws: each item gives its value -/
theorem lc_map {gd : GD} {wt : WT} {we : WE} {env : Ev} {P : Dv → Prop} (f : D → D) (b : D → Bool) : ∀ (ds acc : List D), (∀ d ∈ ds, ∃ env', gd d env = some env' ∧ (∀ R : Bool → Prop, R (b d) → wt env' R) ∧ (b d = true → ∀ R : Dv → Prop, R (.fz (f d)) → we env' R)) → acc.length + ds.length ≤ sizeLine → P (.nw (.list (acc ++ (ds.filter b).map f))) → wLcL gd wt we env P ds acc
  | [], acc, _, _, p => by simpa [wLcL] using p
  | d :: r, acc, h, hl, p => by
    obtain ⟨env', h1, h2, h3⟩ := h d (List.mem_cons_self ..)
    refine ⟨env', h1, h2 _ ?_⟩
    rw [List.length_cons] at hl
    by_cases hb : b d = true
    · rw [if_pos hb]
      refine h3 hb _ ⟨f d, rfl, by omega, lc_map f b r _ (fun e he => h e (List.mem_cons_of_mem _ he)) (by rw [List.length_append, List.length_singleton]; omega) ?_⟩
      rw [List.filter_cons_of_pos hb, List.map_cons] at p
      rw [List.append_assoc]; exact p
    · rw [if_neg hb]
      refine lc_map f b r _ (fun e he => h e (List.mem_cons_of_mem _ he)) (by omega) ?_
      rw [List.filter_cons_of_neg hb] at p
      exact p
theorem lc_all {gd : GD} {we : WE} {env : Ev} {P : Dv → Prop} (f : D → D) (ds : List D) (h : ∀ d ∈ ds, ∃ env', gd d env = some env' ∧ ∀ R : Dv → Prop, R (.fz (f d)) → we env' R) (hl : ds.length ≤ sizeLine) (p : P (.nw (.list (ds.map f)))) : wLcL gd wYes we env P ds [] := by
  refine lc_map f (fun _ => true) ds [] (fun d hd => ?_) (by simpa using hl) (by rw [List.filter_eq_self.mpr (fun _ _ => rfl)]; exact p)
  obtain ⟨env', h1, h2⟩ := h d hd
  exact ⟨env', h1, fun R r => r, fun _ R r => h2 R r⟩
theorem boolsOf_map (g : D → Bool) (ds : List D) : boolsOf (ds.map fun d => .bool (g d)) = some (ds.map g) := by
  induction ds with
  | nil => rfl
  | cons d r ih => simp [boolsOf, ih]
theorem all_map (g : D → Bool) (ds : List D) : allD [.list (ds.map fun d => .bool (g d))] = some (.bool (ds.all g)) := by
  simp [allD, onBools, boolsOf_map, List.all_map]
theorem any_map (g : D → Bool) (ds : List D) : anyD [.list (ds.map fun d => .bool (g d))] = some (.bool (ds.any g)) := by
  simp [anyD, onBools, boolsOf_map, List.any_map]
/-! ### is_whole -/
def isWhole (t : D) (l : Int) (m : Option Int) : Bool := match t with
  | .int i => decide (l ≤ i) && (match m with | none => true | some k => decide (i ≤ k))
  | _ => false
def optD : Option Int → D
  | none => .none
  | some k => .int k
def sp_is_whole : DL.Spec := fun as Q => ∃ t l m, as = [.fz t, .fz (.int l), .fz (optD m)] ∧ Q (.bool (isWhole t l m))
theorem len_is_whole : ∀ as Q, sp_is_whole as Q → as.length = 3 := by rintro as Q ⟨t, l, m, rfl, _⟩; rfl
def ws_is_whole : WS := (wSeq (wIfS (wOr (wNot (wTest (wIsi DL.isInt (wName 0)))) (wOr (wTest (wIsi DL.isBool (wName 0))) (wTest (w2 ltD (wName 0) (wName 1))))) (wRet (wC (.fz (.bool false)))) wNext)
    (wRet (wOrV (w2 isD (wName 2) (wC (.fz .none))) (w2 leD (wName 0) (wName 2)))))
theorem ok_ws_is_whole : ∀ as Q, sp_is_whole as Q → ws_is_whole (env0 3 as) (endsOf Q) := by
  rintro as Q ⟨t, l, m, rfl, q⟩
  cases t with
  | int i =>
    by_cases h : l ≤ i
    · have h' : ¬ i < l := by omega
      cases m <;> simpa [ws_is_whole, env0, wSeq, wIfS, DL.wOr, DL.wNot, DL.wAnd, wTest, wIsi, wName, wC, w2, k2, kE, wRet, wRetN, wNext, wNever, wOrV, wAndV, wNotV, wIf, wB, wCons, wNil, wIx, wSet, store, wTup, wLst, wDrop, wCall, wCallD, wCallK, wApp, wAppF, wPop, wPut, wPar2, wSl, wPart, wNoPart, wAsgT, wAug, wSrc, wRng, wZip, wEnum, wLc, wLc2, wForI, gN, gTup', gCons', gNil', wYes, wBreak, wCont, wLrng, wChain, w1, wLenS, val_fz, val_nw, val_ow, val_bw, kept_fz, kept_nl, ag_fz, ag_nl, ag_ow, ag_bw, ag_raw, ret_fz, ret_nw, ret_ow, dv_fz, dv_own, dv_bw, dv_raw, sl_fz, sl_bw, sl_raw, mk_none, mk_bool, mk_int, mk_str, mk_tuple, mk_list, seq_list, seq_tuple, valL, keptL, wipeE, endsOf, pairD, rng1, rng2, zipD, enumA, DL.isInt, DL.isBool, DL.isTuple, DL.isList, DL.isStr, ltD, isD, isNotD, DL.isNone, leD, gtD, geD, cmpI, addD, subD, lenD, allD, anyD, onBools, tupleD, listD, intD, powD, minD, maxD, negD, isWhole, optD, h, h'] using q
    · have h' : i < l := by omega
      cases m <;> simpa [ws_is_whole, env0, wSeq, wIfS, DL.wOr, DL.wNot, DL.wAnd, wTest, wIsi, wName, wC, w2, k2, kE, wRet, wRetN, wNext, wNever, wOrV, wAndV, wNotV, wIf, wB, wCons, wNil, wIx, wSet, store, wTup, wLst, wDrop, wCall, wCallD, wCallK, wApp, wAppF, wPop, wPut, wPar2, wSl, wPart, wNoPart, wAsgT, wAug, wSrc, wRng, wZip, wEnum, wLc, wLc2, wForI, gN, gTup', gCons', gNil', wYes, wBreak, wCont, wLrng, wChain, w1, wLenS, val_fz, val_nw, val_ow, val_bw, kept_fz, kept_nl, ag_fz, ag_nl, ag_ow, ag_bw, ag_raw, ret_fz, ret_nw, ret_ow, dv_fz, dv_own, dv_bw, dv_raw, sl_fz, sl_bw, sl_raw, mk_none, mk_bool, mk_int, mk_str, mk_tuple, mk_list, seq_list, seq_tuple, valL, keptL, wipeE, endsOf, pairD, rng1, rng2, zipD, enumA, DL.isInt, DL.isBool, DL.isTuple, DL.isList, DL.isStr, ltD, isD, isNotD, DL.isNone, leD, gtD, geD, cmpI, addD, subD, lenD, allD, anyD, onBools, tupleD, listD, intD, powD, minD, maxD, negD, isWhole, optD, h, h'] using q
  | _ => simpa [ws_is_whole, env0, wSeq, wIfS, DL.wOr, DL.wNot, DL.wAnd, wTest, wIsi, wName, wC, w2, k2, kE, wRet, wRetN, wNext, wNever, wOrV, wAndV, wNotV, wIf, wB, wCons, wNil, wIx, wSet, store, wTup, wLst, wDrop, wCall, wCallD, wCallK, wApp, wAppF, wPop, wPut, wPar2, wSl, wPart, wNoPart, wAsgT, wAug, wSrc, wRng, wZip, wEnum, wLc, wLc2, wForI, gN, gTup', gCons', gNil', wYes, wBreak, wCont, wLrng, wChain, w1, wLenS, val_fz, val_nw, val_ow, val_bw, kept_fz, kept_nl, ag_fz, ag_nl, ag_ow, ag_bw, ag_raw, ret_fz, ret_nw, ret_ow, dv_fz, dv_own, dv_bw, dv_raw, sl_fz, sl_bw, sl_raw, mk_none, mk_bool, mk_int, mk_str, mk_tuple, mk_list, seq_list, seq_tuple, valL, keptL, wipeE, endsOf, pairD, rng1, rng2, zipD, enumA, DL.isInt, DL.isBool, DL.isTuple, DL.isList, DL.isStr, ltD, isD, isNotD, DL.isNone, leD, gtD, geD, cmpI, addD, subD, lenD, allD, anyD, onBools, tupleD, listD, intD, powD, minD, maxD, negD, isWhole] using q
/-! ### is_pair -/
def isPair (k i j : Int) : Bool := decide (0 ≤ i ∧ i < k ∧ 0 ≤ j ∧ j < k ∧ i ≠ j)
def sp_is_pair : DL.Spec := fun as Q => ∃ k i j : Int, as = [.fz (.int k), .fz (.tuple [.int i, .int j])] ∧ Q (.bool (isPair k i j))
theorem len_is_pair : ∀ as Q, sp_is_pair as Q → as.length = 2 := by rintro as Q ⟨k, i, j, rfl, _⟩; rfl
def ws_is_pair : WS := (wSeq (wIfS (wOr (wNot (wTest (wIsi DL.isTuple (wName 1)))) (wOr (wTest (w2 neD (wB lenD (wCons (wName 1) wNil)) (wC (.fz (.int 2))))) (wNot (wTest (wB allD (wCons (wLc (wSrc (wName 1)) (gN 2) wYes (wCall sp_is_whole (wCons (wName 2) (wCons (wC (.fz (.int 0))) (wCons (w2 subD (wName 0) (wC (.fz (.int 1)))) wNil)))) [2]) wNil)))))) (wRet (wC (.fz (.bool false)))) wNext)
    (wRet (w2 neD (wIx (wName 1) (wC (.fz (.int 0)))) (wIx (wName 1) (wC (.fz (.int 1)))))))
theorem int_beq (i j : Int) : (i == j) = decide (i = j) := by by_cases h : i = j <;> simp [h]
theorem ne_int (i j : Int) : neD (.int i) (.int j) = some (.bool (decide (i ≠ j))) := by
  unfold neD
  rw [if_pos ⟨by simp [SeqAt.shaped, PyData.canLay0, PyData.depth], by simp [SeqAt.shaped, PyData.canLay0, PyData.depth]⟩]
  simp only [PyData.eqv, int_beq]
  try simp
theorem eq_int (i j : Int) : eqD (.int i) (.int j) = some (.bool (decide (i = j))) := by
  unfold eqD
  rw [if_pos ⟨by simp [SeqAt.shaped, PyData.canLay0, PyData.depth], by simp [SeqAt.shaped, PyData.canLay0, PyData.depth]⟩]
  simp only [PyData.eqv, int_beq]
  try simp
theorem ix_0 (x : D) (r : List D) : ixD (.tuple (x :: r)) (.int 0) = some x := L2.atI_nat (j := 0) rfl
theorem ix_1 (x y : D) (r : List D) : ixD (.tuple (x :: y :: r)) (.int 1) = some y := L2.atI_nat (j := 1) rfl
theorem ok_ws_is_pair : ∀ as Q, sp_is_pair as Q → ws_is_pair (env0 3 as) (endsOf Q) := by
  rintro as Q ⟨k, i, j, rfl, q⟩
  have lc : ∀ P : Dv → Prop, P (.nw (.list [.bool (isWhole (.int i) 0 (some (k - 1))), .bool (isWhole (.int j) 0 (some (k - 1)))])) → wLcL (gN 2) wYes (wCall sp_is_whole (wCons (wName 2) (wCons (wC (.fz (.int 0))) (wCons (w2 subD (wName 0) (wC (.fz (.int 1)))) wNil)))) (wipeE [.fz (.int k), .fz (.tuple [.int i, .int j]), .no] [2]) P [.int i, .int j] [] := fun P p => by
    refine lc_all (fun d => .bool (isWhole d 0 (some (k - 1)))) _ (fun d hd => ⟨_, rfl, fun R r => ?_⟩) (by show 2 ≤ sizeLine; decide) p
    simp [env0, wSeq, wIfS, DL.wOr, DL.wNot, DL.wAnd, wTest, wIsi, wName, wC, w2, k2, kE, wRet, wRetN, wNext, wNever, wOrV, wAndV, wNotV, wIf, wB, wCons, wNil, wIx, wSet, store, wTup, wLst, wDrop, wCall, wCallD, wCallK, wApp, wAppF, wPop, wPut, wPar2, wSl, wPart, wNoPart, wAsgT, wAug, wSrc, wRng, wZip, wEnum, wLc, wLc2, wForI, gN, gTup', gCons', gNil', wYes, wBreak, wCont, wLrng, wChain, w1, wLenS, val_fz, val_nw, val_ow, val_bw, kept_fz, kept_nl, ag_fz, ag_nl, ag_ow, ag_bw, ag_raw, ret_fz, ret_nw, ret_ow, dv_fz, dv_own, dv_bw, dv_raw, sl_fz, sl_bw, sl_raw, mk_none, mk_bool, mk_int, mk_str, mk_tuple, mk_list, seq_list, seq_tuple, valL, keptL, wipeE, endsOf, pairD, rng1, rng2, zipD, enumA, DL.isInt, DL.isBool, DL.isTuple, DL.isList, DL.isStr, ltD, isD, isNotD, DL.isNone, leD, gtD, geD, cmpI, addD, subD, lenD, allD, anyD, onBools, tupleD, listD, intD, powD, minD, maxD, negD]
    exact ⟨d, 0, some (k - 1), rfl, r⟩
  have e : (isWhole (.int i) 0 (some (k - 1)) && isWhole (.int j) 0 (some (k - 1)) && decide (i ≠ j)) = isPair k i j := by
    simp only [isWhole, isPair]
    rw [Bool.eq_iff_iff]
    simp
    omega
  simp [ws_is_pair, env0, wSeq, wIfS, DL.wOr, DL.wNot, DL.wAnd, wTest, wIsi, wName, wC, w2, k2, kE, wRet, wRetN, wNext, wNever, wOrV, wAndV, wNotV, wIf, wB, wCons, wNil, wIx, wSet, store, wTup, wLst, wDrop, wCall, wCallD, wCallK, wApp, wAppF, wPop, wPut, wPar2, wSl, wPart, wNoPart, wAsgT, wAug, wSrc, wRng, wZip, wEnum, wLc, wLc2, wForI, gN, gTup', gCons', gNil', wYes, wBreak, wCont, wLrng, wChain, w1, wLenS, val_fz, val_nw, val_ow, val_bw, kept_fz, kept_nl, ag_fz, ag_nl, ag_ow, ag_bw, ag_raw, ret_fz, ret_nw, ret_ow, dv_fz, dv_own, dv_bw, dv_raw, sl_fz, sl_bw, sl_raw, mk_none, mk_bool, mk_int, mk_str, mk_tuple, mk_list, seq_list, seq_tuple, valL, keptL, wipeE, endsOf, pairD, rng1, rng2, zipD, enumA, DL.isInt, DL.isBool, DL.isTuple, DL.isList, DL.isStr, ltD, isD, isNotD, DL.isNone, leD, gtD, geD, cmpI, addD, subD, lenD, allD, anyD, onBools, tupleD, listD, intD, powD, minD, maxD, negD, ne_int, ix_0, ix_1]
  refine lc _ ?_
  cases h1 : isWhole (.int i) 0 (some (k - 1)) <;> cases h2 : isWhole (.int j) 0 (some (k - 1)) <;> simp [env0, wSeq, wIfS, DL.wOr, DL.wNot, DL.wAnd, wTest, wIsi, wName, wC, w2, k2, kE, wRet, wRetN, wNext, wNever, wOrV, wAndV, wNotV, wIf, wB, wCons, wNil, wIx, wSet, store, wTup, wLst, wDrop, wCall, wCallD, wCallK, wApp, wAppF, wPop, wPut, wPar2, wSl, wPart, wNoPart, wAsgT, wAug, wSrc, wRng, wZip, wEnum, wLc, wLc2, wForI, gN, gTup', gCons', gNil', wYes, wBreak, wCont, wLrng, wChain, w1, wLenS, val_fz, val_nw, val_ow, val_bw, kept_fz, kept_nl, ag_fz, ag_nl, ag_ow, ag_bw, ag_raw, ret_fz, ret_nw, ret_ow, dv_fz, dv_own, dv_bw, dv_raw, sl_fz, sl_bw, sl_raw, mk_none, mk_bool, mk_int, mk_str, mk_tuple, mk_list, seq_list, seq_tuple, valL, keptL, wipeE, endsOf, pairD, rng1, rng2, zipD, enumA, DL.isInt, DL.isBool, DL.isTuple, DL.isList, DL.isStr, ltD, isD, isNotD, DL.isNone, leD, gtD, geD, cmpI, addD, subD, lenD, allD, anyD, onBools, tupleD, listD, intD, powD, minD, maxD, negD, boolsOf] <;> simpa [← e, h1, h2] using q
theorem lc_encF {α : Type} {gd : GD} {wt : WT} {we : WE} {env : Ev} {P : Dv → Prop} (e g : α → D) (b : α → Bool) : ∀ (ps : List α) (acc : List D), (∀ p ∈ ps, ∃ env', gd (e p) env = some env' ∧ (∀ R : Bool → Prop, R (b p) → wt env' R) ∧ (b p = true → ∀ R : Dv → Prop, R (.fz (g p)) → we env' R)) → acc.length + ps.length ≤ sizeLine → P (.nw (.list (acc ++ (ps.filter b).map g))) → wLcL gd wt we env P (ps.map e) acc
  | [], acc, _, _, p => by simpa [wLcL] using p
  | d :: r, acc, h, hl, p => by
    obtain ⟨env', h1, h2, h3⟩ := h d (List.mem_cons_self ..)
    refine ⟨env', h1, h2 _ ?_⟩
    rw [List.length_cons] at hl
    by_cases hb : b d = true
    · rw [if_pos hb]
      refine h3 hb _ ⟨g d, rfl, by omega, lc_encF e g b r _ (fun e he => h e (List.mem_cons_of_mem _ he)) (by rw [List.length_append, List.length_singleton]; omega) ?_⟩
      rw [List.filter_cons_of_pos hb, List.map_cons] at p
      rw [List.append_assoc]; exact p
    · rw [if_neg hb]
      refine lc_encF e g b r _ (fun e he => h e (List.mem_cons_of_mem _ he)) (by omega) ?_
      rw [List.filter_cons_of_neg hb] at p
      exact p
theorem lc_enc {α : Type} {gd : GD} {we : WE} {env : Ev} {P : Dv → Prop} (e g : α → D) (ps : List α) (h : ∀ p ∈ ps, ∃ env', gd (e p) env = some env' ∧ ∀ R : Dv → Prop, R (.fz (g p)) → we env' R) (hl : ps.length ≤ sizeLine) (p : P (.nw (.list (ps.map g)))) : wLcL gd wYes we env P (ps.map e) [] := by
  refine lc_encF e g (fun _ => true) ps [] (fun d hd => ?_) (by simpa using hl) (by rw [List.filter_eq_self.mpr (fun _ _ => rfl)]; exact p)
  obtain ⟨env', h1, h2⟩ := h d hd
  exact ⟨env', h1, fun R r => r, fun _ R r => h2 R r⟩
theorem boolsOf_enc {α : Type} (g : α → Bool) (ps : List α) : boolsOf (ps.map fun d => .bool (g d)) = some (ps.map g) := by
  induction ps with
  | nil => rfl
  | cons d r ih => simp [boolsOf, ih]
theorem all_enc {α : Type} (g : α → Bool) (ps : List α) : (onBools fun bs => bs.all id) [.list (ps.map fun d => .bool (g d))] = some (.bool (ps.all g)) := by
  simp [onBools, boolsOf_enc, List.all_map]
theorem any_enc {α : Type} (g : α → Bool) (ps : List α) : (onBools fun bs => bs.any id) [.list (ps.map fun d => .bool (g d))] = some (.bool (ps.any g)) := by
  simp [onBools, boolsOf_enc, List.any_map]
/-! ### are_ascending -/
abbrev Pr := Int × Int
def prD (p : Pr) : D := .tuple [.int p.1, .int p.2]
def prsD (ps : List Pr) : D := .tuple (ps.map prD)
def ltP (p q : Pr) : Bool := decide (p.1 < q.1) || (decide (p.1 = q.1) && decide (p.2 < q.2))
def asc : List Pr → Bool
  | p :: q :: r => ltP p q && asc (q :: r)
  | _ => true
theorem ltD_pr (p q : Pr) : ltD (prD p) (prD q) = some (.bool (ltP p q)) := by
  simp only [prD, ltD, intsOf, Option.map_some]
  congr 2
  simp only [ltP, HT.lexLt]
  by_cases h1 : p.1 < q.1
  · have h2 : ¬ p.1 = q.1 := by omega
    simp [h1, h2]
  · by_cases h2 : p.1 = q.1
    · by_cases h3 : p.2 < q.2
      · have h4 : ¬ p.2 = q.2 := by omega
        simp [h2, h3, h4]
      · simp [h2, h3]
    · simp [h1, h2]
theorem cutD_1 (ds : List D) : cutD ds (some 1) none = ds.drop 1 := by
  unfold cutD
  have e1 : HT.sIx ds.length 0 (some 1) = min 1 ds.length := by unfold HT.sIx; simp
  have e2 : HT.sIx ds.length ds.length none = ds.length := rfl
  rw [e1, e2]
  cases ds with
  | nil => rfl
  | cons n r => simp [List.take_of_length_le]
theorem zip_pr (ps : List Pr) : List.zipWith pairD (ps.map prD) ((ps.map prD).drop 1) = (ps.zip (ps.drop 1)).map fun p => pairD (prD p.1) (prD p.2) := by
  rw [← List.map_drop, List.zipWith_map, List.zip, List.map_zipWith]
theorem asc_zip : ∀ ps : List Pr, (ps.zip (ps.drop 1)).all (fun p => ltP p.1 p.2) = asc ps
  | [] => rfl
  | [p] => rfl
  | p :: q :: r => by
    have ih := asc_zip (q :: r)
    simp only [List.drop_succ_cons, List.drop_zero, List.zip_cons_cons, List.all_cons, asc] at ih ⊢
    rw [ih]
def sp_are_ascending : DL.Spec := fun as Q => ∃ ps : List Pr, as = [.fz (prsD ps)] ∧ ps.length ≤ sizeLine ∧ Q (.bool (asc ps))
theorem len_are_ascending : ∀ as Q, sp_are_ascending as Q → as.length = 1 := by rintro as Q ⟨ps, rfl, _⟩; rfl
def ws_are_ascending : WS := (wRet (wB allD (wCons (wLc (wZip (wCons (wName 0) (wCons (wSl (wName 0) (wPart (wC (.fz (.int 1)))) wNoPart) wNil))) (gTup' 2 (gCons' (gN 1) (gCons' (gN 2) gNil'))) wYes (w2 ltD (wName 1) (wName 2)) [1, 2]) wNil)))
theorem ok_ws_are_ascending : ∀ as Q, sp_are_ascending as Q → ws_are_ascending (env0 3 as) (endsOf Q) := by
  rintro as Q ⟨ps, rfl, hl, q⟩
  have lc : ∀ P : Dv → Prop, P (.nw (.list ((ps.zip (ps.drop 1)).map fun p => .bool (ltP p.1 p.2)))) → wLcL (gTup' 2 (gCons' (gN 1) (gCons' (gN 2) gNil'))) wYes (w2 ltD (wName 1) (wName 2)) (wipeE [.fz (prsD ps), .no, .no] [1, 2]) P ((ps.zip (ps.drop 1)).map fun p => pairD (prD p.1) (prD p.2)) [] := fun P p => by
    refine lc_enc _ (fun p => .bool (ltP p.1 p.2)) _ (fun d hd => ⟨_, rfl, fun R r => ?_⟩) (by rw [List.length_zip]; omega) p
    simp [env0, wSeq, wIfS, DL.wOr, DL.wNot, DL.wAnd, wTest, wIsi, wName, wC, w2, k2, kE, wRet, wRetN, wNext, wNever, wOrV, wAndV, wNotV, wIf, wB, wCons, wNil, wIx, wSet, store, wTup, wLst, wDrop, wCall, wCallD, wCallK, wApp, wAppF, wPop, wPut, wPar2, wSl, wPart, wNoPart, wAsgT, wAug, wSrc, wRng, wZip, wEnum, wLc, wLc2, wForI, gN, gTup', gCons', gNil', wYes, wBreak, wCont, wLrng, wChain, w1, wLenS, val_fz, val_nw, val_ow, val_bw, kept_fz, kept_nl, ag_fz, ag_nl, ag_ow, ag_bw, ag_raw, ret_fz, ret_nw, ret_ow, dv_fz, dv_own, dv_bw, dv_raw, sl_fz, sl_bw, sl_raw, mk_none, mk_bool, mk_int, mk_str, mk_tuple, mk_list, seq_list, seq_tuple, valL, keptL, wipeE, endsOf, pairD, ltD_pr]
    exact r
  refine ⟨_, rfl, _, rfl, 1, rfl, .tuple ((ps.map prD).drop 1), by rw [← cutD_1]; rfl, _, rfl, ?_⟩
  rw [zip_pr]
  refine lc _ ⟨.bool (asc ps), ?_, .bool (asc ps), rfl, q⟩
  rw [← asc_zip]
  exact all_enc (fun p : Pr × Pr => ltP p.1 p.2) _
end PF
namespace PF
open PySem DL
/-! ### above_of: who is reached -/
inductive Rch (ps : List Pr) : Int → Int → Prop
  | one {a b : Int} : (a, b) ∈ ps → Rch ps a b
  | more {a b c : Int} : Rch ps a b → (b, c) ∈ ps → Rch ps a c
def esD (ks : List Int) : List (D × D) := ks.map fun j => (.int j, .bool true)
theorem eqv_int (i j : Int) : PyData.eqv (.int i) (.int j) = decide (i = j) := by simp only [PyData.eqv, int_beq]
theorem dlook_esD (ks : List Int) (j : Int) : dlook (esD ks) (.int j) = if j ∈ ks then some (.bool true) else none := by
  unfold dlook esD
  induction ks with
  | nil => rfl
  | cons k r ih =>
    rw [List.map_cons, List.find?_cons]
    simp only [eqv_int]
    by_cases h : k = j
    · simp [h]
    · have h' : ¬ j = k := fun z => h z.symm
      simp only [h, decide_false, List.mem_cons, h', false_or]
      exact ih
theorem dfind_esD (ks : List Int) (j : Int) : dfind (esD ks) (.int j) = some (if j ∈ ks then some (.bool true) else none) := by
  show (if ((esD ks).all fun p => !isT p.1) = true then some (dlook (esD ks) (.int j)) else none) = _
  rw [if_pos, dlook_esD]
  simp [esD, isT]
theorem dput_esD {ks : List Int} {j : Int} (h : j ∉ ks) : dput (esD ks) (.int j) (.bool true) = esD (ks ++ [j]) := by
  unfold dput
  rw [if_neg]
  · simp [esD]
  · simp only [esD, List.any_map, List.any_eq_true, not_exists, not_and, Function.comp, eqv_int, decide_eq_true_eq]
    intro x hx z
    exact h (z ▸ hx)
theorem notIn_esD (ks : List Int) (j : Int) : notInV (.int j) (.dict (esD ks)) = some (.bool (decide (j ∉ ks))) := by
  show ((dfind (esD ks) (.int j)).map Option.isSome).map (fun k => PyData.bool (!k)) = _
  rw [dfind_esD]
  by_cases h : j ∈ ks <;> simp [h]
theorem in_esD (ks : List Int) (j : Int) : inV' (.int j) (.dict (esD ks)) = some (.bool (decide (j ∈ ks))) := by
  show ((dfind (esD ks) (.int j)).map Option.isSome).map (fun k => PyData.bool k) = _
  rw [dfind_esD]
  by_cases h : j ∈ ks <;> simp [h]
/-- one look over the pairs -/
def scan (here : Int) : List Pr → List Int → List Int → List Int × List Int
  | [], ks, W => (ks, W)
  | p :: r, ks, W => if p.1 = here ∧ p.2 ∉ ks then scan here r (ks ++ [p.2]) (W ++ [p.2]) else scan here r ks W
def wa_if : WS := (wIfS (wAnd (wTest (w2 eqD (wName 6) (wName 5))) (wTest (w2 notInV (wName 7) (wName 3)))) (wSeq (wPut 3 (wName 7) (wC (.fz (.bool true))))
    (wApp 4 (wName 7))) wNext)
def wa_body : WS := (wSeq (wPop 5 4) (wForI (wSrc (wIx (wName 0) (wC (.fz (.int 1))))) (gTup' 2 (gCons' (gN 6) (gCons' (gN 7) gNil'))) wa_if))
theorem scan_for {o : D} {f k : Sl} {here : Int} {De : DEnds} : ∀ (ps : List Pr) (ks W : List Int) (x y : Sl), ks.length + ps.length < 5000 → W.length + ps.length < 5000 →
    (∀ x' y', De.nx [.fz o, f, k, .own (.dict (esD (scan here ps ks W).1)), .own (.list ((scan here ps ks W).2.map .int)), .fz (.int here), x', y']) →
    wFor (gTup' 2 (gCons' (gN 6) (gCons' (gN 7) gNil'))) wa_if (ps.map prD) [.fz o, f, k, .own (.dict (esD ks)), .own (.list (W.map .int)), .fz (.int here), x, y] De
  | [], ks, W, x, y, _, _, hn => hn x y
  | p :: r, ks, W, x, y, h1, h2, hn => by
    rw [List.length_cons] at h1 h2
    refine ⟨_, rfl, ?_⟩
    by_cases he : p.1 = here
    · by_cases hm : p.2 ∈ ks
      · have hn' := hn; simp only [scan, hm, not_true_eq_false, and_false, if_false] at hn'
        have ih := scan_for r ks W (.fz (.int p.1)) (.fz (.int p.2)) (by omega) (by omega) hn'
        simpa [wa_if, env0, wSeq, wIfS, DL.wOr, DL.wNot, DL.wAnd, wTest, wIsi, wName, wC, w2, k2, kE, wRet, wRetN, wNext, wNever, wOrV, wAndV, wNotV, wIf, wB, wCons, wNil, wIx, wSet, store, wTup, wLst, wDrop, wCall, wCallD, wCallK, wApp, wAppF, wPop, wPut, wPar2, wSl, wPart, wNoPart, wAsgT, wAug, wSrc, wRng, wZip, wEnum, wLc, wLc2, wForI, gN, gTup', gCons', gNil', wYes, wBreak, wCont, wLrng, wChain, w1, wLenS, val_fz, val_nw, val_ow, val_bw, kept_fz, kept_nl, ag_fz, ag_nl, ag_ow, ag_bw, ag_raw, ret_fz, ret_nw, ret_ow, dv_fz, dv_own, dv_bw, dv_raw, sl_fz, sl_bw, sl_raw, mk_none, mk_bool, mk_int, mk_str, mk_tuple, mk_list, seq_list, seq_tuple, valL, keptL, wipeE, endsOf, pairD, eq_int, notIn_esD, he, hm] using ih
      · have hn' := hn; simp only [scan, he, hm, not_false_eq_true, and_self, if_true] at hn'
        have ih := scan_for r (ks ++ [p.2]) (W ++ [p.2]) (.fz (.int p.1)) (.fz (.int p.2)) (by simp; omega) (by simp; omega) hn'
        have l1 : (esD ks).length < sizeLine := by rw [sizeLine_eq]; simp [esD]; omega
        have l2 : W.length < sizeLine := by rw [sizeLine_eq]; omega
        simpa [wa_if, env0, wSeq, wIfS, DL.wOr, DL.wNot, DL.wAnd, wTest, wIsi, wName, wC, w2, k2, kE, wRet, wRetN, wNext, wNever, wOrV, wAndV, wNotV, wIf, wB, wCons, wNil, wIx, wSet, store, wTup, wLst, wDrop, wCall, wCallD, wCallK, wApp, wAppF, wPop, wPut, wPar2, wSl, wPart, wNoPart, wAsgT, wAug, wSrc, wRng, wZip, wEnum, wLc, wLc2, wForI, gN, gTup', gCons', gNil', wYes, wBreak, wCont, wLrng, wChain, w1, wLenS, val_fz, val_nw, val_ow, val_bw, kept_fz, kept_nl, ag_fz, ag_nl, ag_ow, ag_bw, ag_raw, ret_fz, ret_nw, ret_ow, dv_fz, dv_own, dv_bw, dv_raw, sl_fz, sl_bw, sl_raw, mk_none, mk_bool, mk_int, mk_str, mk_tuple, mk_list, seq_list, seq_tuple, valL, keptL, wipeE, endsOf, pairD, eq_int, notIn_esD, he, hm, putOk, dfind_esD, dput_esD hm, l1, l2] using ih
    · have hn' := hn; simp only [scan, he, false_and, if_false] at hn'
      have ih := scan_for r ks W (.fz (.int p.1)) (.fz (.int p.2)) (by omega) (by omega) hn'
      simpa [wa_if, env0, wSeq, wIfS, DL.wOr, DL.wNot, DL.wAnd, wTest, wIsi, wName, wC, w2, k2, kE, wRet, wRetN, wNext, wNever, wOrV, wAndV, wNotV, wIf, wB, wCons, wNil, wIx, wSet, store, wTup, wLst, wDrop, wCall, wCallD, wCallK, wApp, wAppF, wPop, wPut, wPar2, wSl, wPart, wNoPart, wAsgT, wAug, wSrc, wRng, wZip, wEnum, wLc, wLc2, wForI, gN, gTup', gCons', gNil', wYes, wBreak, wCont, wLrng, wChain, w1, wLenS, val_fz, val_nw, val_ow, val_bw, kept_fz, kept_nl, ag_fz, ag_nl, ag_ow, ag_bw, ag_raw, ret_fz, ret_nw, ret_ow, dv_fz, dv_own, dv_bw, dv_raw, sl_fz, sl_bw, sl_raw, mk_none, mk_bool, mk_int, mk_str, mk_tuple, mk_list, seq_list, seq_tuple, valL, keptL, wipeE, endsOf, pairD, eq_int, notIn_esD, he] using ih
theorem scan_new (here : Int) : ∀ (ps : List Pr) (ks W : List Int), ks.Nodup → ∃ new, scan here ps ks W = (ks ++ new, W ++ new) ∧ (∀ x ∈ new, (here, x) ∈ ps) ∧ (∀ p ∈ ps, p.1 = here → p.2 ∈ ks ++ new) ∧ (ks ++ new).Nodup
  | [], ks, W, h => ⟨[], by simp [scan], fun _ z => (nomatch z), fun _ z => (nomatch z), by simpa using h⟩
  | p :: r, ks, W, h => by
    by_cases c : p.1 = here ∧ p.2 ∉ ks
    · have h' : (ks ++ [p.2]).Nodup := by
        rw [List.nodup_append]
        refine ⟨h, by simp, fun a ha b hb z => ?_⟩
        have e : b = p.2 := by simpa using hb
        exact c.2 (by rw [← e, ← z]; exact ha)
      obtain ⟨new, e1, e2, e3, e4⟩ := scan_new here r (ks ++ [p.2]) (W ++ [p.2]) h'
      refine ⟨p.2 :: new, ?_, fun x hx => ?_, fun q hq e => ?_, by simpa using e4⟩
      · simp only [scan, c, not_false_eq_true, and_self, if_true]
        rw [e1]; simp
      · rcases List.mem_cons.mp hx with rfl | hx
        · rw [← c.1]; exact List.mem_cons_self ..
        · exact List.mem_cons_of_mem _ (e2 x hx)
      · rcases List.mem_cons.mp hq with rfl | hq
        · simp
        · simpa using e3 q hq e
    · obtain ⟨new, e1, e2, e3, e4⟩ := scan_new here r ks W h
      refine ⟨new, by simp only [scan, c, if_false]; exact e1, fun x hx => List.mem_cons_of_mem _ (e2 x hx), fun q hq e => ?_, e4⟩
      rcases List.mem_cons.mp hq with rfl | hq
      · have hm : q.2 ∈ ks := Classical.byContradiction fun z => c ⟨e, z⟩
        exact List.mem_append_left _ hm
      · exact e3 q hq e
theorem nodup_len : ∀ (l m : List Int), l.Nodup → (∀ x ∈ l, x ∈ m) → l.length ≤ m.length
  | [], m, _, _ => Nat.zero_le _
  | x :: l, m, h, s => by
    rw [List.nodup_cons] at h
    have hx := s x (List.mem_cons_self ..)
    have ih := nodup_len l (m.erase x) h.2 fun y hy => by
      have ne : y ≠ x := fun z => h.1 (z ▸ hy)
      exact (List.mem_erase_of_ne ne).mpr (s y (List.mem_cons_of_mem _ hy))
    have hl := List.length_erase_of_mem hx
    have hp : 0 < m.length := List.length_pos_of_mem hx
    rw [List.length_cons]; omega
structure AInv (ps : List Pr) (k : Int) (ks W : List Int) : Prop where
  nd : ks.Nodup
  rch : ∀ x ∈ ks, Rch ps k x
  wt : ∀ x ∈ W, x = k ∨ x ∈ ks
  cl : ∀ x, (x = k ∨ x ∈ ks) → x ∉ W → ∀ y, (x, y) ∈ ps → y ∈ ks
theorem AInv.len {ps : List Pr} {k : Int} {ks W : List Int} (h : AInv ps k ks W) : ks.length ≤ ps.length := by
  have := nodup_len ks (ps.map (·.2)) h.nd fun x hx => by
    cases h.rch x hx with
    | one e => exact List.mem_map.mpr ⟨_, e, rfl⟩
    | more _ e => exact List.mem_map.mpr ⟨_, e, rfl⟩
  simpa using this
theorem AInv.all {ps : List Pr} {k : Int} {ks : List Int} (h : AInv ps k ks []) {j : Int} : j ∈ ks ↔ Rch ps k j := by
  refine ⟨h.rch j, fun r => ?_⟩
  induction r with
  | one e => exact h.cl k (.inl rfl) (fun z => nomatch z) _ e
  | more _ e ih => exact h.cl _ (.inr (ih)) (fun z => nomatch z) _ e
theorem ne_ints (W : List Int) : neD (.list (W.map .int)) (.list []) = some (.bool (decide (W ≠ []))) := by
  have h1 := ints_shaped W
  have h2 := ints_eqv W
  unfold intL at h1 h2
  unfold neD
  rw [if_pos ⟨h1, by decide⟩, h2, decide_not]
theorem wh_ok {o : D} {f kd : Sl} {De : DEnds} {ps : List Pr} (ho : ixD o (.int 1) = some (prsD ps)) (hz : ps.length < 1000) (k : Int)
    (fin : ∀ ks h x y, (∀ j, j ∈ ks ↔ Rch ps k j) → ks.length ≤ ps.length → De.nx [.fz o, f, kd, .own (.dict (esD ks)), .own (.list []), h, x, y]) : ∀ (m : Nat) (ks W : List Int) (h x y : Sl), AInv ps k ks W → W.length ≤ 1 + ks.length → W.length + (ps.length - ks.length) = m →
    wWh (wTest (w2 neD (wName 4) (wLst wNil))) wa_body (m + 1) [.fz o, f, kd, .own (.dict (esD ks)), .own (.list (W.map .int)), h, x, y] De
  | m, ks, W, h, x, y, I, hw, e => by
    have t : ∀ P : Bool → Prop, P (decide (W ≠ [])) → wTest (w2 neD (wName 4) (wLst wNil)) [.fz o, f, kd, .own (.dict (esD ks)), .own (.list (W.map .int)), h, x, y] P := fun P p => ⟨_, rfl, [], rfl, Nat.zero_le _, _, ne_ints W, _, rfl, p⟩
    refine t _ ?_
    by_cases hW : W = []
    · subst hW
      rw [if_neg (by simp)]
      exact fin ks h x y (fun j => I.all) I.len
    · rw [if_pos (by simpa using hW)]
      obtain ⟨W0, here, rfl⟩ : ∃ W0 here, W = W0 ++ [here] := ⟨W.dropLast, W.getLast hW, (List.dropLast_concat_getLast hW).symm⟩
      have kl := I.len
      rw [List.length_append, List.length_singleton] at hw e
      obtain ⟨new, e1, e2, e3, e4⟩ := scan_new here ps ks W0 I.nd
      refine ⟨W0.map .int, .int here, by simp, _, rfl, prsD ps, ho, ps.map prD, rfl, ?_⟩
      have hr : ∀ x ∈ new, Rch ps k x := fun x hx => by
        rcases I.wt here (by simp) with q | q
        · rw [q] at e2; exact .one (e2 x hx)
        · exact .more (I.rch here q) (e2 x hx)
      have I' : AInv ps k (ks ++ new) (W0 ++ new) := by
        refine ⟨e4, fun x hx => (List.mem_append.mp hx).elim (I.rch x) (hr x), fun x hx => ?_, fun x hx hn y hy => ?_⟩
        · rcases List.mem_append.mp hx with q | q
          · exact (I.wt x (by simp [q])).imp id fun z => List.mem_append_left _ z
          · exact .inr (List.mem_append_right _ q)
        · by_cases hh : x = here
          · exact e3 (x, y) hy hh
          · have nW : x ∉ W0 ++ [here] := fun z => (List.mem_append.mp z).elim (fun q => hn (List.mem_append_left _ q)) fun q => hh (by simpa using q)
            have hx' : x = k ∨ x ∈ ks := hx.imp id fun z => (List.mem_append.mp z).resolve_right fun q => hn (List.mem_append_right _ q)
            exact List.mem_append_left _ (I.cl x hx' nW y hy)
      have kl' := I'.len
      rw [List.length_append] at kl'
      refine scan_for ps ks W0 x y (by omega) (by omega) fun x' y' => ?_
      rw [e1]
      cases m with
      | zero => omega
      | succ m => exact wh_ok ho hz k fin m (ks ++ new) (W0 ++ new) _ x' y' I' (by rw [List.length_append, List.length_append]; omega) (by rw [List.length_append, List.length_append]; omega)
termination_by m => m
/-! .. for all kinds -/
def ordD (n : Int) (ps : List Pr) : D := .tuple [.int n, prsD ps]
/-- what above_of gives: one dict for each kind -/
def IsAb (ps : List Pr) (n : Nat) (kss : List (List Int)) : Prop := kss.length = n ∧ ∀ (k : Nat) (ks : List Int), kss[k]? = some ks → ∀ j, j ∈ ks ↔ Rch ps k j
def abD (kss : List (List Int)) : D := .list (kss.map fun ks => .dict (esD ks))
def sp_above_of : DL.Spec := fun as Q => ∃ (n : Nat) (ps : List Pr), as = [.fz (ordD n ps)] ∧ n ≤ 1000 ∧ ps.length < 1000 ∧ ∀ kss, IsAb ps n kss → Q (abD kss)
theorem len_above_of : ∀ as Q, sp_above_of as Q → as.length = 1 := by rintro as Q ⟨n, ps, rfl, _⟩; rfl
def ws_above_of : WS := (wSeq (wSet .own 1 (wLst wNil))
    (wSeq (wForI (wRng rng1 (wCons (wIx (wName 0) (wC (.fz (.int 0)))) wNil)) (gN 2) (wSeq (wPar2 .own 3 .own 4 (wC (.nw (.dict []))) (wLst (wCons (wName 2) wNil)))
    (wSeq (wWhile (wTest (w2 neD (wName 4) (wLst wNil))) (wSeq (wPop 5 4)
    (wForI (wSrc (wIx (wName 0) (wC (.fz (.int 1))))) (gTup' 2 (gCons' (gN 6) (gCons' (gN 7) gNil'))) (wIfS (wAnd (wTest (w2 eqD (wName 6) (wName 5))) (wTest (w2 notInV (wName 7) (wName 3)))) (wSeq (wPut 3 (wName 7) (wC (.fz (.bool true))))
    (wApp 4 (wName 7))) wNext))))
    (wAppF 1 3))))
    (wRet (wName 1))))
def wa_kind : WS := (wSeq (wPar2 .own 3 .own 4 (wC (.nw (.dict []))) (wLst (wCons (wName 2) wNil)))
    (wSeq (wWhile (wTest (w2 neD (wName 4) (wLst wNil))) wa_body)
    (wAppF 1 3)))
theorem kinds_for {ps : List Pr} {n : Nat} {De : DEnds} (hz : ps.length < 1000) (hn : n ≤ 1000) (fin : ∀ kss s2 s3 s4 s5 s6 s7, IsAb ps n kss → De.nx [.fz (ordD n ps), .own (abD kss), s2, s3, s4, s5, s6, s7]) :
    ∀ (r k : Nat) (kss : List (List Int)) (s2 s3 s4 s5 s6 s7 : Sl), k + r = n → IsAb ps k kss → wFor (gN 2) wa_kind ((List.range' k r).map fun i => .int (i : Nat)) [.fz (ordD n ps), .own (abD kss), s2, s3, s4, s5, s6, s7] De
  | 0, k, kss, s2, s3, s4, s5, s6, s7, e, h => by
    have e' : k = n := by omega
    subst e'
    exact fin kss s2 s3 s4 s5 s6 s7 h
  | r + 1, k, kss, s2, s3, s4, s5, s6, s7, e, h => by
    rw [List.range'_succ, List.map_cons]
    refine ⟨_, rfl, _, rfl, [.int (k : Nat)], rfl, (show 1 ≤ sizeLine by decide), _, rfl, _, rfl, 1 + ps.length + 1, ?_⟩
    have I0 : AInv ps k [] [(k : Int)] := ⟨List.nodup_nil, fun _ z => (nomatch z), fun x hx => .inl (by simpa using hx), fun x hx hn => absurd (hx.elim (fun q => by simp [q]) fun q => nomatch q) hn⟩
    refine wh_ok (ps := ps) rfl hz k (fun ks h' x' y' hk hl => ?_) (1 + ps.length) [] [(k : Int)] _ _ _ I0 (by simp) (by simp)
    refine ⟨kss.map (fun ks => .dict (esD ks)), .dict (esD ks), rfl, rfl, by decide, by rw [sizeLine_eq, List.length_map, h.1]; omega, ?_⟩
    have h2 : IsAb ps (k + 1) (kss ++ [ks]) := by
      refine ⟨by rw [List.length_append, h.1]; rfl, fun i js hi j => ?_⟩
      by_cases hlt : i < kss.length
      · rw [List.getElem?_append_left hlt] at hi; exact h.2 i js hi j
      · rw [List.getElem?_append_right (by omega)] at hi
        have hi0 : i - kss.length = 0 := by
          cases q : i - kss.length with
          | zero => rfl
          | succ m => rw [q] at hi; simp at hi
        rw [hi0] at hi
        cases hi
        have ei : i = k := by have := h.1; omega
        rw [ei]; exact hk j
    have ih := kinds_for hz hn fin r (k + 1) (kss ++ [ks]) (.fz (.int (k : Nat))) (.fz (.dict (esD ks))) (.own (.list [])) h' x' y' (by omega) h2
    have ea : abD (kss ++ [ks]) = .list (kss.map (fun ks => .dict (esD ks)) ++ [.dict (esD ks)]) := by simp [abD]
    rw [ea] at ih
    exact ih
theorem rangeD_nat (n : Nat) : rangeD 0 (n : Int).toNat = (List.range' 0 n).map fun i => .int (i : Nat) := by
  unfold rangeD
  rw [Int.toNat_natCast, List.range_eq_range']
  exact List.map_congr_left fun i _ => by simp
theorem rng1_nat {n : Nat} (h : n ≤ 1000) : rng1 [.int (n : Int)] = some ((List.range' 0 n).map fun i => .int (i : Nat)) := by
  simp only [rng1]
  rw [if_pos ⟨by omega, by omega⟩, rangeD_nat]
theorem rngV {n : Nat} (h : n ≤ 1000) : (valL [.fz (.int (n : Int))]).bind rng1 = some ((List.range' 0 n).map fun i => .int (i : Nat)) := by
  have e : valL [.fz (.int (n : Int))] = some [.int (n : Int)] := rfl
  rw [e, Option.bind_some, rng1_nat h]
theorem ok_ws_above_of : ∀ as Q, sp_above_of as Q → ws_above_of (env0 8 as) (endsOf Q) := by
  rintro as Q ⟨n, ps, rfl, hn, hz, q⟩
  refine ⟨[], rfl, Nat.zero_le _, _, rfl, _, rfl, .int n, rfl, _, rngV hn, ?_⟩
  refine kinds_for hz hn ?_ n 0 [] .no .no .no .no .no .no (by omega) ⟨rfl, fun k ks h => by simp at h⟩
  exact fun kss s2 s3 s4 s5 s6 s7 h => ⟨_, rfl, _, rfl, q kss h⟩
end PF
namespace PF
open PySem DL
/-! ### need_order of a true order -/
structure Ord (n : Nat) (ps : List Pr) : Prop where
  lo : 1 ≤ n
  hi : n ≤ 12
  pr : ∀ p ∈ ps, isPair n p.1 p.2 = true
  asc : asc ps = true
  no : ∀ k, ¬ Rch ps k k
  sm : ps.length < 1000
def sp_need_order : DL.Spec := fun as Q => ∃ (n : Nat) (ps : List Pr), as = [.fz (ordD n ps)] ∧ Ord n ps ∧ Q (ordD n ps)
theorem len_need_order : ∀ as Q, sp_need_order as Q → as.length = 1 := by rintro as Q ⟨n, ps, rfl, _⟩; rfl
def ws_need_order : WS := (wSeq (wIfS (wOr (wNot (wTest (wIsi DL.isTuple (wName 0)))) (wTest (w2 neD (wB lenD (wCons (wName 0) wNil)) (wC (.fz (.int 2)))))) wNever wNext)
    (wSeq (wIfS (wNot (wTest (wCall sp_is_whole (wCons (wIx (wName 0) (wC (.fz (.int 0)))) (wCons (wC (.fz (.int 1))) (wCons (wC (.fz (.int 12))) wNil)))))) wNever wNext)
    (wSeq (wIfS (wOr (wNot (wTest (wIsi DL.isTuple (wIx (wName 0) (wC (.fz (.int 1))))))) (wNot (wTest (wB allD (wCons (wLc (wSrc (wIx (wName 0) (wC (.fz (.int 1))))) (gN 1) wYes (wCall sp_is_pair (wCons (wIx (wName 0) (wC (.fz (.int 0)))) (wCons (wName 1) wNil))) [1]) wNil))))) wNever wNext)
    (wSeq (wIfS (wNot (wTest (wCall sp_are_ascending (wCons (wIx (wName 0) (wC (.fz (.int 1)))) wNil)))) wNever wNext)
    (wSeq (wIfS (wTest (wB anyD (wCons (wLc (wEnum (wCons (wCall sp_above_of (wCons (wName 0) wNil)) wNil)) (gTup' 2 (gCons' (gN 2) (gCons' (gN 3) gNil'))) wYes (w2 inV' (wName 2) (wName 3)) [2, 3]) wNil))) wNever wNext)
    (wRet (wName 0)))))))
theorem ix_o0 (n : Int) (ps : List Pr) : ixD (ordD n ps) (.int 0) = some (.int n) := ix_0 _ _
theorem ix_o1 (n : Int) (ps : List Pr) : ixD (ordD n ps) (.int 1) = some (prsD ps) := ix_1 _ _ _
theorem small_sz {n : Nat} (h : n < 1000) : n ≤ sizeLine := by rw [sizeLine_eq]; omega
theorem enumD_enc {α : Type} (e : α → D) : ∀ (i : Nat) (xs : List α), enumD i (xs.map e) = (xs.zipIdx i).map fun p => pairD (.int (p.2 : Nat)) (e p.1)
  | _, [] => rfl
  | i, x :: r => by rw [List.map_cons, enumD, List.zipIdx_cons, List.map_cons, enumD_enc e (i + 1) r]
theorem ifF {b : Bool} {A B : Prop} (h : b = false) (x : B) : if b = true then A else B := by subst h; rw [if_neg Bool.false_ne_true]; exact x
theorem ifT {b : Bool} {A B : Prop} (h : b = true) (x : A) : if b = true then A else B := by subst h; rw [if_pos rfl]; exact x
theorem zipIdx_get {α : Type} {xs : List α} {p : α × Nat} (h : p ∈ xs.zipIdx 0) : xs[p.2]? = some p.1 := by
  obtain ⟨h1, h2, h3⟩ := List.mem_zipIdx h
  rw [List.getElem?_eq_getElem (by omega), h3]
  simp
theorem ok_ws_need_order : ∀ as Q, sp_need_order as Q → ws_need_order (env0 4 as) (endsOf Q) := by
  rintro as Q ⟨n, ps, rfl, o, q⟩
  -- the form
  refine ⟨_, rfl, _, rfl, _, rfl, ?_⟩
  refine ⟨_, rfl, .int 2, rfl, _, ne_int 2 2, _, rfl, ?_⟩
  refine ifF (by decide) ?_
  -- the kinds
  refine ⟨_, rfl, .int n, ix_o0 _ _, .int n, 1, some 12, rfl, _, rfl, ?_⟩
  have hw : isWhole (.int n) 1 (some 12) = true := by have := o.lo; have := o.hi; simp [isWhole]; omega
  refine ifF (by rw [hw]; rfl) ?_
  -- the pairs
  refine ⟨_, rfl, prsD ps, ix_o1 _ _, _, rfl, _, rfl, ?_⟩
  refine ⟨_, rfl, prsD ps, ix_o1 _ _, ps.map prD, rfl, ?_⟩
  refine lc_enc prD (fun p => .bool (isPair n p.1 p.2)) ps (fun p hp => ⟨_, rfl, fun R r => ?_⟩) (small_sz o.sm) ?_
  · exact ⟨_, rfl, .int n, ix_o0 _ _, _, rfl, n, p.1, p.2, rfl, r⟩
  have ha : ps.all (fun p => isPair n p.1 p.2) = true := List.all_eq_true.mpr o.pr
  refine ⟨_, all_enc (fun p : Pr => isPair n p.1 p.2) ps, _, rfl, ?_⟩
  refine ifF (by rw [ha]; rfl) ?_
  -- ascending
  refine ⟨_, rfl, prsD ps, ix_o1 _ _, ps, rfl, small_sz o.sm, _, rfl, ?_⟩
  refine ifF (by rw [o.asc]; rfl) ?_
  -- no ring
  refine ⟨_, rfl, n, ps, rfl, by have := o.hi; omega, o.sm, fun kss hk => ?_⟩
  refine ⟨enumD 0 (kss.map fun ks => .dict (esD ks)), rfl, ?_⟩
  rw [enumD_enc]
  refine lc_enc _ (fun p => .bool (decide ((p.2 : Int) ∈ p.1))) _ (fun p hp => ⟨_, rfl, fun R r => ?_⟩) (by rw [List.length_zipIdx, hk.1]; have := o.hi; exact small_sz (by omega)) ?_
  · exact ⟨_, rfl, _, rfl, _, in_esD p.1 p.2, r⟩
  have hn : (kss.zipIdx 0).any (fun p => decide ((p.2 : Int) ∈ p.1)) = false := by
    rw [List.any_eq_false]
    intro p hp z
    have g := zipIdx_get hp
    exact o.no _ ((hk.2 p.2 p.1 g _).mp (by simpa using z))
  refine ⟨_, any_enc (fun p : List Int × Nat => decide ((p.2 : Int) ∈ p.1)) _, _, rfl, ?_⟩
  refine ifF hn ?_
  exact ⟨_, rfl, _, rfl, q⟩
end PF
namespace PF
open PySem DL
/-! ### need_kind, is_within -/
def sp_need_kind : DL.Spec := fun as Q => ∃ (n : Nat) (ps : List Pr) (k : Nat), as = [.fz (ordD n ps), .fz (.int (k : Nat))] ∧ Ord n ps ∧ k < n ∧ Q .none
theorem len_need_kind : ∀ as Q, sp_need_kind as Q → as.length = 2 := by rintro as Q ⟨n, ps, k, rfl, _⟩; rfl
def ws_need_kind : WS := (wIfS (wNot (wTest (wCall sp_is_whole (wCons (wName 1) (wCons (wC (.fz (.int 0))) (wCons (w2 subD (wIx (wCall sp_need_order (wCons (wName 0) wNil)) (wC (.fz (.int 0)))) (wC (.fz (.int 1)))) wNil)))))) wNever wNext)
theorem ok_ws_need_kind : ∀ as Q, sp_need_kind as Q → ws_need_kind (env0 2 as) (endsOf Q) := by
  rintro as Q ⟨n, ps, k, rfl, o, hk, q⟩
  refine ⟨_, rfl, _, rfl, n, ps, rfl, o, .int n, ix_o0 _ _, .int (n - 1), rfl, .int k, 0, some (n - 1), rfl, _, rfl, ?_⟩
  have hw : isWhole (.int k) 0 (some ((n : Int) - 1)) = true := by simp [isWhole]; omega
  exact ifF (by rw [hw]; rfl) q
def sp_is_within : DL.Spec := fun as Q => ∃ (n : Nat) (ps : List Pr) (i j : Nat), as = [.fz (ordD n ps), .fz (.int (i : Nat)), .fz (.int (j : Nat))] ∧ Ord n ps ∧ i < n ∧ j < n ∧ ∀ b : Bool, (b = true ↔ Rch ps i j) → Q (.bool b)
theorem len_is_within : ∀ as Q, sp_is_within as Q → as.length = 3 := by rintro as Q ⟨n, ps, i, j, rfl, _⟩; rfl
def ws_is_within : WS := (wSeq (wDrop (wCall sp_need_kind (wCons (wName 0) (wCons (wName 1) wNil))))
    (wSeq (wDrop (wCall sp_need_kind (wCons (wName 0) (wCons (wName 2) wNil))))
    (wRet (w2 inV' (wName 2) (wIx (wCall sp_above_of (wCons (wName 0) wNil)) (wName 1))))))
theorem ok_ws_is_within : ∀ as Q, sp_is_within as Q → ws_is_within (env0 3 as) (endsOf Q) := by
  rintro as Q ⟨n, ps, i, j, rfl, o, hi, hj, q⟩
  refine ⟨_, rfl, _, rfl, n, ps, i, rfl, o, hi, ?_⟩
  refine ⟨_, rfl, _, rfl, n, ps, j, rfl, o, hj, ?_⟩
  refine ⟨_, rfl, _, rfl, n, ps, rfl, by have := o.hi; omega, o.sm, fun kss hk => ?_⟩
  have hl : i < kss.length := by rw [hk.1]; exact hi
  have g : kss[i]? = some kss[i] := List.getElem?_eq_getElem hl
  refine ⟨_, rfl, .dict (esD kss[i]), ?_, .bool (decide ((j : Int) ∈ kss[i])), in_esD _ _, .bool (decide ((j : Int) ∈ kss[i])), rfl, q _ ?_⟩
  · exact L2.atI_nat (by rw [List.getElem?_map, g]; rfl)
  · rw [decide_eq_true_eq]; exact hk.2 i _ g _
/-! ### boxes -/
def boxD (xs : List Int) : D := .tuple (xs.map .int)
def okSide (x : Int) : Bool := decide (1 ≤ x) && decide (x ≤ 1000000)
def sp_is_box : DL.Spec := fun as Q => ∃ xs : List Int, as = [.fz (boxD xs)] ∧ 1 ≤ xs.length ∧ xs.length ≤ 3 ∧ Q (.bool (xs.all okSide))
theorem len_is_box : ∀ as Q, sp_is_box as Q → as.length = 1 := by rintro as Q ⟨xs, rfl, _⟩; rfl
def ws_is_box : WS := (wSeq (wIfS (wOr (wNot (wTest (wIsi DL.isTuple (wName 0)))) (wNot (wTest (wChain leD leD (wC (.fz (.int 1))) (wB lenD (wCons (wName 0) wNil)) (wC (.fz (.int 3))))))) (wRet (wC (.fz (.bool false)))) wNext)
    (wRet (wB allD (wCons (wLc (wSrc (wName 0)) (gN 1) wYes (wCall sp_is_whole (wCons (wName 1) (wCons (wC (.fz (.int 1))) (wCons (wC (.fz (.int 1000000))) wNil)))) [1]) wNil))))
theorem chain_ok {lo hi l : Int} {env : Ev} {P : Dv → Prop} (h1 : lo ≤ l) (h2 : l ≤ hi) {wb : WE} (hb : ∀ R : Dv → Prop, R (.fz (.int l)) → wb env R) (p : P (.fz (.bool true))) : wChain leD leD (wC (.fz (.int lo))) wb (wC (.fz (.int hi))) env P := by
  refine hb _ ⟨true, ?_, ?_⟩
  · show leD (.int lo) (.int l) = _
    simp [leD, cmpI, h1]
  · rw [if_pos rfl]
    refine ⟨.bool true, ?_, p⟩
    show leD (.int l) (.int hi) = _
    simp [leD, cmpI, h2]
theorem ok_ws_is_box : ∀ as Q, sp_is_box as Q → ws_is_box (env0 2 as) (endsOf Q) := by
  rintro as Q ⟨xs, rfl, h1, h3, q⟩
  refine ⟨_, rfl, _, rfl, _, rfl, ?_⟩
  refine chain_ok (l := xs.length) (by omega) (by omega) (fun R r => ⟨_, rfl, .int (xs.map PyData.int).length, rfl, by rw [List.length_map]; exact r⟩) ⟨_, rfl, ?_⟩
  refine ifF rfl ?_
  refine ⟨_, rfl, xs.map .int, rfl, ?_⟩
  refine lc_enc PyData.int (fun x => .bool (okSide x)) xs (fun x hx => ⟨_, rfl, fun R r => ?_⟩) (small_sz (by omega)) ?_
  · exact ⟨_, rfl, .int x, 1, some 1000000, rfl, r⟩
  exact ⟨_, all_enc okSide xs, _, rfl, q⟩
structure Bxs (bs : List (List Int)) : Prop where
  lo : 1 ≤ bs.length
  hi : bs.length ≤ 12
  wd : ∃ w, 1 ≤ w ∧ w ≤ 3 ∧ ∀ b ∈ bs, b.length = w
  ok : ∀ b ∈ bs, b.all okSide = true
def bxsD (bs : List (List Int)) : D := .tuple (bs.map boxD)
def sp_need_boxes : DL.Spec := fun as Q => ∃ bs : List (List Int), as = [.fz (bxsD bs)] ∧ Bxs bs ∧ Q (bxsD bs)
theorem len_need_boxes : ∀ as Q, sp_need_boxes as Q → as.length = 1 := by rintro as Q ⟨xs, rfl, _⟩; rfl
def wn_if : WS := (wIfS (wOr (wNot (wTest (wCall sp_is_box (wCons (wName 2) wNil)))) (wTest (w2 neD (wB lenD (wCons (wName 2) wNil)) (wB lenD (wCons (wIx (wName 0) (wC (.fz (.int 0)))) wNil))))) wNever wNext)
def ws_need_boxes : WS := (wSeq (wIfS (wOr (wNot (wTest (wIsi DL.isTuple (wName 0)))) (wNot (wTest (wChain leD leD (wC (.fz (.int 1))) (wB lenD (wCons (wName 0) wNil)) (wC (.fz (.int 12))))))) wNever wNext)
    (wSeq (wForI (wEnum (wCons (wName 0) wNil)) (gTup' 2 (gCons' (gN 1) (gCons' (gN 2) gNil'))) (wIfS (wOr (wNot (wTest (wCall sp_is_box (wCons (wName 2) wNil)))) (wTest (w2 neD (wB lenD (wCons (wName 2) wNil)) (wB lenD (wCons (wIx (wName 0) (wC (.fz (.int 0)))) wNil))))) wNever wNext))
    (wRet (wName 0))))
theorem boxes_for {b0 : List Int} {bs : List (List Int)} {w : Nat} (h0 : b0.length = w) (hw1 : 1 ≤ w) (hw3 : w ≤ 3) {De : DEnds} (fin : ∀ x y, De.nx [.fz (bxsD (b0 :: bs)), x, y]) : ∀ (rs : List (List Int)) (i : Nat) (x y : Sl), (∀ b ∈ rs, b.length = w ∧ b.all okSide = true) →
    wFor (gTup' 2 (gCons' (gN 1) (gCons' (gN 2) gNil'))) wn_if (enumD i (rs.map boxD)) [.fz (bxsD (b0 :: bs)), x, y] De
  | [], i, x, y, _ => fin x y
  | r :: rs, i, x, y, h => by
    obtain ⟨h1, h2⟩ := h r (List.mem_cons_self ..)
    refine ⟨_, rfl, ?_⟩
    refine ⟨_, rfl, r, rfl, by omega, by omega, _, rfl, ?_⟩
    refine ifF (by rw [h2]; rfl) ?_
    refine ⟨_, rfl, .int (r.map PyData.int).length, rfl, _, rfl, boxD b0, ix_0 _ _, .int (b0.map PyData.int).length, rfl, .bool false, ?_, _, rfl, ?_⟩
    · have e := ne_int ((r.map PyData.int).length : Nat) ((b0.map PyData.int).length : Nat)
      rw [List.length_map, List.length_map, h1, h0] at e
      simpa [h1, h0, mk_int, val_fz] using e
    · exact ifF rfl (boxes_for h0 hw1 hw3 fin rs (i + 1) _ _ fun b hb => h b (List.mem_cons_of_mem _ hb))
theorem ok_ws_need_boxes : ∀ as Q, sp_need_boxes as Q → ws_need_boxes (env0 3 as) (endsOf Q) := by
  rintro as Q ⟨bs, rfl, B, q⟩
  obtain ⟨w, w1, w3, hw⟩ := B.wd
  have l1 := B.lo
  have l2 := B.hi
  refine ⟨_, rfl, _, rfl, _, rfl, ?_⟩
  refine chain_ok (l := bs.length) (by omega) (by omega) (fun R r => ⟨_, rfl, .int (bs.map boxD).length, rfl, by rw [List.length_map]; exact r⟩) ⟨_, rfl, ?_⟩
  refine ifF rfl ?_
  cases bs with
  | nil => simp at l1
  | cons b0 bs =>
    refine ⟨_, rfl, enumD 0 ((b0 :: bs).map boxD), rfl, ?_⟩
    refine boxes_for (hw b0 (List.mem_cons_self ..)) w1 w3 ?_ (b0 :: bs) 0 .no .no fun b hb => ⟨hw b hb, B.ok b hb⟩
    exact fun x y => ⟨_, rfl, _, rfl, q⟩
/-! ### need_turned -/
def sp_need_turned : DL.Spec := fun as Q => ∃ b : Bool, as = [.fz (.bool b)] ∧ Q .none
theorem len_need_turned : ∀ as Q, sp_need_turned as Q → as.length = 1 := by rintro as Q ⟨xs, rfl, _⟩; rfl
def ws_need_turned : WS := (wIfS (wNot (wTest (wIsi DL.isBool (wName 0)))) wNever wNext)
theorem ok_ws_need_turned : ∀ as Q, sp_need_turned as Q → ws_need_turned (env0 1 as) (endsOf Q) := by
  rintro as Q ⟨b, rfl, q⟩
  exact ⟨_, rfl, _, rfl, _, rfl, ifF rfl q⟩
/-! ### does_go -/
def srt (xs : List Int) : List Int := xs.mergeSort fun a b => decide (a ≤ b)
def goes (xs ys : List Int) (t : Bool) : Bool := if t then ((srt xs).zip (srt ys)).all (fun p => decide (p.1 < p.2)) else (xs.zip ys).all fun p => decide (p.1 < p.2)
theorem alike_int (i j : Int) : PySem.W.alike (.int i) (.int j) = true := by simp [PySem.W.alike]
theorem sortOk_ints {xs : List Int} (h : xs.length < 1000) : sortOk (xs.map .int) = true := by
  have h1 : PyData.canLayAll0 (xs.map .int) = true := by
    induction xs with
    | nil => rfl
    | cons n r ih => rw [List.map_cons, PyData.canLayAll0, ih (by simp at h; omega)]; rfl
  have h2 := small_sz h
  simp only [sortOk, alikeB, h1, Bool.and_true, Bool.and_eq_true, Bool.or_eq_true, List.all_map, List.all_eq_true, Function.comp, List.length_map, decide_eq_true_eq]
  exact ⟨⟨⟨fun a _ b _ => alike_int a b, .inr fun _ _ => rfl⟩, h2⟩, fun _ _ => by simp [PyData.depth]⟩
theorem sortD_ints (xs : List Int) : sortD (xs.map .int) = (srt xs).map .int := by
  unfold sortD srt
  rw [List.map_mergeSort]
  intro a _ b _
  have := congrFun (congrFun (PySem.W.dataLe_int (fun i : Int => i)) a) b
  exact this.symm
theorem sorted_box {xs : List Int} (h : xs.length < 1000) : sortedD [boxD xs] = some (.list ((srt xs).map .int)) := by
  show (if sortOk (xs.map .int) = true then some (PyData.list (sortD (xs.map .int))) else none) = _
  rw [if_pos (sortOk_ints h), sortD_ints]
def sp_does_go : DL.Spec := fun as Q => ∃ (xs ys : List Int) (t : Bool), as = [.fz (boxD xs), .fz (boxD ys), .fz (.bool t)] ∧ xs.length < 1000 ∧ ys.length < 1000 ∧ Q (.bool (goes xs ys t))
theorem len_does_go : ∀ as Q, sp_does_go as Q → as.length = 3 := by rintro as Q ⟨xs, ys, t, rfl, _⟩; rfl
def ws_does_go : WS := (wSeq (wIfS (wTest (wName 2)) (wPar2 .fz 0 .fz 1 (wB tupleD (wCons (wB sortedD (wCons (wName 0) wNil)) wNil)) (wB tupleD (wCons (wB sortedD (wCons (wName 1) wNil)) wNil))) wNext)
    (wRet (wB allD (wCons (wLc (wZip (wCons (wName 0) (wCons (wName 1) wNil))) (gTup' 2 (gCons' (gN 3) (gCons' (gN 4) gNil'))) wYes (w2 ltD (wName 3) (wName 4)) [3, 4]) wNil))))
theorem go_end {xs ys : List Int} {s2 : Sl} {Q : D → Prop} (h : xs.length < 1000) (q : Q (.bool ((xs.zip ys).all fun p => decide (p.1 < p.2)))) :
    (wRet (wB allD (wCons (wLc (wZip (wCons (wName 0) (wCons (wName 1) wNil))) (gTup' 2 (gCons' (gN 3) (gCons' (gN 4) gNil'))) wYes (w2 ltD (wName 3) (wName 4)) [3, 4]) wNil))) [.fz (boxD xs), .fz (boxD ys), s2, .no, .no] (endsOf Q) := by
  refine ⟨_, rfl, _, rfl, List.zipWith pairD (xs.map .int) (ys.map .int), rfl, ?_⟩
  have e : List.zipWith pairD (xs.map .int) (ys.map .int) = (xs.zip ys).map fun p => pairD (.int p.1) (.int p.2) := by rw [List.zipWith_map, List.zip, List.map_zipWith]
  rw [e]
  refine lc_enc _ (fun p : Int × Int => .bool (decide (p.1 < p.2))) _ (fun p hp => ⟨_, rfl, fun R r => ⟨_, rfl, _, rfl, _, rfl, r⟩⟩) (by rw [List.length_zip]; exact small_sz (by omega)) ?_
  exact ⟨_, all_enc (fun p : Int × Int => decide (p.1 < p.2)) _, _, rfl, q⟩
theorem srt_len (xs : List Int) : (srt xs).length = xs.length := List.length_mergeSort _
theorem ok_ws_does_go : ∀ as Q, sp_does_go as Q → ws_does_go (env0 5 as) (endsOf Q) := by
  rintro as Q ⟨xs, ys, t, rfl, h1, h2, q⟩
  refine ⟨_, rfl, t, rfl, ?_⟩
  cases t with
  | false => exact ifF rfl (go_end h1 q)
  | true =>
    refine ifT rfl ⟨_, rfl, _, sorted_box h1, .tuple ((srt xs).map .int), rfl, _, rfl, _, sorted_box h2, .tuple ((srt ys).map .int), rfl, _, rfl, _, rfl, ?_⟩
    exact go_end (by rw [srt_len]; exact h1) q
end PF
namespace PF
open PySem DL
/-! ### goes_in, order_of -/
def goB (bs : List (List Int)) (t : Bool) (i j : Nat) : Bool := goes (bs.getD i []) (bs.getD j []) t
def sp_goes_in : DL.Spec := fun as Q => ∃ (bs : List (List Int)) (i j : Nat) (t : Bool), as = [.fz (bxsD bs), .fz (.int (i : Nat)), .fz (.int (j : Nat)), .fz (.bool t)] ∧ Bxs bs ∧ i < bs.length ∧ j < bs.length ∧ Q (.bool (goB bs t i j))
theorem len_goes_in : ∀ as Q, sp_goes_in as Q → as.length = 4 := by rintro as Q ⟨bs, i, j, t, rfl, _⟩; rfl
def ws_goes_in : WS := (wSeq (wDrop (wCall sp_need_boxes (wCons (wName 0) wNil)))
    (wSeq (wIfS (wOr (wNot (wTest (wCall sp_is_whole (wCons (wName 1) (wCons (wC (.fz (.int 0))) (wCons (w2 subD (wB lenD (wCons (wName 0) wNil)) (wC (.fz (.int 1)))) wNil)))))) (wNot (wTest (wCall sp_is_whole (wCons (wName 2) (wCons (wC (.fz (.int 0))) (wCons (w2 subD (wB lenD (wCons (wName 0) wNil)) (wC (.fz (.int 1)))) wNil))))))) wNever wNext)
    (wSeq (wDrop (wCall sp_need_turned (wCons (wName 3) wNil)))
    (wRet (wCall sp_does_go (wCons (wIx (wName 0) (wName 1)) (wCons (wIx (wName 0) (wName 2)) (wCons (wName 3) wNil))))))))
theorem ix_box {bs : List (List Int)} {i : Nat} (h : i < bs.length) : ixD (bxsD bs) (.int (i : Nat)) = some (boxD (bs.getD i [])) := by
  refine L2.atI_nat ?_
  rw [List.getElem?_map, List.getD_eq_getElem?_getD, List.getElem?_eq_getElem h]; rfl
theorem Bxs.small {bs : List (List Int)} (B : Bxs bs) (i : Nat) : (bs.getD i []).length < 1000 := by
  obtain ⟨w, w1, w3, hw⟩ := B.wd
  by_cases h : i < bs.length
  · rw [List.getD_eq_getElem?_getD, List.getElem?_eq_getElem h]
    show bs[i].length < 1000
    rw [hw _ (List.getElem_mem h)]; omega
  · rw [List.getD_eq_getElem?_getD, List.getElem?_eq_none (by omega)]; decide
theorem whole_ix {i n : Nat} (h : i < n) : isWhole (.int (i : Nat)) 0 (some ((n : Int) - 1)) = true := by simp [isWhole]; omega
theorem ok_ws_goes_in : ∀ as Q, sp_goes_in as Q → ws_goes_in (env0 4 as) (endsOf Q) := by
  rintro as Q ⟨bs, i, j, t, rfl, B, hi, hj, q⟩
  have el : (bs.map boxD).length = bs.length := List.length_map ..
  refine ⟨_, rfl, bs, rfl, B, ?_⟩
  refine ⟨_, rfl, _, rfl, .int (bs.map boxD).length, rfl, .int ((bs.map boxD).length - 1), rfl, .int i, 0, some ((bs.map boxD).length - 1), rfl, _, rfl, ?_⟩
  refine ifF (by rw [el, whole_ix hi]; rfl) ?_
  refine ⟨_, rfl, _, rfl, .int (bs.map boxD).length, rfl, .int ((bs.map boxD).length - 1), rfl, .int j, 0, some ((bs.map boxD).length - 1), rfl, _, rfl, ?_⟩
  refine ifF (by rw [el, whole_ix hj]; rfl) ?_
  refine ⟨_, rfl, t, rfl, ?_⟩
  exact ⟨_, rfl, _, rfl, _, ix_box hi, _, rfl, _, rfl, _, ix_box hj, _, rfl, _, _, t, rfl, B.small i, B.small j, _, rfl, q⟩
/-- a comprehension with two fors -/
theorem lcI_enc {α : Type} {gd : GD} {wt : WT} {we : WE} {env : Ev} {P : List D → Prop} (e g : α → D) (b : α → Bool) : ∀ (ps : List α) (acc : List D), (∀ p ∈ ps, ∃ env', gd (e p) env = some env' ∧ (∀ R : Bool → Prop, R (b p) → wt env' R) ∧ (b p = true → ∀ R : Dv → Prop, R (.fz (g p)) → we env' R)) → acc.length + ps.length ≤ sizeLine → P (acc ++ (ps.filter b).map g) → wLcI gd wt we env P (ps.map e) acc
  | [], acc, _, _, p => by simpa [wLcI] using p
  | d :: r, acc, h, hl, p => by
    obtain ⟨env', h1, h2, h3⟩ := h d (List.mem_cons_self ..)
    refine ⟨env', h1, h2 _ ?_⟩
    rw [List.length_cons] at hl
    by_cases hb : b d = true
    · rw [if_pos hb]
      refine h3 hb _ ⟨g d, rfl, by omega, lcI_enc e g b r _ (fun e he => h e (List.mem_cons_of_mem _ he)) (by rw [List.length_append, List.length_singleton]; omega) ?_⟩
      rw [List.filter_cons_of_pos hb, List.map_cons] at p
      rw [List.append_assoc]; exact p
    · rw [if_neg hb]
      refine lcI_enc e g b r _ (fun e he => h e (List.mem_cons_of_mem _ he)) (by omega) ?_
      rw [List.filter_cons_of_neg hb] at p
      exact p
theorem lc2_enc {α β : Type} {gd gd1 : GD} {wi1 : WI} {wt1 : WT} {we : WE} {vs1 : List Nat} {env : Ev} {P : Dv → Prop} (e : α → D) (e1 : β → D) (qs : List β) (g : α → β → D) (b : α → β → Bool) : ∀ (ps : List α) (acc : List D),
    (∀ p ∈ ps, ∃ env', gd (e p) env = some env' ∧ (∀ R : List D → Prop, R (qs.map e1) → wi1 env' R) ∧ ∀ q ∈ qs, ∃ env2, gd1 (e1 q) (wipeE env' vs1) = some env2 ∧ (∀ R : Bool → Prop, R (b p q) → wt1 env2 R) ∧ (b p q = true → ∀ R : Dv → Prop, R (.fz (g p q)) → we env2 R)) →
    acc.length + ps.length * qs.length ≤ sizeLine → P (.nw (.list (acc ++ ps.flatMap fun p => (qs.filter (b p)).map (g p)))) → wLc2L gd wYes wi1 gd1 wt1 we vs1 env P (ps.map e) acc
  | [], acc, _, _, p => by simpa [wLc2L] using p
  | d :: r, acc, h, hl, p => by
    obtain ⟨env', h1, h2, h3⟩ := h d (List.mem_cons_self ..)
    rw [List.length_cons, Nat.add_mul, Nat.one_mul] at hl
    refine ⟨env', h1, ?_⟩
    simp only [wYes, if_true]
    refine h2 _ (lcI_enc e1 (g d) (b d) qs acc h3 (by omega) ?_)
    refine lc2_enc e e1 qs g b r _ (fun p hp => h p (List.mem_cons_of_mem _ hp)) ?_ ?_
    · have := List.length_filter_le (b d) qs
      rw [List.length_append, List.length_map]; omega
    · rw [List.flatMap_cons] at p
      rw [List.append_assoc]; exact p
def prsOf (bs : List (List Int)) (t : Bool) : List Pr := (List.range bs.length).flatMap fun i => ((List.range bs.length).filter (goB bs t i)).map fun (j : Nat) => (((i : Nat) : Int), ((j : Nat) : Int))
def sp_order_of : DL.Spec := fun as Q => ∃ (bs : List (List Int)) (t : Bool), as = [.fz (bxsD bs), .fz (.bool t)] ∧ Bxs bs ∧ Q (ordD bs.length (prsOf bs t))
theorem len_order_of : ∀ as Q, sp_order_of as Q → as.length = 2 := by rintro as Q ⟨bs, t, rfl, _⟩; rfl
def ws_order_of : WS := (wSeq (wDrop (wCall sp_need_boxes (wCons (wName 0) wNil)))
    (wSeq (wDrop (wCall sp_need_turned (wCons (wName 1) wNil)))
    (wSeq (wSet .fz 2 (wLrng rng1 (wCons (wB lenD (wCons (wName 0) wNil)) wNil)))
    (wSeq (wSet .fz 3 (wLc2 (wSrc (wName 2)) (gN 4) wYes (wSrc (wName 2)) (gN 5) (wTest (wCall sp_does_go (wCons (wIx (wName 0) (wName 4)) (wCons (wIx (wName 0) (wName 5)) (wCons (wName 1) wNil))))) (wTup (wCons (wName 4) (wCons (wName 5) wNil))) [4, 5] [5]))
    (wRet (wTup (wCons (wB lenD (wCons (wName 0) wNil)) (wCons (wB tupleD (wCons (wName 3) wNil)) wNil))))))))
theorem ok_ws_order_of : ∀ as Q, sp_order_of as Q → ws_order_of (env0 6 as) (endsOf Q) := by
  rintro as Q ⟨bs, t, rfl, B, q⟩
  have el : (bs.map boxD).length = bs.length := List.length_map ..
  have l2 := B.hi
  refine ⟨_, rfl, bs, rfl, B, ?_⟩
  refine ⟨_, rfl, t, rfl, ?_⟩
  refine ⟨_, rfl, .int (bs.map boxD).length, rfl, (List.range bs.length).map fun i => .int (i : Nat), ?_, by rw [List.length_map, List.length_range]; exact Nat.le_trans l2 (by decide), _, rfl, ?_⟩
  · have := rngV (n := bs.length) (by omega)
    rw [el]
    rw [List.range_eq_range']
    exact this
  refine ⟨_, rfl, (List.range bs.length).map fun i => .int (i : Nat), rfl, ?_⟩
  refine lc2_enc (fun i : Nat => .int (i : Nat)) (fun i : Nat => .int (i : Nat)) (List.range bs.length) (fun i j => prD (i, j)) (goB bs t) (List.range bs.length) [] (fun i hi => ⟨_, rfl, fun R r => ⟨_, rfl, _, rfl, r⟩, fun j hj => ⟨_, rfl, fun R r => ?_, fun _ R r => ?_⟩⟩) ?_ ?_
  · have hi' := List.mem_range.mp hi
    have hj' := List.mem_range.mp hj
    exact ⟨_, rfl, _, rfl, _, ix_box hi', _, rfl, _, rfl, _, ix_box hj', _, rfl, _, _, t, rfl, B.small i, B.small j, _, rfl, r⟩
  · exact ⟨_, rfl, _, rfl, _, rfl, (show 2 ≤ sizeLine by decide), r⟩
  · rw [List.length_range]
    have : bs.length * bs.length ≤ 12 * 12 := Nat.mul_le_mul l2 l2
    rw [sizeLine_eq]; simp; omega
  · refine ⟨_, rfl, ?_⟩
    refine ⟨_, rfl, .int (bs.map boxD).length, rfl, _, rfl, .tuple _, rfl, _, rfl, (show 2 ≤ sizeLine by decide), _, rfl, ?_⟩
    rw [el]
    have e : (List.range bs.length).flatMap (fun p => ((List.range bs.length).filter (goB bs t p)).map ((fun i j : Nat => prD (i, j)) p)) = (prsOf bs t).map prD := by
      unfold prsOf
      rw [List.map_flatMap]
      congr 1; funext i
      rw [List.map_map]; rfl
    show Q (.tuple [.int bs.length, .tuple ([] ++ _)])
    rw [List.nil_append, e]
    exact q
end PF
namespace DL
open PySem PF
/-! ### loops by an invariant -/
theorem wFor_inv {g : GD} {f : WS} {De : DEnds} (I : Ev → Prop) (fin : ∀ e, I e → De.nx e) : ∀ (ds : List D), (∀ d ∈ ds, ∀ (env : Ev) (De' : DEnds), I env → De'.rt = De.rt → (∀ e, I e → De'.nx e) → (∀ e, I e → De'.ct e) → ∃ env', g d env = some env' ∧ f env' De') → ∀ env, I env → wFor g f ds env De
  | [], _, env, h => fin env h
  | d :: r, st, env, h => st d (List.mem_cons_self ..) env _ h rfl (fun e he => wFor_inv I fin r (fun d hd => st d (List.mem_cons_of_mem _ hd)) e he) (fun e he => wFor_inv I fin r (fun d hd => st d (List.mem_cons_of_mem _ hd)) e he)
theorem wFor_rng {g : GD} {f : WS} {De : DEnds} {n : Nat} (I : Nat → Ev → Prop) (fin : ∀ e, I n e → De.nx e) (st : ∀ i, i < n → ∀ (env : Ev) (De' : DEnds), I i env → De'.rt = De.rt → De'.bk = De.nx → (∀ e, I (i + 1) e → De'.nx e) → (∀ e, I (i + 1) e → De'.ct e) → ∃ env', g (.int (i : Nat)) env = some env' ∧ f env' De') :
    ∀ (r k : Nat), k + r = n → ∀ env, I k env → wFor g f ((List.range' k r).map fun i => .int (i : Nat)) env De
  | 0, k, e, env, h => by
    have e' : k = n := by omega
    subst e'
    exact fin env h
  | r + 1, k, e, env, h => by
    rw [List.range'_succ, List.map_cons]
    exact st k (by omega) env _ h rfl rfl (fun e' he => wFor_rng I fin st r (k + 1) (by omega) e' he) (fun e' he => wFor_rng I fin st r (k + 1) (by omega) e' he)
/-- over a list of coded things; the invariant knows how many are done -/
theorem wFor_enc {α : Type} {g : GD} {f : WS} {De : DEnds} (c : α → D) (xs : List α) (I : Nat → Ev → Prop) (fin : ∀ e, I xs.length e → De.nx e) (st : ∀ i x, xs[i]? = some x → ∀ (env : Ev) (De' : DEnds), I i env → De'.rt = De.rt → De'.bk = De.nx → (∀ e, I (i + 1) e → De'.nx e) → (∀ e, I (i + 1) e → De'.ct e) → ∃ env', g (c x) env = some env' ∧ f env' De') :
    ∀ (ys : List α) (k : Nat), xs.drop k = ys → k ≤ xs.length → ∀ env, I k env → wFor g f (ys.map c) env De
  | [], k, e, hk, env, h => by
    have e' : k = xs.length := by have := List.drop_eq_nil_iff.mp e; omega
    subst e'
    exact fin env h
  | y :: ys, k, e, hk, env, h => by
    have hlt : k < xs.length := by
      rcases Nat.lt_or_ge k xs.length with q | q
      · exact q
      · rw [List.drop_eq_nil_iff.mpr q] at e; cases e
    rw [List.drop_eq_getElem_cons hlt] at e
    injection e with e1 e2
    refine st k y (by rw [List.getElem?_eq_getElem hlt, e1]) env _ h rfl rfl (fun e' he => ?_) (fun e' he => ?_)
    · exact wFor_enc c xs I fin st ys (k + 1) e2 hlt e' he
    · exact wFor_enc c xs I fin st ys (k + 1) e2 hlt e' he
/-- a comprehension whose items are drawn -/
theorem lc_any {α : Type} {gd : GD} {we : WE} {env : Ev} {P : Dv → Prop} (c : α → D) (good : α → Prop) : ∀ (ds acc : List D), (∀ d ∈ ds, ∃ env', gd d env = some env' ∧ ∀ R : Dv → Prop, (∀ x, good x → R (.fz (c x))) → we env' R) → acc.length + ds.length ≤ sizeLine →
    (∀ xs : List α, xs.length = ds.length → (∀ x ∈ xs, good x) → P (.nw (.list (acc ++ xs.map c)))) → wLcL gd wYes we env P ds acc
  | [], acc, _, _, p => by simpa [wLcL] using p [] rfl (fun _ z => nomatch z)
  | d :: r, acc, h, hl, p => by
    obtain ⟨env', h1, h2⟩ := h d (List.mem_cons_self ..)
    rw [List.length_cons] at hl
    refine ⟨env', h1, ?_⟩
    simp only [wYes, if_true]
    refine h2 _ fun x hx => ⟨c x, rfl, by omega, ?_⟩
    refine lc_any c good r _ (fun e he => h e (List.mem_cons_of_mem _ he)) (by rw [List.length_append, List.length_singleton]; omega) fun xs e q => ?_
    have := p (x :: xs) (by rw [List.length_cons, List.length_cons, e]) (fun y hy => (List.mem_cons.mp hy).elim (fun z => z ▸ hx) (q y))
    rw [List.append_assoc]; exact this
/-! ### data that can be shown -/
structure Rok (h n : Nat) (d : D) : Prop where
  lay : d.canLay0 = true
  sh : d.showable = true
  dp : d.depth ≤ h
  ln : d.shown.length ≤ n
theorem Rok.mono {h n h' n' : Nat} {d : D} (r : Rok h n d) (a : h ≤ h') (b : n ≤ n') : Rok h' n' d := ⟨r.lay, r.sh, Nat.le_trans r.dp a, Nat.le_trans r.ln b⟩
theorem rok_none : Rok 0 13 .none := ⟨rfl, rfl, by simp [PyData.depth], by decide +kernel⟩
theorem rok_bool (b : Bool) : Rok 0 13 (.bool b) := ⟨rfl, rfl, by simp [PyData.depth], by cases b <;> decide +kernel⟩
theorem rok_int {i : Int} (h1 : -999999999999 ≤ i) (h2 : i ≤ 999999999999) : Rok 0 13 (.int i) := by
  refine ⟨rfl, ?_, by simp [PyData.depth], PyData.shown_int_le2 h1 h2⟩
  simp only [PyData.showable, decide_eq_true_eq]
  by_cases z : i.natAbs = 0
  · rw [z]; decide
  · refine (Nat.log2_lt z).mpr (Nat.lt_of_lt_of_le (show i.natAbs < 2 ^ 40 by omega) (Nat.pow_le_pow_right (by decide) (by decide)))
theorem rokAll {h n : Nat} : ∀ {ds : List D}, (∀ d ∈ ds, Rok h n d) → PyData.canLayAll0 ds = true ∧ PyData.showableAll ds = true ∧ PyData.depthAll ds ≤ h ∧ ((PyData.shownAll ds).map (·.length)).sum ≤ ds.length * n
  | [], _ => ⟨rfl, by simp [PyData.showableAll], by simp [PyData.depthAll], by simp [PyData.shownAll]⟩
  | d :: r, H => by
    have h1 := H d (List.mem_cons_self ..)
    obtain ⟨a, b, c, e⟩ := rokAll fun x hx => H x (List.mem_cons_of_mem _ hx)
    refine ⟨by simp [PyData.canLayAll0, h1.lay, a], by simp [PyData.showableAll, h1.sh, b], ?_, ?_⟩
    · have := h1.dp
      simp only [PyData.depthAll]; omega
    · have := h1.ln
      simp only [PyData.shownAll, List.map_cons, List.sum_cons, List.length_cons, Nat.add_mul, Nat.one_mul]; omega
theorem rok_tup {h n : Nat} {ds : List D} (H : ∀ d ∈ ds, Rok h n d) : Rok (h + 1) (ds.length * (n + 2) + 3) (.tuple ds) := by
  obtain ⟨a, b, c, e⟩ := rokAll H
  refine ⟨a, by simpa [PyData.showable] using b, by simp only [PyData.depth]; omega, ?_⟩
  have h2 := tupleText_len_le (PyData.shownAll ds)
  have h3 := PyData.shownAll_length ds
  simp only [PyData.shown]
  rw [Nat.mul_add]; omega
theorem rok_lst {h n : Nat} {ds : List D} (H : ∀ d ∈ ds, Rok h n d) : Rok (h + 1) (ds.length * (n + 2) + 3) (.list ds) := by
  obtain ⟨a, b, c, e⟩ := rokAll H
  refine ⟨a, by simpa [PyData.showable] using b, by simp only [PyData.depth]; omega, ?_⟩
  have h2 := listText_len_le (PyData.shownAll ds)
  have h3 := PyData.shownAll_length ds
  simp only [PyData.shown]
  rw [Nat.mul_add]; omega
theorem Rok.repr {h n : Nat} {d : D} (r : Rok h n d) (a : h ≤ 50) (b : n ≤ 16777216) : reprD [d] = some (.str d.shown) := by
  show (if reprOk d = true then _ else none) = _
  rw [if_pos]
  have := r.dp
  have := r.ln
  simp only [reprOk, r.lay, r.sh, Bool.true_and, Bool.and_eq_true, decide_eq_true_eq, sizeLine_eq]
  omega
theorem Rok.reprV {h n : Nat} {d : D} (r : Rok h n d) (a : h ≤ 50) (b : n ≤ 16777216) : (valL [.fz d]).bind reprD = some (.str d.shown) := r.repr a b
theorem Rok.shp {h n : Nat} {d : D} (r : Rok h n d) (a : h ≤ 50) : SeqAt.shaped d = true := by
  have := r.dp
  simp only [SeqAt.shaped, r.lay, Bool.true_and, decide_eq_true_eq]; omega
theorem Rok.eqv {h n : Nat} {d : D} (r : Rok h n d) : PyData.eqv d d = true := SeqAt.eqv_refl d r.lay
theorem Rok.ne {h n : Nat} {d : D} (r : Rok h n d) (a : h ≤ 50) : neD d d = some (.bool false) := by
  unfold neD
  rw [if_pos ⟨r.shp a, r.shp a⟩, r.eqv]; rfl
theorem Rok.eq {h n : Nat} {d : D} (r : Rok h n d) (a : h ≤ 50) : eqD d d = some (.bool true) := by
  unfold eqD
  rw [if_pos ⟨r.shp a, r.shp a⟩, r.eqv]
theorem rok_pr {p : Pr} (h1 : 0 ≤ p.1 ∧ p.1 ≤ 1000) (h2 : 0 ≤ p.2 ∧ p.2 ≤ 1000) : Rok 1 33 (prD p) := by
  refine (rok_tup (h := 0) (n := 13) fun d hd => ?_).mono (by omega) (show 2 * (13 + 2) + 3 ≤ 33 by decide)
  rcases List.mem_cons.mp hd with rfl | hd
  · exact rok_int (by omega) (by omega)
  · obtain rfl : d = .int p.2 := by simpa using hd
    exact rok_int (by omega) (by omega)
theorem rok_prs {ps : List Pr} (h : ∀ p ∈ ps, (0 ≤ p.1 ∧ p.1 ≤ 1000) ∧ 0 ≤ p.2 ∧ p.2 ≤ 1000) : Rok 2 (ps.length * 35 + 3) (prsD ps) := by
  refine (rok_tup (h := 1) (n := 33) (ds := ps.map prD) fun d hd => ?_).mono (by omega) (by rw [List.length_map]; omega)
  obtain ⟨p, hp, rfl⟩ := List.mem_map.mp hd
  exact rok_pr (h p hp).1 (h p hp).2
theorem rok_ord {n : Nat} {ps : List Pr} (hn : n ≤ 1000) (hl : ps.length ≤ 1000) (h : ∀ p ∈ ps, (0 ≤ p.1 ∧ p.1 ≤ 1000) ∧ 0 ≤ p.2 ∧ p.2 ≤ 1000) : Rok 3 80000 (ordD n ps) := by
  refine (rok_tup (h := 2) (n := 36000) fun d hd => ?_).mono (by omega) (show 2 * (36000 + 2) + 3 ≤ 80000 by decide)
  rcases List.mem_cons.mp hd with rfl | hd
  · exact (rok_int (by omega) (by omega)).mono (by omega) (by omega)
  · obtain rfl : d = prsD ps := by simpa using hd
    exact (rok_prs h).mono (by omega) (by omega)
theorem eqv_pr (p q : Pr) : PyData.eqv (prD p) (prD q) = decide (p = q) := by
  simp only [prD, PyData.eqv, PyData.eqvAll, int_beq, Bool.and_true]
  rw [Bool.eq_iff_iff]
  simp [Prod.ext_iff]
theorem in_prs {p : Pr} {ps : List Pr} (hp : (0 ≤ p.1 ∧ p.1 ≤ 1000) ∧ 0 ≤ p.2 ∧ p.2 ≤ 1000) (h : ∀ p ∈ ps, (0 ≤ p.1 ∧ p.1 ≤ 1000) ∧ 0 ≤ p.2 ∧ p.2 ≤ 1000) : inV' (prD p) (.list (ps.map prD)) = some (.bool (decide (p ∈ ps))) := by
  have s1 := (rok_pr hp.1 hp.2).shp (by omega)
  have s2 := (rok_lst (h := 1) (n := 33) (ds := ps.map prD) fun d hd => by
    obtain ⟨q, hq, rfl⟩ := List.mem_map.mp hd
    exact rok_pr (h q hq).1 (h q hq).2).shp (by omega)
  show ((if SeqAt.shaped (prD p) = true ∧ SeqAt.shaped (.list (ps.map prD)) = true then some ((ps.map prD).any fun z => z.eqv (prD p)) else none).map fun k => PyData.bool k) = _
  rw [if_pos ⟨s1, s2⟩]
  simp only [Option.map_some]
  congr 2
  rw [Bool.eq_iff_iff]
  simp only [List.any_map, List.any_eq_true, Function.comp, eqv_pr, decide_eq_true_eq]
  exact ⟨fun ⟨q, hq, e⟩ => e ▸ hq, fun hq => ⟨p, hq, rfl⟩⟩
theorem ne_str_self (x : Str) : neD (.str x) (.str x) = some (.bool false) := by rw [ne_strs]; simp
theorem ne_strV (x : Str) : ((Dv.fz (.str x)).val.bind fun a => (Dv.fz (.str x)).val.bind fun b => neD a b) = some (.bool false) := ne_str_self x
theorem ne_bool (a b : Bool) : neD (.bool a) (.bool b) = some (.bool (a != b)) := by
  cases a <;> cases b <;> rfl
theorem eq_bool (a b : Bool) : eqD (.bool a) (.bool b) = some (.bool (a == b)) := by
  cases a <;> cases b <;> rfl
theorem fnG_no {P : Program} {w : World} {K : PySem.W.Frag} {mg : Str → Option Value} {base : Heap} {k : Nat} {f : Addr} {fd : FuncData} {ps : List Str} : FnG P w K mg base L2.CX0 k f fd ps (spF SI0 0 fun _ _ => False) :=
  ⟨fun _ _ _ _ ⟨_, _, _, _, _, _, _, _, _, h, _⟩ => h.elim, fun _ _ _ _ _ _ _ _ _ _ _ _ _ _ ⟨_, _, _, _, _, _, _, _, _, h, _⟩ => h.elim⟩
end DL
namespace K42
open PySem PySem.Spec PyProof.Rows L2 DL
def topS (i : Nat) : Stmt := PySem.Challenge.pw_nestcrates_k42_whole_boxes.main.body.getD i (.Pass ⟨0, 0, 0, 0⟩)
abbrev s24 : Stmt := topS 24
abbrev nN : List Str := ["_law_m", "_law_total", "_law_rest", "_law_k", "_law_cell", "_law_mixed"]
theorem sc24 : FnScope nN ["_law_m", "_law_total"] (defScope s24) := ⟨rfl, rfl, rfl, by decide +kernel, rfl, by decide +kernel, by decide +kernel⟩
section
variable {P : Program} {w : World} {K : PySem.W.Frag} {mg : Str → Option Value} {base : Heap}
def spNext (a : Addr) : DL.Spec := fun as Q => ∃ t : Int, as = [.raw (.ref a), .fz (.int t)] ∧ 0 < t ∧ t < 2 ^ 1000 ∧ ∀ r : Int, 0 ≤ r → r < t → Q (.int r)
abbrev SI := SIB "cells" "great" "spot"
theorem ok_next (a : Addr) {f : Addr} {fd : FuncData} (F : Fun K "_law_next" "_law_next" s24 f fd) (nI : mg "int" = none) (nL : mg "len" = none) : FnG P w K mg base CX0 2 f fd ["_law_m", "_law_total"] (spF (SI a) 1 (spNext a)) := by
  obtain ⟨oc, od, kV, doc, pm, an, cdv, ct, osl, rfl, lk, hcd⟩ := F.ex
  refine fnG_of lk hcd sc24 (fun vs H Q E h => ?_) fun A outer s H vs Q E hgd hr h => ?_
  · obtain ⟨as, M, C, b, Pd, _, _, _, r, ⟨t, rfl, _⟩, _⟩ := h
    rw [r.length]; rfl
  · obtain ⟨as, M, C, b, Pd, hb, wf, si, r, ⟨t, rfl, ht0, ht1, hr0⟩, hq⟩ := h
    cases r with
    | cons r1 r2 =>
      cases r2 with
      | cons r2 r3 =>
        cases r3
        cases r1; cases r2
        obtain ⟨g, c, gs, cs, n, hn, S⟩ := StB.start wf si
        have kd : Kd "cells" "great" "spot" := ⟨by decide, by decide, by decide⟩
        have wf0 : Wf (⟨H, M, C⟩ : Wd) := wf
        have mI : ∀ {e : Expr} {te : TE} {p pos : Pos}, PE (cxOf CX0 P w K mg base nN "_law_next" (defScope s24) f cdv A outer s H E).nox e te → starEach [e] (cxOf CX0 P w K mg base nN "_law_next" (defScope s24) f cdv A outer s H E).nox.env = (false, eval e (cxOf CX0 P w K mg base nN "_law_next" (defScope s24) f cdv A outer s H E).nox.env) :: starEach [] (cxOf CX0 P w K mg base nN "_law_next" (defScope s24) f cdv A outer s H E).nox.env → PE (cxOf CX0 P w K mg base nN "_law_next" (defScope s24) f cdv A outer s H E).nox (.Call (.Name "int" p) [e] [] pos) (tCB (fun xs H Q => (∃ i, xs = [.int i] ∧ Q (.int i) H) ∨ ∃ k, xs = [.bl k] ∧ Q (.int (if k then 1 else 0)) H) (tCons te tNil)) := fun h hs => pe_callTy call_int1 (by rfl) nI (by decide +kernel) (pa_cons h pa_nil hs) (by decide) (by decide) hs rfl
        obtain ⟨tE, dE, hE⟩ : ∃ tE, PSs (cxOf CX0 P w K mg base nN "_law_next" (defScope s24) f cdv A outer s H E).nox ((defBody s24).drop 5) tE ∧ ∀ (C1 : Addr → Prop) (g1 : Addr) (gs1 : List Int) (x : Int) (H2 : Hp), StB "cells" "great" "spot" a ⟨H, M, C⟩ H2 C1 g1 c gs1 cs (n + 1) → tE { nx := fun _ H' => Q .non H', rt := Q } [some (.ref a), some (.int t), none, some (.int (n + 1)), some (.int x), none] H2 := by
          refine ⟨_, pss_cons (ps_set (i := 5) sc24.nd rfl (.inl rfl) (pe_op op_mul (mI (pe_op op_add (pe_op op_add (pe_op op_mod (mI (pv 4) rfl) pe_int) (pe_op op_mul pe_int (pv 3))) (pe_op op_mulB (pe_op op_mul pe_int (pv 3)) (pv 3))) rfl) pe_int))
          (pss_cons (ps_set (i := 5) sc24.nd rfl (.inl rfl) (pe_op op_mul (mI (pe_op op_add (pe_op op_mod (mI (pv 5) rfl) pe_int) (pe_op op_mul pe_int (pv 3))) rfl) pe_int))
          (pss_one (ps_ret (pe_op op_mod (mI (pe_op op_fdivB (pe_op op_mod (mI (pv 5) rfl) pe_int) pe_int) rfl) (pv 1))))), fun C1 g1 gs1 x H2 S2 => ?_⟩
          have hb1 : n + 1 ≤ cap := by omega
          have big : (67 * ((n : Int) + 1)).natAbs < 2 ^ 100010 ∧ ((n : Int) + 1).natAbs < 2 ^ 100010 := cap_bits hb1
          have mm : CMulB (67 * ((n : Int) + 1)) ((n : Int) + 1) := ⟨Nat.le_trans (bits_le big.1) (by decide +kernel), Nat.le_trans (bits_le big.2) (by decide +kernel)⟩
          refine ⟨.int x, rfl, .inl ⟨x, rfl, x, _, rfl, rfl, (show (0 : Int) < 2147483563 by decide), ?_⟩⟩
          refine ⟨.int (n + 1), rfl, _, _, rfl, rfl, .inl (by decide), _, _, rfl, rfl, ?_⟩
          refine ⟨.int (n + 1), rfl, _, _, rfl, rfl, .inl (by decide), .int (n + 1), rfl, _, _, rfl, rfl, mm, _, _, rfl, rfl, .inl ⟨_, rfl, _, _, rfl, rfl, .inr (by decide), ?_⟩⟩
          refine ⟨_, rfl, .inl ⟨_, rfl, _, _, rfl, rfl, (show (0 : Int) < 2147483563 by decide), .int (n + 1), rfl, _, _, rfl, rfl, .inl (by decide), _, _, rfl, rfl, .inl ⟨_, rfl, _, _, rfl, rfl, .inr (by decide), ?_⟩⟩⟩
          refine ⟨_, rfl, .inl ⟨_, rfl, _, _, rfl, rfl, (show (0 : Int) < 2147483549 by decide), _, _, rfl, rfl, CDivB.of (by decide) (by decide), .inl ⟨_, rfl, .int t, rfl, _, _, rfl, rfl, ht0, ?_⟩⟩⟩
          exact S2.done wf0 (b' := b + 1) (by omega) (Nat.le_refl _) (hr0 _ (Int.emod_nonneg _ (by omega)) (Int.emod_lt_of_pos _ ht0)) (fun _ => .int _) hq
        obtain ⟨tR, dR, hR⟩ : ∃ tR, PSs (cxOf CX0 P w K mg base nN "_law_next" (defScope s24) f cdv A outer s H E).nox ((defBody s24).drop 1) tR ∧ ∀ (C1 : Addr → Prop) (g1 : Addr) (gs1 : List Int) (H2 : Hp), StB "cells" "great" "spot" a ⟨H, M, C⟩ H2 C1 g1 c gs1 cs n → tR { nx := fun _ H' => Q .non H', rt := Q } [some (.ref a), some (.int t), none, none, none, none] H2 := by
          refine ⟨_, pss_cons (ps_if (pt_cmpR (op_neDD hr.units) (pe_dget (DL.Room.u1 hr) (pv 0) pe_str (fun _ _ => rfl)) (pe_lst pa_nil) (nomark _))
            (pss_cons (ps_set (i := 2) sc24.nd rfl (.inl rfl) (mI (pe_ix ix_list (pe_dget (DL.Room.u1 hr) (pv 0) pe_str (fun _ _ => rfl)) pe_int (fun _ _ => rfl)) rfl))
            (pss_cons (ps_iset set_list (pe_dget (DL.Room.u1 hr) (pv 0) pe_str (fun _ _ => rfl)) pe_int (pe_op op_fdivB (pv 2) (pv 1)))
            (pss_one (ps_ret (pe_op op_mod (pv 2) (pv 1)))))) pss_nil)
          (pss_cons (ps_set (i := 3) sc24.nd rfl (.inl rfl) (pe_op op_add (pe_dget (DL.Room.u1 hr) (pv 0) pe_str (fun _ _ => rfl)) pe_int))
          (pss_cons (ps_iset (set_dict (DL.Room.u1 hr)) (pv 0) pe_str (pv 3))
          (pss_cons (ps_set (i := 4) sc24.nd rfl (.inl rfl) (pe_ifExp (pt_cmpR (op_neDD hr.units) (pe_dget (DL.Room.u1 hr) (pv 0) pe_str (fun _ _ => rfl)) (pe_lst pa_nil) (nomark _))
            (pe_ix ix_list (pe_dget (DL.Room.u1 hr) (pv 0) pe_str (fun _ _ => rfl)) (pe_op op_mod (mI (pv 3) rfl) (pe_callB call_len_seq (by rfl) nL PySem.boot_len (pa_cons (pe_dget (DL.Room.u1 hr) (pv 0) pe_str (fun _ _ => rfl)) pa_nil))) (fun _ _ => rfl)) pe_int))
          dE))), fun C1 g1 gs1 H2 S2 => ?_⟩
          refine S2.neG kd rfl fun H3 S3 => ?_
          have sml : ∀ i : Int, ∃ x, 0 ≤ i % t ∧ i % t < t ∧ x = i % t := fun i => ⟨_, Int.emod_nonneg _ (by omega), Int.emod_lt_of_pos _ ht0, rfl⟩
          cases gs1 with
          | cons x r =>
            rw [if_pos (by simp)]
            -- rest = int(great[0]); great[0] = rest // total; return rest % total
            refine S3.getG kd rfl ⟨g1, _, 0, .int x, rfl, rfl, SqL.of S3.dg, atI_nat (j := 0) rfl, .inl ⟨x, rfl, ?_⟩⟩
            refine ⟨.int x, rfl, .int t, rfl, x, t, rfl, rfl, ⟨ht0, ht1⟩, S3.getG kd rfl ⟨g1, _, 0, 0, rfl, rfl, S3.dg, ix0 _ _, ?_⟩⟩
            refine ⟨.int x, rfl, .int t, rfl, x, t, rfl, rfl, ht0, ?_⟩
            have S4 := S3.setG (gs' := (x / t) :: r)
            exact S4.done wf0 hn (Nat.le_add_right b 1) (hr0 _ (Int.emod_nonneg _ (by omega)) (Int.emod_lt_of_pos _ ht0)) (fun _ => .int _) hq
          | nil =>
            rw [if_neg (by simp)]
            -- k = spot + 1; spot = k
            refine S3.getS kd rfl ⟨n, 1, rfl, rfl, ?_⟩
            refine ⟨.int (n + 1), rfl, .ref a, rfl, a, _, rfl, S3.putS kd (m := n + 1), ?_⟩
            have S4 := S3.setN (n' := n + 1)
            -- cell
            refine S4.neC rfl fun H5 S5 => ?_
            by_cases hc : cs = []
            · rw [if_neg (by simp [hc])]
              exact hE C1 g1 [] 59 H5 S5
            · rw [if_pos (by simp [hc])]
              have hl : 0 < cs.length := List.length_pos_iff.mpr hc
              have h1 : 0 ≤ ((n : Int) + 1) % (cs.length : Int) := Int.emod_nonneg _ (by omega)
              have h2 : ((n : Int) + 1) % (cs.length : Int) < cs.length := Int.emod_lt_of_pos _ (by omega)
              obtain ⟨j, hj⟩ := Int.eq_ofNat_of_zero_le h1
              have hj' : j < cs.length := by omega
              refine S5.getC rfl ⟨.int (n + 1), rfl, .inl ⟨_, rfl, S5.getC rfl ⟨c, cs.map V.int, rfl, .inl (SqL.of S5.dc), _, _, rfl, rfl, by rw [List.length_map]; omega, c, cs.map V.int, _, .int cs[j], rfl, rfl, SqL.of S5.dc, ?_, hE C1 g1 [] _ H5 S5⟩⟩⟩
              rw [List.length_map, hj]
              exact atI_nat (by rw [List.getElem?_map, List.getElem?_eq_getElem hj']; rfl)
        refine ⟨_, (pss_cons (ps_while PassesOwn.never (PW.pt (pw_and (pt_cmpR (op_neDD hr.units) (pe_dget (DL.Room.u1 hr) (pv 0) pe_str (fun _ _ => rfl)) (pe_lst pa_nil) (nomark _)) (pw_and1 (pt_cmpR op_eq (pe_ix ix_list (pe_dget (DL.Room.u1 hr) (pv 0) pe_str (fun _ _ => rfl)) pe_int (fun _ _ => rfl)) pe_int (nomark _)))))
            (pss_one (ps_iset (set_dict (DL.Room.u1 hr)) (pv 0) pe_str (pe_slice sl_list (pe_dget (DL.Room.u1 hr) (pv 0) pe_str (fun _ _ => rfl)) (po_some pe_int) po_none)))) dR).nox, ?_⟩
        -- while m['great'] != [] and m['great'][0] == 0
        refine ⟨fun m σ H1 => ∃ C' g' gs', m = gs'.length ∧ σ = [some (.ref a), some (.int t), none, none, none, none] ∧ StB "cells" "great" "spot" a ⟨H, M, C⟩ H1 C' g' c gs' cs n, ⟨gs.length, C, g, gs, rfl, rfl, S⟩, fun m σ H1 hW => ?_⟩
        obtain ⟨C1, g1, gs1, rfl, rfl, S1⟩ := hW
        refine S1.neG kd rfl fun H2 S2 => ?_
        cases gs1 with
        | nil =>
          rw [if_neg (by simp)]
          exact iteF (hR C1 g1 [] H2 S2)
        | cons x r =>
          rw [if_pos (by simp)]
          refine S2.getG kd rfl ⟨g1, _, 0, .int x, rfl, rfl, SqL.of S2.dg, atI_nat (j := 0) rfl, rfl, _, rfl, ?_⟩
          refine ite2 (fun hx => ?_) (fun hx => ?_)
          · refine ⟨fun σ' H' => ∃ C' g', σ' = [some (.ref a), some (.int t), none, none, none, none] ∧ StB "cells" "great" "spot" a ⟨H, M, C⟩ H' C' g' c r cs n, fun σ' H' ⟨C', g', e, S'⟩ => ⟨r.length, by simp, C', g', r, rfl, e, S'⟩, ?_⟩
            refine S2.getG kd rfl ⟨1, rfl, g1, _, rfl, SqL.of S2.dg, fun p np => ?_⟩
            rw [cut1]
            refine ⟨.ref a, rfl, a, _, rfl, (S2.alloc np).putG kd (p := p), _, p, rfl, S2.newG (gs' := r) np⟩
          · exact hR C1 g1 (x :: r) H2 S2
end
end K42
namespace K42
open PySem DL PF
/-! ### the law's own defs -/
def sp__law_of (a : Addr) : DL.Spec := fun as Q => ∃ ds : List D, as = [.raw (.ref a), .fz (.list ds)] ∧ 0 < ds.length ∧ ds.length < 1000 ∧ ∀ d ∈ ds, Q d
theorem len__law_of (a : Addr) : ∀ as Q, sp__law_of a as Q → as.length = 2 := by rintro as Q ⟨ds, rfl, _⟩; rfl
def ws__law_of (a : Addr) : WS := (wRet (wIx (wName 1) (wCall (spNext a) (wCons (wName 0) (wCons (wB lenD (wCons (wName 1) wNil)) wNil)))))
theorem ok_ws__law_of (a : Addr) : ∀ as Q, sp__law_of a as Q → ws__law_of a (env0 2 as) (endsOf Q) := by
  rintro as Q ⟨ds, rfl, h0, h1, q⟩
  refine ⟨_, rfl, _, rfl, _, rfl, .int ds.length, rfl, ds.length, rfl, by omega, ?_, fun r hr0 hr1 => ?_⟩
  · exact small1000 (by omega)
  · obtain ⟨k, rfl⟩ := Int.eq_ofNat_of_zero_le hr0
    have hk : k < ds.length := by omega
    exact ⟨ds[k], L2.atI_nat (List.getElem?_eq_getElem hk), _, rfl, q _ (List.getElem_mem hk)⟩
/-- all ways to put a row -/
def perms : Nat → List Int → List (List Int)
  | 0, xs => [xs]
  | m + 1, xs => if xs.length < 2 then [xs] else (List.range xs.length).flatMap fun k => (perms m (xs.take k ++ xs.drop (k + 1))).map fun r => xs.getD k 0 :: r
def sp_ord (m : Nat) : DL.Spec := fun as Q => ∃ xs : List Int, as = [.fz (boxD xs)] ∧ xs.length ≤ m + 1 ∧ m ≤ 2 ∧ Q (.list ((perms m xs).map boxD))
theorem len_ord (m : Nat) : ∀ as Q, sp_ord m as Q → as.length = 1 := by rintro as Q ⟨xs, rfl, _⟩; rfl
def wo_for (spI : DL.Spec) : WS := (wSeq (wSet .fz 3 (w2 addD (wSl (wName 0) wNoPart (wPart (wName 2))) (wSl (wName 0) (wPart (w2 addD (wName 2) (wC (.fz (.int 1))))) wNoPart)))
    (wSet .fz 1 (w2 addD (wName 1) (wLc (wSrc (wCall spI (wCons (wName 3) wNil))) (gN 4) wYes (w2 addD (wTup (wCons (wIx (wName 0) (wName 2)) wNil)) (wName 4)) [4]))))
def ws__law_orders_of (spI : DL.Spec) : WS := (wSeq (wIfS (wTest (w2 ltD (wB lenD (wCons (wName 0) wNil)) (wC (.fz (.int 2))))) (wRet (wLst (wCons (wName 0) wNil))) wNext)
    (wSeq (wSet .fz 1 (wLst wNil))
    (wSeq (wForI (wRng rng1 (wCons (wB lenD (wCons (wName 0) wNil)) wNil)) (gN 2) (wSeq (wSet .fz 3 (w2 addD (wSl (wName 0) wNoPart (wPart (wName 2))) (wSl (wName 0) (wPart (w2 addD (wName 2) (wC (.fz (.int 1))))) wNoPart)))
    (wSet .fz 1 (w2 addD (wName 1) (wLc (wSrc (wCall spI (wCons (wName 3) wNil))) (gN 4) wYes (w2 addD (wTup (wCons (wIx (wName 0) (wName 2)) wNil)) (wName 4)) [4])))))
    (wRet (wName 1)))))
theorem cut_take (ds : List D) (k : Nat) (h : k ≤ ds.length) : cutD ds none (some (k : Int)) = ds.take k := by
  unfold cutD
  rw [HT.sIx_nat, HT.sIx_none, Nat.min_eq_left h]; simp
theorem cut_drop (ds : List D) (k : Nat) (h : k + 1 ≤ ds.length) : cutD ds (some ((k : Int) + 1)) none = ds.drop (k + 1) := by
  unfold cutD
  rw [show ((k : Int) + 1) = ((k + 1 : Nat) : Int) by omega, HT.sIx_nat, HT.sIx_none, Nat.min_eq_left h]
  exact List.take_of_length_le (by rw [List.length_drop]; omega)
theorem flat_len {α β : Type} {f : α → List β} {c : Nat} : ∀ (l : List α), (∀ x ∈ l, (f x).length ≤ c) → (l.flatMap f).length ≤ c * l.length
  | [], _ => by simp
  | x :: l, h => by
    have h1 := h x (List.mem_cons_self ..)
    have h2 := flat_len l fun y hy => h y (List.mem_cons_of_mem _ hy)
    rw [List.flatMap_cons, List.length_append, List.length_cons, Nat.mul_add, Nat.mul_one]; omega
def fct : Nat → Nat
  | 0 => 1
  | m + 1 => fct m * (m + 2)
theorem perms_fct : ∀ (m : Nat) (xs : List Int), xs.length ≤ m + 1 → (perms m xs).length ≤ fct m ∧ ∀ r ∈ perms m xs, r.length = xs.length
  | 0, xs, h => ⟨by simp [perms, fct], fun r hr => by simp [perms] at hr; rw [hr]⟩
  | m + 1, xs, h => by
    have fp : ∀ m, 1 ≤ fct m := fun m => by
      induction m with
      | zero => decide
      | succ m ih => exact Nat.le_trans ih (Nat.le_mul_of_pos_right _ (by omega))
    unfold perms
    by_cases h2 : xs.length < 2
    · rw [if_pos h2]
      exact ⟨fp _, fun r hr => by simp at hr; rw [hr]⟩
    · rw [if_neg h2]
      have ll : ∀ k, k < xs.length → (xs.take k ++ xs.drop (k + 1)).length + 1 = xs.length := fun k hk => by rw [List.length_append, List.length_take, List.length_drop]; omega
      constructor
      · have := flat_len (f := fun k => (perms m (xs.take k ++ xs.drop (k + 1))).map fun r => xs.getD k 0 :: r) (c := fct m) (List.range xs.length) fun k hk => by
          have := ll k (List.mem_range.mp hk)
          rw [List.length_map]
          exact (perms_fct m _ (by omega)).1
        rw [List.length_range] at this
        exact Nat.le_trans this (Nat.mul_le_mul_left _ (by omega))
      · intro r hr
        obtain ⟨k, hk, hr⟩ := List.mem_flatMap.mp hr
        obtain ⟨q, hq, rfl⟩ := List.mem_map.mp hr
        have l1 := ll k (List.mem_range.mp hk)
        have := (perms_fct m _ (by omega)).2 q hq
        rw [List.length_cons]; omega
theorem perms_len (m : Nat) : ∀ xs : List Int, xs.length ≤ m + 1 → m ≤ 2 → (perms m xs).length ≤ 6 ∧ ∀ r ∈ perms m xs, r.length = xs.length := fun xs h hm => by
  have p := perms_fct m xs h
  refine ⟨Nat.le_trans p.1 ?_, p.2⟩
  match m, hm with
  | 0, _ => decide
  | 1, _ => decide
  | 2, _ => decide
theorem ord_for {m : Nat} (hm : m ≤ 1) {xs : List Int} (hx : xs.length ≤ m + 2) {De : DEnds} (fin : ∀ s2 s3 s4, De.nx [.fz (boxD xs), .fz (.list (((List.range xs.length).flatMap fun k => (perms m (xs.take k ++ xs.drop (k + 1))).map fun r => xs.getD k 0 :: r).map boxD)), s2, s3, s4]) :
    ∀ (r k : Nat) (s2 s3 s4 : Sl), k + r = xs.length → wFor (gN 2) (wo_for (sp_ord m)) ((List.range' k r).map fun i => .int (i : Nat)) [.fz (boxD xs), .fz (.list (((List.range k).flatMap fun k => (perms m (xs.take k ++ xs.drop (k + 1))).map fun r => xs.getD k 0 :: r).map boxD)), s2, s3, s4] De
  | 0, k, s2, s3, s4, e => by
    have e' : k = xs.length := by omega
    subst e'
    exact fin s2 s3 s4
  | r + 1, k, s2, s3, s4, e => by
    rw [List.range'_succ, List.map_cons]
    have hk : k < xs.length := by omega
    have el : (xs.map PyData.int).length = xs.length := List.length_map ..
    have c1 : slD (boxD xs) none (some (k : Int)) = some (boxD (xs.take k)) := by
      show some (PyData.tuple (cutD (xs.map .int) none (some (k : Int)))) = _
      rw [cut_take _ _ (by rw [el]; omega), ← List.map_take]; rfl
    have c2 : slD (boxD xs) (some ((k : Int) + 1)) none = some (boxD (xs.drop (k + 1))) := by
      show some (PyData.tuple (cutD (xs.map .int) (some ((k : Int) + 1)) none)) = _
      rw [cut_drop _ _ (by rw [el]; omega), ← List.map_drop]; rfl
    have c3 : addD (boxD (xs.take k)) (boxD (xs.drop (k + 1))) = some (boxD (xs.take k ++ xs.drop (k + 1))) := by
      show (if ((xs.take k).map PyData.int).length + ((xs.drop (k + 1)).map PyData.int).length ≤ sizeLine then some (PyData.tuple ((xs.take k).map .int ++ (xs.drop (k + 1)).map .int)) else none) = _
      rw [if_pos (by simp [sizeLine_eq]; omega), ← List.map_append]; rfl
    have ll : (xs.take k ++ xs.drop (k + 1)).length ≤ m + 1 := by rw [List.length_append, List.length_take, List.length_drop]; omega
    obtain ⟨p1, p2⟩ := perms_len m _ ll (by omega)
    have ix : ixD (boxD xs) (.int (k : Nat)) = some (.int (xs.getD k 0)) := by
      refine L2.atI_nat ?_
      rw [List.getElem?_map, List.getD_eq_getElem?_getD, List.getElem?_eq_getElem hk]; rfl
    refine ⟨_, rfl, ?_⟩
    refine ⟨_, rfl, _, rfl, k, rfl, _, c1, _, rfl, _, rfl, .int (k + 1), rfl, (k : Int) + 1, rfl, _, c2, _, c3, _, rfl, ?_⟩
    refine ⟨_, rfl, _, rfl, _, rfl, ll, by omega, (perms m (xs.take k ++ xs.drop (k + 1))).map boxD, rfl, ?_⟩
    refine lc_enc boxD (fun r => boxD (xs.getD k 0 :: r)) _ (fun r hr => ⟨_, rfl, fun R q => ?_⟩) (by rw [sizeLine_eq]; omega) ?_
    · refine ⟨_, rfl, _, rfl, _, ix, _, rfl, (show 1 ≤ sizeLine by decide), _, rfl, boxD (xs.getD k 0 :: r), ?_, q⟩
      have := p2 r hr
      show (if [PyData.int (xs.getD k 0)].length + (r.map PyData.int).length ≤ sizeLine then some (PyData.tuple ([PyData.int (xs.getD k 0)] ++ r.map .int)) else none) = _
      rw [if_pos (by simp [sizeLine_eq]; omega)]; rfl
    · have la := flat_len (f := fun k => (perms m (xs.take k ++ xs.drop (k + 1))).map fun r => xs.getD k 0 :: r) (c := 6) (List.range k) fun j hj => by
        have hj' := List.mem_range.mp hj
        rw [List.length_map]
        exact (perms_len m _ (by rw [List.length_append, List.length_take, List.length_drop]; omega) (by omega)).1
      rw [List.length_range] at la
      have ih := ord_for hm hx fin r (k + 1) (.fz (.int (k : Nat))) (.fz (boxD (xs.take k ++ xs.drop (k + 1)))) s4 (by omega)
      rw [List.range_succ, List.flatMap_append, List.map_append] at ih
      refine ⟨_, if_pos (by rw [List.length_map, List.length_map, sizeLine_eq]; omega), _, rfl, ?_⟩
      have e1 : ([k] : List Nat).flatMap (fun k => (perms m (xs.take k ++ xs.drop (k + 1))).map fun r => xs.getD k 0 :: r) = (perms m (xs.take k ++ xs.drop (k + 1))).map fun r => xs.getD k 0 :: r := by simp
      rw [e1, List.map_map] at ih
      exact ih
theorem lt2 (n : Nat) : ltD (.int (n : Nat)) (.int 2) = some (.bool (decide (n < 2))) := by
  show some (PyData.bool (decide ((n : Int) < 2))) = _
  congr 2
  rw [decide_eq_decide]; omega
theorem ok_ord_small {xs : List Int} {spI : DL.Spec} {Q : D → Prop} (h : xs.length < 2) (q : Q (.list ([xs].map boxD))) : ws__law_orders_of spI (env0 5 [.fz (boxD xs)]) (endsOf Q) := by
  refine ⟨_, rfl, .int (xs.map PyData.int).length, rfl, _, lt2 _, _, rfl, ifT (by rw [List.length_map]; exact decide_eq_true h) ?_⟩
  exact ⟨_, rfl, _, rfl, (show 1 ≤ sizeLine by decide), _, rfl, q⟩
theorem ok_ord_0 {spI : DL.Spec} : ∀ as Q, sp_ord 0 as Q → ws__law_orders_of spI (env0 5 as) (endsOf Q) := by
  rintro as Q ⟨xs, rfl, h1, _, q⟩
  exact ok_ord_small (by omega) q
theorem ok_ord_s (m : Nat) : ∀ as Q, sp_ord (m + 1) as Q → ws__law_orders_of (sp_ord m) (env0 5 as) (endsOf Q) := by
  rintro as Q ⟨xs, rfl, h1, h2, q⟩
  by_cases h : xs.length < 2
  · unfold perms at q
    rw [if_pos h] at q
    exact ok_ord_small h q
  · unfold perms at q
    rw [if_neg h] at q
    refine ⟨_, rfl, .int (xs.map PyData.int).length, rfl, _, lt2 _, _, rfl, ifF (by rw [List.length_map]; exact decide_eq_false h) ?_⟩
    refine ⟨[], rfl, Nat.zero_le _, _, rfl, _, rfl, .int (xs.map PyData.int).length, rfl, _, rngV (by rw [List.length_map]; omega), ?_⟩
    rw [List.length_map]
    refine ord_for (m := m) (by omega) (by omega) ?_ xs.length 0 .no .no .no (by omega)
    exact fun s2 s3 s4 => ⟨_, rfl, _, rfl, q⟩
end K42
namespace K42
open PySem DL PF
def fits (r ys : List Int) : Bool := (List.range r.length).all fun k => decide (r.getD k 0 < ys.getD k 0)
def rowsOf (xs : List Int) (t : Bool) : List (List Int) := if t then perms 2 xs else [xs]
def lawGo (xs ys : List Int) (t : Bool) : Bool := (rowsOf xs t).any fun r => fits r ys
abbrev sp__law_orders_of : DL.Spec := sp_ord 2
def sp__law_goes : DL.Spec := fun as Q => ∃ (xs ys : List Int) (t : Bool), as = [.fz (boxD xs), .fz (boxD ys), .fz (.bool t)] ∧ xs.length ≤ 3 ∧ ys.length = xs.length ∧ Q (.bool (lawGo xs ys t))
theorem len__law_goes : ∀ as Q, sp__law_goes as Q → as.length = 3 := by rintro as Q ⟨xs, ys, t, rfl, _⟩; rfl
def wg_if : WS := (wIfS (wTest (w2 eqD (wLc (wRng rng1 (wCons (wB lenD (wCons (wName 3) wNil)) wNil)) (gN 4) (wTest (w2 geD (wIx (wName 3) (wName 4)) (wIx (wName 1) (wName 4)))) (wName 4) [4]) (wLst wNil))) (wRet (wC (.fz (.bool true)))) wNext)
def ws__law_goes : WS := (wSeq (wForI (wSrc (wIf (wTest (wName 2)) (wCall sp__law_orders_of (wCons (wName 0) wNil)) (wLst (wCons (wName 0) wNil)))) (gN 3) (wIfS (wTest (w2 eqD (wLc (wRng rng1 (wCons (wB lenD (wCons (wName 3) wNil)) wNil)) (gN 4) (wTest (w2 geD (wIx (wName 3) (wName 4)) (wIx (wName 1) (wName 4)))) (wName 4) [4]) (wLst wNil))) (wRet (wC (.fz (.bool true)))) wNext))
    (wRet (wC (.fz (.bool false)))))
theorem ix_side {r : List Int} {k : Nat} (h : k < r.length) : ixD (boxD r) (.int (k : Nat)) = some (.int (r.getD k 0)) := by
  refine L2.atI_nat ?_
  rw [List.getElem?_map, List.getD_eq_getElem?_getD, List.getElem?_eq_getElem h]; rfl
theorem eq_nil_ints (W : List Int) : eqD (.list (W.map .int)) (.list []) = some (.bool (decide (W = []))) := by
  have h1 := ints_shaped W
  have h2 := ints_eqv W
  unfold intL at h1 h2
  unfold eqD
  rw [if_pos ⟨h1, by decide⟩, h2]
theorem goes_for {xs ys : List Int} {t : Bool} {De : DEnds} (hl : ys.length ≤ 3) : ∀ (rs : List (List Int)) (s3 s4 : Sl), (∀ r ∈ rs, r.length = ys.length) → ((rs.any fun r => fits r ys) = true → De.rt (.fz (.bool true))) → ((rs.any fun r => fits r ys) = false → ∀ s3 s4, De.nx [.fz (boxD xs), .fz (boxD ys), .fz (.bool t), s3, s4]) →
    wFor (gN 3) wg_if (rs.map boxD) [.fz (boxD xs), .fz (boxD ys), .fz (.bool t), s3, s4] De
  | [], s3, s4, _, _, h => h rfl s3 s4
  | r :: rs, s3, s4, hr, h1, h2 => by
    have hl' := hr r (List.mem_cons_self ..)
    refine ⟨_, rfl, ?_⟩
    refine ⟨_, rfl, .int (r.map PyData.int).length, rfl, _, rngV (by rw [List.length_map]; omega), ?_⟩
    rw [List.length_map]
    refine lc_encF (fun i : Nat => .int (i : Nat)) (fun i : Nat => .int (i : Nat)) (fun k => decide (ys.getD k 0 ≤ r.getD k 0)) _ [] (fun k hk => ⟨_, rfl, fun R q => ?_, fun _ R q => ⟨_, rfl, q⟩⟩) (by simp [sizeLine_eq]; omega) ?_
    · have hk' : k < r.length := by simpa using hk
      exact ⟨_, rfl, _, rfl, _, ix_side hk', _, rfl, _, rfl, _, ix_side (by omega), _, rfl, _, rfl, q⟩
    · have e : (List.filter (fun k => decide (ys.getD k 0 ≤ r.getD k 0)) (List.range' 0 r.length) = []) ↔ fits r ys = true := by
        rw [List.filter_eq_nil_iff]
        simp only [fits, List.all_eq_true, decide_eq_true_eq, List.range_eq_range']
        exact ⟨fun z k hk => by have := z k hk; omega, fun z k hk => by have := z k hk; omega⟩
      have eq := eq_nil_ints ((List.filter (fun k => decide (ys.getD k 0 ≤ r.getD k 0)) (List.range' 0 r.length)).map fun (i : Nat) => ((i : Nat) : Int))
      rw [List.map_map] at eq
      refine ⟨[], rfl, Nat.zero_le _, _, eq, _, rfl, ?_⟩
      cases hf : fits r ys with
      | true => exact ifT (by rw [decide_eq_true_eq, e.mpr hf]; rfl) (h1 (by simp [hf]))
      | false =>
        refine ifF (by rw [decide_eq_false_iff_not]; intro z; have := e.mp (List.map_eq_nil_iff.mp z); rw [hf] at this; cases this) ?_
        exact goes_for hl rs _ _ (fun q hq => hr q (List.mem_cons_of_mem _ hq)) (fun z => h1 (by simp [hf]; simpa using z)) (fun z => h2 (by simp [hf]; simpa using z))
theorem ok_ws__law_goes : ∀ as Q, sp__law_goes as Q → ws__law_goes (env0 5 as) (endsOf Q) := by
  rintro as Q ⟨xs, ys, t, rfl, h3, hy, q⟩
  refine ⟨_, rfl, t, rfl, ?_⟩
  cases t with
  | true =>
    refine ifT rfl ⟨_, rfl, xs, rfl, by omega, by omega, (perms 2 xs).map boxD, rfl, ?_⟩
    refine goes_for (by omega) _ .no .no (fun r hr => by rw [(perms_len 2 xs (by omega) (by omega)).2 r hr, hy]) (fun z => ⟨_, rfl, ?_⟩) (fun z s3 s4 => ⟨_, rfl, ?_⟩)
    · have : lawGo xs ys true = true := z
      rw [this] at q; exact q
    · have : lawGo xs ys true = false := z
      rw [this] at q; exact q
  | false =>
    refine ifF rfl ⟨_, rfl, _, rfl, (show 1 ≤ sizeLine by decide), [boxD xs], rfl, ?_⟩
    refine goes_for (by omega) [xs] .no .no (fun r hr => by simp at hr; rw [hr, hy]) (fun z => ⟨_, rfl, ?_⟩) (fun z s3 s4 => ⟨_, rfl, ?_⟩)
    · have : lawGo xs ys false = true := z
      rw [this] at q; exact q
    · have : lawGo xs ys false = false := z
      rw [this] at q; exact q
end K42
namespace K42
open PySem DL PF
/-! ### some way to put a lies below b <-> sorted a lies below sorted b -/
theorem srt_eq {xs l : List Int} (h : l.Pairwise (fun a b => a ≤ b)) (p : l.Perm xs) : srt xs = l := by
  refine List.Perm.eq_of_pairwise (le := fun a b => a ≤ b) (fun a b _ _ h1 h2 => Int.le_antisymm h1 h2) ?_ h ((List.mergeSort_perm _ _).trans p.symm)
  have := List.pairwise_mergeSort (le := fun a b : Int => decide (a ≤ b)) (fun a b c h1 h2 => by simp at *; omega) (fun a b => by simp; omega) xs
  exact this.imp fun h => by simpa using h
theorem srt2 (a b : Int) : srt [a, b] = [min a b, max a b] := by
  refine srt_eq (by simp; omega) ?_
  by_cases h : a ≤ b
  · rw [Int.min_eq_left h, Int.max_eq_right h]
  · rw [Int.min_eq_right (by omega), Int.max_eq_left (by omega)]
    exact List.Perm.swap _ _ _
theorem prm1 (a b c : Int) : [b, c, a].Perm [a, b, c] := by
  have : ([b, c] ++ [a]).Perm ([a] ++ [b, c]) := List.perm_append_comm
  exact this
theorem prm2 (a b c : Int) : [c, a, b].Perm [a, b, c] := (prm1 c a b).symm
theorem prm3 (a b c : Int) : [c, b, a].Perm [a, b, c] := (List.Perm.swap b c [a]).trans (prm1 a b c |>.trans (List.Perm.refl _) |> fun h => by
  exact h)
theorem srt3 (a b c : Int) : srt [a, b, c] = [min (min a b) c, max (min a b) (min (max a b) c), max (max a b) c] := by
  refine srt_eq (by simp; omega) ?_
  rcases Int.le_total a b with h1 | h1 <;> rcases Int.le_total b c with h2 | h2 <;> rcases Int.le_total a c with h3 | h3
  · rw [show min (min a b) c = a by omega, show max (min a b) (min (max a b) c) = b by omega, show max (max a b) c = c by omega]
  · rw [show min (min a b) c = a by omega, show max (min a b) (min (max a b) c) = b by omega, show max (max a b) c = c by omega]
  · rw [show min (min a b) c = a by omega, show max (min a b) (min (max a b) c) = c by omega, show max (max a b) c = b by omega]
    exact (List.Perm.swap b c []).cons a
  · rw [show min (min a b) c = c by omega, show max (min a b) (min (max a b) c) = a by omega, show max (max a b) c = b by omega]
    exact prm2 a b c
  · rw [show min (min a b) c = b by omega, show max (min a b) (min (max a b) c) = a by omega, show max (max a b) c = c by omega]
    exact List.Perm.swap a b [c]
  · rw [show min (min a b) c = b by omega, show max (min a b) (min (max a b) c) = c by omega, show max (max a b) c = a by omega]
    exact prm1 a b c
  · rw [show min (min a b) c = c by omega, show max (min a b) (min (max a b) c) = b by omega, show max (max a b) c = a by omega]
    exact prm3 a b c
  · rw [show min (min a b) c = c by omega, show max (min a b) (min (max a b) c) = b by omega, show max (max a b) c = a by omega]
    exact prm3 a b c
theorem sorted3 (a b c : Int) : ∃ x y z : Int, x ≤ y ∧ y ≤ z ∧ srt [a, b, c] = [x, y, z] ∧ ((a = x ∧ b = y ∧ c = z) ∨ (a = x ∧ b = z ∧ c = y) ∨ (a = y ∧ b = x ∧ c = z) ∨ (a = y ∧ b = z ∧ c = x) ∨ (a = z ∧ b = x ∧ c = y) ∨ (a = z ∧ b = y ∧ c = x)) :=
  ⟨_, _, _, by omega, by omega, srt3 a b c, by omega⟩
theorem sorted2 (a b : Int) : ∃ x y : Int, x ≤ y ∧ srt [a, b] = [x, y] ∧ ((a = x ∧ b = y) ∨ (a = y ∧ b = x)) :=
  ⟨_, _, by omega, srt2 a b, by omega⟩
theorem srt1 (a : Int) : srt [a] = [a] := srt_eq (by simp) (List.Perm.refl _)
theorem go1 (a d : Int) (t : Bool) : lawGo [a] [d] t = goes [a] [d] t := by
  have e : ∀ t, lawGo [a] [d] t = ((decide (a < d) && true) || false) := fun t => by cases t <;> rfl
  rw [e]
  cases t <;> simp [goes, srt1]
theorem go2 (a b d e : Int) (t : Bool) : lawGo [a, b] [d, e] t = goes [a, b] [d, e] t := by
  cases t with
  | false =>
    have h : lawGo [a, b] [d, e] false = ((decide (a < d) && (decide (b < e) && true)) || false) := rfl
    rw [h]
    simp [goes]
  | true =>
    have h : lawGo [a, b] [d, e] true = ((decide (a < d) && (decide (b < e) && true)) || ((decide (b < d) && (decide (a < e) && true)) || false)) := rfl
    rw [h]
    obtain ⟨x, y, h1, h2, h3⟩ := sorted2 a b
    obtain ⟨u, v, k1, k2, k3⟩ := sorted2 d e
    simp only [goes, if_true, h2, k2, List.zip_cons_cons, List.zip_nil_right, List.all_cons, List.all_nil, Bool.and_true, Bool.or_false]
    rw [Bool.eq_iff_iff]
    simp only [Bool.or_eq_true, Bool.and_eq_true, decide_eq_true_eq]
    rcases h3 with ⟨rfl, rfl⟩ | ⟨rfl, rfl⟩ <;> rcases k3 with ⟨rfl, rfl⟩ | ⟨rfl, rfl⟩ <;> omega
theorem go3 (a b c d e f : Int) (t : Bool) : lawGo [a, b, c] [d, e, f] t = goes [a, b, c] [d, e, f] t := by
  cases t with
  | false =>
    have h : lawGo [a, b, c] [d, e, f] false = ((decide (a < d) && (decide (b < e) && (decide (c < f) && true))) || false) := rfl
    rw [h]
    simp [goes]
  | true =>
    have h : lawGo [a, b, c] [d, e, f] true = ((decide (a < d) && (decide (b < e) && (decide (c < f) && true))) || ((decide (a < d) && (decide (c < e) && (decide (b < f) && true))) || ((decide (b < d) && (decide (a < e) && (decide (c < f) && true))) || ((decide (b < d) && (decide (c < e) && (decide (a < f) && true))) || ((decide (c < d) && (decide (a < e) && (decide (b < f) && true))) || ((decide (c < d) && (decide (b < e) && (decide (a < f) && true))) || false)))))) := rfl
    rw [h]
    obtain ⟨x, y, z, h1, h1', h2, h3⟩ := sorted3 a b c
    obtain ⟨u, v, w, k1, k1', k2, k3⟩ := sorted3 d e f
    simp only [goes, if_true, h2, k2, List.zip_cons_cons, List.zip_nil_right, List.all_cons, List.all_nil, Bool.and_true, Bool.or_false]
    rw [Bool.eq_iff_iff]
    simp only [Bool.or_eq_true, Bool.and_eq_true, decide_eq_true_eq]
    clear h h2 k2
    constructor
    · intro q
      rcases h3 with ⟨rfl, rfl, rfl⟩ | ⟨rfl, rfl, rfl⟩ | ⟨rfl, rfl, rfl⟩ | ⟨rfl, rfl, rfl⟩ | ⟨rfl, rfl, rfl⟩ | ⟨rfl, rfl, rfl⟩ <;> rcases k3 with ⟨rfl, rfl, rfl⟩ | ⟨rfl, rfl, rfl⟩ | ⟨rfl, rfl, rfl⟩ | ⟨rfl, rfl, rfl⟩ | ⟨rfl, rfl, rfl⟩ | ⟨rfl, rfl, rfl⟩ <;> rcases q with q | q | q | q | q | q <;> omega
    · rintro ⟨q1, q2, q3⟩
      rcases h3 with ⟨rfl, rfl, rfl⟩ | ⟨rfl, rfl, rfl⟩ | ⟨rfl, rfl, rfl⟩ | ⟨rfl, rfl, rfl⟩ | ⟨rfl, rfl, rfl⟩ | ⟨rfl, rfl, rfl⟩ <;> rcases k3 with ⟨rfl, rfl, rfl⟩ | ⟨rfl, rfl, rfl⟩ | ⟨rfl, rfl, rfl⟩ | ⟨rfl, rfl, rfl⟩ | ⟨rfl, rfl, rfl⟩ | ⟨rfl, rfl, rfl⟩ <;> simp only [q1, q2, q3, true_and, and_true, true_or, or_true, and_self]
theorem lawGo_eq {xs ys : List Int} (t : Bool) (h1 : 1 ≤ xs.length) (h3 : xs.length ≤ 3) (hy : ys.length = xs.length) : lawGo xs ys t = goes xs ys t := by
  match xs, ys, h1, h3, hy with
  | [a], [d], _, _, _ => exact go1 a d t
  | [a, b], [d, e], _, _, _ => exact go2 a b d e t
  | [a, b, c], [d, e, f], _, _, _ => exact go3 a b c d e f t
/-! ### goes-in is a strict order -/
def blw (xs ys : List Int) : Bool := (xs.zip ys).all fun p => decide (p.1 < p.2)
theorem blw_irr : ∀ {xs : List Int}, 1 ≤ xs.length → blw xs xs = false
  | x :: xs, _ => by simp [blw]
theorem blw_trans : ∀ {xs ys zs : List Int}, ys.length = xs.length → zs.length = ys.length → blw xs ys = true → blw ys zs = true → blw xs zs = true
  | [], _, _, _, _, _, _ => by simp [blw]
  | x :: xs, y :: ys, z :: zs, e1, e2, h1, h2 => by
    simp only [blw, List.zip_cons_cons, List.all_cons, Bool.and_eq_true, decide_eq_true_eq] at h1 h2 ⊢
    refine ⟨by omega, ?_⟩
    exact blw_trans (by simpa using e1) (by simpa using e2) h1.2 h2.2
theorem goes_blw (xs ys : List Int) (t : Bool) : goes xs ys t = if t then blw (srt xs) (srt ys) else blw xs ys := by cases t <;> rfl
theorem goB_irr {bs : List (List Int)} (B : Bxs bs) (t : Bool) {i : Nat} (hi : i < bs.length) : goB bs t i i = false := by
  obtain ⟨w, w1, w3, hw⟩ := B.wd
  have hl : (bs.getD i []).length = w := by
    rw [List.getD_eq_getElem?_getD, List.getElem?_eq_getElem hi]
    exact hw _ (List.getElem_mem hi)
  unfold goB
  rw [goes_blw]
  cases t with
  | true => simp only [if_true]; exact blw_irr (by rw [srt_len]; omega)
  | false => simp only [Bool.false_eq_true, if_false]; exact blw_irr (by omega)
theorem Bxs.lenD {bs : List (List Int)} (B : Bxs bs) : ∃ w, 1 ≤ w ∧ w ≤ 3 ∧ ∀ i, i < bs.length → (bs.getD i []).length = w := by
  obtain ⟨w, w1, w3, hw⟩ := B.wd
  refine ⟨w, w1, w3, fun i hi => ?_⟩
  rw [List.getD_eq_getElem?_getD, List.getElem?_eq_getElem hi]
  exact hw _ (List.getElem_mem hi)
theorem goB_trans {bs : List (List Int)} (B : Bxs bs) (t : Bool) {i j k : Nat} (hi : i < bs.length) (hj : j < bs.length) (hk : k < bs.length) (h1 : goB bs t i j = true) (h2 : goB bs t j k = true) : goB bs t i k = true := by
  obtain ⟨w, w1, w3, hw⟩ := Bxs.lenD B
  unfold goB at *
  rw [goes_blw] at *
  cases t with
  | true =>
    simp only [if_true] at *
    exact blw_trans (by rw [srt_len, srt_len, hw j hj, hw i hi]) (by rw [srt_len, srt_len, hw j hj, hw k hk]) h1 h2
  | false =>
    simp only [Bool.false_eq_true, if_false] at *
    exact blw_trans (by rw [hw j hj, hw i hi]) (by rw [hw j hj, hw k hk]) h1 h2
theorem mem_prsOf {bs : List (List Int)} {t : Bool} {p : Pr} : p ∈ prsOf bs t ↔ ∃ i j : Nat, p = ((i : Int), (j : Int)) ∧ i < bs.length ∧ j < bs.length ∧ goB bs t i j = true := by
  unfold prsOf
  simp only [List.mem_flatMap, List.mem_map, List.mem_filter, List.mem_range]
  constructor
  · rintro ⟨i, hi, j, ⟨hj, hg⟩, rfl⟩
    exact ⟨i, j, rfl, hi, hj, hg⟩
  · rintro ⟨i, j, rfl, hi, hj, hg⟩
    exact ⟨i, hi, j, ⟨hj, hg⟩, rfl⟩
theorem rch_prsOf {bs : List (List Int)} (B : Bxs bs) {t : Bool} {x y : Int} (h : Rch (prsOf bs t) x y) : ∃ i j : Nat, x = i ∧ y = j ∧ i < bs.length ∧ j < bs.length ∧ goB bs t i j = true := by
  induction h with
  | one e =>
    obtain ⟨i, j, e, hi, hj, hg⟩ := mem_prsOf.mp e
    injection e with e1 e2
    exact ⟨i, j, e1, e2, hi, hj, hg⟩
  | more _ e ih =>
    obtain ⟨i, j, rfl, e3, hi, hj, hg⟩ := ih
    obtain ⟨k, l, e, hk, hl, hg2⟩ := mem_prsOf.mp e
    injection e with e1 e2
    have ejk : j = k := by omega
    subst ejk
    exact ⟨i, l, rfl, e2, hi, hl, goB_trans B t hi hj hl hg hg2⟩
theorem asc_of : ∀ {ps : List Pr}, ps.Pairwise (fun p q => ltP p q = true) → asc ps = true
  | [], _ => rfl
  | [p], _ => rfl
  | p :: q :: r, h => by
    rw [List.pairwise_cons] at h
    simp only [asc, Bool.and_eq_true]
    exact ⟨h.1 q (List.mem_cons_self ..), asc_of h.2⟩
theorem prsOf_asc (bs : List (List Int)) (t : Bool) : asc (prsOf bs t) = true := by
  refine asc_of ?_
  unfold prsOf
  rw [List.pairwise_flatMap]
  refine ⟨fun i _ => ?_, ?_⟩
  · rw [List.pairwise_map]
    refine List.Pairwise.imp ?_ (List.Pairwise.filter _ List.pairwise_lt_range)
    intro a b h
    simp [ltP, h]
  · refine List.Pairwise.imp ?_ List.pairwise_lt_range
    intro a b h x hx y hy
    obtain ⟨j, _, rfl⟩ := List.mem_map.mp hx
    obtain ⟨k, _, rfl⟩ := List.mem_map.mp hy
    simp [ltP, h]
theorem prsOf_len (bs : List (List Int)) (t : Bool) (h : bs.length ≤ 12) : (prsOf bs t).length ≤ 144 := by
  have := flat_len (f := fun i => ((List.range bs.length).filter (goB bs t i)).map fun (j : Nat) => (((i : Nat) : Int), ((j : Nat) : Int))) (c := 12) (List.range bs.length) fun i _ => by
    rw [List.length_map]
    have := List.length_filter_le (goB bs t i) (List.range bs.length)
    rw [List.length_range] at this
    omega
  rw [List.length_range] at this
  unfold prsOf
  omega
theorem ord_prsOf {bs : List (List Int)} (B : Bxs bs) (t : Bool) : Ord bs.length (prsOf bs t) := by
  refine ⟨B.lo, B.hi, fun p hp => ?_, prsOf_asc bs t, fun k h => ?_, by have := prsOf_len bs t B.hi; omega⟩
  · obtain ⟨i, j, rfl, hi, hj, hg⟩ := mem_prsOf.mp hp
    have ne : i ≠ j := fun z => by rw [z, goB_irr B t hj] at hg; cases hg
    simp only [isPair, decide_eq_true_eq]; omega
  · obtain ⟨i, j, e1, e2, hi, hj, hg⟩ := rch_prsOf B h
    have e : i = j := by omega
    subst e
    rw [goB_irr B t hi] at hg; cases hg
theorem rch_iff {bs : List (List Int)} (B : Bxs bs) (t : Bool) {i j : Nat} (hi : i < bs.length) (hj : j < bs.length) : Rch (prsOf bs t) i j ↔ goB bs t i j = true := by
  constructor
  · intro h
    obtain ⟨a, b, e1, e2, _, _, hg⟩ := rch_prsOf B h
    have ea : i = a := by omega
    have eb : j = b := by omega
    subst ea; subst eb
    exact hg
  · intro h
    exact .one (mem_prsOf.mpr ⟨i, j, rfl, hi, hj, h⟩)
theorem prs_small {bs : List (List Int)} {t : Bool} (h : bs.length ≤ 12) : ∀ p ∈ prsOf bs t, (0 ≤ p.1 ∧ p.1 ≤ 1000) ∧ 0 ≤ p.2 ∧ p.2 ≤ 1000 := fun p hp => by
  obtain ⟨i, j, rfl, hi, hj, _⟩ := mem_prsOf.mp hp
  simp only; omega
end K42
namespace K42
open PySem PySem.Spec PyProof.Rows L2 DL
abbrev s23 : Stmt := topS 23
abbrev nB : List Str := ["_law_script", "_law_great", "_law_cell"]
theorem sc23 : FnScope nB ["_law_script"] (defScope s23) := ⟨rfl, rfl, rfl, by decide +kernel, rfl, by decide +kernel, by decide +kernel⟩
section
variable {P : Program} {w : World} {K : PySem.W.Frag} {mg : Str → Option Value} {base : Heap}
def spBegun (K : PySem.W.Frag) : Sp := fun vs H Q _ => ∃ (a0 : Addr) (ns : List Int), vs = [.ref a0] ∧ SqL K H a0 (ns.map V.int) ∧ ns.length ≤ 63 ∧
  ∀ (a g c : Addr) (gs cs : List Int) (H' : Hp), Same H H' → H a = none → H g = none → H c = none → g ≠ c → H' a = some (stO "cells" "great" "spot" c g 0) → H' g = some (.lst (gs.map V.int)) → H' c = some (.lst (cs.map V.int)) → Q (.ref a) H'
theorem ok_begun {f : Addr} {fd : FuncData} (F : Fun K "_law_begun" "_law_begun" s23 f fd) (nL : mg "list" = none) : FnG P w K mg base CX0 2 f fd ["_law_script"] (spBegun K) := by
  obtain ⟨oc, od, kV, doc, pm, an, cdv, ct, osl, rfl, lk, hcd⟩ := F.ex
  refine fnG_of lk hcd sc23 (fun vs H Q E h => ?_) fun A outer s H vs Q E hgd hr h => ?_
  · obtain ⟨a0, ns, rfl, _⟩ := h
    rfl
  · obtain ⟨a0, ns, rfl, hS, hl, hq⟩ := h
    refine ⟨_, (pss_cons (ps_setLc (i := 1) rfl sc23.nd rfl rfl (sw_true rfl rfl rfl (by decide +kernel)) (pi_list (pv 0)) (blkOk_by (N := nB) (sc := defScope s23) (own := [("_law_cell", 2)]) (by decide +kernel))
        (fun _ _ _ _ _ => pg_name (i := 2) sc23.nd rfl (.inl rfl)) (fun _ _ _ _ _ => pts_one (pt_cmpR op_ge (pv 2) (pe_op op_pow pe_int pe_int) (nomark _))) (fun _ _ _ _ _ => pv 2))
      (pss_one (ps_ret (pe_disp (pps_cons pe_str (pe_callTy call_list_of (by rfl) nL (by decide +kernel) (pa_cons (pv 0) pa_nil)) (pps_cons pe_str (pv 1) (pps_cons pe_str pe_int pps_nil))) rfl rfl (by simp) (by decide))))).nox, ?_⟩
    refine ⟨.ref a0, rfl, a0, rfl, ⟨_, hS⟩, fun L nL => ⟨fun i m H' => m = ns.length - i ∧ i ≤ ns.length ∧ ∃ gs : List Int, gs.length ≤ i ∧ Same H H' ∧ H' L = some (.lst (gs.map V.int)), ⟨ns.length, by simp, Nat.zero_le _, [], Nat.le_refl 0, same_new nL, upd_same⟩, fun i m H1 hW => ?_⟩⟩
    obtain ⟨rfl, hi, gs, hg, sm, hL⟩ := hW
    by_cases hlt : i < ns.length
    · have gi : (ns.map V.int)[i]? = some (.int ns[i]) := by rw [List.getElem?_map, List.getElem?_eq_getElem hlt]; rfl
      refine .inr ⟨⟨ns.map V.int, .int ns[i], sm.seq hS, gi⟩, fun H' => ∃ gs' : List Int, gs'.length ≤ i + 1 ∧ Same H H' ∧ H' L = some (.lst (gs'.map V.int)), fun H' ⟨gs', h1, h2, h3⟩ => ⟨ns.length - (i + 1), by omega, rfl, hlt, gs', h1, h2, h3⟩, fun x H' hy => ?_⟩
      obtain ⟨rfl, fx⟩ := hy
      have ex : x = .int ns[i] := Option.some.inj ((fx _ (sm.seq hS)).symm.trans gi)
      subst ex
      refine ⟨rfl, .int ns[i], rfl, 10, 18, rfl, rfl, ⟨by decide, by decide, by decide⟩, _, _, rfl, rfl, _, rfl, ite2 (fun _ => ?_) (fun _ => ?_)⟩
      · refine ⟨.int ns[i], rfl, gs.map V.int, hL, by rw [List.length_map, sizeLine_eq]; omega, gs ++ [ns[i]], by rw [List.length_append]; exact Nat.succ_le_succ hg, fun b o e => ?_, by rw [upd_same, List.map_append]; rfl⟩
        rw [upd_ne (ne_of_none e nL)]
        exact sm b o e
      · exact ⟨gs, by omega, sm, hL⟩
    · refine .inl ⟨⟨_, sm.seq hS, by rw [List.length_map]; omega⟩, fun p np => ?_⟩
      have s1 : Same H (upd H1 p (.dK [])) := fun b o e => (same_new np) b o (sm b o e)
      refine ⟨.ref a0, rfl, a0, _, rfl, .inl (s1.seq hS), fun l nl => ?_⟩
      have lp : l ≠ p := fun z => by rw [z, upd_same] at nl; cases nl
      have Ll : L ≠ l := fun z => by rw [← z, upd_ne (fun y => by rw [y, np] at hL; cases hL)] at nl; rw [hL] at nl; cases nl
      have Lp : L ≠ p := fun z => by rw [z, np] at hL; cases hL
      refine ⟨.ref L, rfl, ?_, [(.inr "cells", .ref l), (.inr "great", .ref L), (.inr "spot", .int 0)], rfl, (by show 3 ≤ 15; decide), ?_⟩
      · rw [upd_ne lp.symm, upd_same]
      · have nl1 : H1 l = none := by rw [upd_ne lp] at nl; exact nl
        refine hq p L l gs ns _ ?_ (sm.free np) nL (sm.free nl1) Ll upd_same ?_ ?_
        · intro b o e
          have e1 := sm b o e
          rw [upd_ne (ne_of_none e1 np), upd_ne (ne_of_none e1 nl1), upd_ne (ne_of_none e1 np)]
          exact e1
        · rw [upd_ne Lp, upd_ne Ll, upd_ne Lp]; exact hL
        · rw [upd_ne lp, upd_same]
end
end K42
namespace K42
open PySem DL PF
abbrev sp__law_next := spNext
def wl_rest : WS := (wSeq (wSet .fz 13 (w2 inV' (wTup (wCons (wName 6) (wCons (wName 12) wNil))) (wName 10)))
    (wSeq (wIfS (wTest (w2 neD (wB reprD (wCons (wCallK 3 1 sp_goes_in (wCons (wName 5) (wCons (wName 6) (wCons (wName 12) wNil))) (wCons (wName 8) wNil)) wNil)) (wB reprD (wCons (wName 13) wNil)))) (wRet (wC (.fz (.bool false)))) wNext)
    (wIfS (wTest (w2 neD (wCall sp_is_within (wCons (wName 9) (wCons (wName 6) (wCons (wName 12) wNil)))) (wName 13))) (wRet (wC (.fz (.bool false)))) wNext)))
def wl_inner : WS := (wSeq (wIfS (wTest (wCall sp__law_goes (wCons (wIx (wName 5) (wName 6)) (wCons (wIx (wName 5) (wName 12)) (wCons (wName 8) wNil))))) (wApp 10 (wTup (wCons (wName 6) (wCons (wName 12) wNil)))) wNext)
    (wSeq (wSet .fz 13 (w2 inV' (wTup (wCons (wName 6) (wCons (wName 12) wNil))) (wName 10)))
    (wSeq (wIfS (wTest (w2 neD (wB reprD (wCons (wCallK 3 1 sp_goes_in (wCons (wName 5) (wCons (wName 6) (wCons (wName 12) wNil))) (wCons (wName 8) wNil)) wNil)) (wB reprD (wCons (wName 13) wNil)))) (wRet (wC (.fz (.bool false)))) wNext)
    (wIfS (wTest (w2 neD (wCall sp_is_within (wCons (wName 9) (wCons (wName 6) (wCons (wName 12) wNil)))) (wName 13))) (wRet (wC (.fz (.bool false)))) wNext))))
def wl_endw : WS := (wIfS (wOr (wTest (w2 neD (wB reprD (wCons (wName 9) wNil)) (wB reprD (wCons (wTup (wCons (wName 11) (wCons (wB tupleD (wCons (wName 10) wNil)) wNil))) wNil)))) (wTest (w2 neD (wCall sp_need_order (wCons (wName 9) wNil)) (wName 9)))) (wRet (wC (.fz (.bool false)))) wNext)
def wl_way : WS := (wSeq (wSet .fz 9 (wCallK 1 1 sp_order_of (wCons (wName 5) wNil) (wCons (wName 8) wNil)))
    (wSeq (wPar2 .own 10 .fz 11 (wLst wNil) (wB lenD (wCons (wName 5) wNil)))
    (wSeq (wForI (wRng rng1 (wCons (wName 11) wNil)) (gN 6) (wForI (wRng rng1 (wCons (wName 11) wNil)) (gN 12) (wSeq (wIfS (wTest (wCall sp__law_goes (wCons (wIx (wName 5) (wName 6)) (wCons (wIx (wName 5) (wName 12)) (wCons (wName 8) wNil))))) (wApp 10 (wTup (wCons (wName 6) (wCons (wName 12) wNil)))) wNext)
    (wSeq (wSet .fz 13 (w2 inV' (wTup (wCons (wName 6) (wCons (wName 12) wNil))) (wName 10)))
    (wSeq (wIfS (wTest (w2 neD (wB reprD (wCons (wCallK 3 1 sp_goes_in (wCons (wName 5) (wCons (wName 6) (wCons (wName 12) wNil))) (wCons (wName 8) wNil)) wNil)) (wB reprD (wCons (wName 13) wNil)))) (wRet (wC (.fz (.bool false)))) wNext)
    (wIfS (wTest (w2 neD (wCall sp_is_within (wCons (wName 9) (wCons (wName 6) (wCons (wName 12) wNil)))) (wName 13))) (wRet (wC (.fz (.bool false)))) wNext))))))
    (wIfS (wOr (wTest (w2 neD (wB reprD (wCons (wName 9) wNil)) (wB reprD (wCons (wTup (wCons (wName 11) (wCons (wB tupleD (wCons (wName 10) wNil)) wNil))) wNil)))) (wTest (w2 neD (wCall sp_need_order (wCons (wName 9) wNil)) (wName 9)))) (wRet (wC (.fz (.bool false)))) wNext))))
def wl_box (a : Addr) : WS := (wApp 5 (wB tupleD (wCons (wLc (wRng rng1 (wCons (wName 3) wNil)) (gN 7) wYes (w2 addD (wC (.fz (.int 1))) (wCall (sp__law_next a) (wCons (wName 1) (wCons (wName 4) wNil)))) [7]) wNil)))
def wl_endt : WS := (wIfS (wOr (wTest (w2 neD (wCallD sp_order_of [.fz (.bool false)] (wCons (wName 5) wNil)) (wCallK 1 1 sp_order_of (wCons (wName 5) wNil) (wCons (wC (.fz (.bool false))) wNil)))) (wTest (w2 isNotD (wCallD sp_goes_in [.fz (.bool false)] (wCons (wName 5) (wCons (wC (.fz (.int 0))) (wCons (wC (.fz (.int 0))) wNil)))) (wC (.fz (.bool false)))))) (wRet (wC (.fz (.bool false)))) wNext)
def wl_turn (a : Addr) : WS := (wSeq (wAsgT (wTup (wCons (w2 addD (wC (.fz (.int 1))) (wCall (sp__law_next a) (wCons (wName 1) (wCons (wC (.fz (.int 3))) wNil)))) (wCons (wCall (sp__law_of a) (wCons (wName 1) (wCons (wLst (wCons (wC (.fz (.int 4))) (wCons (wC (.fz (.int 9))) (wCons (w2 powD (wC (.fz (.int 10))) (wC (.fz (.int 6)))) wNil)))) wNil))) wNil))) (gTup' 2 (gCons' (gN 3) (gCons' (gN 4) gNil'))))
    (wSeq (wSet .own 5 (wLst wNil))
    (wSeq (wForI (wRng rng1 (wCons (w2 addD (wC (.fz (.int 1))) (wCall (sp__law_next a) (wCons (wName 1) (wCons (wC (.fz (.int 7))) wNil)))) wNil)) (gN 6) (wApp 5 (wB tupleD (wCons (wLc (wRng rng1 (wCons (wName 3) wNil)) (gN 7) wYes (w2 addD (wC (.fz (.int 1))) (wCall (sp__law_next a) (wCons (wName 1) (wCons (wName 4) wNil)))) [7]) wNil))))
    (wSeq (wSet .fz 5 (wB tupleD (wCons (wName 5) wNil)))
    (wSeq (wForI (wSrc (wTup (wCons (wC (.fz (.bool false))) (wCons (wC (.fz (.bool true))) wNil)))) (gN 8) (wSeq (wSet .fz 9 (wCallK 1 1 sp_order_of (wCons (wName 5) wNil) (wCons (wName 8) wNil)))
    (wSeq (wPar2 .own 10 .fz 11 (wLst wNil) (wB lenD (wCons (wName 5) wNil)))
    (wSeq (wForI (wRng rng1 (wCons (wName 11) wNil)) (gN 6) (wForI (wRng rng1 (wCons (wName 11) wNil)) (gN 12) (wSeq (wIfS (wTest (wCall sp__law_goes (wCons (wIx (wName 5) (wName 6)) (wCons (wIx (wName 5) (wName 12)) (wCons (wName 8) wNil))))) (wApp 10 (wTup (wCons (wName 6) (wCons (wName 12) wNil)))) wNext)
    (wSeq (wSet .fz 13 (w2 inV' (wTup (wCons (wName 6) (wCons (wName 12) wNil))) (wName 10)))
    (wSeq (wIfS (wTest (w2 neD (wB reprD (wCons (wCallK 3 1 sp_goes_in (wCons (wName 5) (wCons (wName 6) (wCons (wName 12) wNil))) (wCons (wName 8) wNil)) wNil)) (wB reprD (wCons (wName 13) wNil)))) (wRet (wC (.fz (.bool false)))) wNext)
    (wIfS (wTest (w2 neD (wCall sp_is_within (wCons (wName 9) (wCons (wName 6) (wCons (wName 12) wNil)))) (wName 13))) (wRet (wC (.fz (.bool false)))) wNext))))))
    (wIfS (wOr (wTest (w2 neD (wB reprD (wCons (wName 9) wNil)) (wB reprD (wCons (wTup (wCons (wName 11) (wCons (wB tupleD (wCons (wName 10) wNil)) wNil))) wNil)))) (wTest (w2 neD (wCall sp_need_order (wCons (wName 9) wNil)) (wName 9)))) (wRet (wC (.fz (.bool false)))) wNext)))))
    (wIfS (wOr (wTest (w2 neD (wCallD sp_order_of [.fz (.bool false)] (wCons (wName 5) wNil)) (wCallK 1 1 sp_order_of (wCons (wName 5) wNil) (wCons (wC (.fz (.bool false))) wNil)))) (wTest (w2 isNotD (wCallD sp_goes_in [.fz (.bool false)] (wCons (wName 5) (wCons (wC (.fz (.int 0))) (wCons (wC (.fz (.int 0))) wNil)))) (wC (.fz (.bool false)))))) (wRet (wC (.fz (.bool false)))) wNext))))))
def wl_last : WS := (wSeq (wSet .fz 14 (wLst (wCons (wCallD sp_goes_in [.fz (.bool false)] (wCons (wTup (wCons (wTup (wCons (wC (.fz (.int 2))) (wCons (wC (.fz (.int 5))) wNil))) (wCons (wTup (wCons (wC (.fz (.int 6))) (wCons (wC (.fz (.int 3))) wNil))) wNil))) (wCons (wC (.fz (.int 0))) (wCons (wC (.fz (.int 1))) wNil)))) (wCons (wCallK 3 1 sp_goes_in (wCons (wTup (wCons (wTup (wCons (wC (.fz (.int 2))) (wCons (wC (.fz (.int 5))) wNil))) (wCons (wTup (wCons (wC (.fz (.int 6))) (wCons (wC (.fz (.int 3))) wNil))) wNil))) (wCons (wC (.fz (.int 0))) (wCons (wC (.fz (.int 1))) wNil))) (wCons (wC (.fz (.bool true))) wNil)) wNil))))
    (wRet (wAndV (w2 eqD (wName 14) (wLst (wCons (wC (.fz (.bool false))) (wCons (wC (.fz (.bool true))) wNil)))) (w2 eqD (wCallD sp_order_of [.fz (.bool false)] (wCons (wTup (wCons (wTup (wCons (wC (.fz (.int 1))) wNil)) (wCons (wTup (wCons (wC (.fz (.int 1))) wNil)) (wCons (wTup (wCons (wC (.fz (.int 2))) wNil)) wNil)))) wNil)) (wTup (wCons (wC (.fz (.int 3))) (wCons (wTup (wCons (wTup (wCons (wC (.fz (.int 0))) (wCons (wC (.fz (.int 2))) wNil))) (wCons (wTup (wCons (wC (.fz (.int 1))) (wCons (wC (.fz (.int 2))) wNil))) wNil))) wNil)))))))
def ws_law (a a0 : Addr) (n : Nat) : WS := (wSeq (wForI (wRng rng1 (wCons (w2 addD (wC (.fz (.int 4))) (wB minD (wCons (wLenS 0 a0 n) (wCons (wC (.fz (.int 8))) wNil)))) wNil)) (gN 2) (wSeq (wAsgT (wTup (wCons (w2 addD (wC (.fz (.int 1))) (wCall (sp__law_next a) (wCons (wName 1) (wCons (wC (.fz (.int 3))) wNil)))) (wCons (wCall (sp__law_of a) (wCons (wName 1) (wCons (wLst (wCons (wC (.fz (.int 4))) (wCons (wC (.fz (.int 9))) (wCons (w2 powD (wC (.fz (.int 10))) (wC (.fz (.int 6)))) wNil)))) wNil))) wNil))) (gTup' 2 (gCons' (gN 3) (gCons' (gN 4) gNil'))))
    (wSeq (wSet .own 5 (wLst wNil))
    (wSeq (wForI (wRng rng1 (wCons (w2 addD (wC (.fz (.int 1))) (wCall (sp__law_next a) (wCons (wName 1) (wCons (wC (.fz (.int 7))) wNil)))) wNil)) (gN 6) (wApp 5 (wB tupleD (wCons (wLc (wRng rng1 (wCons (wName 3) wNil)) (gN 7) wYes (w2 addD (wC (.fz (.int 1))) (wCall (sp__law_next a) (wCons (wName 1) (wCons (wName 4) wNil)))) [7]) wNil))))
    (wSeq (wSet .fz 5 (wB tupleD (wCons (wName 5) wNil)))
    (wSeq (wForI (wSrc (wTup (wCons (wC (.fz (.bool false))) (wCons (wC (.fz (.bool true))) wNil)))) (gN 8) (wSeq (wSet .fz 9 (wCallK 1 1 sp_order_of (wCons (wName 5) wNil) (wCons (wName 8) wNil)))
    (wSeq (wPar2 .own 10 .fz 11 (wLst wNil) (wB lenD (wCons (wName 5) wNil)))
    (wSeq (wForI (wRng rng1 (wCons (wName 11) wNil)) (gN 6) (wForI (wRng rng1 (wCons (wName 11) wNil)) (gN 12) (wSeq (wIfS (wTest (wCall sp__law_goes (wCons (wIx (wName 5) (wName 6)) (wCons (wIx (wName 5) (wName 12)) (wCons (wName 8) wNil))))) (wApp 10 (wTup (wCons (wName 6) (wCons (wName 12) wNil)))) wNext)
    (wSeq (wSet .fz 13 (w2 inV' (wTup (wCons (wName 6) (wCons (wName 12) wNil))) (wName 10)))
    (wSeq (wIfS (wTest (w2 neD (wB reprD (wCons (wCallK 3 1 sp_goes_in (wCons (wName 5) (wCons (wName 6) (wCons (wName 12) wNil))) (wCons (wName 8) wNil)) wNil)) (wB reprD (wCons (wName 13) wNil)))) (wRet (wC (.fz (.bool false)))) wNext)
    (wIfS (wTest (w2 neD (wCall sp_is_within (wCons (wName 9) (wCons (wName 6) (wCons (wName 12) wNil)))) (wName 13))) (wRet (wC (.fz (.bool false)))) wNext))))))
    (wIfS (wOr (wTest (w2 neD (wB reprD (wCons (wName 9) wNil)) (wB reprD (wCons (wTup (wCons (wName 11) (wCons (wB tupleD (wCons (wName 10) wNil)) wNil))) wNil)))) (wTest (w2 neD (wCall sp_need_order (wCons (wName 9) wNil)) (wName 9)))) (wRet (wC (.fz (.bool false)))) wNext)))))
    (wIfS (wOr (wTest (w2 neD (wCallD sp_order_of [.fz (.bool false)] (wCons (wName 5) wNil)) (wCallK 1 1 sp_order_of (wCons (wName 5) wNil) (wCons (wC (.fz (.bool false))) wNil)))) (wTest (w2 isNotD (wCallD sp_goes_in [.fz (.bool false)] (wCons (wName 5) (wCons (wC (.fz (.int 0))) (wCons (wC (.fz (.int 0))) wNil)))) (wC (.fz (.bool false)))))) (wRet (wC (.fz (.bool false)))) wNext)))))))
    (wSeq (wSet .fz 14 (wLst (wCons (wCallD sp_goes_in [.fz (.bool false)] (wCons (wTup (wCons (wTup (wCons (wC (.fz (.int 2))) (wCons (wC (.fz (.int 5))) wNil))) (wCons (wTup (wCons (wC (.fz (.int 6))) (wCons (wC (.fz (.int 3))) wNil))) wNil))) (wCons (wC (.fz (.int 0))) (wCons (wC (.fz (.int 1))) wNil)))) (wCons (wCallK 3 1 sp_goes_in (wCons (wTup (wCons (wTup (wCons (wC (.fz (.int 2))) (wCons (wC (.fz (.int 5))) wNil))) (wCons (wTup (wCons (wC (.fz (.int 6))) (wCons (wC (.fz (.int 3))) wNil))) wNil))) (wCons (wC (.fz (.int 0))) (wCons (wC (.fz (.int 1))) wNil))) (wCons (wC (.fz (.bool true))) wNil)) wNil))))
    (wRet (wAndV (w2 eqD (wName 14) (wLst (wCons (wC (.fz (.bool false))) (wCons (wC (.fz (.bool true))) wNil)))) (w2 eqD (wCallD sp_order_of [.fz (.bool false)] (wCons (wTup (wCons (wTup (wCons (wC (.fz (.int 1))) wNil)) (wCons (wTup (wCons (wC (.fz (.int 1))) wNil)) (wCons (wTup (wCons (wC (.fz (.int 2))) wNil)) wNil)))) wNil)) (wTup (wCons (wC (.fz (.int 3))) (wCons (wTup (wCons (wTup (wCons (wC (.fz (.int 0))) (wCons (wC (.fz (.int 2))) wNil))) (wCons (wTup (wCons (wC (.fz (.int 1))) (wCons (wC (.fz (.int 2))) wNil))) wNil))) wNil))))))))

abbrev evL (a0 a : Addr) (s2 s3 s4 s5 s6 s7 s8 s9 s10 s11 s12 s13 s14 : Sl) : Ev := [.raw (.ref a0), .raw (.ref a), s2, s3, s4, s5, s6, s7, s8, s9, s10, s11, s12, s13, s14]
def rowAt (bs : List (List Int)) (t : Bool) (i j : Nat) : List Pr := ((List.range j).filter (goB bs t i)).map fun (j : Nat) => (((i : Nat) : Int), ((j : Nat) : Int))
def dueAt (bs : List (List Int)) (t : Bool) (i j : Nat) : List Pr := ((List.range i).flatMap fun i => rowAt bs t i bs.length) ++ rowAt bs t i j
theorem rowAt_succ (bs : List (List Int)) (t : Bool) (i j : Nat) : rowAt bs t i (j + 1) = rowAt bs t i j ++ if goB bs t i j = true then [((i : Int), (j : Int))] else [] := by
  unfold rowAt
  rw [List.range_succ, List.filter_append, List.map_append]
  by_cases h : goB bs t i j = true
  · simp [h]
  · simp [h]
theorem dueAt_succ (bs : List (List Int)) (t : Bool) (i j : Nat) : dueAt bs t i (j + 1) = dueAt bs t i j ++ if goB bs t i j = true then [((i : Int), (j : Int))] else [] := by
  unfold dueAt
  rw [rowAt_succ, List.append_assoc]
theorem dueAt_row (bs : List (List Int)) (t : Bool) (i : Nat) : dueAt bs t (i + 1) 0 = dueAt bs t i bs.length := by
  unfold dueAt
  rw [List.range_succ, List.flatMap_append]
  simp [rowAt]
theorem dueAt_all (bs : List (List Int)) (t : Bool) : dueAt bs t bs.length 0 = prsOf bs t := by
  unfold dueAt prsOf
  simp [rowAt]
theorem mem_rowAt {bs : List (List Int)} {t : Bool} {i j : Nat} {p : Pr} : p ∈ rowAt bs t i j ↔ ∃ k : Nat, k < j ∧ goB bs t i k = true ∧ p = ((i : Int), (k : Int)) := by
  unfold rowAt
  simp only [List.mem_map, List.mem_filter, List.mem_range]
  exact ⟨fun ⟨k, ⟨h1, h2⟩, h3⟩ => ⟨k, h1, h2, h3.symm⟩, fun ⟨k, h1, h2, h3⟩ => ⟨k, ⟨h1, h2⟩, h3.symm⟩⟩
theorem mem_dueAt {bs : List (List Int)} {t : Bool} {i j : Nat} {p : Pr} : p ∈ dueAt bs t i j ↔ ∃ u k : Nat, goB bs t u k = true ∧ p = ((u : Int), (k : Int)) ∧ ((u < i ∧ k < bs.length) ∨ (u = i ∧ k < j)) := by
  unfold dueAt
  simp only [List.mem_append, List.mem_flatMap, List.mem_range, mem_rowAt]
  constructor
  · rintro (⟨u, hu, k, hk, hg, e⟩ | ⟨k, hk, hg, e⟩)
    · exact ⟨u, k, hg, e, .inl ⟨hu, hk⟩⟩
    · exact ⟨i, k, hg, e, .inr ⟨rfl, hk⟩⟩
  · rintro ⟨u, k, hg, e, ⟨hu, hk⟩ | ⟨rfl, hk⟩⟩
    · exact .inl ⟨u, hu, k, hk, hg, e⟩
    · exact .inr ⟨k, hk, hg, e⟩
theorem in_due (bs : List (List Int)) (t : Bool) (i j : Nat) : decide (((i : Int), (j : Int)) ∈ dueAt bs t i (j + 1)) = goB bs t i j := by
  rw [Bool.eq_iff_iff, decide_eq_true_eq, mem_dueAt]
  constructor
  · rintro ⟨u, k, hg, e, _⟩
    injection e with e1 e2
    have : i = u := by omega
    have : j = k := by omega
    subst_vars
    exact hg
  · intro h
    exact ⟨i, j, h, rfl, .inr ⟨rfl, by omega⟩⟩
theorem due_small {bs : List (List Int)} {t : Bool} {i j : Nat} (h : bs.length ≤ 12) (hi : i ≤ bs.length) (hj : j ≤ bs.length) : ∀ p ∈ dueAt bs t i j, (0 ≤ p.1 ∧ p.1 ≤ 1000) ∧ 0 ≤ p.2 ∧ p.2 ≤ 1000 := fun p hp => by
  obtain ⟨u, k, _, rfl, q⟩ := mem_dueAt.mp hp
  simp only; omega
theorem due_len {bs : List (List Int)} {t : Bool} {i j : Nat} (h : bs.length ≤ 12) (hi : i ≤ bs.length) (hj : j ≤ bs.length) : (dueAt bs t i j).length ≤ 1000 := by
  have r : ∀ i j, j ≤ bs.length → (rowAt bs t i j).length ≤ 12 := fun i j hj => by
    unfold rowAt
    rw [List.length_map]
    have := List.length_filter_le (goB bs t i) (List.range j)
    rw [List.length_range] at this
    omega
  have := flat_len (f := fun i => rowAt bs t i bs.length) (c := 12) (List.range i) fun i _ => r i _ (Nat.le_refl _)
  rw [List.length_range] at this
  have := r i j hj
  unfold dueAt
  rw [List.length_append]; omega
theorem len_bxs (bs : List (List Int)) : (valL [.fz (bxsD bs)]).bind lenD = some (.int (bs.length : Nat)) := by
  show some (PyData.int ((bs.map boxD).length : Nat)) = _
  rw [List.length_map]
section
variable {a0 a : Addr} {bs : List (List Int)} {t : Bool} {s2 s3 s4 s7 s14 : Sl} {De : DEnds}
theorem rest_ok (B : Bxs bs) {i j : Nat} (hi : i < bs.length) (hj : j < bs.length) {s13 : Sl}
    (fin : ∀ s13, De.nx (evL a0 a s2 s3 s4 (.fz (bxsD bs)) (.fz (.int i)) s7 (.fz (.bool t)) (.fz (ordD bs.length (prsOf bs t))) (.own (.list ((dueAt bs t i (j + 1)).map prD))) (.fz (.int bs.length)) (.fz (.int j)) s13 s14)) :
    wl_rest (evL a0 a s2 s3 s4 (.fz (bxsD bs)) (.fz (.int i)) s7 (.fz (.bool t)) (.fz (ordD bs.length (prsOf bs t))) (.own (.list ((dueAt bs t i (j + 1)).map prD))) (.fz (.int bs.length)) (.fz (.int j)) s13 s14) De := by
  have l2 := B.hi
  refine ⟨_, rfl, _, rfl, _, rfl, (show 2 ≤ sizeLine by decide), _, rfl, .bool (goB bs t i j), (in_prs (p := ((i : Int), (j : Int))) (by simp only; omega) (due_small l2 (by omega) (by omega))).trans (by rw [in_due]), _, rfl, ?_⟩
  refine ⟨_, rfl, _, rfl, _, rfl, _, rfl, rfl, rfl, bs, i, j, t, rfl, B, hi, hj, _, (rok_bool _).repr (by omega) (by omega), _, rfl, _, (rok_bool _).repr (by omega) (by omega), _, ne_str_self _, _, rfl, ifF rfl ?_⟩
  refine ⟨_, rfl, _, rfl, _, rfl, bs.length, prsOf bs t, i, j, rfl, ord_prsOf B t, hi, hj, fun b hb => ⟨_, rfl, _, ne_bool _ _, _, rfl, ?_⟩⟩
  have eb : b = goB bs t i j := by
    rw [Bool.eq_iff_iff, hb]; exact rch_iff B t hi hj
  refine ifF (by rw [eb]; cases goB bs t i j <;> rfl) ?_
  exact fin _
theorem inner_ok (B : Bxs bs) {i j : Nat} (hi : i < bs.length) (hj : j < bs.length) {s13 : Sl}
    (fin : ∀ s13, De.nx (evL a0 a s2 s3 s4 (.fz (bxsD bs)) (.fz (.int i)) s7 (.fz (.bool t)) (.fz (ordD bs.length (prsOf bs t))) (.own (.list ((dueAt bs t i (j + 1)).map prD))) (.fz (.int bs.length)) (.fz (.int j)) s13 s14)) :
    wl_inner (evL a0 a s2 s3 s4 (.fz (bxsD bs)) (.fz (.int i)) s7 (.fz (.bool t)) (.fz (ordD bs.length (prsOf bs t))) (.own (.list ((dueAt bs t i j).map prD))) (.fz (.int bs.length)) (.fz (.int j)) s13 s14) De := by
  obtain ⟨w, w1, w3, hw⟩ := Bxs.lenD B
  have l2 := B.hi
  have r := rest_ok (a0 := a0) (a := a) (t := t) (s2 := s2) (s3 := s3) (s4 := s4) (s7 := s7) (s14 := s14) (De := De) B hi hj (s13 := s13) fin
  refine ⟨_, rfl, _, rfl, _, ix_box hi, _, rfl, _, rfl, _, ix_box hj, _, rfl, bs.getD i [], bs.getD j [], t, rfl, by rw [hw i hi]; exact w3, by rw [hw i hi, hw j hj], _, rfl, ?_⟩
  have e : lawGo (bs.getD i []) (bs.getD j []) t = goB bs t i j := lawGo_eq t (by rw [hw i hi]; exact w1) (by rw [hw i hi]; exact w3) (by rw [hw i hi, hw j hj])
  have ds := dueAt_succ bs t i j
  cases hg : goB bs t i j with
  | true =>
    refine ifT (e.trans hg) ⟨_, rfl, _, rfl, _, rfl, _, rfl, (show 2 ≤ sizeLine by decide), _, rfl, ?_, ?_⟩
    · rw [List.length_map, sizeLine_eq]; have := due_len (t := t) (i := i) (j := j) l2 (by omega) (by omega); omega
    · rw [ds, hg, if_pos rfl, List.map_append] at r
      exact r
  | false =>
    refine ifF (e.trans hg) ?_
    rw [ds, hg, if_neg (by decide), List.append_nil] at r
    exact r
theorem way_ok (B : Bxs bs) {s6 s9 s10 s11 s12 s13 : Sl} (fin : ∀ s6 s9 s10 s11 s12 s13, De.nx (evL a0 a s2 s3 s4 (.fz (bxsD bs)) s6 s7 (.fz (.bool t)) s9 s10 s11 s12 s13 s14)) :
    wl_way (evL a0 a s2 s3 s4 (.fz (bxsD bs)) s6 s7 (.fz (.bool t)) s9 s10 s11 s12 s13 s14) De := by
  have l2 := B.hi
  refine ⟨_, rfl, _, rfl, rfl, rfl, bs, t, rfl, B, _, rfl, ?_⟩
  refine ⟨[], rfl, Nat.zero_le _, _, rfl, _, len_bxs bs, _, rfl, _, rfl, ?_⟩
  refine ⟨_, rfl, _, rngV (n := bs.length) (by omega), ?_⟩
  refine wFor_rng (n := bs.length) (fun i env => ∃ s6 s12 s13, env = evL a0 a s2 s3 s4 (.fz (bxsD bs)) s6 s7 (.fz (.bool t)) (.fz (ordD bs.length (prsOf bs t))) (.own (.list ((dueAt bs t i 0).map prD))) (.fz (.int bs.length)) s12 s13 s14) ?_ ?_ bs.length 0 (by omega) _ ⟨s6, s12, s13, rfl⟩
  · rintro _ ⟨s6, s12, s13, rfl⟩
    rw [dueAt_all]
    have ro := rok_ord (n := bs.length) (ps := prsOf bs t) (by omega) (by have := prsOf_len bs t l2; omega) (prs_small l2)
    refine ⟨_, rfl, .str (ordD bs.length (prsOf bs t)).shown, ro.reprV (by omega) (by omega), _, rfl, _, rfl, prsD (prsOf bs t), rfl, [.int bs.length, prsD (prsOf bs t)], rfl, (show 2 ≤ sizeLine by decide), .str (ordD bs.length (prsOf bs t)).shown, ro.reprV (by omega) (by omega), .bool false, ne_strV _, _, rfl, ifF rfl ?_⟩
    refine ⟨_, rfl, bs.length, prsOf bs t, rfl, ord_prsOf B t, _, rfl, _, ro.ne (by omega), _, rfl, ifF rfl ?_⟩
    exact fin _ _ _ _ _ _
  · rintro i hi _ De' ⟨s6, s12, s13, rfl⟩ hrt hbk hnx hct
    refine ⟨_, rfl, ?_⟩
    refine ⟨_, rfl, _, rngV (n := bs.length) (by omega), ?_⟩
    refine wFor_rng (n := bs.length) (fun j env => ∃ s12 s13, env = evL a0 a s2 s3 s4 (.fz (bxsD bs)) (.fz (.int i)) s7 (.fz (.bool t)) (.fz (ordD bs.length (prsOf bs t))) (.own (.list ((dueAt bs t i j).map prD))) (.fz (.int bs.length)) s12 s13 s14) ?_ ?_ bs.length 0 (by omega) _ ⟨s12, s13, rfl⟩
    · rintro _ ⟨s12, s13, rfl⟩
      rw [← dueAt_row]
      exact hnx _ ⟨_, _, _, rfl⟩
    · rintro j hj _ De2 ⟨s12, s13, rfl⟩ hrt2 hbk2 hnx2 hct2
      exact ⟨_, rfl, inner_ok B hi hj fun s13 => hnx2 _ ⟨_, _, rfl⟩⟩
theorem box_ok {wd : Nat} (hw1 : 1 ≤ wd) (hw3 : wd ≤ 3) {bd : Int} (h1 : 0 < bd) (h2 : bd ≤ 1000000) {bs : List (List Int)} {s6 s7 s8 s9 s10 s11 s12 s13 : Sl} (hb : bs.length < 100)
    (fin : ∀ b : List Int, b.length = wd → b.all okSide = true → ∀ s7, De.nx (evL a0 a s2 (.fz (.int wd)) (.fz (.int bd)) (.own (.list ((bs ++ [b]).map boxD))) s6 s7 s8 s9 s10 s11 s12 s13 s14)) :
    wl_box a (evL a0 a s2 (.fz (.int wd)) (.fz (.int bd)) (.own (.list (bs.map boxD))) s6 s7 s8 s9 s10 s11 s12 s13 s14) De := by
  refine ⟨_, rfl, _, rfl, _, rngV (n := wd) (by omega), ?_⟩
  refine lc_any PyData.int (fun x => okSide x = true) _ [] (fun d hd => ⟨_, rfl, fun R q => ?_⟩) (by simp [sizeLine_eq]; omega) fun xs e q => ?_
  · refine ⟨_, rfl, _, rfl, bd, rfl, h1, Int.lt_of_le_of_lt h2 (by decide +kernel), fun r r0 r1 => ⟨.int (1 + r), rfl, q _ ?_⟩⟩
    simp [okSide]; omega
  · refine ⟨.tuple (xs.map .int), rfl, _, rfl, by rw [List.length_map, sizeLine_eq]; omega, ?_⟩
    have f := fin xs (by simpa using e) (List.all_eq_true.mpr q) s7
    rw [List.map_append] at f
    exact f
end
theorem pow6 : powD (.int 10) (.int 6) = some (.int 1000000) := by
  show (if (0 : Int) ≤ 6 ∧ (6 : Int) ≤ 1000000 ∧ (10 : Int).natAbs < 2 ^ 64 then some (PyData.int (10 ^ (6 : Int).toNat)) else none) = _
  rw [if_pos (by decide)]; rfl
theorem turn_ok {a0 a : Addr} {De : DEnds} (fin : ∀ s2 s3 s4 s5 s6 s7 s8 s9 s10 s11 s12 s13 s14, De.nx (evL a0 a s2 s3 s4 s5 s6 s7 s8 s9 s10 s11 s12 s13 s14)) (s2 s3 s4 s5 s6 s7 s8 s9 s10 s11 s12 s13 s14 : Sl) :
    wl_turn a (evL a0 a s2 s3 s4 s5 s6 s7 s8 s9 s10 s11 s12 s13 s14) De := by
  refine ⟨_, rfl, 3, rfl, by decide, by decide +kernel, fun r r0 r3 => ?_⟩
  obtain ⟨k, rfl⟩ := Int.eq_ofNat_of_zero_le r0
  refine ⟨.int ((1 + k : Nat) : Int), rfl, _, rfl, _, pow6, [.int 4, .int 9, .int 1000000], rfl, (show 3 ≤ sizeLine by decide), [.int 4, .int 9, .int 1000000], rfl, by decide, by decide, fun d hd => ?_⟩
  obtain ⟨bd, rfl, b1, b2⟩ : ∃ bd : Int, d = .int bd ∧ 0 < bd ∧ bd ≤ 1000000 := by
    simp only [List.mem_cons, List.not_mem_nil, or_false] at hd
    rcases hd with rfl | rfl | rfl
    · exact ⟨4, rfl, by decide, by decide⟩
    · exact ⟨9, rfl, by decide, by decide⟩
    · exact ⟨1000000, rfl, by decide, by decide⟩
  refine ⟨_, rfl, (show 2 ≤ sizeLine by decide), _, _, rfl, rfl, ?_⟩
  refine ⟨[], rfl, Nat.zero_le _, _, rfl, ?_⟩
  refine ⟨_, rfl, 7, rfl, by decide, by decide +kernel, fun r r0 r7 => ?_⟩
  obtain ⟨m, rfl⟩ := Int.eq_ofNat_of_zero_le r0
  refine ⟨.int ((1 + m : Nat) : Int), rfl, _, rngV (n := 1 + m) (by omega), ?_⟩
  refine wFor_rng (n := 1 + m) (fun i env => ∃ (bs : List (List Int)) (s6 s7 : Sl), env = evL a0 a s2 (.fz (.int ((1 + k : Nat) : Int))) (.fz (.int bd)) (.own (.list (bs.map boxD))) s6 s7 s8 s9 s10 s11 s12 s13 s14 ∧ bs.length = i ∧ ∀ b ∈ bs, b.length = 1 + k ∧ b.all okSide = true) ?_ ?_ (1 + m) 0 (by omega) _ ⟨[], s6, s7, rfl, rfl, fun _ z => nomatch z⟩
  · rintro _ ⟨bs, s6, s7, rfl, hl, hb⟩
    have B : Bxs bs := ⟨by omega, by omega, ⟨1 + k, by omega, by omega, fun b h => (hb b h).1⟩, fun b h => (hb b h).2⟩
    refine ⟨_, rfl, bxsD bs, rfl, _, rfl, ?_⟩
    refine ⟨_, rfl, (show 2 ≤ sizeLine by decide), [.bool false, .bool true], rfl, ?_⟩
    refine ⟨_, rfl, way_ok (t := false) B fun s6 s9 s10 s11 s12 s13 => ?_⟩
    refine ⟨_, rfl, way_ok (t := true) B fun s6 s9 s10 s11 s12 s13 => ?_⟩
    have l2 := B.hi
    have ro := rok_ord (n := bs.length) (ps := prsOf bs false) (by omega) (by have := prsOf_len bs false l2; omega) (prs_small l2)
    refine ⟨_, rfl, bs, false, rfl, B, _, rfl, rfl, rfl, bs, false, rfl, B, _, ro.ne (by omega), _, rfl, ifF rfl ?_⟩
    refine ⟨_, rfl, bs, 0, 0, false, rfl, B, by omega, by omega, .bool false, ?_, _, rfl, ifF rfl ?_⟩
    · rw [goB_irr B false (by omega)]; rfl
    · exact fin _ _ _ _ _ _ _ _ _ _ _ _ _
  · rintro i hi _ De' ⟨bs, s6, s7, rfl, hl, hb⟩ hrt hbk hnx hct
    refine ⟨_, rfl, box_ok (wd := 1 + k) (by omega) (by omega) b1 b2 (by omega) fun b e q s7 => hnx _ ⟨bs ++ [b], _, s7, rfl, by rw [List.length_append, hl]; rfl, fun c hc => ?_⟩⟩
    rcases List.mem_append.mp hc with h | h
    · exact hb c h
    · obtain rfl : c = b := by simpa using h
      exact ⟨e, q⟩
def exB : List (List Int) := [[2, 5], [6, 3]]
theorem exB_ok : Bxs exB := ⟨by decide, by decide, ⟨2, by decide, by decide, by decide⟩, by decide⟩
def exC : List (List Int) := [[1], [1], [2]]
theorem exC_ok : Bxs exC := ⟨by decide, by decide, ⟨1, by decide, by decide, by decide⟩, by decide⟩
theorem last_ok {a0 a : Addr} (s2 s3 s4 s5 s6 s7 s8 s9 s10 s11 s12 s13 s14 : Sl) : wl_last (evL a0 a s2 s3 s4 s5 s6 s7 s8 s9 s10 s11 s12 s13 s14) lawEnds := by
  have g1 : goB exB false 0 1 = false := by decide
  have g2 : goB exB true 0 1 = true := by
    show goes [2, 5] [6, 3] true = true
    simp [goes, srt2]
    decide
  have g3 : prsOf exC false = [(0, 2), (1, 2)] := by decide
  refine ⟨[.int 2, .int 5], rfl, (show 2 ≤ sizeLine by decide), [.int 6, .int 3], rfl, (show 2 ≤ sizeLine by decide), _, rfl, (show 2 ≤ sizeLine by decide), exB, 0, 1, false, rfl, exB_ok, by decide, by decide, ?_⟩
  refine ⟨[.int 2, .int 5], rfl, (show 2 ≤ sizeLine by decide), [.int 6, .int 3], rfl, (show 2 ≤ sizeLine by decide), _, rfl, (show 2 ≤ sizeLine by decide), rfl, rfl, exB, 0, 1, true, rfl, exB_ok, by decide, by decide, ?_⟩
  rw [g1, g2]
  refine ⟨_, rfl, (show 2 ≤ sizeLine by decide), _, rfl, ?_⟩
  refine ⟨_, rfl, _, rfl, (show 2 ≤ sizeLine by decide), .bool true, rfl, true, rfl, ifT rfl ?_⟩
  refine ⟨[.int 1], rfl, (show 1 ≤ sizeLine by decide), [.int 1], rfl, (show 1 ≤ sizeLine by decide), [.int 2], rfl, (show 1 ≤ sizeLine by decide), _, rfl, (show 3 ≤ sizeLine by decide), exC, false, rfl, exC_ok, ?_⟩
  rw [g3]
  refine ⟨_, rfl, (show 2 ≤ sizeLine by decide), _, rfl, (show 2 ≤ sizeLine by decide), _, rfl, (show 2 ≤ sizeLine by decide), _, rfl, (show 2 ≤ sizeLine by decide), .bool true, rfl, rfl⟩
theorem ok_ws_law : ∀ (a a0 : Addr) (n : Nat), n ≤ 63 → ws_law a a0 n (lawEnv a0 a 13) lawEnds := by
  intro a a0 n hn
  refine ⟨rfl, .int (if (8 : Int) < (n : Int) then (8 : Int) else (n : Int)), rfl, .int (4 + (if (8 : Int) < (n : Int) then (8 : Int) else (n : Int)) : Int), rfl, ?_⟩
  obtain ⟨k, hk, hk2⟩ : ∃ k : Nat, (4 + (if (8 : Int) < (n : Int) then (8 : Int) else (n : Int)) : Int) = (k : Int) ∧ k ≤ 1000 := by
    by_cases h : (8 : Int) < n
    · exact ⟨12, by rw [if_pos h]; rfl, by decide⟩
    · exact ⟨4 + n, by rw [if_neg h]; rfl, by omega⟩
  rw [hk]
  refine ⟨_, rngV hk2, ?_⟩
  refine wFor_inv (fun env => ∃ s2 s3 s4 s5 s6 s7 s8 s9 s10 s11 s12 s13 s14, env = evL a0 a s2 s3 s4 s5 s6 s7 s8 s9 s10 s11 s12 s13 s14) ?_ _ ?_ _ ⟨_, _, _, _, _, _, _, _, _, _, _, _, _, rfl⟩
  · rintro _ ⟨s2, s3, s4, s5, s6, s7, s8, s9, s10, s11, s12, s13, s14, rfl⟩
    exact last_ok s2 s3 s4 s5 s6 s7 s8 s9 s10 s11 s12 s13 s14
  · rintro d hd _ De' ⟨s2, s3, s4, s5, s6, s7, s8, s9, s10, s11, s12, s13, s14, rfl⟩ hrt hnx hct
    exact ⟨_, rfl, turn_ok (fun s2 s3 s4 s5 s6 s7 s8 s9 s10 s11 s12 s13 s14 => hnx _ ⟨_, _, _, _, _, _, _, _, _, _, _, _, _, rfl⟩) _ _ _ _ _ _ _ _ _ _ _ _ _⟩
end K42
namespace K42
open PySem PySem.Spec PyProof.Rows L2 DL PF
abbrev s6 : Stmt := topS 6
theorem sc6 : FnScope ["thing", "least", "most"] ["thing", "least", "most"] (defScope s6) := ⟨rfl, rfl, rfl, by decide +kernel, rfl, by decide +kernel, by decide +kernel⟩
abbrev s7 : Stmt := topS 7
theorem sc7 : FnScope ["items", "one", "other"] ["items"] (defScope s7) := ⟨rfl, rfl, rfl, by decide +kernel, rfl, by decide +kernel, by decide +kernel⟩
abbrev s8 : Stmt := topS 8
theorem sc8 : FnScope ["kinds", "thing", "one"] ["kinds", "thing"] (defScope s8) := ⟨rfl, rfl, rfl, by decide +kernel, rfl, by decide +kernel, by decide +kernel⟩
abbrev s9 : Stmt := topS 9
theorem sc9 : FnScope ["order", "found", "kind", "above", "waiting", "here", "one", "other"] ["order"] (defScope s9) := ⟨rfl, rfl, rfl, by decide +kernel, rfl, by decide +kernel, by decide +kernel⟩
abbrev s10 : Stmt := topS 10
theorem sc10 : FnScope ["thing", "one", "kind", "above"] ["thing"] (defScope s10) := ⟨rfl, rfl, rfl, by decide +kernel, rfl, by decide +kernel, by decide +kernel⟩
abbrev s11 : Stmt := topS 11
theorem sc11 : FnScope ["order", "kind"] ["order", "kind"] (defScope s11) := ⟨rfl, rfl, rfl, by decide +kernel, rfl, by decide +kernel, by decide +kernel⟩
abbrev s12 : Stmt := topS 12
theorem sc12 : FnScope ["order", "one", "other"] ["order", "one", "other"] (defScope s12) := ⟨rfl, rfl, rfl, by decide +kernel, rfl, by decide +kernel, by decide +kernel⟩
abbrev s16 : Stmt := topS 16
theorem sc16 : FnScope ["thing", "side"] ["thing"] (defScope s16) := ⟨rfl, rfl, rfl, by decide +kernel, rfl, by decide +kernel, by decide +kernel⟩
abbrev s17 : Stmt := topS 17
theorem sc17 : FnScope ["thing", "number", "box"] ["thing"] (defScope s17) := ⟨rfl, rfl, rfl, by decide +kernel, rfl, by decide +kernel, by decide +kernel⟩
abbrev s18 : Stmt := topS 18
theorem sc18 : FnScope ["box", "other", "turned", "one", "two"] ["box", "other", "turned"] (defScope s18) := ⟨rfl, rfl, rfl, by decide +kernel, rfl, by decide +kernel, by decide +kernel⟩
abbrev s19 : Stmt := topS 19
theorem sc19 : FnScope ["turned"] ["turned"] (defScope s19) := ⟨rfl, rfl, rfl, by decide +kernel, rfl, by decide +kernel, by decide +kernel⟩
abbrev s20 : Stmt := topS 20
theorem sc20 : FnScope ["boxes", "one", "other", "turned"] ["boxes", "one", "other", "turned"] (defScope s20) := ⟨rfl, rfl, rfl, by decide +kernel, rfl, by decide +kernel, by decide +kernel⟩
abbrev s21 : Stmt := topS 21
theorem sc21 : FnScope ["boxes", "turned", "kinds", "pairs", "one", "other"] ["boxes", "turned"] (defScope s21) := ⟨rfl, rfl, rfl, by decide +kernel, rfl, by decide +kernel, by decide +kernel⟩
abbrev s25 : Stmt := topS 25
theorem sc25 : FnScope ["_law_m", "_law_some"] ["_law_m", "_law_some"] (defScope s25) := ⟨rfl, rfl, rfl, by decide +kernel, rfl, by decide +kernel, by decide +kernel⟩
abbrev s26 : Stmt := topS 26
theorem sc26 : FnScope ["_law_row", "_law_found", "_law_k", "_law_left", "_law_rest"] ["_law_row"] (defScope s26) := ⟨rfl, rfl, rfl, by decide +kernel, rfl, by decide +kernel, by decide +kernel⟩
abbrev s27 : Stmt := topS 27
theorem sc27 : FnScope ["_law_one", "_law_other", "_law_way", "_law_row", "_law_k"] ["_law_one", "_law_other", "_law_way"] (defScope s27) := ⟨rfl, rfl, rfl, by decide +kernel, rfl, by decide +kernel, by decide +kernel⟩
abbrev s28 : Stmt := topS 28
theorem sc28 : FnScope ["_law_script", "_law_m", "_law_turn", "_law_wide", "_law_bound", "_law_some", "_law_one", "_law_k", "_law_way", "_law_nest", "_law_due", "_law_count", "_law_other", "_law_is_so", "_law_told"] ["_law_script"] (defScope s28) := ⟨rfl, rfl, rfl, by decide +kernel, rfl, by decide +kernel, by decide +kernel⟩
structure Tx (K : PySem.W.Frag) (mg : Str → Option Value) where
  f_is_whole : Addr
  fd_is_whole : FuncData
  F_is_whole : Fun K "is_whole" "is_whole" s6 f_is_whole fd_is_whole
  m_is_whole : mg "is_whole" = some (.ref f_is_whole)
  b_is_whole : Binds K fd_is_whole ["thing", "least", "most"] []
  f_are_ascending : Addr
  fd_are_ascending : FuncData
  F_are_ascending : Fun K "are_ascending" "are_ascending" s7 f_are_ascending fd_are_ascending
  m_are_ascending : mg "are_ascending" = some (.ref f_are_ascending)
  b_are_ascending : Binds K fd_are_ascending ["items"] []
  f_is_pair : Addr
  fd_is_pair : FuncData
  F_is_pair : Fun K "is_pair" "is_pair" s8 f_is_pair fd_is_pair
  m_is_pair : mg "is_pair" = some (.ref f_is_pair)
  b_is_pair : Binds K fd_is_pair ["kinds", "thing"] []
  f_above_of : Addr
  fd_above_of : FuncData
  F_above_of : Fun K "above_of" "above_of" s9 f_above_of fd_above_of
  m_above_of : mg "above_of" = some (.ref f_above_of)
  b_above_of : Binds K fd_above_of ["order"] []
  f_need_order : Addr
  fd_need_order : FuncData
  F_need_order : Fun K "need_order" "need_order" s10 f_need_order fd_need_order
  m_need_order : mg "need_order" = some (.ref f_need_order)
  b_need_order : Binds K fd_need_order ["thing"] []
  f_need_kind : Addr
  fd_need_kind : FuncData
  F_need_kind : Fun K "need_kind" "need_kind" s11 f_need_kind fd_need_kind
  m_need_kind : mg "need_kind" = some (.ref f_need_kind)
  b_need_kind : Binds K fd_need_kind ["order", "kind"] []
  f_is_within : Addr
  fd_is_within : FuncData
  F_is_within : Fun K "is_within" "is_within" s12 f_is_within fd_is_within
  m_is_within : mg "is_within" = some (.ref f_is_within)
  b_is_within : Binds K fd_is_within ["order", "one", "other"] []
  f_is_box : Addr
  fd_is_box : FuncData
  F_is_box : Fun K "is_box" "is_box" s16 f_is_box fd_is_box
  m_is_box : mg "is_box" = some (.ref f_is_box)
  b_is_box : Binds K fd_is_box ["thing"] []
  f_need_boxes : Addr
  fd_need_boxes : FuncData
  F_need_boxes : Fun K "need_boxes" "need_boxes" s17 f_need_boxes fd_need_boxes
  m_need_boxes : mg "need_boxes" = some (.ref f_need_boxes)
  b_need_boxes : Binds K fd_need_boxes ["thing"] []
  f_does_go : Addr
  fd_does_go : FuncData
  F_does_go : Fun K "does_go" "does_go" s18 f_does_go fd_does_go
  m_does_go : mg "does_go" = some (.ref f_does_go)
  b_does_go : Binds K fd_does_go ["box", "other", "turned"] []
  f_need_turned : Addr
  fd_need_turned : FuncData
  F_need_turned : Fun K "need_turned" "need_turned" s19 f_need_turned fd_need_turned
  m_need_turned : mg "need_turned" = some (.ref f_need_turned)
  b_need_turned : Binds K fd_need_turned ["turned"] []
  f_goes_in : Addr
  fd_goes_in : FuncData
  F_goes_in : Fun K "goes_in" "goes_in" s20 f_goes_in fd_goes_in
  m_goes_in : mg "goes_in" = some (.ref f_goes_in)
  kb_goes_in : KBn K fd_goes_in ["boxes", "one", "other", "turned"] 3 ["turned"] (fun us ws => us ++ ws) (fun vs zs => vs ++ zs)
  kd_goes_in : Binds K fd_goes_in ["boxes", "one", "other", "turned"] [.bool false]
  f_order_of : Addr
  fd_order_of : FuncData
  F_order_of : Fun K "order_of" "order_of" s21 f_order_of fd_order_of
  m_order_of : mg "order_of" = some (.ref f_order_of)
  kb_order_of : KBn K fd_order_of ["boxes", "turned"] 1 ["turned"] (fun us ws => us ++ ws) (fun vs zs => vs ++ zs)
  kd_order_of : Binds K fd_order_of ["boxes", "turned"] [.bool false]
  f__law_of : Addr
  fd__law_of : FuncData
  F__law_of : Fun K "_law_of" "_law_of" s25 f__law_of fd__law_of
  m__law_of : mg "_law_of" = some (.ref f__law_of)
  b__law_of : Binds K fd__law_of ["_law_m", "_law_some"] []
  f__law_orders_of : Addr
  fd__law_orders_of : FuncData
  F__law_orders_of : Fun K "_law_orders_of" "_law_orders_of" s26 f__law_orders_of fd__law_orders_of
  m__law_orders_of : mg "_law_orders_of" = some (.ref f__law_orders_of)
  b__law_orders_of : Binds K fd__law_orders_of ["_law_row"] []
  f__law_goes : Addr
  fd__law_goes : FuncData
  F__law_goes : Fun K "_law_goes" "_law_goes" s27 f__law_goes fd__law_goes
  m__law_goes : mg "_law_goes" = some (.ref f__law_goes)
  b__law_goes : Binds K fd__law_goes ["_law_one", "_law_other", "_law_way"] []
  f_law : Addr
  fd_law : FuncData
  F_law : Fun K "law" "law" s28 f_law fd_law
  m_law : mg "law" = some (.ref f_law)
  b_law : Binds K fd_law ["_law_script"] []
  f__law_begun : Addr
  fd__law_begun : FuncData
  F__law_begun : Fun K "_law_begun" "_law_begun" s23 f__law_begun fd__law_begun
  m__law_begun : mg "_law_begun" = some (.ref f__law_begun)
  b__law_begun : Binds K fd__law_begun ["_law_script"] []
  f__law_next : Addr
  fd__law_next : FuncData
  F__law_next : Fun K "_law_next" "_law_next" s24 f__law_next fd__law_next
  m__law_next : mg "_law_next" = some (.ref f__law_next)
  b__law_next : Binds K fd__law_next ["_law_m", "_law_total"] []
  n_all : mg "all" = none
  n_any : mg "any" = none
  n_bool : mg "bool" = none
  n_enumerate : mg "enumerate" = none
  n_int : mg "int" = none
  n_isinstance : mg "isinstance" = none
  n_len : mg "len" = none
  n_list : mg "list" = none
  n_min : mg "min" = none
  n_range : mg "range" = none
  n_repr : mg "repr" = none
  n_sorted : mg "sorted" = none
  n_tuple : mg "tuple" = none
  n_zip : mg "zip" = none
  t_MOST_KINDS : Tok
  c_MOST_KINDS : mg "MOST_KINDS" = some (.int 12 t_MOST_KINDS)
  t_MOST_SIDE : Tok
  c_MOST_SIDE : mg "MOST_SIDE" = some (.int 1000000 t_MOST_SIDE)
  t_MOST_SIDES : Tok
  c_MOST_SIDES : mg "MOST_SIDES" = some (.int 3 t_MOST_SIDES)
section
variable {P : Program} {w : World} {K : PySem.W.Frag} {mg : Str → Option Value} {base : Heap}
theorem ok__law_next (a : Addr) (T : Tx K mg) : FnG P w K mg base CX0 2 T.f__law_next T.fd__law_next ["_law_m", "_law_total"] (spF (SI a) 1 (sp__law_next a)) := ok_next a T.F__law_next T.n_int T.n_len
theorem ok_begunG (T : Tx K mg) : FnG P w K mg base CX0 2 T.f__law_begun T.fd__law_begun ["_law_script"] (spBeg K SI) := (ok_begun T.F__law_begun T.n_list).sp fun vs H Q E h => by
  obtain ⟨a0, ns, rfl, hS, hl, hq⟩ := h
  refine ⟨a0, ns, rfl, hS, hl, fun a g c gs cs H' sm h1 h2 h3 h4 h5 h6 h7 => hq a (fun x => x = a ∨ x = g ∨ x = c) H' sm (fun x hx => ?_) ⟨g, c, gs, cs, 0, .inl rfl, .inr (.inl rfl), .inr (.inr rfl), h4, h5, h6, h7, Nat.le_refl _⟩⟩
  rcases hx with rfl | rfl | rfl
  · exact ⟨h1, by rw [h5]; simp⟩
  · exact ⟨h2, by rw [h6]; simp⟩
  · exact ⟨h3, by rw [h7]; simp⟩
theorem ok_is_whole (T : Tx K mg) : FnG P w K mg base CX0 1 T.f_is_whole T.fd_is_whole ["thing", "least", "most"] (spF SI0 0 sp_is_whole) :=
  fn_pure (k := 0) (ws := ws_is_whole) T.F_is_whole sc6 len_is_whole (fun G cdv A outer s H E hS hgd hr =>
    (dss_cons (ds_if (PW.pt (dw_or (dt_not (dt_val (de_isi kit_int (by rfl) T.n_isinstance (by rfl) T.n_int (by decide +kernel) (de_name 0)))) (dw_or (dt_val (de_isi kit_bool (by rfl) T.n_isinstance (by rfl) T.n_bool (by decide +kernel) (de_name 0))) (dw_or1 (dt_cmp (op_ltD hr.units0) (de_name 0) (de_name 1) (nomark _)))))) (dss_one (ds_ret de_bl)) dss_nil)
      (dss_one (ds_ret (de_or (de_cmp op_isD (de_name 2) de_non (nomark _)) (de_one (de_cmp op_leD (de_name 0) (de_name 2) (nomark _)))))))) ok_ws_is_whole
theorem ok_are_ascending (T : Tx K mg) : FnG P w K mg base CX0 1 T.f_are_ascending T.fd_are_ascending ["items"] (spF SI0 0 sp_are_ascending) :=
  fn_pure (k := 0) (ws := ws_are_ascending) T.F_are_ascending sc7 len_are_ascending (fun G cdv A outer s H E hS hgd hr =>
    (dss_one (ds_ret (de_callB (call_allD rfl) (by rfl) T.n_all (by decide +kernel) (da_cons (de_lc rfl sc7.nd (di_zip (by rfl) T.n_zip (da_cons (de_name 0) (da_cons (de_slice (de_name 0) (do_some de_int) do_none) da_nil))) (blkOk_by (N := ["items", "one", "other"]) (sc := defScope s7) (own := [("one", 1), ("other", 2)]) (by decide +kernel)) (fun _ _ _ _ _ _ => (dg_tup rfl (dgs_cons (dg_name 1 sc7.nd) (dgs_cons (dg_name 2 sc7.nd) dgs_nil)))) (fun _ _ _ _ _ _ => dts_nil) (fun _ _ _ _ _ _ => (de_cmp (op_ltD hr.units0) (de_name 1) (de_name 2) (nomark _))) (by decide)) da_nil))))) ok_ws_are_ascending
theorem ok_is_pair (T : Tx K mg) : FnG P w K mg base CX0 2 T.f_is_pair T.fd_is_pair ["kinds", "thing"] (spF SI0 0 sp_is_pair) :=
  fn_pure (k := 1) (ws := ws_is_pair) T.F_is_pair sc8 len_is_pair (fun G cdv A outer s H E hS hgd hr =>
    (dss_cons (ds_if (PW.pt (dw_or (dt_not (dt_val (de_isi kit_tuple (by rfl) T.n_isinstance (by rfl) T.n_tuple (by decide +kernel) (de_name 1)))) (dw_or (dt_cmp (op_neDD hr.units) (de_callB call_lenDD (by rfl) T.n_len (by decide +kernel) (da_cons (de_name 1) da_nil)) de_int (nomark _)) (dw_or1 (dt_not (dt_val (de_callB (call_allD rfl) (by rfl) T.n_all (by decide +kernel) (da_cons (de_lc rfl sc8.nd (di_val (de_name 1)) (blkOk_by (N := ["kinds", "thing", "one"]) (sc := defScope s8) (own := [("one", 2)]) (by decide +kernel)) (fun _ _ _ _ _ _ => (dg_name 2 sc8.nd)) (fun _ _ _ _ _ _ => dts_nil) (fun _ _ _ _ _ _ => (de_call (ok_is_whole T) hgd (hr.mono (by decide)) (by rfl) T.m_is_whole T.F_is_whole.kp T.b_is_whole (da_cons (de_name 2) (da_cons de_int (da_cons (de_op op_subD (de_name 0) de_int) da_nil))))) (by decide)) da_nil)))))))) (dss_one (ds_ret de_bl)) dss_nil)
      (dss_one (ds_ret (de_cmp (op_neDD hr.units) (de_ix (DL.Room.u1 hr) (de_name 1) de_int) (de_ix (DL.Room.u1 hr) (de_name 1) de_int) (nomark _)))))) ok_ws_is_pair
theorem ok_above_of (T : Tx K mg) : FnG P w K mg base CX0 1 T.f_above_of T.fd_above_of ["order"] (spF SI0 0 sp_above_of) :=
  fn_pure (k := 0) (ws := ws_above_of) T.F_above_of sc9 len_above_of (fun G cdv A outer s H E hS hgd hr =>
    (dss_cons (ds_set .own 1 sc9.nd (de_lst da_nil))
      (dss_cons (ds_for PassesOwn.never rfl (di_range1 (by rfl) T.n_range (da_cons (de_ix (DL.Room.u1 hr) (de_name 0) de_int) da_nil)) (fun _ => (dg_name 2 sc9.nd)) (fun _ => (dss_cons (ds_par2 .own 3 .own 4 rfl sc9.nd de_dnewK (de_lst (da_cons (de_name 2) da_nil)))
      (dss_cons (ds_while PassesOwn.never (dt_cmp (op_neDD hr.units) (de_name 4) (de_lst da_nil) (nomark _)) (dss_cons (ds_pop 5 4 sc9.nd)
      (dss_one (ds_for PassesOwn.never rfl (di_val (de_ix (DL.Room.u1 hr) (de_name 0) de_int)) (fun _ => (dg_tup rfl (dgs_cons (dg_name 6 sc9.nd) (dgs_cons (dg_name 7 sc9.nd) dgs_nil)))) (fun _ => (dss_one (ds_if (PW.pt (dw_and (dt_cmp (op_eqDD hr.units) (de_name 6) (de_name 5) (nomark _)) (dw_and1 (dt_cmp (op_notInDD (DL.Room.u65 hr)) (de_name 7) (de_name 3) (by rfl))))) (dss_cons (ds_put 3 (DL.Room.u1 hr) (de_name 7) de_bl)
      (dss_one (ds_append 4 (de_name 7)))) dss_nil)))))))
      (dss_one (ds_appendF 1 3))))))
      (dss_one (ds_ret (de_name 1)))))) ok_ws_above_of
theorem ok_need_order (T : Tx K mg) : FnG P w K mg base CX0 3 T.f_need_order T.fd_need_order ["thing"] (spF SI0 0 sp_need_order) :=
  fn_pure (k := 2) (ws := ws_need_order) T.F_need_order sc10 len_need_order (fun G cdv A outer s H E hS hgd hr =>
    (dss_cons (ds_if (PW.pt (dw_or (dt_not (dt_val (de_isi kit_tuple (by rfl) T.n_isinstance (by rfl) T.n_tuple (by decide +kernel) (de_name 0)))) (dw_or1 (dt_cmp (op_neDD hr.units) (de_callB call_lenDD (by rfl) T.n_len (by decide +kernel) (da_cons (de_name 0) da_nil)) de_int (nomark _))))) (dss_one ds_never) dss_nil)
      (dss_cons (ds_if (dt_not (dt_val (de_call (ok_is_whole T) hgd (hr.mono (by decide)) (by rfl) T.m_is_whole T.F_is_whole.kp T.b_is_whole (da_cons (de_ix (DL.Room.u1 hr) (de_name 0) de_int) (da_cons de_int (da_cons (de_gint (by rfl) T.c_MOST_KINDS) da_nil)))))) (dss_one ds_never) dss_nil)
      (dss_cons (ds_if (PW.pt (dw_or (dt_not (dt_val (de_isi kit_tuple (by rfl) T.n_isinstance (by rfl) T.n_tuple (by decide +kernel) (de_ix (DL.Room.u1 hr) (de_name 0) de_int)))) (dw_or1 (dt_not (dt_val (de_callB (call_allD rfl) (by rfl) T.n_all (by decide +kernel) (da_cons (de_lc rfl sc10.nd (di_val (de_ix (DL.Room.u1 hr) (de_name 0) de_int)) (blkOk_by (N := ["thing", "one", "kind", "above"]) (sc := defScope s10) (own := [("one", 1)]) (by decide +kernel)) (fun _ _ _ _ _ _ => (dg_name 1 sc10.nd)) (fun _ _ _ _ _ _ => dts_nil) (fun _ _ _ _ _ _ => (de_call (ok_is_pair T) hgd (hr.mono (by decide)) (by rfl) T.m_is_pair T.F_is_pair.kp T.b_is_pair (da_cons (de_ix (DL.Room.u1 hr) (de_name 0) de_int) (da_cons (de_name 1) da_nil)))) (by decide)) da_nil))))))) (dss_one ds_never) dss_nil)
      (dss_cons (ds_if (dt_not (dt_val (de_call (ok_are_ascending T) hgd (hr.mono (by decide)) (by rfl) T.m_are_ascending T.F_are_ascending.kp T.b_are_ascending (da_cons (de_ix (DL.Room.u1 hr) (de_name 0) de_int) da_nil)))) (dss_one ds_never) dss_nil)
      (dss_cons (ds_if (dt_val (de_callB (call_anyD rfl) (by rfl) T.n_any (by decide +kernel) (da_cons (de_lc rfl sc10.nd (di_enum (by rfl) T.n_enumerate (da_cons (de_call (ok_above_of T) hgd (hr.mono (by decide)) (by rfl) T.m_above_of T.F_above_of.kp T.b_above_of (da_cons (de_name 0) da_nil)) da_nil)) (blkOk_by (N := ["thing", "one", "kind", "above"]) (sc := defScope s10) (own := [("kind", 2), ("above", 3)]) (by decide +kernel)) (fun _ _ _ _ _ _ => (dg_tup rfl (dgs_cons (dg_name 2 sc10.nd) (dgs_cons (dg_name 3 sc10.nd) dgs_nil)))) (fun _ _ _ _ _ _ => dts_nil) (fun _ _ _ _ _ _ => (de_cmp (op_inDD (DL.Room.u65 hr)) (de_name 2) (de_name 3) (by rfl))) (by decide)) da_nil))) (dss_one ds_never) dss_nil)
      (dss_one (ds_ret (de_name 0))))))))) ok_ws_need_order
theorem ok_need_kind (T : Tx K mg) : FnG P w K mg base CX0 4 T.f_need_kind T.fd_need_kind ["order", "kind"] (spF SI0 0 sp_need_kind) :=
  fn_pure (k := 3) (ws := ws_need_kind) T.F_need_kind sc11 len_need_kind (fun G cdv A outer s H E hS hgd hr =>
    (dss_one (ds_if (dt_not (dt_val (de_call (ok_is_whole T) hgd (hr.mono (by decide)) (by rfl) T.m_is_whole T.F_is_whole.kp T.b_is_whole (da_cons (de_name 1) (da_cons de_int (da_cons (de_op op_subD (de_ix (DL.Room.u1 hr) (de_call (ok_need_order T) hgd (hr.mono (by decide)) (by rfl) T.m_need_order T.F_need_order.kp T.b_need_order (da_cons (de_name 0) da_nil)) de_int) de_int) da_nil)))))) (dss_one ds_never) dss_nil))) ok_ws_need_kind
theorem ok_is_within (T : Tx K mg) : FnG P w K mg base CX0 5 T.f_is_within T.fd_is_within ["order", "one", "other"] (spF SI0 0 sp_is_within) :=
  fn_pure (k := 4) (ws := ws_is_within) T.F_is_within sc12 len_is_within (fun G cdv A outer s H E hS hgd hr =>
    (dss_cons (ds_expr (de_call (ok_need_kind T) hgd (hr.mono (by decide)) (by rfl) T.m_need_kind T.F_need_kind.kp T.b_need_kind (da_cons (de_name 0) (da_cons (de_name 1) da_nil))))
      (dss_cons (ds_expr (de_call (ok_need_kind T) hgd (hr.mono (by decide)) (by rfl) T.m_need_kind T.F_need_kind.kp T.b_need_kind (da_cons (de_name 0) (da_cons (de_name 2) da_nil))))
      (dss_one (ds_ret (de_cmp (op_inDD (DL.Room.u65 hr)) (de_name 2) (de_ix (DL.Room.u1 hr) (de_call (ok_above_of T) hgd (hr.mono (by decide)) (by rfl) T.m_above_of T.F_above_of.kp T.b_above_of (da_cons (de_name 0) da_nil)) (de_name 1)) (by rfl))))))) ok_ws_is_within
theorem ok_is_box (T : Tx K mg) : FnG P w K mg base CX0 2 T.f_is_box T.fd_is_box ["thing"] (spF SI0 0 sp_is_box) :=
  fn_pure (k := 1) (ws := ws_is_box) T.F_is_box sc16 len_is_box (fun G cdv A outer s H E hS hgd hr =>
    (dss_cons (ds_if (PW.pt (dw_or (dt_not (dt_val (de_isi kit_tuple (by rfl) T.n_isinstance (by rfl) T.n_tuple (by decide +kernel) (de_name 0)))) (dw_or1 (dt_not (dt_chain op_leD op_leD de_int (de_callB call_lenDD (by rfl) T.n_len (by decide +kernel) (da_cons (de_name 0) da_nil)) (de_gint (by rfl) T.c_MOST_SIDES)))))) (dss_one (ds_ret de_bl)) dss_nil)
      (dss_one (ds_ret (de_callB (call_allD rfl) (by rfl) T.n_all (by decide +kernel) (da_cons (de_lc rfl sc16.nd (di_val (de_name 0)) (blkOk_by (N := ["thing", "side"]) (sc := defScope s16) (own := [("side", 1)]) (by decide +kernel)) (fun _ _ _ _ _ _ => (dg_name 1 sc16.nd)) (fun _ _ _ _ _ _ => dts_nil) (fun _ _ _ _ _ _ => (de_call (ok_is_whole T) hgd (hr.mono (by decide)) (by rfl) T.m_is_whole T.F_is_whole.kp T.b_is_whole (da_cons (de_name 1) (da_cons de_int (da_cons (de_gint (by rfl) T.c_MOST_SIDE) da_nil))))) (by decide)) da_nil)))))) ok_ws_is_box
theorem ok_need_boxes (T : Tx K mg) : FnG P w K mg base CX0 3 T.f_need_boxes T.fd_need_boxes ["thing"] (spF SI0 0 sp_need_boxes) :=
  fn_pure (k := 2) (ws := ws_need_boxes) T.F_need_boxes sc17 len_need_boxes (fun G cdv A outer s H E hS hgd hr =>
    (dss_cons (ds_if (PW.pt (dw_or (dt_not (dt_val (de_isi kit_tuple (by rfl) T.n_isinstance (by rfl) T.n_tuple (by decide +kernel) (de_name 0)))) (dw_or1 (dt_not (dt_chain op_leD op_leD de_int (de_callB call_lenDD (by rfl) T.n_len (by decide +kernel) (da_cons (de_name 0) da_nil)) (de_gint (by rfl) T.c_MOST_KINDS)))))) (dss_one ds_never) dss_nil)
      (dss_cons (ds_for PassesOwn.never rfl (di_enum (by rfl) T.n_enumerate (da_cons (de_name 0) da_nil)) (fun _ => (dg_tup rfl (dgs_cons (dg_name 1 sc17.nd) (dgs_cons (dg_name 2 sc17.nd) dgs_nil)))) (fun _ => (dss_one (ds_if (PW.pt (dw_or (dt_not (dt_val (de_call (ok_is_box T) hgd (hr.mono (by decide)) (by rfl) T.m_is_box T.F_is_box.kp T.b_is_box (da_cons (de_name 2) da_nil)))) (dw_or1 (dt_cmp (op_neDD hr.units) (de_callB call_lenDD (by rfl) T.n_len (by decide +kernel) (da_cons (de_name 2) da_nil)) (de_callB call_lenDD (by rfl) T.n_len (by decide +kernel) (da_cons (de_ix (DL.Room.u1 hr) (de_name 0) de_int) da_nil)) (nomark _))))) (dss_one ds_never) dss_nil))))
      (dss_one (ds_ret (de_name 0)))))) ok_ws_need_boxes
theorem ok_does_go (T : Tx K mg) : FnG P w K mg base CX0 1 T.f_does_go T.fd_does_go ["box", "other", "turned"] (spF SI0 0 sp_does_go) :=
  fn_pure (k := 0) (ws := ws_does_go) T.F_does_go sc18 len_does_go (fun G cdv A outer s H E hS hgd hr =>
    (dss_cons (ds_if (dt_val (de_name 2)) (dss_one (ds_par2 .fz 0 .fz 1 rfl sc18.nd (de_callTy call_tupleD (by rfl) T.n_tuple (by decide +kernel) (da_cons (de_callB (call_sortedD (DL.Room.u65 hr)) (by rfl) T.n_sorted (by decide +kernel) (da_cons (de_name 0) da_nil)) da_nil)) (de_callTy call_tupleD (by rfl) T.n_tuple (by decide +kernel) (da_cons (de_callB (call_sortedD (DL.Room.u65 hr)) (by rfl) T.n_sorted (by decide +kernel) (da_cons (de_name 1) da_nil)) da_nil)))) dss_nil)
      (dss_one (ds_ret (de_callB (call_allD rfl) (by rfl) T.n_all (by decide +kernel) (da_cons (de_lc rfl sc18.nd (di_zip (by rfl) T.n_zip (da_cons (de_name 0) (da_cons (de_name 1) da_nil))) (blkOk_by (N := ["box", "other", "turned", "one", "two"]) (sc := defScope s18) (own := [("one", 3), ("two", 4)]) (by decide +kernel)) (fun _ _ _ _ _ _ => (dg_tup rfl (dgs_cons (dg_name 3 sc18.nd) (dgs_cons (dg_name 4 sc18.nd) dgs_nil)))) (fun _ _ _ _ _ _ => dts_nil) (fun _ _ _ _ _ _ => (de_cmp (op_ltD hr.units0) (de_name 3) (de_name 4) (nomark _))) (by decide)) da_nil)))))) ok_ws_does_go
theorem ok_need_turned (T : Tx K mg) : FnG P w K mg base CX0 1 T.f_need_turned T.fd_need_turned ["turned"] (spF SI0 0 sp_need_turned) :=
  fn_pure (k := 0) (ws := ws_need_turned) T.F_need_turned sc19 len_need_turned (fun G cdv A outer s H E hS hgd hr =>
    (dss_one (ds_if (dt_not (dt_val (de_isi kit_bool (by rfl) T.n_isinstance (by rfl) T.n_bool (by decide +kernel) (de_name 0)))) (dss_one ds_never) dss_nil))) ok_ws_need_turned
theorem ok_goes_in (T : Tx K mg) : FnG P w K mg base CX0 4 T.f_goes_in T.fd_goes_in ["boxes", "one", "other", "turned"] (spF SI0 0 sp_goes_in) :=
  fn_pure (k := 3) (ws := ws_goes_in) T.F_goes_in sc20 len_goes_in (fun G cdv A outer s H E hS hgd hr =>
    (dss_cons (ds_expr (de_call (ok_need_boxes T) hgd (hr.mono (by decide)) (by rfl) T.m_need_boxes T.F_need_boxes.kp T.b_need_boxes (da_cons (de_name 0) da_nil)))
      (dss_cons (ds_if (PW.pt (dw_or (dt_not (dt_val (de_call (ok_is_whole T) hgd (hr.mono (by decide)) (by rfl) T.m_is_whole T.F_is_whole.kp T.b_is_whole (da_cons (de_name 1) (da_cons de_int (da_cons (de_op op_subD (de_callB call_lenDD (by rfl) T.n_len (by decide +kernel) (da_cons (de_name 0) da_nil)) de_int) da_nil)))))) (dw_or1 (dt_not (dt_val (de_call (ok_is_whole T) hgd (hr.mono (by decide)) (by rfl) T.m_is_whole T.F_is_whole.kp T.b_is_whole (da_cons (de_name 2) (da_cons de_int (da_cons (de_op op_subD (de_callB call_lenDD (by rfl) T.n_len (by decide +kernel) (da_cons (de_name 0) da_nil)) de_int) da_nil))))))))) (dss_one ds_never) dss_nil)
      (dss_cons (ds_expr (de_call (ok_need_turned T) hgd (hr.mono (by decide)) (by rfl) T.m_need_turned T.F_need_turned.kp T.b_need_turned (da_cons (de_name 3) da_nil)))
      (dss_one (ds_ret (de_call (ok_does_go T) hgd (hr.mono (by decide)) (by rfl) T.m_does_go T.F_does_go.kp T.b_does_go (da_cons (de_ix (DL.Room.u1 hr) (de_name 0) (de_name 1)) (da_cons (de_ix (DL.Room.u1 hr) (de_name 0) (de_name 2)) (da_cons (de_name 3) da_nil)))))))))) ok_ws_goes_in
theorem ok_order_of (T : Tx K mg) : FnG P w K mg base CX0 4 T.f_order_of T.fd_order_of ["boxes", "turned"] (spF SI0 0 sp_order_of) :=
  fn_pure (k := 3) (ws := ws_order_of) T.F_order_of sc21 len_order_of (fun G cdv A outer s H E hS hgd hr =>
    (dss_cons (ds_expr (de_call (ok_need_boxes T) hgd (hr.mono (by decide)) (by rfl) T.m_need_boxes T.F_need_boxes.kp T.b_need_boxes (da_cons (de_name 0) da_nil)))
      (dss_cons (ds_expr (de_call (ok_need_turned T) hgd (hr.mono (by decide)) (by rfl) T.m_need_turned T.F_need_turned.kp T.b_need_turned (da_cons (de_name 1) da_nil)))
      (dss_cons (ds_set .fz 2 sc21.nd (de_lrng1 rfl (by rfl) T.n_list (by rfl) T.n_range (de_callB call_lenDD (by rfl) T.n_len (by decide +kernel) (da_cons (de_name 0) da_nil))))
      (dss_cons (ds_setLc2 (vs1 := [5]) .fz 3 rfl sc21.nd rfl rfl (sw_true rfl rfl rfl (by decide +kernel)) (di_val (de_name 2)) (blkOk_by (N := ["boxes", "turned", "kinds", "pairs", "one", "other"]) (sc := defScope s21) (own := [("one", 4), ("other", 5)]) (by decide +kernel)) (gok_name 4) (fun _ _ _ _ _ _ => (dg_name 4 sc21.nd)) (fun _ _ _ _ _ _ => dts_nil) (fun _ _ _ _ _ _ => (di_val (de_name 2))) (fun _ _ _ _ _ _ _ => (dg_name 5 sc21.nd)) (fun _ _ _ _ _ _ _ => (dts_one (dt_val (de_call (ok_does_go T) hgd (hr.mono (by decide)) (by rfl) T.m_does_go T.F_does_go.kp T.b_does_go (da_cons (de_ix (DL.Room.u1 hr) (de_name 0) (de_name 4)) (da_cons (de_ix (DL.Room.u1 hr) (de_name 0) (de_name 5)) (da_cons (de_name 1) da_nil))))))) (fun _ _ _ _ _ _ _ => (de_tup (da_cons (de_name 4) (da_cons (de_name 5) da_nil)))) (by decide) (by decide) (by decide))
      (dss_one (ds_ret (de_tup (da_cons (de_callB call_lenDD (by rfl) T.n_len (by decide +kernel) (da_cons (de_name 0) da_nil)) (da_cons (de_callTy call_tupleD (by rfl) T.n_tuple (by decide +kernel) (da_cons (de_name 3) da_nil)) da_nil)))))))))) ok_ws_order_of
theorem ok__law_of (a : Addr) (T : Tx K mg) : FnG P w K mg base CX0 3 T.f__law_of T.fd__law_of ["_law_m", "_law_some"] (spF (SI a) (2 ^ 500) (sp__law_of a)) :=
  fn_data (k := 2) (ws := ws__law_of a) (stabB _ _ _ a) T.F__law_of sc25 (len__law_of a) (fun G cdv A outer s H E hS hgd hr =>
    (dss_one (ds_ret (de_ix (DL.Room.u1 hr) (de_name 1) (de_callE hS (ok__law_next a T) hgd (hr.mono (by decide)) (by rfl) T.m__law_next T.F__law_next.kp T.b__law_next (da_cons (de_name 0) (da_cons (de_callB call_lenDD (by rfl) T.n_len (by decide +kernel) (da_cons (de_name 1) da_nil)) da_nil))))))) (ok_ws__law_of a)
theorem step__law_orders_of (T : Tx K mg) {k : Nat} {spI sp : DL.Spec} (IH : FnG P w K mg base CX0 k T.f__law_orders_of T.fd__law_orders_of ["_law_row"] (spF SI0 0 spI)) (hlen : ∀ as Q, sp as Q → as.length = 1) (hws : ∀ as Q, sp as Q → ws__law_orders_of spI (env0 5 as) (endsOf Q)) : FnG P w K mg base CX0 (k + 1) T.f__law_orders_of T.fd__law_orders_of ["_law_row"] (spF SI0 0 sp) :=
  fn_pure (k := k) (ws := ws__law_orders_of spI) T.F__law_orders_of sc26 hlen (fun G cdv A outer s H E hS hgd hr0 =>
    have hr := hr0.mono (Nat.zero_le _); (dss_cons (ds_if (dt_cmp (op_ltD hr.units0) (de_callB call_lenDD (by rfl) T.n_len (by decide +kernel) (da_cons (de_name 0) da_nil)) de_int (nomark _)) (dss_one (ds_ret (de_lst (da_cons (de_name 0) da_nil)))) dss_nil)
      (dss_cons (ds_set .fz 1 sc26.nd (de_lst da_nil))
      (dss_cons (ds_for PassesOwn.never rfl (di_range1 (by rfl) T.n_range (da_cons (de_callB call_lenDD (by rfl) T.n_len (by decide +kernel) (da_cons (de_name 0) da_nil)) da_nil)) (fun _ => (dg_name 2 sc26.nd)) (fun _ => (dss_cons (ds_set .fz 3 sc26.nd (de_op op_addD (de_slice (de_name 0) do_none (do_some (de_name 2))) (de_slice (de_name 0) (do_some (de_op op_addD (de_name 2) de_int)) do_none)))
      (dss_one (ds_set .fz 1 sc26.nd (de_op op_addD (de_name 1) (de_lc rfl sc26.nd (di_val (de_call IH hgd hr0 (by rfl) T.m__law_orders_of T.F__law_orders_of.kp T.b__law_orders_of (da_cons (de_name 3) da_nil))) (blkOk_by (N := ["_law_row", "_law_found", "_law_k", "_law_left", "_law_rest"]) (sc := defScope s26) (own := [("_law_rest", 4)]) (by decide +kernel)) (fun _ _ _ _ _ _ => (dg_name 4 sc26.nd)) (fun _ _ _ _ _ _ => dts_nil) (fun _ _ _ _ _ _ => (de_op op_addD (de_tup (da_cons (de_ix (DL.Room.u1 hr) (de_name 0) (de_name 2)) da_nil)) (de_name 4))) (by decide))))))))
      (dss_one (ds_ret (de_name 1))))))) hws
theorem ok__law_orders_of (T : Tx K mg) : FnG P w K mg base CX0 5 T.f__law_orders_of T.fd__law_orders_of ["_law_row"] (spF SI0 0 sp__law_orders_of) := by
  have h0 : FnG P w K mg base CX0 2 T.f__law_orders_of T.fd__law_orders_of ["_law_row"] (spF SI0 0 fun _ _ => False) := fnG_no
  have h1 := step__law_orders_of T h0 (len_ord 0) ok_ord_0
  have h2 := step__law_orders_of T h1 (len_ord 1) (ok_ord_s 0)
  exact step__law_orders_of T h2 (len_ord 2) (ok_ord_s 1)
theorem ok__law_goes (T : Tx K mg) : FnG P w K mg base CX0 6 T.f__law_goes T.fd__law_goes ["_law_one", "_law_other", "_law_way"] (spF SI0 0 sp__law_goes) :=
  fn_pure (k := 5) (ws := ws__law_goes) T.F__law_goes sc27 len__law_goes (fun G cdv A outer s H E hS hgd hr =>
    (dss_cons (ds_for PassesOwn.never rfl (di_val (de_if (dt_val (de_name 2)) (de_call (ok__law_orders_of T) hgd (hr.mono (by decide)) (by rfl) T.m__law_orders_of T.F__law_orders_of.kp T.b__law_orders_of (da_cons (de_name 0) da_nil)) (de_lst (da_cons (de_name 0) da_nil)))) (fun _ => (dg_name 3 sc27.nd)) (fun _ => (dss_one (ds_if (dt_cmp (op_eqDD hr.units) (de_lc rfl sc27.nd (di_range1 (by rfl) T.n_range (da_cons (de_callB call_lenDD (by rfl) T.n_len (by decide +kernel) (da_cons (de_name 3) da_nil)) da_nil)) (blkOk_by (N := ["_law_one", "_law_other", "_law_way", "_law_row", "_law_k"]) (sc := defScope s27) (own := [("_law_k", 4)]) (by decide +kernel)) (fun _ _ _ _ _ _ => (dg_name 4 sc27.nd)) (fun _ _ _ _ _ _ => (dts_one (dt_cmp op_geD (de_ix (DL.Room.u1 hr) (de_name 3) (de_name 4)) (de_ix (DL.Room.u1 hr) (de_name 1) (de_name 4)) (nomark _)))) (fun _ _ _ _ _ _ => (de_name 4)) (by decide)) (de_lst da_nil) (nomark _)) (dss_one (ds_ret de_bl)) dss_nil))))
      (dss_one (ds_ret de_bl)))) ok_ws__law_goes
theorem ok_law (T : Tx K mg) : FnG P w K mg base CX0 8 T.f_law T.fd_law ["_law_script"] (spLaw K) :=
  fn_law (k := 7) (SIa := SI) (fun a => stabB _ _ _ a) (ws := ws_law) T.F_law sc28 rfl rfl (fun cdv A outer s H E hgd hr => ps_set (i := 1) sc28.nd rfl (by first | exact .inl rfl | exact .inr rfl) (pe_callG (ok_begunG T) hgd (hr.mono (by decide)) (by rfl) T.m__law_begun T.F__law_begun.kp T.b__law_begun (pa_cons (pv 0) pa_nil))) (fun a a0 n G cdv A outer s H E hS hs hgd hr =>
    (dss_cons (ds_for PassesOwn.never rfl (di_range1 (by rfl) T.n_range (da_cons (de_op op_addD de_int (de_callB (call_minD rfl) (by rfl) T.n_min (by decide +kernel) (da_cons (de_lenS 0 hs (by rfl) T.n_len) (da_cons de_int da_nil)))) da_nil)) (fun _ => (dg_name 2 sc28.nd)) (fun _ => (dss_cons (ds_asgT (de_tup (da_cons (de_op op_addD de_int (de_callE hS (ok__law_next a T) hgd (hr.mono (by decide)) (by rfl) T.m__law_next T.F__law_next.kp T.b__law_next (da_cons (de_name 1) (da_cons de_int da_nil)))) (da_cons (de_callE hS (ok__law_of a T) hgd (hr.mono (by decide)) (by rfl) T.m__law_of T.F__law_of.kp T.b__law_of (da_cons (de_name 1) (da_cons (de_lst (da_cons de_int (da_cons de_int (da_cons (de_op op_powD de_int de_int) da_nil)))) da_nil))) da_nil))) (dg_tup rfl (dgs_cons (dg_name 3 sc28.nd) (dgs_cons (dg_name 4 sc28.nd) dgs_nil))))
      (dss_cons (ds_set .own 5 sc28.nd (de_lst da_nil))
      (dss_cons (ds_for PassesOwn.never rfl (di_range1 (by rfl) T.n_range (da_cons (de_op op_addD de_int (de_callE hS (ok__law_next a T) hgd (hr.mono (by decide)) (by rfl) T.m__law_next T.F__law_next.kp T.b__law_next (da_cons (de_name 1) (da_cons de_int da_nil)))) da_nil)) (fun _ => (dg_name 6 sc28.nd)) (fun _ => (dss_one (ds_append 5 (de_callTy call_tupleD (by rfl) T.n_tuple (by decide +kernel) (da_cons (de_lc rfl sc28.nd (di_range1 (by rfl) T.n_range (da_cons (de_name 3) da_nil)) (blkOk_by (N := ["_law_script", "_law_m", "_law_turn", "_law_wide", "_law_bound", "_law_some", "_law_one", "_law_k", "_law_way", "_law_nest", "_law_due", "_law_count", "_law_other", "_law_is_so", "_law_told"]) (sc := defScope s28) (own := [("_law_k", 7)]) (by decide +kernel)) (fun _ _ _ _ _ _ => (dg_name 7 sc28.nd)) (fun _ _ _ _ _ _ => dts_nil) (fun _ _ _ _ _ _ => (de_op op_addD de_int (de_callE hS (ok__law_next a T) hgd (hr.mono (by decide)) (by rfl) T.m__law_next T.F__law_next.kp T.b__law_next (da_cons (de_name 1) (da_cons (de_name 4) da_nil))))) (by decide)) da_nil))))))
      (dss_cons (ds_set .fz 5 sc28.nd (de_callTy call_tupleD (by rfl) T.n_tuple (by decide +kernel) (da_cons (de_name 5) da_nil)))
      (dss_cons (ds_for PassesOwn.never rfl (di_val (de_tup (da_cons de_bl (da_cons de_bl da_nil)))) (fun _ => (dg_name 8 sc28.nd)) (fun _ => (dss_cons (ds_set .fz 9 sc28.nd (de_callK (ok_order_of T) hgd (hr.mono (by decide)) (by rfl) T.m_order_of T.F_order_of.kp T.kb_order_of (da_cons (de_name 5) da_nil) (dk_cons (de_name 8) dk_nil)))
      (dss_cons (ds_par2 .own 10 .fz 11 rfl sc28.nd (de_lst da_nil) (de_callB call_lenDD (by rfl) T.n_len (by decide +kernel) (da_cons (de_name 5) da_nil)))
      (dss_cons (ds_for PassesOwn.never rfl (di_range1 (by rfl) T.n_range (da_cons (de_name 11) da_nil)) (fun _ => (dg_name 6 sc28.nd)) (fun _ => (dss_one (ds_for PassesOwn.never rfl (di_range1 (by rfl) T.n_range (da_cons (de_name 11) da_nil)) (fun _ => (dg_name 12 sc28.nd)) (fun _ => (dss_cons (ds_if (dt_val (de_call (ok__law_goes T) hgd (hr.mono (by decide)) (by rfl) T.m__law_goes T.F__law_goes.kp T.b__law_goes (da_cons (de_ix (DL.Room.u1 hr) (de_name 5) (de_name 6)) (da_cons (de_ix (DL.Room.u1 hr) (de_name 5) (de_name 12)) (da_cons (de_name 8) da_nil))))) (dss_one (ds_append 10 (de_tup (da_cons (de_name 6) (da_cons (de_name 12) da_nil))))) dss_nil)
      (dss_cons (ds_set .fz 13 sc28.nd (de_cmp (op_inDD (DL.Room.u65 hr)) (de_tup (da_cons (de_name 6) (da_cons (de_name 12) da_nil))) (de_name 10) (by rfl)))
      (dss_cons (ds_if (dt_cmp (op_neDD hr.units) (de_callB (call_reprD hgd (DL.Room.u65 hr)) (by rfl) T.n_repr (by decide +kernel) (da_cons (de_callK (ok_goes_in T) hgd (hr.mono (by decide)) (by rfl) T.m_goes_in T.F_goes_in.kp T.kb_goes_in (da_cons (de_name 5) (da_cons (de_name 6) (da_cons (de_name 12) da_nil))) (dk_cons (de_name 8) dk_nil)) da_nil)) (de_callB (call_reprD hgd (DL.Room.u65 hr)) (by rfl) T.n_repr (by decide +kernel) (da_cons (de_name 13) da_nil)) (nomark _)) (dss_one (ds_ret de_bl)) dss_nil)
      (dss_one (ds_if (dt_cmp (op_neDD hr.units) (de_call (ok_is_within T) hgd (hr.mono (by decide)) (by rfl) T.m_is_within T.F_is_within.kp T.b_is_within (da_cons (de_name 9) (da_cons (de_name 6) (da_cons (de_name 12) da_nil)))) (de_name 13) (nomark _)) (dss_one (ds_ret de_bl)) dss_nil))))))))))
      (dss_one (ds_if (PW.pt (dw_or (dt_cmp (op_neDD hr.units) (de_callB (call_reprD hgd (DL.Room.u65 hr)) (by rfl) T.n_repr (by decide +kernel) (da_cons (de_name 9) da_nil)) (de_callB (call_reprD hgd (DL.Room.u65 hr)) (by rfl) T.n_repr (by decide +kernel) (da_cons (de_tup (da_cons (de_name 11) (da_cons (de_callTy call_tupleD (by rfl) T.n_tuple (by decide +kernel) (da_cons (de_name 10) da_nil)) da_nil))) da_nil)) (nomark _)) (dw_or1 (dt_cmp (op_neDD hr.units) (de_call (ok_need_order T) hgd (hr.mono (by decide)) (by rfl) T.m_need_order T.F_need_order.kp T.b_need_order (da_cons (de_name 9) da_nil)) (de_name 9) (nomark _))))) (dss_one (ds_ret de_bl)) dss_nil)))))))
      (dss_one (ds_if (PW.pt (dw_or (dt_cmp (op_neDD hr.units) (de_callD (ok_order_of T) hgd (hr.mono (by decide)) (by rfl) T.m_order_of T.F_order_of.kp T.kd_order_of (.cons rfl .nil : Vals [V.bl false] [.bool false]) (fun _ => .cons (.bl false) .nil) (da_cons (de_name 5) da_nil)) (de_callK (ok_order_of T) hgd (hr.mono (by decide)) (by rfl) T.m_order_of T.F_order_of.kp T.kb_order_of (da_cons (de_name 5) da_nil) (dk_cons de_bl dk_nil)) (nomark _)) (dw_or1 (dt_cmp op_isNotD (de_callD (ok_goes_in T) hgd (hr.mono (by decide)) (by rfl) T.m_goes_in T.F_goes_in.kp T.kd_goes_in (.cons rfl .nil : Vals [V.bl false] [.bool false]) (fun _ => .cons (.bl false) .nil) (da_cons (de_name 5) (da_cons de_int (da_cons de_int da_nil)))) de_bl (nomark _))))) (dss_one (ds_ret de_bl)) dss_nil)))))))))
      (dss_cons (ds_set .fz 14 sc28.nd (de_lst (da_cons (de_callD (ok_goes_in T) hgd (hr.mono (by decide)) (by rfl) T.m_goes_in T.F_goes_in.kp T.kd_goes_in (.cons rfl .nil : Vals [V.bl false] [.bool false]) (fun _ => .cons (.bl false) .nil) (da_cons (de_tup (da_cons (de_tup (da_cons de_int (da_cons de_int da_nil))) (da_cons (de_tup (da_cons de_int (da_cons de_int da_nil))) da_nil))) (da_cons de_int (da_cons de_int da_nil)))) (da_cons (de_callK (ok_goes_in T) hgd (hr.mono (by decide)) (by rfl) T.m_goes_in T.F_goes_in.kp T.kb_goes_in (da_cons (de_tup (da_cons (de_tup (da_cons de_int (da_cons de_int da_nil))) (da_cons (de_tup (da_cons de_int (da_cons de_int da_nil))) da_nil))) (da_cons de_int (da_cons de_int da_nil))) (dk_cons de_bl dk_nil)) da_nil))))
      (dss_one (ds_ret (de_and (de_cmp (op_eqDD hr.units) (de_name 14) (de_lst (da_cons de_bl (da_cons de_bl da_nil))) (nomark _)) (de_one (de_cmp (op_eqDD hr.units) (de_callD (ok_order_of T) hgd (hr.mono (by decide)) (by rfl) T.m_order_of T.F_order_of.kp T.kd_order_of (.cons rfl .nil : Vals [V.bl false] [.bool false]) (fun _ => .cons (.bl false) .nil) (da_cons (de_tup (da_cons (de_tup (da_cons de_int da_nil)) (da_cons (de_tup (da_cons de_int da_nil)) (da_cons (de_tup (da_cons de_int da_nil)) da_nil)))) da_nil)) (de_tup (da_cons de_int (da_cons (de_tup (da_cons (de_tup (da_cons de_int (da_cons de_int da_nil))) (da_cons (de_tup (da_cons de_int (da_cons de_int da_nil))) da_nil))) da_nil))) (nomark _))))))))) ok_ws_law

end
theorem all_mk {l : PySem.W.OpenLaw} {w : World} {K : PySem.W.Frag} {h : Heap} {mg : Str → Option Value} {fa : Addr} (X : K.In h) (G : h.Ns mainGlobals mg) (hfa : mg "law" = some (.ref fa))
    {f0 : Addr} {od0 an0 : Option Addr} {sl0 : Array (Option Value)} {oc0 kV0 dc0 pm0 cd0 ct0 : Value} (a0 : PySem.W.nsIn K mainGlobals "is_whole" = some (some (.ref f0))) (l0 : K.lookup f0 = some ⟨oc0, od0, .func (PySem.W.fnOf "is_whole" "is_whole" (defArgs s6) (defBody s6) (defScope s6) .none kV0 dc0 pm0 an0 cd0 ct0), sl0⟩) (c0 : PySem.W.codeIn K cd0 "is_whole" = true) (k0 : PySem.W.keepIn K (.ref f0) = true)
    {f1 : Addr} {od1 an1 : Option Addr} {sl1 : Array (Option Value)} {oc1 kV1 dc1 pm1 cd1 ct1 : Value} (a1 : PySem.W.nsIn K mainGlobals "are_ascending" = some (some (.ref f1))) (l1 : K.lookup f1 = some ⟨oc1, od1, .func (PySem.W.fnOf "are_ascending" "are_ascending" (defArgs s7) (defBody s7) (defScope s7) .none kV1 dc1 pm1 an1 cd1 ct1), sl1⟩) (c1 : PySem.W.codeIn K cd1 "are_ascending" = true) (k1 : PySem.W.keepIn K (.ref f1) = true)
    {f2 : Addr} {od2 an2 : Option Addr} {sl2 : Array (Option Value)} {oc2 kV2 dc2 pm2 cd2 ct2 : Value} (a2 : PySem.W.nsIn K mainGlobals "is_pair" = some (some (.ref f2))) (l2 : K.lookup f2 = some ⟨oc2, od2, .func (PySem.W.fnOf "is_pair" "is_pair" (defArgs s8) (defBody s8) (defScope s8) .none kV2 dc2 pm2 an2 cd2 ct2), sl2⟩) (c2 : PySem.W.codeIn K cd2 "is_pair" = true) (k2 : PySem.W.keepIn K (.ref f2) = true)
    {f3 : Addr} {od3 an3 : Option Addr} {sl3 : Array (Option Value)} {oc3 kV3 dc3 pm3 cd3 ct3 : Value} (a3 : PySem.W.nsIn K mainGlobals "above_of" = some (some (.ref f3))) (l3 : K.lookup f3 = some ⟨oc3, od3, .func (PySem.W.fnOf "above_of" "above_of" (defArgs s9) (defBody s9) (defScope s9) .none kV3 dc3 pm3 an3 cd3 ct3), sl3⟩) (c3 : PySem.W.codeIn K cd3 "above_of" = true) (k3 : PySem.W.keepIn K (.ref f3) = true)
    {f4 : Addr} {od4 an4 : Option Addr} {sl4 : Array (Option Value)} {oc4 kV4 dc4 pm4 cd4 ct4 : Value} (a4 : PySem.W.nsIn K mainGlobals "need_order" = some (some (.ref f4))) (l4 : K.lookup f4 = some ⟨oc4, od4, .func (PySem.W.fnOf "need_order" "need_order" (defArgs s10) (defBody s10) (defScope s10) .none kV4 dc4 pm4 an4 cd4 ct4), sl4⟩) (c4 : PySem.W.codeIn K cd4 "need_order" = true) (k4 : PySem.W.keepIn K (.ref f4) = true)
    {f5 : Addr} {od5 an5 : Option Addr} {sl5 : Array (Option Value)} {oc5 kV5 dc5 pm5 cd5 ct5 : Value} (a5 : PySem.W.nsIn K mainGlobals "need_kind" = some (some (.ref f5))) (l5 : K.lookup f5 = some ⟨oc5, od5, .func (PySem.W.fnOf "need_kind" "need_kind" (defArgs s11) (defBody s11) (defScope s11) .none kV5 dc5 pm5 an5 cd5 ct5), sl5⟩) (c5 : PySem.W.codeIn K cd5 "need_kind" = true) (k5 : PySem.W.keepIn K (.ref f5) = true)
    {f6 : Addr} {od6 an6 : Option Addr} {sl6 : Array (Option Value)} {oc6 kV6 dc6 pm6 cd6 ct6 : Value} (a6 : PySem.W.nsIn K mainGlobals "is_within" = some (some (.ref f6))) (l6 : K.lookup f6 = some ⟨oc6, od6, .func (PySem.W.fnOf "is_within" "is_within" (defArgs s12) (defBody s12) (defScope s12) .none kV6 dc6 pm6 an6 cd6 ct6), sl6⟩) (c6 : PySem.W.codeIn K cd6 "is_within" = true) (k6 : PySem.W.keepIn K (.ref f6) = true)
    {f7 : Addr} {od7 an7 : Option Addr} {sl7 : Array (Option Value)} {oc7 kV7 dc7 pm7 cd7 ct7 : Value} (a7 : PySem.W.nsIn K mainGlobals "is_box" = some (some (.ref f7))) (l7 : K.lookup f7 = some ⟨oc7, od7, .func (PySem.W.fnOf "is_box" "is_box" (defArgs s16) (defBody s16) (defScope s16) .none kV7 dc7 pm7 an7 cd7 ct7), sl7⟩) (c7 : PySem.W.codeIn K cd7 "is_box" = true) (k7 : PySem.W.keepIn K (.ref f7) = true)
    {f8 : Addr} {od8 an8 : Option Addr} {sl8 : Array (Option Value)} {oc8 kV8 dc8 pm8 cd8 ct8 : Value} (a8 : PySem.W.nsIn K mainGlobals "need_boxes" = some (some (.ref f8))) (l8 : K.lookup f8 = some ⟨oc8, od8, .func (PySem.W.fnOf "need_boxes" "need_boxes" (defArgs s17) (defBody s17) (defScope s17) .none kV8 dc8 pm8 an8 cd8 ct8), sl8⟩) (c8 : PySem.W.codeIn K cd8 "need_boxes" = true) (k8 : PySem.W.keepIn K (.ref f8) = true)
    {f9 : Addr} {od9 an9 : Option Addr} {sl9 : Array (Option Value)} {oc9 kV9 dc9 pm9 cd9 ct9 : Value} (a9 : PySem.W.nsIn K mainGlobals "does_go" = some (some (.ref f9))) (l9 : K.lookup f9 = some ⟨oc9, od9, .func (PySem.W.fnOf "does_go" "does_go" (defArgs s18) (defBody s18) (defScope s18) .none kV9 dc9 pm9 an9 cd9 ct9), sl9⟩) (c9 : PySem.W.codeIn K cd9 "does_go" = true) (k9 : PySem.W.keepIn K (.ref f9) = true)
    {f10 : Addr} {od10 an10 : Option Addr} {sl10 : Array (Option Value)} {oc10 kV10 dc10 pm10 cd10 ct10 : Value} (a10 : PySem.W.nsIn K mainGlobals "need_turned" = some (some (.ref f10))) (l10 : K.lookup f10 = some ⟨oc10, od10, .func (PySem.W.fnOf "need_turned" "need_turned" (defArgs s19) (defBody s19) (defScope s19) .none kV10 dc10 pm10 an10 cd10 ct10), sl10⟩) (c10 : PySem.W.codeIn K cd10 "need_turned" = true) (k10 : PySem.W.keepIn K (.ref f10) = true)
    {f11 : Addr} {od11 an11 : Option Addr} {sl11 : Array (Option Value)} {oc11 dc11 pm11 cd11 ct11 : Value} {D11 : Addr} (a11 : PySem.W.nsIn K mainGlobals "goes_in" = some (some (.ref f11))) (l11 : K.lookup f11 = some ⟨oc11, od11, .func (PySem.W.fnOf "goes_in" "goes_in" (defArgs s20) (defBody s20) (defScope s20) .none (.ref D11) dc11 pm11 an11 cd11 ct11), sl11⟩) (c11 : PySem.W.codeIn K cd11 "goes_in" = true) (k11 : PySem.W.keepIn K (.ref f11) = true)
    (d11_0 : PySem.W.nsIn K D11 "turned" = some (some (.bool false)))
    {f12 : Addr} {od12 an12 : Option Addr} {sl12 : Array (Option Value)} {oc12 dc12 pm12 cd12 ct12 : Value} {D12 : Addr} (a12 : PySem.W.nsIn K mainGlobals "order_of" = some (some (.ref f12))) (l12 : K.lookup f12 = some ⟨oc12, od12, .func (PySem.W.fnOf "order_of" "order_of" (defArgs s21) (defBody s21) (defScope s21) .none (.ref D12) dc12 pm12 an12 cd12 ct12), sl12⟩) (c12 : PySem.W.codeIn K cd12 "order_of" = true) (k12 : PySem.W.keepIn K (.ref f12) = true)
    (d12_0 : PySem.W.nsIn K D12 "turned" = some (some (.bool false)))
    {f13 : Addr} {od13 an13 : Option Addr} {sl13 : Array (Option Value)} {oc13 kV13 dc13 pm13 cd13 ct13 : Value} (a13 : PySem.W.nsIn K mainGlobals "_law_of" = some (some (.ref f13))) (l13 : K.lookup f13 = some ⟨oc13, od13, .func (PySem.W.fnOf "_law_of" "_law_of" (defArgs s25) (defBody s25) (defScope s25) .none kV13 dc13 pm13 an13 cd13 ct13), sl13⟩) (c13 : PySem.W.codeIn K cd13 "_law_of" = true) (k13 : PySem.W.keepIn K (.ref f13) = true)
    {f14 : Addr} {od14 an14 : Option Addr} {sl14 : Array (Option Value)} {oc14 kV14 dc14 pm14 cd14 ct14 : Value} (a14 : PySem.W.nsIn K mainGlobals "_law_orders_of" = some (some (.ref f14))) (l14 : K.lookup f14 = some ⟨oc14, od14, .func (PySem.W.fnOf "_law_orders_of" "_law_orders_of" (defArgs s26) (defBody s26) (defScope s26) .none kV14 dc14 pm14 an14 cd14 ct14), sl14⟩) (c14 : PySem.W.codeIn K cd14 "_law_orders_of" = true) (k14 : PySem.W.keepIn K (.ref f14) = true)
    {f15 : Addr} {od15 an15 : Option Addr} {sl15 : Array (Option Value)} {oc15 kV15 dc15 pm15 cd15 ct15 : Value} (a15 : PySem.W.nsIn K mainGlobals "_law_goes" = some (some (.ref f15))) (l15 : K.lookup f15 = some ⟨oc15, od15, .func (PySem.W.fnOf "_law_goes" "_law_goes" (defArgs s27) (defBody s27) (defScope s27) .none kV15 dc15 pm15 an15 cd15 ct15), sl15⟩) (c15 : PySem.W.codeIn K cd15 "_law_goes" = true) (k15 : PySem.W.keepIn K (.ref f15) = true)
    {f16 : Addr} {od16 an16 : Option Addr} {sl16 : Array (Option Value)} {oc16 kV16 dc16 pm16 cd16 ct16 : Value} (a16 : PySem.W.nsIn K mainGlobals "law" = some (some (.ref f16))) (l16 : K.lookup f16 = some ⟨oc16, od16, .func (PySem.W.fnOf "law" "law" (defArgs s28) (defBody s28) (defScope s28) .none kV16 dc16 pm16 an16 cd16 ct16), sl16⟩) (c16 : PySem.W.codeIn K cd16 "law" = true) (k16 : PySem.W.keepIn K (.ref f16) = true)
    {f17 : Addr} {od17 an17 : Option Addr} {sl17 : Array (Option Value)} {oc17 kV17 dc17 pm17 cd17 ct17 : Value} (a17 : PySem.W.nsIn K mainGlobals "_law_begun" = some (some (.ref f17))) (l17 : K.lookup f17 = some ⟨oc17, od17, .func (PySem.W.fnOf "_law_begun" "_law_begun" (defArgs s23) (defBody s23) (defScope s23) .none kV17 dc17 pm17 an17 cd17 ct17), sl17⟩) (c17 : PySem.W.codeIn K cd17 "_law_begun" = true) (k17 : PySem.W.keepIn K (.ref f17) = true)
    {f18 : Addr} {od18 an18 : Option Addr} {sl18 : Array (Option Value)} {oc18 kV18 dc18 pm18 cd18 ct18 : Value} (a18 : PySem.W.nsIn K mainGlobals "_law_next" = some (some (.ref f18))) (l18 : K.lookup f18 = some ⟨oc18, od18, .func (PySem.W.fnOf "_law_next" "_law_next" (defArgs s24) (defBody s24) (defScope s24) .none kV18 dc18 pm18 an18 cd18 ct18), sl18⟩) (c18 : PySem.W.codeIn K cd18 "_law_next" = true) (k18 : PySem.W.keepIn K (.ref f18) = true)
    (z0 : PySem.W.nsIn K mainGlobals "all" = some none)
    (z1 : PySem.W.nsIn K mainGlobals "any" = some none)
    (z2 : PySem.W.nsIn K mainGlobals "bool" = some none)
    (z3 : PySem.W.nsIn K mainGlobals "enumerate" = some none)
    (z4 : PySem.W.nsIn K mainGlobals "int" = some none)
    (z5 : PySem.W.nsIn K mainGlobals "isinstance" = some none)
    (z6 : PySem.W.nsIn K mainGlobals "len" = some none)
    (z7 : PySem.W.nsIn K mainGlobals "list" = some none)
    (z8 : PySem.W.nsIn K mainGlobals "min" = some none)
    (z9 : PySem.W.nsIn K mainGlobals "range" = some none)
    (z10 : PySem.W.nsIn K mainGlobals "repr" = some none)
    (z11 : PySem.W.nsIn K mainGlobals "sorted" = some none)
    (z12 : PySem.W.nsIn K mainGlobals "tuple" = some none)
    (z13 : PySem.W.nsIn K mainGlobals "zip" = some none)
    {t0 : Tok} (y0 : PySem.W.nsIn K mainGlobals "MOST_KINDS" = some (some (.int 12 t0)))
    {t1 : Tok} (y1 : PySem.W.nsIn K mainGlobals "MOST_SIDE" = some (some (.int 1000000 t1)))
    {t2 : Tok} (y2 : PySem.W.nsIn K mainGlobals "MOST_SIDES" = some (some (.int 3 t2))) :
    ∃ fd : FuncData, (∀ (s : Shared) (v : Value), BindsTo s fd ⟨[v], []⟩ [("_law_script", v)]) ∧ ∀ base : Heap, K.In base → base.Ns mainGlobals mg → FnG l.prog w K mg base CX0 8 fa fd ["_law_script"] (spLaw K) := by
  have e := hfa.symm.trans (PySem.W.mg_of X G a16)
  cases e
  have F0 := fun_mk (st := s6) l0 c0 k0
  have F1 := fun_mk (st := s7) l1 c1 k1
  have F2 := fun_mk (st := s8) l2 c2 k2
  have F3 := fun_mk (st := s9) l3 c3 k3
  have F4 := fun_mk (st := s10) l4 c4 k4
  have F5 := fun_mk (st := s11) l5 c5 k5
  have F6 := fun_mk (st := s12) l6 c6 k6
  have F7 := fun_mk (st := s16) l7 c7 k7
  have F8 := fun_mk (st := s17) l8 c8 k8
  have F9 := fun_mk (st := s18) l9 c9 k9
  have F10 := fun_mk (st := s19) l10 c10 k10
  have F11 := fun_mk (st := s20) l11 c11 k11
  have F12 := fun_mk (st := s21) l12 c12 k12
  have F13 := fun_mk (st := s25) l13 c13 k13
  have F14 := fun_mk (st := s26) l14 c14 k14
  have F15 := fun_mk (st := s27) l15 c15 k15
  have F16 := fun_mk (st := s28) l16 c16 k16
  have F17 := fun_mk (st := s23) l17 c17 k17
  have F18 := fun_mk (st := s24) l18 c18 k18
  let T : Tx K mg := ⟨f0,
    _,
    F0,
    PySem.W.mg_of X G a0,
    F0.binds fun _ _ _ _ _ _ us hl => match us, hl with | [_, _, _], _ => rfl,
    f1,
    _,
    F1,
    PySem.W.mg_of X G a1,
    F1.binds fun _ _ _ _ _ _ us hl => match us, hl with | [_], _ => rfl,
    f2,
    _,
    F2,
    PySem.W.mg_of X G a2,
    F2.binds fun _ _ _ _ _ _ us hl => match us, hl with | [_, _], _ => rfl,
    f3,
    _,
    F3,
    PySem.W.mg_of X G a3,
    F3.binds fun _ _ _ _ _ _ us hl => match us, hl with | [_], _ => rfl,
    f4,
    _,
    F4,
    PySem.W.mg_of X G a4,
    F4.binds fun _ _ _ _ _ _ us hl => match us, hl with | [_], _ => rfl,
    f5,
    _,
    F5,
    PySem.W.mg_of X G a5,
    F5.binds fun _ _ _ _ _ _ us hl => match us, hl with | [_, _], _ => rfl,
    f6,
    _,
    F6,
    PySem.W.mg_of X G a6,
    F6.binds fun _ _ _ _ _ _ us hl => match us, hl with | [_, _, _], _ => rfl,
    f7,
    _,
    F7,
    PySem.W.mg_of X G a7,
    F7.binds fun _ _ _ _ _ _ us hl => match us, hl with | [_], _ => rfl,
    f8,
    _,
    F8,
    PySem.W.mg_of X G a8,
    F8.binds fun _ _ _ _ _ _ us hl => match us, hl with | [_], _ => rfl,
    f9,
    _,
    F9,
    PySem.W.mg_of X G a9,
    F9.binds fun _ _ _ _ _ _ us hl => match us, hl with | [_, _, _], _ => rfl,
    f10,
    _,
    F10,
    PySem.W.mg_of X G a10,
    F10.binds fun _ _ _ _ _ _ us hl => match us, hl with | [_], _ => rfl,
    f11,
    _,
    F11,
    PySem.W.mg_of X G a11,
    ⟨fun s us ws _ l1 l2 => .of_eq (match us, ws, l1, l2 with | [_, _, _], [_], _, _ => rfl), fun r1 r2 => r1.append r2⟩,
    fun s us X hl => BindsTo.of_looks fun M => KwChain.looks X (l := [("turned", .bool false)]) (fun q hq => by obtain rfl : q = _ := (by simpa using hq); exact d11_0) (have h3 : us.length = 3 := (by simpa using hl); match us, h3 with | [_, _, _], _ => ⟨_, _, _, _, _, _, rfl, rfl, rfl⟩),
    f12,
    _,
    F12,
    PySem.W.mg_of X G a12,
    ⟨fun s us ws _ l1 l2 => .of_eq (match us, ws, l1, l2 with | [_], [_], _, _ => rfl), fun r1 r2 => r1.append r2⟩,
    fun s us X hl => BindsTo.of_looks fun M => KwChain.looks X (l := [("turned", .bool false)]) (fun q hq => by obtain rfl : q = _ := (by simpa using hq); exact d12_0) (have h3 : us.length = 1 := (by simpa using hl); match us, h3 with | [_], _ => ⟨_, _, _, _, _, _, rfl, rfl, rfl⟩),
    f13,
    _,
    F13,
    PySem.W.mg_of X G a13,
    F13.binds fun _ _ _ _ _ _ us hl => match us, hl with | [_, _], _ => rfl,
    f14,
    _,
    F14,
    PySem.W.mg_of X G a14,
    F14.binds fun _ _ _ _ _ _ us hl => match us, hl with | [_], _ => rfl,
    f15,
    _,
    F15,
    PySem.W.mg_of X G a15,
    F15.binds fun _ _ _ _ _ _ us hl => match us, hl with | [_, _, _], _ => rfl,
    fa,
    _,
    F16,
    PySem.W.mg_of X G a16,
    F16.binds fun _ _ _ _ _ _ us hl => match us, hl with | [_], _ => rfl,
    f17,
    _,
    F17,
    PySem.W.mg_of X G a17,
    F17.binds fun _ _ _ _ _ _ us hl => match us, hl with | [_], _ => rfl,
    f18,
    _,
    F18,
    PySem.W.mg_of X G a18,
    F18.binds fun _ _ _ _ _ _ us hl => match us, hl with | [_, _], _ => rfl,
    PySem.W.mg_none_of X G z0,
    PySem.W.mg_none_of X G z1,
    PySem.W.mg_none_of X G z2,
    PySem.W.mg_none_of X G z3,
    PySem.W.mg_none_of X G z4,
    PySem.W.mg_none_of X G z5,
    PySem.W.mg_none_of X G z6,
    PySem.W.mg_none_of X G z7,
    PySem.W.mg_none_of X G z8,
    PySem.W.mg_none_of X G z9,
    PySem.W.mg_none_of X G z10,
    PySem.W.mg_none_of X G z11,
    PySem.W.mg_none_of X G z12,
    PySem.W.mg_none_of X G z13,
    t0,
    PySem.W.mg_of X G y0,
    t1,
    PySem.W.mg_of X G y1,
    t2,
    PySem.W.mg_of X G y2⟩
  exact ⟨PySem.W.fnOf "law" "law" (defArgs s28) (defBody s28) (defScope s28) .none kV16 dc16 pm16 an16 cd16 ct16, fun s v => .of_eq rfl, fun base _ _ => ok_law T⟩
theorem walk {l : PySem.W.OpenLaw} {q : Program} {loose : List Str} {XP : (Str → Option Value) → Heap → Prop} {YP : World → Heap → Prop} {d : DefRec} {K : Params → PySem.W.Frag} (hn : l.most = some 63) (hdf : d.params.defaults = [])
    (hY : ∀ (w : World) (h : Heap), YP w h → (K w.params).In h)
    (F : ∀ (w : World) (mg : Str → Option Value) (fa : Addr) (h : Heap), (K w.params).In h → h.Ns mainGlobals mg → mg d.name = some (.ref fa) →
      ∃ fd : FuncData, (∀ (s : Shared) (u : Value), BindsTo s fd ⟨[u], []⟩ [("_law_script", u)]) ∧ ∀ base : Heap, (K w.params).In base → base.Ns mainGlobals mg → FnG l.prog w (K w.params) mg base CX0 8 fa fd ["_law_script"] (spLaw (K w.params))) :
    PySem.W.WalkO q loose XP YP l.row.toRowW d [] (fun f vs => PySem.call f vs) :=
  walkG (n := 63) (k := 8) (x := "_law_script") (sp := fun w => spLaw (K w.params)) hn (by decide) hdf ⟨rfl, by decide, by decide⟩ hY F fun _ _ a ns hl hO hS => ⟨a, ns, rfl, hl, hO, hS, fun _ => rfl⟩
end K42
open PySem PySem.W PyProof.Rows
set_option maxRecDepth 100000 in
set_option maxHeartbeats 0 in
theorem PySem.Challenge.cw_nestcrates_k42_whole_boxes_holds : PySem.Challenge.rw_nestcrates_k42_whole_boxes.Holds := by
  w_on; o_law; k_head; (case hw => w_witness2)
  k_fill
  refine K42.walk (l := PySem.Challenge.rw_nestcrates_k42_whole_boxes) rfl rfl (fun w h Y => PySem.W.kIn_of Y) ?F
  case F =>
    intro w mg fa h KX G hmg
    refine' K42.all_mk KX G hmg ?a0 ?l0 ?c0 ?k0 ?a1 ?l1 ?c1 ?k1 ?a2 ?l2 ?c2 ?k2 ?a3 ?l3 ?c3 ?k3 ?a4 ?l4 ?c4 ?k4 ?a5 ?l5 ?c5 ?k5 ?a6 ?l6 ?c6 ?k6 ?a7 ?l7 ?c7 ?k7 ?a8 ?l8 ?c8 ?k8 ?a9 ?l9 ?c9 ?k9 ?a10 ?l10 ?c10 ?k10 ?a11 ?l11 ?c11 ?k11 ?d11_0 ?a12 ?l12 ?c12 ?k12 ?d12_0 ?a13 ?l13 ?c13 ?k13 ?a14 ?l14 ?c14 ?k14 ?a15 ?l15 ?c15 ?k15 ?a16 ?l16 ?c16 ?k16 ?a17 ?l17 ?c17 ?k17 ?a18 ?l18 ?c18 ?k18 ?z0 ?z1 ?z2 ?z3 ?z4 ?z5 ?z6 ?z7 ?z8 ?z9 ?z10 ?z11 ?z12 ?z13 ?y0 ?y1 ?y2
    (case a0 => k_is); (case l0 => k_is); (case c0 => k_is); (case k0 => k_is)
    (case a1 => k_is); (case l1 => k_is); (case c1 => k_is); (case k1 => k_is)
    (case a2 => k_is); (case l2 => k_is); (case c2 => k_is); (case k2 => k_is)
    (case a3 => k_is); (case l3 => k_is); (case c3 => k_is); (case k3 => k_is)
    (case a4 => k_is); (case l4 => k_is); (case c4 => k_is); (case k4 => k_is)
    (case a5 => k_is); (case l5 => k_is); (case c5 => k_is); (case k5 => k_is)
    (case a6 => k_is); (case l6 => k_is); (case c6 => k_is); (case k6 => k_is)
    (case a7 => k_is); (case l7 => k_is); (case c7 => k_is); (case k7 => k_is)
    (case a8 => k_is); (case l8 => k_is); (case c8 => k_is); (case k8 => k_is)
    (case a9 => k_is); (case l9 => k_is); (case c9 => k_is); (case k9 => k_is)
    (case a10 => k_is); (case l10 => k_is); (case c10 => k_is); (case k10 => k_is)
    (case a11 => k_is); (case l11 => k_is); (case c11 => k_is); (case k11 => k_is)
    (case d11_0 => k_is); (case a12 => k_is); (case l12 => k_is); (case c12 => k_is)
    (case k12 => k_is); (case d12_0 => k_is); (case a13 => k_is); (case l13 => k_is)
    (case c13 => k_is); (case k13 => k_is); (case a14 => k_is); (case l14 => k_is)
    (case c14 => k_is); (case k14 => k_is); (case a15 => k_is); (case l15 => k_is)
    (case c15 => k_is); (case k15 => k_is); (case a16 => k_is); (case l16 => k_is)
    (case c16 => k_is); (case k16 => k_is); (case a17 => k_is); (case l17 => k_is)
    (case c17 => k_is); (case k17 => k_is); (case a18 => k_is); (case l18 => k_is)
    (case c18 => k_is); (case k18 => k_is); (case z0 => k_is); (case z1 => k_is)
    (case z2 => k_is); (case z3 => k_is); (case z4 => k_is); (case z5 => k_is)
    (case z6 => k_is); (case z7 => k_is); (case z8 => k_is); (case z9 => k_is)
    (case z10 => k_is); (case z11 => k_is); (case z12 => k_is); (case z13 => k_is)
    (case y0 => k_is); (case y1 => k_is); (case y2 => k_is)
