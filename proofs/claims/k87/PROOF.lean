import PyProof.Rows.All
import Wide.All
import OpenK.AllK
import Wide.FinOn
import HandS.ForMost
import HandS.IsInst
import HandS.Zip
import HandS.Flow
import HandS.Conv
import KE.KeyNested
import PyProof.DictRoadsH
import HandS.Exc
import HandS.TupAny
import HandS.TupLe
import HandS.TupMul
import HandS.Deep
import HandS.Wide
import HandS.TupLen
import HandS.WordsDict
import HandS.Style
import KE.SortData
import PyProof.ReprRoads
import PyProof.CallFns
import KE.GoesEnum
import HandS.Defaults
import HandS.MakeKwOnly
import HandS.Star
import HandS.Small
import HandS.Ends
import KE.KExcSuper
import HandS.TryMany
import HandS.TryOnly
import HandS.ExcIs
import HandS.ExcValue
import KE.KExcIs
import KE.KTryMore
import OpenK.KMore
import HandS.Lambda
import HandS.EndTab
import KE.KNestM
import HandS.HotCalls
import HandS.Text
import PySem.Challenge.RW_nestcrates_k87_errors
set_option Elab.async false
set_option linter.all false
set_option maxRecDepth 100000
set_option maxHeartbeats 4000000
/-! ### keys that are nested tuples of whole numbers; dicts of such keys that are data -/
namespace DL
open PySem PySem.Spec PyProof.Rows L2
abbrev D := PyData
mutual
/-- the key that data are -/
def nkOf : D → Option NestedKey
  | .none => some .none
  | .int i => some (.num i)
  | .tuple ds => (nksOf ds).map .tup
  | _ => none
def nksOf : List D → Option (List NestedKey)
  | [] => some []
  | d :: r => (nkOf d).bind fun k => (nksOf r).map (k :: ·)
end
mutual
/-- the hash of a key without texts -/
def hashN : NestedKey → Int
  | .none => reduceHash 0xFCA86420
  | .num i => hashInt i
  | .text _ => 0
  | .tup ks => reduceHash (Builtin.Tuple.tupleHashOf (hashNs ks))
def hashNs : List NestedKey → List Int
  | [] => []
  | k :: ks => hashN k :: hashNs ks
end
abbrev NE := NestedKey × Addr × Value
def nEnt (x : NE) : DictEntry := ⟨hashN x.1, .ref x.2.1, x.2.2⟩
def nestΦ (a : Addr) (o : Obj) (L : List NE) : Heap → Prop := fun h => (a == sysModules) = false ∧ h.get? a = some o ∧ ∃ es ep, o.ExactDict ∧ o.data = .dict es ep ∧ es.toList = L.map nEnt ∧ (L.map (·.1)).Nodup
def isT : D → Bool
  | .tuple _ => true
  | _ => false
/-- data that may be a key of such a dict -/
def okN (d : D) : Bool := match nkOf d with
  | some k => decide (k.depth ≤ 8)
  | none => false
theorem okN_some {d : D} (h : okN d = true) : ∃ k, nkOf d = some k ∧ k.depth ≤ 8 := by
  unfold okN at h
  cases e : nkOf d with
  | none => rw [e] at h; cases h
  | some k => rw [e] at h; exact ⟨k, rfl, of_decide_eq_true h⟩
/-- a dict of such keys at an address: its entries, the values, the data -/
structure Nst (H : Hp) (a : Addr) (L : List NE) (us : List V) (es : List (D × D)) : Prop where
  at_ : ∃ o, H a = some (.ext (nestΦ a o L))
  ks : L.map (fun x => some x.1) = es.map (fun e => nkOf e.1)
  dp : ∀ x ∈ L, x.1.depth ≤ 8
  vs : Vals us (L.map fun x => x.2.2)
  ne : es ≠ []
  tt : ∀ p ∈ es, isT p.1 = true
theorem Nst.st {H H' : Hp} {a : Addr} {L : List NE} {us : List V} {es : List (D × D)} (n : Nst H a L us es) (k : ∀ o, H a = some o → H' a = some o) : Nst H' a L us es := ⟨let ⟨o, h⟩ := n.at_; ⟨o, k _ h⟩, n.ks, n.dp, n.vs, n.ne, n.tt⟩
theorem Nst.there {H : Hp} {a : Addr} {L : List NE} {us : List V} {es : List (D × D)} (n : Nst H a L us es) : ∃ ob, H a = some ob := let ⟨_, h⟩ := n.at_; ⟨_, h⟩
end DL
/-! A data layer of my own over the hand layer: values of the heap read as trees of data, so that a def's body becomes a predicate transformer over plain data. -/
namespace L2
open PySem PySem.Spec PyProof.Rows
/-- an error held as a value: its class, its dict -/
def ErO (cls : Value) (d : Option Addr) (a : Addr) : HO := .ext fun h => ∃ (oe : Obj) (vs : Array Value), h.get? a = some oe ∧ Zc cls d oe ∧ oe.data = .fields vs
/-- the error at a, as it is -/
def ErX (oe : Obj) (a : Addr) : HO := .ext fun h => h.get? a = some oe
end L2
namespace DL
open PySem PySem.Spec PyProof.Rows L2

def kD : Key → D
  | .inl i => .int i
  | .inr x => .str x

/-- a world: what is tracked, what may change (M: owned by some frame; C: the law's own state) -/
structure Wd where
  H : Hp
  M : Addr → Prop
  C : Addr → Prop

/-- what may stand in a key of an own dict: a whole number, a text -/
def isKV : V → Bool
  | .int _ => true
  | .str _ => true
  | _ => false
/-- how a tuple stands in the heap: with its object -/
def tupO (o : Obj) (xs : List V) : HO := .frz o (.tup xs)
/-- a tuple that has no dict of its own -/
def TupAt (H : Hp) (a : Addr) (xs : List V) : Prop := ∃ o : Obj, o.dict = none ∧ H a = some (tupO o xs)
theorem TupAt.rd {H : Hp} {a : Addr} {xs : List V} (h : TupAt H a xs) : Rd H a (.tup xs) := let ⟨o, _, h⟩ := h; .inr ⟨o, h⟩
theorem TupAt.sq {K : PySem.W.Frag} {H : Hp} {a : Addr} {xs : List V} (h : TupAt H a xs) : SqT K H a xs := .inl h.rd
theorem TupAt.plain {H : Hp} {a : Addr} {xs : List V} (h : TupAt H a xs) : ∃ o : Obj, o.dict = none ∧ H a = some (.frz o (.tup xs)) := h
/-- things whose inside no rule of data knows: the code, the address, what stands in the heap, the values inside -/
inductive Opq : D → Addr → List (Addr × HO) → List V → Prop
  | err0 {C a : Addr} : Opq (.int ((C : Nat) : Int)) a [(a, ErO (.ref C) none a)] []
  | err1 {C a dd : Addr} {f : Str} {v : V} : Opq (.tuple [.int ((C : Nat) : Int), .str f]) a [(a, ErO (.ref C) (some dd) a), (dd, .xd [(f, v)])] [v]
  | errX0 {C a : Addr} {oe : Obj} : Zc (.ref C) none oe → (∃ vs, oe.data = .fields vs) → Opq (.int ((C : Nat) : Int)) a [(a, ErX oe a)] []
  | errX1 {C a dd : Addr} {f : Str} {v : V} {oe : Obj} : Zc (.ref C) (some dd) oe → (∃ vs, oe.data = .fields vs) → Opq (.tuple [.int ((C : Nat) : Int), .str f]) a [(a, ErX oe a), (dd, .xd [(f, v)])] [v]
/-- such a thing, as data: a dict with keys of two kinds, which is none -/
def opD (c : D) (ds : List D) : D := .dict [(.none, .list ds), (.tuple [], c)]
/-- is it such a thing? -/
def isOp : D → Bool
  | .dict ((.none, _) :: _) => true
  | _ => false
mutual
inductive Rp (w : Wd) : V → D → Prop
  | non : Rp w .non .none
  | bl (b : Bool) : Rp w (.bl b) (.bool b)
  | int (i : Int) : Rp w (.int i) (.int i)
  | str (x : Str) : Rp w (.str x) (.str x)
  | lst {a : Addr} {xs : List V} {ds : List D} : ¬ w.M a → w.H a = some (.lst xs) → RpL w xs ds → Rp w (.ref a) (.list ds)
  | tup {a : Addr} {xs : List V} {ds : List D} : ¬ w.M a → TupAt w.H a xs → RpL w xs ds → Rp w (.ref a) (.tuple ds)
  | dK {a : Addr} {kvs : List (Key × V)} {es : List (D × D)} : ¬ w.M a → Rd w.H a (.dK kvs) → es.map (·.1) = kvs.map (fun p => kD p.1) → RpL w (kvs.map (·.2)) (es.map (·.2)) → Rp w (.ref a) (.dict es)
  | dN {a : Addr} {L : List NE} {us : List V} {es : List (D × D)} : ¬ w.M a → Nst w.H a L us es → RpL w (L.map fun x => V.ref x.2.1) (es.map (·.1)) → RpL w us (es.map (·.2)) → Rp w (.ref a) (.dict es)
  | op {a : Addr} {c : D} {F : List (Addr × HO)} {vs : List V} {ds : List D} : ¬ w.M a → Opq c a F vs → (∀ p ∈ F, ¬ w.M p.1 ∧ w.H p.1 = some p.2) → RpL w vs ds → Rp w (.ref a) (.dict [(.none, .list ds), (.tuple [], c)])
inductive RpL (w : Wd) : List V → List D → Prop
  | nil : RpL w [] []
  | cons {v : V} {vs : List V} {d : D} {ds : List D} : Rp w v d → RpL w vs ds → RpL w (v :: vs) (d :: ds)
end

/-- what is to be read now: as Rp, its own top object may be somebody's own -/
inductive Rq (w : Wd) : V → D → Prop
  | non : Rq w .non .none
  | bl (b : Bool) : Rq w (.bl b) (.bool b)
  | int (i : Int) : Rq w (.int i) (.int i)
  | str (x : Str) : Rq w (.str x) (.str x)
  | lst {a : Addr} {xs : List V} {ds : List D} : w.H a = some (.lst xs) → RpL w xs ds → Rq w (.ref a) (.list ds)
  | tup {a : Addr} {xs : List V} {ds : List D} : ¬ w.M a → TupAt w.H a xs → RpL w xs ds → Rq w (.ref a) (.tuple ds)
  | dK {a : Addr} {kvs : List (Key × V)} {es : List (D × D)} : Rd w.H a (.dK kvs) → es.map (·.1) = kvs.map (fun p => kD p.1) → RpL w (kvs.map (·.2)) (es.map (·.2)) → Rq w (.ref a) (.dict es)
  | dN {a : Addr} {L : List NE} {us : List V} {es : List (D × D)} : Nst w.H a L us es → RpL w (L.map fun x => V.ref x.2.1) (es.map (·.1)) → RpL w us (es.map (·.2)) → Rq w (.ref a) (.dict es)
  | op {a : Addr} {c : D} {F : List (Addr × HO)} {vs : List V} {ds : List D} : Opq c a F vs → (∀ p ∈ F, ¬ w.M p.1 ∧ w.H p.1 = some p.2) → RpL w vs ds → Rq w (.ref a) (.dict [(.none, .list ds), (.tuple [], c)])

/-- an object that somebody owns: its content -/
inductive Ow (w : Wd) (a : Addr) : D → Prop
  | lst {xs : List V} {ds : List D} : w.H a = some (.lst xs) → RpL w xs ds → Ow w a (.list ds)
  | dK {kvs : List (Key × V)} {es : List (D × D)} : w.H a = some (.dK kvs) → es.map (·.1) = kvs.map (fun p => kD p.1) → RpL w (kvs.map (·.2)) (es.map (·.2)) → Ow w a (.dict es)
  | dN {L : List NE} {us : List V} {es : List (D × D)} : Nst w.H a L us es → RpL w (L.map fun x => V.ref x.2.1) (es.map (·.1)) → RpL w us (es.map (·.2)) → Ow w a (.dict es)

theorem Rp.rq {w : Wd} {v : V} {d : D} (h : Rp w v d) : Rq w v d := by
  cases h with
  | non => exact .non
  | bl b => exact .bl b
  | int i => exact .int i
  | str x => exact .str x
  | lst _ h r => exact .lst h r
  | tup n h r => exact .tup n h r
  | dK _ h e r => exact .dK h e r
  | dN _ h e r => exact .dN h e r
  | op _ h e r => exact .op h e r
theorem Ow.rq {w : Wd} {a : Addr} {d : D} (h : Ow w a d) : Rq w (.ref a) d := by
  cases h with
  | lst h r => exact .lst h r
  | dK h e r => exact .dK (.inl h) e r
  | dN h e r => exact .dN h e r
theorem Ow.rp {w : Wd} {a : Addr} {d : D} (h : Ow w a d) (n : ¬ w.M a) : Rp w (.ref a) d := by
  cases h with
  | lst h r => exact .lst n h r
  | dK h e r => exact .dK n (.inl h) e r
  | dN h e r => exact .dN n h e r

theorem Ow.ntup {w : Wd} {a : Addr} {d : D} (h : Ow w a d) (xs : List V) : w.H a ≠ some (.tup xs) := by
  cases h with
  | lst h _ => rw [h]; exact fun z => nomatch z
  | dK h _ _ => rw [h]; exact fun z => nomatch z
  | dN h _ _ => obtain ⟨o, h⟩ := h.at_; rw [h]; exact fun z => nomatch z
/-! ### how worlds go on -/
def IsDct (o : HO) : Prop := (∃ kvs, o = .dK kvs) ∨ ∃ kvs, o = .dT kvs
/-- o stands as it was; or it is a dict, and has been locked -/
def Lk (o : HO) (x : Option HO) : Prop := x = some o ∨ (IsDct o ∧ ∃ ob, x = some (.frz ob o))
theorem Lk.refl {o : HO} {x : Option HO} (h : x = some o) : Lk o x := .inl h
theorem Lk.exact {o : HO} {x : Option HO} (h : Lk o x) (n : ¬ IsDct o) : x = some o := h.elim id fun q => absurd q.1 n
theorem Lk.there {o : HO} {x : Option HO} (h : Lk o x) : x ≠ none := by
  rcases h with h | ⟨_, ob, h⟩ <;> (rw [h]; simp)
theorem no_dct_lst {xs : List V} : ¬ IsDct (.lst xs) := fun h => by rcases h with ⟨_, h⟩ | ⟨_, h⟩ <;> cases h
theorem no_dct_tup {xs : List V} : ¬ IsDct (.tup xs) := fun h => by rcases h with ⟨_, h⟩ | ⟨_, h⟩ <;> cases h
theorem no_dct_tupO {o : Obj} {xs : List V} : ¬ IsDct (tupO o xs) := fun h => by
  rcases h with ⟨_, h⟩ | ⟨_, h⟩ <;> cases h
theorem no_dct_ext {Φ : Heap → Prop} : ¬ IsDct (.ext Φ) := fun h => by rcases h with ⟨_, h⟩ | ⟨_, h⟩ <;> cases h
theorem no_dct_xd' {l : List (Str × V)} : ¬ IsDct (.xd l) := fun h => by rcases h with ⟨_, h⟩ | ⟨_, h⟩ <;> cases h
theorem no_dct_frz {o : Obj} {u : HO} : ¬ IsDct (.frz o u) := fun h => by rcases h with ⟨_, h⟩ | ⟨_, h⟩ <;> cases h
theorem Lk.rd {H' : Hp} {a : Addr} {u : HO} {o : Option HO} (H : Hp) (h : Rd H a u) (k : ∀ o, H a = some o → Lk o (H' a)) : Rd H' a u := by
  rcases h with h | ⟨o, h⟩
  · rcases k _ h with q | ⟨_, ob, q⟩
    · exact .inl q
    · exact .inr ⟨ob, q⟩
  · exact .inr ⟨o, (k _ h).exact no_dct_frz⟩
theorem Opq.nd {c : D} {a : Addr} {F : List (Addr × HO)} {vs : List V} (h : Opq c a F vs) : ∀ p ∈ F, ¬ IsDct p.2 := by
  cases h with
  | err0 => intro p hp; rw [List.mem_singleton.mp hp]; exact no_dct_ext
  | errX0 _ _ => intro p hp; rw [List.mem_singleton.mp hp]; exact no_dct_ext
  | err1 =>
    intro p hp
    rcases List.mem_cons.mp hp with rfl | hp
    · exact no_dct_ext
    · rw [List.mem_singleton.mp hp]; exact no_dct_xd'
  | errX1 _ _ =>
    intro p hp
    rcases List.mem_cons.mp hp with rfl | hp
    · exact no_dct_ext
    · rw [List.mem_singleton.mp hp]; exact no_dct_xd'
theorem Opq.top {c : D} {a : Addr} {F : List (Addr × HO)} {vs : List V} (h : Opq c a F vs) : ∃ o, (a, o) ∈ F ∧ ∀ xs, o ≠ .tup xs := by
  cases h with
  | err0 => exact ⟨_, List.mem_singleton.mpr rfl, fun _ z => nomatch z⟩
  | errX0 _ _ => exact ⟨_, List.mem_singleton.mpr rfl, fun _ z => nomatch z⟩
  | err1 => exact ⟨_, List.mem_cons_self .., fun _ z => nomatch z⟩
  | errX1 _ _ => exact ⟨_, List.mem_cons_self .., fun _ z => nomatch z⟩
/-- what frozen data lean on stays -/
structure St1 (w w' : Wd) : Prop where
  keep : ∀ a o, ¬ w.M a → w.H a = some o → Lk o (w'.H a)
  newM : ∀ a, w'.M a → w.M a ∨ w.H a = none

theorem St1.rd {w w' : Wd} (e : St1 w w') {a : Addr} {u : HO} (n : ¬ w.M a) (h : Rd w.H a u) : Rd w'.H a u ∧ ¬ w'.M a := by
  refine ⟨Lk.rd (o := none) w.H h fun o q => e.keep a o n q, fun z => ?_⟩
  rcases e.newM a z with q | q
  · exact n q
  · rcases h with h | ⟨o, h⟩ <;> (rw [q] at h; cases h)
theorem St1.nm {w w' : Wd} (e : St1 w w') {a : Addr} {u : HO} (n : ¬ w.M a) (h : w.H a = some u) : ¬ w'.M a := fun z => (e.newM a z).elim n fun q => by rw [q] at h; cases h
theorem St1.pt {w w' : Wd} (e : St1 w w') {a : Addr} {xs : List V} (n : ¬ w.M a) (h : TupAt w.H a xs) : TupAt w'.H a xs ∧ ¬ w'.M a := by
  obtain ⟨o, d, h⟩ := h
  exact ⟨⟨o, d, (e.keep _ _ n h).exact no_dct_tupO⟩, e.nm n h⟩
theorem Rp.st {w w' : Wd} (e : St1 w w') {v : V} {d : D} (h : Rp w v d) : Rp w' v d :=
  Rp.rec (motive_1 := fun v d _ => Rp w' v d) (motive_2 := fun vs ds _ => RpL w' vs ds) .non .bl .int .str
    (fun n h _ r => .lst (e.nm n h) ((e.keep _ _ n h).exact no_dct_lst) r) (fun n h _ r => .tup (e.pt n h).2 (e.pt n h).1 r)
    (fun n h k _ r => .dK (e.rd n h).2 (e.rd n h).1 k r) (fun {a L us es} n h _ _ k r => .dN (let ⟨o, q⟩ := h.at_; e.nm n q) (by obtain ⟨o, q⟩ := h.at_; exact ⟨⟨o, (e.keep _ _ n q).exact no_dct_ext⟩, h.ks, h.dp, h.vs, h.ne, h.tt⟩) k r)
    (fun {a c F vs ds} n h f _ r => .op (let ⟨o, q, _⟩ := h.top; e.nm n (f _ q).2) h (fun p hp => ⟨e.nm (f p hp).1 (f p hp).2, (e.keep _ _ (f p hp).1 (f p hp).2).exact (h.nd p hp)⟩) r) .nil (fun _ _ a b => .cons a b) h
theorem RpL.st {w w' : Wd} (e : St1 w w') : ∀ {vs : List V} {ds : List D}, RpL w vs ds → RpL w' vs ds
  | _, _, .nil => .nil
  | _, _, .cons h r => .cons (h.st e) (RpL.st e r)
theorem RpL.length {w : Wd} : ∀ {vs : List V} {ds : List D}, RpL w vs ds → vs.length = ds.length
  | _, _, .nil => rfl
  | _, _, .cons _ r => by rw [List.length_cons, List.length_cons, RpL.length r]
theorem RpL.append {w : Wd} : ∀ {vs us : List V} {ds es : List D}, RpL w vs ds → RpL w us es → RpL w (vs ++ us) (ds ++ es)
  | _, _, _, _, .nil, q => q
  | _, _, _, _, .cons h r, q => .cons h (RpL.append r q)
theorem RpL.get {w : Wd} : ∀ {vs : List V} {ds : List D} {i : Nat} {d : D}, RpL w vs ds → ds[i]? = some d → ∃ v, vs[i]? = some v ∧ Rp w v d
  | _, _, _, _, .nil, e => by simp at e
  | _, _, 0, _, .cons h _, e => by simp at e; subst e; exact ⟨_, rfl, h⟩
  | _, _, i + 1, _, .cons _ r, e => by
    obtain ⟨v, a, b⟩ := RpL.get (i := i) r (by simpa using e)
    exact ⟨v, by simpa using a, b⟩
theorem RpL.getV {w : Wd} : ∀ {vs : List V} {ds : List D} {i : Nat} {v : V}, RpL w vs ds → vs[i]? = some v → ∃ d, ds[i]? = some d ∧ Rp w v d
  | _, _, _, _, .nil, e => by simp at e
  | _, _, 0, _, .cons h _, e => by simp at e; subst e; exact ⟨_, rfl, h⟩
  | _, _, i + 1, _, .cons _ r, e => by
    obtain ⟨v, a, b⟩ := RpL.getV (i := i) r (by simpa using e)
    exact ⟨v, by simpa using a, b⟩
theorem RpL.take {w : Wd} : ∀ {vs : List V} {ds : List D} (n : Nat), RpL w vs ds → RpL w (vs.take n) (ds.take n)
  | _, _, 0, _ => .nil
  | _, _, _ + 1, .nil => .nil
  | _, _, n + 1, .cons h r => .cons h (RpL.take n r)
theorem RpL.drop {w : Wd} : ∀ {vs : List V} {ds : List D} (n : Nat), RpL w vs ds → RpL w (vs.drop n) (ds.drop n)
  | _, _, 0, r => r
  | _, _, _ + 1, .nil => .nil
  | _, _, n + 1, .cons _ r => RpL.drop n r
theorem RpL.set {w : Wd} {v : V} {d : D} (h : Rp w v d) : ∀ {vs : List V} {ds : List D} (i : Nat), RpL w vs ds → RpL w (vs.set i v) (ds.set i d)
  | _, _, _, .nil => .nil
  | _, _, 0, .cons _ r => .cons h r
  | _, _, i + 1, .cons q r => .cons q (RpL.set h i r)
theorem RpL.eraseIdx {w : Wd} : ∀ {vs : List V} {ds : List D} (i : Nat), RpL w vs ds → RpL w (vs.eraseIdx i) (ds.eraseIdx i)
  | _, _, _, .nil => .nil
  | _, _, 0, .cons _ r => r
  | _, _, i + 1, .cons q r => .cons q (RpL.eraseIdx i r)
theorem RpL.dropLast {w : Wd} {vs : List V} {ds : List D} (r : RpL w vs ds) : RpL w vs.dropLast ds.dropLast := by
  rw [List.dropLast_eq_take, List.dropLast_eq_take, r.length]; exact r.take _
theorem RpL.reverse {w : Wd} : ∀ {vs : List V} {ds : List D}, RpL w vs ds → RpL w vs.reverse ds.reverse
  | _, _, .nil => .nil
  | _, _, .cons h r => by rw [List.reverse_cons, List.reverse_cons]; exact (RpL.reverse r).append (.cons h .nil)
theorem RpL.rep {w : Wd} {vs : List V} {ds : List D} (h : RpL w vs ds) : ∀ k : Nat, RpL w (List.replicate k vs).flatten (List.replicate k ds).flatten
  | 0 => .nil
  | k + 1 => by rw [List.replicate_succ, List.replicate_succ, List.flatten_cons, List.flatten_cons]; exact h.append (RpL.rep h k)
theorem Ow.st {w w' : Wd} (e : St1 w w') {a : Addr} {d : D} (h : Ow w a d) (k : w'.H a = w.H a) : Ow w' a d := by
  cases h with
  | lst h r => exact .lst (k.trans h) (r.st e)
  | dK h q r => exact .dK (k.trans h) q (r.st e)
  | dN h q r => exact .dN (h.st fun o z => k.trans z) (q.st e) (r.st e)

/-- an expression has run: all but the law's state is as it was -/
structure Ext (w w' : Wd) : Prop where
  keep : ∀ a o, ¬ w.C a → w.H a = some o → w'.H a = some o ∨ (¬ w.M a ∧ IsDct o ∧ ∃ ob, w'.H a = some (.frz ob o))
  dom : ∀ a, w.H a ≠ none → w'.H a ≠ none
  newC : ∀ a, w'.C a → w.C a ∨ w.H a = none
  newM : ∀ a, w'.M a → w.M a ∨ w.H a = none
  oldM : ∀ a, w.M a → w'.M a
theorem Ext.refl (w : Wd) : Ext w w := ⟨fun _ _ _ h => .inl h, fun _ h => h, fun _ h => .inl h, fun _ h => .inl h, fun _ h => h⟩
theorem Ext.free {w w' : Wd} (e : Ext w w') {a : Addr} (h : w'.H a = none) : w.H a = none := by
  cases q : w.H a with
  | none => rfl
  | some o => exact absurd h (e.dom a (by rw [q]; simp))
theorem Ext.own {w w' : Wd} (e : Ext w w') {a : Addr} {o : HO} (n : ¬ w.C a) (m : w.M a) (h : w.H a = some o) : w'.H a = some o := (e.keep a o n h).elim id fun q => absurd m q.1
theorem Ext.ntup {w w' : Wd} (e : Ext w w') {a : Addr} {xs : List V} (n : ¬ w.C a) (m : w.M a) (d : w.H a ≠ none) (t : w.H a ≠ some (.tup xs)) : w'.H a ≠ some (.tup xs) := by
  cases q : w.H a with
  | none => exact absurd q d
  | some o => rw [e.own n m q]; rw [q] at t; exact t
theorem Ext.lk {w w' : Wd} (e : Ext w w') {a : Addr} {o : HO} (n : ¬ w.C a) (h : w.H a = some o) : Lk o (w'.H a) := (e.keep a o n h).elim .inl fun q => .inr q.2
theorem Ext.trans {w w1 w2 : Wd} (e : Ext w w1) (f : Ext w1 w2) : Ext w w2 where
  keep := fun a o n h => by
    have nc : ¬ w1.C a := fun z => (e.newC a z).elim n fun q => by rw [q] at h; cases h
    rcases e.keep a o n h with q | ⟨nm, d, ob, q⟩
    · rcases f.keep a o nc q with r | ⟨nm, r⟩
      · exact .inl r
      · exact .inr ⟨fun m => nm (e.oldM a m), r⟩
    · exact .inr ⟨nm, d, ob, (f.lk nc q).exact no_dct_frz⟩
  dom := fun a h => f.dom a (e.dom a h)
  newC := fun a h => (f.newC a h).elim (e.newC a) fun q => .inr (e.free q)
  newM := fun a h => (f.newM a h).elim (e.newM a) fun q => .inr (e.free q)
  oldM := fun a h => f.oldM a (e.oldM a h)
theorem Ext.st {w w' : Wd} (e : Ext w w') (cm : ∀ a, w.C a → w.M a) : St1 w w' := ⟨fun a o n h => e.lk (fun z => n (cm a z)) h, e.newM⟩
theorem Ext.same {w : Wd} {H' : Hp} (s : Same w.H H') : Ext w ⟨H', w.M, w.C⟩ := ⟨fun a o _ h => .inl (s a o h), fun a h z => h (s.free z), fun _ h => .inl h, fun _ h => .inl h, fun _ h => h⟩
theorem St1.same {w : Wd} {H' : Hp} (s : Same w.H H') : St1 w ⟨H', w.M, w.C⟩ := ⟨fun a o _ h => .inl (s a o h), fun _ h => .inl h⟩

/-- a fact that stands while what frozen data lean on stays -/
structure Fx where
  P : Wd → Prop
  st : ∀ w w', St1 w w' → P w → P w'
@[reducible] def fx (v : V) (d : D) : Fx := ⟨fun w => Rp w v d, fun _ _ e h => h.st e⟩
/-! ### the slots of a frame, as data -/
/-- what is known of an own thing of any sort: the object at a, and one more at b (b may be a) -/
structure Ab where
  R : Wd → Addr → Addr → Prop
  st : ∀ {w w' : Wd} {a b : Addr}, St1 w w' → R w a b → w'.H a = w.H a → w'.H b = w.H b → R w' a b
  ex : ∀ {w : Wd} {a b : Addr}, R w a b → (∃ o, w.H a = some o) ∧ ∃ o, w.H b = some o
  /-- its content, where it is data -/
  dv : Option D := none
  ow : ∀ {w : Wd} {a b : Addr} {d : D}, dv = some d → R w a b → Ow w a d := by intro _ _ _ _ h; cases h
inductive Sl where
  | no
  | fz (d : D)
  | raw (v : V)
  | own (d : D)
  | bw (d : D)
  | ab (b : Addr) (A : Ab)
abbrev Ev := List Sl

/-- the ghost of a run: what is protected, what was there at the entry, the law's state -/
structure Gh where
  Pt : Hp
  H0 : Hp
  M0 : Addr → Prop
  mh : ∀ a, M0 a → H0 a ≠ none
  C0 : Addr → Prop
  /-- values that are walked, or kept aside -/
  gs : List Fx
  /-- how much has been drawn, at most -/
  b : Nat
  SI : Nat → (Addr → Prop) → Hp → Prop
  stab : ∀ b C H H', SI b C H → (∀ a o, C a → H a = some o → H' a = some o) → SI b C H'
abbrev Gh.at (G : Gh) (b : Nat) : Gh := { G with b := b }
/-- no more than this is drawn -/
def cap : Nat := 2 ^ 100000

/-- an own dict the list at whose last key is owned, too -/
structure HotD (w : Wd) (a b : Addr) (k : Key) (es : List (D × D)) (ds : List D) : Prop where
  dic : ∃ kvs : List (Key × V), w.H a = some (.dK (kvs ++ [(k, .ref b)])) ∧ es.map (·.1) = kvs.map (fun p => kD p.1) ∧ RpL w (kvs.map (·.2)) (es.map (·.2)) ∧ ∀ p ∈ kvs, p.1 ≠ k
  lst : ∃ xs : List V, w.H b = some (.lst xs) ∧ RpL w xs ds
  ne : a ≠ b
theorem HotD.st {w w' : Wd} (e : St1 w w') {a b : Addr} {k : Key} {es : List (D × D)} {ds : List D} (h : HotD w a b k es ds) (ka : w'.H a = w.H a) (kb : w'.H b = w.H b) : HotD w' a b k es ds := by
  obtain ⟨⟨kvs, h1, h2, h3, h4⟩, ⟨xs, h5, h6⟩, n⟩ := h
  exact ⟨⟨kvs, ka.trans h1, h2, h3.st e, h4⟩, ⟨xs, kb.trans h5, h6.st e⟩, n⟩
def hotA (k : Key) (es : List (D × D)) (ds : List D) : Ab where
  R := fun w a b => HotD w a b k es ds
  st := fun e h ka kb => HotD.st e h ka kb
  ex := fun h => by
    obtain ⟨⟨kvs, h1, _⟩, ⟨xs, h2, _⟩, _⟩ := h
    exact ⟨⟨_, h1⟩, ⟨_, h2⟩⟩
@[reducible] def Sl.hot (b : Addr) (k : Key) (es : List (D × D)) (ds : List D) : Sl := .ab b (hotA k es ds)
def SlR (G : Gh) (w : Wd) (ov : Option V) : Sl → Prop
  | .no => True
  | .fz d => ∃ v, ov = some v ∧ Rp w v d
  | .raw v => ov = some v
  | .own d => ∃ a, ov = some (.ref a) ∧ w.M a ∧ ¬ w.C a ∧ G.Pt a = none ∧ G.H0 a = none ∧ Ow w a d
  | .bw d => ∃ a, ov = some (.ref a) ∧ w.M a ∧ ¬ w.C a ∧ (∃ o, G.Pt a = some o) ∧ Ow w a d
  | .ab b A => ∃ a, ov = some (.ref a) ∧ (w.M a ∧ ¬ w.C a ∧ G.Pt a = none ∧ G.H0 a = none) ∧ (w.M b ∧ ¬ w.C b ∧ G.Pt b = none ∧ G.H0 b = none) ∧ A.R w a b
/-- own things stand apart -/
structure OD (env : Ev) (σ : L2.St) : Prop where
  oo : ∀ (i j : Nat) (d e : D) (a : Addr), env[i]? = some (.own d) → env[j]? = some (.own e) → σ[i]? = some (some (.ref a)) → σ[j]? = some (some (.ref a)) → i = j
  oh : ∀ (i j : Nat) (d : D) (a b : Addr) (A : Ab), env[i]? = some (.own d) → env[j]? = some (.ab b A) → σ[i]? = some (some (.ref a)) → a ≠ b ∧ σ[j]? ≠ some (some (.ref a))
  hh : ∀ (i j : Nat) (b b' : Addr) (A A' : Ab), env[i]? = some (.ab b A) → env[j]? = some (.ab b' A') → i ≠ j → b ≠ b' ∧ ∀ a, σ[i]? = some (some (.ref a)) → σ[j]? ≠ some (some (.ref a)) ∧ a ≠ b'
def Sl.mine : Sl → Bool
  | .own _ => true
  | .ab _ _ => true
  | _ => false
theorem OD.tame {env : Ev} {σ : L2.St} (h : ∀ (i : Nat) (s : Sl), env[i]? = some s → s.mine = true → False) : OD env σ :=
  ⟨fun i _ d _ _ q _ _ _ => (h i _ q rfl).elim, fun i _ _ _ _ _ q _ _ => (h i _ q rfl).elim, fun i _ _ _ _ _ q _ _ => (h i _ q rfl).elim⟩
instance (env : Ev) (σ : L2.St) : CoeFun (OD env σ) fun _ => ∀ (i j : Nat) (d e : D) (a : Addr), env[i]? = some (.own d) → env[j]? = some (.own e) → σ[i]? = some (some (.ref a)) → σ[j]? = some (some (.ref a)) → i = j := ⟨OD.oo⟩

/-- what holds wherever a body stands -/
structure EH (G : Gh) (w : Wd) : Prop where
  kp : ∀ a o, G.Pt a = some o → w.H a = some o ∨ (¬ G.M0 a ∧ IsDct o ∧ ∃ ob, w.H a = some (.frz ob o))
  m0 : ∀ a, G.M0 a → w.M a
  nc : ∀ a, w.C a → G.C0 a ∨ G.H0 a = none
  cp : ∀ a, w.C a → G.Pt a = none
  cm : ∀ a, w.C a → w.M a
  md : ∀ a, w.M a → w.H a ≠ none
  hd : ∀ a, G.H0 a ≠ none → w.H a ≠ none
  gk : ∀ p ∈ G.gs, p.P w
  si : G.SI G.b w.C w.H
  mt : ∀ a xs, w.M a → w.H a ≠ some (.tup xs)
structure ER (G : Gh) (w : Wd) (env : Ev) (σ : L2.St) : Prop extends EH G w where
  len : env.length = σ.length
  sl : ∀ (i : Nat) (s : Sl) (ov : Option V), env[i]? = some s → σ[i]? = some ov → SlR G w ov s
  od : OD env σ

theorem SlR.ext {G : Gh} {w w' : Wd} {ov : Option V} {s : Sl} (e : Ext w w') (cm : ∀ a, w.C a → w.M a) (r : SlR G w ov s) : SlR G w' ov s := by
  have st := e.st cm
  have cn : ∀ a, ¬ w.C a → w.H a ≠ none → ¬ w'.C a := fun a n q z => (e.newC a z).elim n q
  cases s with
  | no => trivial
  | fz d => obtain ⟨v, q, r⟩ := r; exact ⟨v, q, r.st st⟩
  | raw v => exact r
  | own d =>
    obtain ⟨a, q, m, n, p, z, o⟩ := r
    have hd : ∃ ob, w.H a = some ob := by cases o <;> first | exact ⟨_, by assumption⟩ | exact Nst.there (by assumption)
    obtain ⟨ob, hd⟩ := hd
    exact ⟨a, q, e.oldM a m, cn a n (by rw [hd]; simp), p, z, o.st st (by rw [hd]; exact e.own n m hd)⟩
  | bw d =>
    obtain ⟨a, q, m, n, p, o⟩ := r
    have hd : ∃ ob, w.H a = some ob := by cases o <;> first | exact ⟨_, by assumption⟩ | exact Nst.there (by assumption)
    obtain ⟨ob, hd⟩ := hd
    exact ⟨a, q, e.oldM a m, cn a n (by rw [hd]; simp), p, o.st st (by rw [hd]; exact e.own n m hd)⟩
  | ab b A =>
    obtain ⟨a, q, ⟨m, n, p, z⟩, ⟨mb, nb, pb, zb⟩, o⟩ := r
    obtain ⟨⟨o1, h1⟩, ⟨o2, h2⟩⟩ := A.ex o
    exact ⟨a, q, ⟨e.oldM a m, cn a n (by rw [h1]; simp), p, z⟩, ⟨e.oldM b mb, cn b nb (by rw [h2]; simp), pb, zb⟩, A.st st o (by rw [h1]; exact e.own n m h1) (by rw [h2]; exact e.own nb mb h2)⟩

theorem ntup_same {H H' : Hp} {a : Addr} {xs : List V} (s : Same H H') (m : H a ≠ none) (n : H a ≠ some (.tup xs)) : H' a ≠ some (.tup xs) := by
  cases q : H a with
  | none => exact absurd q m
  | some o => rw [s a o q]; rw [q] at n; exact n
/-- all that was tracked stays: a pure step -/
theorem EH.same {G : Gh} {w : Wd} {H' : Hp} (h : EH G w) (s : Same w.H H') : EH G ⟨H', w.M, w.C⟩ :=
  ⟨fun a o q => (h.kp a o q).elim (fun z => .inl (s _ _ z)) fun ⟨n, d, ob, z⟩ => .inr ⟨n, d, ob, s _ _ z⟩, h.m0, h.nc, h.cp, h.cm, fun a m z => h.md a m (s.free z), fun a m z => h.hd a m (s.free z), fun p hp => p.st _ _ (St1.same s) (h.gk p hp), G.stab _ _ _ _ h.si fun a o _ q => s a o q, fun a xs m => ntup_same s (h.md a m) (h.mt a xs m)⟩
theorem ER.same {G : Gh} {w : Wd} {H' : Hp} {env : Ev} {σ : L2.St} (h : ER G w env σ) (s : Same w.H H') : ER G ⟨H', w.M, w.C⟩ env σ :=
  ⟨h.toEH.same s, h.len, fun i sl ov a b => SlR.ext (Ext.same s) h.cm (h.sl i sl ov a b), h.od⟩

/-- a world in which a is somebody's own, too -/
def Wd.plus (w : Wd) (a : Addr) : Wd := ⟨w.H, fun b => w.M b ∨ b = a, w.C⟩
theorem St1.less (w : Wd) (a : Addr) : St1 (w.plus a) w := ⟨fun b o n h => .inl h, fun b m => .inl (.inl m)⟩
theorem St1.plus {w w' : Wd} (e : St1 w w') (a : Addr) : St1 (w.plus a) (w'.plus a) := ⟨fun b o n h => e.keep b o (fun m => n (.inl m)) h, fun b m => m.elim (fun m => (e.newM b m).elim (fun m => .inl (.inl m)) .inr) fun q => .inl (.inr q)⟩

theorem ER.ext' {G : Gh} {b b' : Nat} {w w' : Wd} {env : Ev} {σ : L2.St} (h : ER (G.at b) w env σ) (e : Ext w w') (eh : EH (G.at b') w') : ER (G.at b') w' env σ := ⟨eh, h.len, fun i sl ov a b => SlR.ext e h.cm (h.sl i sl ov a b), h.od⟩

/-! ### values of expressions -/
inductive Dv where
  /-- data that nobody may change -/
  | fz (d : D)
  /-- a new list or dict that nothing else refers to -/
  | nw (d : D)
  /-- a local's own list or dict -/
  | ow (d : D)
  /-- a caller's own -/
  | bw (d : D)
  | raw (v : V)
def Dv.val : Dv → Option D
  | .fz d => some d
  | .nw d => some d
  | .ow d => some d
  | .bw d => some d
  | .raw _ => none
/-- the data of a value that may be kept -/
def isDct : D → Bool
  | .dict _ => true
  | _ => false
def Dv.kept : Dv → Option D
  | .fz d => some d
  | .nw d => if isDct d = true then none else some d
  | _ => none

/-- Hs: the heap at the start of the expression -/
def VR (G : Gh) (Hs : Hp) (w : Wd) (v : V) : Dv → Prop
  | .fz d => Rp w v d
  | .nw d => ∃ a, v = .ref a ∧ Hs a = none ∧ (isDct d = true ↔ w.M a) ∧ ¬ w.C a ∧ Ow (w.plus a) a d
  | .ow d => ∃ a, v = .ref a ∧ w.M a ∧ G.H0 a = none ∧ G.Pt a = none ∧ ¬ w.C a ∧ Ow w a d
  | .bw d => ∃ a, v = .ref a ∧ w.M a ∧ ¬ w.C a ∧ Ow w a d
  | .raw u => v = u

theorem VR.rq {G : Gh} {Hs : Hp} {w : Wd} {v : V} {dv : Dv} {d : D} (h : VR G Hs w v dv) (e : dv.val = some d) : Rq w v d := by
  cases dv with
  | fz d' => cases e; exact Rp.rq h
  | nw d' => cases e; obtain ⟨a, rfl, _, _, _, o⟩ := h; exact (o.st (St1.less w a) rfl).rq
  | ow d' => cases e; obtain ⟨a, rfl, _, _, _, _, o⟩ := h; exact o.rq
  | bw d' => cases e; obtain ⟨a, rfl, _, _, o⟩ := h; exact o.rq
  | raw u => cases e
theorem VR.rp {G : Gh} {Hs : Hp} {w : Wd} {v : V} {dv : Dv} {d : D} (h : VR G Hs w v dv) (e : dv.kept = some d) : Rp w v d := by
  cases dv with
  | fz d' => cases e; exact h
  | nw d' =>
    obtain ⟨a, rfl, _, n, _, o⟩ := h
    simp only [Dv.kept] at e
    by_cases q : isDct d' = true
    · rw [if_pos q] at e; cases e
    · rw [if_neg q] at e; cases e
      exact (o.st (St1.less w a) rfl).rp fun m => q (n.mpr m)
  | ow d' => cases e
  | bw d' => cases e
  | raw u => cases e
theorem Dv.val_of_kept {dv : Dv} {d : D} (e : dv.kept = some d) : dv.val = some d := by
  cases dv with
  | nw d' =>
    simp only [Dv.kept] at e
    by_cases q : isDct d' = true
    · rw [if_pos q] at e; cases e
    · rw [if_neg q] at e; exact e
  | _ => first | exact e | cases e
theorem VR.ext {G : Gh} {Hs Hs' : Hp} {w w' : Wd} {v : V} {dv : Dv} (h : VR G Hs w v dv) (e : Ext w w') (cm : ∀ a, w.C a → w.M a) (hs : ∀ a, Hs a = none → Hs' a = none) : VR G Hs' w' v dv := by
  have st := e.st cm
  have cn : ∀ a, ¬ w.C a → w.H a ≠ none → ¬ w'.C a := fun a n q z => (e.newC a z).elim n q
  have hd : ∀ {a d}, Ow w a d → ∃ ob, w.H a = some ob := fun o => by cases o <;> first | exact ⟨_, by assumption⟩ | exact Nst.there (by assumption)
  cases dv with
  | fz d => exact Rp.st st h
  | nw d =>
    obtain ⟨a, q, z, m, n, o⟩ := h
    obtain ⟨ob, ho⟩ : ∃ ob, w.H a = some ob := by cases o <;> first | exact ⟨_, by assumption⟩ | exact Nst.there (by assumption)
    have hk : w'.H a = w.H a := by
      rw [ho]
      rcases e.keep a ob n ho with k | ⟨nm, dc, _⟩
      · exact k
      · exfalso
        have nd : ¬ isDct d = true := fun t => nm (m.mp t)
        cases o with
        | lst h r =>
          have h' : w.H a = some (.lst _) := h
          rw [ho] at h'; cases h'
          exact no_dct_lst dc
        | dK _ _ _ => exact nd rfl
        | dN _ _ _ => exact nd rfl
    exact ⟨a, q, hs a z, ⟨fun t => e.oldM a (m.mp t), fun k => (e.newM a k).elim m.mpr (by rw [ho]; simp)⟩, cn a n (by rw [ho]; simp), o.st (st.plus a) hk⟩
  | ow d =>
    obtain ⟨a, q, m, z, p, n, o⟩ := h
    obtain ⟨ob, ho⟩ := hd o
    exact ⟨a, q, e.oldM a m, z, p, cn a n (by rw [ho]; simp), o.st st (by rw [ho]; exact e.own n m ho)⟩
  | bw d =>
    obtain ⟨a, q, m, n, o⟩ := h
    obtain ⟨ob, ho⟩ := hd o
    exact ⟨a, q, e.oldM a m, cn a n (by rw [ho]; simp), o.st st (by rw [ho]; exact e.own n m ho)⟩
  | raw u => exact h

/-! ### the judgements -/
abbrev WE := Ev → (Dv → Prop) → Prop
abbrev WT := Ev → (Bool → Prop) → Prop
abbrev WA := Ev → (List Dv → Prop) → Prop
inductive VRs (G : Gh) (Hs : Hp) (w : Wd) : List V → List Dv → Prop
  | nil : VRs G Hs w [] []
  | cons {v : V} {vs : List V} {d : Dv} {ds : List Dv} : VR G Hs w v d → VRs G Hs w vs ds → VRs G Hs w (v :: vs) (d :: ds)
theorem VRs.ext {G : Gh} {Hs Hs' : Hp} {w w' : Wd} (e : Ext w w') (cm : ∀ a, w.C a → w.M a) (hs : ∀ a, Hs a = none → Hs' a = none) : ∀ {vs : List V} {ds : List Dv}, VRs G Hs w vs ds → VRs G Hs' w' vs ds
  | _, _, .nil => .nil
  | _, _, .cons h r => .cons (h.ext e cm hs) (VRs.ext e cm hs r)
theorem VRs.length {G : Gh} {Hs : Hp} {w : Wd} : ∀ {vs : List V} {ds : List Dv}, VRs G Hs w vs ds → vs.length = ds.length
  | _, _, .nil => rfl
  | _, _, .cons _ r => by rw [List.length_cons, List.length_cons, VRs.length r]

def tV (G : Gh) (f : WE) (c : Nat) : TE := fun σ H Q => ∃ (env : Ev) (M C : Addr → Prop) (b : Nat) (P : Dv → Prop), b + c ≤ cap ∧ ER (G.at b) ⟨H, M, C⟩ env σ ∧ f env P ∧ ∀ dv, P dv → ∀ b' w' v, b' ≤ b + c → ER (G.at b') w' env σ → Ext ⟨H, M, C⟩ w' → VR G H w' v dv → Q v w'.H
def tT (G : Gh) (f : WT) (c : Nat) : TT := fun σ H Q => ∃ (env : Ev) (M C : Addr → Prop) (b : Nat) (P : Bool → Prop), b + c ≤ cap ∧ ER (G.at b) ⟨H, M, C⟩ env σ ∧ f env P ∧ ∀ k, P k → ∀ b' w', b' ≤ b + c → ER (G.at b') w' env σ → Ext ⟨H, M, C⟩ w' → Q k w'.H
def tA (G : Gh) (f : WA) (c : Nat) : TA := fun σ H Q => ∃ (env : Ev) (M C : Addr → Prop) (b : Nat) (P : List Dv → Prop), b + c ≤ cap ∧ ER (G.at b) ⟨H, M, C⟩ env σ ∧ f env P ∧ ∀ ds, P ds → ∀ b' w' vs, b' ≤ b + c → ER (G.at b') w' env σ → Ext ⟨H, M, C⟩ w' → VRs G H w' vs ds → Q vs w'.H
abbrev DE (X : Cx) (G : Gh) (e : Expr) (f : WE) (c : Nat) : Prop := PE X e (tV G f c)
abbrev DT (X : Cx) (G : Gh) (e : Expr) (f : WT) (c : Nat) : Prop := PT X e (tT G f c)
abbrev DW (X : Cx) (G : Gh) (e : Expr) (f : WT) (c : Nat) : Prop := PW X e (tT G f c)
abbrev DA (X : Cx) (G : Gh) (es : List Expr) (f : WA) (c : Nat) : Prop := PA X es (tA G f c)

structure DEnds where
  nx : Ev → Prop
  rt : Ev → Dv → Prop
  bk : Ev → Prop
  ct : Ev → Prop
abbrev WS := Ev → DEnds → Prop
/-- what the statement's ends are worth -/
structure Lift (G : Gh) (B : Nat) (T : Ends) (De : DEnds) : Prop where
  nx : ∀ env, De.nx env → ∀ b w σ, b ≤ B → ER (G.at b) w env σ → T.nx σ w.H
  rt : ∀ env dv, De.rt env dv → ∀ b w Hs σ v, b ≤ B → ER (G.at b) w env σ → VR G Hs w v dv → (∀ a, G.H0 a ≠ none → Hs a ≠ none) → T.rt v w.H
  bk : ∀ env, De.bk env → ∀ b w σ, b ≤ B → ER (G.at b) w env σ → T.bk σ w.H
  ct : ∀ env, De.ct env → ∀ b w σ, b ≤ B → ER (G.at b) w env σ → T.ct σ w.H
theorem Lift.mono {G : Gh} {B B' : Nat} {T : Ends} {De : DEnds} (h : Lift G B T De) (l : B' ≤ B) : Lift G B' T De :=
  ⟨fun e q b w σ hb => h.nx e q b w σ (Nat.le_trans hb l), fun e d q b w Hs σ v hb => h.rt e d q b w Hs σ v (Nat.le_trans hb l), fun e q b w σ hb => h.bk e q b w σ (Nat.le_trans hb l), fun e q b w σ hb => h.ct e q b w σ (Nat.le_trans hb l)⟩
def tS (G : Gh) (f : WS) (c : Nat) : TS := fun T σ H => ∃ (env : Ev) (M C : Addr → Prop) (b : Nat) (De : DEnds), b + c ≤ cap ∧ ER (G.at b) ⟨H, M, C⟩ env σ ∧ f env De ∧ Lift G (b + c) T De
abbrev DS (X : Cx) (G : Gh) (st : Stmt) (f : WS) (c : Nat) : Prop := PS X st (tS G f c)
abbrev DSs (X : Cx) (G : Gh) (st : List Stmt) (f : WS) (c : Nat) : Prop := PSs X st (tS G f c)
end DL
/-! Rules that make tuples, told with the object that is made (it has no dict of its own). -/
namespace DL
open PySem PySem.Spec PyProof.Rows L2 HT
abbrev tupOb (its : List Value) : Obj := { cls := .type "tuple", data := .seq its.toArray }
/-- what is left to do with a new tuple -/
def NewT (H : Hp) (xs : List V) (Q : VK) : Prop := ∀ (p : Addr) (o : Obj), o.dict = none → H p = none → Q (.ref p) (upd H p (tupO o xs))
theorem tupO_ok {P : Program} {w : World} {H : Hp} {h : Heap} {a : Addr} {xs : List V} {its : List Value} (z : xs.length ≤ sizeLine) (r : Vals xs its) (e : h.get? a = some (tupOb its)) : ObjOk P w H h a (tupO (tupOb its) xs) := by
  have b : ObjOk P w H h a (.tup xs) := ⟨z, its, r, ⟨_, e, rfl, _, rfl⟩⟩
  exact ⟨e, b⟩
section
variable {X : Cx} {pins : List (Addr × Obj)} {σ : L2.St} {H : Hp} {s : Shared}
theorem newT_end {xs : List V} {its : List Value} {Q : VK} {h' : Heap} {t' : Nat} (I : Inv X pins σ H s) (z : xs.length ≤ sizeLine) (r : Vals xs its) (q : NewT H xs Q) {a : Addr} (k : ∀ b u, s.heap.get? b = some u → h'.get? b = some u) (hp : s.heap.objs.size ≤ a) (e : h'.get? a = some (tupOb its)) :
    EP X pins σ Q (.ref a) { s with heap := h', toks := t' } :=
  ⟨.ref a, _, I.laid (t' := t') k hp (tupO_ok z r e), rfl, q a _ rfl (I.hok.fresh hp)⟩
theorem newT_push {xs : List V} {its : List Value} {Q : VK} (I : Inv X pins σ H s) (z : xs.length ≤ sizeLine) (r : Vals xs its) (q : NewT H xs Q) : EP X pins σ Q (.ref s.heap.objs.size) { s with heap := s.heap.push (tupOb its) } :=
  newT_end (t' := s.toks) I z r q (fun _ _ y => Heap.get?_push_of_some _ y) (Nat.le_refl _) (Heap.get?_push_size _ rfl)
end
section
variable {X : Cx} {es : List Expr} {ta : TA} {pos : Pos}
def tTupN (t : TA) : TE := fun σ H Q => t σ H fun xs H1 => xs.length ≤ sizeLine ∧ NewT H1 xs Q
theorem pe_tupN {x1} (hh : PA X es ta) : PE X (.Tuple es x1 pos) (tTupN ta) :=
  ⟨fun pins s σ H Q I hq => wpAny_Tuple_spliced (thn (hh.run pos pins s σ H _ I hq) fun us s1 ⟨xs, H1, I1, r, z, q⟩ => ⟨Nat.le_trans (Nat.le_of_eq r.length.symm) z, newT_push I1 z r q⟩)⟩
theorem call_tupleN : CallR X (.type "tuple") (fun xs H Q => ∃ p ys, xs = [.ref p] ∧ ((SqL X.K H p ys ∧ NewT H ys Q) ∨ (SqT X.K H p ys ∧ Q (.ref p) H))) := by
  rintro pins s σ H xs us Q I r ⟨p, ys, rfl, hq⟩
  obtain ⟨u, rfl, rx⟩ := r.one
  obtain rfl : u = Value.ref p := rx
  cases hq with
  | inl g =>
    obtain ⟨its, rv, pl, z⟩ := I.list g.1
    exact call_tuple_list pl.isList (fun h' kp => newT_push (I.kept (t' := s.toks) kp) z rv g.2) (by rw [List.size_toArray, ← rv.length]; exact z)
  | inr g =>
    obtain ⟨its, _, pl, _⟩ := I.tuple g.1
    exact call_tuple_same pl ⟨.ref p, H, I, rfl, g.2⟩
/-- t + u -/
def rCatN (K : PySem.W.Frag) : R2 := fun x y H Q => ∃ a b xs ys, x = .ref a ∧ y = .ref b ∧ SqT K H a xs ∧ SqT K H b ys ∧ xs.length + ys.length ≤ sizeLine ∧
  (xs = [] → Q (.ref b) H) ∧ (xs ≠ [] → ys = [] → Q (.ref a) H) ∧ (xs ≠ [] → ys ≠ [] → NewT H (xs ++ ys) Q)
theorem op_catN : OpR X (binaryOp .Add) (rCatN X.K) := by
  rintro pins s σ H x y v u Q I rx ry ⟨a, b, xs, ys, rfl, rfl, ha, hb, hz, q0, q1, q2⟩
  obtain rfl : v = Value.ref a := rx
  obtain rfl : u = Value.ref b := ry
  obtain ⟨its, r1, p1, _⟩ := I.tuple ha
  obtain ⟨ins, r2, p2, _⟩ := I.tuple hb
  by_cases hx : xs = []
  · rw [hx] at r1
    cases r1
    exact cat_tup0 p1 p2 ⟨.ref b, H, I, rfl, q0 hx⟩
  · exact HT.cat_tup p1 p2 (fun z => hx (r1.nil_iff.mp z)) (fun z => ⟨.ref a, H, I, rfl, q1 hx (r2.nil_iff.mp z)⟩) (fun z => newT_push I (by rw [List.length_append]; exact hz) (r1.append r2) (q2 hx fun w => z (r2.nil_iff.mpr w))) (by rw [← r1.length, ← r2.length]; exact hz)
/-- t[lo:hi] -/
def rCutN (K : PySem.W.Frag) : V → Option Int → Option Int → Hp → VK → Prop := fun x lo hi H Q => ∃ a xs, x = .ref a ∧ SqT K H a xs ∧
  (HT.sIx xs.length 0 lo = 0 ∧ HT.sIx xs.length xs.length hi = xs.length → Q (.ref a) H) ∧ (¬ (HT.sIx xs.length 0 lo = 0 ∧ HT.sIx xs.length xs.length hi = xs.length) → NewT H (cutV xs lo hi) Q)
theorem sl_cutN : L2.SlR X (rCutN X.K) := by
  rintro pins s σ H x v vl vu lo hi sl Q I rx hs pl pu ⟨a, xs, rfl, hx, q1, q2⟩
  obtain rfl : v = Value.ref a := rx
  obtain ⟨its, r, ht, hz⟩ := I.tuple hx
  have hl : xs.length = its.toArray.size := by rw [List.size_toArray]; exact r.length
  refine ⟨"tuple", _, PyProof.Rows.slot_tuple_getitem.lookup, ht.typeIs, ?_⟩
  by_cases hw : HT.sIx xs.length 0 lo = 0 ∧ HT.sIx xs.length xs.length hi = xs.length
  · exact getItem_tuple_whole ht hs pl pu (by rw [← hl]; exact hw) ⟨.ref a, H, I, rfl, q1 hw⟩
  · refine HT.getItem_tuple_cut ht hs pl pu (by rw [← hl]; exact hw) ?_ (by rw [← hl]; exact hz)
    rw [← hl]
    exact newT_push I (Nat.le_trans (cutV_length xs lo hi) hz) ((r.drop (HT.sIx xs.length 0 lo)).take (HT.sIx xs.length xs.length hi - HT.sIx xs.length 0 lo)) (q2 hw)
/-- t * k -/
def rRepN (K : PySem.W.Frag) : R2 := fun x y H Q => ∃ l k xs, x = .ref l ∧ y = .int k ∧ SqT K H l xs ∧ xs ≠ [] ∧ 2 ≤ k ∧ k ≤ 1000 ∧ xs.length ≤ 1000 ∧ NewT H (List.replicate k.toNat xs).flatten Q
theorem op_repN : OpR X (binaryOp .Mult) (rRepN X.K) := by
  rintro pins s σ H x y v u Q I rx ry ⟨l, k, xs, rfl, rfl, hT, hne, g1, g2, hz, q⟩
  obtain rfl : v = Value.ref l := rx
  obtain ⟨t, rfl⟩ := ry
  obtain ⟨its, rv, p, _⟩ := I.tuple hT
  obtain ⟨⟨cl, di, da, so⟩, ho, e1, m, e2⟩ := p
  simp only at e1 e2
  subst e1 e2
  have len : its.length = xs.length := rv.length.symm
  have ine : its ≠ [] := fun e => hne (rv.nil_iff.mp e)
  have emp : its.toArray.isEmpty = false := by
    cases its with
    | nil => exact absurd rfl ine
    | cons a b => rfl
  have asz : its.toArray.size = xs.length := by rw [List.size_toArray, len]
  have many : ((its.toArray.size : Nat) : Int) * k ≤ 1000000 := by
    rw [asz]
    have : ((xs.length : Nat) : Int) * k ≤ 1000 * k := Int.mul_le_mul_of_nonneg_right (by omega) (by omega)
    omega
  have few : k.toNat * xs.length ≤ 1000000 := Nat.le_trans (Nat.mul_le_mul (show k.toNat ≤ 1000 by omega) hz) (by decide)
  have flat : (List.replicate k.toNat its).flatten.length ≤ sizeLine := by
    rw [PyProof.Rows.lm_len_rep_flat, len, sizeLine_eq]; omega
  have n0 : (decide (k < -(2 ^ 63)) || decide (k ≥ 2 ^ 63)) = false := by rw [decide_eq_false (by omega), decide_eq_false (by omega)]; rfl
  have n1 : (its.toArray.isEmpty || k == 1) = false := by rw [emp, Bool.false_or]; exact beq_eq_false_iff_ne.mpr (by omega)
  have n2 : (decide (k ≤ 0) || its.toArray.isEmpty) = false := by rw [emp, Bool.or_false]; exact decide_eq_false (by omega)
  have n3 : Builtin.Tuple.tupleTooMany (((its.toArray.size : Nat) : Int) * k) = false := by unfold Builtin.Tuple.tupleTooMany; rw [sizeLine_eq]; exact decide_eq_false (by omega)
  have tI : ∀ s' : Shared, s'.TypeIs (.int k t) "int" := fun s' => typeIs_int s' k t
  have low : (List.replicate k.toNat xs).flatten.length ≤ sizeLine := by rw [PyProof.Rows.lm_len_rep_flat, sizeLine_eq]; omega
  have mul := tuple_mulW l its.toArray m di so k t n0 n1 n2 (by omega) n3 (by rw [size_rep, List.size_toArray]; exact flat)
  refine wpAny_binaryOp_repeat_ref (T := "tuple") (U := "int") (by decide) ⟨_, ho, rfl⟩ tI noFill_tuple_mul F.fills_int_mul F.slot_int_rmul repeat_tuple F.slot_int_index.lookup (call_meets F.slot_int_rmul (tI s) F.entry_int_rmul (F.args_int_rmul_2 _ _)
    (int_rmul_tuple k t l its.toArray m di so) ⟨ho, rfl, ⟨_, ho, rfl⟩, call_meets F.slot_tuple_mul ⟨_, ho, rfl⟩ F.entry_tuple_mul (F.args_tuple_mul_2 _ _) mul ⟨ho, ?_⟩⟩)
  rw [size_rep]
  exact newT_push I low (rv.rep k.toNat) q
end
end DL
namespace DL
open PySem PySem.Spec PyProof.Rows L2

theorem PE_imp {X : Cx} {e : Expr} {t t' : TE} (h : PE X e t) (i : ∀ σ H Q, t' σ H Q → t σ H Q) : PE X e t' := ⟨fun pins s σ H Q I q => h.run pins s σ H Q I (i σ H Q q)⟩
theorem PT_imp {X : Cx} {e : Expr} {t t' : TT} (h : PT X e t) (i : ∀ σ H Q, t' σ H Q → t σ H Q) : PT X e t' := ⟨fun pins s σ H Q I q => h.run pins s σ H Q I (i σ H Q q)⟩
theorem PW_imp {X : Cx} {e : Expr} {t t' : TT} (h : PW X e t) (i : ∀ σ H Q, t' σ H Q → t σ H Q) : PW X e t' := ⟨fun wh pins s σ H Q I q => h.run wh pins s σ H Q I (i σ H Q q)⟩
theorem PA_imp {X : Cx} {e : List Expr} {t t' : TA} (h : PA X e t) (i : ∀ σ H Q, t' σ H Q → t σ H Q) : PA X e t' := ⟨fun pos pins s σ H Q I q => h.run pos pins s σ H Q I (i σ H Q q)⟩
theorem PS_imp {X : Cx} {e : Stmt} {t t' : TS} (h : PS X e t) (i : ∀ σ H Q, t' Q σ H → t Q σ H) : PS X e t' := ⟨fun pins s σ H Q I q => h.run pins s σ H Q I (i σ H Q q)⟩
theorem PSs_imp {X : Cx} {e : List Stmt} {t t' : TS} (h : PSs X e t) (i : ∀ σ H Q, t' Q σ H → t Q σ H) : PSs X e t' := ⟨fun pins s σ H Q I q => h.run pins s σ H Q I (i σ H Q q)⟩

/-- what is left to do with an expression's value -/
def Fin (G : Gh) (b : Nat) (σ : L2.St) (env : Ev) (w : Wd) (Q : VK) (P : Dv → Prop) : Prop := ∀ dv, P dv → ∀ b' w' v, b' ≤ b → ER (G.at b') w' env σ → Ext w w' → VR G w.H w' v dv → Q v w'.H
theorem VR.hs {G : Gh} {Hs Hs' : Hp} {w : Wd} {v : V} {dv : Dv} (h : VR G Hs w v dv) (e : ∀ a, Hs a = none → Hs' a = none) : VR G Hs' w v dv := by
  cases dv with
  | nw d => obtain ⟨a, q, z, r⟩ := h; exact ⟨a, q, e a z, r⟩
  | fz d => exact h
  | ow d => exact h
  | bw d => exact h
  | raw d => exact h
theorem Fin.ext {G : Gh} {b b2 : Nat} {σ : L2.St} {env : Ev} {w w2 : Wd} {Q : VK} {P : Dv → Prop} (f : Fin G b σ env w Q P) (e : Ext w w2) (l : b2 ≤ b) : Fin G b2 σ env w2 Q P :=
  fun dv p b' w' v hb er e' r => f dv p b' w' v (Nat.le_trans hb l) er (e.trans e') (r.hs fun a h => e.free h)
theorem Fin.now {G : Gh} {b : Nat} {σ : L2.St} {env : Ev} {w : Wd} {Q : VK} {P : Dv → Prop} (f : Fin G b σ env w Q P) {dv : Dv} (p : P dv) {v : V} (er : ER (G.at b) w env σ) (r : VR G w.H w v dv) : Q v w.H := f dv p b w v (Nat.le_refl _) er (Ext.refl w) r
/-- the start -/
theorem Fin.of {G : Gh} {b c : Nat} {σ : L2.St} {env : Ev} {w : Wd} {Q : VK} {P : Dv → Prop} (f : ∀ dv, P dv → ∀ b' w' v, b' ≤ b + c → ER (G.at b') w' env σ → Ext w w' → VR G w.H w' v dv → Q v w'.H) : Fin G (b + c) σ env w Q P := f
/-- one operand -/
theorem tV.one {G : Gh} {c : Nat} {wa : WE} {K : Ev → Dv → (Dv → Prop) → Prop} {σ : L2.St} {H : Hp} {Q : VK} {R : V → Hp → Prop} (h : tV G (fun env P => wa env fun x => K env x P) c σ H Q)
    (fin : ∀ {b : Nat} env w x dx P, ER (G.at b) w env σ → VR G H w x dx → K env dx P → Fin G b σ env w Q P → R x w.H) : tV G wa c σ H R := by
  obtain ⟨env, M, C, b, P, hb, er, hw, hf⟩ := h
  refine ⟨env, M, C, b, _, hb, er, hw, fun dx hx b1 w1 x hb1 er1 e1 r1 => fin env w1 x dx P er1 r1 hx (Fin.ext (w := ⟨H, M, C⟩) hf e1 hb1)⟩
/-- two operands, one after another -/
theorem tV.two {G : Gh} {ca cb : Nat} {wa wb : WE} {K : Ev → Dv → Dv → (Dv → Prop) → Prop} {σ : L2.St} {H : Hp} {Q : VK} {R : V → V → Hp → Prop} (h : tV G (fun env P => wa env fun x => wb env fun y => K env x y P) (ca + cb) σ H Q)
    (fin : ∀ {b : Nat} env w x y dx dy P, ER (G.at b) w env σ → VR G H w x dx → VR G H w y dy → K env dx dy P → Fin G b σ env w Q P → R x y w.H) : tV G wa ca σ H fun x H1 => tV G wb cb σ H1 fun y H2 => R x y H2 := by
  obtain ⟨env, M, C, b, P, hb, er, hw, hf⟩ := h
  refine ⟨env, M, C, b, _, by omega, er, hw, fun dx hx b1 w1 x hb1 er1 e1 r1 => ⟨env, w1.M, w1.C, b1, _, by omega, er1, hx, fun dy hy b2 w2 y hb2 er2 e2 r2 => ?_⟩⟩
  exact fin env w2 x y dx dy P er2 (r1.ext e2 er1.cm fun _ z => z) (r2.hs fun a z => e1.free z) hy (Fin.ext (Fin.ext (w := ⟨H, M, C⟩) hf e1 (Nat.le_refl _)) e2 (by omega))

theorem tV.twoX {G : Gh} {ca cb cc : Nat} {wa wb : WE} {K : Ev → Dv → Dv → (Dv → Prop) → Prop} {σ : L2.St} {H : Hp} {Q : VK} {R : V → V → Hp → Prop} (h : tV G (fun env P => wa env fun x => wb env fun y => K env x y P) (ca + cb + cc) σ H Q)
    (fin : ∀ {b : Nat} env w x y dx dy P, b + cc ≤ cap → ER (G.at b) w env σ → VR G H w x dx → VR G H w y dy → K env dx dy P → Fin G (b + cc) σ env w Q P → R x y w.H) : tV G wa ca σ H fun x H1 => tV G wb cb σ H1 fun y H2 => R x y H2 := by
  obtain ⟨env, M, C, b, P, hb, er, hw, hf⟩ := h
  refine ⟨env, M, C, b, _, by omega, er, hw, fun dx hx b1 w1 x hb1 er1 e1 r1 => ⟨env, w1.M, w1.C, b1, _, by omega, er1, hx, fun dy hy b2 w2 y hb2 er2 e2 r2 => ?_⟩⟩
  exact fin env w2 x y dx dy P (by omega) er2 (r1.ext e2 er1.cm fun _ z => z) (r2.hs fun a z => e1.free z) hy (Fin.ext (Fin.ext (w := ⟨H, M, C⟩) hf e1 (Nat.le_refl _)) e2 (by omega))

/-! ### the values that pure operations give -/
def mkDv : D → Dv
  | .list ds => .nw (.list ds)
  | .dict es => .nw (.dict es)
  | .none => .fz .none
  | .bool b => .fz (.bool b)
  | .int i => .fz (.int i)
  | .str x => .fz (.str x)
  | .tuple ds => .fz (.tuple ds)
def VN (w : Wd) (H' : Hp) (v : V) : D → Prop
  | .list ds => ∃ a, v = .ref a ∧ w.H a = none ∧ Ow (Wd.plus ⟨H', w.M, w.C⟩ a) a (.list ds)
  | .dict es => ∃ a, v = .ref a ∧ w.H a = none ∧ Ow (Wd.plus ⟨H', w.M, w.C⟩ a) a (.dict es)
  | d => Rp ⟨H', w.M, w.C⟩ v d
theorem same_new {H : Hp} {p : Addr} {o : HO} (h : H p = none) : Same H (upd H p o) := fun b x e => by
  rw [upd_ne (ne_of_none e h)]; exact e
theorem Ext.plus {w : Wd} {H' : Hp} {a : Addr} (s : Same w.H H') (n : w.H a = none) : Ext w (Wd.plus ⟨H', w.M, w.C⟩ a) := ⟨fun b o _ h => .inl (s b o h), fun b h z => h (s.free z), fun _ h => .inl h, fun b h => h.elim .inl fun q => .inr (by rw [q]; exact n), fun _ h => .inl h⟩
theorem EH.plus {G : Gh} {w : Wd} {H' : Hp} {a : Addr} (h : EH G w) (s : Same w.H H') (n : w.H a = none) (t : H' a ≠ none) (t' : ∀ xs, H' a ≠ some (.tup xs)) : EH G (Wd.plus ⟨H', w.M, w.C⟩ a) :=
  ⟨(h.same s).kp, fun b m => .inl (h.m0 b m), h.nc, h.cp, fun b c => .inl (h.cm b c), fun b m => m.elim ((h.same s).md b) fun q => by rw [q]; exact t, (h.same s).hd, fun p hp => p.st _ _ ((Ext.plus s n).st h.cm) (h.gk p hp), (h.same s).si, fun b xs m => m.elim ((h.same s).mt b xs) fun q => by rw [q]; exact t' xs⟩
/-- a pure step's end -/
theorem Fin.pure {G : Gh} {b : Nat} {σ : L2.St} {env : Ev} {w : Wd} {Q : VK} {P : Dv → Prop} (f : Fin G b σ env w Q P) (er : ER (G.at b) w env σ) {d : D} (p : P (mkDv d)) {v : V} {H' : Hp} (s : Same w.H H') (r : VN w H' v d) : Q v H' := by
  have nm : ∀ a, w.H a = none → ¬ w.M a := fun a z m => er.md a m z
  cases d with
  | list ds =>
    refine f _ p b ⟨H', w.M, w.C⟩ v (Nat.le_refl _) (er.same s) (Ext.same s) ?_
    obtain ⟨a, q, z, o⟩ := r
    exact ⟨a, q, z, ⟨fun t => (nomatch t), fun m => (nm a z m).elim⟩, fun c => nm a z (er.cm a c), o⟩
  | dict ds =>
    obtain ⟨a, q, z, o⟩ := r
    have t : H' a ≠ none := by cases o with | dK h _ _ => (rw [show H' a = some _ from h]; simp) | dN h _ _ => exact (fun z => by obtain ⟨ob, q⟩ := h.there; rw [show H' a = some _ from q] at z; cases z)
    refine f _ p b (Wd.plus ⟨H', w.M, w.C⟩ a) v (Nat.le_refl _) (er.ext' (Ext.plus s z) (er.toEH.plus s z t fun xs => o.ntup xs)) (Ext.plus s z) ?_
    have st : St1 (Wd.plus ⟨H', w.M, w.C⟩ a) (Wd.plus (Wd.plus ⟨H', w.M, w.C⟩ a) a) := ⟨fun b x nb h => .inl h, fun b m => m.elim (fun m => .inl m) fun q => .inl (.inr q)⟩
    exact ⟨a, q, z, ⟨fun _ => .inr rfl, fun _ => rfl⟩, fun c => nm a z (er.cm a c), o.st st rfl⟩
  | none => exact f _ p b ⟨H', w.M, w.C⟩ v (Nat.le_refl _) (er.same s) (Ext.same s) r
  | bool _ => exact f _ p b ⟨H', w.M, w.C⟩ v (Nat.le_refl _) (er.same s) (Ext.same s) r
  | int _ => exact f _ p b ⟨H', w.M, w.C⟩ v (Nat.le_refl _) (er.same s) (Ext.same s) r
  | str _ => exact f _ p b ⟨H', w.M, w.C⟩ v (Nat.le_refl _) (er.same s) (Ext.same s) r
  | tuple _ => exact f _ p b ⟨H', w.M, w.C⟩ v (Nat.le_refl _) (er.same s) (Ext.same s) r
theorem Fin.rp {G : Gh} {b : Nat} {σ : L2.St} {env : Ev} {w : Wd} {Q : VK} {P : Dv → Prop} (f : Fin G b σ env w Q P) (er : ER (G.at b) w env σ) {d : D} (p : P (.fz d)) {v : V} {H' : Hp} (s : Same w.H H') (r : Rp ⟨H', w.M, w.C⟩ v d) : Q v H' :=
  f _ p b ⟨H', w.M, w.C⟩ v (Nat.le_refl _) (er.same s) (Ext.same s) r
theorem st_new {w : Wd} {p : Addr} {o : HO} (n : w.H p = none) : St1 w (Wd.plus ⟨upd w.H p o, w.M, w.C⟩ p) := ⟨fun b x _ h => .inl (by
  show upd w.H p o b = some x
  rw [upd_ne (ne_of_none h n)]; exact h), fun b m => m.elim .inl fun q => .inr (by rw [q]; exact n)⟩
/-! ### names and constants -/
def Sl.dv : Sl → Option Dv
  | .no => none
  | .fz d => some (.fz d)
  | .raw v => some (.raw v)
  | .own d => some (.ow d)
  | .bw d => some (.bw d)
  | .ab _ A => A.dv.map .ow
def wName (i : Nat) : WE := fun env P => ∃ dv, (env[i]?).bind Sl.dv = some dv ∧ P dv
def wC (dv : Dv) : WE := fun _ P => P dv
section
variable {X : Cx} {G : Gh} {a b : Expr} {wa wb : WE} {ca cb : Nat} {pos : Pos}
theorem SlR.vr {w : Wd} {Hs : Hp} {ov : Option V} {s : Sl} {dv : Dv} (h : SlR G w ov s) (e : s.dv = some dv) : ∃ v, ov = some v ∧ VR G Hs w v dv := by
  cases s with
  | no => cases e
  | fz d => cases e; exact h
  | raw v => cases e; exact ⟨v, h, rfl⟩
  | own d => cases e; obtain ⟨a, q, m, n, p, z, o⟩ := h; exact ⟨_, q, a, rfl, m, z, p, n, o⟩
  | bw d => cases e; obtain ⟨a, q, m, n, p, o⟩ := h; exact ⟨_, q, a, rfl, m, n, o⟩
  | ab b A =>
    obtain ⟨a, q, ⟨m, n, p, z⟩, _, r⟩ := h
    obtain ⟨d, hd, rfl⟩ := Option.map_eq_some_iff.mp e
    exact ⟨_, q, a, rfl, m, z, p, n, A.ow hd r⟩
theorem de_name (i : Nat) {x : Str} (hN : X.N[i]? = some x := by rfl) (hv : Vis X.env.scope x := by first | exact Or.inl rfl | exact Or.inr (Or.inl rfl) | exact Or.inr (Or.inr rfl)) (hd : (x == ("__debug__" : Str)) = false := by decide)
    (hcd : (x == ("__classdict__" : Str)) = false := by decide) : DE X G (.Name x pos) (wName i) 0 := by
  refine PE_imp (pe_var hN hv hd hcd) fun σ H Q h => ?_
  obtain ⟨env, M, C, b0, P, hb0, er, ⟨dv, e, p⟩, hf⟩ := h
  cases q : env[i]? with
  | none => rw [q] at e; cases e
  | some s =>
    rw [q] at e
    have hi : i < σ.length := by
      have := er.len
      have := (List.getElem?_eq_some_iff.mp q).1
      omega
    obtain ⟨v, hv, r⟩ := SlR.vr (Hs := H) (er.sl i s σ[i] q (List.getElem?_eq_getElem hi)) e
    refine ⟨v, ?_, Fin.now (b := b0) (w := ⟨H, M, C⟩) hf p er r⟩
    rw [List.getElem?_eq_getElem hi, hv]
theorem de_const {e : Expr} {v : V} {d : D} (h : PE X e (tC v)) (r : ∀ w, Rp w v d) : DE X G e (wC (.fz d)) 0 :=
  PE_imp h fun σ H Q h => by
    obtain ⟨env, M, C, b0, P, hb0, er, p, hf⟩ := h
    exact Fin.now (b := b0) (w := ⟨H, M, C⟩) hf p er (r _)
theorem de_int {i j} : DE X G (.Constant (.int i) j pos) (wC (.fz (.int i))) 0 := de_const pe_int fun _ => .int i
theorem de_bl {i j} : DE X G (.Constant (.bool i) j pos) (wC (.fz (.bool i))) 0 := de_const pe_bl fun _ => .bl i
theorem de_non {j} : DE X G (.Constant .none j pos) (wC (.fz .none)) 0 := de_const pe_non fun _ => .non
theorem de_str {i j} : DE X G (.Constant (.str i) j pos) (wC (.fz (.str i))) 0 := de_const pe_str fun _ => .str i
theorem de_gint {x : Str} {i : Int} {t : Tok} (hg : Gl X x) (hm : X.mg x = some (.int i t)) (hd : (x == ("__debug__" : Str)) = false := by decide) : DE X G (.Name x pos) (wC (.fz (.int i))) 0 := de_const (pe_glob (v := .int i) hg hm ⟨t, rfl⟩ hd) fun _ => .int i
theorem de_gstr {x : Str} {i : Str} {t : Tok} (hg : Gl X x) (hm : X.mg x = some (.str i t)) (hd : (x == ("__debug__" : Str)) = false := by decide) : DE X G (.Name x pos) (wC (.fz (.str i))) 0 := de_const (pe_glob (v := .str i) hg hm ⟨t, rfl⟩ hd) fun _ => .str i
/-- a name of the module as a bare value: a class, a def -/
theorem de_graw {x : Str} {v : V} {u : Value} (hg : Gl X x) (hm : X.mg x = some u) (r : RelV v u) (hd : (x == ("__debug__" : Str)) = false := by decide) : DE X G (.Name x pos) (wC (.raw v)) 0 :=
  PE_imp (pe_glob hg hm r hd) fun σ H Q h => by
    obtain ⟨env, M, C, b0, P, hb0, er, p, hf⟩ := h
    exact Fin.now (b := b0) (w := ⟨H, M, C⟩) hf p er rfl
theorem de_bltn {x : Str} {v : V} {u : Value} (hg : Gl X x) (hm : X.mg x = none) (hv : bootBuiltins x = some u) (r : RelV v u) (hn : x ≠ "__name__" := by decide) (hd : (x == ("__debug__" : Str)) = false := by decide) : DE X G (.Name x pos) (wC (.raw v)) 0 :=
  PE_imp (pe_bltn hg hm hv r hn hd) fun σ H Q h => by
    obtain ⟨env, M, C, b0, P, hb0, er, p, hf⟩ := h
    exact Fin.now (b := b0) (w := ⟨H, M, C⟩) hf p er rfl

/-! ### operators -/
def k2 (f : D → D → Option D) (x y : Dv) (P : Dv → Prop) : Prop := ∃ d, (x.val.bind fun a => y.val.bind fun b => f a b) = some d ∧ P (mkDv d)
def w2 (f : D → D → Option D) (wa wb : WE) : WE := fun env P => wa env fun x => wb env fun y => k2 f x y P
def Wk (w : Wd) : Prop := ∀ a, w.M a → w.H a ≠ none
def rV2 (f : D → D → Option D) : R2 := fun x y H Q => ∃ w dx dy d, w.H = H ∧ Wk w ∧ Rq w x dx ∧ Rq w y dy ∧ f dx dy = some d ∧ ∀ v H', Same H H' → VN w H' v d → Q v H'
theorem k2.get {f : D → D → Option D} {x y : Dv} {P : Dv → Prop} (h : k2 f x y P) : ∃ dx dy d, x.val = some dx ∧ y.val = some dy ∧ f dx dy = some d ∧ P (mkDv d) := by
  obtain ⟨d, e, p⟩ := h
  cases hx : x.val with
  | none => rw [hx] at e; cases e
  | some dx =>
    cases hy : y.val with
    | none => rw [hx, hy] at e; cases e
    | some dy => rw [hx, hy] at e; exact ⟨dx, dy, d, rfl, rfl, e, p⟩
theorem rd2 {f : D → D → Option D} {σ : L2.St} {H : Hp} {Q : VK} (h : tV G (w2 f wa wb) (ca + cb) σ H Q) : tOp (rV2 f) (tV G wa ca) (tV G wb cb) σ H Q :=
  tV.two h fun env w x y dx dy P er rx ry k hf => by
    obtain ⟨ex, ey, d, h1, h2, h3, p⟩ := k.get
    exact ⟨w, ex, ey, d, rfl, er.md, rx.rq h1, ry.rq h2, h3, fun v H' s r => hf.pure er p s r⟩
theorem de_op {op : Operator} {f : D → D → Option D} (ho : OpR X (binaryOp op) (rV2 f)) (ha : DE X G a wa ca) (hb : DE X G b wb cb) : DE X G (.BinOp a op b pos) (w2 f wa wb) (ca + cb) := PE_imp (pe_op ho ha hb) fun _ _ _ h => rd2 h
theorem de_cmp {op : CmpOp} {f : D → D → Option D} (ho : OpR X (compareOp op) (rV2 f)) (ha : DE X G a wa ca) (hb : DE X G b wb cb) (hm : behindInMarks op b = false) : DE X G (.Compare a [op] [b] pos) (w2 f wa wb) (ca + cb) := PE_imp (pe_cmpR ho ha hb hm) fun _ _ _ h => rd2 h
def wTest (wa : WE) : WT := fun env P => wa env fun x => ∃ k, x = .fz (.bool k) ∧ P k
theorem tT.of {σ : L2.St} {H : Hp} {Q : Bool → Hp → Prop} (h : tT G (wTest wa) ca σ H Q) : tV G wa ca σ H fun x H1 => ∃ k, x = .bl k ∧ Q k H1 := by
  obtain ⟨env, M, C, b0, P, hb0, er, hw, hf⟩ := h
  refine ⟨env, M, C, b0, _, hb0, er, hw, fun dx hx b1 w1 x hb1 er1 e1 r1 => ?_⟩
  obtain ⟨k, rfl, p⟩ := hx
  cases r1
  exact ⟨k, rfl, hf k p b1 w1 hb1 er1 e1⟩
theorem dt_cmp {op : CmpOp} {f : D → D → Option D} (ho : OpR X (compareOp op) (rV2 f)) (ha : DE X G a wa ca) (hb : DE X G b wb cb) (hm : behindInMarks op b = false) : DT X G (.Compare a [op] [b] pos) (wTest (w2 f wa wb)) (ca + cb) :=
  PT_imp (pt_cmpR ho ha hb hm) fun _ _ _ h => rd2 (tT.of h)
/-- an expression that gives a truth value, as a test -/
theorem dt_val {e : Expr} (h : DE X G e wa ca) (he : ∀ whole, isTrue e X.env whole = (do let v ← whole; standAt e.pos; holding [v] (truthy v)) := by intro _; rfl) : DT X G e (wTest wa) ca :=
  PT_imp (pt_val h he) fun _ _ _ h => tT.of h
end

/-! ### and, or, not, if .. else -/
section
variable {X : Cx} {G : Gh} {a b c : Expr} {ta tb : WT} {wa wb : WE} {ca cb cc : Nat} {pos : Pos} {rest : List Expr}
def wNot (t : WT) : WT := fun env P => t env fun b => P (!b)
def wAnd (t u : WT) : WT := fun env P => t env fun b => if b = true then u env P else P false
def wOr (t u : WT) : WT := fun env P => t env fun b => if b = true then P true else u env P
theorem dt_not (ha : DT X G a ta ca) : DT X G (.UnaryOp .Not a pos) (wNot ta) ca := PT_imp (pt_not ha) fun σ H Q h => by
  obtain ⟨env, M, C, b0, P, hb0, er, hw, hf⟩ := h
  exact ⟨env, M, C, b0, _, hb0, er, hw, fun b hb b1 w1 hb1 er1 e1 => hf _ hb b1 w1 hb1 er1 e1⟩
theorem dw_and1 (ha : DT X G a ta ca) : DW X G (.BoolOp .And [a] pos) ta ca := pw_and1 ha
theorem dw_or1 (ha : DT X G a ta ca) : DW X G (.BoolOp .Or [a] pos) ta ca := pw_or1 ha
theorem dw_and (ha : DT X G a ta ca) (hb : DW X G (.BoolOp .And (b :: rest) pos) tb cb) : DW X G (.BoolOp .And (a :: b :: rest) pos) (wAnd ta tb) (ca + cb) := PW_imp (pw_and ha hb) fun σ H Q h => by
  obtain ⟨env, M, C, b0, P, hb0, er, hw, hf⟩ := h
  refine ⟨env, M, C, b0, _, by omega, er, hw, fun k hk b1 w1 hb1 er1 e1 => ?_⟩
  cases k with
  | true =>
    rw [if_pos rfl] at hk ⊢
    exact ⟨env, w1.M, w1.C, b1, P, by omega, er1, hk, fun b' p b2 w' hb2 er' e' => hf b' p b2 w' (by omega) er' (e1.trans e')⟩
  | false =>
    rw [if_neg Bool.false_ne_true] at hk ⊢
    exact hf _ hk b1 w1 (by omega) er1 e1
theorem dw_or (ha : DT X G a ta ca) (hb : DW X G (.BoolOp .Or (b :: rest) pos) tb cb) : DW X G (.BoolOp .Or (a :: b :: rest) pos) (wOr ta tb) (ca + cb) := PW_imp (pw_or ha hb) fun σ H Q h => by
  obtain ⟨env, M, C, b0, P, hb0, er, hw, hf⟩ := h
  refine ⟨env, M, C, b0, _, by omega, er, hw, fun k hk b1 w1 hb1 er1 e1 => ?_⟩
  cases k with
  | false =>
    rw [if_neg Bool.false_ne_true] at hk ⊢
    exact ⟨env, w1.M, w1.C, b1, P, by omega, er1, hk, fun b' p b2 w' hb2 er' e' => hf b' p b2 w' (by omega) er' (e1.trans e')⟩
  | true =>
    rw [if_pos rfl] at hk ⊢
    exact hf _ hk b1 w1 (by omega) er1 e1
/-! .. as values -/
def wNotV (wa : WE) : WE := fun env P => wa env fun x => ∃ k, x = .fz (.bool k) ∧ P (.fz (.bool (!k)))
def wAndV (wa wb : WE) : WE := fun env P => wa env fun x => ∃ k, x = .fz (.bool k) ∧ if k = true then wb env P else P (.fz (.bool false))
def wOrV (wa wb : WE) : WE := fun env P => wa env fun x => ∃ k, x = .fz (.bool k) ∧ if k = true then P (.fz (.bool true)) else wb env P
theorem de_not (ha : DE X G a wa ca) : DE X G (.UnaryOp .Not a pos) (wNotV wa) ca := PE_imp (pe_not ha) fun σ H Q h => by
  obtain ⟨env, M, C, b0, P, hb0, er, hw, hf⟩ := h
  refine ⟨env, M, C, b0, _, by omega, er, hw, fun dv hd b1 w1 v hb1 er1 e1 r1 => ?_⟩
  obtain ⟨k, rfl, p⟩ := hd
  cases r1
  exact ⟨k, rfl, hf _ p b1 w1 _ hb1 er1 e1 (.bl _)⟩
theorem de_one {op} (ha : DE X G a wa ca) : DE X G (.BoolOp op [a] pos) wa ca := pe_one ha
theorem de_and (ha : DE X G a wa ca) (hb : DE X G (.BoolOp .And (b :: rest) pos) wb cb) : DE X G (.BoolOp .And (a :: b :: rest) pos) (wAndV wa wb) (ca + cb) := PE_imp (pe_and ha hb) fun σ H Q h => by
  obtain ⟨env, M, C, b0, P, hb0, er, hw, hf⟩ := h
  refine ⟨env, M, C, b0, _, by omega, er, hw, fun dv hd b1 w1 v hb1 er1 e1 r1 => ?_⟩
  obtain ⟨k, rfl, hk⟩ := hd
  cases r1
  refine ⟨k, rfl, ?_⟩
  cases k with
  | true =>
    rw [if_pos rfl] at hk ⊢
    exact ⟨env, w1.M, w1.C, b1, P, by omega, er1, hk, Fin.ext (w := ⟨H, M, C⟩) hf e1 (by omega)⟩
  | false =>
    rw [if_neg Bool.false_ne_true] at hk ⊢
    exact hf _ hk b1 w1 _ (by omega) er1 e1 (.bl _)
theorem de_or (ha : DE X G a wa ca) (hb : DE X G (.BoolOp .Or (b :: rest) pos) wb cb) : DE X G (.BoolOp .Or (a :: b :: rest) pos) (wOrV wa wb) (ca + cb) := PE_imp (pe_or ha hb) fun σ H Q h => by
  obtain ⟨env, M, C, b0, P, hb0, er, hw, hf⟩ := h
  refine ⟨env, M, C, b0, _, by omega, er, hw, fun dv hd b1 w1 v hb1 er1 e1 r1 => ?_⟩
  obtain ⟨k, rfl, hk⟩ := hd
  cases r1
  refine ⟨k, rfl, ?_⟩
  cases k with
  | false =>
    rw [if_neg Bool.false_ne_true] at hk ⊢
    exact ⟨env, w1.M, w1.C, b1, P, by omega, er1, hk, Fin.ext (w := ⟨H, M, C⟩) hf e1 (by omega)⟩
  | true =>
    rw [if_pos rfl] at hk ⊢
    exact hf _ hk b1 w1 _ (by omega) er1 e1 (.bl _)
def wIf (t : WT) (wa wb : WE) : WE := fun env P => t env fun k => if k = true then wa env P else wb env P
theorem de_if (hc : DT X G c ta cc) (ha : DE X G a wa ca) (hb : DE X G b wb cb) : DE X G (.IfExp c a b pos) (wIf ta wa wb) (cc + (ca + cb)) := PE_imp (pe_ifExp hc ha hb) fun σ H Q h => by
  obtain ⟨env, M, C, b0, P, hb0, er, hw, hf⟩ := h
  refine ⟨env, M, C, b0, _, by omega, er, hw, fun k hk b1 w1 hb1 er1 e1 => ?_⟩
  cases k with
  | true =>
    rw [if_pos rfl] at hk ⊢
    exact ⟨env, w1.M, w1.C, b1, P, by omega, er1, hk, Fin.ext (w := ⟨H, M, C⟩) hf e1 (by omega)⟩
  | false =>
    rw [if_neg Bool.false_ne_true] at hk ⊢
    exact ⟨env, w1.M, w1.C, b1, P, by omega, er1, hk, Fin.ext (w := ⟨H, M, C⟩) hf e1 (by omega)⟩
/-! chains: a op b op' c -/
def wChain (f g : D → D → Option D) (wa wb wc : WE) : WE := fun env P => wa env fun x => wb env fun y => ∃ k, (x.val.bind fun a => y.val.bind fun b => f a b) = some (.bool k) ∧ if k = true then wc env fun z => k2 g y z P else P (.fz (.bool false))
theorem rdChain {wc : WE} {f g : D → D → Option D} {σ : L2.St} {H : Hp} {Q : VK} (h : tV G (wChain f g wa wb wc) (ca + cb + cc) σ H Q) : tChain (rV2 f) (rV2 g) (tV G wa ca) (tV G wb cb) (tV G wc cc) σ H Q :=
  tV.twoX h fun {b0} env w x y dx dy P hb0 er rx ry k hf => by
    obtain ⟨kk, e, hk⟩ := k
    obtain ⟨ex, ey, d, h1, h2, h3, _⟩ := k2.get (P := fun v => v = .fz (.bool kk)) ⟨_, e, rfl⟩
    have hd : d = .bool kk := by
      rw [h1, h2] at e
      exact Option.some.inj (h3.symm.trans e)
    subst hd
    refine ⟨w, ex, ey, _, rfl, er.md, rx.rq h1, ry.rq h2, h3, fun v H' s r => ?_⟩
    cases (show Rp ⟨H', w.M, w.C⟩ v (.bool kk) from r)
    refine ⟨kk, rfl, ?_⟩
    cases kk with
    | false =>
      rw [if_neg Bool.false_ne_true] at hk ⊢
      exact (hf.ext (Ext.refl _) (Nat.le_add_right _ _)).rp er hk s (.bl _)
    | true =>
      rw [if_pos rfl] at hk ⊢
      refine ⟨env, w.M, w.C, b0, _, hb0, er.same s, hk, fun dz hz b3 w3 z hb3 er3 e3 r3 => ?_⟩
      obtain ⟨fy, ez, d, q1, q2, q3, p⟩ := k2.get hz
      have ry3 := ry.ext (Hs' := H) ((Ext.same s).trans e3) er.cm fun _ q => q
      exact ⟨w3, fy, ez, d, rfl, er3.md, ry3.rq q1, r3.rq q2, q3, fun v H'' s' r' => (Fin.ext (Fin.ext hf (Ext.same s) (Nat.le_refl _)) e3 hb3).pure er3 p s' r'⟩
theorem de_chain {op op' : CmpOp} {wc : WE} {f g : D → D → Option D} (ho : OpR X (compareOp op) (rV2 f)) (ho' : OpR X (compareOp op') (rV2 g)) (ha : DE X G a wa ca) (hb : DE X G b wb cb) (hc : DE X G c wc cc)
    (hm : lastMarks [op, op'] [b, c] = false := by with_unfolding_all rfl) : DE X G (.Compare a [op, op'] [b, c] pos) (wChain f g wa wb wc) (ca + cb + cc) := PE_imp (pe_chain ho ho' ha hb hc hm) fun _ _ _ h => rdChain h
theorem dt_chain {op op' : CmpOp} {wc : WE} {f g : D → D → Option D} (ho : OpR X (compareOp op) (rV2 f)) (ho' : OpR X (compareOp op') (rV2 g)) (ha : DE X G a wa ca) (hb : DE X G b wb cb) (hc : DE X G c wc cc)
    (hm : lastMarks [op, op'] [b, c] = false := by with_unfolding_all rfl) : DT X G (.Compare a [op, op'] [b, c] pos) (wTest (wChain f g wa wb wc)) (ca + cb + cc) := PT_imp (pt_chain ho ho' ha hb hc hm) fun _ _ _ h => rdChain (tT.of h)
end
end DL
namespace DL
open PySem PySem.Spec PyProof.Rows L2

/-! ### data without dicts: the layer's own relation -/
mutual
theorem Rp.dp {K : PySem.W.Frag} {w : Wd} : ∀ {d : D} {v : V}, Rp w v d → d.canLay0 = true → Dp K w.H v d
  | .none, _, h, _ => by cases h; exact .non
  | .bool b, _, h, _ => by cases h; exact .bl b
  | .int i, _, h, _ => by cases h; exact .int i
  | .str x, _, h, _ => by cases h; exact .str x
  | .list ds, _, h, c => by
    cases h with
    | lst n r q => exact .lst (SqL.of r) (RpL.dp q c)
  | .tuple ds, _, h, c => by
    cases h with
    | tup n r q => exact .tup r.sq (RpL.dp q c)
  | .dict _, _, _, c => by cases c
theorem RpL.dp {K : PySem.W.Frag} {w : Wd} : ∀ {ds : List D} {vs : List V}, RpL w vs ds → PyData.canLayAll0 ds = true → DpAll K w.H vs ds
  | [], _, h, _ => by cases h; exact .nil
  | d :: ds, _, h, c => by
    rw [PyData.canLayAll0, Bool.and_eq_true] at c
    cases h with
    | cons a b => exact .cons (Rp.dp a c.1) (RpL.dp b c.2)
end
theorem Rq.dp {K : PySem.W.Frag} {w : Wd} {v : V} {d : D} (h : Rq w v d) (c : d.canLay0 = true) : Dp K w.H v d := by
  cases h with
  | non => exact .non
  | bl b => exact .bl b
  | int b => exact .int b
  | str b => exact .str b
  | lst r q => exact .lst (SqL.of r) (RpL.dp q c)
  | tup _ r q => exact .tup r.sq (RpL.dp q c)
  | dK _ _ _ => cases c
  | dN _ _ _ => cases c
  | op _ _ _ => cases c

/-! ### arithmetic -/
def addD : D → D → Option D
  | .int i, .int j => some (.int (i + j))
  | .str a, .str b => if a.length + b.length ≤ sizeLine then some (.str (a ++ b)) else none
  | .list a, .list b => if a.length + b.length ≤ sizeLine then some (.list (a ++ b)) else none
  | .tuple a, .tuple b => if a.length + b.length ≤ sizeLine then some (.tuple (a ++ b)) else none
  | _, _ => none
def subD : D → D → Option D
  | .int i, .int j => some (.int (i - j))
  | _, _ => none
/-- a product: one of both within 64 bits; a list or tuple some times -/
def mulD : D → D → Option D
  | .int i, .int j => if ((-(2 ^ 64) < i ∧ i < 2 ^ 64) ∨ (-(2 ^ 64) < j ∧ j < 2 ^ 64)) then some (.int (i * j)) else none
  | .list a, .int k => if -(2 ^ 63) ≤ k ∧ k < 2 ^ 63 ∧ a.length * k.toNat ≤ sizeLine then some (.list (List.replicate k.toNat a).flatten) else none
  | .tuple a, .int k => if a ≠ [] ∧ 2 ≤ k ∧ k ≤ 1000 ∧ a.length ≤ 1000 then some (.tuple (List.replicate k.toNat a).flatten) else none
  | _, _ => none
def modD : D → D → Option D
  | .int i, .int j => if 0 < j then some (.int (i % j)) else none
  | _, _ => none
def fdivD : D → D → Option D
  | .int i, .int j => if 0 < j ∧ j < 1073741824 then some (.int (i / j)) else none
  | _, _ => none
def negD : D → Option D
  | .int i => some (.int (-i))
  | _ => none
section
variable {X : Cx}
theorem newL {w : Wd} {p : Addr} {xs : List V} {ds : List D} (n : w.H p = none) (r : RpL w xs ds) : VN w (upd w.H p (.lst xs)) (.ref p) (.list ds) :=
  ⟨p, rfl, n, .lst upd_same (r.st (st_new n))⟩
theorem newT {w : Wd} (k : Wk w) {p : Addr} {o : Obj} {xs : List V} {ds : List D} (h : o.dict = none) (n : w.H p = none) (r : RpL w xs ds) : Rp ⟨upd w.H p (tupO o xs), w.M, w.C⟩ (.ref p) (.tuple ds) :=
  .tup (fun m => k p m n) ⟨o, h, upd_same⟩ (r.st (St1.same (same_new n)))
theorem RpL.nil_iff {w : Wd} {xs : List V} {ds : List D} (r : RpL w xs ds) : xs = [] ↔ ds = [] := by
  cases r <;> simp
theorem of_if {c : Prop} [Decidable c] {α : Type} {a b : α} (h : (if c then some a else none) = some b) : c ∧ a = b := by
  by_cases hc : c
  · rw [if_pos hc] at h; exact ⟨hc, Option.some.inj h⟩
  · rw [if_neg hc] at h; cases h
theorem op_addD : OpR X (binaryOp .Add) (rV2 addD) := by
  intro pins s σ H x y v u Q I rx ry ⟨w, dx, dy, d, eH, wk, qx, qy, hf, hq⟩
  subst eH
  cases dx with
  | int i =>
    cases dy with
    | int j =>
      cases qx; cases qy; cases hf
      exact op_add pins s σ _ _ _ v u Q I rx ry ⟨i, j, rfl, rfl, hq _ _ (Same.refl _) (.int _)⟩
    | _ => cases hf
  | str i =>
    cases dy with
    | str j =>
      cases qx; cases qy
      obtain ⟨c, rfl⟩ := of_if hf
      exact op_add_str pins s σ _ _ _ v u Q I rx ry ⟨i, j, rfl, rfl, c, hq _ _ (Same.refl _) (.str _)⟩
    | _ => cases hf
  | list a =>
    cases dy with
    | list b =>
      obtain ⟨c, rfl⟩ := of_if hf
      cases qx with
      | lst h1 r1 =>
        cases qy with
        | lst h2 r2 =>
          exact op_cat pins s σ _ _ _ v u Q I rx ry ⟨_, _, _, _, rfl, rfl, h1, h2, by rw [r1.length, r2.length]; exact c, fun p n => hq _ _ (same_new n) (newL n (r1.append r2))⟩
    | _ => cases hf
  | tuple a =>
    cases dy with
    | tuple b =>
      obtain ⟨c, rfl⟩ := of_if hf
      cases qx with
      | tup n1 h1 r1 =>
        cases qy with
        | tup n2 h2 r2 =>
          refine op_catN pins s σ _ _ _ v u Q I rx ry ⟨_, _, _, _, rfl, rfl, h1.sq, h2.sq, by rw [r1.length, r2.length]; exact c, fun e => ?_, fun e e' => ?_, fun e e' p o h n => ?_⟩
          · have z := r1.nil_iff.mp e
            subst z
            exact hq _ _ (Same.refl _) (.tup n2 h2 r2)
          · have z := r2.nil_iff.mp e'
            subst z
            exact hq _ _ (Same.refl _) (by rw [List.append_nil]; exact .tup n1 h1 r1)
          · exact hq _ _ (same_new n) (newT wk h n (r1.append r2))
    | _ => cases hf
  | _ => cases dy <;> cases hf
theorem op_subD : OpR X (binaryOp .Sub) (rV2 subD) := by
  intro pins s σ H x y v u Q I rx ry ⟨w, dx, dy, d, eH, wk, qx, qy, hf, hq⟩
  subst eH
  cases dx with
  | int i =>
    cases dy with
    | int j =>
      cases qx; cases qy; cases hf
      exact op_sub pins s σ _ _ _ v u Q I rx ry ⟨i, j, rfl, rfl, hq _ _ (Same.refl _) (.int _)⟩
    | _ => cases hf
  | _ => cases dy <;> cases hf
theorem op_mulD : OpR X (binaryOp .Mult) (rV2 mulD) := by
  intro pins s σ H x y v u Q I rx ry ⟨w, dx, dy, d, eH, wk, qx, qy, hf, hq⟩
  subst eH
  cases dx with
  | int i =>
    cases dy with
    | int j =>
      cases qx; cases qy
      obtain ⟨c, rfl⟩ := of_if hf
      exact op_mul pins s σ _ _ _ v u Q I rx ry ⟨i, j, rfl, rfl, c, hq _ _ (Same.refl _) (.int _)⟩
    | _ => cases hf
  | list a =>
    cases dy with
    | int k =>
      obtain ⟨⟨c1, c2, c3⟩, rfl⟩ := of_if hf
      cases qy
      cases qx with
      | lst h1 r1 => exact op_rep pins s σ _ _ _ v u Q I rx ry ⟨_, k, _, rfl, rfl, h1, c1, c2, by rw [r1.length]; exact c3, fun p n => hq _ _ (same_new n) (newL n (r1.rep _))⟩
    | _ => cases hf
  | tuple a =>
    cases dy with
    | int k =>
      cases qy
      cases qx with
      | tup n1 h1 r1 =>
        by_cases hc : a ≠ [] ∧ 2 ≤ k ∧ k ≤ 1000 ∧ a.length ≤ 1000
        · have e : d = .tuple (List.replicate k.toNat a).flatten := by
            simp only [mulD, if_pos hc] at hf
            exact (Option.some.inj hf).symm
          subst e
          exact op_repN pins s σ _ _ _ v u Q I rx ry ⟨_, k, _, rfl, rfl, h1.sq, fun z => hc.1 (r1.nil_iff.mp z), hc.2.1, hc.2.2.1, by rw [r1.length]; exact hc.2.2.2, fun p o h n => hq _ _ (same_new n) (newT wk h n (r1.rep _))⟩
        · simp only [mulD, if_neg hc] at hf
          cases hf
    | _ => cases hf
  | _ => cases dy <;> cases hf
theorem op_modD : OpR X (binaryOp .Mod) (rV2 modD) := by
  intro pins s σ H x y v u Q I rx ry ⟨w, dx, dy, d, eH, wk, qx, qy, hf, hq⟩
  subst eH
  cases dx with
  | int i =>
    cases dy with
    | int j =>
      cases qx; cases qy
      obtain ⟨c, rfl⟩ := of_if hf
      exact op_mod pins s σ _ _ _ v u Q I rx ry ⟨i, j, rfl, rfl, c, hq _ _ (Same.refl _) (.int _)⟩
    | _ => cases hf
  | _ => cases dy <;> cases hf
theorem op_fdivD : OpR X (binaryOp .FloorDiv) (rV2 fdivD) := by
  intro pins s σ H x y v u Q I rx ry ⟨w, dx, dy, d, eH, wk, qx, qy, hf, hq⟩
  subst eH
  cases dx with
  | int i =>
    cases dy with
    | int j =>
      cases qx; cases qy
      obtain ⟨c, rfl⟩ := of_if hf
      exact op_fdiv pins s σ _ _ _ v u Q I rx ry ⟨i, j, rfl, rfl, c, hq _ _ (Same.refl _) (.int _)⟩
    | _ => cases hf
  | _ => cases dy <;> cases hf

/-! ### comparisons -/
def eqS : D → D → Option Bool
  | .str x, .str y => some (decide (x = y))
  | _, _ => none
def eqD (a b : D) : Option D := if SeqAt.shaped a = true ∧ SeqAt.shaped b = true then some (.bool (a.eqv b)) else (eqS a b).map fun k => .bool k
def neD (a b : D) : Option D := if SeqAt.shaped a = true ∧ SeqAt.shaped b = true then some (.bool (!a.eqv b)) else (eqS a b).map fun k => .bool (!k)
theorem eqS_get {a b : D} {k : Bool} (h : eqS a b = some k) : ∃ x y, a = .str x ∧ b = .str y ∧ k = decide (x = y) := by
  unfold eqS at h
  split at h
  · cases h; exact ⟨_, _, rfl, rfl, rfl⟩
  · cases h
theorem op_eqDD (hu : X.A.units + 64 < cLine) : OpR X (compareOp .Eq) (rV2 eqD) := by
  intro pins s σ H x y v u Q I rx ry ⟨w, dx, dy, d, eH, wk, qx, qy, hf, hq⟩
  subst eH
  unfold eqD at hf
  by_cases c : SeqAt.shaped dx = true ∧ SeqAt.shaped dy = true
  · rw [if_pos c] at hf; cases hf
    exact op_eqD hu pins s σ _ _ _ v u Q I rx ry ⟨dx, dy, qx.dp (SeqAt.canLay_of_shaped c.1), qy.dp (SeqAt.canLay_of_shaped c.2), c.1, c.2, hq _ _ (Same.refl _) (.bl _)⟩
  · rw [if_neg c] at hf
    obtain ⟨k, h1, rfl⟩ := Option.map_eq_some_iff.mp hf
    obtain ⟨i, j, rfl, rfl, rfl⟩ := eqS_get h1
    cases qx; cases qy
    exact op_eq pins s σ _ _ _ v u Q I rx ry ⟨rfl, by rw [show decide (V.str i = V.str j) = decide (i = j) by simp]; exact hq _ _ (Same.refl _) (.bl _)⟩
theorem op_neDD (hu : X.A.units + 64 < cLine) : OpR X (compareOp .NotEq) (rV2 neD) := by
  intro pins s σ H x y v u Q I rx ry ⟨w, dx, dy, d, eH, wk, qx, qy, hf, hq⟩
  subst eH
  unfold neD at hf
  by_cases c : SeqAt.shaped dx = true ∧ SeqAt.shaped dy = true
  · rw [if_pos c] at hf; cases hf
    exact op_neD hu pins s σ _ _ _ v u Q I rx ry ⟨dx, dy, qx.dp (SeqAt.canLay_of_shaped c.1), qy.dp (SeqAt.canLay_of_shaped c.2), c.1, c.2, hq _ _ (Same.refl _) (.bl _)⟩
  · rw [if_neg c] at hf
    obtain ⟨k, h1, rfl⟩ := Option.map_eq_some_iff.mp hf
    obtain ⟨i, j, rfl, rfl, rfl⟩ := eqS_get h1
    cases qx; cases qy
    exact op_ne pins s σ _ _ _ v u Q I rx ry ⟨rfl, by rw [show decide (V.str i = V.str j) = decide (i = j) by simp]; exact hq _ _ (Same.refl _) (.bl _)⟩
theorem eq_strs (x y : Str) : eqD (.str x) (.str y) = some (.bool (decide (x = y))) := by
  unfold eqD
  by_cases c : SeqAt.shaped (.str x) = true ∧ SeqAt.shaped (.str y) = true
  · rw [if_pos c]
    congr 2
  · rw [if_neg c]; rfl
theorem ne_strs (x y : Str) : neD (.str x) (.str y) = some (.bool (!decide (x = y))) := by
  unfold neD
  by_cases c : SeqAt.shaped (.str x) = true ∧ SeqAt.shaped (.str y) = true
  · rw [if_pos c]
    congr 3
  · rw [if_neg c]; rfl
/-- the ints of a tuple of ints -/
def intsOf : List D → Option (List Int)
  | [] => some []
  | .int i :: r => (intsOf r).map (i :: ·)
  | _ :: _ => none
theorem intsOf_rp {w : Wd} : ∀ {ds : List D} {vs : List V} {ns : List Int}, intsOf ds = some ns → RpL w vs ds → vs = ns.map V.int
  | [], _, _, e, r => by cases e; cases r; rfl
  | d :: ds, _, ns, e, r => by
    cases d with
    | int i =>
      simp only [intsOf, Option.map_eq_some_iff] at e
      obtain ⟨ms, e1, rfl⟩ := e
      cases r with
      | cons a b =>
        cases a
        rw [intsOf_rp e1 b]
        rfl
    | _ => cases e
def ltD : D → D → Option D
  | .int i, .int j => some (.bool (decide (i < j)))
  | .str i, .str j => some (.bool (decide (i.cps.toList < j.cps.toList)))
  | .tuple a, .tuple b => match intsOf a, intsOf b with
    | some ns, some ms => some (.bool (HT.lexLt ns ms))
    | _, _ => none
  | _, _ => none
def cmpI (p : Int → Int → Bool) : D → D → Option D
  | .int i, .int j => some (.bool (p i j))
  | _, _ => none
def leD : D → D → Option D := cmpI fun i j => decide (i ≤ j)
def gtD : D → D → Option D := cmpI fun i j => decide (j < i)
def geD : D → D → Option D := cmpI fun i j => decide (j ≤ i)
theorem op_cmpI {op : CmpOp} {p : Int → Int → Bool} (ho : OpR X (compareOp op) (rI0 fun i j => .bl (p i j))) : OpR X (compareOp op) (rV2 (cmpI p)) := by
  intro pins s σ H x y v u Q I rx ry ⟨w, dx, dy, d, eH, wk, qx, qy, hf, hq⟩
  subst eH
  cases dx with
  | int i =>
    cases dy with
    | int j =>
      cases qx; cases qy; cases hf
      exact ho pins s σ _ _ _ v u Q I rx ry ⟨i, j, rfl, rfl, hq _ _ (Same.refl _) (.bl _)⟩
    | _ => cases hf
  | _ => cases dy <;> cases hf
theorem op_leD : OpR X (compareOp .LtE) (rV2 leD) := op_cmpI op_le
theorem op_gtD : OpR X (compareOp .Gt) (rV2 gtD) := op_cmpI op_gt
theorem op_geD : OpR X (compareOp .GtE) (rV2 geD) := op_cmpI op_ge
theorem op_ltD (hu : X.A.units < cLine) : OpR X (compareOp .Lt) (rV2 ltD) := by
  intro pins s σ H x y v u Q I rx ry ⟨w, dx, dy, d, eH, wk, qx, qy, hf, hq⟩
  subst eH
  cases dx with
  | int i =>
    cases dy with
    | int j =>
      cases qx; cases qy; cases hf
      exact op_lt pins s σ _ _ _ v u Q I rx ry ⟨i, j, rfl, rfl, hq _ _ (Same.refl _) (.bl _)⟩
    | _ => cases hf
  | str i =>
    cases dy with
    | str j =>
      cases qx; cases qy; cases hf
      exact op_lt_str pins s σ _ _ _ v u Q I rx ry ⟨i, j, rfl, rfl, hq _ _ (Same.refl _) (.bl _)⟩
    | _ => cases hf
  | tuple a =>
    cases dy with
    | tuple b =>
      cases ha : intsOf a with
      | none => simp only [ltD, ha] at hf; cases hf
      | some ns =>
        cases hb : intsOf b with
        | none => simp only [ltD, ha, hb] at hf; cases hf
        | some ms =>
          simp only [ltD, ha, hb] at hf
          cases hf
          cases qx with
          | tup n1 h1 r1 =>
            cases qy with
            | tup n2 h2 r2 =>
              have e1 := intsOf_rp ha r1
              have e2 := intsOf_rp hb r2
              subst e1 e2
              exact op_ltT hu pins s σ _ _ _ v u Q I rx ry ⟨_, _, ns, ms, rfl, rfl, h1.sq, h2.sq, hq _ _ (Same.refl _) (.bl _)⟩
    | _ => cases hf
  | _ => cases dy <;> cases hf
/-- is, is not: None on the right, or two truth values -/
def isNone : D → Bool
  | .none => true
  | _ => false
def isD : D → D → Option D
  | .bool a, .bool b => some (.bool (a == b))
  | d, .none => some (.bool (isNone d))
  | _, _ => none
def isNotD : D → D → Option D
  | .bool a, .bool b => some (.bool (!(a == b)))
  | d, .none => some (.bool (!isNone d))
  | _, _ => none
theorem Rq.isN {w : Wd} {v : V} {d : D} (h : Rq w v d) : decide (v = .non) = isNone d := by
  cases h <;> rfl
theorem op_isD : OpR X (compareOp .Is) (rV2 isD) := by
  intro pins s σ H x y v u Q I rx ry ⟨w, dx, dy, d, eH, wk, qx, qy, hf, hq⟩
  subst eH
  cases dy with
  | none =>
    cases qy
    have e : d = .bool (isNone dx) := by cases dx <;> (cases hf; rfl)
    subst e
    refine op_isN pins s σ _ _ _ v u Q I rx ry ⟨rfl, ?_⟩
    rw [qx.isN]
    exact hq _ _ (Same.refl _) (.bl _)
  | bool b =>
    cases dx with
    | bool a =>
      cases qx; cases qy; cases hf
      refine op_is_bl pins s σ _ _ _ v u Q I rx ry ⟨a, b, rfl, rfl, ?_⟩
      have := hq (.bl (a == b)) _ (Same.refl _) (.bl _)
      rwa [← Bool.beq_eq_decide_eq]
    | _ => cases hf
  | _ => cases dx <;> cases hf
theorem op_isNotD : OpR X (compareOp .IsNot) (rV2 isNotD) := by
  intro pins s σ H x y v u Q I rx ry ⟨w, dx, dy, d, eH, wk, qx, qy, hf, hq⟩
  subst eH
  cases dy with
  | none =>
    cases qy
    have e : d = .bool (!isNone dx) := by cases dx <;> (cases hf; rfl)
    subst e
    refine op_notN pins s σ _ _ _ v u Q I rx ry ⟨rfl, ?_⟩
    rw [qx.isN]
    exact hq _ _ (Same.refl _) (.bl _)
  | bool b =>
    cases dx with
    | bool a =>
      cases qx; cases qy; cases hf
      refine op_isnot_bl pins s σ _ _ _ v u Q I rx ry ⟨a, b, rfl, rfl, ?_⟩
      have := hq (.bl (!(a == b))) _ (Same.refl _) (.bl _)
      rwa [← Bool.beq_eq_decide_eq]
    | _ => cases hf
  | _ => cases dx <;> cases hf
end
end DL
/-! ### dicts whose keys are nested tuples of whole numbers: the machine's side -/
namespace DL
open PySem PySem.Spec PyProof.Rows L2
theorem nk_none : nkOf .none = some .none := by simp [nkOf]
theorem nk_int (i : Int) : nkOf (.int i) = some (.num i) := by simp [nkOf]
theorem nk_tup (ds : List D) : nkOf (.tuple ds) = (nksOf ds).map .tup := by simp [nkOf]
mutual
theorem hashN_eq (w : World) : ∀ (d : D) (k : NestedKey), nkOf d = some k → k.hash w = hashN k
  | .none, _, h => by rw [nkOf] at h; cases h; rfl
  | .int i, _, h => by rw [nkOf] at h; cases h; rfl
  | .tuple ds, _, h => by
    rw [nkOf] at h
    obtain ⟨ks, h1, rfl⟩ := Option.map_eq_some_iff.mp h
    rw [NestedKey.hash, hashN, hashNs_eq w ds ks h1]
  | .bool _, _, h => by simp [nkOf] at h
  | .str _, _, h => by simp [nkOf] at h
  | .list _, _, h => by simp [nkOf] at h
  | .dict _, _, h => by simp [nkOf] at h
theorem hashNs_eq (w : World) : ∀ (ds : List D) (ks : List NestedKey), nksOf ds = some ks → NestedKey.hashes w ks = hashNs ks
  | [], _, h => by rw [nksOf] at h; cases h; rfl
  | d :: r, _, h => by
    rw [nksOf, Option.bind_eq_some_iff] at h
    obtain ⟨k, h1, h2⟩ := h
    obtain ⟨ks, h3, rfl⟩ := Option.map_eq_some_iff.mp h2
    rw [NestedKey.hashes, hashNs, hashN_eq w d k h1, hashNs_eq w r ks h3]
end
mutual
theorem nk_eqv : ∀ (d e : D) (k q : NestedKey), nkOf d = some k → nkOf e = some q → d.eqv e = NestedKey.beq k q
  | .none, .none, _, _, h, g => by rw [nk_none] at h g; cases h; cases g; rfl
  | .none, .int j, _, _, h, g => by rw [nk_none] at h; rw [nk_int] at g; cases h; cases g; rfl
  | .none, .tuple es, _, _, h, g => by
    rw [nk_none] at h; rw [nk_tup] at g; cases h
    obtain ⟨ks, _, rfl⟩ := Option.map_eq_some_iff.mp g; rfl
  | .int i, .none, _, _, h, g => by rw [nk_int] at h; rw [nk_none] at g; cases h; cases g; rfl
  | .int i, .int j, _, _, h, g => by
    rw [nk_int] at h g; cases h; cases g
    simp only [PyData.eqv, NestedKey.beq]
    rw [Bool.eq_iff_iff]; simp
  | .int i, .tuple es, _, _, h, g => by
    rw [nk_int] at h; rw [nk_tup] at g; cases h
    obtain ⟨ks, _, rfl⟩ := Option.map_eq_some_iff.mp g; rfl
  | .tuple ds, .none, _, _, h, g => by
    rw [nk_tup] at h; rw [nk_none] at g; cases g
    obtain ⟨ks, _, rfl⟩ := Option.map_eq_some_iff.mp h; rfl
  | .tuple ds, .int j, _, _, h, g => by
    rw [nk_tup] at h; rw [nk_int] at g; cases g
    obtain ⟨ks, _, rfl⟩ := Option.map_eq_some_iff.mp h; rfl
  | .tuple ds, .tuple es, _, _, h, g => by
    rw [nk_tup] at h g
    obtain ⟨ks, h1, rfl⟩ := Option.map_eq_some_iff.mp h
    obtain ⟨qs, g1, rfl⟩ := Option.map_eq_some_iff.mp g
    rw [PyData.eqv, NestedKey.beq, nks_eqv ds es ks qs h1 g1]
  | .bool _, _, _, _, h, _ => by simp [nkOf] at h
  | .str _, _, _, _, h, _ => by simp [nkOf] at h
  | .list _, _, _, _, h, _ => by simp [nkOf] at h
  | .dict _, _, _, _, h, _ => by simp [nkOf] at h
  | _, .bool _, _, _, _, h => by simp [nkOf] at h
  | _, .str _, _, _, _, h => by simp [nkOf] at h
  | _, .list _, _, _, _, h => by simp [nkOf] at h
  | _, .dict _, _, _, _, h => by simp [nkOf] at h
theorem nks_eqv : ∀ (ds es : List D) (ks qs : List NestedKey), nksOf ds = some ks → nksOf es = some qs → PyData.eqvAll ds es = NestedKey.beqAll ks qs
  | [], [], _, _, h, g => by rw [nksOf] at h g; cases h; cases g; rfl
  | [], e :: es, _, _, h, g => by
    rw [nksOf] at h; cases h
    rw [nksOf, Option.bind_eq_some_iff] at g
    obtain ⟨k, _, g2⟩ := g
    obtain ⟨ks, _, rfl⟩ := Option.map_eq_some_iff.mp g2; rfl
  | d :: ds, [], _, _, h, g => by
    rw [nksOf] at g; cases g
    rw [nksOf, Option.bind_eq_some_iff] at h
    obtain ⟨k, _, g2⟩ := h
    obtain ⟨ks, _, rfl⟩ := Option.map_eq_some_iff.mp g2; rfl
  | d :: ds, e :: es, _, _, h, g => by
    rw [nksOf, Option.bind_eq_some_iff] at h g
    obtain ⟨k, h1, h2⟩ := h
    obtain ⟨ks, h3, rfl⟩ := Option.map_eq_some_iff.mp h2
    obtain ⟨q, g1, g2⟩ := g
    obtain ⟨qs, g3, rfl⟩ := Option.map_eq_some_iff.mp g2
    rw [PyData.eqvAll, NestedKey.beqAll, nk_eqv d e k q h1 g1, nks_eqv ds es ks qs h3 g3]
end
/-- frozen data in the machine's heap are the key -/
theorem nk_is {P : Program} {w : World} {wd : Wd} {h : Heap} (ok : HOk P w wd.H h) : ∀ {v : V} {d : D}, Rp wd v d → ∀ (k : NestedKey) (u : Value), nkOf d = some k → RelV v u → NestedIs h k u := fun {v d} r =>
  Rp.rec (motive_1 := fun v d _ => ∀ (k : NestedKey) (u : Value), nkOf d = some k → RelV v u → NestedIs h k u)
    (motive_2 := fun vs ds _ => ∀ (ks : List NestedKey) (us : List Value), nksOf ds = some ks → Vals vs us → NestedAll h ks us)
    (fun k u e ru => by rw [nkOf] at e; cases e; obtain rfl : u = Value.none := ru; exact .none)
    (fun b k u e _ => by simp [nkOf] at e)
    (fun i k u e ru => by rw [nkOf] at e; cases e; obtain ⟨t, rfl⟩ : ∃ t, u = Value.int i t := ru; exact .int i t)
    (fun x k u e _ => by simp [nkOf] at e)
    (fun _ _ _ _ k u e _ => by simp [nkOf] at e)
    (fun {a xs ds} nm hx rl ih k u e ru => by
      rw [nkOf] at e
      obtain ⟨ks, e1, rfl⟩ := Option.map_eq_some_iff.mp e
      obtain rfl : u = Value.ref a := ru
      obtain ⟨_, its, rv, o, h1, h2, n, h3⟩ := (show ObjOk P w wd.H h a (.tup xs) from hx.rd.ok ok)
      exact .tup h1 h2 h3 (by simpa using ih ks its e1 rv))
    (fun _ _ _ _ _ k u e _ => by simp [nkOf] at e)
    (fun _ _ _ _ _ _ k u e _ => by simp [nkOf] at e)
    (fun _ _ _ _ _ k u e _ => by simp [nkOf] at e)
    (fun ks us e ru => by
      rw [nksOf] at e; cases e
      cases ru
      exact .nil)
    (fun {v vs d ds} r rs i1 i2 ks us e ru => by
      rw [nksOf, Option.bind_eq_some_iff] at e
      obtain ⟨k, h1, h2⟩ := e
      obtain ⟨ks', h3, rfl⟩ := Option.map_eq_some_iff.mp h2
      cases ru with
      | cons a b => exact .cons (i1 _ _ h1 a) (i2 _ _ h3 b)) r
/-- entries and data -/
inductive NP (w : Wd) : List NE → List (D × D) → Prop
  | nil : NP w [] []
  | cons {k : NestedKey} {q : Addr} {u : Value} {v : V} {dk dv : D} {L : List NE} {es : List (D × D)} : nkOf dk = some k → k.depth ≤ 8 → Rp w (.ref q) dk → RelV v u → Rp w v dv → NP w L es → NP w ((k, q, u) :: L) ((dk, dv) :: es)
theorem NP.st {w w' : Wd} (e : St1 w w') {L : List NE} {es : List (D × D)} (h : NP w L es) : NP w' L es := by
  induction h with
  | nil => exact .nil
  | cons a b c d e2 _ ih => exact .cons a b (c.st e) d (e2.st e) ih
theorem NP.len {w : Wd} {L : List NE} {es : List (D × D)} (h : NP w L es) : L.length = es.length := by
  induction h with
  | nil => rfl
  | cons _ _ _ _ _ _ ih => rw [List.length_cons, List.length_cons, ih]
section
variable {P : Program} {w : World} {wd : Wd} {h : Heap}
theorem np_ent {L : List NE} {es : List (D × D)} (n : NP wd L es) : L.map nEnt = L.map (entryOfKey (nestedKind P w)) := by
  induction n with
  | nil => rfl
  | cons a _ _ _ _ _ ih =>
    rw [List.map_cons, List.map_cons, ih]
    congr 1
    show DictEntry.mk _ _ _ = DictEntry.mk _ _ _
    rw [show (nestedKind P w).hash _ = hashN _ from hashN_eq w _ _ a]
theorem np_is (ok : HOk P w wd.H h) {L : List NE} {es : List (D × D)} (n : NP wd L es) : ∀ x ∈ L, (nestedKind P w).is h x.1 x.2.1 := by
  induction n with
  | nil => intro x hx; cases hx
  | cons a b c _ _ _ ih =>
    intro x hx
    rcases List.mem_cons.mp hx with rfl | hx
    · exact ⟨nk_is ok c _ _ a rfl, b⟩
    · exact ih x hx
theorem nest_of (ok : HOk P w wd.H h) {a : Addr} {o : Obj} {L : List NE} {es : List (D × D)} (ha : wd.H a = some (.ext (nestΦ a o L))) (n : NP wd L es) : h.DictOfH (nestedKind P w) a L := by
  obtain ⟨⟨_, h1, es', ep, h2, h3, h4, h5⟩, _⟩ := (show ObjOk P w wd.H h a (.ext (nestΦ a o L)) from ok a _ ha)
  exact ⟨o, es', ep, h1, h2, h3, h4.trans (np_ent n), np_is ok n, h5⟩
theorem nest_sys (ok : HOk P w wd.H h) {a : Addr} {o : Obj} {L : List NE} (ha : wd.H a = some (.ext (nestΦ a o L))) : (a == sysModules) = false := (show ObjOk P w wd.H h a (.ext (nestΦ a o L)) from ok a _ ha).1.1
theorem nest_ok {H : Hp} {a : Addr} {o : Obj} {L : List NE} {h' : Heap} (hs : (a == sysModules) = false) (h1 : h'.get? a = some o) (d : ∃ es ep, o.ExactDict ∧ o.data = .dict es ep ∧ es.toList = L.map nEnt ∧ (L.map (·.1)).Nodup) : ObjOk P w H h' a (.ext (nestΦ a o L)) :=
  ⟨⟨hs, h1, d⟩, ⟨o, h1⟩, fun _ _ q k => ⟨hs, k _ q.2.1, d⟩⟩
end
theorem np_keys {w : Wd} {L : List NE} {es : List (D × D)} (n : NP w L es) : RpL w (L.map fun x => V.ref x.2.1) (es.map (·.1)) := by
  induction n with
  | nil => exact .nil
  | cons _ _ c _ _ _ ih => exact .cons c ih
theorem nest_size {L : List NE} {es : Array DictEntry} (he : es.toList = L.map nEnt) : es.size = L.length := by
  have := congrArg List.length he
  rw [Array.length_toList, List.length_map] at this
  exact this
theorem nest_get {L : List NE} {es : Array DictEntry} {i : Nat} {en : NE} (he : es.toList = L.map nEnt) (h : L[i]? = some en) : es[i]? = some (nEnt en) := by
  rw [← Array.getElem?_toList, he, List.getElem?_map, h]; rfl
theorem np_at {w : Wd} {L : List NE} {es : List (D × D)} (n : NP w L es) {i : Nat} {en : NE} (h : L[i]? = some en) : ∃ d, (es.map (·.1))[i]? = some d ∧ Rp w (.ref en.2.1) d := by
  induction n generalizing i with
  | nil => simp at h
  | cons a b c _ _ _ ih =>
    cases i with
    | zero => rw [List.getElem?_cons_zero] at h; cases h; exact ⟨_, rfl, c⟩
    | succ i => rw [List.getElem?_cons_succ] at h; exact ih h
theorem vals_at : ∀ {us : List V} {ws : List Value} {i : Nat} {u : Value}, Vals us ws → ws[i]? = some u → ∃ v, us[i]? = some v ∧ RelV v u
  | _, _, 0, _, .cons a _, h => by cases h; exact ⟨_, rfl, a⟩
  | _, _, i + 1, _, .cons _ b, h => by
    obtain ⟨v, h1, h2⟩ := vals_at (i := i) b (by simpa using h)
    exact ⟨v, by simpa using h1, h2⟩
  | _, _, _, _, .nil, h => by simp at h
theorem np_of {w : Wd} : ∀ {L : List NE} {us : List V} {es : List (D × D)}, L.map (fun x => some x.1) = es.map (fun e => nkOf e.1) → (∀ x ∈ L, x.1.depth ≤ 8) → Vals us (L.map fun x => x.2.2) → RpL w (L.map fun x => V.ref x.2.1) (es.map (·.1)) → RpL w us (es.map (·.2)) → NP w L es
  | [], _, [], _, _, _, _, _ => .nil
  | [], _, _ :: _, h, _, _, _, _ => by simp at h
  | _ :: _, _, [], h, _, _, _, _ => by simp at h
  | (k, q, u) :: L, us, (dk, dv) :: es, h, dp, vs, r1, r2 => by
    simp only [List.map_cons, List.cons.injEq] at h
    simp only [List.map_cons] at vs r1 r2
    cases us with
    | nil => cases vs
    | cons v us =>
      cases vs with
      | cons a b =>
        cases r1 with
        | cons c d =>
          cases r2 with
          | cons e f => exact .cons h.1.symm (dp _ (List.mem_cons_self ..)) c a e (np_of h.2 (fun x hx => dp x (List.mem_cons_of_mem _ hx)) b d f)
theorem Nst.np {w : Wd} {a : Addr} {L : List NE} {us : List V} {es : List (D × D)} (n : Nst w.H a L us es) (r1 : RpL w (L.map fun x => V.ref x.2.1) (es.map (·.1))) (r2 : RpL w us (es.map (·.2))) : NP w L es := np_of n.ks n.dp n.vs r1 r2
theorem np_back {w : Wd} {L : List NE} {es : List (D × D)} (n : NP w L es) : ∃ us, L.map (fun x => some x.1) = es.map (fun e => nkOf e.1) ∧ (∀ x ∈ L, x.1.depth ≤ 8) ∧ Vals us (L.map fun x => x.2.2) ∧ RpL w (L.map fun x => V.ref x.2.1) (es.map (·.1)) ∧ RpL w us (es.map (·.2)) := by
  induction n with
  | nil => exact ⟨[], rfl, fun _ z => (nomatch z), .nil, .nil, .nil⟩
  | @cons k q u v dk dv L es a b c d e _ ih =>
    obtain ⟨us, h1, h2, h3, h4, h5⟩ := ih
    exact ⟨v :: us, by rw [List.map_cons, List.map_cons, h1, a], fun x hx => (List.mem_cons.mp hx).elim (fun z => by rw [z]; exact b) (h2 x), .cons d h3, .cons c h4, .cons e h5⟩
theorem Ow.np {w : Wd} {a : Addr} {o : Obj} {L : List NE} {es : List (D × D)} (h : w.H a = some (.ext (nestΦ a o L))) (n : NP w L es) (ne : es ≠ []) (tt : ∀ p ∈ es, isT p.1 = true) : Ow w a (.dict es) := by
  obtain ⟨us, h1, h2, h3, h4, h5⟩ := np_back n
  exact .dN ⟨⟨o, h⟩, h1, h2, h3, ne, tt⟩ h4 h5
/-- a dict of nested keys that is to be read: entries -/
theorem Rq.np {w : Wd} {a : Addr} {es : List (D × D)} (h : Rq w (.ref a) (.dict es)) (p : D) (v : D) (r : List (D × D)) (e : es = (p, v) :: r) (t : isT p = true) : ∃ o L, w.H a = some (.ext (nestΦ a o L)) ∧ NP w L es := by
  subst e
  cases h with
  | dN n r1 r2 =>
    obtain ⟨o, q⟩ := n.at_
    exact ⟨o, _, q, n.np r1 r2⟩
  | op _ _ _ => cases t
  | @dK _ kvs _ h e r =>
    exfalso
    cases kvs with
    | nil => cases e
    | cons q s =>
      rw [List.map_cons, List.map_cons] at e
      have h1 := (List.cons.inj e).1
      simp only at h1
      rw [h1] at t
      obtain ⟨qk, qv⟩ := q
      cases qk <;> cases t
end DL
namespace DL
open PySem PySem.Spec PyProof.Rows L2

/-! ### dicts as lists of pairs of data -/
def dlook (es : List (D × D)) (k : D) : Option D := (es.find? fun p => p.1.eqv k).map (·.2)
def dput (es : List (D × D)) (k v : D) : List (D × D) := if (es.any fun p => p.1.eqv k) = true then es.map (fun p => if p.1.eqv k = true then (p.1, v) else p) else es ++ [(k, v)]
def tD (ks : List Key) : D := .tuple (ks.map kD)
theorem kD_eqv (a b : Key) : (kD a).eqv (kD b) = decide (a = b) := by
  cases a with
  | inl i =>
    cases b with
    | inl j =>
      show (i == j) = _
      by_cases h : i = j
      · subst h; simp
      · rw [decide_eq_false fun z => h (Sum.inl.inj z)]; exact beq_eq_false_iff_ne.mpr h
    | inr y => rw [decide_eq_false fun z => nomatch z]; simp [kD, PyData.eqv]
  | inr x =>
    cases b with
    | inl j => rw [decide_eq_false fun z => nomatch z]; simp [kD, PyData.eqv]
    | inr y =>
      simp only [kD, PyData.eqv]
      by_cases h : x = y
      · subst h; simp
      · rw [decide_eq_false fun z => h (Sum.inr.inj z)]; exact beq_eq_false_iff_ne.mpr h
theorem tD_eqvAll : ∀ a b : List Key, PyData.eqvAll (a.map kD) (b.map kD) = decide (a = b)
  | [], [] => by simp [PyData.eqvAll]
  | [], _ :: _ => by simp [PyData.eqvAll]
  | _ :: _, [] => by simp [PyData.eqvAll]
  | x :: a, y :: b => by
    simp only [List.map_cons, PyData.eqvAll, kD_eqv, tD_eqvAll a b]
    by_cases h1 : x = y <;> by_cases h2 : a = b <;> simp [h1, h2]
theorem tD_eqv (a b : List Key) : (tD a).eqv (tD b) = decide (a = b) := by simp only [tD, PyData.eqv, tD_eqvAll]
section
variable {κ : Type} [DecidableEq κ] {enc : κ → D} (he : ∀ a b, (enc a).eqv (enc b) = decide (a = b)) {w : Wd}
include he
theorem look_of : ∀ (kvs : List (κ × V)) (es : List (D × D)) (k : κ), es.map (·.1) = kvs.map (fun p => enc p.1) → RpL w (kvs.map (·.2)) (es.map (·.2)) →
    (∃ v d, valV kvs k = some v ∧ dlook es (enc k) = some d ∧ Rp w v d) ∨ (valV kvs k = none ∧ dlook es (enc k) = none)
  | [], es, k, e, _ => by
    cases es with
    | nil => exact .inr ⟨rfl, rfl⟩
    | cons p r => simp at e
  | (k', v) :: kvs, es, k, e, r => by
    cases es with
    | nil => simp at e
    | cons p es =>
      obtain ⟨pk, pd⟩ := p
      simp only [List.map_cons, List.cons.injEq] at e
      obtain ⟨e1, e2⟩ := e
      subst e1
      cases r with
      | cons r1 r2 =>
        by_cases h : k' = k
        · refine .inl ⟨v, pd, valV_pos h, ?_, r1⟩
          simp [dlook, List.find?_cons, he, h]
        · have q := look_of kvs es k e2 r2
          rw [valV_neg (p := (k', v)) h]
          have z : dlook ((enc k', pd) :: es) (enc k) = dlook es (enc k) := by simp [dlook, List.find?_cons, he, h]
          rw [z]
          exact q
theorem any_of : ∀ (kvs : List (κ × V)) (es : List (D × D)) (k : κ), es.map (·.1) = kvs.map (fun p => enc p.1) → (es.any fun p => p.1.eqv (enc k)) = kvs.any fun p => decide (p.1 = k)
  | [], es, k, e => by
    cases es with
    | nil => rfl
    | cons p r => simp at e
  | (k', v) :: kvs, es, k, e => by
    cases es with
    | nil => simp at e
    | cons p es =>
      obtain ⟨pk, pd⟩ := p
      simp only [List.map_cons, List.cons.injEq] at e
      obtain ⟨e1, e2⟩ := e
      subst e1
      simp only [List.any_cons, he, any_of kvs es k e2]
theorem put_keys (kvs : List (κ × V)) (es : List (D × D)) (k : κ) (v : V) (d : D) (e : es.map (·.1) = kvs.map (fun p => enc p.1)) : (dput es (enc k) d).map (·.1) = (putK kvs k v).map (fun p => enc p.1) := by
  unfold dput putK
  rw [any_of he kvs es k e]
  by_cases h : (kvs.any fun p => decide (p.1 = k)) = true
  · rw [if_pos h, if_pos h, List.map_map, List.map_map]
    have a : ((fun p : D × D => p.1) ∘ fun p => if p.1.eqv (enc k) = true then (p.1, d) else p) = fun p => p.1 := by funext p; simp only [Function.comp]; split <;> rfl
    have b : ((fun p : κ × V => enc p.1) ∘ fun p => if p.1 = k then (p.1, v) else p) = fun p => enc p.1 := by funext p; simp only [Function.comp]; split <;> rfl
    rw [a, b, e]
  · rw [if_neg h, if_neg h, List.map_append, List.map_append, e]
    rfl
theorem put_vals {v : V} {d : D} (r : Rp w v d) (kvs : List (κ × V)) (es : List (D × D)) (k : κ) (e : es.map (·.1) = kvs.map (fun p => enc p.1)) (q : RpL w (kvs.map (·.2)) (es.map (·.2))) : RpL w ((putK kvs k v).map (·.2)) ((dput es (enc k) d).map (·.2)) := by
  unfold dput putK
  rw [any_of he kvs es k e]
  by_cases h : (kvs.any fun p => decide (p.1 = k)) = true
  · rw [if_pos h, if_pos h]
    clear h
    induction kvs generalizing es with
    | nil =>
      cases es with
      | nil => exact .nil
      | cons p r => simp at e
    | cons p kvs ih =>
      cases es with
      | nil => simp at e
      | cons p' es =>
        obtain ⟨k', v'⟩ := p
        obtain ⟨pk, pd⟩ := p'
        simp only [List.map_cons, List.cons.injEq] at e
        obtain ⟨e1, e2⟩ := e
        subst e1
        cases q with
        | cons q1 q2 =>
          have t := ih es e2 q2
          simp only [List.map_cons, he]
          by_cases z : k' = k
          · simp only [z, decide_true, if_true]
            exact .cons r t
          · simp only [z, decide_false, if_false]
            exact .cons q1 t
  · rw [if_neg h, if_neg h, List.map_append, List.map_append]
    exact q.append (.cons r .nil)
end
theorem np_any {wd : Wd} {L : List NE} {es : List (D × D)} (n : NP wd L es) {dk : D} {k : NestedKey} (h1 : nkOf dk = some k) : (atKey L k).isSome = es.any fun p => p.1.eqv dk := by
  induction n with
  | nil => rfl
  | @cons k0 q0 u0 v0 d0 e0 L es a _ _ _ _ _ ih =>
    rw [List.any_cons, ← ih, nk_eqv _ _ _ _ a h1, ← NestedKey.decide_eq]
    unfold atKey
    by_cases z : k0 = k
    · simp [z]
    · simp [z]
section
variable {wd : Wd}
/-- a key put -/
theorem np_put {L : List NE} {es : List (D × D)} (n : NP wd L es) {dk dv : D} {k : NestedKey} {q : Addr} {u : Value} {v : V} (h1 : nkOf dk = some k) (h2 : k.depth ≤ 8) (h3 : Rp wd (.ref q) dk) (h4 : RelV v u) (h5 : Rp wd v dv) : NP wd (storedH L k q u) (dput es dk dv) := by
  have any : (atKey L k).isSome = es.any fun p => p.1.eqv dk := by
    induction n with
    | nil => rfl
    | @cons k0 q0 u0 v0 d0 e0 L es a _ _ _ _ _ ih =>
      rw [List.any_cons, ← ih, nk_eqv _ _ _ _ a h1, ← NestedKey.decide_eq]
      unfold atKey
      by_cases z : k0 = k
      · simp [z]
      · simp [z]
  unfold storedH dput
  rw [any]
  by_cases c : (es.any fun p => p.1.eqv dk) = true
  · rw [if_pos c, if_pos c]
    clear any c
    induction n with
    | nil => exact .nil
    | @cons k0 q0 u0 v0 d0 e0 L es a b r1 r2 r3 _ ih =>
      rw [List.map_cons, List.map_cons]
      have e := nk_eqv _ _ _ _ a h1
      rw [← NestedKey.decide_eq] at e
      by_cases z : k0 = k
      · rw [show putAt k u (k0, q0, u0) = (k0, q0, u) from if_pos z]
        simp only
        rw [e, decide_eq_true z, if_pos rfl]
        exact .cons a b r1 h4 h5 ih
      · rw [show putAt k u (k0, q0, u0) = (k0, q0, u0) from if_neg z]
        simp only
        rw [e, decide_eq_false z, if_neg Bool.false_ne_true]
        exact .cons a b r1 r2 r3 ih
  · rw [if_neg c, if_neg c]
    clear any c
    induction n with
    | nil => exact .cons h1 h2 h3 h4 h5 .nil
    | cons a b r1 r2 r3 _ ih => exact .cons a b r1 r2 r3 ih
end
theorem dput_ne (es : List (D × D)) (k v : D) : dput es k v ≠ [] := by
  unfold dput
  by_cases c : (es.any fun p => p.1.eqv k) = true
  · rw [if_pos c]
    intro z
    rw [List.map_eq_nil_iff] at z
    subst z; cases c
  · rw [if_neg c]; simp
theorem dput_tt (es : List (D × D)) {k : D} (v : D) (hk : isT k = true) (h : ∀ p ∈ es, isT p.1 = true) : ∀ p ∈ dput es k v, isT p.1 = true := by
  unfold dput
  by_cases c : (es.any fun p => p.1.eqv k) = true
  · rw [if_pos c]
    intro p hp
    obtain ⟨q, h1, rfl⟩ := List.mem_map.mp hp
    split <;> exact h q h1
  · rw [if_neg c]
    intro p hp
    rcases List.mem_append.mp hp with g | g
    · exact h p g
    · rw [List.mem_singleton.mp g]; exact hk
/-- the key of a dict: an int or a text; a tuple of such -/
def keyD? : D → Option Key
  | .int i => some (.inl i)
  | .str x => some (.inr x)
  | _ => none
def keysD? : List D → Option (List Key)
  | [] => some []
  | d :: r => (keyD? d).bind fun k => (keysD? r).map (k :: ·)
theorem keyD?_eq {d : D} {k : Key} (h : keyD? d = some k) : d = kD k := by
  cases d <;> first | (cases h; rfl) | cases h
theorem keysD?_eq : ∀ {ds : List D} {ks : List Key}, keysD? ds = some ks → ds = ks.map kD
  | [], _, h => by cases h; rfl
  | d :: r, ks, h => by
    simp only [keysD?, Option.bind_eq_some_iff, Option.map_eq_some_iff] at h
    obtain ⟨k, h1, ks', h2, rfl⟩ := h
    rw [keyD?_eq h1, keysD?_eq h2]
    rfl
theorem Rq.key {w : Wd} {v : V} {k : Key} (h : Rq w v (kD k)) : v = kV k := by
  cases k with
  | inl i => cases h; rfl
  | inr x => cases h; rfl
theorem Rp.key {w : Wd} {v : V} {k : Key} (h : Rp w v (kD k)) : v = kV k := by
  cases k with
  | inl i => cases h; rfl
  | inr x => cases h; rfl
theorem RpL.keys {w : Wd} : ∀ {ks : List Key} {vs : List V}, RpL w vs (ks.map kD) → vs = ks.map kV
  | [], _, h => by cases h; rfl
  | k :: ks, _, h => by
    cases h with
    | cons a b => rw [a.key, RpL.keys b]; rfl
/-! the empty dict takes keys of both kinds -/
section
variable {X : Cx} {pins : List (Addr × Obj)} {σ : L2.St} {H : Hp} {s : Shared} {a b : Addr} {A : Around} {E : Value → Shared → Prop}
theorem dK0 (I : Inv X pins σ H s) (e : Rd H a (.dK [])) : (a == sysModules) = false ∧ s.heap.DictOfH (tupleKind (mixKind X.prog X.w)) a [] := by
  obtain ⟨_, hd, vs, rel, o, es, ep, h1, h2, h3, h4, h5, h6⟩ := dk_rd I.hok e
  cases rel
  have z : es.toList = [] := by
    generalize es.toList = l at h5
    cases h5; rfl
  exact ⟨hd, o, es, ep, h1, h2, h3, z, fun x hx => (List.not_mem_nil hx).elim, List.nodup_nil⟩
theorem nest0 (I : Inv X pins σ H s) (e : Rd H a (.dK [])) : (a == sysModules) = false ∧ s.heap.DictOfH (nestedKind X.prog X.w) a ([] : List NE) := by
  obtain ⟨hs0, o, es, ep, g1, g2, g3, g4, _, _⟩ := dK0 I e
  exact ⟨hs0, o, es, ep, g1, g2, g3, g4, fun x z => (nomatch z), List.nodup_nil⟩
/-- a value that is a key -/
def NKey (H : Hp) (y : V) (nk : NestedKey) : Prop := ∃ (wd : Wd) (b : Addr) (dk : D), wd.H = H ∧ y = .ref b ∧ Rp wd y dk ∧ nkOf dk = some nk ∧ nk.depth ≤ 8
theorem NKey.is {y : V} {nk : NestedKey} {u : Value} (h : NKey H y nk) (I : Inv X pins σ H s) (ry : RelV y u) : ∃ b, u = .ref b ∧ (nestedKind X.prog X.w).is s.heap nk b := by
  obtain ⟨wd, b, dk, rfl, rfl, r, k, d⟩ := h
  obtain rfl : u = Value.ref b := ry
  exact ⟨b, rfl, nk_is I.hok r _ _ k rfl, d⟩
/-- what the dict at a has at the key y, the empty one of any kind -/
def DG (H : Hp) (a : Addr) (y : V) (r : Option V) : Prop :=
  DGet H a y r ∨ (∃ nk, Rd H a (.dK []) ∧ NKey H y nk ∧ r = none) ∨ ∃ (wd : Wd) (o : Obj) (L : List NE) (es : List (D × D)) (nk : NestedKey), wd.H = H ∧ H a = some (.ext (nestΦ a o L)) ∧ NP wd L es ∧ NKey H y nk ∧ match r with
    | some v => ∃ p, atKey L nk = some p ∧ RelV v p.2
    | none => atKey L nk = none
theorem g_in {y : V} {u : Value} {o : Option V} {Q : Value → Shared → Prop} (hu : A.units + 9 < cLine) (I : Inv X pins σ H s) (g : DG H a y o) (ry : RelV y u) (h : ∀ s', Inv X pins σ H s' → Q (.bool o.isSome) s') :
    wpAny (model X.prog X.w) A (compareOp .In u (.ref a)) Q E s := by
  rcases g with g | ⟨nk, e, k, rfl⟩ | ⟨wd, ob, L, es, nk, rfl, e, np, k, g⟩
  · exact d_in (by omega) I g ry h
  · obtain ⟨b, rfl, k⟩ := k.is I ry
    obtain ⟨hd, dd⟩ := nest0 I e
    exact wpAny_in_heap (show A.units + 1 + 8 < cLine by omega) k hd dd (h _ (I.tok _))
  · obtain ⟨b, rfl, k⟩ := k.is I ry
    refine wpAny_in_heap (show A.units + 1 + 8 < cLine by omega) k (nest_sys I.hok e) (nest_of I.hok e np) ?_
    have z : (atKey L nk).isSome = o.isSome := by
      cases o with
      | some v => obtain ⟨p, g, _⟩ := g; rw [g]; rfl
      | none => rw [show atKey L nk = none from g]; rfl
    rw [z]; exact h _ (I.tok _)
theorem g_notIn {y : V} {u : Value} {o : Option V} {Q : Value → Shared → Prop} (hu : A.units + 9 < cLine) (I : Inv X pins σ H s) (g : DG H a y o) (ry : RelV y u) (h : ∀ s', Inv X pins σ H s' → Q (.bool (!o.isSome)) s') :
    wpAny (model X.prog X.w) A (compareOp .NotIn u (.ref a)) Q E s := by
  rcases g with g | ⟨nk, e, k, rfl⟩ | ⟨wd, ob, L, es, nk, rfl, e, np, k, g⟩
  · exact d_notIn (by omega) I g ry h
  · obtain ⟨b, rfl, k⟩ := k.is I ry
    obtain ⟨hd, dd⟩ := nest0 I e
    exact wpAny_notIn_heap (show A.units + 1 + 8 < cLine by omega) k hd dd (h _ (I.tok _))
  · obtain ⟨b, rfl, k⟩ := k.is I ry
    refine wpAny_notIn_heap (show A.units + 1 + 8 < cLine by omega) k (nest_sys I.hok e) (nest_of I.hok e np) ?_
    have z : (atKey L nk).isSome = o.isSome := by
      cases o with
      | some v => obtain ⟨p, g, _⟩ := g; rw [g]; rfl
      | none => rw [show atKey L nk = none from g]; rfl
    rw [z]; exact h _ (I.tok _)
theorem g_get2 {y d : V} {u r : Value} {o : Option V} {Q : Value → Shared → Prop} (hu : A.units + 9 < cLine) (I : Inv X pins σ H s) (g : DG H a y o) (ry : RelV y u) (rd : RelV d r) (h : ∀ w' s', Inv X pins σ H s' → RelV (o.getD d) w' → Q w' s') :
    wpAny (model X.prog X.w) A (call (.builtin "dict.get") [.ref a, u, r]) Q E s := by
  rcases g with g | ⟨nk, e, k, rfl⟩ | ⟨wd, ob, L, es, nk, rfl, e, np, k, g⟩
  · exact d_get2 (by omega) I g ry rd h
  · obtain ⟨b, rfl, k⟩ := k.is I ry
    obtain ⟨hd, dd⟩ := nest0 I e
    exact call_meetsIn PySem.F.slot_dict_get dd.typeIs PySem.F.entry_dict_get (PySem.F.args_dict_get_3 _ _ _) (meetsH_dict_get_default (nestedKind X.prog X.w) a b hd r) ⟨(show A.units + 1 + 8 < cLine by omega), nk, [], k, dd, h _ _ (I.tok _) rd⟩
  · obtain ⟨b, rfl, k⟩ := k.is I ry
    have dd := nest_of I.hok e np
    refine call_meetsIn PySem.F.slot_dict_get dd.typeIs PySem.F.entry_dict_get (PySem.F.args_dict_get_3 _ _ _) (meetsH_dict_get_default (nestedKind X.prog X.w) a b (nest_sys I.hok e) r) ⟨(show A.units + 1 + 8 < cLine by omega), nk, L, k, dd, h _ _ (I.tok _) ?_⟩
    cases o with
    | some v => obtain ⟨p, g, q⟩ := g; rw [g]; exact q
    | none => rw [show atKey L nk = none from g]; exact rd
theorem g_item {y v : V} {u : Value} {Q : Value → Shared → Prop} (hu : A.units + 9 < cLine) (I : Inv X pins σ H s) (g : DG H a y (some v)) (ry : RelV y u) (h : ∀ w' s', Inv X pins σ H s' → RelV v w' → Q w' s') :
    s.TypeIs (.ref a) "dict" ∧ wpAny (model X.prog X.w) A (getItem (.ref a) u) Q E s := by
  rcases g with g | ⟨nk, e, k, g⟩ | ⟨wd, ob, L, es, nk, rfl, e, np, k, p, g, q⟩
  · exact ⟨dict_typeIs I g, d_getItem (by omega) I g ry h⟩
  · cases g
  · obtain ⟨b, rfl, k⟩ := k.is I ry
    have dd := nest_of I.hok e np
    exact ⟨dd.typeIs, wpAny_getItem_heap (show A.units + 1 + 8 < cLine by omega) k dd g (h _ _ (I.tok _) q)⟩
end
/-- a look for the key k: some r if the key is of a kind that the dict's keys are of -/
def dfind (es : List (D × D)) (k : D) : Option (Option D) :=
  match k with
  | .tuple ds => if okN (.tuple ds) = true ∧ (es.all fun p => isT p.1) = true then some (dlook es k) else none
  | d => (keyD? d).bind fun _ => if (es.all fun p => !isT p.1) = true then some (dlook es k) else none
theorem np_look {wd : Wd} {L : List NE} {es : List (D × D)} (n : NP wd L es) {dk : D} {k : NestedKey} (h1 : nkOf dk = some k) : (∃ p v d, atKey L k = some p ∧ RelV v p.2 ∧ dlook es dk = some d ∧ Rp wd v d) ∨ (atKey L k = none ∧ dlook es dk = none) := by
  induction n with
  | nil => exact .inr ⟨rfl, rfl⟩
  | @cons k0 q0 u0 v0 d0 e0 L es a b c d e _ ih =>
    have z := nk_eqv _ _ _ _ a h1
    rw [← NestedKey.decide_eq] at z
    by_cases y : k0 = k
    · refine .inl ⟨(q0, u0), v0, e0, by simp [atKey, y], d, ?_, e⟩
      unfold dlook
      rw [List.find?_cons_of_pos (by simp only; rw [z]; exact decide_eq_true y)]; rfl
    · have e1 : atKey ((k0, q0, u0) :: L) k = atKey L k := by simp [atKey, y]
      have e2 : dlook ((d0, e0) :: es) dk = dlook es dk := by
        unfold dlook
        rw [List.find?_cons_of_neg (by simp only; rw [z]; simp [y])]
      rw [e1, e2]; exact ih
theorem dfind_dg {w : Wd} {a : Addr} {v : V} {es : List (D × D)} {k : D} {r : Option D} (h : Rq w (.ref a) (.dict es)) (hk : Rq w v k) (e : dfind es k = some r) :
    (∃ u d, DG w.H a v (some u) ∧ r = some d ∧ Rp w u d) ∨ (DG w.H a v none ∧ r = none) := by
  have notT : ∀ q : Key, isT (kD q) = false := fun q => by cases q <;> rfl
  have plain : ∀ q : Key, k = kD q → dfind es k = (if (es.all fun p => !isT p.1) = true then some (dlook es k) else none) := fun q z => by subst z; cases q <;> rfl
  cases hT : isT k with
  | true =>
    cases k with
    | tuple ds =>
      obtain ⟨⟨ok, c⟩, rfl⟩ := of_if (show (if okN (.tuple ds) = true ∧ (es.all fun p => isT p.1) = true then some (dlook es (.tuple ds)) else none) = some r from e)
      obtain ⟨nk, n1, n2⟩ := okN_some ok
      cases hk with
      | @tup b xs _ nb hb rb =>
        have key : NKey w.H (.ref b) nk := ⟨w, b, _, rfl, rfl, .tup nb hb rb, n1, n2⟩
        cases h with
        | @dK _ kvs _ hr hks hvs =>
          cases es with
          | nil =>
            cases kvs with
            | nil => exact .inr ⟨.inr (.inl ⟨nk, hr, key, rfl⟩), rfl⟩
            | cons p r => simp at hks
          | cons p es =>
            cases kvs with
            | nil => simp at hks
            | cons q kvs =>
              simp only [List.map_cons, List.cons.injEq] at hks
              simp only [List.all_cons, Bool.and_eq_true, hks.1, notT] at c
              cases c.1
        | dN n r1 r2 =>
          obtain ⟨o, ho⟩ := n.at_
          have np := n.np r1 r2
          rcases np_look np n1 with ⟨p, v, d, g1, g2, g3, g4⟩ | ⟨g1, g2⟩
          · exact .inl ⟨v, d, .inr (.inr ⟨w, o, _, _, nk, rfl, ho, np, key, p, g1, g2⟩), g3, g4⟩
          · exact .inr ⟨.inr (.inr ⟨w, o, _, _, nk, rfl, ho, np, key, g1⟩), g2⟩
        | op _ _ _ => cases c
    | _ => cases hT
  | false =>
    have hq : ∃ q, k = kD q := by
      cases k with
      | int i => exact ⟨.inl i, rfl⟩
      | str x => exact ⟨.inr x, rfl⟩
      | tuple ds => cases hT
      | none => cases e
      | bool _ => cases e
      | list _ => cases e
      | dict _ => cases e
    obtain ⟨q, rfl⟩ := hq
    rw [plain q rfl] at e
    obtain ⟨c, rfl⟩ := of_if e
    have ev := hk.key
    subst ev
    cases h with
    | @dK _ kvs _ hr hks hvs =>
      rcases look_of (enc := kD) kD_eqv kvs es q hks hvs with ⟨u, d, g1, g2, g3⟩ | ⟨g1, g2⟩
      · exact .inl ⟨u, d, .inl (.inl ⟨kvs, q, hr, rfl, g1.symm⟩), g2, g3⟩
      · exact .inr ⟨.inl (.inl ⟨kvs, q, hr, rfl, g1.symm⟩), g2⟩
    | op _ _ _ => cases c
    | dN n _ _ =>
      cases es with
      | nil => exact absurd rfl n.ne
      | cons p es =>
        simp only [List.all_cons, Bool.and_eq_true, n.tt p (List.mem_cons_self ..)] at c
        cases c.1

/-! ### in, not in -/
def inD : D → D → Option Bool
  | d, .list ds => if SeqAt.shaped d = true ∧ SeqAt.shaped (.list ds) = true then some (ds.any fun z => z.eqv d) else none
  | d, .tuple ds => if SeqAt.shaped d = true ∧ SeqAt.shaped (.tuple ds) = true then some (ds.any fun z => z.eqv d) else none
  | d, .dict es => (dfind es d).map Option.isSome
  | .str x, .str y => some (!(Builtin.Str.occurrences y x 0 y.length 1).isEmpty)
  | _, _ => none
def inV' (a b : D) : Option D := (inD a b).map fun k => .bool k
def notInV (a b : D) : Option D := (inD a b).map fun k => .bool (!k)
section
variable {X : Cx}
theorem op_inDD (hu : X.A.units + 65 < cLine) : OpR X (compareOp .In) (rV2 inV') := by
  intro pins s σ H x y v u Q I rx ry ⟨w, dx, dy, d, eH, wk, qx, qy, hf, hq⟩
  subst eH
  obtain ⟨k, hk, rfl⟩ := Option.map_eq_some_iff.mp hf
  have fin : Q (.bl k) w.H := hq _ _ (Same.refl _) (.bl _)
  cases dy with
  | list ds =>
    obtain ⟨c, rfl⟩ := of_if (show (if SeqAt.shaped dx = true ∧ SeqAt.shaped (.list ds) = true then some (ds.any fun z => z.eqv dx) else none) = some k by cases dx <;> exact hk)
    exact op_inD hu pins s σ _ _ _ v u Q I rx ry ⟨dx, ds, qx.dp (SeqAt.canLay_of_shaped c.1), qy.dp (SeqAt.canLay_of_shaped c.2), c.1, c.2, fin⟩
  | tuple ds =>
    obtain ⟨c, rfl⟩ := of_if (show (if SeqAt.shaped dx = true ∧ SeqAt.shaped (.tuple ds) = true then some (ds.any fun z => z.eqv dx) else none) = some k by cases dx <;> exact hk)
    obtain ⟨as, r1⟩ := Dp.reads I dx x v (qx.dp (SeqAt.canLay_of_shaped c.1)) rx
    obtain ⟨bs, r2⟩ := Dp.reads I (.tuple ds) y u (qy.dp (SeqAt.canLay_of_shaped c.2)) ry
    exact SeqAt.in_tuple_reads r2 r1 (SeqAt.canLay_of_shaped c.2) (SeqAt.canLay_of_shaped c.1) (room_in_shaped c.1 hu) ⟨.bl _, _, I, rfl, fin⟩
  | dict es =>
    obtain ⟨r, e1, rfl⟩ := Option.map_eq_some_iff.mp (show (dfind es dx).map Option.isSome = some k by cases dx <;> exact hk)
    obtain ⟨a, rfl⟩ : ∃ a, y = .ref a := by cases qy <;> exact ⟨_, rfl⟩
    cases (show u = Value.ref a from ry)
    rcases dfind_dg qy qx e1 with ⟨z, d', g, rfl, _⟩ | ⟨g, rfl⟩
    · exact g_in (by omega) I g rx fun s' I' => ⟨.bl true, _, I', rfl, fin⟩
    · exact g_in (by omega) I g rx fun s' I' => ⟨.bl false, _, I', rfl, fin⟩
  | str j =>
    cases dx with
    | str i =>
      cases qx; cases qy; cases hk
      exact op_in_str pins s σ _ _ _ v u Q I rx ry ⟨i, j, rfl, rfl, fin⟩
    | _ => cases hk
  | _ => cases dx <;> cases hk
theorem op_notInDD (hu : X.A.units + 65 < cLine) : OpR X (compareOp .NotIn) (rV2 notInV) := by
  intro pins s σ H x y v u Q I rx ry ⟨w, dx, dy, d, eH, wk, qx, qy, hf, hq⟩
  subst eH
  obtain ⟨k, hk, rfl⟩ := Option.map_eq_some_iff.mp hf
  have fin : Q (.bl (!k)) w.H := hq _ _ (Same.refl _) (.bl _)
  cases dy with
  | list ds =>
    obtain ⟨c, rfl⟩ := of_if (show (if SeqAt.shaped dx = true ∧ SeqAt.shaped (.list ds) = true then some (ds.any fun z => z.eqv dx) else none) = some k by cases dx <;> exact hk)
    exact op_notInD hu pins s σ _ _ _ v u Q I rx ry ⟨dx, ds, qx.dp (SeqAt.canLay_of_shaped c.1), qy.dp (SeqAt.canLay_of_shaped c.2), c.1, c.2, fin⟩
  | tuple ds =>
    obtain ⟨c, rfl⟩ := of_if (show (if SeqAt.shaped dx = true ∧ SeqAt.shaped (.tuple ds) = true then some (ds.any fun z => z.eqv dx) else none) = some k by cases dx <;> exact hk)
    obtain ⟨as, r1⟩ := Dp.reads I dx x v (qx.dp (SeqAt.canLay_of_shaped c.1)) rx
    obtain ⟨bs, r2⟩ := Dp.reads I (.tuple ds) y u (qy.dp (SeqAt.canLay_of_shaped c.2)) ry
    exact SeqAt.notIn_tuple_reads r2 r1 (SeqAt.canLay_of_shaped c.2) (SeqAt.canLay_of_shaped c.1) (room_in_shaped c.1 hu) ⟨.bl _, _, I, rfl, fin⟩
  | dict es =>
    obtain ⟨r, e1, rfl⟩ := Option.map_eq_some_iff.mp (show (dfind es dx).map Option.isSome = some k by cases dx <;> exact hk)
    obtain ⟨a, rfl⟩ : ∃ a, y = .ref a := by cases qy <;> exact ⟨_, rfl⟩
    cases (show u = Value.ref a from ry)
    rcases dfind_dg qy qx e1 with ⟨z, d', g, rfl, _⟩ | ⟨g, rfl⟩
    · exact g_notIn (by omega) I g rx fun s' I' => ⟨.bl false, _, I', rfl, fin⟩
    · exact g_notIn (by omega) I g rx fun s' I' => ⟨.bl true, _, I', rfl, fin⟩
  | str j =>
    cases dx with
    | str i =>
      cases qx; cases qy; cases hk
      exact op_notIn_str pins s σ _ _ _ v u Q I rx ry ⟨i, j, rfl, rfl, fin⟩
    | _ => cases hk
  | _ => cases dx <;> cases hk

/-! ### subscripts -/
def ixD : D → D → Option D
  | .list ds, .int i => atI ds i
  | .tuple ds, .int i => atI ds i
  | .str z, .int i => if z.length ≤ sizeLine then (atI z.cps.toList i).map fun c => .str ⟨#[c]⟩ else none
  | .dict es, k => (dfind es k).bind id
  | _, _ => none
def kE (f : D → D → Option D) (x y : Dv) (P : Dv → Prop) : Prop := ∃ d, (x.val.bind fun a => y.val.bind fun b => f a b) = some d ∧ P (.fz d)
def wIx (wa wb : WE) : WE := fun env P => wa env fun x => wb env fun y => kE ixD x y P
theorem kE.get {f : D → D → Option D} {x y : Dv} {P : Dv → Prop} (h : kE f x y P) : ∃ dx dy d, x.val = some dx ∧ y.val = some dy ∧ f dx dy = some d ∧ P (.fz d) := by
  obtain ⟨d, e, p⟩ := h
  cases hx : x.val with
  | none => rw [hx] at e; cases e
  | some dx =>
    cases hy : y.val with
    | none => rw [hx, hy] at e; cases e
    | some dy => rw [hx, hy] at e; exact ⟨dx, dy, d, rfl, rfl, e, p⟩
def rE2 (f : D → D → Option D) : R2 := fun x y H Q => ∃ w dx dy d, w.H = H ∧ Rq w x dx ∧ Rq w y dy ∧ f dx dy = some d ∧ ∀ v, Rp w v d → Q v H
theorem atI_rp {w : Wd} {vs : List V} {ds : List D} {i : Int} {d : D} (r : RpL w vs ds) (h : atI ds i = some d) : ∃ v, atI vs i = some v ∧ Rp w v d := by
  unfold atI at h ⊢
  rw [r.length]
  cases e : ixN ds.length i with
  | none => rw [e] at h; cases h
  | some j =>
    rw [e] at h
    obtain ⟨v, h1, h2⟩ := r.get (show ds[j]? = some d from h)
    exact ⟨v, h1, h2⟩
theorem ix_D (hu : X.A.units + 9 < cLine) : IxR X (rE2 ixD) := by
  intro value slice pins s σ H x y v u Q I rx ry ⟨w, dx, dy, d, eH, qx, qy, hf, hq⟩ hs
  subst eH
  cases dx with
  | list ds =>
    cases dy with
    | int i =>
      cases qy
      cases qx with
      | lst h1 r1 =>
        obtain ⟨z, g1, g2⟩ := atI_rp r1 hf
        exact ix_list value slice pins s σ _ _ _ v u Q I rx ry ⟨_, _, i, z, rfl, rfl, SqL.of h1, g1, hq _ g2⟩ hs
    | _ => cases hf
  | tuple ds =>
    cases dy with
    | int i =>
      cases qy
      cases qx with
      | tup n1 h1 r1 =>
        obtain ⟨z, g1, g2⟩ := atI_rp r1 hf
        exact ix_tup value slice pins s σ _ _ _ v u Q I rx ry ⟨_, _, i, z, rfl, rfl, h1.sq, g1, hq _ g2⟩ hs
    | _ => cases hf
  | str z =>
    cases dy with
    | int i =>
      cases qy; cases qx
      obtain ⟨c, hf⟩ : z.length ≤ sizeLine ∧ (atI z.cps.toList i).map (fun c => PyData.str ⟨#[c]⟩) = some d := by
        by_cases c : z.length ≤ sizeLine
        · simp only [ixD, if_pos c] at hf; exact ⟨c, hf⟩
        · simp only [ixD, if_neg c] at hf; cases hf
      obtain ⟨ch, e1, rfl⟩ := Option.map_eq_some_iff.mp hf
      exact ix_str value slice pins s σ _ _ _ v u Q I rx ry ⟨z, i, ch, rfl, rfl, c, e1, hq _ (.str _)⟩ hs
    | _ => cases hf
  | dict es =>
    obtain ⟨r, e1, e2⟩ := Option.bind_eq_some_iff.mp (show (dfind es dy).bind id = some d by cases dy <;> exact hf)
    cases (show r = some d from e2)
    obtain ⟨a, rfl⟩ : ∃ a, x = .ref a := by cases qx <;> exact ⟨_, rfl⟩
    cases (show v = Value.ref a from rx)
    rcases dfind_dg qx qy e1 with ⟨z, d', g, e3, rz⟩ | ⟨_, e3⟩
    · cases e3
      exact tail_any (g_item (A := X.A) (E := X.xe) hu I g ry (Q := fun _ _ => True) fun _ _ _ _ => trivial).1 PySem.F.slot_dict_getitem.lookup (g_item hu I g ry fun w' s' I' r' => ⟨z, _, I', r', hq _ rz⟩).2 hs
    · cases e3
  | _ => cases dy <;> cases hf
theorem de_ix {G : Gh} {a b : Expr} {wa wb : WE} {ca cb : Nat} {pos : Pos} (hu : X.A.units + 9 < cLine) (ha : DE X G a wa ca) (hb : DE X G b wb cb) (hs : PlainIx b := by intro _ _; rfl) : DE X G (.Subscript a b pos) (wIx wa wb) (ca + cb) :=
  PE_imp (pe_ix (ix_D hu) ha hb hs) fun σ H Q h => tV.two h fun env w x y dx dy P er rx ry k hf => by
    obtain ⟨ex, ey, d, h1, h2, h3, p⟩ := k.get
    exact ⟨w, ex, ey, d, rfl, rx.rq h1, ry.rq h2, h3, fun v r => hf.rp er p (Same.refl _) r⟩

/-! ### slices -/
def cutD (ds : List D) (lo hi : Option Int) : List D := (ds.drop (HT.sIx ds.length 0 lo)).take (HT.sIx ds.length ds.length hi - HT.sIx ds.length 0 lo)
theorem cut_rp {w : Wd} {vs : List V} {ds : List D} (r : RpL w vs ds) (lo hi : Option Int) : RpL w (cutV vs lo hi) (cutD ds lo hi) := by
  unfold cutV cutD
  rw [r.length]
  exact (r.drop _).take _
abbrev WO := Ev → (Option Int → Prop) → Prop
def tO (G : Gh) (f : WO) (c : Nat) : TO := fun σ H Q => ∃ (env : Ev) (M C : Addr → Prop) (b : Nat) (P : Option Int → Prop), b + c ≤ cap ∧ ER (G.at b) ⟨H, M, C⟩ env σ ∧ f env P ∧ ∀ o, P o → ∀ b' w', b' ≤ b + c → ER (G.at b') w' env σ → Ext ⟨H, M, C⟩ w' → Q o w'.H
def wNoPart : WO := fun _ P => P none
def wPart (wa : WE) : WO := fun env P => wa env fun x => ∃ i, x.val = some (.int i) ∧ P (some i)
theorem do_none {G : Gh} : PO X none (tO G wNoPart 0) := ⟨fun pins s σ H Q I h => po_none.run pins s σ H Q I (by
  obtain ⟨env, M, C, b, P, hb, er, p, hf⟩ := h
  exact hf _ p b _ (Nat.le_refl _) er (Ext.refl _))⟩
theorem do_some {G : Gh} {a : Expr} {wa : WE} {ca : Nat} (ha : DE X G a wa ca) : PO X (some a) (tO G (wPart wa) ca) := ⟨fun pins s σ H Q I h => (po_some ha).run pins s σ H Q I (by
  obtain ⟨env, M, C, b, P, hb, er, hw, hf⟩ := h
  refine ⟨env, M, C, b, _, hb, er, hw, fun dv ⟨i, e, p⟩ b1 w1 v hb1 er1 e1 r1 => ?_⟩
  have q := r1.rq e
  cases q
  exact ⟨i, rfl, hf _ p b1 w1 hb1 er1 e1⟩)⟩
def slD : D → Option Int → Option Int → Option D
  | .list ds, lo, hi => some (.list (cutD ds lo hi))
  | .tuple ds, lo, hi => some (.tuple (cutD ds lo hi))
  | _, _, _ => none
def wSl (wa : WE) (wl wh : WO) : WE := fun env P => wa env fun x => wl env fun lo => wh env fun hi => ∃ d, (x.val.bind fun a => slD a lo hi) = some d ∧ P (mkDv d)
def rSlD : V → Option Int → Option Int → Hp → VK → Prop := fun x lo hi H Q => ∃ w dx d, w.H = H ∧ Wk w ∧ Rq w x dx ∧ slD dx lo hi = some d ∧ ∀ v H', Same H H' → VN w H' v d → Q v H'
theorem sl_D : L2.SlR X rSlD := by
  intro pins s σ H x v vl vu lo hi sl Q I rx hs pl pu ⟨w, dx, d, eH, wk, qx, hf, hq⟩
  subst eH
  cases dx with
  | list ds =>
    cases hf
    cases qx with
    | lst h1 r1 => exact sl_list pins s σ _ _ v vl vu lo hi sl Q I rx hs pl pu ⟨_, _, rfl, SqL.of h1, fun p n => hq _ _ (same_new n) (newL n (cut_rp r1 lo hi))⟩
  | tuple ds =>
    cases hf
    cases qx with
    | tup n1 h1 r1 =>
      refine sl_cutN pins s σ _ _ v vl vu lo hi sl Q I rx hs pl pu ⟨_, _, rfl, h1.sq, fun e => ?_, fun e p o h n => hq _ _ (same_new n) (newT wk h n (cut_rp r1 lo hi))⟩
      have z : cutD ds lo hi = ds := by
        unfold cutD
        rw [r1.length] at e
        rw [e.1, e.2, List.drop_zero, Nat.sub_zero, List.take_length]
      exact hq _ _ (Same.refl _) (by rw [z]; exact .tup n1 h1 r1)
  | _ => cases hf
theorem de_slice {G : Gh} {a : Expr} {lo hi : Option Expr} {wa : WE} {wl wh : WO} {ca cb cc : Nat} {pos p2 : Pos} (ha : DE X G a wa ca) (hl : PO X lo (tO G wl cb)) (hh : PO X hi (tO G wh cc)) : DE X G (.Subscript a (.Slice lo hi none p2) pos) (wSl wa wl wh) (ca + cb + cc) :=
  PE_imp (pe_slice sl_D ha hl hh) fun σ H Q h => by
    obtain ⟨env, M, C, b, P, hb, er, hw, hf⟩ := h
    refine ⟨env, M, C, b, _, by omega, er, hw, fun dx hx b1 w1 x hb1 er1 e1 r1 => ⟨env, w1.M, w1.C, b1, _, by omega, er1, hx, fun lo hl b2 w2 hb2 er2 e2 => ⟨env, w2.M, w2.C, b2, _, by omega, er2, hl, fun hi hh b3 w3 hb3 er3 e3 => ?_⟩⟩⟩
    obtain ⟨d, e, p⟩ := hh
    obtain ⟨dx', e4, e5⟩ := Option.bind_eq_some_iff.mp e
    have r3 := r1.ext (Hs' := H) (e2.trans e3) er1.cm fun _ z => z
    exact ⟨w3, dx', d, rfl, er3.md, r3.rq e4, e5, fun v H' s r => (Fin.ext (Fin.ext (Fin.ext (w := ⟨H, M, C⟩) hf e1 (Nat.le_refl _)) e2 (Nat.le_refl _)) e3 (by omega)).pure er3 p s r⟩
end
end DL
namespace DL
open PySem PySem.Spec PyProof.Rows L2

/-! ### argument lists and displays -/
def wNil : WA := fun _ P => P []
def wCons (wa : WE) (wr : WA) : WA := fun env P => wa env fun x => wr env fun xs => P (x :: xs)
section
variable {X : Cx} {G : Gh} {e : Expr} {es : List Expr} {wa : WE} {wr : WA} {ca cb : Nat} {pos : Pos}
theorem da_nil : DA X G [] wNil 0 := PA_imp pa_nil fun σ H Q h => by
  obtain ⟨env, M, C, b, P, hb, er, p, hf⟩ := h
  exact hf _ p b _ _ (Nat.le_refl _) er (Ext.refl _) .nil
theorem da_cons (ha : DE X G e wa ca) (hr : DA X G es wr cb) (hs : starEach (e :: es) X.env = (false, eval e X.env) :: starEach es X.env := by rfl) : DA X G (e :: es) (wCons wa wr) (ca + cb) := PA_imp (pa_cons ha hr hs) fun σ H Q h => by
  obtain ⟨env, M, C, b, P, hb, er, hw, hf⟩ := h
  refine ⟨env, M, C, b, _, by omega, er, hw, fun dx hx b1 w1 x hb1 er1 e1 r1 => ⟨env, w1.M, w1.C, b1, _, by omega, er1, hx, fun ds hd b2 w2 xs hb2 er2 e2 r2 => ?_⟩⟩
  refine hf _ hd b2 w2 _ (by omega) er2 (e1.trans e2) (.cons (r1.ext e2 er1.cm fun _ z => z) ?_)
  exact r2.ext (Ext.refl w2) er2.cm fun a z => e1.free z
/-- the data of values that may be kept -/
def keptL : List Dv → Option (List D)
  | [] => some []
  | x :: r => x.kept.bind fun d => (keptL r).map (d :: ·)
def valL : List Dv → Option (List D)
  | [] => some []
  | x :: r => x.val.bind fun d => (valL r).map (d :: ·)
theorem VRs.rp {Hs : Hp} {w : Wd} : ∀ {vs : List V} {ds : List Dv} {es : List D}, VRs G Hs w vs ds → keptL ds = some es → RpL w vs es
  | _, _, _, .nil, e => by cases e; exact .nil
  | _, _, _, .cons h r, e => by
    simp only [keptL, Option.bind_eq_some_iff, Option.map_eq_some_iff] at e
    obtain ⟨d, e1, es', e2, rfl⟩ := e
    exact .cons (VR.rp h e1) (VRs.rp r e2)
def wTup (wr : WA) : WE := fun env P => wr env fun xs => ∃ ds, keptL xs = some ds ∧ ds.length ≤ sizeLine ∧ P (.fz (.tuple ds))
def wLst (wr : WA) : WE := fun env P => wr env fun xs => ∃ ds, keptL xs = some ds ∧ ds.length ≤ sizeLine ∧ P (.nw (.list ds))
theorem tA.one {K : Ev → List Dv → (Dv → Prop) → Prop} {σ : L2.St} {H : Hp} {Q : VK} {R : List V → Hp → Prop} (h : tV G (fun env P => wr env fun x => K env x P) ca σ H Q)
    (fin : ∀ {b : Nat} env w x dx P, ER (G.at b) w env σ → VRs G H w x dx → K env dx P → Fin G b σ env w Q P → R x w.H) : tA G wr ca σ H R := by
  obtain ⟨env, M, C, b, P, hb, er, hw, hf⟩ := h
  exact ⟨env, M, C, b, _, hb, er, hw, fun dx hx b1 w1 x hb1 er1 e1 r1 => fin env w1 x dx P er1 r1 hx (Fin.ext (w := ⟨H, M, C⟩) hf e1 hb1)⟩
theorem de_tup {x1} (h : DA X G es wr ca) : DE X G (.Tuple es x1 pos) (wTup wr) ca := PE_imp (pe_tupN h) fun σ H Q h => tA.one h fun env w xs dxs P er rs k hf => by
  obtain ⟨ds, e, z, p⟩ := k
  have r := rs.rp e
  exact ⟨by rw [r.length]; exact z, fun q o h n => hf.rp er p (same_new n) (newT er.md h n r)⟩
theorem de_lst (h : DA X G es wr ca) : DE X G (.List es pos) (wLst wr) ca := PE_imp (pe_lst h) fun σ H Q h => tA.one h fun env w xs dxs P er rs k hf => by
  obtain ⟨ds, e, z, p⟩ := k
  have r := rs.rp e
  exact ⟨by rw [r.length]; exact z, fun q n => hf.pure er (d := .list ds) p (same_new n) (newL n r)⟩
theorem de_dnewK : DE X G (.Dict [] [] pos) (wC (.nw (.dict []))) 0 := PE_imp pe_dnewK fun σ H Q h => by
  obtain ⟨env, M, C, b, P, hb, er, p, hf⟩ := h
  exact fun q n => Fin.pure (b := b) (w := ⟨H, M, C⟩) hf er (d := .dict []) p (same_new n) ⟨q, rfl, n, .dK upd_same rfl .nil⟩
/-! ### calls of built-ins by values -/
inductive RqL (w : Wd) : List V → List D → Prop
  | nil : RqL w [] []
  | cons {v : V} {vs : List V} {d : D} {ds : List D} : Rq w v d → RqL w vs ds → RqL w (v :: vs) (d :: ds)
theorem VRs.rq {Hs : Hp} {w : Wd} : ∀ {vs : List V} {ds : List Dv} {es : List D}, VRs G Hs w vs ds → valL ds = some es → RqL w vs es
  | _, _, _, .nil, e => by cases e; exact .nil
  | _, _, _, .cons h r, e => by
    simp only [valL, Option.bind_eq_some_iff, Option.map_eq_some_iff] at e
    obtain ⟨d, e1, es', e2, rfl⟩ := e
    exact .cons (VR.rq h e1) (VRs.rq r e2)
def rB (f : List D → Option D) : List V → Hp → VK → Prop := fun xs H Q => ∃ w ds d, w.H = H ∧ Wk w ∧ RqL w xs ds ∧ f ds = some d ∧ ∀ v H', Same H H' → VN w H' v d → Q v H'
def wB (f : List D → Option D) (wr : WA) : WE := fun env P => wr env fun xs => ∃ d, (valL xs).bind f = some d ∧ P (mkDv d)
theorem rdB {f : List D → Option D} {σ : L2.St} {H : Hp} {Q : VK} (h : tV G (wB f wr) ca σ H Q) : tCB (rB f) (tA G wr ca) σ H Q := tA.one h fun env w xs dxs P er rs k hf => by
  obtain ⟨d, e, p⟩ := k
  obtain ⟨ds, e1, e2⟩ := Option.bind_eq_some_iff.mp e
  exact ⟨w, ds, d, rfl, er.md, rs.rq e1, e2, fun v H' s r => hf.pure er p s r⟩
theorem de_callB {x : Str} {id : String} {p : Pos} {f : List D → Option D} (hc : CallR X (.builtin id) (rB f)) (hg : Gl X x) (hm : X.mg x = none) (hv : bootBuiltins x = some (.builtin id)) (ha : DA X G (e :: es) wr ca) (hn : x ≠ "__name__" := by decide) (hdb : (x == ("__debug__" : Str)) = false := by decide)
    (he : starEach (e :: es) X.env = (false, eval e X.env) :: starEach es X.env := by rfl) (hpl : (backTo pos (starEach es X.env)).any (·.1) = false := by rfl) : DE X G (.Call (.Name x p) (e :: es) [] pos) (wB f wr) ca :=
  PE_imp (pe_callB hc hg hm hv ha hn hdb he hpl) fun _ _ _ h => rdB h
theorem de_callTy {x : Str} {T : String} {p : Pos} {f : List D → Option D} (hc : CallR X (.type T) (rB f)) (hg : Gl X x) (hm : X.mg x = none) (hv : bootBuiltins x = some (.type T)) (ha : DA X G (e :: es) wr ca) (hn : x ≠ "__name__" := by decide) (hdb : (x == ("__debug__" : Str)) = false := by decide)
    (he : starEach (e :: es) X.env = (false, eval e X.env) :: starEach es X.env := by rfl) (hpl : (backTo pos (starEach es X.env)).any (·.1) = false := by rfl) : DE X G (.Call (.Name x p) (e :: es) [] pos) (wB f wr) ca :=
  PE_imp (pe_callTy hc hg hm hv ha hn hdb he hpl) fun _ _ _ h => rdB h
end
end DL
namespace DL
open PySem PySem.Spec PyProof.Rows L2

/-! ### slots are set -/
section
variable {G : Gh} {w w' : Wd} {env : Ev} {σ : L2.St}
theorem get_set {α : Type} {l : List α} {i j : Nat} {x y : α} (h : (l.set i x)[j]? = some y) : (j = i ∧ y = x) ∨ (j ≠ i ∧ l[j]? = some y) := by
  by_cases e : j = i
  · subst e
    by_cases hl : j < l.length
    · rw [List.getElem?_set_self hl] at h; exact .inl ⟨rfl, (Option.some.inj h).symm⟩
    · rw [List.getElem?_eq_none (by simpa using hl)] at h; cases h
  · rw [List.getElem?_set_ne (Ne.symm e)] at h; exact .inr ⟨e, h⟩
/-- something new comes into slot i -/
theorem OD.new {env : Ev} {σ : L2.St} (od : OD env σ) (i : Nat) {a : Addr} {d : D} (h1 : ∀ (m : Nat) (dd : D), env[m]? = some (.own dd) → σ[m]? ≠ some (some (.ref a))) (h2 : ∀ (m : Nat) (b : Addr) (A : Ab), env[m]? = some (.ab b A) → a ≠ b ∧ σ[m]? ≠ some (some (.ref a))) : OD (env.set i (.own d)) (σ.set i (some (.ref a))) := by
  refine ⟨fun j k d1 d2 b q1 q2 q3 q4 => ?_, fun j k d1 c b A q1 q2 q3 => ?_, fun j k b b' A A' q1 q2 njk => ?_⟩
  · rcases get_set q1 with ⟨ej, _⟩ | ⟨n1, g1⟩
    · rcases get_set q2 with ⟨ek, _⟩ | ⟨n2, g2⟩
      · rw [ej, ek]
      · rcases get_set q3 with ⟨_, y⟩ | ⟨y, _⟩
        · rcases get_set q4 with ⟨y, _⟩ | ⟨_, g4⟩
          · exact absurd y n2
          · rw [V.ref.inj (Option.some.inj y)] at g4
            exact (h1 k _ g2 g4).elim
        · exact absurd ej y
    · rcases get_set q3 with ⟨y, _⟩ | ⟨_, g3⟩
      · exact absurd y n1
      · rcases get_set q2 with ⟨ek, _⟩ | ⟨n2, g2⟩
        · rcases get_set q4 with ⟨_, y⟩ | ⟨y, _⟩
          · rw [V.ref.inj (Option.some.inj y)] at g3
            exact (h1 j _ g1 g3).elim
          · exact absurd ek y
        · rcases get_set q4 with ⟨y, _⟩ | ⟨_, g4⟩
          · exact absurd y n2
          · exact od.oo j k d1 d2 b g1 g2 g3 g4
  · rcases get_set q2 with ⟨_, y⟩ | ⟨n2, g2⟩
    · cases y
    · rw [List.getElem?_set_ne (Ne.symm n2)]
      rcases get_set q1 with ⟨ej, _⟩ | ⟨n1, g1⟩
      · rcases get_set q3 with ⟨_, y⟩ | ⟨y, _⟩
        · cases y
          exact h2 k b A g2
        · exact absurd ej y
      · rcases get_set q3 with ⟨y, _⟩ | ⟨_, g3⟩
        · exact absurd y n1
        · exact od.oh j k d1 c b A g1 g2 g3
  · rcases get_set q1 with ⟨_, y⟩ | ⟨n1, g1⟩
    · cases y
    · rcases get_set q2 with ⟨_, y⟩ | ⟨n2, g2⟩
      · cases y
      · rw [List.getElem?_set_ne (Ne.symm n1), List.getElem?_set_ne (Ne.symm n2)]
        exact od.hh j k b b' A A' g1 g2 njk
/-- slot i, no longer own -/
theorem OD.less {env : Ev} {σ : L2.St} (od : OD env σ) (i : Nat) {s : Sl} (ns : ∀ d, s ≠ .own d) (nh : ∀ b A, s ≠ .ab b A) : OD (env.set i s) σ := by
  refine ⟨fun j k d1 d2 b q1 q2 q3 q4 => ?_, fun j k d1 c b A q1 q2 q3 => ?_, fun j k b b' A A' q1 q2 njk => ?_⟩
  · rcases get_set q1 with ⟨_, y⟩ | ⟨_, q1⟩
    · exact absurd y.symm (ns _)
    · rcases get_set q2 with ⟨_, y⟩ | ⟨_, q2⟩
      · exact absurd y.symm (ns _)
      · exact od.oo j k d1 d2 b q1 q2 q3 q4
  · rcases get_set q1 with ⟨_, y⟩ | ⟨_, q1⟩
    · exact absurd y.symm (ns _)
    · rcases get_set q2 with ⟨_, y⟩ | ⟨_, q2⟩
      · exact absurd y.symm (nh _ _)
      · exact od.oh j k d1 c b A q1 q2 q3
  · rcases get_set q1 with ⟨_, y⟩ | ⟨_, q1⟩
    · exact absurd y.symm (nh _ _)
    · rcases get_set q2 with ⟨_, y⟩ | ⟨_, q2⟩
      · exact absurd y.symm (nh _ _)
      · exact od.hh j k b b' A A' q1 q2 njk
/-- slot i, own as before -/
theorem OD.same {env : Ev} {σ : L2.St} (od : OD env σ) {i : Nat} {d d' : D} (h : env[i]? = some (.own d)) : OD (env.set i (.own d')) σ := by
  have own : ∀ {j : Nat} {d1 : D}, (env.set i (.own d'))[j]? = some (.own d1) → ∃ d0, env[j]? = some (.own d0) := fun {j d1} q => by
    rcases get_set q with ⟨rfl, _⟩ | ⟨_, q⟩
    · exact ⟨d, h⟩
    · exact ⟨_, q⟩
  have hot : ∀ {j : Nat} {b A}, (env.set i (.own d'))[j]? = some (.ab b A) → env[j]? = some (.ab b A) := fun {j b A} q => by
    rcases get_set q with ⟨_, y⟩ | ⟨_, q⟩
    · cases y
    · exact q
  refine ⟨fun j k d1 d2 b q1 q2 q3 q4 => ?_, fun j k d1 c b A q1 q2 q3 => ?_, fun j k b b' A A' q1 q2 njk => od.hh j k b b' A A' (hot q1) (hot q2) njk⟩
  · obtain ⟨e1, g1⟩ := own q1
    obtain ⟨e2, g2⟩ := own q2
    exact od.oo j k e1 e2 b g1 g2 q3 q4
  · obtain ⟨e1, g1⟩ := own q1
    exact od.oh j k e1 c b A g1 (hot q2) q3
theorem ER.setSl {s : Sl} {v : Option V} (er : ER G w env σ) (h : SlR G w v s) (ns : ∀ d, s ≠ .own d) (nh : ∀ b A, s ≠ .ab b A) (i : Nat) : ER G w (env.set i s) (σ.set i v) where
  toEH := er.toEH
  len := by rw [List.length_set, List.length_set]; exact er.len
  sl := fun j s' ov h1 h2 => by
    rcases get_set h1 with ⟨rfl, rfl⟩ | ⟨n1, q1⟩
    · rcases get_set h2 with ⟨_, rfl⟩ | ⟨n2, _⟩
      · exact h
      · exact absurd rfl n2
    · rcases get_set h2 with ⟨n2, _⟩ | ⟨_, q2⟩
      · exact absurd n2 n1
      · exact er.sl j s' ov q1 q2
  od := by
    refine ⟨fun j k d e a h1 h2 h3 h4 => ?_, fun j k d a b A h1 h2 h3 => ?_, fun j k b b' A A' h1 h2 njk => ?_⟩
    · rcases get_set h1 with ⟨_, q⟩ | ⟨n1, q1⟩
      · exact absurd q.symm (ns d)
      · rcases get_set h2 with ⟨_, q⟩ | ⟨n2, q2⟩
        · exact absurd q.symm (ns e)
        · rcases get_set h3 with ⟨z, _⟩ | ⟨_, q3⟩
          · exact absurd z n1
          · rcases get_set h4 with ⟨z, _⟩ | ⟨_, q4⟩
            · exact absurd z n2
            · exact er.od j k d e a q1 q2 q3 q4
    · rcases get_set h1 with ⟨_, q⟩ | ⟨n1, q1⟩
      · exact absurd q.symm (ns d)
      · rcases get_set h2 with ⟨_, q⟩ | ⟨n2, q2⟩
        · exact absurd q.symm (nh b A)
        · rcases get_set h3 with ⟨z, _⟩ | ⟨_, q3⟩
          · exact absurd z n1
          · obtain ⟨y1, y2⟩ := er.od.oh j k d a b A q1 q2 q3
            exact ⟨y1, by rw [List.getElem?_set_ne (Ne.symm n2)]; exact y2⟩
    · rcases get_set h1 with ⟨_, q⟩ | ⟨n1, q1⟩
      · exact absurd q.symm (nh b A)
      · rcases get_set h2 with ⟨_, q⟩ | ⟨n2, q2⟩
        · exact absurd q.symm (nh b' A')
        · rw [List.getElem?_set_ne (Ne.symm n1), List.getElem?_set_ne (Ne.symm n2)]
          exact er.od.hh j k b b' A A' q1 q2 njk
theorem ER.setFz {d : D} {v : V} (er : ER G w env σ) (h : Rp w v d) (i : Nat) : ER G w (env.set i (.fz d)) (σ.set i (some v)) := er.setSl (s := .fz d) ⟨v, rfl, h⟩ (fun _ z => nomatch z) (fun _ _ z => nomatch z) i
theorem ER.setRaw {v : V} (er : ER G w env σ) (i : Nat) : ER G w (env.set i (.raw v)) (σ.set i (some v)) := er.setSl (s := .raw v) rfl (fun _ z => nomatch z) (fun _ _ z => nomatch z) i
theorem ER.setNo {v : Option V} (er : ER G w env σ) (i : Nat) : ER G w (env.set i .no) (σ.set i v) := er.setSl (s := .no) trivial (fun _ z => nomatch z) (fun _ _ z => nomatch z) i
theorem ER.lt (er : ER G w env σ) {i : Nat} {s : Sl} (h : env[i]? = some s) : i < σ.length := by
  have := (List.getElem?_eq_some_iff.mp h).1
  have := er.len
  omega
theorem ER.at (er : ER G w env σ) {i : Nat} {s : Sl} (h : env[i]? = some s) : ∃ ov, σ[i]? = some ov ∧ SlR G w ov s := ⟨σ[i]'(er.lt h), List.getElem?_eq_getElem (er.lt h), er.sl i s _ h (List.getElem?_eq_getElem (er.lt h))⟩
/-- a new list or dict becomes a local's own -/
theorem ER.setNw {d : D} {a : Addr} {b0 b1 : Nat} (er : ER (G.at b0) w env σ) (er' : ER (G.at b1) w' env σ) (e : Ext w w') (hs : w.H a = none) (nc : ¬ w'.C a) (o : Ow (w'.plus a) a d) (i : Nat) :
    ER (G.at b1) (w'.plus a) (env.set i (.own d)) (σ.set i (some (.ref a))) := by
  have st0 : St1 w (w'.plus a) := ⟨(e.st er.cm).keep, fun b z => z.elim (e.newM b) fun q => .inr (by rw [q]; exact hs)⟩
  have hdO : ∀ {u : Wd} {b d}, Ow u b d → ∃ ob, u.H b = some ob := fun o => by cases o <;> first | exact ⟨_, by assumption⟩ | exact Nst.there (by assumption)
  have hH0 : G.H0 a = none := by
    cases q : G.H0 a with
    | none => rfl
    | some x => exact absurd hs (er.hd a (by rw [q]; simp))
  have hPt : G.Pt a = none := by
    cases q : G.Pt a with
    | none => rfl
    | some x => rcases er.kp a x q with z | ⟨_, _, ob, z⟩ <;> (rw [hs] at z; cases z)
  refine ⟨⟨er'.kp, fun b m => .inl (er'.m0 b m), er'.nc, er'.cp, fun b c => .inl (er'.cm b c), fun b z => z.elim (er'.md b) fun q => ?_, er'.hd, fun p hp => p.st _ _ st0 (er.gk p hp), er'.si, fun b xs z => z.elim (er'.mt b xs) fun q => by subst q; exact o.ntup xs⟩, by rw [List.length_set, List.length_set]; exact er.len, fun j s ov h1 h2 => ?_, OD.new er.od i (fun m dd g1 g2 => ?_) (fun m b0 A g1 => ?_)⟩
  · subst q
    obtain ⟨ob, h⟩ := hdO o
    show w'.H b ≠ none
    rw [show w'.H b = some ob from h]; simp
  · rcases get_set h1 with ⟨rfl, rfl⟩ | ⟨n1, q1⟩
    · rcases get_set h2 with ⟨_, rfl⟩ | ⟨n2, _⟩
      · exact ⟨a, rfl, .inr rfl, nc, hPt, hH0, o⟩
      · exact absurd rfl n2
    · rcases get_set h2 with ⟨n2, _⟩ | ⟨_, q2⟩
      · exact absurd n2 n1
      · have s0 := er.sl j s ov q1 q2
        have s1 := er'.sl j s ov q1 q2
        cases s with
        | no => trivial
        | fz d => obtain ⟨v, z, r⟩ := s0; exact ⟨v, z, r.st st0⟩
        | raw v => exact s0
        | own d =>
          obtain ⟨b, z, m, n, p, h0, ob⟩ := s0
          obtain ⟨b', z', m', n', _, _, _⟩ := s1
          rw [z] at z'
          cases z'
          obtain ⟨x, hx⟩ := hdO ob
          exact ⟨b, z, .inl m', n', p, h0, ob.st st0 (by show w'.H b = w.H b; rw [hx]; exact e.own n m hx)⟩
        | bw d =>
          obtain ⟨b, z, m, n, p, ob⟩ := s0
          obtain ⟨b', z', m', n', _, _⟩ := s1
          rw [z] at z'
          cases z'
          obtain ⟨x, hx⟩ := hdO ob
          exact ⟨b, z, .inl m', n', p, ob.st st0 (by show w'.H b = w.H b; rw [hx]; exact e.own n m hx)⟩
        | ab b0 A =>
          obtain ⟨b, z, ⟨m, n, p, h0⟩, ⟨mb, nb, pb, zb⟩, ob⟩ := s0
          obtain ⟨b', z', ⟨m', n', _⟩, ⟨mb', nb', _⟩, _⟩ := s1
          rw [z] at z'
          cases z'
          obtain ⟨⟨_, hx⟩, ⟨_, hy⟩⟩ := A.ex ob
          exact ⟨b, z, ⟨.inl m', n', p, h0⟩, ⟨.inl mb', nb', pb, zb⟩, A.st st0 ob (by show w'.H b = w.H b; rw [hx]; exact e.own n m hx) (by show w'.H b0 = w.H b0; rw [hy]; exact e.own nb mb hy)⟩
  · obtain ⟨b, z, _, _, _, _, ob⟩ := er.sl m _ _ g1 g2
    cases z
    obtain ⟨x, hx⟩ := hdO ob
    rw [hs] at hx; cases hx
  · obtain ⟨ov, g2⟩ : ∃ ov, σ[m]? = some ov := by
      have := (List.getElem?_eq_some_iff.mp g1).1
      have := er.len
      exact ⟨_, List.getElem?_eq_getElem (show m < σ.length by omega)⟩
    obtain ⟨b, rfl, _, _, oA⟩ := er.sl m _ _ g1 g2
    obtain ⟨⟨_, hx⟩, ⟨_, hy⟩⟩ := A.ex oA
    refine ⟨fun y => ?_, fun y => ?_⟩
    · rw [← y, hs] at hy; cases hy
    · rw [g2] at y
      cases y
      rw [hs] at hx; cases hx
end

/-! ### blocks and small statements -/
section
variable {X : Cx} {G : Gh} {st : Stmt} {rest body : List Stmt} {f g : WS} {e a b c : Expr} {wa wb : WE} {ta : WT} {ca cb cc : Nat} {pos : Pos}
def wNext : WS := fun env De => De.nx env
def wSeq (f g : WS) : WS := fun env De => f env { De with nx := fun e => g e De }
theorem dss_nil : DSs X G [] wNext 0 := PSs_imp pss_nil fun σ H T h => by
  obtain ⟨env, M, C, b0, De, hb0, er, hw, lf⟩ := h
  exact lf.nx env hw b0 _ σ (Nat.le_refl _) er
theorem dss_cons (h1 : DS X G st f ca) (h2 : DSs X G rest g cb) : DSs X G (st :: rest) (wSeq f g) (ca + cb) := PSs_imp (pss_cons h1 h2) fun σ H T h => by
  obtain ⟨env, M, C, b0, De, hb0, er, hw, lf⟩ := h
  have lm := lf.mono (B' := b0 + ca) (by omega)
  exact ⟨env, M, C, b0, _, by omega, er, hw, ⟨fun env' q b w σ' hb er' => ⟨env', w.M, w.C, b, De, by omega, er', q, lf.mono (by omega)⟩, lm.rt, lm.bk, lm.ct⟩⟩
theorem dss_one (h1 : DS X G st f ca) : DSs X G [st] f ca := pss_one h1
theorem ds_pass : DS X G (.Pass pos) wNext 0 := PS_imp ps_pass fun σ H T h => by
  obtain ⟨env, M, C, b0, De, hb0, er, hw, lf⟩ := h
  exact lf.nx env hw b0 _ σ (Nat.le_refl _) er
def wBreak : WS := fun env De => De.bk env
def wCont : WS := fun env De => De.ct env
theorem ds_break : DS X G (.Break pos) wBreak 0 := PS_imp ps_break fun σ H T h => by
  obtain ⟨env, M, C, b0, De, hb0, er, hw, lf⟩ := h
  exact lf.bk env hw b0 _ σ (Nat.le_refl _) er
theorem ds_continue : DS X G (.Continue pos) wCont 0 := PS_imp ps_continue fun σ H T h => by
  obtain ⟨env, M, C, b0, De, hb0, er, hw, lf⟩ := h
  exact lf.ct env hw b0 _ σ (Nat.le_refl _) er
/-- a statement that is never reached -/
def wNever : WS := fun _ _ => False
theorem ds_never : DS X G st wNever 0 := PS_imp ps_never fun σ H T h => by
  obtain ⟨env, M, C, b0, De, hb0, er, hw, lf⟩ := h
  exact hw
def wDrop (wa : WE) : WS := fun env De => wa env fun _ => De.nx env
theorem ds_expr (he : DE X G e wa ca) (hs : swapsWith e none pos.line X.env = pure false := by rfl) : DS X G (.Expr e pos) (wDrop wa) ca := PS_imp (ps_expr he hs) fun σ H T h => by
  obtain ⟨env, M, C, b0, De, hb0, er, hw, lf⟩ := h
  exact ⟨env, M, C, b0, _, hb0, er, hw, fun dv p b' w' v hb' er' e' r => lf.nx env p b' w' σ hb' er'⟩
def wRet (wa : WE) : WS := fun env De => wa env (De.rt env)
theorem ds_ret (he : DE X G e wa ca) : DS X G (.Return (some e) pos) (wRet wa) ca := PS_imp (ps_ret he) fun σ H T h => by
  obtain ⟨env, M, C, b0, De, hb0, er, hw, lf⟩ := h
  exact ⟨env, M, C, b0, _, hb0, er, hw, fun dv p b' w' v hb' er' e' r => lf.rt env dv p b' w' H σ v hb' er' r er.hd⟩
def wRetN : WS := fun env De => De.rt env (.fz .none)
theorem ds_retN : DS X G (.Return none pos) wRetN 0 := PS_imp ps_retN fun σ H T h => by
  obtain ⟨env, M, C, b0, De, hb0, er, hw, lf⟩ := h
  exact lf.rt env _ hw b0 ⟨H, M, C⟩ H σ .non (Nat.le_refl _) er .non er.hd
def wIfS (t : WT) (f g : WS) : WS := fun env De => t env fun k => if k = true then f env De else g env De
theorem ds_if {x y : List Stmt} (hc : DT X G c ta cc) (ha : DSs X G x f ca) (hb : DSs X G y g cb) : DS X G (.If c x y pos) (wIfS ta f g) (cc + (ca + cb)) := PS_imp (ps_if hc ha hb) fun σ H T h => by
  obtain ⟨env, M, C, b0, De, hb0, er, hw, lf⟩ := h
  refine ⟨env, M, C, b0, _, by omega, er, hw, fun k hk b1 w1 hb1 er1 e1 => ?_⟩
  cases k with
  | true =>
    rw [if_pos rfl] at hk ⊢
    exact ⟨env, w1.M, w1.C, b1, De, by omega, er1, hk, lf.mono (by omega)⟩
  | false =>
    rw [if_neg Bool.false_ne_true] at hk ⊢
    exact ⟨env, w1.M, w1.C, b1, De, by omega, er1, hk, lf.mono (by omega)⟩

/-! ### name = value -/
/-- how a value is kept in a slot -/
inductive Kp where | fz | own | raw
def store (k : Kp) (i : Nat) (x : Dv) (env : Ev) (N : Ev → Prop) : Prop := match k with
  | .fz => ∃ d, x.kept = some d ∧ N (env.set i (.fz d))
  | .own => ∃ d, x = .nw d ∧ N (env.set i (.own d))
  | .raw => ∃ v, x = .raw v ∧ N (env.set i (.raw v))
def wSet (k : Kp) (i : Nat) (wa : WE) : WS := fun env De => wa env fun x => store k i x env De.nx
theorem stored {k : Kp} {i : Nat} {x : Dv} {env : Ev} {N : Ev → Prop} {σ : L2.St} {w w' : Wd} {v : V} {b0 b1 : Nat} (h : store k i x env N) (er : ER (G.at b0) w env σ) (er' : ER (G.at b1) w' env σ) (e : Ext w w') (r : VR G w.H w' v x) :
    ∃ env' w'', N env' ∧ w''.H = w'.H ∧ ER (G.at b1) w'' env' (σ.set i (some v)) := by
  cases k with
  | fz =>
    obtain ⟨d, h1, h2⟩ := h
    exact ⟨_, w', h2, rfl, er'.setFz (r.rp h1) i⟩
  | own =>
    obtain ⟨d, rfl, h2⟩ := h
    obtain ⟨a, rfl, hs, nm, nc, o⟩ := r
    exact ⟨_, w'.plus a, h2, rfl, ER.setNw er er' e hs nc o i⟩
  | raw =>
    obtain ⟨u, rfl, h2⟩ := h
    obtain rfl : v = u := r
    exact ⟨_, w', h2, rfl, er'.setRaw i⟩
theorem rdSet {k : Kp} {i : Nat} {σ : L2.St} {H : Hp} {T : Ends} {te : TE} (h : tS G (wSet k i wa) ca T σ H) (imp : ∀ Q, tV G wa ca σ H Q → te σ H Q) : tAsg te (gName i) T σ H := by
  obtain ⟨env, M, C, b0, De, hb0, er, hw, lf⟩ := h
  refine imp _ ⟨env, M, C, b0, _, hb0, er, hw, fun dv p b' w' v hb' er' e' r => ?_⟩
  obtain ⟨env', w'', n, e1, er''⟩ := stored p er er' e' r
  show T.nx (σ.set i (some v)) w'.H
  rw [← e1]
  exact lf.nx env' n b' w'' _ hb' er''
theorem ds_set (k : Kp) (i : Nat) {x : Str} {pos' : Pos} (hN : X.N.Nodup) (he : DE X G e wa ca) (hi : X.N[i]? = some x := by rfl) (hx : Loc X.env.scope x := by first | exact Or.inl rfl | exact Or.inr rfl) (hs : swapsWith e (some (.Name x pos')) pos.line X.env = pure false := by rfl)
    (hf : X.fn x = true ∨ X.env.scope.names.lookup x = some .local := by first | exact .inl rfl | exact .inr rfl | assumption) : DS X G (.Assign [.Name x pos'] e pos) (wSet k i wa) ca :=
  PS_imp (ps_set hN hi hx he hs hf) fun σ H T h => rdSet h fun _ q => q

/-! ### while -/
def wWh (t : WT) (f : WS) : Nat → WS
  | 0 => fun _ _ => False
  | n + 1 => fun env De => t env fun k => if k = true then f env { nx := fun e => wWh t f n e De, ct := fun e => wWh t f n e De, bk := De.nx, rt := De.rt } else De.nx env
def wWhile (t : WT) (f : WS) : WS := fun env De => ∃ n, wWh t f n env De
theorem ds_while (hp : PassesOwn (model X.prog X.w) X.A X.env X.xe) (hc : DT X G c ta cc) (hb : DSs X G body f cb) (h0 : cc + cb = 0 := by rfl) : DS X G (.While c body [] pos) (wWhile ta f) 0 := PS_imp (ps_while hp hc hb) fun σ H T h => by
  obtain ⟨env, M, C, b0, De, hb0, er, ⟨n, hw⟩, lf⟩ := h
  refine ⟨fun m σ H => ∃ env M C b, b ≤ b0 ∧ ER (G.at b) ⟨H, M, C⟩ env σ ∧ wWh ta f m env De, ⟨n, env, M, C, b0, Nat.le_refl _, er, hw⟩, fun m σ1 H1 hm => ?_⟩
  obtain ⟨env1, M1, C1, b1, hb1, er1, hw1⟩ := hm
  cases m with
  | zero => exact hw1.elim
  | succ m =>
    refine ⟨env1, M1, C1, b1, _, by omega, er1, hw1, fun k hk b2 w2 hb2 er2 e2 => ?_⟩
    cases k with
    | true =>
      rw [if_pos rfl] at hk ⊢
      refine ⟨fun σ' H' => ∃ env M C b, b ≤ b0 ∧ ER (G.at b) ⟨H', M, C⟩ env σ' ∧ wWh ta f m env De, fun σ' H' q => ⟨m, Nat.lt_succ_self m, q⟩, ?_⟩
      have lm := lf.mono (B' := b2 + cb) (by omega)
      exact ⟨env1, w2.M, w2.C, b2, _, by omega, er2, hk, ⟨fun env' q b w σ' hb er' => ⟨env', w.M, w.C, b, by omega, er', q⟩, lm.rt, fun env' q b w σ' hb er' => lm.nx env' q b w σ' hb er', fun env' q b w σ' hb er' => ⟨env', w.M, w.C, b, by omega, er', q⟩⟩⟩
    | false =>
      rw [if_neg Bool.false_ne_true] at hk ⊢
      exact lf.nx env1 hk b2 w2 σ1 (by omega) er2
/-- a loop that draws: at most many turns -/
def many : Nat := 2 ^ 64
def wWhileE (t : WT) (f : WS) : WS := fun env De => ∃ n, n ≤ many ∧ wWh t f n env De
theorem mul_step {n m a b : Nat} (h : m + 1 ≤ n) (q : b ≤ a) : b + (n - (m + 1)) * a + a ≤ b + (n - m) * a := by
  have e : n - m = (n - (m + 1)) + 1 := by omega
  rw [e, Nat.add_mul, Nat.one_mul]; omega
theorem le_many {n a : Nat} (h : n ≤ many) : n * a ≤ many * a := Nat.mul_le_mul_right a h
theorem ds_whileE (hp : PassesOwn (model X.prog X.w) X.A X.env X.xe) (hc : DT X G c ta cc) (hb : DSs X G body f cb) : DS X G (.While c body [] pos) (wWhileE ta f) (many * (cc + cb)) := PS_imp (ps_while hp hc hb) fun σ H T h => by
  obtain ⟨env, M, C, b0, De, hb0, er, ⟨n, hn, hw⟩, lf⟩ := h
  have hn' := le_many (a := cc + cb) hn
  refine ⟨fun m σ H => ∃ env M C b, b + m * (cc + cb) ≤ b0 + n * (cc + cb) ∧ ER (G.at b) ⟨H, M, C⟩ env σ ∧ wWh ta f m env De, ⟨n, env, M, C, b0, Nat.le_refl _, er, hw⟩, fun m σ1 H1 hm => ?_⟩
  obtain ⟨env1, M1, C1, b1, hb1, er1, hw1⟩ := hm
  cases m with
  | zero => exact hw1.elim
  | succ m =>
    rw [Nat.add_mul, Nat.one_mul] at hb1
    refine ⟨env1, M1, C1, b1, _, by omega, er1, hw1, fun k hk b2 w2 hb2 er2 e2 => ?_⟩
    cases k with
    | true =>
      rw [if_pos rfl] at hk ⊢
      refine ⟨fun σ' H' => ∃ env M C b, b + m * (cc + cb) ≤ b0 + n * (cc + cb) ∧ ER (G.at b) ⟨H', M, C⟩ env σ' ∧ wWh ta f m env De, fun σ' H' q => ⟨m, Nat.lt_succ_self m, q⟩, ?_⟩
      have lm := lf.mono (B' := b2 + cb) (by omega)
      exact ⟨env1, w2.M, w2.C, b2, _, by omega, er2, hk, ⟨fun env' q b w σ' hb er' => ⟨env', w.M, w.C, b, by omega, er', q⟩, lm.rt, fun env' q b w σ' hb er' => lm.nx env' q b w σ' hb er', fun env' q b w σ' hb er' => ⟨env', w.M, w.C, b, by omega, er', q⟩⟩⟩
    | false =>
      rw [if_neg Bool.false_ne_true] at hk ⊢
      exact lf.nx env1 hk b2 w2 σ1 (by omega) er2

/-! ### what is walked -/
def Gh.more (G : Gh) (l : List Fx) : Gh := { G with gs := l ++ G.gs }
theorem EH.more {w : Wd} {b : Nat} {l : List Fx} (h : EH (G.at b) w) (q : ∀ p ∈ l, p.P w) : EH ((G.more l).at b) w := ⟨h.kp, h.m0, h.nc, h.cp, h.cm, h.md, h.hd, fun p hp => (List.mem_append.mp hp).elim (q p) (h.gk p), h.si, h.mt⟩
theorem EH.fewer {w : Wd} {b : Nat} {l : List Fx} (h : EH ((G.more l).at b) w) : EH (G.at b) w := ⟨h.kp, h.m0, h.nc, h.cp, h.cm, h.md, h.hd, fun p hp => h.gk p (List.mem_append_right _ hp), h.si, h.mt⟩
theorem EH.those {w : Wd} {b : Nat} {l : List Fx} (h : EH ((G.more l).at b) w) : ∀ p ∈ l, p.P w := fun p hp => h.gk p (List.mem_append_left _ hp)
theorem ER.more {w : Wd} {b : Nat} {env : Ev} {σ : L2.St} {l : List Fx} (h : ER (G.at b) w env σ) (q : ∀ p ∈ l, p.P w) : ER ((G.more l).at b) w env σ := ⟨h.toEH.more q, h.len, h.sl, h.od⟩
theorem ER.fewer {w : Wd} {b : Nat} {env : Ev} {σ : L2.St} {l : List Fx} (h : ER ((G.more l).at b) w env σ) : ER (G.at b) w env σ := ⟨h.toEH.fewer, h.len, h.sl, h.od⟩
/-- what a walk may lean on: what is owned is there, and is no tuple -/
def Wk2 (w : Wd) : Prop := Wk w ∧ ∀ a xs, w.M a → w.H a ≠ some (.tup xs)
/-- what a target is given: one that is a tuple is given a pair of which no more is known than what it holds -/
inductive Ry (w : Wd) : V → D → Prop
  | rp {v : V} {d : D} : Rp w v d → Ry w v d
  | pr {a : Addr} {xs : List V} {ds : List D} : Rd w.H a (.tup xs) → RpL w xs ds → Ry w (.ref a) (.tuple ds)
def Yt (tg : Expr) : Wd → V → D → Prop := match tg with
  | .Tuple _ _ _ => Ry
  | _ => Rp
theorem Yt.of {tg : Expr} {w : Wd} {v : V} {d : D} (h : Rp w v d) : Yt tg w v d := by
  unfold Yt
  split
  · exact .rp h
  · exact h
/-- J walks the data ds while the values l stand -/
structure Walk (tg : Expr) (J : It) (l : List Fx) (ds : List D) : Prop where
  go : ∀ (w : Wd) (i : Nat), (∀ p ∈ l, p.P w) → i < ds.length → J.go i w.H
  stop : ∀ (w : Wd) (i : Nat), (∀ p ∈ l, p.P w) → ds.length ≤ i → J.stop i w.H
  yld : ∀ (w : Wd) (i : Nat) (x : V) (H' : Hp), Wk2 w → (∀ p ∈ l, p.P w) → i < ds.length → J.yld i w.H x H' → Same w.H H' ∧ ∃ d, ds[i]? = some d ∧ Yt tg ⟨H', w.M, w.C⟩ x d
abbrev WI := Ev → (List D → Prop) → Prop
def tI (tg : Expr) (G : Gh) (f : WI) (c : Nat) : TI := fun σ H R => ∃ (env : Ev) (M C : Addr → Prop) (b : Nat) (P : List D → Prop), b + c ≤ cap ∧ ER (G.at b) ⟨H, M, C⟩ env σ ∧ f env P ∧ ∀ ds, P ds → ∀ (b' : Nat) (w' : Wd) (J : It) (l : List Fx), b' ≤ b + c → ER (G.at b') w' env σ → Ext ⟨H, M, C⟩ w' → (∀ p ∈ l, p.P w') → Walk tg J l ds → ds.length ≤ many → R J w'.H
abbrev DI (X : Cx) (G : Gh) (tg iter : Expr) (f : WI) (c : Nat) : Prop := PI X tg iter (tI tg G f c)

/-! ### targets -/
/-- the slots ix may have been set, no other ones -/
def Eqx (ix : List Nat) (σ σ' : L2.St) : Prop := σ'.length = σ.length ∧ ∀ j, j ∉ ix → σ'[j]? = σ[j]?
theorem Eqx.refl (ix : List Nat) (σ : L2.St) : Eqx ix σ σ := ⟨rfl, fun _ _ => rfl⟩
theorem Eqx.trans {ix jx : List Nat} {σ σ1 σ2 : L2.St} (a : Eqx ix σ σ1) (b : Eqx jx σ1 σ2) : Eqx (ix ++ jx) σ σ2 := ⟨b.1.trans a.1, fun j h => (b.2 j fun z => h (List.mem_append_right _ z)).trans (a.2 j fun z => h (List.mem_append_left _ z))⟩
theorem Eqx.set (i : Nat) (σ : L2.St) (v : Option V) : Eqx [i] σ (σ.set i v) := ⟨List.length_set, fun j h => List.getElem?_set_ne fun z => h (by simp [z])⟩
abbrev GD := D → Ev → Option Ev
def tG (tg : Expr) (G : Gh) (ix : List Nat) (g : GD) : TG := fun v σ H Q => ∃ (env env' : Ev) (M C : Addr → Prop) (b : Nat) (d : D), ER (G.at b) ⟨H, M, C⟩ env σ ∧ Yt tg ⟨H, M, C⟩ v d ∧ g d env = some env' ∧ ∀ σ', ER (G.at b) ⟨H, M, C⟩ env' σ' → Eqx ix σ σ' → Q σ' H
def tGs (G : Gh) (ix : List Nat) (g : List D → Ev → Option Ev) : TGs := fun vs σ H Q => ∃ (env env' : Ev) (M C : Addr → Prop) (b : Nat) (ds : List D), ER (G.at b) ⟨H, M, C⟩ env σ ∧ RpL ⟨H, M, C⟩ vs ds ∧ g ds env = some env' ∧ ∀ σ', ER (G.at b) ⟨H, M, C⟩ env' σ' → Eqx ix σ σ' → Q σ' H
def gN (i : Nat) : GD := fun d env => some (env.set i (.fz d))
def gNil' : List D → Ev → Option Ev
  | [], env => some env
  | _, _ => none
def gCons' (g : GD) (r : List D → Ev → Option Ev) : List D → Ev → Option Ev
  | d :: ds, env => (g d env).bind (r ds)
  | _, _ => none
def gTup' (n : Nat) (r : List D → Ev → Option Ev) : GD
  | .tuple ds, env => if ds.length = n then r ds env else none
  | _, _ => none
theorem PG_imp {e : Expr} {t t' : TG} (h : PG X e t) (i : ∀ v σ H Q, t' v σ H Q → t v σ H Q) : PG X e t' := ⟨fun pins s σ H v u Q I r q => h.run pins s σ H v u Q I r (i v σ H Q q)⟩
theorem PGs_imp {e : List Expr} {t t' : TGs} (h : PGs X e t) (i : ∀ v σ H Q, t' v σ H Q → t v σ H Q) : PGs X e t' := ⟨fun pins s σ H v u Q I r q => h.run pins s σ H v u Q I r (i v σ H Q q)⟩
theorem dg_name (i : Nat) {x : Str} (hN : X.N.Nodup) (hi : X.N[i]? = some x := by rfl) (hx : Loc X.env.scope x := by first | exact Or.inl rfl | exact Or.inr rfl) (hf : X.fn x = true ∨ X.env.scope.names.lookup x = some .local := by first | exact .inl rfl | exact .inr rfl | assumption) : PG X (.Name x pos) (tG (.Name x pos) G [i] (gN i)) :=
  PG_imp (pg_name hN hi hx hf) fun v σ H Q h => by
    obtain ⟨env, env', M, C, b0, d, er, r, e, q⟩ := h
    cases e
    exact q _ (er.setFz r i) (Eqx.set i σ _)
theorem dgs_nil : PGs X [] (tGs G [] gNil') := PGs_imp pgs_nil fun v σ H Q h => by
  obtain ⟨env, env', M, C, b0, d, er, r, e, q⟩ := h
  cases r with
  | nil => cases e; exact ⟨rfl, q _ er (Eqx.refl _ _)⟩
  | cons _ _ => cases e
theorem dgs_cons {es : List Expr} {ix jx : List Nat} {g : GD} {r : List D → Ev → Option Ev} (h1 : PG X e (tG e G ix g)) (h2 : PGs X es (tGs G jx r)) (hs : (assignEach (e :: es) X.env).map (·.2) = assign e X.env :: (assignEach es X.env).map (·.2) := by rfl) : PGs X (e :: es) (tGs G (ix ++ jx) (gCons' g r)) :=
  PGs_imp (pgs_cons h1 h2 hs) fun v σ H Q h => by
    obtain ⟨env, env', M, C, b0, d, er, rr, e, q⟩ := h
    cases rr with
    | nil => cases e
    | @cons v0 vs d0 ds a b =>
      obtain ⟨env1, e1, e2⟩ := Option.bind_eq_some_iff.mp e
      exact ⟨v0, vs, rfl, env, env1, M, C, b0, d0, er, Yt.of a, e1, fun σ1 er1 x1 => ⟨env1, env', M, C, b0, ds, er1, b, e2, fun σ2 er2 x2 => q σ2 er2 (x1.trans x2)⟩⟩
theorem dg_tup {es : List Expr} {ix : List Nat} {k n : Nat} {r : List D → Ev → Option Ev} (hc : X.calm = true) (h : PGs X es (tGs G ix r)) (hn : (assignEach es X.env).length = n := by rfl) (hst : (assignEach es X.env).findIdx? (·.1) = none := by rfl) : PG X (.Tuple es k pos) (tG (.Tuple es k pos) G ix (gTup' n r)) :=
  PG_imp (pg_tup hc h hn hst) fun v σ H Q h => by
    obtain ⟨env, env', M, C, b0, d, er, rr, e, q⟩ := h
    cases d with
    | tuple ds =>
      obtain ⟨a, xs, rfl, hr, rl⟩ : ∃ a xs, v = .ref a ∧ Rd H a (.tup xs) ∧ RpL ⟨H, M, C⟩ xs ds := by
        cases (show Ry ⟨H, M, C⟩ v (.tuple ds) from rr) with
        | rp r =>
          cases r with
          | tup nm hr rl => exact ⟨_, _, rfl, hr.rd, rl⟩
        | pr hr rl => exact ⟨_, _, rfl, hr, rl⟩
      by_cases hl : ds.length = n
      · simp only [gTup', if_pos hl] at e
        exact ⟨a, xs, rfl, .inl hr, by rw [rl.length]; exact hl, env, env', M, C, b0, ds, er, rl, e, q⟩
      · simp only [gTup', if_neg hl] at e
        cases e
    | _ => cases e

/-! ### for -/
def wFor (g : GD) (f : WS) : List D → WS
  | [] => fun env De => De.nx env
  | d :: r => fun env De => ∃ env', g d env = some env' ∧ f env' { nx := fun e => wFor g f r e De, ct := fun e => wFor g f r e De, bk := De.nx, rt := De.rt }
def wForI (wi : WI) (g : GD) (f : WS) : WS := fun env De => wi env fun ds => wFor g f ds env De
theorem ds_for {iter tg : Expr} {ix : List Nat} {wi : WI} {gd : GD} (hp : PassesOwn (model X.prog X.w) X.A X.env X.xe) (hc : X.calm = true) (hi : DI X G tg iter wi ca) (hg : ∀ l, PG X tg (tG tg (G.more l) ix gd)) (hb : ∀ l, DSs X (G.more l) body f cb)
    (hs : ∀ x, foldedSetIterable iter X.env x = pure x := by intro _; rfl) : DS X G (.For tg iter body [] pos) (wForI wi gd f) (ca + many * cb) := by
  have hg' : PG X tg (fun v σ H Q => ∃ l, tG tg (G.more l) ix gd v σ H Q) := ⟨fun pins s σ H v u Q I r ⟨l, q⟩ => (hg l).run pins s σ H v u Q I r q⟩
  have hb' : PSs X body (fun T σ H => ∃ l, tS (G.more l) f cb T σ H) := ⟨fun pins s σ H T I ⟨l, q⟩ => (hb l).run pins s σ H T I q⟩
  refine PS_imp (ps_for hp hc hi hg' hb' hs) fun σ H T h => ?_
  obtain ⟨env, M, C, b0, De, hb0, er, hw, lf⟩ := h
  refine ⟨env, M, C, b0, _, by omega, er, hw, fun ds hds b00 w0 J l hb00 er0 e0 hl wk hz => ?_⟩
  have hz' := le_many (a := cb) hz
  refine ⟨fun i m σ H => m = ds.length - i ∧ i ≤ ds.length ∧ ∃ env M C b, b + m * cb ≤ b00 + ds.length * cb ∧ ER ((G.more l).at b) ⟨H, M, C⟩ env σ ∧ wFor gd f (ds.drop i) env De, ⟨ds.length, by simp, Nat.zero_le _, env, w0.M, w0.C, b00, Nat.le_refl _, er0.more hl, hds⟩, fun i m σ1 H1 hW => ?_⟩
  obtain ⟨rfl, hi1, env1, M1, C1, b1, hb1, er1, hw1⟩ := hW
  have ok1 := er1.toEH.those
  by_cases hlt : i < ds.length
  · rw [List.drop_eq_getElem_cons hlt] at hw1
    obtain ⟨env2, hg2, hw2⟩ := hw1
    have hb1' : b1 + (ds.length - (i + 1)) * cb + cb ≤ b00 + ds.length * cb := by
      rw [show ds.length - i = (ds.length - (i + 1)) + 1 by omega, Nat.add_mul, Nat.one_mul] at hb1; omega
    refine .inr ⟨wk.go ⟨H1, M1, C1⟩ i ok1 hlt, fun σ' H' => ∃ env M C b, b + (ds.length - (i + 1)) * cb ≤ b00 + ds.length * cb ∧ ER ((G.more l).at b) ⟨H', M, C⟩ env σ' ∧ wFor gd f (ds.drop (i + 1)) env De, fun σ' H' q => ⟨ds.length - (i + 1), by omega, rfl, hlt, q⟩, fun x H' hy => ?_⟩
    obtain ⟨sm, d, hd, rx⟩ := wk.yld ⟨H1, M1, C1⟩ i x H' ⟨er1.md, er1.mt⟩ ok1 hlt hy
    have hd' : d = ds[i] := by rw [List.getElem?_eq_getElem hlt] at hd; exact (Option.some.inj hd).symm
    subst hd'
    refine ⟨l, env1, env2, M1, C1, b1, ds[i], er1.same sm, rx, hg2, fun σ2 er2 _ => ⟨l, env2, M1, C1, b1, _, by omega, er2, hw2, ?_⟩⟩
    have lm := lf.mono (B' := b1 + cb) (by omega)
    exact ⟨fun env' q b w σ' hb er' => ⟨env', w.M, w.C, b, by omega, er', q⟩, fun e dv q b w Hs σ v hb er r hh => lm.rt e dv q b w Hs σ v hb er.fewer (by cases dv <;> exact r) hh, fun env' q b w σ' hb er' => lm.nx env' q b w σ' hb er'.fewer, fun env' q b w σ' hb er' => ⟨env', w.M, w.C, b, by omega, er', q⟩⟩
  · rw [List.drop_eq_nil_of_le (by omega)] at hw1
    have l0 : ds.length - i = 0 := by omega
    rw [l0, Nat.zero_mul] at hb1
    exact .inl ⟨wk.stop ⟨H1, M1, C1⟩ i ok1 (by omega), lf.nx env1 hw1 b1 ⟨H1, M1, C1⟩ σ1 (by omega) er1.fewer⟩
end
end DL
namespace DL
open PySem PySem.Spec PyProof.Rows L2 RZ
section
variable {X : Cx} {G : Gh} {tg e e2 : Expr} {wa : WE} {wr : WA} {ca : Nat} {pos p : Pos}
theorem walk_list {tg : Expr} {K : PySem.W.Frag} {a : Addr} {ds : List D} : Walk tg (Itl K a) [fx (.ref a) (.list ds)] ds where
  go := fun w i h hi => by
    cases h _ (List.mem_singleton.mpr rfl) with
    | @lst _ xs _ _ hr rl => exact ⟨xs, xs[i]'(by rw [rl.length]; exact hi), SqL.of hr, List.getElem?_eq_getElem _⟩
  stop := fun w i h hi => by
    cases h _ (List.mem_singleton.mpr rfl) with
    | @lst _ xs _ _ hr rl => exact ⟨xs, SqL.of hr, by rw [rl.length]; exact hi⟩
  yld := fun w i x H' wk h hi hy => by
    obtain ⟨rfl, q⟩ := hy
    cases h _ (List.mem_singleton.mpr rfl) with
    | @lst _ xs _ _ hr rl =>
      obtain ⟨d, h1, h2⟩ := rl.getV (q xs (SqL.of hr))
      exact ⟨Same.refl _, d, h1, Yt.of h2⟩
theorem walk_tup {tg : Expr} {K : PySem.W.Frag} {a : Addr} {ds : List D} : Walk tg (Itt K a) [fx (.ref a) (.tuple ds)] ds where
  go := fun w i h hi => by
    cases h _ (List.mem_singleton.mpr rfl) with
    | @tup _ xs _ _ hr rl => exact ⟨xs, xs[i]'(by rw [rl.length]; exact hi), hr.sq, List.getElem?_eq_getElem _⟩
  stop := fun w i h hi => by
    cases h _ (List.mem_singleton.mpr rfl) with
    | @tup _ xs _ _ hr rl => exact ⟨xs, hr.sq, by rw [rl.length]; exact hi⟩
  yld := fun w i x H' wk h hi hy => by
    obtain ⟨rfl, q⟩ := hy
    cases h _ (List.mem_singleton.mpr rfl) with
    | @tup _ xs _ _ hr rl =>
      obtain ⟨d, h1, h2⟩ := rl.getV (q xs (hr.sq))
      exact ⟨Same.refl _, d, h1, Yt.of h2⟩
def rangeD (lo : Int) (n : Nat) : List D := (List.range n).map fun i => .int (lo + (i : Nat))
theorem rangeD_length (lo : Int) (n : Nat) : (rangeD lo n).length = n := by simp [rangeD]
theorem walk_range {tg : Expr} (lo : Int) (n : Nat) : Walk tg (Itr lo n) [] (rangeD lo n) where
  go := fun w i h hi => by rw [rangeD_length] at hi; exact hi
  stop := fun w i h hi => by rw [rangeD_length] at hi; exact hi
  yld := fun w i x H' wk h hi hy => by
    obtain ⟨rfl, rfl⟩ := hy
    rw [rangeD_length] at hi
    refine ⟨Same.refl _, .int (lo + i), ?_, Yt.of (.int _)⟩
    simp [rangeD, hi]
theorem zip_get {α : Type} {f : D → D → α} {a b : List D} {i : Nat} {x y : D} (h1 : a[i]? = some x) (h2 : b[i]? = some y) : (List.zipWith f a b)[i]? = some (f x y) := by
  rw [List.getElem?_zipWith, h1, h2]
def pairD (x y : D) : D := .tuple [x, y]
theorem zip_lt {a b : List D} {i : Nat} (h : i < (List.zipWith pairD a b).length) : i < a.length ∧ i < b.length := by
  rw [List.length_zipWith] at h; omega
theorem newPair {w : Wd} (k : Wk w) {T : Addr} {x y : V} {d e : D} (n : w.H T = none) (r1 : Rp w x d) (r2 : Rp w y e) : Ry ⟨upd w.H T (.tup [x, y]), w.M, w.C⟩ (.ref T) (pairD d e) := .pr (.inl upd_same) (.cons (r1.st (St1.same (same_new n))) (.cons (r2.st (St1.same (same_new n))) .nil))
theorem walk_zipL {elts : List Expr} {kk : Nat} {tpos : Pos} {K : PySem.W.Frag} {a b : Addr} {ds es : List D} : Walk (.Tuple elts kk tpos) (Itz K a b) [fx (.ref a) (.list ds), fx (.ref b) (.list es)] (List.zipWith pairD ds es) where
  go := fun w i h hi => by
    obtain ⟨l1, l2⟩ := zip_lt hi
    cases h _ (List.mem_cons_self ..) with
    | @lst _ xs _ _ hr rl =>
      cases h _ (List.mem_cons_of_mem _ (List.mem_singleton.mpr rfl)) with
      | @lst _ ys _ _ hr2 rl2 => exact ⟨xs, ys, xs[i]'(by rw [rl.length]; exact l1), ys[i]'(by rw [rl2.length]; exact l2), SqL.of hr, SqL.of hr2, List.getElem?_eq_getElem _, List.getElem?_eq_getElem _⟩
  stop := fun w i h hi => by
    rw [List.length_zipWith] at hi
    cases h _ (List.mem_cons_self ..) with
    | @lst _ xs _ _ hr rl =>
      cases h _ (List.mem_cons_of_mem _ (List.mem_singleton.mpr rfl)) with
      | @lst _ ys _ _ hr2 rl2 =>
        refine ⟨xs, ys, SqL.of hr, SqL.of hr2, ?_⟩
        rw [rl.length, rl2.length]; omega
  yld := fun w i x H' wk h hi hy => by
    obtain ⟨T, x1, y1, rfl, nT, rfl, q1, q2⟩ := hy
    cases h _ (List.mem_cons_self ..) with
    | @lst _ xs _ _ hr rl =>
      cases h _ (List.mem_cons_of_mem _ (List.mem_singleton.mpr rfl)) with
      | @lst _ ys _ _ hr2 rl2 =>
        obtain ⟨d1, g1, r1⟩ := rl.getV (q1 xs (SqL.of hr))
        obtain ⟨d2, g2, r2⟩ := rl2.getV (q2 ys (SqL.of hr2))
        exact ⟨same_new nT, pairD d1 d2, zip_get g1 g2, newPair wk.1 nT r1 r2⟩
theorem walk_zipT {elts : List Expr} {kk : Nat} {tpos : Pos} {K : PySem.W.Frag} {a b : Addr} {ds es : List D} : Walk (.Tuple elts kk tpos) (ItzT K a b) [fx (.ref a) (.tuple ds), fx (.ref b) (.tuple es)] (List.zipWith pairD ds es) where
  go := fun w i h hi => by
    obtain ⟨l1, l2⟩ := zip_lt hi
    cases h _ (List.mem_cons_self ..) with
    | @tup _ xs _ _ hr rl =>
      cases h _ (List.mem_cons_of_mem _ (List.mem_singleton.mpr rfl)) with
      | @tup _ ys _ _ hr2 rl2 => exact ⟨xs, ys, xs[i]'(by rw [rl.length]; exact l1), ys[i]'(by rw [rl2.length]; exact l2), hr.sq, hr2.sq, List.getElem?_eq_getElem _, List.getElem?_eq_getElem _⟩
  stop := fun w i h hi => by
    rw [List.length_zipWith] at hi
    cases h _ (List.mem_cons_self ..) with
    | @tup _ xs _ _ hr rl =>
      cases h _ (List.mem_cons_of_mem _ (List.mem_singleton.mpr rfl)) with
      | @tup _ ys _ _ hr2 rl2 =>
        refine ⟨xs, ys, hr.sq, hr2.sq, ?_⟩
        rw [rl.length, rl2.length]; omega
  yld := fun w i x H' wk h hi hy => by
    obtain ⟨T, x1, y1, rfl, nT, rfl, q1, q2⟩ := hy
    cases h _ (List.mem_cons_self ..) with
    | @tup _ xs _ _ hr rl =>
      cases h _ (List.mem_cons_of_mem _ (List.mem_singleton.mpr rfl)) with
      | @tup _ ys _ _ hr2 rl2 =>
        obtain ⟨d1, g1, r1⟩ := rl.getV (q1 xs (hr.sq))
        obtain ⟨d2, g2, r2⟩ := rl2.getV (q2 ys (hr2.sq))
        exact ⟨same_new nT, pairD d1 d2, zip_get g1 g2, newPair wk.1 nT r1 r2⟩
def enumD : Nat → List D → List D
  | _, [] => []
  | i, d :: r => pairD (.int (i : Nat)) d :: enumD (i + 1) r
theorem enumD_length : ∀ (i : Nat) (ds : List D), (enumD i ds).length = ds.length
  | _, [] => rfl
  | i, d :: r => by rw [enumD, List.length_cons, List.length_cons, enumD_length]
theorem enumD_get : ∀ (i : Nat) (ds : List D) (j : Nat) (d : D), ds[j]? = some d → (enumD i ds)[j]? = some (pairD (.int ((i + j : Nat) : Int)) d)
  | _, [], _, _, h => by simp at h
  | i, d :: r, 0, _, h => by simp at h; subst h; rfl
  | i, d :: r, j + 1, _, h => by
    simp only [List.getElem?_cons_succ] at h
    simp only [enumD, List.getElem?_cons_succ]
    rw [enumD_get (i + 1) r j _ h, show i + 1 + j = i + (j + 1) by omega]
theorem walk_enumL {elts : List Expr} {kk : Nat} {tpos : Pos} {K : PySem.W.Frag} {a : Addr} {ds : List D} : Walk (.Tuple elts kk tpos) (Ite K a) [fx (.ref a) (.list ds)] (enumD 0 ds) where
  go := fun w i h hi => by
    rw [enumD_length] at hi
    cases h _ (List.mem_singleton.mpr rfl) with
    | @lst _ xs _ _ hr rl => exact ⟨xs, xs[i]'(by rw [rl.length]; exact hi), SqL.of hr, List.getElem?_eq_getElem _⟩
  stop := fun w i h hi => by
    rw [enumD_length] at hi
    cases h _ (List.mem_singleton.mpr rfl) with
    | @lst _ xs _ _ hr rl => exact ⟨xs, SqL.of hr, by rw [rl.length]; exact hi⟩
  yld := fun w i x H' wk h hi hy => by
    obtain ⟨T, x1, rfl, nT, rfl, q⟩ := hy
    cases h _ (List.mem_singleton.mpr rfl) with
    | @lst _ xs _ _ hr rl =>
      obtain ⟨d, h1, h2⟩ := rl.getV (q xs (SqL.of hr))
      have g := enumD_get 0 ds i d h1
      rw [Nat.zero_add] at g
      exact ⟨same_new nT, _, g, newPair wk.1 nT (.int _) h2⟩

theorem PI_imp {tg iter : Expr} {t t' : TI} (h : PI X tg iter t) (i : ∀ σ H R, t' σ H R → t σ H R) : PI X tg iter t' := ⟨fun pins s σ H R I q => h.run pins s σ H R I (i σ H R q)⟩
/-- lists and tuples have their bounds -/
def Szd (H : Hp) : Prop := (∀ a xs, H a = some (.lst xs) → xs.length ≤ sizeLine) ∧ ∀ a xs, Rd H a (.tup xs) → xs.length ≤ sizeLine
theorem szd_of {pins : List (Addr × Obj)} {σ : L2.St} {H : Hp} {s : Shared} (I : Inv X pins σ H s) : Szd H := ⟨fun a xs h => (I.hok a _ h).1, fun a xs h => (h.ok I.hok).1⟩
theorem size_many {n : Nat} (h : n ≤ sizeLine) : n ≤ many := Nat.le_trans h (by decide +kernel)
theorem PI_sz {tg iter : Expr} {t t' : TI} (h : PI X tg iter t) (i : ∀ σ H R, t' σ H R → t σ H fun J H1 => Szd H1 → R J H1) : PI X tg iter t' := ⟨fun pins s σ H R I q => thn (h.run pins s σ H _ I (i σ H R q)) fun v s1 hq => thn hq fun itv s2 pie => by
  obtain ⟨it, fp, tn, J, H', e, I', T, z, f, r⟩ := pie
  exact ⟨it, fp, tn, J, H', e, I', T, z, f, r (szd_of I')⟩⟩
/-- what a list or a tuple holds -/
def seqD : D → Option (List D)
  | .list ds => some ds
  | .tuple ds => some ds
  | _ => none
def wSrc (wa : WE) : WI := fun env P => wa env fun x => ∃ ds, x.kept.bind seqD = some ds ∧ P ds
theorem di_val (he : DE X G e wa ca) : DI X G tg e (wSrc wa) ca := by
  refine ⟨fun pins s σ H R I h => ?_⟩
  obtain ⟨env, M, C, b0, P, hb0, er, hw, hf⟩ := h
  refine thn (he.run pins s σ H (fun v H1 => ∃ w' d ds, w'.H = H1 ∧ Rp w' v d ∧ seqD d = some ds ∧ ∀ (J : It) (l : List Fx), (∀ p ∈ l, p.P w') → Walk tg J l ds → ds.length ≤ many → R J H1) I ⟨env, M, C, b0, _, hb0, er, hw, fun dv hd b' w' v hb' er' e' r => ?_⟩) fun u s1 hq => ?_
  · obtain ⟨ds, h1, p⟩ := hd
    obtain ⟨d, h2, h3⟩ := Option.bind_eq_some_iff.mp h1
    exact ⟨w', d, ds, rfl, r.rp h2, h3, fun J l hl wk hz => hf ds p b' w' J l hb' er' e' hl wk hz⟩
  · obtain ⟨x, H1, I1, r1, w', d, ds, rfl, rp, hd, go⟩ := hq
    have fin : ∀ b, b ∈ [s1.heap.objs.size] → FpOk X pins w'.H b := fun b hb => by
      have eb : b = s1.heap.objs.size := List.mem_singleton.mp hb
      rw [eb]
      exact I1.fpOk (Nat.le_refl _) (I1.hok.fresh (Nat.le_refl _))
    cases d with
    | list ds' =>
      cases hd
      cases rp with
      | @lst a xs _ nm hr rl =>
        cases r1
        obtain ⟨its, rv, pl, _⟩ := I1.list (SqL.of hr)
        refine wpAny_pyIter_list pl.isList ⟨_, [s1.heap.objs.size], _, Itl X.K a, w'.H, rfl, I1.kept (t' := s1.toks) fun b o q => Heap.get?_push_of_some _ q, turn_list a _, ⟨_, Heap.get?_push_size _ rfl, rfl, rfl⟩, fin, ?_⟩
        exact go _ [fx (.ref a) (.list ds)] (fun p hp => by rw [List.mem_singleton.mp hp]; exact .lst nm hr rl) walk_list (by rw [← rl.length]; exact size_many ((szd_of I1).1 _ _ hr))
    | tuple ds' =>
      cases hd
      cases rp with
      | @tup a xs _ nm hr rl =>
        cases r1
        obtain ⟨its, rv, pl, _⟩ := I1.tuple (hr.sq)
        refine wpAny_pyIter_tuple (show s1.heap.IsTuple a its.toArray from pl) ⟨_, [s1.heap.objs.size], _, Itt X.K a, w'.H, rfl, I1.kept (t' := s1.toks) fun b o q => Heap.get?_push_of_some _ q, turn_tuple a _, ⟨_, Heap.get?_push_size _ rfl, rfl, rfl⟩, fin, ?_⟩
        exact go _ [fx (.ref a) (.tuple ds)] (fun p hp => by rw [List.mem_singleton.mp hp]; exact .tup nm hr rl) walk_tup (by rw [← rl.length]; exact size_many ((szd_of I1).2 _ _ hr.rd))
    | _ => cases hd
/-- range(n), range(a, b) -/
def rng1 : List D → Option (List D)
  | [.int j] => if -(2 ^ 62) ≤ j ∧ j < 2 ^ 62 then some (rangeD 0 j.toNat) else none
  | _ => none
def rng2 : List D → Option (List D)
  | [.int i, .int j] => if -(2 ^ 62) ≤ i ∧ i < 2 ^ 62 ∧ -(2 ^ 62) ≤ j ∧ j < 2 ^ 62 then some (rangeD i (j - i).toNat) else none
  | _ => none
def wRng (f : List D → Option (List D)) (wr : WA) : WI := fun env P => wr env fun xs => ∃ ds, (valL xs).bind f = some ds ∧ P ds
theorem tA.src {K : Ev → List Dv → (List D → Prop) → Prop} {σ : L2.St} {H : Hp} {R : It → Hp → Prop} {R' : List V → Hp → Prop} (h : tI tg G (fun env P => wr env fun x => K env x P) ca σ H R)
    (fin : ∀ {b : Nat} env w x dx P, ER (G.at b) w env σ → VRs G H w x dx → K env dx P → (∀ ds, P ds → ∀ (J : It) (l : List Fx), (∀ p ∈ l, p.P w) → Walk tg J l ds → ds.length ≤ many → R J w.H) → R' x w.H) : tA G wr ca σ H R' := by
  obtain ⟨env, M, C, b0, P, hb0, er, hw, hf⟩ := h
  exact ⟨env, M, C, b0, _, hb0, er, hw, fun dx hx b1 w1 x hb1 er1 e1 r1 => fin env w1 x dx P er1 r1 hx fun ds p J l hl wk hz => hf ds p b1 w1 J l hb1 er1 e1 hl wk hz⟩
theorem rng1_get {es ds : List D} (h : rng1 es = some ds) : ∃ j, es = [.int j] ∧ (-(2 ^ 62) ≤ j ∧ j < 2 ^ 62) ∧ ds = rangeD 0 j.toNat := by
  unfold rng1 at h
  split at h
  · obtain ⟨c, rfl⟩ := of_if h
    exact ⟨_, rfl, c, rfl⟩
  · cases h
theorem rng2_get {es ds : List D} (h : rng2 es = some ds) : ∃ i j, es = [.int i, .int j] ∧ (-(2 ^ 62) ≤ i ∧ i < 2 ^ 62 ∧ -(2 ^ 62) ≤ j ∧ j < 2 ^ 62) ∧ ds = rangeD i (j - i).toNat := by
  unfold rng2 at h
  split at h
  · obtain ⟨c, rfl⟩ := of_if h
    exact ⟨_, _, rfl, c, rfl⟩
  · cases h
theorem di_range1 (hg : Gl X "range") (hm : X.mg "range" = none) (ha : DA X G [e] wr ca) (hs : starEach [e] X.env = [(false, eval e X.env)] := by rfl) : DI X G tg (.Call (.Name "range" p) [e] [] pos) (wRng rng1 wr) ca :=
  PI_imp (pi_range1 hg hm ha hs) fun σ H R h => tA.src h fun env w xs dxs P er rs k go => by
    obtain ⟨ds, h1, pp⟩ := k
    obtain ⟨es, h2, h3⟩ := Option.bind_eq_some_iff.mp h1
    obtain ⟨j, rfl, c, rfl⟩ := rng1_get h3
    cases rs.rq h2 with
    | cons a b =>
      cases a; cases b
      exact ⟨j, rfl, c.1, c.2, go _ pp _ [] (fun p hp => nomatch hp) (walk_range 0 j.toNat) (by rw [rangeD_length]; show j.toNat ≤ 2 ^ 64; omega)⟩
theorem di_range2 (hg : Gl X "range") (hm : X.mg "range" = none) (ha : DA X G [e, e2] wr ca) (hs : starEach [e, e2] X.env = [(false, eval e X.env), (false, eval e2 X.env)] := by rfl) (hs2 : starEach [e2] X.env = [(false, eval e2 X.env)] := by rfl) : DI X G tg (.Call (.Name "range" p) [e, e2] [] pos) (wRng rng2 wr) ca :=
  PI_imp (pi_range2 hg hm ha hs hs2) fun σ H R h => tA.src h fun env w xs dxs P er rs k go => by
    obtain ⟨ds, h1, pp⟩ := k
    obtain ⟨es, h2, h3⟩ := Option.bind_eq_some_iff.mp h1
    obtain ⟨i, j, rfl, c, rfl⟩ := rng2_get h3
    cases rs.rq h2 with
    | cons a b =>
      cases a
      cases b with
      | cons a b =>
        cases a; cases b
        exact ⟨i, j, rfl, c, go _ pp _ [] (fun p hp => nomatch hp) (walk_range i _) (by rw [rangeD_length]; show (j - i).toNat ≤ 2 ^ 64; omega)⟩
/-- zip of two lists, of two tuples -/
def zipD : List D → Option (List D)
  | [.list a, .list b] => some (List.zipWith pairD a b)
  | [.tuple a, .tuple b] => some (List.zipWith pairD a b)
  | _ => none
def wZip (wr : WA) : WI := fun env P => wr env fun xs => ∃ ds, (keptL xs).bind zipD = some ds ∧ P ds
theorem di_zip {elts : List Expr} {kk : Nat} {tpos : Pos} (hg : Gl X "zip") (hm : X.mg "zip" = none) (ha : DA X G [e, e2] wr ca) (hs : starEach [e, e2] X.env = (false, eval e X.env) :: starEach [e2] X.env := by rfl) (hpl : (backTo pos (starEach [e2] X.env)).any (·.1) = false := by rfl) :
    DI X G (.Tuple elts kk tpos) (.Call (.Name "zip" p) [e, e2] [] pos) (wZip wr) ca :=
  PI_sz (pi_zipA hg hm ha hs hpl) fun σ H R h => tA.src h fun env w xs dxs P er rs k go => by
    obtain ⟨ds, h1, pp⟩ := k
    obtain ⟨es, h2, h3⟩ := Option.bind_eq_some_iff.mp h1
    have rp := rs.rp h2
    unfold zipD at h3
    split at h3
    · cases h3
      cases rp with
      | cons a b =>
        cases b with
        | cons a2 b =>
          cases b
          have w1 := a
          have w2 := a2
          cases a with
          | lst n1 g1 q1 =>
            cases a2 with
            | lst n2 g2 q2 =>
              exact ⟨_, _, _, _, rfl, .inl ⟨SqL.of g1, SqL.of g2, fun sz => go _ pp _ _ (fun p hp => by
                rcases List.mem_cons.mp hp with rfl | hp
                · exact w1
                · rw [List.mem_singleton.mp hp]; exact w2) walk_zipL (by rw [List.length_zipWith, ← q1.length]; exact Nat.le_trans (Nat.min_le_left _ _) (size_many (sz.1 _ _ g1)))⟩⟩
    · cases h3
      cases rp with
      | cons a b =>
        cases b with
        | cons a2 b =>
          cases b
          have w1 := a
          have w2 := a2
          cases a with
          | tup n1 g1 q1 =>
            cases a2 with
            | tup n2 g2 q2 =>
              exact ⟨_, _, _, _, rfl, .inr ⟨g1.sq, g2.sq, fun sz => go _ pp _ _ (fun p hp => by
                rcases List.mem_cons.mp hp with rfl | hp
                · exact w1
                · rw [List.mem_singleton.mp hp]; exact w2) walk_zipT (by rw [List.length_zipWith, ← q1.length]; exact Nat.le_trans (Nat.min_le_left _ _) (size_many (sz.2 _ _ g1.rd)))⟩⟩
    · cases h3
end
end DL
namespace DL
open PySem PySem.Spec PyProof.Rows L2

def wipeE (env : Ev) : List Nat → Ev
  | [] => env
  | v :: vs => (wipeE env vs).set v .no
theorem ER.wipe {G : Gh} {w : Wd} {env : Ev} {σ : L2.St} (er : ER G w env σ) : ∀ vs : List Nat, ER G w (wipeE env vs) (L2.wipe σ vs)
  | [] => er
  | v :: vs => (ER.wipe er vs).setNo v
theorem wipe_in {σ : L2.St} {i : Nat} : ∀ {vs : List Nat}, i ∈ vs → i < σ.length → (L2.wipe σ vs)[i]? = some none
  | v :: vs, h, hl => by
    unfold L2.wipe
    by_cases e : v = i
    · subst e
      rw [List.getElem?_set_self (by rw [wipe_length]; exact hl)]
    · rw [List.getElem?_set_ne e]
      rcases List.mem_cons.mp h with q | q
      · exact absurd q.symm e
      · exact wipe_in q hl
theorem wipe_eqx {σ σ' : L2.St} {ix vs : List Nat} (h : Eqx ix (L2.wipe σ vs) σ') (hs : ∀ i ∈ ix, i ∈ vs) : L2.wipe σ' vs = L2.wipe σ vs := by
  have hl : σ'.length = σ.length := by rw [h.1, wipe_length]
  refine List.ext_getElem? fun i => ?_
  by_cases hi : i ∈ vs
  · by_cases hb : i < σ.length
    · rw [wipe_in hi (by rw [hl]; exact hb), wipe_in hi hb]
    · rw [List.getElem?_eq_none (by rw [wipe_length]; omega), List.getElem?_eq_none (by rw [wipe_length]; omega)]
  · rw [wipe_out hi]
    exact h.2 i fun z => hi (hs i z)
theorem EH.poke {G : Gh} {w : Wd} {a : Addr} {o : HO} (h : EH G w) (m : w.M a) (c : ¬ w.C a) (p : G.Pt a = none) (nt : ∀ xs, o ≠ .tup xs) : EH G ⟨upd w.H a o, w.M, w.C⟩ := by
  have ne : ∀ b x, G.Pt b = some x → b ≠ a := fun b x q z => by rw [z, p] at q; cases q
  have st : St1 w ⟨upd w.H a o, w.M, w.C⟩ := ⟨fun b x n q => .inl (by show upd w.H a o b = some x; rw [upd_ne (fun z => n (by rw [z]; exact m))]; exact q), fun b m => .inl m⟩
  have up : ∀ b, w.H b ≠ none → upd w.H a o b ≠ none := fun b q => by
    by_cases z : b = a
    · rw [z, upd_same]; simp
    · rw [upd_ne z]; exact q
  refine ⟨fun b x q => ?_, h.m0, h.nc, h.cp, h.cm, fun b q => up b (h.md b q), fun b q => up b (h.hd b q), fun p hp => p.st _ _ st (h.gk p hp), G.stab _ _ _ _ h.si fun b x q z => ?_, fun b xs q z => ?_⟩
  · show upd w.H a o b = some x ∨ _
    rw [upd_ne (ne b x q)]
    exact (h.kp b x q).elim .inl fun ⟨q1, q2, ob, q3⟩ => .inr ⟨q1, q2, ob, by show upd w.H a o b = _; rw [upd_ne (ne b x q)]; exact q3⟩
  · show upd w.H a o b = some x
    rw [upd_ne (fun y => c (by rw [← y]; exact q))]; exact z
  · have z' : upd w.H a o b = some (.tup xs) := z
    by_cases y : b = a
    · rw [y, upd_same] at z'; exact nt xs (Option.some.inj z')
    · rw [upd_ne y] at z'; exact h.mt b xs q z'
section
variable {X : Cx} {G : Gh} {elt tg iter : Expr} {ifs : List Expr} {scope : Scope} {own : List (Str × Nat)} {pos : Pos} {ix : List Nat} {wi : WI} {gd : GD} {wt : WT} {we : WE} {ci ct ce : Nat}
def wYes : WT := fun _ P => P true
theorem dts_nil : PTs X [] (tT G wYes 0) := ⟨fun pins s σ H Q I h => pts_nil.run pins s σ H Q I (by
  obtain ⟨env, M, C, b0, P, hb0, er, p, hf⟩ := h
  exact hf _ p b0 _ (Nat.le_refl _) er (Ext.refl _))⟩
theorem dts_one {c : Expr} (h : DT X G c wt ct) : PTs X [c] (tT G wt ct) := pts_one h
def wLcL (gd : GD) (wt : WT) (we : WE) (env : Ev) (P : Dv → Prop) : List D → List D → Prop
  | [], acc => P (.nw (.list acc))
  | d :: r, acc => ∃ env', gd d env = some env' ∧ wt env' fun b => if b = true then we env' fun y => ∃ dy, y.kept = some dy ∧ acc.length < sizeLine ∧ wLcL gd wt we env P r (acc ++ [dy]) else wLcL gd wt we env P r acc
def wLc (wi : WI) (gd : GD) (wt : WT) (we : WE) (vs : List Nat) : WE := fun env P => wi env fun ds => wLcL gd wt we (wipeE env vs) P ds []
/-- the readings with the values that are walked kept aside -/
def gE (tg : Expr) (G : Gh) (ix : List Nat) (gd : GD) : TG := fun v σ H Q => ∃ l, tG tg (G.more l) ix gd v σ H Q
def ttE (G : Gh) (wt : WT) (ct : Nat) : TT := fun σ H Q => ∃ l, tT (G.more l) wt ct σ H Q
def teE (G : Gh) (we : WE) (ce : Nat) : TE := fun σ H Q => ∃ l, tV (G.more l) we ce σ H Q
theorem rdLc {vs : List Nat} {σ : L2.St} {H : Hp} {Q : VK} (h : tV G (wLc wi gd wt we vs) (ci + many * (ct + ce)) σ H Q) (hix : ∀ i ∈ ix, i ∈ vs) : tLc (tI tg G wi ci) (gE tg G ix gd) (ttE G wt ct) (teE G we ce) vs σ H Q := by
  obtain ⟨env, M, C, b0, P, hb0, er, hw, hf⟩ := h
  refine ⟨env, M, C, b0, _, by omega, er, hw, fun ds hds b1 w1 J l hb1 er1 e1 hl wk hz L nL => ?_⟩
  have hz' := le_many (a := ct + ce) hz
  have nM1 : ¬ w1.M L := fun m => er1.md L m nL
  have nC1 : ¬ w1.C L := fun c => nM1 (er1.cm L c)
  have pL : G.Pt L = none := by
    cases q : G.Pt L with
    | none => rfl
    | some x => rcases er1.kp L x q with z | ⟨_, _, ob, z⟩ <;> (rw [nL] at z; cases z)
  refine ⟨fun i m H => m = ds.length - i ∧ i ≤ ds.length ∧ ∃ (M C : Addr → Prop) (b : Nat) (accV : List V) (acc : List D), b + m * (ct + ce) ≤ b1 + ds.length * (ct + ce) ∧ ER ((G.more l).at b) ⟨H, M, C⟩ (wipeE env vs) (L2.wipe σ vs) ∧ Ext w1 ⟨H, M, C⟩ ∧ M L ∧ ¬ C L ∧ H L = some (.lst accV) ∧ RpL ⟨H, M, C⟩ accV acc ∧ wLcL gd wt we (wipeE env vs) P (ds.drop i) acc, ?_, fun i m H2 hW => ?_⟩
  · refine ⟨ds.length, by simp, Nat.zero_le _, fun b => w1.M b ∨ b = L, w1.C, b1, [], [], Nat.le_refl _, ?_, ?_, .inr rfl, nC1, upd_same, .nil, hds⟩
    · exact ((er1.more hl).ext' (Ext.plus (same_new nL) nL) ((er1.more hl).toEH.plus (same_new nL) nL (by rw [upd_same]; simp) (fun _ => by rw [upd_same]; exact fun z => nomatch z))).wipe vs
    · exact Ext.plus (same_new nL) nL
  · obtain ⟨rfl, hi, M2, C2, b2, accV, acc, hb2, er2, e2, mL, cL, hL, rl, hw2⟩ := hW
    have ok2 := er2.toEH.those
    by_cases hlt : i < ds.length
    · rw [List.drop_eq_getElem_cons hlt] at hw2
      obtain ⟨env3, hg3, hw3⟩ := hw2
      have hb2' : b2 + (ds.length - (i + 1)) * (ct + ce) + (ct + ce) ≤ b1 + ds.length * (ct + ce) := by
        rw [show ds.length - i = (ds.length - (i + 1)) + 1 by omega, Nat.add_mul, Nat.one_mul] at hb2; omega
      refine .inr ⟨wk.go ⟨H2, M2, C2⟩ i ok2 hlt, fun H' => ∃ (M C : Addr → Prop) (b : Nat) (accV : List V) (acc : List D), b + (ds.length - (i + 1)) * (ct + ce) ≤ b1 + ds.length * (ct + ce) ∧ ER ((G.more l).at b) ⟨H', M, C⟩ (wipeE env vs) (L2.wipe σ vs) ∧ Ext w1 ⟨H', M, C⟩ ∧ M L ∧ ¬ C L ∧ H' L = some (.lst accV) ∧ RpL ⟨H', M, C⟩ accV acc ∧ wLcL gd wt we (wipeE env vs) P (ds.drop (i + 1)) acc,
        fun H' q => ⟨ds.length - (i + 1), by omega, rfl, hlt, q⟩, fun x H' hy => ?_⟩
      obtain ⟨sm, d, hd, rx⟩ := wk.yld ⟨H2, M2, C2⟩ i x H' ⟨er2.md, er2.mt⟩ ok2 hlt hy
      have hd' : d = ds[i] := by rw [List.getElem?_eq_getElem hlt] at hd; exact (Option.some.inj hd).symm
      subst hd'
      have hL' : H' L = some (.lst accV) := sm _ _ hL
      refine ⟨l, wipeE env vs, env3, M2, C2, b2, ds[i], er2.same sm, rx, hg3, fun σ3 er3 x3 => ⟨wipe_eqx x3 hix, l, env3, M2, C2, b2, _, by omega, er3, hw3, fun b hb b4 w4 hb4 er4 e4 => ?_⟩⟩
      have ex4 : Ext w1 w4 := (e2.trans (Ext.same (w := ⟨H2, M2, C2⟩) sm)).trans e4
      have cL4 : ¬ w4.C L := fun c => (e4.newC L c).elim cL fun q => by have q' : H' L = none := q; rw [hL'] at q'; cases q'
      have hL4 : w4.H L = some (.lst accV) := e4.own (w := ⟨H', M2, C2⟩) cL mL hL'
      have rl4 : RpL w4 accV acc := (rl.st (St1.same (w := ⟨H2, M2, C2⟩) sm)).st (e4.st er3.cm)
      have back : ∀ {b5 : Nat} {w5 : Wd}, EH ((G.more l).at b5) w5 → Ext w1 w5 → ER ((G.more l).at b5) w5 (wipeE env vs) (L2.wipe σ vs) := fun {b5 w5} eh5 e5 => by
        have z := ((er1.wipe vs).ext' e5 eh5.fewer)
        exact ⟨eh5, z.len, z.sl, z.od⟩
      cases b with
      | false =>
        rw [if_neg Bool.false_ne_true] at hb
        refine iteF ?_
        exact ⟨w4.M, w4.C, b4, accV, acc, by omega, back er4.toEH ex4, ex4, e4.oldM L mL, cL4, hL4, rl4, hb⟩
      | true =>
        rw [if_pos rfl] at hb
        refine iteT ?_
        refine ⟨l, env3, w4.M, w4.C, b4, _, by omega, er4, hb, fun y hy b5 w5 v5 hb5 er5 e5 r5 => ?_⟩
        obtain ⟨dy, hk, hz5, hn⟩ := hy
        have ex5 := ex4.trans e5
        have mL4 : w4.M L := e4.oldM L mL
        have cL5 : ¬ w5.C L := fun c => (e5.newC L c).elim cL4 fun q => by rw [hL4] at q; cases q
        have hL5 : w5.H L = some (.lst accV) := e5.own cL4 mL4 hL4
        have mL5 : w5.M L := e5.oldM L mL4
        have rl5 : RpL w5 accV acc := rl4.st (e5.st er4.cm)
        have ry : Rp w5 v5 dy := r5.rp hk
        have ex6 : Ext w1 ⟨upd w5.H L (.lst (accV ++ [v5])), w5.M, w5.C⟩ := by
          refine ⟨fun a o n h => ?_, fun a h => ?_, ex5.newC, ex5.newM, ex5.oldM⟩
          · have ne : a ≠ L := fun z => by rw [z, nL] at h; cases h
            show upd w5.H L _ a = some o ∨ _
            rw [upd_ne ne]
            exact (ex5.keep a o n h).elim .inl fun ⟨q1, q2, ob, q3⟩ => .inr ⟨q1, q2, ob, by show upd w5.H L _ a = _; rw [upd_ne ne]; exact q3⟩
          · have ne : a ≠ L := fun z => h (by rw [z]; exact nL)
            show upd w5.H L _ a ≠ none
            rw [upd_ne ne]
            exact ex5.dom a h
        have st : St1 w5 ⟨upd w5.H L (.lst (accV ++ [v5])), w5.M, w5.C⟩ := ⟨fun a o n h => .inl (by show upd w5.H L _ a = some o; rw [upd_ne (fun z => n (by rw [z]; exact mL5))]; exact h), fun a m => .inl m⟩
        exact ⟨accV, hL5, by rw [rl5.length]; exact hz5, w5.M, w5.C, b5, accV ++ [v5], acc ++ [dy], by omega, back (er5.toEH.poke mL5 cL5 pL (fun _ z => nomatch z)) ex6, ex6, mL5, cL5, upd_same, (rl5.append (.cons ry .nil)).st st, hn⟩
    · rw [List.drop_eq_nil_of_le (by omega)] at hw2
      refine .inl ⟨wk.stop ⟨H2, M2, C2⟩ i ok2 (by omega), ?_⟩
      -- the new list is nobody's own any more
      have eh := er2.toEH.fewer
      have nw1 : ∀ a, w1.M a → a ≠ L := fun a m z => nM1 (by rw [← z]; exact m)
      have st : St1 ⟨H2, M2, C2⟩ ⟨H2, fun a => M2 a ∧ a ≠ L, C2⟩ := ⟨fun a o _ h => .inl h, fun a m => .inl m.1⟩
      have ex : Ext w1 ⟨H2, fun a => M2 a ∧ a ≠ L, C2⟩ := ⟨fun a o n h => e2.keep a o n h, e2.dom, e2.newC, fun a m => e2.newM a m.1, fun a m => ⟨e2.oldM a m, nw1 a m⟩⟩
      have eh' : EH (G.at b2) ⟨H2, fun a => M2 a ∧ a ≠ L, C2⟩ := ⟨eh.kp, fun a m => ⟨eh.m0 a m, nw1 a (er1.m0 a m)⟩, eh.nc, eh.cp, fun a c => ⟨eh.cm a c, fun z => cL (by rw [← z]; exact c)⟩, fun a m => eh.md a m.1, eh.hd, fun p hp => p.st _ _ st (eh.gk p hp), eh.si, fun a xs m => eh.mt a xs m.1⟩
      have st2 : St1 ⟨H2, M2, C2⟩ (Wd.plus ⟨H2, fun a => M2 a ∧ a ≠ L, C2⟩ L) := ⟨fun a o _ h => .inl h, fun a m => .inl (Or.elim m (fun q => q.1) fun q => by rw [q]; exact mL)⟩
      refine hf _ hw2 b2 ⟨H2, fun a => M2 a ∧ a ≠ L, C2⟩ _ (by rw [show ds.length - i = 0 by omega, Nat.zero_mul] at hb2; omega) (er1.ext' ex eh') (e1.trans ex) ⟨L, rfl, e1.free nL, ⟨fun t => (nomatch t), fun m => (m.2 rfl).elim⟩, cL, .lst hL (rl.st st2)⟩
theorem de_lc {vs : List Nat} (hc : X.calm = true) (hN : X.N.Nodup) (hi : DI X G tg iter wi ci) (ok : BlkOk X.N X.env.scope scope own)
    (hg : ∀ (l : List Fx) (s : Shared) (H : Hp) (C : Addr) (cl : List (Str × Addr)) (fp : List Addr), PG (X.blk s H scope (compEnvC scope cl C X.env) fp) tg (tG tg (G.more l) ix gd))
    (ht : ∀ (l : List Fx) (s : Shared) (H : Hp) (C : Addr) (cl : List (Str × Addr)) (fp : List Addr), PTs (X.blk s H scope (compEnvC scope cl C X.env) fp) ifs (tT (G.more l) wt ct))
    (he : ∀ (l : List Fx) (s : Shared) (H : Hp) (C : Addr) (cl : List (Str × Addr)) (fp : List Addr), DE (X.blk s H scope (compEnvC scope cl C X.env) fp) (G.more l) elt we ce)
    (hix : ∀ i ∈ ix, i ∈ vs) (hs : ∀ x, foldedSetIterable iter X.env x = pure x := by intro _; rfl) (hvs : own.map (·.2) = vs := by rfl) : DE X G (.ListComp elt [⟨tg, iter, ifs, 0⟩] scope pos) (wLc wi gd wt we vs) (ci + many * (ct + ce)) := by
  subst hvs
  exact PE_imp (pe_lc hc hN hi ok (fun s H C cl fp => ⟨fun pins s' σ H' v u Q I r ⟨l, q⟩ => (hg l s H C cl fp).run pins s' σ H' v u Q I r q⟩)
    (fun s H C cl fp => ⟨fun pins s' σ H' Q I ⟨l, q⟩ => (ht l s H C cl fp).run pins s' σ H' Q I q⟩) (fun s H C cl fp => ⟨fun pins s' σ H' Q I ⟨l, q⟩ => (he l s H C cl fp).run pins s' σ H' Q I q⟩) hs) fun σ H Q h => rdLc h hix
theorem ds_setLc (k : Kp) (i : Nat) {vs : List Nat} {y : Str} {py spos : Pos} (hc : X.calm = true) (hN : X.N.Nodup) (hy : X.N[i]? = some y) (hyl : X.env.scope.names.lookup y = some .local)
    (hsw : swapsWith (.ListComp elt [⟨tg, iter, ifs, 0⟩] scope pos) (some (.Name y py)) spos.line X.env = pure true) (hi : DI X G tg iter wi ci) (ok : BlkOk X.N X.env.scope scope own)
    (hg : ∀ (l : List Fx) (s : Shared) (H : Hp) (C : Addr) (cl : List (Str × Addr)) (fp : List Addr), PG (X.blk s H scope (compEnvC scope cl C X.env) fp) tg (tG tg (G.more l) ix gd))
    (ht : ∀ (l : List Fx) (s : Shared) (H : Hp) (C : Addr) (cl : List (Str × Addr)) (fp : List Addr), PTs (X.blk s H scope (compEnvC scope cl C X.env) fp) ifs (tT (G.more l) wt ct))
    (he : ∀ (l : List Fx) (s : Shared) (H : Hp) (C : Addr) (cl : List (Str × Addr)) (fp : List Addr), DE (X.blk s H scope (compEnvC scope cl C X.env) fp) (G.more l) elt we ce)
    (hix : ∀ i ∈ ix, i ∈ vs) (hs : ∀ x, foldedSetIterable iter X.env x = pure x := by intro _; rfl) (hvs : own.map (·.2) = vs := by rfl) : DS X G (.Assign [.Name y py] (.ListComp elt [⟨tg, iter, ifs, 0⟩] scope pos) spos) (wSet k i (wLc wi gd wt we vs)) (ci + many * (ct + ce)) := by
  subst hvs
  exact PS_imp (ps_setLc hc hN hy hyl hsw hi ok (fun s H C cl fp => ⟨fun pins s' σ H' v u Q I r ⟨l, q⟩ => (hg l s H C cl fp).run pins s' σ H' v u Q I r q⟩)
    (fun s H C cl fp => ⟨fun pins s' σ H' Q I ⟨l, q⟩ => (ht l s H C cl fp).run pins s' σ H' Q I q⟩) (fun s H C cl fp => ⟨fun pins s' σ H' Q I ⟨l, q⟩ => (he l s H C cl fp).run pins s' σ H' Q I q⟩) hs) fun σ H T h => rdSet h fun Q q => rdLc q hix
end
end DL
namespace DL
open PySem PySem.Spec PyProof.Rows L2

/-! ### a def's promise, where no repr runs around -/
structure FnG (P : Program) (w : World) (K : PySem.W.Frag) (mg : Str → Option Value) (base : Heap) (CX : CXT) (k : Nat) (f : Addr) (fd : FuncData) (ps : List Str) (sp : Sp) : Prop where
  len : ∀ vs H Q E, sp vs H Q E → vs.length = ps.length
  run : ∀ (A : Around) (outer : List Env) (s : Shared) (H : Hp) (args : Args) (us : List Value) (vs : List V) (Q : VK) (E : XK), A.guards = some [] → Room k A → Env0 P w K mg base A outer s H → BindsTo s fd args (ps.zip us) → Vals vs us → sp vs H Q E →
    codeAny (model P w) A (.call (.ref f) args) (CR CX outer P w H s Q E) s
theorem FnG.mono {P : Program} {w : World} {K : PySem.W.Frag} {mg : Str → Option Value} {base : Heap} {CX : CXT} {j k : Nat} {f : Addr} {fd : FuncData} {ps : List Str} {sp : Sp} (F : FnG P w K mg base CX j f fd ps sp) (h : j ≤ k) : FnG P w K mg base CX k f fd ps sp :=
  ⟨F.len, fun A outer s H args us vs Q E g r => F.run A outer s H args us vs Q E g (r.mono h)⟩
theorem fnG_of {CX : CXT} {P : Program} {w : World} {K : PySem.W.Frag} {mg : Str → Option Value} {base : Heap} {k : Nat} {f : Addr} {name qual : Str} {params : Arguments} {body : List Stmt} {scope : Scope} {dV kV doc pm cdv ct oc : Value} {an od : Option Addr}
    {osl : Array (Option Value)} {N ps : List Str} {sp : Sp} (hlk : K.lookup f = some ⟨oc, od, .func (PySem.W.fnOf name qual params body scope dV kV doc pm an cdv ct), osl⟩) (hco : PySem.W.codeIn K cdv qual = true) (S : FnScope N ps scope)
    (hlen : ∀ vs H Q E, sp vs H Q E → vs.length = ps.length)
    (hb : ∀ (A : Around) (outer : List Env) (s : Shared) (H : Hp) (vs : List V) (Q : VK) (E : XK), A.guards = some [] → Room k (A.deeper (envOfC qual scope s.heap.objs.size f cdv)) → sp vs H Q E →
      ∃ t, PSs (cxOf CX P w K mg base N qual scope f cdv A outer s H E) body t ∧ t { nx := fun _ H' => Q .non H', rt := Q } (L2.start N vs) H) :
    FnG P w K mg base CX (k + 1) f (PySem.W.fnOf name qual params body scope dV kV doc pm an cdv ct) ps sp := by
  refine ⟨hlen, fun A outer s H args us vs Q E hgd hroom env0 hbind hvals hs => ?_⟩
  have inK : K.In s.heap := env0.mod.kin.keeps fun b o q => (env0.bs b o q).1
  have nol : s.heap.NoLimit := env0.mod.nolimit.keeps fun b o q => (env0.bs b o q).1
  have kinds : ∀ y ∈ ps.zip us, scope.names.lookup y.1 = some .local ∨ (scope.names.lookup y.1 = some .cell ∧ ((cellsFrom (s.heap.objs.size + 1) scope.names []).lookup y.1).isSome = true) := by
    rintro ⟨n, v⟩ hy
    exact (S.par n (List.of_mem_zip hy).1).imp id fun q => ⟨q, PySem.W.cellsFrom_some _ _ _ (.inl q)⟩
  refine codeAny_call_function hroom.depth (inK _ _ hlk) rfl S.co S.gen rfl (PySem.W.codeRec_of inK hco) (hbind _ _ _ _ (wpAny_newFunctionEnv_cells S.kind kinds fun env he s1 x => ?_))
  subst he
  refine ⟨nol.keeps x.toInCall.keep, codeAny_func ?_⟩
  obtain ⟨t, pt, ht⟩ := hb A outer s H vs Q E hgd (hroom.deeper _) hs
  have inv0 := inv_start (CX := CX) (E := E) S hroom.hd env0 (hlen _ _ _ _ hs) hvals x
  refine wpAny_mono (pt.run [] s1 (L2.start N vs) H _ inv0 ht) (fun fl s2 q => ?_) fun e s2 q => q
  cases fl with
  | ret u => obtain ⟨v, σ2, H2, J, rv, q⟩ := q; exact ⟨v, H2, J.os, J.bare, J.base, J.hok, rv, q⟩
  | next => obtain ⟨σ2, H2, J, q⟩ := q; exact ⟨.non, H2, J.os, J.bare, J.base, J.hok, rfl, q⟩
  | brk => obtain ⟨_, _, _, q⟩ := q; exact q.elim
  | cont => obtain ⟨_, _, _, q⟩ := q; exact q.elim

/-! ### promises over data -/
inductive Ag where
  | fz (d : D) | bw (d : D) | raw (v : V)
def AR (w : Wd) (v : V) : Ag → Prop
  | .fz d => Rp w v d
  | .bw d => ∃ a, v = .ref a ∧ w.M a ∧ ¬ w.C a ∧ Ow w a d
  | .raw u => v = u
inductive ARs (w : Wd) : List V → List Ag → Prop
  | nil : ARs w [] []
  | cons {v : V} {vs : List V} {a : Ag} {as : List Ag} : AR w v a → ARs w vs as → ARs w (v :: vs) (a :: as)
theorem ARs.length {w : Wd} : ∀ {vs : List V} {as : List Ag}, ARs w vs as → vs.length = as.length
  | _, _, .nil => rfl
  | _, _, .cons _ r => by rw [List.length_cons, List.length_cons, ARs.length r]
def Dv.ag : Dv → Ag
  | .fz d => .fz d
  | .nw d => if isDct d = true then .bw d else .fz d
  | .ow d => .bw d
  | .bw d => .bw d
  | .raw v => .raw v
def Ag.sl : Ag → Sl
  | .fz d => .fz d
  | .bw d => .bw d
  | .raw v => .raw v
theorem VR.ar {G : Gh} {Hs : Hp} {w : Wd} {v : V} {dv : Dv} (h : VR G Hs w v dv) : AR w v dv.ag := by
  cases dv with
  | fz d => exact h
  | nw d =>
    by_cases q : isDct d = true
    · obtain ⟨a, rfl, z, m, n, o⟩ := h
      simp only [Dv.ag, if_pos q]
      exact ⟨a, rfl, m.mp q, n, o.st (St1.less w a) rfl⟩
    · simp only [Dv.ag, if_neg q]
      exact VR.rp h (by simp only [Dv.kept, if_neg q])
  | ow d => obtain ⟨a, e, m, _, _, n, o⟩ := h; exact ⟨a, e, m, n, o⟩
  | bw d => obtain ⟨a, e, m, n, o⟩ := h; exact ⟨a, e, m, n, o⟩
  | raw u => exact h
theorem VRs.ars {G : Gh} {Hs : Hp} {w : Wd} : ∀ {vs : List V} {ds : List Dv}, VRs G Hs w vs ds → ARs w vs (ds.map Dv.ag)
  | _, _, .nil => .nil
  | _, _, .cons h r => .cons h.ar (VRs.ars r)
/-- C is part of M, M of what there is -/
structure Wf (w : Wd) : Prop where
  cm : ∀ a, w.C a → w.M a
  md : ∀ a, w.M a → w.H a ≠ none
  mt : ∀ a xs, w.M a → w.H a ≠ some (.tup xs)
abbrev Spec := List Ag → (D → Prop) → Prop
abbrev SInv := Nat → (Addr → Prop) → Hp → Prop
def Stab (SI : SInv) : Prop := ∀ b C H H', SI b C H → (∀ a o, C a → H a = some o → H' a = some o) → SI b C H'
def spF (SI : SInv) (c : Nat) (spec : Spec) : Sp := fun vs H Q _ => ∃ (as : List Ag) (M C : Addr → Prop) (b : Nat) (Pd : D → Prop), b + c ≤ cap ∧ Wf ⟨H, M, C⟩ ∧ SI b C H ∧ ARs ⟨H, M, C⟩ vs as ∧ spec as Pd ∧ ∀ d, Pd d → ∀ b' w' v, b' ≤ b + c → Ext ⟨H, M, C⟩ w' → SI b' w'.C w'.H → Wf w' → Rp w' v d → Q v w'.H
/-- the state's promise: none -/
def SI0 : SInv := fun _ _ _ => True
theorem stab0 : Stab SI0 := fun _ _ _ _ _ _ => trivial
theorem EH.ext {G : Gh} {b b' : Nat} {w w' : Wd} (h : EH (G.at b) w) (e : Ext w w') (si : G.SI b' w'.C w'.H) (wf : Wf w') : EH (G.at b') w' where
  kp := fun a o q => by
    have nc : ¬ w.C a := fun c => by rw [h.cp a c] at q; cases q
    rcases h.kp a o q with z | ⟨n, d, ob, z⟩
    · exact (e.keep a o nc z).imp id fun ⟨m, r⟩ => ⟨fun k => m (h.m0 a k), r⟩
    · exact .inr ⟨n, d, ob, (e.lk nc z).exact no_dct_frz⟩
  m0 := fun a m => e.oldM a (h.m0 a m)
  nc := fun a c => (e.newC a c).elim (h.nc a) fun q => .inr (by
    cases z : G.H0 a with
    | none => rfl
    | some o => exact absurd q (h.hd a (by rw [z]; simp)))
  cp := fun a c => (e.newC a c).elim (h.cp a) fun q => by
    cases z : G.Pt a with
    | none => rfl
    | some o => rcases h.kp a o z with y | ⟨_, _, ob, y⟩ <;> (rw [q] at y; cases y)
  cm := wf.cm
  md := wf.md
  hd := fun a q => e.dom a (h.hd a q)
  gk := fun p hp => p.st _ _ (e.st h.cm) (h.gk p hp)
  si := si
  mt := wf.mt
theorem EH.wf {G : Gh} {w : Wd} (h : EH G w) : Wf w := ⟨h.cm, h.md, h.mt⟩

/-! ### the body of a def -/
open Classical in
noncomputable def ghPt (C : Addr → Prop) (H : Hp) : Hp := fun a => if C a then none else H a
noncomputable def ghOf (SI : SInv) (st : Stab SI) (H : Hp) (M C : Addr → Prop) (mh : ∀ a, M a → H a ≠ none) : Gh where
  b := 0
  Pt := ghPt C H
  H0 := H
  M0 := M
  mh := mh
  C0 := C
  gs := []
  SI := SI
  stab := st
theorem ghOf_pt {H : Hp} {C : Addr → Prop} {a : Addr} (n : ¬ C a) : ghPt C H a = H a := if_neg n
theorem ghOf_pt0 {H : Hp} {C : Addr → Prop} {a : Addr} (n : C a) : ghPt C H a = none := if_pos n
def env0 (n : Nat) (as : List Ag) : Ev := as.map Ag.sl ++ List.replicate (n - as.length) .no
theorem start_er {SI : SInv} {st : Stab SI} {H : Hp} {M C : Addr → Prop} {N : List Str} {vs : List V} {as : List Ag} {b : Nat} (wf : Wf ⟨H, M, C⟩) (si : SI b C H) (r : ARs ⟨H, M, C⟩ vs as) : ER ((ghOf SI st H M C wf.md).at b) ⟨H, M, C⟩ (env0 N.length as) (L2.start N vs) := by
  have hl := r.length
  refine ⟨⟨fun a o q => ?_, fun a m => m, fun a c => .inl c, fun a c => ghOf_pt0 c, wf.cm, wf.md, fun a q => q, fun p hp => (nomatch hp), si, wf.mt⟩, ?_, fun i s ov h1 h2 => ?_, OD.tame fun i s h1 hs => ?_⟩
  · by_cases c : C a
    · have q' := (ghOf_pt0 (H := H) c).symm.trans q; cases q'
    · exact .inl ((ghOf_pt c).symm.trans q)
  · unfold env0 L2.start
    rw [List.length_append, List.length_append, List.length_map, List.length_map, List.length_replicate, List.length_replicate, hl]
  · unfold env0 at h1
    unfold L2.start at h2
    by_cases hi : i < as.length
    · rw [List.getElem?_append_left (by rw [List.length_map]; exact hi), List.getElem?_map] at h1
      rw [List.getElem?_append_left (by rw [List.length_map, hl]; exact hi), List.getElem?_map] at h2
      have get : ∀ {vs : List V} {as : List Ag} {i : Nat} {a : Ag} {v : V}, ARs ⟨H, M, C⟩ vs as → as[i]? = some a → vs[i]? = some v → AR ⟨H, M, C⟩ v a := by
        intro vs as i a v r
        induction r generalizing i with
        | nil => intro h; simp at h
        | cons h r ih =>
          cases i with
          | zero => intro h1 h2; simp at h1 h2; subst h1; subst h2; exact h
          | succ i => intro h1 h2; exact ih (by simpa using h1) (by simpa using h2)
      obtain ⟨ag, g1, rfl⟩ := Option.map_eq_some_iff.mp h1
      obtain ⟨v, g2, rfl⟩ := Option.map_eq_some_iff.mp h2
      have q := get r g1 g2
      cases ag with
      | fz d => exact ⟨v, rfl, q⟩
      | raw u => exact congrArg some q
      | bw d =>
        obtain ⟨a, rfl, m, n, o⟩ := q
        have hd : ∃ ob, H a = some ob := by cases o <;> first | exact ⟨_, by assumption⟩ | exact Nst.there (by assumption)
        obtain ⟨ob, ho⟩ := hd
        exact ⟨a, rfl, m, n, ⟨ob, (ghOf_pt n).trans ho⟩, o⟩
    · rw [List.getElem?_append_right (by rw [List.length_map]; omega), List.getElem?_replicate] at h1
      split at h1
      · cases h1; trivial
      · cases h1
  · exfalso
    unfold env0 at h1
    by_cases hi : i < as.length
    · rw [List.getElem?_append_left (by rw [List.length_map]; exact hi), List.getElem?_map] at h1
      obtain ⟨ag, _, g⟩ := Option.map_eq_some_iff.mp h1
      subst g
      cases ag <;> cases hs
    · rw [List.getElem?_append_right (by rw [List.length_map]; omega), List.getElem?_replicate] at h1
      split at h1
      · cases h1; cases hs
      · cases h1
/-- the data that a def hands back -/
def Dv.ret : Dv → Option D
  | .fz d => some d
  | .nw d => some d
  | .ow d => some d
  | _ => none
def endsOf (Qd : D → Prop) : DEnds := { nx := fun _ => Qd .none, rt := fun _ dv => ∃ d, dv.ret = some d ∧ Qd d, bk := fun _ => False, ct := fun _ => False }
/-- a def of the text keeps its promise over data -/
theorem fn_data {SI : SInv} (st : Stab SI) {P : Program} {w : World} {K : PySem.W.Frag} {mg : Str → Option Value} {base : Heap} {x qual : Str} {stm : Stmt} {f : Addr} {fd : FuncData} {N ps : List Str} {k c c' : Nat} {spec : Spec} {ws : WS}
    (F : Fun K x qual stm f fd) (S : FnScope N ps (defScope stm)) (hlen : ∀ as Q, spec as Q → as.length = ps.length)
    (hbody : ∀ (G : Gh) (cdv : Value) (A : Around) (outer : List Env) (s : Shared) (H : Hp) (E : XK), G.SI = SI → A.guards = some [] → Room k (A.deeper (envOfC qual (defScope stm) s.heap.objs.size f cdv)) → DSs (cxOf CX0 P w K mg base N qual (defScope stm) f cdv A outer s H E).nox G (defBody stm) ws c)
    (hspec : ∀ as Q, spec as Q → ws (env0 N.length as) (endsOf Q)) (hcc : c ≤ c' := by decide +kernel) : FnG P w K mg base CX0 (k + 1) f fd ps (spF SI c' spec) := by
  obtain ⟨oc, od, kV, doc, pm, an, cdv, ct, osl, rfl, lk, hcd⟩ := F.ex
  refine fnG_of lk hcd S (fun vs H Q E h => ?_) fun A outer s H vs Q E hgd hr h => ?_
  · obtain ⟨as, M, C, b, Pd, _, _, _, r, q, _⟩ := h
    rw [r.length]; exact hlen _ _ q
  · obtain ⟨as, M, C, b, Pd, hb, wf, si, r, q, hq⟩ := h
    refine ⟨_, (hbody (ghOf SI st H M C wf.md) cdv A outer s H E rfl hgd hr).nox, env0 N.length as, M, C, b, _, by omega, start_er wf si r, hspec as _ q, ?_⟩
    -- what the ends are worth
    have fin : ∀ (b' : Nat) (w' : Wd), EH ((ghOf SI st H M C wf.md).at b') w' → Ext ⟨H, M, C⟩ ⟨w'.H, fun a => M a ∨ w'.C a, w'.C⟩ ∧ Wf ⟨w'.H, fun a => M a ∨ w'.C a, w'.C⟩ ∧ St1 w' ⟨w'.H, fun a => M a ∨ w'.C a, w'.C⟩ := fun b' w' eh => by
      refine ⟨⟨fun a o n h => ?_, eh.hd, eh.nc, fun a m => m.elim .inl fun c => (eh.nc a c).imp (wf.cm a) id, fun a m => .inl m⟩, ⟨fun a c => .inr c, fun a m => eh.md a (m.elim (eh.m0 a) (eh.cm a)), fun a xs m => eh.mt a xs (m.elim (eh.m0 a) (eh.cm a))⟩, ⟨fun a o _ h => .inl h, fun a m => .inl (Or.elim m (eh.m0 a) (eh.cm a))⟩⟩
      exact eh.kp a o ((ghOf_pt n).trans h)
    refine ⟨fun env' q b' w' σ' hb' er' => ?_, fun _ dv q b' w' Hs σ0 v hb' er0 rv hh => ?_, fun _ q => q.elim, fun _ q => q.elim⟩
    · obtain ⟨e1, e2, e3⟩ := fin b' w' er'.toEH
      exact hq _ q b' ⟨w'.H, fun a => M a ∨ w'.C a, w'.C⟩ .non (by omega) e1 er'.si e2 .non
    · have eh := er0.toEH
      obtain ⟨e1, e2, e3⟩ := fin b' w' eh
      obtain ⟨d, hd, q⟩ := q
      refine hq _ q b' ⟨w'.H, fun a => M a ∨ w'.C a, w'.C⟩ v (by omega) e1 eh.si e2 ?_
      have fresh : ∀ {a : Addr}, H a = none → ¬ w'.C a → ¬ (M a ∨ w'.C a) := fun h0 nc m => m.elim (fun m => wf.md _ m h0) nc
      cases dv with
      | fz d' => cases hd; exact Rp.st e3 rv
      | nw d' =>
        cases hd
        obtain ⟨a, rfl, z, m, n, o⟩ := rv
        have h0 : H a = none := by
          cases y : H a with
          | none => rfl
          | some o => exact absurd z (hh a (by show H a ≠ none; rw [y]; simp))
        exact ((o.st (St1.less w' a) rfl).st e3 rfl).rp (fresh h0 n)
      | ow d' =>
        cases hd
        obtain ⟨a, rfl, m, z, p, n, o⟩ := rv
        exact (o.st e3 rfl).rp (fresh z n)
      | bw d' => cases hd
      | raw u => cases hd

theorem FnG.sp {P : Program} {w : World} {K : PySem.W.Frag} {mg : Str → Option Value} {base : Heap} {CX : CXT} {k : Nat} {f : Addr} {fd : FuncData} {ps : List Str} {sp sp' : Sp} (F : FnG P w K mg base CX k f fd ps sp) (h : ∀ vs H Q E, sp' vs H Q E → sp vs H Q E) : FnG P w K mg base CX k f fd ps sp' :=
  ⟨fun vs H Q E q => F.len vs H Q E (h vs H Q E q), fun A outer s H args us vs Q E g r e b v q => F.run A outer s H args us vs Q E g r e b v (h vs H Q E q)⟩
/-- a def that knows nothing of the law's state -/
theorem fn_pure {P : Program} {w : World} {K : PySem.W.Frag} {mg : Str → Option Value} {base : Heap} {x qual : Str} {stm : Stmt} {f : Addr} {fd : FuncData} {N ps : List Str} {k c : Nat} {spec : Spec} {ws : WS}
    (F : Fun K x qual stm f fd) (S : FnScope N ps (defScope stm)) (hlen : ∀ as Q, spec as Q → as.length = ps.length)
    (hbody : ∀ (G : Gh) (cdv : Value) (A : Around) (outer : List Env) (s : Shared) (H : Hp) (E : XK), G.SI = SI0 → A.guards = some [] → Room k (A.deeper (envOfC qual (defScope stm) s.heap.objs.size f cdv)) → DSs (cxOf CX0 P w K mg base N qual (defScope stm) f cdv A outer s H E).nox G (defBody stm) ws c)
    (hspec : ∀ as Q, spec as Q → ws (env0 N.length as) (endsOf Q)) (hcc : c ≤ cap := by decide +kernel) : FnG P w K mg base CX0 (k + 1) f fd ps (spF SI0 0 spec) :=
  (fn_data (c' := c) stab0 F S hlen hbody hspec (Nat.le_refl _)).sp fun vs H Q E h => by
    obtain ⟨as, M, C, b, Pd, hb, wf, si, r, q, hq⟩ := h
    exact ⟨as, M, C, 0, Pd, by omega, wf, trivial, r, q, fun d pd b' w' v hb' e _ wf' rv => hq d pd 0 w' v (Nat.zero_le _) e trivial wf' rv⟩

/-! ### calls -/
def wCall (spec : Spec) (wr : WA) : WE := fun env P => wr env fun xs => spec (xs.map Dv.ag) fun d => P (.fz d)
section
variable {X : Cx} {G : Gh} {k : Nat} {f : Addr} {fd : FuncData} {ps : List Str} {spec : Spec} {x : Str} {e : Expr} {es : List Expr} {wr : WA} {ca c : Nat} {p pos : Pos}
theorem run_fnG {sp : Sp} {pins : List (Addr × Obj)} {σ : L2.St} {H : Hp} {s : Shared} {Q : VK} {us : List Value} {vs : List V} (F : FnG X.prog X.w X.K X.mg X.base CX0 k f fd ps sp) (hgd : X.A.guards = some []) (hr : Room k X.A) (hb : Binds X.K fd ps [])
    (I : Inv X pins σ H s) (r : Vals vs us) (h : sp vs H Q E0) : wpAny (model X.prog X.w) X.A (call (.ref f) us) (EP X pins σ Q) X.xe s := by
  have hl : (us ++ []).length = ps.length := by rw [List.append_nil, ← r.length]; exact F.len _ _ _ _ h
  have bd := hb s us I.kIn hl
  rw [List.append_nil] at bd
  refine wpAny_call (codeAny_mono (F.run X.A X.stack s H ⟨us, []⟩ us vs Q E0 hgd hr I.env0 bd r h) fun r s' hq => ?_)
  cases r with
  | error e => exact False.elim hq
  | ok fl => cases fl with
    | ret u => exact I.after hq
    | next => exact False.elim hq
    | brk => exact False.elim hq
    | cont => exact False.elim hq
theorem pe_callG {sp : Sp} {t : TA} (F : FnG X.prog X.w X.K X.mg X.base CX0 k f fd ps sp) (hgd : X.A.guards = some []) (hr : Room k X.A) (hg : Gl X x) (hm : X.mg x = some (.ref f)) (hk : PySem.W.keepIn X.K (.ref f) = true) (hb : Binds X.K fd ps [])
    (ha : PA X (e :: es) t) (hdb : (x == ("__debug__" : Str)) = false := by decide) (he : starEach (e :: es) X.env = (false, eval e X.env) :: starEach es X.env := by rfl) (hpl : (backTo pos (starEach es X.env)).any (·.1) = false := by rfl) :
    PE X (.Call (.Name x p) (e :: es) [] pos) (tCall sp [] E0 t) := by
  refine ⟨fun pins s σ H Q I h => wpAny_Call_Name_kw (ld_glob I hg hm ?_ hdb)⟩
  exact PySem.W.callWith_K (h₀ := X.base) I.ok.mod.kin hk (thn (ha.run pos pins s σ H _ I h) fun us s1 ⟨vs, H1, I1, r, q⟩ => ⟨I1.kIn, run_fnG F hgd hr hb I1 r (by have q' : sp (vs ++ []) H1 Q E0 := q; rw [List.append_nil] at q'; exact q')⟩) he hpl
/-- a pure def is called: it knows nothing of the law's state -/
theorem rd_pure {σ : L2.St} {H : Hp} {Q : VK} (h : tV G (wCall spec wr) ca σ H Q) : tCall (spF SI0 0 spec) [] E0 (tA G wr ca) σ H Q := tA.one h fun {b0} env w xs dxs P er rs kk hf => by
  rw [List.append_nil]
  have up : St1 w ⟨w.H, w.M, fun _ => False⟩ := ⟨fun a o _ h => .inl h, fun a m => .inl m⟩
  have ars : ∀ {vs : List V} {as : List Ag}, ARs w vs as → ARs ⟨w.H, w.M, fun _ => False⟩ vs as := by
    intro vs as r
    induction r with
    | nil => exact .nil
    | @cons v vs a as h r ih =>
      refine .cons ?_ ih
      cases a with
      | fz d => exact Rp.st up h
      | raw u => exact h
      | bw d => obtain ⟨b, e, m, n, o⟩ := h; exact ⟨b, e, m, fun z => z, o.st up rfl⟩
  refine ⟨_, w.M, fun _ => False, 0, _, Nat.zero_le _, ⟨fun a c => c.elim, er.md, er.mt⟩, trivial, ars rs.ars, kk, fun d pd _ w' v _ e _ wf r => ?_⟩
  have ex : Ext w ⟨w'.H, w.M, w.C⟩ := ⟨fun a o n h => e.keep a o (fun z => z) h, e.dom, fun a c => .inl c, fun a m => .inl m, fun a m => m⟩
  have si : G.SI b0 w.C w'.H := G.stab _ _ _ _ er.si fun a o c h => (e.keep a o (fun z => z) h).elim id fun q => absurd (er.cm a c) q.1
  refine hf _ pd b0 ⟨w'.H, w.M, w.C⟩ v (Nat.le_refl _) (er.ext' ex (er.toEH.ext ex si ⟨er.cm, fun a m => e.dom a (er.md a m), fun a xs m => e.ntup (fun z => z) m (er.md a m) (er.mt a xs m)⟩)) ex ?_
  have down : St1 w' ⟨w'.H, w.M, w.C⟩ := ⟨fun a o _ h => .inl h, fun a m => .inl (e.oldM a m)⟩
  exact Rp.st down r
/-- a def that draws is called -/
theorem rd_eff {σ : L2.St} {H : Hp} {Q : VK} {SI : SInv} (hS : G.SI = SI) (h : tV G (wCall spec wr) (ca + c) σ H Q) : tCall (spF SI c spec) [] E0 (tA G wr ca) σ H Q := by
  subst hS
  obtain ⟨env, M, C, b0, P, hb0, er, hw, hf⟩ := h
  refine ⟨env, M, C, b0, _, by omega, er, hw, fun ds hd b1 w1 xs hb1 er1 e1 r1 => ?_⟩
  show spF G.SI c spec (xs ++ []) w1.H Q E0
  rw [List.append_nil]
  exact ⟨_, w1.M, w1.C, b1, _, by omega, er1.toEH.wf, er1.si, r1.ars, hd, fun d pd b' w' v hb' e si wf r => hf _ pd b' w' v (by omega) (er1.ext' e (er1.toEH.ext e si wf)) (e1.trans e) r⟩
theorem de_call (F : FnG X.prog X.w X.K X.mg X.base CX0 k f fd ps (spF SI0 0 spec)) (hgd : X.A.guards = some []) (hr : Room k X.A) (hg : Gl X x) (hm : X.mg x = some (.ref f)) (hk : PySem.W.keepIn X.K (.ref f) = true) (hb : Binds X.K fd ps [])
    (ha : DA X G (e :: es) wr ca) (hdb : (x == ("__debug__" : Str)) = false := by decide) (he : starEach (e :: es) X.env = (false, eval e X.env) :: starEach es X.env := by rfl) (hpl : (backTo pos (starEach es X.env)).any (·.1) = false := by rfl) :
    DE X G (.Call (.Name x p) (e :: es) [] pos) (wCall spec wr) ca := PE_imp (pe_callG F hgd hr hg hm hk hb ha hdb he hpl) fun _ _ _ h => rd_pure h
theorem de_callE {SI : SInv} (hS : G.SI = SI) (F : FnG X.prog X.w X.K X.mg X.base CX0 k f fd ps (spF SI c spec)) (hgd : X.A.guards = some []) (hr : Room k X.A) (hg : Gl X x) (hm : X.mg x = some (.ref f)) (hk : PySem.W.keepIn X.K (.ref f) = true) (hb : Binds X.K fd ps [])
    (ha : DA X G (e :: es) wr ca) (hdb : (x == ("__debug__" : Str)) = false := by decide) (he : starEach (e :: es) X.env = (false, eval e X.env) :: starEach es X.env := by rfl) (hpl : (backTo pos (starEach es X.env)).any (·.1) = false := by rfl) :
    DE X G (.Call (.Name x p) (e :: es) [] pos) (wCall spec wr) (ca + c) := PE_imp (pe_callG F hgd hr hg hm hk hb ha hdb he hpl) fun _ _ _ h => rd_eff hS h
end
end DL
namespace DL
open PySem PySem.Spec PyProof.Rows L2
section
variable {X : Cx} {G : Gh}
theorem RqL.one' {w : Wd} {xs : List V} {d : D} (h : RqL w xs [d]) : ∃ x, xs = [x] ∧ Rq w x d := by
  cases h with
  | cons a b => cases b; exact ⟨_, rfl, a⟩
/-! ### len -/
def lenD : List D → Option D
  | [.list ds] => some (.int ds.length)
  | [.tuple ds] => some (.int ds.length)
  | [.dict es] => if es.length ≤ sizeLine ∧ isOp (.dict es) = false then some (.int es.length) else none
  | [.str x] => if x.length ≤ sizeLine then some (.int x.length) else none
  | _ => none
theorem call_lenDD : CallR X (.builtin "len") (rB lenD) := by
  intro pins s σ H xs us Q I r ⟨w, ds, d, eH, wk, qx, hf, hq⟩
  subst eH
  unfold lenD at hf
  split at hf
  · cases hf
    obtain ⟨x, rfl, q⟩ := qx.one'
    cases q with
    | lst h r1 => exact call_len_seq pins s σ _ _ us Q I r ⟨_, _, rfl, .inl (SqL.of h), by rw [r1.length]; exact hq _ _ (Same.refl _) (.int _)⟩
  · cases hf
    obtain ⟨x, rfl, q⟩ := qx.one'
    cases q with
    | tup n h r1 => exact call_len_seq pins s σ _ _ us Q I r ⟨_, _, rfl, .inr (h.sq), by rw [r1.length]; exact hq _ _ (Same.refl _) (.int _)⟩
  · obtain ⟨⟨z, nop⟩, rfl⟩ := of_if hf
    obtain ⟨x, rfl, q⟩ := qx.one'
    obtain ⟨u, rfl, ru⟩ := vals1 r
    rename_i es
    cases q with
    | op _ _ _ => cases nop
    | @dK a kvs _ h k1 k2 =>
      cases (show u = Value.ref a from ru)
      have el : es.length = kvs.length := by have := congrArg List.length k1; simpa using this
      exact d_len I h fun t s' I' => ⟨.int es.length, _, I', ⟨t, by rw [el]⟩, hq _ _ (Same.refl _) (.int _)⟩
    | @dN a L us _ n r1 r2 =>
      cases (show u = Value.ref a from ru)
      obtain ⟨o, h⟩ := n.at_
      have np := n.np r1 r2
      have el := np.len
      refine call_len_dictH (nest_sys I.hok h) (nest_of I.hok h np) (by rw [el]; rw [sizeLine_eq] at z; omega) ⟨.int es.length, _, I.tok _, ⟨_, by rw [el]⟩, hq _ _ (Same.refl _) (.int _)⟩
  · obtain ⟨c, rfl⟩ := of_if hf
    obtain ⟨x, rfl, q⟩ := qx.one'
    cases q
    exact call_len_str pins s σ _ _ us Q I r ⟨_, rfl, c, hq _ _ (Same.refl _) (.int _)⟩
  · cases hf

/-! ### all, any, sum -/
def boolsOf : List D → Option (List Bool)
  | [] => some []
  | .bool b :: r => (boolsOf r).map (b :: ·)
  | _ :: _ => none
theorem boolsOf_rp {w : Wd} : ∀ {ds : List D} {vs : List V} {bs : List Bool}, boolsOf ds = some bs → RpL w vs ds → vs = bs.map V.bl
  | [], _, _, e, r => by cases e; cases r; rfl
  | d :: ds, _, bs, e, r => by
    cases d with
    | bool b =>
      simp only [boolsOf, Option.map_eq_some_iff] at e
      obtain ⟨ms, e1, rfl⟩ := e
      cases r with
      | cons a b => cases a; rw [boolsOf_rp e1 b]; rfl
    | _ => cases e
def onBools (f : List Bool → Bool) : List D → Option D
  | [.list ds] => (boolsOf ds).map fun bs => .bool (f bs)
  | _ => none
def allD : List D → Option D := onBools fun bs => bs.all id
def anyD : List D → Option D := onBools fun bs => bs.any id
theorem call_bools {id : String} {g : List Bool → Bool} (hc : CallR X (.builtin id) (fun vs H Q => ∃ (a : Addr) (bs : List Bool), vs = [V.ref a] ∧ SqL X.K H a (bs.map V.bl) ∧ Q (.bl (g bs)) H)) : CallR X (.builtin id) (rB (onBools g)) := by
  intro pins s σ H xs us Q I r ⟨w, ds, d, eH, wk, qx, hf, hq⟩
  subst eH
  unfold onBools at hf
  split at hf
  · obtain ⟨bs, e1, rfl⟩ := Option.map_eq_some_iff.mp hf
    obtain ⟨x, rfl, q⟩ := qx.one'
    cases q with
    | lst h r1 =>
      have e2 := boolsOf_rp e1 r1
      subst e2
      exact hc pins s σ _ _ us Q I r ⟨_, bs, rfl, SqL.of h, hq _ _ (Same.refl _) (.bl _)⟩
  · cases hf
theorem call_allD (hc : X.calm = true) : CallR X (.builtin "all") (rB allD) := call_bools (cr_all hc)
theorem call_anyD (hc : X.calm = true) : CallR X (.builtin "any") (rB anyD) := call_bools (cr_any hc)
def sumD : List D → Option D
  | [.list ds] => (intsOf ds).map fun ns => .int ns.sum
  | _ => none
theorem call_sumD (hc : X.calm = true) : CallR X (.builtin "sum") (rB sumD) := by
  intro pins s σ H xs us Q I r ⟨w, ds, d, eH, wk, qx, hf, hq⟩
  subst eH
  unfold sumD at hf
  split at hf
  · obtain ⟨ns, e1, rfl⟩ := Option.map_eq_some_iff.mp hf
    obtain ⟨x, rfl, q⟩ := qx.one'
    cases q with
    | lst h r1 =>
      have e2 := intsOf_rp e1 r1
      subst e2
      exact cr_sum hc pins s σ _ _ us Q I r ⟨_, ns, rfl, SqL.of h, hq _ _ (Same.refl _) (.int _)⟩
  · cases hf

/-! ### list(..), tuple(..), int(..) -/
def listD : List D → Option D
  | [.list ds] => some (.list ds)
  | [.tuple ds] => some (.list ds)
  | _ => none
def tupleD : List D → Option D
  | [.list ds] => some (.tuple ds)
  | [.tuple ds] => some (.tuple ds)
  | _ => none
def intD : List D → Option D
  | [.int i] => some (.int i)
  | [.bool b] => some (.int (if b then 1 else 0))
  | _ => none
theorem call_listD : CallR X (.type "list") (rB listD) := by
  intro pins s σ H xs us Q I r ⟨w, ds, d, eH, wk, qx, hf, hq⟩
  subst eH
  unfold listD at hf
  split at hf
  · cases hf
    obtain ⟨x, rfl, q⟩ := qx.one'
    cases q with
    | lst h r1 => exact call_list_of pins s σ _ _ us Q I r ⟨_, _, rfl, .inl (SqL.of h), fun l n => hq _ _ (same_new n) (newL n r1)⟩
  · cases hf
    obtain ⟨x, rfl, q⟩ := qx.one'
    cases q with
    | tup nn h r1 => exact call_list_of pins s σ _ _ us Q I r ⟨_, _, rfl, .inr (h.sq), fun l n => hq _ _ (same_new n) (newL n r1)⟩
  · cases hf
theorem call_tupleD : CallR X (.type "tuple") (rB tupleD) := by
  intro pins s σ H xs us Q I r ⟨w, ds, d, eH, wk, qx, hf, hq⟩
  subst eH
  unfold tupleD at hf
  split at hf
  · cases hf
    obtain ⟨x, rfl, q⟩ := qx.one'
    cases q with
    | lst h r1 => exact call_tupleN pins s σ _ _ us Q I r ⟨_, _, rfl, .inl ⟨SqL.of h, fun l o d n => hq _ _ (same_new n) (newT wk d n r1)⟩⟩
  · cases hf
    obtain ⟨x, rfl, q⟩ := qx.one'
    cases q with
    | tup nn h r1 => exact call_tupleN pins s σ _ _ us Q I r ⟨_, _, rfl, .inr ⟨h.sq, hq _ _ (Same.refl _) (.tup nn h r1)⟩⟩
  · cases hf
theorem call_intD : CallR X (.type "int") (rB intD) := by
  intro pins s σ H xs us Q I r ⟨w, ds, d, eH, wk, qx, hf, hq⟩
  subst eH
  unfold intD at hf
  split at hf
  · cases hf
    obtain ⟨x, rfl, q⟩ := qx.one'
    cases q
    exact call_int1 pins s σ _ _ us Q I r (.inl ⟨_, rfl, hq _ _ (Same.refl _) (.int _)⟩)
  · cases hf
    obtain ⟨x, rfl, q⟩ := qx.one'
    cases q
    exact call_int1 pins s σ _ _ us Q I r (.inr ⟨_, rfl, hq _ _ (Same.refl _) (.int _)⟩)
  · cases hf
/-- list(range(..)) -/
def lrng (f : List D → Option (List D)) : List D → Option D := fun ds => (f ds).bind fun r => if r.length ≤ 2 ^ 24 then some (.list r) else none

/-! ### isinstance(x, T), T a built-in class -/
def tyD : D → String
  | .none => "NoneType"
  | .bool _ => "bool"
  | .int _ => "int"
  | .str _ => "str"
  | .list _ => "list"
  | .tuple _ => "tuple"
  | .dict _ => "dict"
theorem Rq.ty {pins : List (Addr × Obj)} {σ : L2.St} {s : Shared} {w : Wd} {x : V} {u : Value} {d : D} (I : Inv X pins σ w.H s) (rx : RelV x u) (h : Rq w x d) (nop : isOp d = false) : ∃ P : Heap → Prop, PySem.W.KitX X.K u (.type (tyD d)) P ∧ P s.heap ∧ u ≠ .builtin "__main__.__loader__#opaque" := by
  cases h with
  | op _ _ _ => cases nop
  | non => exact kit_of I rx (.base .non)
  | bl b => exact kit_of I rx (.base (.bl b))
  | int b => exact kit_of I rx (.base (.int b))
  | str b => exact kit_of I rx (.base (.str b))
  | lst h _ => exact kit_of I rx (.base (.lst h))
  | @tup a _ _ _ h _ =>
    cases (show u = Value.ref a from rx)
    obtain ⟨its, rv, ⟨o, h1, h2, _⟩, z⟩ := I.tuple h.sq
    exact ⟨_, PySem.W.kitx_tuple, ⟨o, h1, h2⟩, fun z => nomatch z⟩
  | dK h _ _ =>
    rcases h with h | ⟨o, h⟩
    · exact kit_of I rx (.base (.dK h))
    · exact kit_of I rx (.fDict h)
  | @dN a L us es n _ _ =>
    cases (show u = Value.ref a from rx)
    obtain ⟨o, h⟩ := n.at_
    obtain ⟨⟨_, h1, es', ep, h2, _⟩, _⟩ := (show ObjOk X.prog X.w w.H s.heap a (.ext (nestΦ a o L)) from I.hok a _ h)
    exact ⟨_, PySem.W.kitx_dict, ⟨o, h1, h2.1⟩, fun z => nomatch z⟩
def wIsi (g : D → Bool) (wa : WE) : WE := fun env P => wa env fun x => ∃ d, x.val = some d ∧ isOp d = false ∧ P (.fz (.bool (g d)))
theorem de_isi {T : Str} {tn : String} {g : D → Bool} {e : Expr} {wa : WE} {ca : Nat} {p p2 pos : Pos} (hk : ∀ d, kitB (tyD d) tn = some (g d)) (hg : Gl X "isinstance") (hm : X.mg "isinstance" = none) (hgT : Gl X T) (hmT : X.mg T = none) (hvT : bootBuiltins T = some (.type tn)) (ha : DE X G e wa ca)
    (hnT : T ≠ "__name__" := by decide) (hdT : (T == ("__debug__" : Str)) = false := by decide) (hs : starEach [e, .Name T p2] X.env = (false, eval e X.env) :: starEach [.Name T p2] X.env := by rfl) (hs2 : starEach [.Name T p2] X.env = (false, eval (.Name T p2) X.env) :: starEach [] X.env := by rfl) (hpl : (backTo pos (starEach [.Name T p2] X.env)).any (·.1) = false := by rfl) :
    DE X G (.Call (.Name "isinstance" p) [e, .Name T p2] [] pos) (wIsi g wa) ca := by
  have hc : CallR X (.builtin "isinstance") (fun xs H Q => ∃ w x d, w.H = H ∧ xs = [x, .ty tn] ∧ Rq w x d ∧ isOp d = false ∧ Q (.bl (g d)) H) := by
    intro pins s σ H xs us Q I r h
    obtain ⟨w, x, d, eH, e2, q, nop, hq⟩ := h
    subst eH e2
    obtain ⟨u1, u2, rfl, r1, r2⟩ := vals2 r
    cases (show u2 = Value.type tn from r2)
    obtain ⟨P, Z, pp, hx⟩ := q.ty I r1 nop
    exact PySem.W.kia_one Z I.kIn pp (kit_ty (hk d)) hx fun tk => ⟨.bl (g d), _, I.tok tk, rfl, hq⟩
  refine PE_imp (pe_callB hc hg hm (by decide +kernel) (pa_cons ha (pa_cons (pe_bltn (v := .ty tn) hgT hmT hvT rfl hnT hdT) pa_nil hs2) hs) (by decide) (by decide) hs hpl) fun σ H Q h => ?_
  obtain ⟨env, M, C, b0, P, hb0, er, hw, hf⟩ := h
  refine ⟨env, M, C, b0, _, hb0, er, hw, fun dv hd b1 w1 v hb1 er1 e1 r1 => ?_⟩
  obtain ⟨d, h1, nop, p⟩ := hd
  exact ⟨w1, v, d, rfl, rfl, r1.rq h1, nop, hf _ p b1 w1 _ hb1 er1 e1 (.bl _)⟩
def isInt : D → Bool
  | .int _ => true
  | .bool _ => true
  | _ => false
def isBool : D → Bool
  | .bool _ => true
  | _ => false
def isTuple : D → Bool
  | .tuple _ => true
  | _ => false
def isList : D → Bool
  | .list _ => true
  | _ => false
def isStr : D → Bool
  | .str _ => true
  | _ => false
theorem kit7 {T : String} {b1 b2 b3 b4 b5 b6 b7 : Bool} (h1 : kitB "NoneType" T = some b1) (h2 : kitB "bool" T = some b2) (h3 : kitB "int" T = some b3) (h4 : kitB "str" T = some b4) (h5 : kitB "list" T = some b5) (h6 : kitB "tuple" T = some b6) (h7 : kitB "dict" T = some b7) (g : D → Bool)
    (g1 : g .none = b1) (g2 : ∀ b, g (.bool b) = b2) (g3 : ∀ i, g (.int i) = b3) (g4 : ∀ i, g (.str i) = b4) (g5 : ∀ i, g (.list i) = b5) (g6 : ∀ i, g (.tuple i) = b6) (g7 : ∀ i, g (.dict i) = b7) (d : D) : kitB (tyD d) T = some (g d) := by
  cases d with
  | none => rw [g1]; exact h1
  | bool _ => rw [g2]; exact h2
  | int _ => rw [g3]; exact h3
  | str _ => rw [g4]; exact h4
  | list _ => rw [g5]; exact h5
  | tuple _ => rw [g6]; exact h6
  | dict _ => rw [g7]; exact h7
theorem kit_int (d : D) : kitB (tyD d) "int" = some (isInt d) := kit7 (by decide +kernel) (by decide +kernel) (by decide +kernel) (by decide +kernel) (by decide +kernel) (by decide +kernel) (by decide +kernel) isInt rfl (fun _ => rfl) (fun _ => rfl) (fun _ => rfl) (fun _ => rfl) (fun _ => rfl) (fun _ => rfl) d
theorem kit_bool (d : D) : kitB (tyD d) "bool" = some (isBool d) := kit7 (by decide +kernel) (by decide +kernel) (by decide +kernel) (by decide +kernel) (by decide +kernel) (by decide +kernel) (by decide +kernel) isBool rfl (fun _ => rfl) (fun _ => rfl) (fun _ => rfl) (fun _ => rfl) (fun _ => rfl) (fun _ => rfl) d
theorem kit_tuple (d : D) : kitB (tyD d) "tuple" = some (isTuple d) := kit7 (by decide +kernel) (by decide +kernel) (by decide +kernel) (by decide +kernel) (by decide +kernel) (by decide +kernel) (by decide +kernel) isTuple rfl (fun _ => rfl) (fun _ => rfl) (fun _ => rfl) (fun _ => rfl) (fun _ => rfl) (fun _ => rfl) d
theorem kit_list (d : D) : kitB (tyD d) "list" = some (isList d) := kit7 (by decide +kernel) (by decide +kernel) (by decide +kernel) (by decide +kernel) (by decide +kernel) (by decide +kernel) (by decide +kernel) isList rfl (fun _ => rfl) (fun _ => rfl) (fun _ => rfl) (fun _ => rfl) (fun _ => rfl) (fun _ => rfl) d
theorem kit_str (d : D) : kitB (tyD d) "str" = some (isStr d) := kit7 (by decide +kernel) (by decide +kernel) (by decide +kernel) (by decide +kernel) (by decide +kernel) (by decide +kernel) (by decide +kernel) isStr rfl (fun _ => rfl) (fun _ => rfl) (fun _ => rfl) (fun _ => rfl) (fun _ => rfl) (fun _ => rfl) d
/-- list(range(..)) as a list -/
def wLrng (f : List D → Option (List D)) (wr : WA) : WE := fun env P => wr env fun xs => ∃ ds, (valL xs).bind f = some ds ∧ ds.length ≤ 2 ^ 24 ∧ P (.nw (.list ds))
theorem rg_rp {w : Wd} (a : Int) (n : Nat) : RpL w ((List.range n).map fun i => V.int (a + (i : Nat))) (rangeD a n) := by
  unfold rangeD
  induction List.range n with
  | nil => exact .nil
  | cons i r ih => exact .cons (.int _) ih
theorem de_lrng1 {e : Expr} {wa : WE} {ca : Nat} {p p2 pos pos2 : Pos} (hc : X.calm = true) (hg : Gl X "list") (hm : X.mg "list" = none) (hg2 : Gl X "range") (hm2 : X.mg "range" = none) (ha : DE X G e wa ca) (na : starEach [e] X.env = (false, eval e X.env) :: starEach [] X.env := by rfl)
    (nb : starEach [.Call (.Name "range" p2) [e] [] pos2] X.env = (false, eval (.Call (.Name "range" p2) [e] [] pos2) X.env) :: starEach [] X.env := by rfl) : DE X G (.Call (.Name "list" p) [.Call (.Name "range" p2) [e] [] pos2] [] pos) (wLrng rng1 (wCons wa wNil)) ca :=
  PE_imp (pe_listRg hc hg hm (prg_1 hg2 hm2 ha na) nb) fun σ H Q h => by
    obtain ⟨env, M, C, b0, P, hb0, er, hw, hf⟩ := h
    refine ⟨env, M, C, b0, _, hb0, er, hw, fun dv hd b1 w1 v hb1 er1 e1 r1 => ?_⟩
    obtain ⟨ds, h1, h4, p⟩ := hd
    obtain ⟨es, h2, h3⟩ := Option.bind_eq_some_iff.mp h1
    obtain ⟨j, rfl, c, rfl⟩ := rng1_get h3
    have hv : dv.val = some (.int j) := by
      simp only [valL, Option.bind_eq_some_iff, Option.map_eq_some_iff] at h2
      obtain ⟨d, q1, _, q2, q3⟩ := h2
      cases q2; cases q3; exact q1
    have q := r1.rq hv
    cases q
    rw [rangeD_length] at h4
    refine ⟨j, rfl, ⟨by omega, by omega, c.1, c.2, by rw [Int.sub_zero]; exact h4⟩, fun l n => ?_⟩
    have fin := Fin.pure (Fin.ext (w := ⟨H, M, C⟩) hf e1 hb1) er1 (d := .list (rangeD 0 j.toNat)) p (same_new n) (newL n (rg_rp 0 j.toNat))
    have e2 : rgV 0 j = (List.range j.toNat).map fun i => V.int (0 + (i : Nat)) := by unfold rgV; rw [Int.sub_zero]
    rw [e2]
    exact fin
end
end DL
namespace DL
open PySem PySem.Spec PyProof.Rows L2
theorem Ow.there {w : Wd} {a : Addr} {d : D} (o : Ow w a d) : ∃ ob, w.H a = some ob := by cases o <;> first | exact ⟨_, by assumption⟩ | exact Nst.there (by assumption)
section
variable {G : Gh} {w w' : Wd} {env : Ev} {σ : L2.St}
/-- the slot of an own thing -/
theorem ER.ownAt (er : ER G w env σ) {i : Nat} {d : D} (h : env[i]? = some (.own d)) : ∃ a, σ[i]? = some (some (.ref a)) ∧ w.M a ∧ ¬ w.C a ∧ G.Pt a = none ∧ G.H0 a = none ∧ Ow w a d := by
  obtain ⟨ov, h1, a, rfl, r⟩ := er.at h
  exact ⟨a, h1, r⟩
/-- an own thing has changed -/
theorem ER.mut (er : ER G w env σ) {i : Nat} {d d' : D} {a : Addr} {o : HO} (h : env[i]? = some (.own d)) (hs : σ[i]? = some (some (.ref a))) (no : Ow ⟨upd w.H a o, w.M, w.C⟩ a d') : ER G ⟨upd w.H a o, w.M, w.C⟩ (env.set i (.own d')) σ := by
  obtain ⟨a', h1, m, c, p, z, _⟩ := er.ownAt h
  rw [hs] at h1
  cases h1
  have st : St1 w ⟨upd w.H a o, w.M, w.C⟩ := ⟨fun b x n q => .inl (by show upd w.H a o b = some x; rw [upd_ne (fun z => n (by rw [z]; exact m))]; exact q), fun b m => .inl m⟩
  refine ⟨er.toEH.poke m c p (fun xs z => no.ntup xs (by show upd w.H a o a = _; rw [upd_same, z])), by rw [List.length_set]; exact er.len, fun j s ov q1 q2 => ?_, er.od.same h⟩
  · rcases get_set q1 with ⟨rfl, rfl⟩ | ⟨ne, q1⟩
    · rw [hs] at q2; cases q2
      exact ⟨a, rfl, m, c, p, z, no⟩
    · have s0 := er.sl j s ov q1 q2
      cases s with
      | no => trivial
      | fz d => obtain ⟨v, y, r⟩ := s0; exact ⟨v, y, r.st st⟩
      | raw v => exact s0
      | own d =>
        obtain ⟨b, rfl, mb, cb, pb, zb, ob⟩ := s0
        have nb : b ≠ a := fun y => ne (er.od j i _ _ a q1 h (by rw [← y]; exact q2) hs)
        exact ⟨b, rfl, mb, cb, pb, zb, ob.st st (by show upd w.H a o b = w.H b; rw [upd_ne nb])⟩
      | bw d =>
        obtain ⟨b, rfl, mb, cb, ⟨x, pb⟩, ob⟩ := s0
        have nb : b ≠ a := fun y => by rw [y, p] at pb; cases pb
        exact ⟨b, rfl, mb, cb, ⟨x, pb⟩, ob.st st (by show upd w.H a o b = w.H b; rw [upd_ne nb])⟩
      | ab b A =>
        obtain ⟨b', rfl, mb, ⟨m2, c2, p2, z2⟩, ob⟩ := s0
        obtain ⟨n1, n2⟩ := er.od.oh i j d a b A h q1 hs
        have nb : b' ≠ a := fun y => n2 (by rw [q2, y])
        exact ⟨b', rfl, mb, ⟨m2, c2, p2, z2⟩, A.st st ob (by show upd w.H a o b' = w.H b'; rw [upd_ne nb]) (by show upd w.H a o b = w.H b; rw [upd_ne (Ne.symm n1)])⟩
/-- an own thing is frozen -/
theorem ER.freeze (er : ER G w env σ) {i : Nat} {d : D} {a : Addr} (h : env[i]? = some (.own d)) (hs : σ[i]? = some (some (.ref a))) : ER G ⟨w.H, fun b => w.M b ∧ b ≠ a, w.C⟩ (env.set i (.fz d)) σ ∧ Rp ⟨w.H, fun b => w.M b ∧ b ≠ a, w.C⟩ (.ref a) d := by
  obtain ⟨a', h1, m, c, p, z, o⟩ := er.ownAt h
  rw [hs] at h1
  cases h1
  have st : St1 w ⟨w.H, fun b => w.M b ∧ b ≠ a, w.C⟩ := ⟨fun b x n q => .inl q, fun b m => .inl m.1⟩
  have rp : Rp ⟨w.H, fun b => w.M b ∧ b ≠ a, w.C⟩ (.ref a) d := (o.st st rfl).rp fun q => q.2 rfl
  refine ⟨⟨⟨er.kp, fun b q => ⟨er.m0 b q, fun y => G.mh b q (by rw [y]; exact z)⟩, er.nc, er.cp, fun b q => ⟨er.cm b q, fun y => c (by rw [← y]; exact q)⟩, fun b q => er.md b q.1, er.hd, fun p hp => p.st _ _ st (er.gk p hp), er.si, fun b xs q => er.mt b xs q.1⟩, by rw [List.length_set]; exact er.len, fun j s ov q1 q2 => ?_, er.od.less i (fun _ z => nomatch z) (fun _ _ z => nomatch z)⟩, rp⟩
  · rcases get_set q1 with ⟨rfl, rfl⟩ | ⟨ne, q1⟩
    · rw [hs] at q2; cases q2
      exact ⟨_, rfl, rp⟩
    · have s0 := er.sl j s ov q1 q2
      cases s with
      | no => trivial
      | fz d => obtain ⟨v, y, r⟩ := s0; exact ⟨v, y, r.st st⟩
      | raw v => exact s0
      | own d =>
        obtain ⟨b, rfl, mb, cb, pb, zb, ob⟩ := s0
        exact ⟨b, rfl, ⟨mb, fun y => ne (er.od j i _ _ a q1 h (by rw [← y]; exact q2) hs)⟩, cb, pb, zb, ob.st st rfl⟩
      | bw d =>
        obtain ⟨b, rfl, mb, cb, ⟨x, pb⟩, ob⟩ := s0
        exact ⟨b, rfl, ⟨mb, fun y => by rw [y, p] at pb; cases pb⟩, cb, ⟨x, pb⟩, ob.st st rfl⟩
      | ab b A =>
        obtain ⟨b', rfl, ⟨m1, c1, p1, z1⟩, ⟨m2, c2, p2, z2⟩, ob⟩ := s0
        obtain ⟨n1, n2⟩ := er.od.oh i j d a b A h q1 hs
        exact ⟨b', rfl, ⟨⟨m1, fun y => n2 (by rw [q2, y])⟩, c1, p1, z1⟩, ⟨⟨m2, fun y => n1 y.symm⟩, c2, p2, z2⟩, A.st st ob rfl rfl⟩
/-- something new is somebody's own while an expression goes on -/
theorem ER.held {d : D} {a : Addr} {b0 b1 : Nat} (er : ER (G.at b0) w env σ) (er' : ER (G.at b1) w' env σ) (e : Ext w w') (hs : w.H a = none) (t : w'.H a ≠ none) (t' : ∀ xs, w'.H a ≠ some (.tup xs)) : ER (G.at b1) (w'.plus a) env σ ∧ Ext w (w'.plus a) := by
  have ex : Ext w (w'.plus a) := ⟨e.keep, e.dom, e.newC, fun b m => m.elim (e.newM b) fun q => .inr (by rw [q]; exact hs), fun b m => .inl (e.oldM b m)⟩
  exact ⟨er.ext' ex (er.toEH.ext ex er'.si ⟨fun b c => .inl (er'.cm b c), fun b m => m.elim (er'.md b) fun q => by rw [q]; exact t, fun b xs m => m.elim (er'.mt b xs) fun q => by rw [q]; exact t' xs⟩), ex⟩
end

/-! ### x.append(e), x = y.pop(), d[k] = e of own things -/
section
variable {X : Cx} {G : Gh} {e k o : Expr} {we wk : WE} {ca cb : Nat} {pos p1 p2 p3 : Pos}
def wApp (i : Nat) (we : WE) : WS := fun env De => ∃ ds, env[i]? = some (.own (.list ds)) ∧ we env fun x => ∃ d, x.kept = some d ∧ ds.length < sizeLine ∧ De.nx (env.set i (.own (.list (ds ++ [d]))))
theorem ds_append (i : Nat) {x : Str} (he : DE X G e we ca) (hN : X.N[i]? = some x := by rfl) (hv : Vis X.env.scope x := by first | exact Or.inl rfl | exact Or.inr (Or.inl rfl) | exact Or.inr (Or.inr rfl)) (hd : (x == ("__debug__" : Str)) = false := by decide) (hcd : (x == ("__classdict__" : Str)) = false := by decide)
    (hbase : attributeBase (.Name x p1) "append" X.env (eval (.Name x p1) X.env) = eval (.Name x p1) X.env := by rfl)
    (hfew : ((backTo p3 (starEach [e] X.env)).all (fun x => !x.1) && (backToKw p3 (keywordEach [] X.env)).all (fun x => x.1.isSome)
      && decide ([e].length + ([] : List Keyword).length + (if ([] : List Keyword).isEmpty then 0 else 1) < 30)) = true := by rfl)
    (hline : (p2.endLine == p3.line) = true := by rfl) (hs : starEach [e] X.env = (false, eval e X.env) :: starEach [] X.env := by rfl) (hplain : (backTo p3 (starEach [] X.env)).any (·.1) = false := by rfl)
    (hsw : swapsWith (.Call (.Attribute (.Name x p1) "append" p2) [e] [] p3) none pos.line X.env = pure false := by rfl) :
    DS X G (.Expr (.Call (.Attribute (.Name x p1) "append" p2) [e] [] p3) pos) (wApp i we) ca :=
  PS_imp (ps_expr (pe_bm PySem.F.plainAttrs_list PySem.F.slot_list_append PySem.F.type_list_append mt_append (pe_var hN hv hd hcd) (pa_cons he pa_nil hs) hbase hfew hline hs hplain) hsw) fun σ H T h => by
    obtain ⟨env, M, C, b0, De, hb0, er, ⟨ds, hi, hw⟩, lf⟩ := h
    obtain ⟨a, h1, m, c, p, z, ob⟩ := er.ownAt hi
    cases ob with
    | @lst xs _ hx rl =>
      refine ⟨.ref a, h1, .inl ⟨rfl, xs, SqL.of hx⟩, env, M, C, b0, _, hb0, er, hw, fun dv hd b1 w1 v hb1 er1 e1 r1 => ?_⟩
      obtain ⟨d, hk, hz, n⟩ := hd
      obtain ⟨a', h1', m', c', p', z', ob'⟩ := er1.ownAt hi
      rw [h1] at h1'
      cases h1'
      cases ob' with
      | @lst xs' _ hx' rl' =>
        refine ⟨a, xs', v, rfl, rfl, hx', by rw [rl'.length]; exact hz, ?_⟩
        have st : St1 w1 ⟨upd w1.H a (.lst (xs' ++ [v])), w1.M, w1.C⟩ := ⟨fun b x n q => .inl (by show upd w1.H a _ b = some x; rw [upd_ne (fun z => n (by rw [z]; exact m'))]; exact q), fun b m => .inl m⟩
        exact lf.nx _ n b1 ⟨upd w1.H a (.lst (xs' ++ [v])), w1.M, w1.C⟩ σ hb1 (er1.mut hi h1 (.lst upd_same ((rl'.append (.cons (r1.rp hk) .nil)).st st)))
/-- x.append(y), y an own thing: y is frozen -/
def wAppF (i j : Nat) : WS := fun env De => ∃ ds d, env[i]? = some (.own (.list ds)) ∧ env[j]? = some (.own d) ∧ i ≠ j ∧ ds.length < sizeLine ∧ De.nx ((env.set j (.fz d)).set i (.own (.list (ds ++ [d]))))
theorem ds_appendF (i j : Nat) {x y : Str} {py : Pos} (hN : X.N[i]? = some x := by rfl) (hv : Vis X.env.scope x := by first | exact Or.inl rfl | exact Or.inr (Or.inl rfl) | exact Or.inr (Or.inr rfl)) (hNy : X.N[j]? = some y := by rfl) (hvy : Vis X.env.scope y := by first | exact Or.inl rfl | exact Or.inr (Or.inl rfl) | exact Or.inr (Or.inr rfl))
    (hd : (x == ("__debug__" : Str)) = false := by decide) (hcd : (x == ("__classdict__" : Str)) = false := by decide) (hdy : (y == ("__debug__" : Str)) = false := by decide) (hcdy : (y == ("__classdict__" : Str)) = false := by decide)
    (hbase : attributeBase (.Name x p1) "append" X.env (eval (.Name x p1) X.env) = eval (.Name x p1) X.env := by rfl)
    (hfew : ((backTo p3 (starEach [.Name y py] X.env)).all (fun x => !x.1) && (backToKw p3 (keywordEach [] X.env)).all (fun x => x.1.isSome)
      && decide ([Expr.Name y py].length + ([] : List Keyword).length + (if ([] : List Keyword).isEmpty then 0 else 1) < 30)) = true := by rfl)
    (hline : (p2.endLine == p3.line) = true := by rfl) (hs : starEach [.Name y py] X.env = (false, eval (.Name y py) X.env) :: starEach [] X.env := by rfl) (hplain : (backTo p3 (starEach [] X.env)).any (·.1) = false := by rfl)
    (hsw : swapsWith (.Call (.Attribute (.Name x p1) "append" p2) [.Name y py] [] p3) none pos.line X.env = pure false := by rfl) :
    DS X G (.Expr (.Call (.Attribute (.Name x p1) "append" p2) [.Name y py] [] p3) pos) (wAppF i j) 0 :=
  PS_imp (ps_expr (pe_bm PySem.F.plainAttrs_list PySem.F.slot_list_append PySem.F.type_list_append mt_append (pe_var hN hv hd hcd) (pa_cons (pe_var hNy hvy hdy hcdy) pa_nil hs) hbase hfew hline hs hplain) hsw) fun σ H T h => by
    obtain ⟨env, M, C, b0, De, hb0, er, ⟨ds, d, hi, hj, hij, hz, n⟩, lf⟩ := h
    obtain ⟨a, h1, m, c, p, z, ob⟩ := er.ownAt hi
    obtain ⟨b, h2, mb, cb, pb, zb, _⟩ := er.ownAt hj
    obtain ⟨er1, rp⟩ := er.freeze hj h2
    have hi' : (env.set j (.fz d))[i]? = some (.own (.list ds)) := by rw [List.getElem?_set_ne hij.symm]; exact hi
    obtain ⟨a', h1', m', c', _, _, ob'⟩ := er1.ownAt hi'
    rw [h1] at h1'
    cases h1'
    cases ob' with
    | @lst xs _ hx rl =>
      refine ⟨.ref a, h1, .inl ⟨rfl, xs, SqL.of hx⟩, .ref b, h2, a, xs, .ref b, rfl, rfl, hx, by rw [rl.length]; exact hz, ?_⟩
      have st : St1 ⟨H, fun q => M q ∧ q ≠ b, C⟩ ⟨upd H a (.lst (xs ++ [.ref b])), fun q => M q ∧ q ≠ b, C⟩ := ⟨fun b x n q => .inl (by show upd H a _ b = some x; rw [upd_ne (fun z => n (by rw [z]; exact m'))]; exact q), fun b m => .inl m⟩
      exact lf.nx _ n b0 ⟨upd H a (.lst (xs ++ [.ref b])), fun q => M q ∧ q ≠ b, C⟩ σ (Nat.le_refl _) (er1.mut hi' h1 (.lst upd_same ((rl.append (.cons rp .nil)).st st)))
/-- y = x.pop() -/
def wPop (j i : Nat) : WS := fun env De => ∃ ds d, env[i]? = some (.own (.list (ds ++ [d]))) ∧ De.nx ((env.set i (.own (.list ds))).set j (.fz d))
theorem ds_pop (j i : Nat) {x y : Str} {py : Pos} (hnd : X.N.Nodup) (hN : X.N[i]? = some x := by rfl) (hv : Vis X.env.scope x := by first | exact Or.inl rfl | exact Or.inr (Or.inl rfl) | exact Or.inr (Or.inr rfl)) (hd : (x == ("__debug__" : Str)) = false := by decide) (hcd : (x == ("__classdict__" : Str)) = false := by decide)
    (hj : X.N[j]? = some y := by rfl) (hx : Loc X.env.scope y := by first | exact Or.inl rfl | exact Or.inr rfl) (hbase : attributeBase (.Name x p1) "pop" X.env (eval (.Name x p1) X.env) = eval (.Name x p1) X.env := by rfl) (hline : (p2.endLine == p3.line) = true := by rfl)
    (hs : swapsWith (.Call (.Attribute (.Name x p1) "pop" p2) [] [] p3) (some (.Name y py)) pos.line X.env = pure false := by rfl) (hf : X.fn y = true ∨ X.env.scope.names.lookup y = some .local := by first | exact .inl rfl | exact .inr rfl | assumption) :
    DS X G (.Assign [.Name y py] (.Call (.Attribute (.Name x p1) "pop" p2) [] [] p3) pos) (wPop j i) 0 :=
  PS_imp (ps_set hnd hj hx (pe_bm0 PySem.F.plainAttrs_list PySem.F.slot_list_pop PySem.F.type_list_pop mt_pop (pe_var hN hv hd hcd) hbase hline) hs hf) fun σ H T h => by
    obtain ⟨env, M, C, b0, De, hb0, er, ⟨ds, d, hi, n⟩, lf⟩ := h
    obtain ⟨a, h1, m, c, p, z, ob⟩ := er.ownAt hi
    cases ob with
    | @lst xs _ hx rl =>
      have hl : xs.length = ds.length + 1 := by rw [rl.length, List.length_append]; rfl
      obtain ⟨v, hv, rv⟩ := rl.get (i := ds.length) (d := d) (by rw [List.getElem?_append_right (Nat.le_refl _), Nat.sub_self]; rfl)
      refine ⟨.ref a, h1, .inl ⟨rfl, xs, SqL.of hx⟩, a, xs, v, rfl, rfl, hx, by rw [hl]; exact hv, ?_⟩
      have st : St1 ⟨H, M, C⟩ ⟨upd H a (.lst xs.dropLast), M, C⟩ := ⟨fun b x n q => .inl (by show upd H a _ b = some x; rw [upd_ne (fun z => n (by rw [z]; exact m))]; exact q), fun b m => .inl m⟩
      have er1 := er.mut hi h1 (d' := .list ds) (o := .lst xs.dropLast) (.lst upd_same (by have := rl.dropLast; rw [List.dropLast_concat] at this; exact this.st st))
      exact lf.nx _ n b0 _ _ (Nat.le_refl _) (er1.setFz (rv.st st) j)
/-- d[k] = e, d an own dict -/
def putOk (es : List (D × D)) (k : D) : Bool := (dfind es k).isSome
def wPut (i : Nat) (wk we : WE) : WS := fun env De => ∃ es, env[i]? = some (.own (.dict es)) ∧ we env fun v => wk env fun k => ∃ dv dk, v.kept = some dv ∧ k.val = some dk ∧ putOk es dk = true ∧ es.length < sizeLine ∧ De.nx (env.set i (.own (.dict (dput es dk dv))))
theorem mut_ext {H : Hp} {a : Addr} {Φ : Heap → Prop} (h : H a = some (.ext Φ)) : Mut (H a) := by rw [h]; trivial
theorem ds_put (i : Nat) {x : Str} {px pt : Pos} (hu : X.A.units + 9 < cLine) (hk : DE X G k wk cb) (he : DE X G e we ca) (hN : X.N[i]? = some x := by rfl) (hv : Vis X.env.scope x := by first | exact Or.inl rfl | exact Or.inr (Or.inl rfl) | exact Or.inr (Or.inr rfl)) (hd : (x == ("__debug__" : Str)) = false := by decide) (hcd : (x == ("__classdict__" : Str)) = false := by decide)
    (hs : swapsWith e (some (.Subscript (.Name x px) k pt)) pos.line X.env = pure false := by rfl) : DS X G (.Assign [.Subscript (.Name x px) k pt] e pos) (wPut i wk we) (ca + cb) := by
  refine ⟨fun pins s σ H T I h => ?_⟩
  obtain ⟨env, M, C, b0, De, hb0, er, ⟨es, hi, hw⟩, lf⟩ := h
  have hx : PE X (.Name x px) (tVar i) := pe_var hN hv hd hcd
  obtain ⟨a, ha, m, c, p, z, _⟩ := er.ownAt hi
  have q0 : tV G we ca σ H fun v H1 => tV G wk cb σ H1 fun y H3 => ∃ (b3 : Nat) (w3 : Wd) (d dk : D), b3 ≤ b0 + (ca + cb) ∧ w3.H = H3 ∧ ER (G.at b3) w3 env σ ∧ Rp w3 v d ∧ Rq w3 y dk ∧ putOk es dk = true ∧ es.length < sizeLine ∧ De.nx (env.set i (.own (.dict (dput es dk d)))) :=
    ⟨env, M, C, b0, _, by omega, er, hw, fun dv hd b1 w1 v hb1 er1 e1 r1 => ⟨env, w1.M, w1.C, b1, _, by omega, er1, hd, fun dk hk b3 w3 y hb3 er3 e3 r3 => by
      obtain ⟨d1, d2, k1, k2, k3, k4, n⟩ := hk
      exact ⟨b3, w3, d1, d2, by omega, rfl, er3, (r1.ext (Hs' := H) e3 er1.cm fun _ z => z).rp k1, r3.rq k2, k3, k4, n⟩⟩⟩
  refine wpAny_Assign_Subscript (thn (he.run pins s σ H _ I q0) fun r s1 ⟨v, H1, I1, rv, q1⟩ => thn (hx.run pins s1 σ H1 (fun x H2 => x = .ref a ∧ H2 = H1) I1 ⟨.ref a, ha, rfl, rfl⟩) fun u s2 ⟨x2, H2, I2, rx, ex, eH⟩ => ?_) hs
  subst ex eH
  refine thn (hk.run pins s2 σ H2 _ I2 q1) fun iv s3 ⟨y, H3, I3, ry, q3⟩ => ?_
  obtain rfl : u = Value.ref a := rx
  obtain ⟨b3, w3, d, dk, hb3, rfl, er3, rd, rk, ok, hz, n⟩ := q3
  obtain ⟨a', ha', m3, c3, p3, z3, ob⟩ := er3.ownAt hi
  rw [ha] at ha'
  cases ha'
  have st : ∀ o, St1 w3 ⟨upd w3.H a o, w3.M, w3.C⟩ := fun o => ⟨fun b x n q => .inl (by show upd w3.H a _ b = some x; rw [upd_ne (fun z => n (by rw [z]; exact m3))]; exact q), fun b m => .inl m⟩
  obtain ⟨rr, hr⟩ := Option.isSome_iff_exists.mp ok
  have finK : ∀ (q : Key) (kvs : List (Key × V)), dk = kD q → es.map (·.1) = kvs.map (fun p => kD p.1) → RpL w3 (kvs.map (·.2)) (es.map (·.2)) → T.nx σ (upd w3.H a (.dK (putK kvs q v))) := fun q kvs e1 k1 k2 => by
    subst e1
    exact lf.nx _ n b3 _ σ hb3 (er3.mut hi ha (.dK upd_same (put_keys kD_eqv kvs es q v d k1) ((put_vals kD_eqv rd kvs es q k1 k2).st (st _))))
  have notT : ∀ q : Key, isT (kD q) = false := fun q => by cases q <;> rfl
  cases hT : isT dk with
  | true =>
    cases dk with
    | tuple ds =>
      obtain ⟨⟨okd, cc⟩, _⟩ := of_if (show (if okN (.tuple ds) = true ∧ (es.all fun p => isT p.1) = true then some (dlook es (.tuple ds)) else none) = some rr from hr)
      obtain ⟨nk, n1, n2⟩ := okN_some okd
      cases rk with
      | @tup b xs _ nb hb rb =>
        have rkp : Rp w3 (.ref b) (.tuple ds) := .tup nb hb rb
        -- the dict as one of nested keys
        have dict : ∃ (w4 : Wd) (o : Obj) (L : List NE), w4.M = w3.M ∧ w4.C = w3.C ∧ (∀ b, b ≠ a → w4.H b = w3.H b) ∧ w4.H a = some (.ext (nestΦ a o L)) ∧ Inv X pins σ w4.H s3 ∧ NP w4 L es := by
          cases ob with
          | @dN L us _ nn r1 r2 =>
            obtain ⟨o, ho⟩ := nn.at_
            exact ⟨w3, o, L, rfl, rfl, fun _ _ => rfl, ho, I3, nn.np r1 r2⟩
          | @dK kvs _ hh k1 k2 =>
            have e0 : es = [] := by
              cases es with
              | nil => rfl
              | cons e0 es =>
                cases kvs with
                | nil => simp at k1
                | cons q kvs =>
                  simp only [List.map_cons, List.cons.injEq] at k1
                  simp only [List.all_cons, Bool.and_eq_true, k1.1, notT] at cc
                  cases cc.1
            subst e0
            have e3 : kvs = [] := by cases kvs with | nil => rfl | cons q r => simp at k1
            subst e3
            obtain ⟨hs0, o, es, ep, g1, g2, g3, g4, _, _⟩ := dK0 I3 (.inl hh)
            exact ⟨⟨upd w3.H a (.ext (nestΦ a o [])), w3.M, w3.C⟩, o, [], rfl, rfl, fun b nb => upd_ne nb, upd_same, I3.write (t' := s3.toks) (by rw [show w3.H a = _ from hh]; trivial) (.inl rfl) (fun b u _ q => q) ⟨o, g1⟩ (nest_ok hs0 g1 ⟨es, ep, g2, g3, g4, List.nodup_nil⟩), .nil⟩
        obtain ⟨w4, o0, L, m4, c4, h4, ha4, I4, np4⟩ := dict
        have st4 : St1 w3 w4 := ⟨fun b x nb q => .inl (by rw [h4 b fun z => nb (by rw [z]; exact m3)]; exact q), fun b mb => .inl (by rw [← m4]; exact mb)⟩
        have rk4 := rkp.st st4
        have rd4 := rd.st st4
        have dd := nest_of I4.hok ha4 np4
        obtain rfl : iv = Value.ref b := ry
        have np5 := np_put np4 n1 n2 rk4 rv rd4
        refine wpAny_setItem_heap (knd := nestedKind X.prog X.w) (hsz := by rw [np4.len]; omega) (show X.A.units + 1 + 8 < cLine by omega) ⟨nk_is I4.hok rk4 nk (.ref b) n1 rfl, n2⟩ dd fun h' dd' hs' => ?_
        obtain ⟨o, es', ep, g1, g2, g3, g4, _, g5⟩ := dd'
        have eH : upd w4.H a (.ext (nestΦ a o (storedH L nk b r))) = upd w3.H a (.ext (nestΦ a o (storedH L nk b r))) := by
          funext b
          by_cases z : b = a
          · subst z; rw [upd_same, upd_same]
          · rw [upd_ne z, upd_ne z, h4 b z]
        have I5 := d_write (t' := s3.toks + (nestedKind X.prog X.w).draws nk) I4 (by rw [ha4]; trivial) hs' ⟨o, g1⟩ (nest_ok (P := X.prog) (w := X.w) (H := upd w4.H a (.ext (nestΦ a o (storedH L nk b r)))) (nest_sys I4.hok ha4) g1 ⟨es', ep, g2, g3, g4.trans (np_ent np5).symm, g5⟩)
        rw [eH] at I5
        have st5 : St1 w4 ⟨upd w3.H a (.ext (nestΦ a o (storedH L nk b r))), w3.M, w3.C⟩ := ⟨fun b x nb q => .inl (by
          have nb' : b ≠ a := fun z => nb (by rw [z, m4]; exact m3)
          show upd w3.H a _ b = some x
          rw [upd_ne nb', ← h4 b nb']; exact q), fun b mb => .inl (by rw [m4]; exact mb)⟩
        refine ⟨σ, _, I5, lf.nx _ n b3 _ σ hb3 (er3.mut hi ha (Ow.np (w := ⟨upd w3.H a (.ext (nestΦ a o (storedH L nk b r))), w3.M, w3.C⟩) upd_same (np5.st st5) (dput_ne es _ d) (dput_tt es d rfl (fun p hp => List.all_eq_true.mp cc p hp))))⟩
    | _ => cases hT
  | false =>
    obtain ⟨q, rfl⟩ : ∃ q, dk = kD q := by
      cases dk with
      | int i => exact ⟨.inl i, rfl⟩
      | str x => exact ⟨.inr x, rfl⟩
      | tuple ds => cases hT
      | none => cases hr
      | bool _ => cases hr
      | list _ => cases hr
      | dict _ => cases hr
    have ev := rk.key
    subst ev
    have cc : (es.all fun p => !isT p.1) = true := by
      have := hr
      cases q <;> exact (of_if this).1
    cases ob with
    | @dK kvs _ hh k1 k2 => exact d_setItem (by omega) I3 (DPut.k hh (by have := congrArg List.length k1; simp at this; omega)) ry rv fun s4 I4 => ⟨σ, _, I4, finK q kvs rfl k1 k2⟩
    | dN nn _ _ =>
      exfalso
      cases es with
      | nil => exact nn.ne rfl
      | cons p r =>
        rw [List.all_cons, nn.tt p (List.mem_cons_self ..)] at cc
        cases cc
end
end DL
namespace DL
open PySem PySem.Spec PyProof.Rows L2
theorem Room.u9 {k : Nat} {A : Around} (r : Room k A) : A.units + 9 < cLine := by have := r.un; omega
theorem Room.u65 {k : Nat} {A : Around} (r : Room k A) : A.units + 65 < cLine := by have := r.un; omega
theorem Room.u1 {k : Nat} {A : Around} (r : Room k A) : A.units + 1 < cLine := by have := r.un; omega
section
variable {X : Cx} {G : Gh} {e e2 : Expr} {wa wb : WE} {ca cb : Nat} {pos : Pos}
/-! ### unary minus, powers -/
def w1 (f : D → Option D) (wa : WE) : WE := fun env P => wa env fun x => ∃ d, x.val.bind f = some d ∧ P (mkDv d)
theorem de_neg (ha : DE X G e wa ca) : DE X G (.UnaryOp .USub e pos) (w1 negD wa) ca := PE_imp (pe_un un_neg ha) fun σ H Q h => tV.one h fun env w x dx P er rx k hf => by
  obtain ⟨d, h1, p⟩ := k
  obtain ⟨dx', h2, h3⟩ := Option.bind_eq_some_iff.mp h1
  have q := rx.rq h2
  cases dx' with
  | int i =>
    cases q; cases h3
    exact ⟨i, rfl, hf.pure er p (Same.refl _) (.int _)⟩
  | _ => cases h3
def powD : D → D → Option D
  | .int i, .int j => if 0 ≤ j ∧ j ≤ 1000000 ∧ i.natAbs < 2 ^ 64 then some (.int (i ^ j.toNat)) else none
  | _, _ => none
theorem op_powD : OpR X (binaryOp .Pow) (rV2 powD) := by
  intro pins s σ H x y v u Q I rx ry ⟨w, dx, dy, d, eH, wk, qx, qy, hf, hq⟩
  subst eH
  cases dx with
  | int i =>
    cases dy with
    | int j =>
      cases qx; cases qy
      obtain ⟨c, rfl⟩ := of_if hf
      exact op_pow pins s σ _ _ _ v u Q I rx ry ⟨i, j, rfl, rfl, c, hq _ _ (Same.refl _) (.int _)⟩
    | _ => cases hf
  | _ => cases dy <;> cases hf

/-! ### several targets at once: a, b = x, y -/
/-- as VR, but what is new is held meanwhile -/
def VRo (G : Gh) (Hs : Hp) (w : Wd) (v : V) : Dv → Prop
  | .nw d => ∃ a, v = .ref a ∧ Hs a = none ∧ w.M a ∧ ¬ w.C a ∧ Ow w a d
  | dv => VR G Hs w v dv
theorem VRo.ext {Hs : Hp} {w w' : Wd} {v : V} {dv : Dv} (h : VRo G Hs w v dv) (ex : Ext w w') (cm : ∀ a, w.C a → w.M a) : VRo G Hs w' v dv := by
  cases dv with
  | nw d =>
    obtain ⟨a, q, z, m, n, o⟩ := h
    obtain ⟨ob, ho⟩ := o.there
    exact ⟨a, q, z, ex.oldM a m, fun c => (ex.newC a c).elim n (by rw [ho]; simp), o.st (ex.st cm) (by rw [ho]; exact ex.own n m ho)⟩
  | fz d => exact VR.ext (G := G) (Hs := Hs) (Hs' := Hs) (dv := .fz d) h ex cm fun _ z => z
  | ow d => exact VR.ext (G := G) (Hs := Hs) (Hs' := Hs) (dv := .ow d) h ex cm fun _ z => z
  | bw d => exact VR.ext (G := G) (Hs := Hs) (Hs' := Hs) (dv := .bw d) h ex cm fun _ z => z
  | raw d => exact VR.ext (G := G) (Hs := Hs) (Hs' := Hs) (dv := .raw d) h ex cm fun _ z => z
/-- an expression's value, held -/
theorem tV.held {wa : WE} {K : Ev → Dv → Prop} {σ : L2.St} {w : Wd} {env : Ev} {R : V → Hp → Prop} {b : Nat} (hb : b + ca ≤ cap) (er : ER (G.at b) w env σ) (h : wa env (K env)) (fin : ∀ b' w' x dx, b' ≤ b + ca → ER (G.at b') w' env σ → Ext w w' → VRo G w.H w' x dx → K env dx → R x w'.H) : tV G wa ca σ w.H R := by
  refine ⟨env, w.M, w.C, b, _, hb, er, h, fun dv k b' w' v hb' er' e' r => ?_⟩
  cases dv with
  | nw d =>
    obtain ⟨a, rfl, z, m, n, o⟩ := r
    obtain ⟨ob, ho⟩ := o.there
    obtain ⟨er2, e2⟩ := ER.held (d := d) er er' e' z (by rw [show w'.H a = some ob from ho]; simp) (fun xs => (show w'.H a ≠ some (.tup xs) from o.ntup xs))
    exact fin b' (w'.plus a) _ (.nw d) hb' er2 e2 ⟨a, rfl, z, .inr rfl, n, o⟩ k
  | fz d => exact fin b' w' v (.fz d) hb' er' e' r k
  | ow d => exact fin b' w' v (.ow d) hb' er' e' r k
  | bw d => exact fin b' w' v (.bw d) hb' er' e' r k
  | raw d => exact fin b' w' v (.raw d) hb' er' e' r k
/-- a held value comes into a slot -/
theorem storeO {k : Kp} {i : Nat} {x : Dv} {env : Ev} {N : Ev → Prop} {σ : L2.St} {w0 w : Wd} {env0 : Ev} {σ0 : L2.St} {v : V} {b0 b1 : Nat} (h : store k i x env N) (er0 : ER (G.at b0) w0 env0 σ0) (er : ER (G.at b1) w env σ) (r : VRo G w0.H w v x) (nd : ∀ (a : Addr) (d : D) (j : Nat), (∃ dd, x = .nw dd) → v = .ref a → env[j]? = some (Sl.own d) → σ[j]? ≠ some (some (V.ref a))) (nh : ∀ (a b : Addr) (A : Ab) (j : Nat), (∃ dd, x = .nw dd) → v = .ref a → env[j]? = some (Sl.ab b A) → a ≠ b ∧ σ[j]? ≠ some (some (V.ref a))) :
    ∃ env' w', N env' ∧ w'.H = w.H ∧ ER (G.at b1) w' env' (σ.set i (some v)) ∧ (∀ a, w'.M a → w.M a) ∧ (∀ a, w.M a → w'.M a ∨ (v = .ref a ∧ ∃ d, x = .nw d)) ∧ w'.C = w.C ∧ ∃ sl, env' = env.set i sl ∧ ((∃ d, sl = Sl.own d) → ∃ d, x = .nw d) ∧ ∀ b A, sl ≠ Sl.ab b A := by
  have fr : ∀ a, w0.H a = none → G.Pt a = none ∧ G.H0 a = none := fun a z => ⟨by
      cases q : G.Pt a with
      | none => rfl
      | some x => rcases er0.kp a x q with y | ⟨_, _, ob, y⟩ <;> (rw [z] at y; cases y), by
      cases q : G.H0 a with
      | none => rfl
      | some x => exact absurd z (er0.hd a (by rw [q]; simp))⟩
  cases k with
  | fz =>
    obtain ⟨d, h1, h2⟩ := h
    cases x with
    | nw d' =>
      simp only [Dv.kept] at h1
      by_cases q : isDct d' = true
      · rw [if_pos q] at h1; cases h1
      · rw [if_neg q] at h1; cases h1
        obtain ⟨a, rfl, z, m, n, o⟩ := r
        have st : St1 w ⟨w.H, fun b => w.M b ∧ b ≠ a, w.C⟩ := ⟨fun b x n q => .inl q, fun b m => .inl m.1⟩
        have rp : Rp ⟨w.H, fun b => w.M b ∧ b ≠ a, w.C⟩ (.ref a) d := (o.st st rfl).rp fun q => q.2 rfl
        have er' : ER (G.at b1) ⟨w.H, fun b => w.M b ∧ b ≠ a, w.C⟩ env σ := by
          refine ⟨⟨er.kp, fun b q => ⟨er.m0 b q, fun y => G.mh b q (by rw [y]; exact (fr a z).2)⟩, er.nc, er.cp, fun b q => ⟨er.cm b q, fun y => n (by rw [← y]; exact q)⟩, fun b q => er.md b q.1, er.hd, fun p hp => p.st _ _ st (er.gk p hp), er.si, fun b xs q => er.mt b xs q.1⟩, er.len, fun j s ov q1 q2 => ?_, er.od⟩
          have s0 := er.sl j s ov q1 q2
          cases s with
          | no => trivial
          | fz d => obtain ⟨v, y, r⟩ := s0; exact ⟨v, y, r.st st⟩
          | raw v => exact s0
          | own d =>
            obtain ⟨b, rfl, mb, cb, pb, zb, ob⟩ := s0
            exact ⟨b, rfl, ⟨mb, fun y => nd a d j ⟨_, rfl⟩ rfl q1 (by rw [← y]; exact q2)⟩, cb, pb, zb, ob.st st rfl⟩
          | bw d =>
            obtain ⟨b, rfl, mb, cb, ⟨x, pb⟩, ob⟩ := s0
            exact ⟨b, rfl, ⟨mb, fun y => by rw [y, (fr a z).1] at pb; cases pb⟩, cb, ⟨x, pb⟩, ob.st st rfl⟩
          | ab b A =>
            obtain ⟨b', rfl, ⟨m1, c1, p1, z1⟩, ⟨m2, c2, p2, z2⟩, ob⟩ := s0
            obtain ⟨n1, n2⟩ := nh a b A j ⟨_, rfl⟩ rfl q1
            exact ⟨b', rfl, ⟨⟨m1, fun y => n2 (by rw [q2, y])⟩, c1, p1, z1⟩, ⟨⟨m2, fun y => n1 y.symm⟩, c2, p2, z2⟩, A.st st ob rfl rfl⟩
        exact ⟨_, ⟨w.H, fun b => w.M b ∧ b ≠ a, w.C⟩, h2, rfl, er'.setFz rp i, fun b m => m.1, fun b m => by
          by_cases y : b = a
          · exact .inr ⟨by rw [y], _, rfl⟩
          · exact .inl ⟨m, y⟩, rfl, _, rfl, fun ⟨_, q⟩ => (nomatch q), fun _ _ z => nomatch z⟩
    | fz d' => exact ⟨_, w, h2, rfl, er.setFz (VR.rp (G := G) (Hs := w0.H) (dv := .fz d') r h1) i, fun _ m => m, fun _ m => .inl m, rfl, _, rfl, fun ⟨_, q⟩ => (nomatch q), fun _ _ z => nomatch z⟩
    | ow d' => cases h1
    | bw d' => cases h1
    | raw d' => cases h1
  | own =>
    obtain ⟨d, rfl, h2⟩ := h
    obtain ⟨a, rfl, z, m, n, o⟩ := r
    refine ⟨_, w, h2, rfl, ⟨er.toEH, by rw [List.length_set, List.length_set]; exact er.len, fun j s ov q1 q2 => ?_, OD.new er.od i (fun m dd g1 => nd a dd m ⟨_, rfl⟩ rfl g1) (fun m b0 A g1 => nh a b0 A m ⟨_, rfl⟩ rfl g1)⟩, fun _ m => m, fun _ m => .inl m, rfl, _, rfl, fun _ => ⟨_, rfl⟩, fun _ _ z => nomatch z⟩
    · rcases get_set q1 with ⟨rfl, rfl⟩ | ⟨n1, q1⟩
      · rcases get_set q2 with ⟨_, rfl⟩ | ⟨n2, _⟩
        · exact ⟨a, rfl, m, n, (fr a z).1, (fr a z).2, o⟩
        · exact absurd rfl n2
      · rcases get_set q2 with ⟨n2, _⟩ | ⟨_, q2⟩
        · exact absurd n2 n1
        · exact er.sl j s ov q1 q2
  | raw =>
    obtain ⟨u, rfl, h2⟩ := h
    obtain rfl : v = u := r
    exact ⟨_, w, h2, rfl, er.setRaw i, fun _ m => m, fun _ m => .inl m, rfl, _, rfl, fun ⟨_, q⟩ => (nomatch q), fun _ _ z => nomatch z⟩
theorem VRo.less {Hs : Hp} {w w' : Wd} {v : V} {dv : Dv} {U : Addr → Prop} (h : VRo G Hs w v dv) (eH : w'.H = w.H) (eC : w'.C = w.C) (h1 : ∀ a, w'.M a → w.M a) (h2 : ∀ a, w.M a → w'.M a ∨ U a) (ne : ∀ a, U a → Hs a ≠ none) (nb : dv.kept ≠ none ∨ (∃ d, dv = .nw d) ∨ ∃ v, dv = .raw v) : VRo G Hs w' v dv := by
  have st : St1 w w' := ⟨fun a o _ q => .inl (by rw [eH]; exact q), fun a m => .inl (h1 a m)⟩
  cases dv with
  | nw d =>
    obtain ⟨a, q, z, m, n, o⟩ := h
    exact ⟨a, q, z, (h2 a m).elim id fun y => absurd z (ne a y), by rw [eC]; exact n, o.st st (by rw [eH])⟩
  | fz d => exact Rp.st st h
  | raw d => exact h
  | ow d =>
    rcases nb with q | ⟨_, q⟩ | ⟨_, q⟩
    · exact (q rfl).elim
    · cases q
    · cases q
  | bw d =>
    rcases nb with q | ⟨_, q⟩ | ⟨_, q⟩
    · exact (q rfl).elim
    · cases q
    · cases q
theorem store_nb {k : Kp} {i : Nat} {x : Dv} {env : Ev} {N : Ev → Prop} (h : store k i x env N) : x.kept ≠ none ∨ (∃ d, x = .nw d) ∨ ∃ v, x = .raw v := by
  cases k with
  | fz => obtain ⟨d, q, _⟩ := h; exact .inl (by rw [q]; simp)
  | own => obtain ⟨d, q, _⟩ := h; exact .inr (.inl ⟨d, q⟩)
  | raw => obtain ⟨d, q, _⟩ := h; exact .inr (.inr ⟨d, q⟩)
/-- no own slot holds what is new -/
theorem ER.notNew {w : Wd} {env : Ev} {σ : L2.St} (er : ER G w env σ) {a : Addr} {d : D} {j : Nat} (h : env[j]? = some (.own d)) (z : w.H a = none) : σ[j]? ≠ some (some (.ref a)) := fun q => by
  obtain ⟨b, h1, _, _, _, _, o⟩ := er.ownAt h
  rw [q] at h1
  cases h1
  obtain ⟨ob, ho⟩ := o.there
  rw [z] at ho; cases ho
theorem ER.notNewH {w : Wd} {env : Ev} {σ : L2.St} (er : ER G w env σ) {a b : Addr} {A : Ab} {j : Nat} (h : env[j]? = some (.ab b A)) (z : w.H a = none) : a ≠ b ∧ σ[j]? ≠ some (some (.ref a)) := by
  obtain ⟨ov, h1, b', rfl, _, _, oA⟩ := er.at h
  obtain ⟨⟨_, hx⟩, ⟨_, hy⟩⟩ := A.ex oA
  refine ⟨fun y => ?_, fun y => ?_⟩
  · rw [← y, z] at hy; cases hy
  · rw [h1] at y
    cases y
    rw [z] at hx; cases hx
def wPar2 (k1 : Kp) (i : Nat) (k2 : Kp) (j : Nat) (wa wb : WE) : WS := fun env De => wa env fun x => wb env fun y => store k1 i x env fun env1 => store k2 j y env1 De.nx
theorem ds_par2 (k1 : Kp) (i : Nat) (k2 : Kp) (j : Nat) {x y : Str} {px py pt : Pos} {kt kk pt2} (hc : X.calm = true) (hN : X.N.Nodup) (ha : DE X G e wa ca) (hb : DE X G e2 wb cb) (hi : X.N[i]? = some x := by rfl) (hj : X.N[j]? = some y := by rfl) (hij : i ≠ j := by decide)
    (hx : X.env.scope.names.lookup x = some .local := by rfl) (hy : X.env.scope.names.lookup y = some .local := by rfl) (ne : starEach [e, e2] X.env = (false, eval e X.env) :: starEach [e2] X.env := by rfl) (ne2 : starEach [e2] X.env = (false, eval e2 X.env) :: starEach [] X.env := by rfl)
    (hw : swappedStores [.Tuple [.Name x px, .Name y py] kt pt] (.Tuple [e, e2] kk pt2) X.env = pure (some [x, y]) := by rfl)
    (hs : swapsWithSole [.Tuple [.Name x px, .Name y py] kt pt] (.Tuple [e, e2] kk pt2) pos.line X.env = pure false := by rfl) :
    DS X G (.Assign [.Tuple [.Name x px, .Name y py] kt pt] (.Tuple [e, e2] kk pt2) pos) (wPar2 k1 i k2 j wa wb) (ca + cb) :=
  PS_imp (ps_par hc hN hi hj hij hx hy (pa_cons ha (pa_cons hb pa_nil ne2) ne) hw hs) fun σ H T h => by
    obtain ⟨env, M, C, b0, De, hb0, er, hp, lf⟩ := h
    suffices q : tV G wa ca σ H fun v1 H1 => tV G wb cb σ H1 fun v2 H2 => ∃ v w, [v1, v2] = [v, w] ∧ T.nx ((σ.set i (some v)).set j (some w)) H2 from q
    refine tV.held (K := fun env x => wb env fun y => store k1 i x env fun env1 => store k2 j y env1 De.nx) (w := ⟨H, M, C⟩) (b := b0) (by omega) er hp fun b1 w1 v1 d1 hb1 er1 e1 r1 hq => ?_
    refine tV.held (K := fun env y => store k1 i d1 env fun env1 => store k2 j y env1 De.nx) (b := b1) (by omega) er1 hq fun b2 w2 v2 d2 hb2 er2 e2' r2 hs => ?_
    refine ⟨v1, v2, rfl, ?_⟩
    have r1' := r1.ext e2' er1.cm
    have new1 : ∀ a d, v1 = .ref a → d1 = .nw d → H a = none ∧ w1.H a ≠ none := fun a d ea ed => by
      subst ed
      obtain ⟨b, q, z, _, _, o⟩ := r1
      rw [ea] at q; cases q
      obtain ⟨ob, ho⟩ := o.there
      exact ⟨z, by rw [ho]; simp⟩
    obtain ⟨env1, w3, hn, eH, er3, g1, g2, eC, sl, esl, hsl, hslh⟩ := storeO hs er er2 r1' (fun a d m ⟨dd, ed⟩ ea hm => er.notNew hm (new1 a dd ea ed).1) (fun a b A m ⟨dd, ed⟩ ea hm => er.notNewH hm (new1 a dd ea ed).1)
    -- the second value stands in the world behind the first store
    have r2' : VRo G w1.H w3 v2 d2 := VRo.less r2 eH eC g1 g2 (fun a ⟨ea, dd, ed⟩ => (new1 a dd ea ed).2) (store_nb hn)
    obtain ⟨env2, w4, hn2, eH2, er4, _⟩ := storeO hn er1 er3 r2' (fun a d m ⟨dd, ed⟩ ea hm hq => by
      subst ed
      obtain ⟨b, q, z, _, _, o⟩ := r2
      rw [ea] at q; cases q
      rw [esl] at hm
      rcases get_set hm with ⟨em, es⟩ | ⟨nm, hm⟩
      · rcases get_set hq with ⟨_, y⟩ | ⟨y, _⟩
        · obtain ⟨dd', ed'⟩ := hsl ⟨d, es.symm⟩
          exact (new1 _ dd' (Option.some.inj y).symm ed').2 z
        · exact absurd em y
      · rcases get_set hq with ⟨y, _⟩ | ⟨_, hq⟩
        · exact absurd y nm
        · exact er1.notNew hm z hq) (fun a b A m ⟨dd, ed⟩ ea hm => by
      subst ed
      obtain ⟨b, q, z, _, _, o⟩ := r2
      rw [ea] at q; cases q
      rw [esl] at hm
      rcases get_set hm with ⟨em, es⟩ | ⟨nm, hm⟩
      · exact absurd es.symm (hslh _ _)
      · rw [List.getElem?_set_ne (Ne.symm nm)]
        exact er1.notNewH hm z)
    rw [← eH, ← eH2]
    exact lf.nx env2 hn2 b2 w4 _ (by omega) er4
end
end DL
namespace DL
open PySem PySem.Spec PyProof.Rows L2 PySem.W PySem.SeqAt PySem.Calls
/-! ### sorting tuples, the first of which is the empty one -/
section
variable {prog : Program} {w : World} {A : Around} {E : Value → Shared → Prop} {s : Shared}
theorem call_tuple_lt {Q : Value → Shared → Prop} {l b : Addr} {items items2 : Array Value} {e r : Nat → Bool} (hl : s.heap.IsTuple l items) (hb : s.heap.IsTuple b items2)
    (he : ∀ j (h1 : j < items.size) (h2 : j < items2.size), EqAt A.in1 s items[j] items2[j] (e j)) (hr : ∀ j (h1 : j < items.size) (h2 : j < items2.size), e j = false → RcLt A.in1 s items[j] items2[j] (r j))
    (h : Q (.bool (firstLt e r (decide (items.size < items2.size)) (List.range (min items.size items2.size)))) s) : wpAny (model prog w) A (call (.builtin "tuple.__lt__") [.ref l, .ref b]) Q E s := by
  obtain ⟨⟨cls, dd, data, sl⟩, ho, hc, n, hd⟩ := id hl
  obtain ⟨⟨cls2, dd2, data2, sl2⟩, ho2, hc2, n2, hd2⟩ := id hb
  simp only at hc hd hc2 hd2
  subst hc hd hc2 hd2
  exact call_meets F.slot_tuple_lt ⟨_, ho, rfl⟩ F.entry_tuple_lt (F.args_tuple_lt_2 _ _) (tuple_ltAt l b items items2 n n2 dd dd2 sl sl2 e r) ⟨ho, ho2, he, hr, h⟩
theorem oneLt_tup {xs ys : List PyData} {a b : Value} {as bs : List Addr} {Q : Bool → Shared → Prop} (ra : Reads s.heap a (.tuple xs) as) (rb : Reads s.heap b (.tuple ys) bs) (h : alike (.tuple xs) (.tuple ys) = true)
    (hu : A.units + min (PyData.tuple xs).depth (PyData.tuple ys).depth < cLine) (hq : Q (dataLt (.tuple xs) (.tuple ys)) s) : wpAny (model prog w) A (oneLt' true a b) Q E s := by
  have hal : alikeAll xs ys = true := by simpa [alike] using h
  cases ra with
  | @tuple l o vs n _ as₁ h1 h2 h3 h4 =>
    cases rb with
    | @tuple l' o' vs' n' _ bs₁ k1 k2 k3 k4 =>
      have n1 : vs.size = xs.length := by simpa using ReadsAll.length _ _ _ h4
      have n2 : vs'.size = ys.length := by simpa using ReadsAll.length _ _ _ k4
      rw [dataLt_tuple, ← firstLt_toks xs ys hal, ← n1, ← n2] at hq
      rw [oneLt'_eq]
      simp only [if_true]
      refine wpAny_bind (wpAny_cRoomFor (room_here hu) ?_)
      refine wpAny_bind (wpAny_callSpecialIfBound?_slot (T := "tuple") ⟨_, h1, h2⟩ F.slot_tuple_lt (call_tuple_lt (e := pairEq xs ys) (r := fun j => dataLt (xs.getD j .none) (ys.getD j .none)) ⟨_, h1, h2, _, h3⟩ ⟨_, k1, k2, _, k3⟩ (fun j j1 j2 => ?_) (fun j j1 j2 hj => ?_) ?_))
      · have := eqAt_alikeAll xs ys A.in1 s vs.toList vs'.toList _ _ h4 k4 hal (room_in hu) j (by simpa using j1) (by simpa using j2)
        simpa using this
      · have := rcLt_alikeAll xs ys A.in1 s vs.toList vs'.toList _ _ h4 k4 hal (room_in hu) j (by simpa using j1) (by simpa using j2) hj
        simpa using this
      · exact wpAny_truthy_bool hq
end
section
variable {M : Model} {A : Around} {E : Value → Shared → Prop} {s : Shared}
theorem first_tup {v : Value} {xs : List PyData} {as : List Addr} {Q : Option Value → Shared → Prop} (r : Reads s.heap v (.tuple xs) as) (h : ∀ f, (xs = [] → f = none) → Q f s) : wpAny M A (firstOfTuple' v) Q E s := by
  cases r with
  | @tuple a o ys n _ _ ho hc hd hr =>
    rw [kas_first_eq]
    refine wpAny_bind (Looks.here (show Looks M s.heap (typeOf (.ref a)) o.cls from (Looks.ld ho).andThen .now) ?_)
    rw [hc, if_neg (by first | decide | simp)]
    refine wpAny_bind (listItems_at ho hd (wpAny_pure (h _ fun e => ?_)))
    subst e
    have n1 : ys.size = 0 := by simpa using ReadsAll.length _ _ _ hr
    rw [Array.getElem?_eq_none (by omega)]
theorem firsts_tup : ∀ {vs : List Value} {ds : List PyData} {Q : List (Option Value) → Shared → Prop}, EachIs (fun v d => ∃ as, Reads s.heap v d as) vs ds → (∀ d ∈ ds, ∃ xs, d = .tuple xs) → (∀ fs, Q fs s) → wpAny M A (vs.mapM firstOfTuple') Q E s
  | _, _, Q, .nil, _, h => by rw [List.mapM_nil]; exact wpAny_pure (h [])
  | _, _, Q, .cons (b := d) ⟨as, r⟩ t, ht, h => by
    obtain ⟨xs, rfl⟩ := ht d (List.mem_cons_self ..)
    rw [List.mapM_cons]
    exact wpAny_bind (first_tup r fun f _ => wpAny_bind (firsts_tup (Q := fun bs s' => wpAny M A (pure (f :: bs)) Q E s') t (fun d hd => ht d (List.mem_cons_of_mem _ hd)) fun fs => wpAny_pure (h _)))
theorem kind_tupE {v : Value} {vs : List Value} {ds : List PyData} {as : List Addr} {Q : SortKind → Shared → Prop} (r : Reads s.heap v (.tuple []) as) (e : EachIs (fun v d => ∃ as, Reads s.heap v d as) vs ds) (ht : ∀ d ∈ ds, ∃ xs, d = .tuple xs) (h : Q oneType' s) : wpAny M A (keyKind' (v :: vs).toArray) Q E s := by
  rw [keyKind'_eq, List.mapM_toArray, map_eq_pure_bind]
  refine wpAny_bind (wpAny_bind ?_)
  rw [List.mapM_cons]
  refine wpAny_bind (first_tup r fun f hf => wpAny_bind (firsts_tup e ht fun fs => wpAny_pure (wpAny_pure ?_)))
  rw [hf rfl]
  rw [if_neg (by simp), if_neg (by simp)]
  have hT : ∀ u ∈ v :: vs, Looks M s.heap (typeOf u) (.type "tuple") := by
    intro u hu
    rcases List.mem_cons.mp hu with rfl | hu
    · exact looks_reads r
    · obtain ⟨d, hd, as', r'⟩ := e.left u hu
      obtain ⟨xs, rfl⟩ := ht d hd
      exact looks_reads r'
  rw [oneTypeOnly'_eq, List.mapM_toArray, map_eq_pure_bind]
  refine wpAny_bind (wpAny_bind (wpAny_bind (kas_mapM (r := Value.type "tuple") _ (fun v hv Q' hq => (hT v hv).here hq) (wpAny_pure ?_))))
  have hall2 : ((List.map (fun _ => Value.type "tuple") (v :: vs)).toArray.all fun x => x == Value.type "tuple") = true := by
    simp only [List.all_toArray, List.all_map, List.all_eq_true]
    intro _ _
    simp
  have h0 : (List.map (fun _ => Value.type "tuple") (v :: vs)).toArray[0]? = some (Value.type "tuple") := by simp
  rw [h0]
  simp only [hall2, if_true]
  exact wpAny_pure (wpAny_pure h)
end
def tupE : List D → Bool
  | .tuple [] :: r => r.all fun d => match d with | .tuple _ => true | _ => false
  | _ => false
theorem tupE_get {ds : List D} (h : tupE ds = true) : ∃ r, ds = .tuple [] :: r ∧ ∀ d ∈ r, ∃ xs, d = .tuple xs := by
  unfold tupE at h
  split at h
  · rename_i r
    refine ⟨r, rfl, fun d hd => ?_⟩
    have := List.all_eq_true.mp h d hd
    split at this
    · exact ⟨_, rfl⟩
    · cases this
  · cases h
theorem sorts_tupE {prog : Program} {w : World} {A : Around} {s : Shared} {vs : List Value} {ds : List PyData} (e : EachIs (fun v d => ∃ as, Reads s.heap v d as) vs ds) (hal : AllAlike ds) (ht : tupE ds = true) (hu : ∀ d, d ∈ ds → A.units + d.depth < cLine) : SortsAt prog w A s (dataKind s.heap ds) vs := by
  have room : ∀ {d d' : PyData}, d ∈ ds → A.units + min d.depth d'.depth < cLine := fun {d d'} hd => Nat.lt_of_le_of_lt (Nat.add_le_add_left (Nat.min_le_left _ _) _) (hu d hd)
  obtain ⟨r, e0, h1⟩ := tupE_get ht
  have hT : ∀ d ∈ ds, ∃ xs, d = .tuple xs := fun d hd => by
    rw [e0] at hd
    rcases List.mem_cons.mp hd with rfl | hd
    · exact ⟨[], rfl⟩
    · exact h1 d hd
  refine ⟨fun v hv => ?_, oneType', ?_, fun h2 E Q hq => ?_⟩
  · obtain ⟨d, hd, as, r⟩ := e.left v hv
    exact ⟨_, dataKind_some hal hd r⟩
  · intro E x y a b Q ha hb hq
    obtain ⟨d, as, hd, ra, rfl⟩ := dataKind_inv ha
    obtain ⟨d', as', hd', rb, rfl⟩ := dataKind_inv hb
    rw [keyLt'_oneType]
    obtain ⟨xs, rfl⟩ := hT d hd
    obtain ⟨ys, rfl⟩ := hT d' hd'
    exact oneLt_tup ra rb (hal _ hd _ hd') (room hd) hq
  · subst e0
    cases e with
    | cons h t =>
      obtain ⟨as, r0⟩ := h
      exact kind_tupE r0 t h1 hq
end DL
namespace DL
open PySem PySem.Spec PyProof.Rows L2 PySem.W
/-! ### sorted -/
def alikeB (ds : List D) : Bool := ds.all fun d => ds.all fun e => alike d e
def tup1 : D → Bool
  | .tuple (_ :: _) => true
  | _ => false
def plain1 : D → Bool
  | .none => false
  | .tuple _ => false
  | _ => true
def sortOk (ds : List D) : Bool := alikeB ds && (ds.all tup1 || ds.all plain1 || tupE ds) && decide (ds.length ≤ sizeLine) && ds.all (fun d => decide (d.depth ≤ 50)) && PyData.canLayAll0 ds
def sortD (ds : List D) : List D := ds.mergeSort (dataLe false id)
def sortedD : List D → Option D
  | [.list ds] => if sortOk ds = true then some (.list (sortD ds)) else none
  | [.tuple ds] => if sortOk ds = true then some (.list (sortD ds)) else none
  | _ => none
theorem sortOk_get {ds : List D} (h : sortOk ds = true) : AllAlike (ds.map id) ∧ (Sortable (ds.map id) ∨ tupE ds = true) ∧ ds.length ≤ sizeLine ∧ (∀ d ∈ ds, d.depth ≤ 50) ∧ PyData.canLayAll0 ds = true := by
  simp only [sortOk, Bool.and_eq_true, decide_eq_true_eq, Bool.or_eq_true, List.all_eq_true, alikeB] at h
  obtain ⟨⟨⟨⟨h1, h2⟩, h3⟩, h4⟩, h5⟩ := h
  rw [List.map_id]
  refine ⟨fun d hd e he => h1 d hd e he, ?_, h3, h4, h5⟩
  rcases h2 with (q | q) | q
  · refine .inl (.inl fun d hd => ?_)
    have := q d hd
    cases d with
    | tuple xs =>
      cases xs with
      | nil => cases this
      | cons x r => exact ⟨x, r, rfl⟩
    | _ => cases this
  · refine .inl (.inr fun d hd => ⟨fun z => ?_, fun xs z => ?_⟩)
    · have := q d hd; rw [z] at this; cases this
    · have := q d hd; rw [z] at this; cases this
  · exact .inr q
theorem sorts_any {prog : Program} {w : World} {A : Around} {s : Shared} {vs : List Value} {ds : List D} (e : EachIs (fun v d => ∃ as, Reads s.heap v d as) vs (ds.map id)) (hal : AllAlike (ds.map id)) (hk : Sortable (ds.map id) ∨ tupE ds = true) (hu : ∀ d, d ∈ ds.map id → A.units + d.depth < cLine) : SortsAt prog w A s (dataKind s.heap (ds.map id)) vs := by
  rcases hk with hk | hk
  · exact SortsAt.data e hal hk hu
  · exact sorts_tupE e hal (by rw [List.map_id]; exact hk) hu
section
variable {X : Cx} {G : Gh}
theorem each_of {w : Wd} : ∀ {ds : List D} {vs : List V} {us : List Value}, RpL w vs ds → Vals vs us → EachIs (fun u d => ∃ v, RelV v u ∧ Rp w v d) us ds
  | _, _, _, .nil, .nil => .nil
  | _, _, _, .cons h r, .cons q t => .cons ⟨_, q, h⟩ (each_of r t)
theorem of_each {w : Wd} : ∀ {ds : List D} {us : List Value}, EachIs (fun u d => ∃ v, RelV v u ∧ Rp w v d) us ds → ∃ vs, RpL w vs ds ∧ Vals vs us
  | _, _, .nil => ⟨[], .nil, .nil⟩
  | _, _, .cons ⟨v, q, h⟩ r => by
    obtain ⟨vs, a, b⟩ := of_each r
    exact ⟨v :: vs, .cons h a, .cons q b⟩
theorem each_reads {pins : List (Addr × Obj)} {σ : L2.St} {w : Wd} {s : Shared} (I : Inv X pins σ w.H s) : ∀ {ds : List D} {vs : List V} {us : List Value}, RpL w vs ds → Vals vs us → PyData.canLayAll0 ds = true → EachIs (fun u d => ∃ as, Reads s.heap u (id d) as) us ds
  | _, _, _, .nil, .nil, _ => .nil
  | _, _, _, .cons h r, .cons q t, c => by
    rw [PyData.canLayAll0, Bool.and_eq_true] at c
    exact .cons (Dp.reads I _ _ _ (Rp.dp (K := X.K) h c.1) q) (each_reads I r t c.2)
theorem sorted_end {pins : List (Addr × Obj)} {σ : L2.St} {w : Wd} {s : Shared} {Q : VK} {ds : List D} {us out : List Value} (I : Inv X pins σ w.H s) (hz : ds.length ≤ sizeLine) (ho : out.length = ds.length) (eo : EachIs (fun u d => ∃ v, RelV v u ∧ Rp w v d) out (ds.mergeSort (dataLe false id)))
    (hq : ∀ v H', Same w.H H' → VN w H' v (.list (sortD ds)) → Q v H') : EP X pins σ Q (.ref (s.heap.objs.size + 1)) { s with heap := sortedAll s.heap us out.toArray } := by
  obtain ⟨vs, r1, r2⟩ := of_each eo
  obtain ⟨c, hc⟩ := sortedAll_at s.heap us out.toArray
  have hp : w.H (s.heap.objs.size + 1) = none := I.hok.fresh (Nat.le_succ _)
  refine ⟨.ref (s.heap.objs.size + 1), upd w.H (s.heap.objs.size + 1) (.lst vs), I.laid (t' := s.toks) (fun b u q => sortedAll_old q) (Nat.le_succ _) ⟨?_, out, c, r2, hc⟩, rfl, hq _ _ (same_new hp) (newL hp r1)⟩
  rw [r2.length, ho]; exact hz
/-- a tuple's items, collected -/
theorem collectT {prog : Program} {w : World} {A : Around} {E : Value → Shared → Prop} {s : Shared} {l : Addr} {vs : List Value} {Q : List Value → Shared → Prop} (ht : s.heap.IsTuple l vs.toArray) (hz : vs.length ≤ sizeLine)
    (h : Q vs { s with heap := (s.heap.push (seqObj "list" #[] 0)).update s.heap.objs.size (Obj.mapSeq (· ++ vs.toArray)) }) : wpAny (model prog w) A (collect (.ref l)) Q E s := by
  obtain ⟨o, ho, hc, n, hd⟩ := id ht
  unfold collect; refine wpAny_bind (wpAny_runValue (codeAny_builtin entry_proto_collect' ?_))
  show wpAny _ _ (do again (.builtin "list.__iadd__" ⟨[← newList [], .ref l], []⟩)) _ _ s; refine wpAny_bind (wpAny_newList (wpAny_pure ⟨Code.quiet_builtin _ (by decide +kernel), codeAny_builtin entry_list_iadd' ?_⟩))
  show wpAny _ _ (Builtin.List.listExtendWith (.ref s.heap.objs.size) (.ref l) (.ref s.heap.objs.size)) _ _ { s with heap := s.heap.push (seqObj "list" #[] 0) }; unfold Builtin.List.listExtendWith
  have ho' : (s.heap.push (seqObj "list" #[] 0)).get? l = some o := Heap.get?_push_of_some _ ho
  refine wpAny_bind (wpAny_typeOf (T := "tuple") ⟨o, ho', hc⟩ ?_)
  have e2 : (Value.type "tuple" == Value.type "tuple") = true := by rfl
  rw [if_pos (by rw [e2]; simp)]; refine wpAny_bind (listItems_at ho' hd ?_)
  refine wpAny_bind (listItems_at (xs := #[]) (n := 0) (Heap.get?_push_size _ rfl) rfl ?_); rw [if_neg (by simp)]
  refine wpAny_bind (listUpdate_at (xs := #[]) (n := 0) (Heap.get?_push_size _ rfl) rfl ?_ (Nat.zero_le _) (by show (#[] ++ vs.toArray).size ≤ sizeLine + 1; simp only [Array.size_append, List.size_toArray, List.length_nil]; omega)); refine wpAny_pure ?_
  show wpAny (model prog w) A (do let o ← load s.heap.objs.size
                                  match o.data with
                                  | .seq xs _ => pure xs.toList
                                  | _ => unsupported "internal:collect") Q E { s with heap := (s.heap.push (seqObj "list" #[] 0)).update s.heap.objs.size (Obj.mapSeq (· ++ vs.toArray)) }
  refine wpAny_bind (wpAny_load (get?_update_seq (Heap.get?_push_size _ rfl) _) ?_); show wpAny _ _ (pure ((#[] : Array Value) ++ vs.toArray).toList) Q E _
  rw [show ((#[] : Array Value) ++ vs.toArray).toList = vs by simp]; exact wpAny_pure h
theorem sortedT {prog : Program} {w : World} {A : Around} {E : Value → Shared → Prop} {s : Shared} {κ : PyProof.Rows.KeyKind} {l : Addr} {vs : List Value} {Q : Value → Shared → Prop} (ht : s.heap.IsTuple l vs.toArray) (S : SortsAt prog w A.in1.in1 { s with heap := sortingHeap (copyHeap s.heap vs) (s.heap.objs.size + 1) vs } κ vs) (hL : vs.length ≤ sizeLine)
    (h : Q (.ref (s.heap.objs.size + 1)) { s with heap := sortedAll s.heap vs (sortVals κ false vs vs).toArray }) : wpAny (model prog w) A (call (.builtin "sorted") [.ref l]) Q E s := by
  refine Calls.call_function_entry kind_sorted plain_sorted entry_sorted (args_sorted1 _) ?_; unfold Builtin.«sorted»
  refine wpAny_bind (m := checkCount "sorted" 1 1 _) (wpAny_pure ?_); refine wpAny_bind (collectT ht hL ?_)
  refine wpAny_bind (wpAny_newList ?_ hL)
  have hsz : ((s.heap.push (seqObj "list" #[] 0)).update s.heap.objs.size (Obj.mapSeq (· ++ vs.toArray))).objs.size = s.heap.objs.size + 1 := by rw [Heap.size_update, size_push']
  show wpAny _ _ _ _ _ { s with heap := copyHeap s.heap vs }; rw [hsz]
  refine wpAny_bind (wpAny_holding (wpAny_call_entry_kw slot_list_sort ⟨_, copyHeap_at s.heap vs, rfl⟩ entry_list_sort ?_ (args_list_sort _)))
  refine list_sort_vals (s := { s with heap := copyHeap s.heap vs }) (copyHeap_at s.heap vs) S hL ⟨_, rfl, wpAny_pure ⟨_, rfl, h⟩⟩
theorem call_sortedD (hu : X.A.units + 65 < cLine) : CallR X (.builtin "sorted") (rB sortedD) := by
  intro pins s σ H xs us Q I r ⟨w, ds, d, eH, wk, qx, hf, hq⟩
  subst eH
  unfold sortedD at hf
  split at hf
  · obtain ⟨c, rfl⟩ := of_if hf
    obtain ⟨x, rfl, q⟩ := qx.one'
    obtain ⟨u, rfl, ru⟩ := vals1 r
    obtain ⟨h1, h2, h3, h4, h5⟩ := sortOk_get c
    cases q with
    | @lst a xs _ h rl =>
      cases (show u = Value.ref a from ru)
      obtain ⟨its, rv, pl, _⟩ := I.list (SqL.of h)
      have er : EachIs (fun u d => ∃ as, Reads (sortingHeap (copyHeap s.heap its) (s.heap.objs.size + 1) its) u (id d) as) its _ := (each_reads I rl rv h5).mono fun _ _ ⟨as, r⟩ => ⟨as, PyProof.Rows.Reads.keeps (fun _ _ => sorting_copy_old) r⟩
      have el := (each_of rl rv).length
      refine sorted_vals pl.isList (sorts_any (s := { s with heap := sortingHeap (copyHeap s.heap its) (s.heap.objs.size + 1) its }) (each_map (R := fun v d => ∃ as, Reads (sortingHeap (copyHeap s.heap its) (s.heap.objs.size + 1) its) v d as) id er) h1 h2 (bound_map fun b hb => by have := h4 b hb; show X.A.units + 2 + b.depth < cLine; omega)) (by rw [el]; exact h3) ?_
      exact sorted_end I h3 (by rw [sortVals_length false rfl]; exact el) (sortVals_data false (each_of rl rv) er h1) hq
  · obtain ⟨c, rfl⟩ := of_if hf
    obtain ⟨x, rfl, q⟩ := qx.one'
    obtain ⟨u, rfl, ru⟩ := vals1 r
    obtain ⟨h1, h2, h3, h4, h5⟩ := sortOk_get c
    cases q with
    | @tup a xs _ _ h rl =>
      cases (show u = Value.ref a from ru)
      obtain ⟨its, rv, pl, _⟩ := I.tuple (h.sq)
      have er : EachIs (fun u d => ∃ as, Reads (sortingHeap (copyHeap s.heap its) (s.heap.objs.size + 1) its) u (id d) as) its _ := (each_reads I rl rv h5).mono fun _ _ ⟨as, r⟩ => ⟨as, PyProof.Rows.Reads.keeps (fun _ _ => sorting_copy_old) r⟩
      have el := (each_of rl rv).length
      refine sortedT (show s.heap.IsTuple a its.toArray from pl) (sorts_any (s := { s with heap := sortingHeap (copyHeap s.heap its) (s.heap.objs.size + 1) its }) (each_map (R := fun v d => ∃ as, Reads (sortingHeap (copyHeap s.heap its) (s.heap.objs.size + 1) its) v d as) id er) h1 h2 (bound_map fun b hb => by have := h4 b hb; show X.A.units + 2 + b.depth < cLine; omega)) (by rw [el]; exact h3) ?_
      exact sorted_end I h3 (by rw [sortVals_length false rfl]; exact el) (sortVals_data false (each_of rl rv) er h1) hq
  · cases hf
/-! ### repr -/
mutual
theorem noDict : ∀ d : D, d.canLay0 = true → d.hasDict = false
  | .none, _ => by simp [PyData.hasDict]
  | .bool _, _ => by simp [PyData.hasDict]
  | .int _, _ => by simp [PyData.hasDict]
  | .str _, _ => by simp [PyData.hasDict]
  | .list xs, h => by rw [PyData.hasDict]; exact noDictAll xs h
  | .tuple xs, h => by rw [PyData.hasDict]; exact noDictAll xs h
  | .dict _, h => by cases h
theorem noDictAll : ∀ ds : List D, PyData.canLayAll0 ds = true → PyData.hasDictAll ds = false
  | [], _ => by simp [PyData.hasDictAll]
  | d :: ds, h => by
    rw [PyData.canLayAll0, Bool.and_eq_true] at h
    rw [PyData.hasDictAll, noDict d h.1, noDictAll ds h.2]; rfl
end
def reprOk (d : D) : Bool := d.canLay0 && d.showable && decide (d.depth ≤ 50) && decide (d.shown.length ≤ sizeLine)
def reprD : List D → Option D
  | [d] => if reprOk d = true then some (.str d.shown) else none
  | _ => none
theorem call_reprD (hgd : X.A.guards = some []) (hu : X.A.units + 65 < cLine) : CallR X (.builtin "repr") (rB reprD) := by
  intro pins s σ H xs us Q I r ⟨w, ds, d, eH, wk, qx, hf, hq⟩
  subst eH
  unfold reprD at hf
  split at hf
  · rename_i d0
    obtain ⟨c, rfl⟩ := of_if hf
    obtain ⟨x, rfl, q⟩ := qx.one'
    obtain ⟨u, rfl, ru⟩ := vals1 r
    simp only [reprOk, Bool.and_eq_true, decide_eq_true_eq] at c
    obtain ⟨⟨⟨c1, c2⟩, c3⟩, c4⟩ := c
    have fin : ∀ (t : Tok) (s' : Shared), Inv X pins σ w.H s' → EP X pins σ Q (.str d0.shown t) s' := fun t s' I' => ⟨.str d0.shown, _, I', ⟨t, rfl⟩, hq _ _ (Same.refl _) (.str _)⟩
    obtain ⟨as, rd⟩ := Dp.reads I d0 x u (q.dp c1) ru
    have big : ∀ a, u = .ref a → wpAny (model X.prog X.w) X.A (call (.builtin "repr") [u]) (EP X pins σ Q) X.xe s := fun a e => by
      subst e
      exact repr_of_reads' rd c2 (fun z => by rw [noDict d0 c1] at z; cases z) hgd (by omega) (fun _ _ z => z) (fun h' t tk k => fin _ _ (I.kept k)) c4
    cases rd with
    | none => exact PySem.P.repr_of_none (fin _ _ (I.tok _))
    | bool b => simp only [PyData.shown] at fin; exact PySem.P.repr_of_bool (fin _ _ (I.tok _))
    | int i t => simp only [PyData.shown] at fin; exact PySem.P.repr_of_int (by simpa [PyData.showable] using c2) (fin _ _ (I.tok _))
    | str y t => simp only [PyData.shown] at fin c4; exact PySem.P.repr_of_str (fin _ _ (I.tok _)) c4
    | list _ _ _ _ => exact big _ rfl
    | tuple _ _ _ _ => exact big _ rfl
    | dict _ _ _ _ _ => cases c1
  · cases hf
end
end DL
namespace DL
open PySem PySem.Spec PyProof.Rows L2 PySem.W
/-! ### enumerate of a tuple -/
set_option maxHeartbeats 1000000 in
theorem meets_enumT {v : Value} {o : Obj} {H : Heap → Prop} (B : Begins v o H) :
    Meets (Builtin.«enumerate.__new__» ⟨[.type "enumerate", v], []⟩) (fun _ R s => H s.heap ∧ R (.ok (.ret (.ref (s.heap.push o).objs.size))) { s with heap := (s.heap.push o).push { cls := .type "enumerate", data := .fields #[.none, .bool false, .ref s.heap.objs.size, rawInt 0, .none, .none] } }) :=
  .of_wp fun prog w A R s h => by
    obtain ⟨hp, g, d, tk, os⟩ := s
    obtain ⟨h1, h⟩ := h
    have hsub := sub_enumerate
    have q1 : ∀ {A' : Around} {E : Value → Shared → Prop} {Q : Value → Shared → Prop}, Q (.ref hp.objs.size) ⟨hp.push o, g, d, tk, os⟩ → wpAny (model prog w) A' (pyIter v) Q E ⟨hp, g, d, tk, os⟩ := fun q => B.iter prog w _ _ ⟨hp, g, d, tk, os⟩ _ h1 q
    wp_walk using q1
    refine wpAny_stack_any fun st => wpAny_pure ?_
    split
    · rename_i c _ _ _ _ _
      cases (c == Value.type "enumerate") <;> (wp_walk using q1; exact ⟨_, rfl, h⟩)
    · wp_walk using q1; exact ⟨_, rfl, h⟩
theorem enumT_begins {prog : Program} {w : World} {A : Around} {E : Value → Shared → Prop} {s : Shared} {v : Value} {o : Obj} {H : Heap → Prop} {Q : Value → Shared → Prop} (B : Begins v o H) (h1 : H s.heap)
    (h : ∀ h', IsEnum h' (s.heap.objs.size + 1) s.heap.objs.size 0 .none → h'.get? s.heap.objs.size = some o → h'.objs.size = s.heap.objs.size + 2 → (∀ b o, s.heap.get? b = some o → h'.get? b = some o) → Q (.ref (s.heap.objs.size + 1)) { s with heap := h' }) :
    wpAny (model prog w) A (call (.type "enumerate") [v]) Q E s := by
  refine callType_new F.called_enumerate (by decide) (F.typeCall_enumerate_1 _) (F.newCall_enumerate_1 _) (fun obj => F.args_object_init_2 obj _) F.entry_enumerate_new (meets_enumT B) ⟨h1, ?_⟩
  have hz : (s.heap.push o).objs.size = s.heap.objs.size + 1 := Heap.size_push ..
  show _ ∧ _; rw [hz]
  have he : IsEnum ((s.heap.push o).push { cls := .type "enumerate", data := .fields #[.none, .bool false, .ref s.heap.objs.size, rawInt 0, .none, .none] }) (s.heap.objs.size + 1) s.heap.objs.size 0 .none := by
    have q := Heap.get?_push_size (s.heap.push o) (o := { cls := .type "enumerate", data := .fields #[.none, .bool false, .ref s.heap.objs.size, rawInt 0, .none, .none] }) rfl
    rw [hz] at q; exact q
  exact ⟨⟨_, he, rfl⟩, h _ he (Heap.get?_push_of_some _ (Heap.get?_push_size _ B.free)) (by rw [Heap.size_push, hz]) fun b o x => Heap.get?_push_of_some _ (Heap.get?_push_of_some _ x)⟩
def IteT (K : PySem.W.Frag) (a : Addr) : It :=
  ⟨fun i H => ∃ (xs : List V) (x : V), SqT K H a xs ∧ xs[i]? = some x, fun i H v H' => ∃ T x, v = .ref T ∧ H T = none ∧ H' = upd H T (.tup [.int (i : Nat), x]) ∧ ∀ xs, SqT K H a xs → xs[i]? = some x, fun i H => ∃ xs : List V, SqT K H a xs ∧ xs.length ≤ i⟩
theorem cls_ne {h : Heap} {a b : Addr} {o u : Obj} {c d : String} (h1 : h.get? a = some o) (h2 : h.get? b = some u) (e1 : o.cls = .type c) (e2 : u.cls = .type d) (n : c ≠ d) : a ≠ b := fun z => by
  rw [z, h2] at h1; cases h1; rw [e1] at e2; cases e2; exact n rfl
/-- a tuple's iterator that is at the end -/
theorem drawsEnd {prog : Program} {w : World} {A : Around} (hh : A.handled = none) (it t : Addr) (items : Array Value) (i : Nat) (hi : items.size ≤ i) : Draws prog w A it [it, t] i (fun _ _ => False) (fun j h => j = i ∧ h.IsTupleIter it t j ∧ h.IsTuple t items) where
  live := fun _ _ st => let ⟨o, ho, _⟩ := st.2.1; ⟨o, ho⟩
  frame := fun _ _ _ st hk => ⟨st.1, st.2.1.at fun o e => hk it (by simp) o e, st.2.2.at fun o e => hk t (by simp) o e⟩
  item := fun j s Q E hj st _ => absurd st.1 (Nat.ne_of_lt hj)
  done := fun s Q E st hE => wpAny_nextOf_tuple_end hh st.2.1 st.2.2 (Array.getElem?_eq_none hi) hE
theorem turn_enumT {P : Program} {w : World} {K : PySem.W.Frag} {elts : List Expr} {kk : Nat} {tpos : Pos} (a e it : Addr) :
    Turn P w K (.Tuple elts kk tpos) (IteT K a) [e, it] e (fun i h => (∃ old, IsEnum h e it ((i : Nat) : Int) old) ∧ h.IsTupleIter it a i ∧ e ≠ it) where
  mem := by simp
  obj := fun i h st b hb => by
    obtain ⟨⟨old, he⟩, ⟨o, ho, hc, hd⟩, _⟩ := st
    rcases (show b = e ∨ b = it by simpa using hb) with z | z
    · rw [z]; exact ⟨_, he, fun v q => nomatch q⟩
    · rw [z]; exact ⟨o, ho, fun v q => by rw [hd] at q; cases q⟩
  keep := fun i h h' st k => let ⟨⟨old, he⟩, hi, hne⟩ := st; ⟨⟨old, k e (by simp) _ he⟩, hi.at fun o q => k it (by simp) o q, hne⟩
  item := by
    intro X hP hw hK hc i pins s σ H E I hf st hg
    subst hP hw hK
    obtain ⟨⟨old, he⟩, hit, hne⟩ := st
    obtain ⟨xs, x, hq, hx⟩ := hg
    obtain ⟨its, rv, p, hz⟩ := I.tuple hq
    obtain ⟨u, hu, ru⟩ := rv.get hx
    have hel : e < s.heap.objs.size := Heap.lt_size he
    have hil : it < s.heap.objs.size := by obtain ⟨_, q, _⟩ := hit; exact Heap.lt_size q
    have nai : a ≠ it := by obtain ⟨o1, g1, c1, _⟩ := p; obtain ⟨o2, g2, c2, _⟩ := hit; exact cls_ne g1 g2 c1 c2 (by decide)
    have nea : e ≠ a := by obtain ⟨o1, g1, c1, _⟩ := p; exact cls_ne he g1 rfl c1 (by decide)
    have hlt : i < its.toArray.size := by have := (List.getElem?_eq_some_iff.mp hu).1; simpa using this
    refine wpAny_pyNext_enum_itemD (Draws.tuple (A := X.A.in1) (I.ok.hd hc) it a nai its.toArray) he ⟨hit, p⟩ hlt hne (by simp [hne, nea]) fun y h' tk hy ho hst' hT hsz hk => ?_
    have eu : y = u := by have h1 : its.toArray[i]? = some u := by simpa using hu
                          rw [h1] at hy; exact (Option.some.inj hy).symm
    subst eu
    refine ⟨_, rfl, wpAny_letOwnedTupleGo_enum (s := { s with heap := h', toks := tk + 1 }) ho fun h'' he' sb => ?_⟩
    have hT2 : h''.get? s.heap.objs.size = some { cls := .type "tuple", data := .seq #[.int i tk, y] } := (sb.2 _ (Nat.ne_of_gt hel)).trans hT
    have new : ObjOk X.prog X.w (upd H s.heap.objs.size (.tup [.int (i : Nat), x])) h'' s.heap.objs.size (.tup [.int (i : Nat), x]) := ⟨by show 2 ≤ sizeLine; decide, [.int i tk, y], .cons ⟨_, rfl⟩ (.cons ru .nil), ⟨_, hT2, rfl, _, rfl⟩⟩
    have I1 : Inv X pins σ (upd H s.heap.objs.size (.tup [.int (i : Nat), x])) { s with heap := h'', toks := tk + 1 } :=
      I.turnedNew (ch := [e, it]) (fun b ob hb q => (sb.2 b (fun z => hb (by simp [z]))).trans (hk b ob (fun z => hb (by simp [z])) (fun z => hb (by simp [z])) q)) hf (Nat.le_refl _) new
    refine ⟨.ref s.heap.objs.size, _, I1, rfl, ⟨_, x, rfl, I.hok.fresh (Nat.le_refl _), rfl, fun ys hy => by rw [I.tuple_inj hy hq]; exact hx⟩, ⟨⟨y, ?_⟩, hst'.1.at fun o q => (sb.2 it (Ne.symm hne)).trans q, hne⟩, fun b hb => ?_⟩
    · rw [show ((i + 1 : Nat) : Int) = (i : Int) + 1 by omega]; exact he'
    · have hb' : b < s.heap.objs.size := by
        rcases (show b = e ∨ b = it by simpa using hb) with z | z
        · rw [z]; exact hel
        · rw [z]; exact hil
      rw [upd_ne (Nat.ne_of_lt hb')]; exact (hf b hb).1
  done := by
    intro X hP hw hK hc i pins s σ H E I hf st hg
    subst hP hw hK
    obtain ⟨⟨old, he⟩, hit, hne⟩ := st
    obtain ⟨xs, hq, hx⟩ := hg
    obtain ⟨its, rv, p, hz⟩ := I.tuple hq
    obtain ⟨f0, f1, f2, f3, f4, f5⟩ := hf it (by simp)
    have e1 : its.toArray.size ≤ i := by rw [List.size_toArray, ← rv.length]; exact hx
    exact wpAny_pyNext_enum_endD (drawsEnd (A := X.A.in1) (I.ok.hd hc) it a its.toArray i e1) he ⟨rfl, hit, p⟩ fun h' eb => ⟨rfl, I.turned (t' := s.toks) (fun b o hb q => eb b o hb q) f0 f1 f3 f4 f5⟩
  self := fun A i s Q E st h => let ⟨⟨_, he⟩, _⟩ := st; wpAny_pyIter_enum he h
section
variable {X : Cx} {G : Gh} {e : Expr} {wr : WA} {ca : Nat} {p pos tpos : Pos} {elts : List Expr} {kk : Nat}
def iEnumA (K : PySem.W.Frag) (ta : TA) : TI := fun σ H R => ta σ H fun vs H1 => ∃ a xs, vs = [.ref a] ∧ ((SqL K H1 a xs ∧ R (Ite K a) H1) ∨ (SqT K H1 a xs ∧ R (IteT K a) H1))
theorem pi_enumA {ta : TA} (hg : Gl X "enumerate") (hm : X.mg "enumerate" = none) (ha : PA X [e] ta) (hs : starEach [e] X.env = [(false, eval e X.env)] := by rfl) : PI X (.Tuple elts kk tpos) (.Call (.Name "enumerate" p) [e] [] pos) (iEnumA X.K ta) := by
  refine ⟨fun pins s σ H R I h => Call_ (ld_blt I hg hm boot_enumerate (PyProof.Rows.callWith_type1 (thn (ha.run pos pins s σ H _ I h) fun us s1 ⟨vs, H1, I1, r1, q1⟩ => ?_) hs rfl))⟩
  obtain ⟨a, xs, ex, hq⟩ := q1
  subst ex
  have far : ∀ b, b ∈ [s1.heap.objs.size + 1, s1.heap.objs.size] → FpOk X pins H1 b := fun b hb => by
    have hle : s1.heap.objs.size ≤ b := by
      rcases (show b = s1.heap.objs.size + 1 ∨ b = s1.heap.objs.size by simpa using hb) with z | z
      · rw [z]; exact Nat.le_add_right _ _
      · rw [z]; exact Nat.le_refl _
    exact I1.fpOk hle (I1.hok.fresh hle)
  cases r1 with
  | cons r rr =>
    cases rr; cases r
    rcases hq with ⟨hq, q⟩ | ⟨hq, q⟩
    · obtain ⟨its, rv, p', hz⟩ := I1.list hq
      exact call_enumerate_list p'.isList fun h' he hit hsz hk => wpAny_pyIter_enum he ⟨s1.heap.objs.size + 1, [s1.heap.objs.size + 1, s1.heap.objs.size], _, _, H1, rfl, I1.kept (t' := s1.toks) hk, turn_enum a (s1.heap.objs.size + 1) s1.heap.objs.size, ⟨⟨.none, he⟩, hit, Nat.succ_ne_self _⟩, far, q⟩
    · obtain ⟨its, rv, p', hz⟩ := I1.tuple hq
      exact enumT_begins (begins_tuple a its.toArray) p' fun h' he hit hsz hk => wpAny_pyIter_enum he ⟨s1.heap.objs.size + 1, [s1.heap.objs.size + 1, s1.heap.objs.size], _, _, H1, rfl, I1.kept (t' := s1.toks) hk, turn_enumT a (s1.heap.objs.size + 1) s1.heap.objs.size, ⟨⟨.none, he⟩, ⟨_, hit, rfl, rfl⟩, Nat.succ_ne_self _⟩, far, q⟩
theorem walk_enumT {elts : List Expr} {kk : Nat} {tpos : Pos} {K : PySem.W.Frag} {a : Addr} {ds : List D} : Walk (.Tuple elts kk tpos) (IteT K a) [fx (.ref a) (.tuple ds)] (enumD 0 ds) where
  go := fun w i h hi => by
    rw [enumD_length] at hi
    cases h _ (List.mem_singleton.mpr rfl) with
    | @tup _ xs _ _ hr rl => exact ⟨xs, xs[i]'(by rw [rl.length]; exact hi), hr.sq, List.getElem?_eq_getElem _⟩
  stop := fun w i h hi => by
    rw [enumD_length] at hi
    cases h _ (List.mem_singleton.mpr rfl) with
    | @tup _ xs _ _ hr rl => exact ⟨xs, hr.sq, by rw [rl.length]; exact hi⟩
  yld := fun w i x H' wk h hi hy => by
    obtain ⟨T, x1, rfl, nT, rfl, q⟩ := hy
    cases h _ (List.mem_singleton.mpr rfl) with
    | @tup _ xs _ _ hr rl =>
      obtain ⟨d, h1, h2⟩ := rl.getV (q xs (hr.sq))
      have g := enumD_get 0 ds i d h1
      rw [Nat.zero_add] at g
      exact ⟨same_new nT, _, g, newPair wk.1 nT (.int _) h2⟩
def enumA : List D → Option (List D)
  | [.list a] => some (enumD 0 a)
  | [.tuple a] => some (enumD 0 a)
  | _ => none
def wEnum (wr : WA) : WI := fun env P => wr env fun xs => ∃ ds, (keptL xs).bind enumA = some ds ∧ P ds
theorem di_enum (hg : Gl X "enumerate") (hm : X.mg "enumerate" = none) (ha : DA X G [e] wr ca) (hs : starEach [e] X.env = [(false, eval e X.env)] := by rfl) : DI X G (.Tuple elts kk tpos) (.Call (.Name "enumerate" p) [e] [] pos) (wEnum wr) ca :=
  PI_sz (pi_enumA hg hm ha hs) fun σ H R h => tA.src h fun env w xs dxs P er rs k go => by
    obtain ⟨ds, h1, pp⟩ := k
    obtain ⟨es, h2, h3⟩ := Option.bind_eq_some_iff.mp h1
    have rp := rs.rp h2
    unfold enumA at h3
    split at h3
    · cases h3
      cases rp with
      | cons a b =>
        cases b
        have w1 := a
        cases a with
        | lst n1 g1 q1 => exact ⟨_, _, rfl, .inl ⟨SqL.of g1, fun sz => go _ pp _ _ (fun p hp => by rw [List.mem_singleton.mp hp]; exact w1) walk_enumL (by rw [enumD_length, ← q1.length]; exact size_many (sz.1 _ _ g1))⟩⟩
    · cases h3
      cases rp with
      | cons a b =>
        cases b
        have w1 := a
        cases a with
        | tup n1 g1 q1 => exact ⟨_, _, rfl, .inr ⟨g1.sq, fun sz => go _ pp _ _ (fun p hp => by rw [List.mem_singleton.mp hp]; exact w1) walk_enumT (by rw [enumD_length, ← q1.length]; exact size_many (sz.2 _ _ g1.rd))⟩⟩
    · cases h3
end
end DL
namespace DL
open PySem PySem.Spec PyProof.Rows L2
/-! ### comprehensions with two fors -/
/-- a target sets its own slots to frozen data, and no others -/
def GOk (ix : List Nat) (g : GD) : Prop := ∀ d env env', g d env = some env' → (∀ i, i ∉ ix → env'[i]? = env[i]?) ∧ ∀ i s, i ∈ ix → env'[i]? = some s → ∃ d, s = .fz d
def GsOk (ix : List Nat) (r : List D → Ev → Option Ev) : Prop := ∀ ds env env', r ds env = some env' → (∀ i, i ∉ ix → env'[i]? = env[i]?) ∧ ∀ i s, i ∈ ix → env'[i]? = some s → ∃ d, s = .fz d
theorem gok_name (i : Nat) : GOk [i] (gN i) := fun d env env' h => by
  cases h
  refine ⟨fun j hj => List.getElem?_set_ne fun z => hj (by simp [z]), fun j s hj hs => ?_⟩
  have e : j = i := by simpa using hj
  subst e
  rcases get_set hs with ⟨_, q⟩ | ⟨q, _⟩
  · exact ⟨d, q⟩
  · exact absurd rfl q
theorem gsok_nil : GsOk [] gNil' := fun ds env env' h => by
  cases ds with
  | nil => cases h; exact ⟨fun _ _ => rfl, fun _ _ z => nomatch z⟩
  | cons _ _ => cases h
theorem gsok_cons {ix jx : List Nat} {g : GD} {r : List D → Ev → Option Ev} (h1 : GOk ix g) (h2 : GsOk jx r) : GsOk (ix ++ jx) (gCons' g r) := fun ds env env' h => by
  cases ds with
  | nil => cases h
  | cons d ds =>
    obtain ⟨e1, q1, q2⟩ := Option.bind_eq_some_iff.mp h
    have a := h1 d env e1 q1
    have b := h2 ds e1 env' q2
    refine ⟨fun i hi => (b.1 i fun z => hi (List.mem_append_right _ z)).trans (a.1 i fun z => hi (List.mem_append_left _ z)), fun i s hi hs => ?_⟩
    by_cases hj : i ∈ jx
    · exact b.2 i s hj hs
    · rw [b.1 i hj] at hs
      exact a.2 i s ((List.mem_append.mp hi).resolve_right hj) hs
theorem gok_tup {ix : List Nat} {n : Nat} {r : List D → Ev → Option Ev} (h : GsOk ix r) : GOk ix (gTup' n r) := fun d env env' q => by
  cases d with
  | tuple ds =>
    by_cases hl : ds.length = n
    · simp only [gTup', if_pos hl] at q; exact h ds env env' q
    · simp only [gTup', if_neg hl] at q; cases q
  | _ => cases q
section
variable {X : Cx} {G : Gh}
/-- a frame whose slots ix are new, in a later world -/
theorem ER.mix {w w1 w' : Wd} {b b1 b' : Nat} {env env3 : Ev} {σ σ3 : L2.St} {ix : List Nat} (er1 : ER (G.at b1) w1 env σ) (e1 : Ext w1 w') (er3 : ER (G.at b) w env3 σ3) (st : St1 w w') (hx : Eqx ix σ σ3) (h1 : ∀ i, i ∉ ix → env3[i]? = env[i]?) (h2 : ∀ i s, i ∈ ix → env3[i]? = some s → ∃ d, s = .fz d) (eh : EH (G.at b') w') : ER (G.at b') w' env3 σ3 := by
  refine ⟨eh, er3.len, fun i s ov q1 q2 => ?_, ?_⟩
  · by_cases hi : i ∈ ix
    · obtain ⟨d, rfl⟩ := h2 i s hi q1
      obtain ⟨v, z, r⟩ := er3.sl i _ ov q1 q2
      exact ⟨v, z, r.st st⟩
    · rw [h1 i hi] at q1
      rw [hx.2 i hi] at q2
      exact SlR.ext e1 er1.cm (er1.sl i s ov q1 q2)
  · have ni : ∀ {i : Nat} {s : Sl}, s.mine = true → env3[i]? = some s → i ∉ ix := fun {i s} hs q hi => by obtain ⟨d, z⟩ := h2 i _ hi q; subst z; cases hs
    refine ⟨fun i j d e a q1 q2 q3 q4 => ?_, fun i j d a b A q1 q2 q3 => ?_, fun i j b b' A A' q1 q2 njk => ?_⟩
    · rw [hx.2 i (ni rfl q1)] at q3
      rw [hx.2 j (ni rfl q2)] at q4
      rw [h1 i (ni rfl q1)] at q1
      rw [h1 j (ni rfl q2)] at q2
      exact er1.od i j d e a q1 q2 q3 q4
    · rw [hx.2 i (ni rfl q1)] at q3
      rw [hx.2 j (ni rfl q2)]
      rw [h1 i (ni rfl q1)] at q1
      rw [h1 j (ni rfl q2)] at q2
      exact er1.od.oh i j d a b A q1 q2 q3
    · rw [hx.2 i (ni rfl q1), hx.2 j (ni rfl q2)]
      rw [h1 i (ni rfl q1)] at q1
      rw [h1 j (ni rfl q2)] at q2
      exact er1.od.hh i j b b' A A' q1 q2 njk
theorem ER.regs {w : Wd} {b : Nat} {env : Ev} {σ : L2.St} {l : List Fx} (er : ER (G.at b) w env σ) (eh : EH ((G.more l).at b) w) : ER ((G.more l).at b) w env σ := ⟨eh, er.len, er.sl, er.od⟩

def wLcI (gd : GD) (wt : WT) (we : WE) (env : Ev) (P : List D → Prop) : List D → List D → Prop
  | [], acc => P acc
  | d :: r, acc => ∃ env', gd d env = some env' ∧ wt env' fun b => if b = true then we env' fun y => ∃ dy, y.kept = some dy ∧ acc.length < sizeLine ∧ wLcI gd wt we env P r (acc ++ [dy]) else wLcI gd wt we env P r acc
def wLc2L (gd : GD) (wt : WT) (wi1 : WI) (gd1 : GD) (wt1 : WT) (we : WE) (vs1 : List Nat) (env : Ev) (P : Dv → Prop) : List D → List D → Prop
  | [], acc => P (.nw (.list acc))
  | d :: r, acc => ∃ env', gd d env = some env' ∧ wt env' fun b => if b = true then wi1 env' fun ds1 => wLcI gd1 wt1 we (wipeE env' vs1) (fun acc' => wLc2L gd wt wi1 gd1 wt1 we vs1 env P r acc') ds1 acc else wLc2L gd wt wi1 gd1 wt1 we vs1 env P r acc
def wLc2 (wi : WI) (gd : GD) (wt : WT) (wi1 : WI) (gd1 : GD) (wt1 : WT) (we : WE) (vs vs1 : List Nat) : WE := fun env P => wi env fun ds => wLc2L gd wt wi1 gd1 wt1 we vs1 (wipeE env vs) P ds []
def tiE (tg : Expr) (G : Gh) (wi : WI) (c : Nat) : TI := fun σ H R => ∃ l, tI tg (G.more l) wi c σ H R
def gE2 (tg : Expr) (G : Gh) (ix : List Nat) (gd : GD) : TG := fun v σ H Q => ∃ l l1, tG tg ((G.more l).more l1) ix gd v σ H Q
def ttE2 (G : Gh) (wt : WT) (c : Nat) : TT := fun σ H Q => ∃ l l1, tT ((G.more l).more l1) wt c σ H Q
def teE2 (G : Gh) (we : WE) (c : Nat) : TE := fun σ H Q => ∃ l l1, tV ((G.more l).more l1) we c σ H Q
/-- an own list that grows: the worlds before it know nothing of it -/
theorem Ext.grow {w1 w : Wd} {L : Addr} {o : HO} (e : Ext w1 w) (n : w1.H L = none) : Ext w1 ⟨upd w.H L o, w.M, w.C⟩ := by
  refine ⟨fun a o n' h => ?_, fun a h => ?_, e.newC, e.newM, e.oldM⟩
  · have ne : a ≠ L := fun z => by rw [z, n] at h; cases h
    show upd w.H L _ a = some o ∨ _
    rw [upd_ne ne]
    exact (e.keep a o n' h).elim .inl fun ⟨q1, q2, ob, q3⟩ => .inr ⟨q1, q2, ob, by show upd w.H L _ a = _; rw [upd_ne ne]; exact q3⟩
  · have ne : a ≠ L := fun z => h (by rw [z]; exact n)
    show upd w.H L _ a ≠ none
    rw [upd_ne ne]; exact e.dom a h
theorem St1.grow {w : Wd} {L : Addr} {o : HO} (m : w.M L) : St1 w ⟨upd w.H L o, w.M, w.C⟩ := ⟨fun a x n h => .inl (by show upd w.H L _ a = some x; rw [upd_ne (fun z => n (by rw [z]; exact m))]; exact h), fun a m => .inl m⟩
theorem St1.trans {w w1 w2 : Wd} (a : St1 w w1) (b : St1 w1 w2) : St1 w w2 := by
  refine ⟨fun x o n h => ?_, fun x m => ?_⟩
  · have n1 := a.nm n h
    rcases a.keep x o n h with q | ⟨d, ob, q⟩
    · exact b.keep x o n1 q
    · exact .inr ⟨d, ob, (b.keep x _ n1 q).exact no_dct_frz⟩
  · rcases b.newM x m with q | q
    · exact a.newM x q
    · by_cases z : w.M x
      · exact .inl z
      · refine .inr ?_
        cases y : w.H x with
        | none => rfl
        | some o => exact absurd q (a.keep x o z y).there
/-- what is known of the list that grows -/
structure Gr (w1 : Wd) (L : Addr) (w : Wd) (acc : List D) : Prop where
  ex : Ext w1 w
  m : w.M L
  c : ¬ w.C L
  ls : ∃ vs, w.H L = some (.lst vs) ∧ RpL w vs acc
theorem Gr.ext {w1 w w' : Wd} {L : Addr} {acc : List D} (g : Gr w1 L w acc) (e : Ext w w') (cm : ∀ a, w.C a → w.M a) : Gr w1 L w' acc := by
  obtain ⟨vs, h, r⟩ := g.ls
  exact ⟨g.ex.trans e, e.oldM L g.m, fun c => (e.newC L c).elim g.c (fun q => by rw [h] at q; cases q), vs, e.own g.c g.m h, r.st (e.st cm)⟩
theorem Gr.more {w1 w : Wd} {L : Addr} {acc : List D} {v : V} {d : D} (g : Gr w1 L w acc) (n : w1.H L = none) (r : Rp w v d) : ∃ vs, w.H L = some (.lst vs) ∧ vs.length = acc.length ∧ Gr w1 L ⟨upd w.H L (.lst (vs ++ [v])), w.M, w.C⟩ (acc ++ [d]) := by
  obtain ⟨vs, h, q⟩ := g.ls
  exact ⟨vs, h, q.length, g.ex.grow n, g.m, g.c, _, upd_same, (q.append (.cons r .nil)).st (St1.grow g.m)⟩
section
variable {elt tg iter tg1 iter1 : Expr} {ifs ifs1 : List Expr} {scope : Scope} {own : List (Str × Nat)} {pos : Pos} {ix ix1 : List Nat} {wi wi1 : WI} {gd gd1 : GD} {wt wt1 : WT} {we : WE} {ci ct ci1 ct1 ce : Nat}
theorem rdLc2 {vs vs1 : List Nat} {σ : L2.St} {H : Hp} {Q : VK} (h : tV G (wLc2 wi gd wt wi1 gd1 wt1 we vs vs1) (ci + many * (ct + (ci1 + many * (ct1 + ce)))) σ H Q) (hix : ∀ i ∈ ix, i ∈ vs) (hix1 : ∀ i ∈ ix1, i ∈ vs1) (ok : GOk ix gd) :
    tLc2 (tI tg G wi ci) (gE tg G ix gd) (ttE G wt ct) (tiE tg1 G wi1 ci1) (gE2 tg1 G ix1 gd1) (ttE2 G wt1 ct1) (teE2 G we ce) vs vs1 σ H Q := by
  obtain ⟨env, M, C, b0, P, hb0, er, hw, hf⟩ := h
  refine ⟨env, M, C, b0, _, by omega, er, hw, fun ds hds b1 w1 J l hb1 er1 e1 hl wk hz L nL => ?_⟩
  generalize hk : ct + (ci1 + many * (ct1 + ce)) = kk at hb0 hb1 hf
  have hz' := le_many (a := kk) hz
  have nM1 : ¬ w1.M L := fun m => er1.md L m nL
  have nC1 : ¬ w1.C L := fun c => nM1 (er1.cm L c)
  have pL : G.Pt L = none := by
    cases q : G.Pt L with
    | none => rfl
    | some x => rcases er1.kp L x q with z | ⟨_, _, ob, z⟩ <;> (rw [nL] at z; cases z)
  have back : ∀ {b5 : Nat} {w5 : Wd}, EH ((G.more l).at b5) w5 → Ext w1 w5 → ER ((G.more l).at b5) w5 (wipeE env vs) (L2.wipe σ vs) := fun {b5 w5} eh5 e5 => by
    have z := ((er1.wipe vs).ext' e5 eh5.fewer)
    exact ⟨eh5, z.len, z.sl, z.od⟩
  refine ⟨fun i m H => m = ds.length - i ∧ i ≤ ds.length ∧ ∃ (M C : Addr → Prop) (b : Nat) (acc : List D), b + m * kk ≤ b1 + ds.length * kk ∧ EH ((G.more l).at b) ⟨H, M, C⟩ ∧ Gr w1 L ⟨H, M, C⟩ acc ∧ wLc2L gd wt wi1 gd1 wt1 we vs1 (wipeE env vs) P (ds.drop i) acc, ?_, fun i m H2 hW => ?_⟩
  · refine ⟨ds.length, by simp, Nat.zero_le _, fun b => w1.M b ∨ b = L, w1.C, b1, [], Nat.le_refl _, ?_, ?_, hds⟩
    · exact (er1.more hl).toEH.plus (H' := upd w1.H L (.lst [])) (same_new nL) nL (by rw [upd_same]; simp) (fun _ => by rw [upd_same]; exact fun z => nomatch z)
    · exact ⟨Ext.plus (same_new nL) nL, .inr rfl, nC1, [], upd_same, .nil⟩
  · obtain ⟨rfl, hi, M2, C2, b2, acc, hb2, eh2, gr2, hw2⟩ := hW
    have ok2 := eh2.those
    by_cases hlt : i < ds.length
    · rw [List.drop_eq_getElem_cons hlt] at hw2
      obtain ⟨env3, hg3, hw3⟩ := hw2
      have hb2' : b2 + (ds.length - (i + 1)) * kk + kk ≤ b1 + ds.length * kk := by
        rw [show ds.length - i = (ds.length - (i + 1)) + 1 by omega, Nat.add_mul, Nat.one_mul] at hb2; omega
      refine .inr ⟨wk.go ⟨H2, M2, C2⟩ i ok2 hlt, fun H' => ∃ (M C : Addr → Prop) (b : Nat) (acc : List D), b + (ds.length - (i + 1)) * kk ≤ b1 + ds.length * kk ∧ EH ((G.more l).at b) ⟨H', M, C⟩ ∧ Gr w1 L ⟨H', M, C⟩ acc ∧ wLc2L gd wt wi1 gd1 wt1 we vs1 (wipeE env vs) P (ds.drop (i + 1)) acc,
        fun H' q => ⟨ds.length - (i + 1), by omega, rfl, hlt, q⟩, fun x H' hy => ?_⟩
      obtain ⟨sm, d, hd, rx⟩ := wk.yld ⟨H2, M2, C2⟩ i x H' ⟨eh2.md, eh2.mt⟩ ok2 hlt hy
      have hd' : d = ds[i] := by rw [List.getElem?_eq_getElem hlt] at hd; exact (Option.some.inj hd).symm
      subst hd'
      have er2 := back eh2 gr2.ex
      have gr2' := gr2.ext (Ext.same (w := ⟨H2, M2, C2⟩) sm) eh2.cm
      refine ⟨l, wipeE env vs, env3, M2, C2, b2, ds[i], er2.same sm, rx, hg3, fun σ3 er3 x3 => ⟨wipe_eqx x3 hix, l, env3, M2, C2, b2, _, by omega, er3, hw3, fun b hb b4 w4 hb4 er4 e4 => ?_⟩⟩
      have gr4 := gr2'.ext e4 er3.cm
      cases b with
      | false =>
        rw [if_neg Bool.false_ne_true] at hb
        refine iteF ?_
        exact ⟨w4.M, w4.C, b4, acc, by omega, er4.toEH, gr4, hb⟩
      | true =>
        rw [if_pos rfl] at hb
        refine iteT ?_
        refine ⟨l, env3, w4.M, w4.C, b4, _, by omega, er4, hb, fun ds1 hds1 b5 w5 J1 l1 hb5 er5 e5 hl1 wk1 hz1 => ?_⟩
        have gr5 := gr4.ext e5 er4.cm
        have hz1' := le_many (a := ct1 + ce) hz1
        -- the inner frame in later worlds
        have back1 : ∀ {b' : Nat} {w' : Wd}, EH (((G.more l).more l1).at b') w' → Ext w1 w' → St1 w5 w' → ER (((G.more l).more l1).at b') w' (wipeE env3 vs1) (L2.wipe σ3 vs1) := fun {b' w'} eh' e' st => by
          have z := ((ER.mix (G := G.more l) ((er1.more hl).wipe vs) e' er5 st x3 (ok _ _ _ hg3).1 (ok _ _ _ hg3).2 eh'.fewer).wipe vs1)
          exact ⟨eh', z.len, z.sl, z.od⟩
        refine ⟨fun j m H => m = ds1.length - j ∧ j ≤ ds1.length ∧ ∃ (M C : Addr → Prop) (b : Nat) (acc : List D), b + m * (ct1 + ce) ≤ b5 + ds1.length * (ct1 + ce) ∧ EH (((G.more l).more l1).at b) ⟨H, M, C⟩ ∧ Gr w1 L ⟨H, M, C⟩ acc ∧ St1 w5 ⟨H, M, C⟩ ∧ wLcI gd1 wt1 we (wipeE env3 vs1) (fun acc' => wLc2L gd wt wi1 gd1 wt1 we vs1 (wipeE env vs) P (ds.drop (i + 1)) acc') (ds1.drop j) acc, ?_, fun j m H6 hW => ?_⟩
        · exact ⟨ds1.length, by simp, Nat.zero_le _, w5.M, w5.C, b5, acc, Nat.le_refl _, (er5.more hl1).toEH, gr5, ⟨fun a o _ h => .inl h, fun a m => .inl m⟩, hds1⟩
        · obtain ⟨rfl, hj, M6, C6, b6, acc6, hb6, eh6, gr6, st6, hw6⟩ := hW
          have ok6 := eh6.those
          by_cases hlt1 : j < ds1.length
          · rw [List.drop_eq_getElem_cons hlt1] at hw6
            obtain ⟨env7, hg7, hw7⟩ := hw6
            have hb6' : b6 + (ds1.length - (j + 1)) * (ct1 + ce) + (ct1 + ce) ≤ b5 + ds1.length * (ct1 + ce) := by
              rw [show ds1.length - j = (ds1.length - (j + 1)) + 1 by omega, Nat.add_mul, Nat.one_mul] at hb6; omega
            refine .inr ⟨wk1.go ⟨H6, M6, C6⟩ j ok6 hlt1, fun H' => ∃ (M C : Addr → Prop) (b : Nat) (acc : List D), b + (ds1.length - (j + 1)) * (ct1 + ce) ≤ b5 + ds1.length * (ct1 + ce) ∧ EH (((G.more l).more l1).at b) ⟨H', M, C⟩ ∧ Gr w1 L ⟨H', M, C⟩ acc ∧ St1 w5 ⟨H', M, C⟩ ∧ wLcI gd1 wt1 we (wipeE env3 vs1) (fun acc' => wLc2L gd wt wi1 gd1 wt1 we vs1 (wipeE env vs) P (ds.drop (i + 1)) acc') (ds1.drop (j + 1)) acc,
              fun H' q => ⟨ds1.length - (j + 1), by omega, rfl, hlt1, q⟩, fun x7 H7 hy7 => ?_⟩
            obtain ⟨sm7, d7, hd7, rx7⟩ := wk1.yld ⟨H6, M6, C6⟩ j x7 H7 ⟨eh6.md, eh6.mt⟩ ok6 hlt1 hy7
            have hd7' : d7 = ds1[j] := by rw [List.getElem?_eq_getElem hlt1] at hd7; exact (Option.some.inj hd7).symm
            subst hd7'
            have er6 := back1 eh6 gr6.ex st6
            have gr6' := gr6.ext (Ext.same (w := ⟨H6, M6, C6⟩) sm7) eh6.cm
            have st6' := st6.trans (St1.same (w := ⟨H6, M6, C6⟩) sm7)
            refine ⟨l, l1, wipeE env3 vs1, env7, M6, C6, b6, ds1[j], er6.same sm7, rx7, hg7, fun σ7 er7 x7' => ⟨wipe_eqx x7' hix1, l, l1, env7, M6, C6, b6, _, by omega, er7, hw7, fun k hk b8 w8 hb8 er8 e8 => ?_⟩⟩
            have gr8 := gr6'.ext e8 er7.cm
            have st8 := st6'.trans (e8.st er7.cm)
            cases k with
            | false =>
              rw [if_neg Bool.false_ne_true] at hk
              refine iteF ?_
              exact ⟨w8.M, w8.C, b8, acc6, by omega, er8.toEH, gr8, st8, hk⟩
            | true =>
              rw [if_pos rfl] at hk
              refine iteT ?_
              refine ⟨l, l1, env7, w8.M, w8.C, b8, _, by omega, er8, hk, fun y hy b9 w9 v9 hb9 er9 e9 r9 => ?_⟩
              obtain ⟨dy, hkk, hz9, hn⟩ := hy
              have gr9 := gr8.ext e9 er8.cm
              obtain ⟨vs9, h9, l9, gr10⟩ := gr9.more nL (r9.rp hkk)
              exact ⟨vs9, h9, by rw [l9]; exact hz9, w9.M, w9.C, b9, _, by omega, er9.toEH.poke gr9.m gr9.c pL (fun _ z => nomatch z), gr10, (st8.trans (e9.st er8.cm)).trans (St1.grow gr9.m), hn⟩
          · rw [List.drop_eq_nil_of_le (show ds1.length ≤ j by omega)] at hw6
            rw [show ds1.length - j = 0 by omega, Nat.zero_mul] at hb6
            exact .inl ⟨wk1.stop ⟨H6, M6, C6⟩ j ok6 (by omega), M6, C6, b6, acc6, by rw [show many * (ct1 + ce) = kk - ct - ci1 by omega] at hz1'; omega, eh6.fewer, gr6, hw6⟩
    · rw [List.drop_eq_nil_of_le (by omega)] at hw2
      refine .inl ⟨wk.stop ⟨H2, M2, C2⟩ i ok2 (by omega), ?_⟩
      have eh := eh2.fewer
      obtain ⟨e2, mL, cL, accV, hL, rl⟩ := gr2
      have nw1 : ∀ a, w1.M a → a ≠ L := fun a m z => nM1 (by rw [← z]; exact m)
      have st : St1 ⟨H2, M2, C2⟩ ⟨H2, fun a => M2 a ∧ a ≠ L, C2⟩ := ⟨fun a o _ h => .inl h, fun a m => .inl m.1⟩
      have ex : Ext w1 ⟨H2, fun a => M2 a ∧ a ≠ L, C2⟩ := ⟨fun a o n h => e2.keep a o n h, e2.dom, e2.newC, fun a m => e2.newM a m.1, fun a m => ⟨e2.oldM a m, nw1 a m⟩⟩
      have eh' : EH (G.at b2) ⟨H2, fun a => M2 a ∧ a ≠ L, C2⟩ := ⟨eh.kp, fun a m => ⟨eh.m0 a m, nw1 a (er1.m0 a m)⟩, eh.nc, eh.cp, fun a c => ⟨eh.cm a c, fun z => cL (by rw [← z]; exact c)⟩, fun a m => eh.md a m.1, eh.hd, fun p hp => p.st _ _ st (eh.gk p hp), eh.si, fun a xs m => eh.mt a xs m.1⟩
      have st2 : St1 ⟨H2, M2, C2⟩ (Wd.plus ⟨H2, fun a => M2 a ∧ a ≠ L, C2⟩ L) := ⟨fun a o _ h => .inl h, fun a m => .inl (Or.elim m (fun q => q.1) fun q => by rw [q]; exact mL)⟩
      refine hf _ hw2 b2 ⟨H2, fun a => M2 a ∧ a ≠ L, C2⟩ _ (by rw [show ds.length - i = 0 by omega, Nat.zero_mul] at hb2; omega) (er1.ext' ex eh') (e1.trans ex) ⟨L, rfl, e1.free nL, ⟨fun t => (nomatch t), fun m => (m.2 rfl).elim⟩, cL, .lst hL (rl.st st2)⟩
theorem de_lc2 {vs vs1 : List Nat} (hc : X.calm = true) (hN : X.N.Nodup) (hi : DI X G tg iter wi ci) (ok : BlkOk X.N X.env.scope scope own) (okg : GOk ix gd)
    (hg : ∀ (l : List Fx) (s : Shared) (H : Hp) (C : Addr) (cl : List (Str × Addr)) (fp : List Addr), PG (X.blk s H scope (compEnvC scope cl C X.env) fp) tg (tG tg (G.more l) ix gd))
    (ht : ∀ (l : List Fx) (s : Shared) (H : Hp) (C : Addr) (cl : List (Str × Addr)) (fp : List Addr), PTs (X.blk s H scope (compEnvC scope cl C X.env) fp) ifs (tT (G.more l) wt ct))
    (hi1 : ∀ (l : List Fx) (s : Shared) (H : Hp) (C : Addr) (cl : List (Str × Addr)) (fp : List Addr), DI (X.blk s H scope (compEnvC scope cl C X.env) fp) (G.more l) tg1 iter1 wi1 ci1)
    (hg1 : ∀ (l l1 : List Fx) (s : Shared) (H : Hp) (C : Addr) (cl : List (Str × Addr)) (fp : List Addr), PG (X.blk s H scope (compEnvC scope cl C X.env) fp) tg1 (tG tg1 ((G.more l).more l1) ix1 gd1))
    (ht1 : ∀ (l l1 : List Fx) (s : Shared) (H : Hp) (C : Addr) (cl : List (Str × Addr)) (fp : List Addr), PTs (X.blk s H scope (compEnvC scope cl C X.env) fp) ifs1 (tT ((G.more l).more l1) wt1 ct1))
    (he : ∀ (l l1 : List Fx) (s : Shared) (H : Hp) (C : Addr) (cl : List (Str × Addr)) (fp : List Addr), DE (X.blk s H scope (compEnvC scope cl C X.env) fp) ((G.more l).more l1) elt we ce)
    (hix : ∀ i ∈ ix, i ∈ vs) (hix1 : ∀ i ∈ ix1, i ∈ vs1) (hv : ∀ i ∈ vs1, i ∈ vs) (hs : ∀ x, foldedSetIterable iter X.env x = pure x := by intro _; rfl) (hs1 : ∀ env x, foldedSetIterable iter1 env x = pure x := by intro _ _; rfl) (hvs : own.map (·.2) = vs := by rfl) :
    DE X G (.ListComp elt [⟨tg, iter, ifs, 0⟩, ⟨tg1, iter1, ifs1, 0⟩] scope pos) (wLc2 wi gd wt wi1 gd1 wt1 we vs vs1) (ci + many * (ct + (ci1 + many * (ct1 + ce)))) := by
  subst hvs
  exact PE_imp (pe_lc2 hc hN hi ok hv (fun s H C cl fp => ⟨fun pins s' σ H' v u Q I r ⟨l, q⟩ => (hg l s H C cl fp).run pins s' σ H' v u Q I r q⟩) (fun s H C cl fp => ⟨fun pins s' σ H' Q I ⟨l, q⟩ => (ht l s H C cl fp).run pins s' σ H' Q I q⟩)
    (fun s H C cl fp => ⟨fun pins s' σ H' Q I ⟨l, q⟩ => (hi1 l s H C cl fp).run pins s' σ H' Q I q⟩) (fun s H C cl fp => ⟨fun pins s' σ H' v u Q I r ⟨l, l1, q⟩ => (hg1 l l1 s H C cl fp).run pins s' σ H' v u Q I r q⟩) (fun s H C cl fp => ⟨fun pins s' σ H' Q I ⟨l, l1, q⟩ => (ht1 l l1 s H C cl fp).run pins s' σ H' Q I q⟩)
    (fun s H C cl fp => ⟨fun pins s' σ H' Q I ⟨l, l1, q⟩ => (he l l1 s H C cl fp).run pins s' σ H' Q I q⟩) hs hs1) fun σ H Q h => rdLc2 h hix hix1 okg
theorem ds_setLc2 (k : Kp) (i : Nat) {vs vs1 : List Nat} {y : Str} {py spos : Pos} (hc : X.calm = true) (hN : X.N.Nodup) (hy : X.N[i]? = some y) (hyl : X.env.scope.names.lookup y = some .local)
    (hsw : swapsWith (.ListComp elt [⟨tg, iter, ifs, 0⟩, ⟨tg1, iter1, ifs1, 0⟩] scope pos) (some (.Name y py)) spos.line X.env = pure true) (hi : DI X G tg iter wi ci) (ok : BlkOk X.N X.env.scope scope own) (okg : GOk ix gd)
    (hg : ∀ (l : List Fx) (s : Shared) (H : Hp) (C : Addr) (cl : List (Str × Addr)) (fp : List Addr), PG (X.blk s H scope (compEnvC scope cl C X.env) fp) tg (tG tg (G.more l) ix gd))
    (ht : ∀ (l : List Fx) (s : Shared) (H : Hp) (C : Addr) (cl : List (Str × Addr)) (fp : List Addr), PTs (X.blk s H scope (compEnvC scope cl C X.env) fp) ifs (tT (G.more l) wt ct))
    (hi1 : ∀ (l : List Fx) (s : Shared) (H : Hp) (C : Addr) (cl : List (Str × Addr)) (fp : List Addr), DI (X.blk s H scope (compEnvC scope cl C X.env) fp) (G.more l) tg1 iter1 wi1 ci1)
    (hg1 : ∀ (l l1 : List Fx) (s : Shared) (H : Hp) (C : Addr) (cl : List (Str × Addr)) (fp : List Addr), PG (X.blk s H scope (compEnvC scope cl C X.env) fp) tg1 (tG tg1 ((G.more l).more l1) ix1 gd1))
    (ht1 : ∀ (l l1 : List Fx) (s : Shared) (H : Hp) (C : Addr) (cl : List (Str × Addr)) (fp : List Addr), PTs (X.blk s H scope (compEnvC scope cl C X.env) fp) ifs1 (tT ((G.more l).more l1) wt1 ct1))
    (he : ∀ (l l1 : List Fx) (s : Shared) (H : Hp) (C : Addr) (cl : List (Str × Addr)) (fp : List Addr), DE (X.blk s H scope (compEnvC scope cl C X.env) fp) ((G.more l).more l1) elt we ce)
    (hix : ∀ i ∈ ix, i ∈ vs) (hix1 : ∀ i ∈ ix1, i ∈ vs1) (hv : ∀ i ∈ vs1, i ∈ vs) (hs : ∀ x, foldedSetIterable iter X.env x = pure x := by intro _; rfl) (hs1 : ∀ env x, foldedSetIterable iter1 env x = pure x := by intro _ _; rfl) (hvs : own.map (·.2) = vs := by rfl) :
    DS X G (.Assign [.Name y py] (.ListComp elt [⟨tg, iter, ifs, 0⟩, ⟨tg1, iter1, ifs1, 0⟩] scope pos) spos) (wSet k i (wLc2 wi gd wt wi1 gd1 wt1 we vs vs1)) (ci + many * (ct + (ci1 + many * (ct1 + ce)))) := by
  subst hvs
  exact PS_imp (ps_setLc2 hc hN hy hyl hsw hi ok hv (fun s H C cl fp => ⟨fun pins s' σ H' v u Q I r ⟨l, q⟩ => (hg l s H C cl fp).run pins s' σ H' v u Q I r q⟩) (fun s H C cl fp => ⟨fun pins s' σ H' Q I ⟨l, q⟩ => (ht l s H C cl fp).run pins s' σ H' Q I q⟩)
    (fun s H C cl fp => ⟨fun pins s' σ H' Q I ⟨l, q⟩ => (hi1 l s H C cl fp).run pins s' σ H' Q I q⟩) (fun s H C cl fp => ⟨fun pins s' σ H' v u Q I r ⟨l, l1, q⟩ => (hg1 l l1 s H C cl fp).run pins s' σ H' v u Q I r q⟩) (fun s H C cl fp => ⟨fun pins s' σ H' Q I ⟨l, l1, q⟩ => (ht1 l l1 s H C cl fp).run pins s' σ H' Q I q⟩)
    (fun s H C cl fp => ⟨fun pins s' σ H' Q I ⟨l, l1, q⟩ => (he l l1 s H C cl fp).run pins s' σ H' Q I q⟩) hs hs1) fun σ H T h => rdSet h fun Q q => rdLc2 q hix hix1 okg
end
end
end DL
namespace DL
open PySem PySem.Spec PyProof.Rows L2
section
variable {X : Cx} {G : Gh} {e tg : Expr} {es : List Expr} {wa : WE} {wr wk : WA} {ca cb c : Nat} {pos p kpos : Pos} {nm : Option Str} {kws : List Keyword}
/-! ### a, b = e: what is frozen is unpacked -/
def wAsgT (wa : WE) (g : GD) : WS := fun env De => wa env fun x => ∃ d env', x.kept = some d ∧ g d env = some env' ∧ De.nx env'
theorem ds_asgT {ix : List Nat} {g : GD} (he : DE X G e wa ca) (hg : PG X tg (tG tg G ix g)) (hs : swapsWithSole [tg] e pos.line X.env = pure false := by rfl) (hw : swappedStores [tg] e X.env = pure none := by rfl) (h1 : (assignEach [tg] X.env).map (·.2) = [assign tg X.env] := by rfl) : DS X G (.Assign [tg] e pos) (wAsgT wa g) ca :=
  PS_imp (ps_asg he hg hs hw h1) fun σ H T h => by
    obtain ⟨env, M, C, b0, De, hb0, er, hw, lf⟩ := h
    refine ⟨env, M, C, b0, _, hb0, er, hw, fun dv hd b1 w1 v hb1 er1 e1 r1 => ?_⟩
    obtain ⟨d, env', h1, h2, n⟩ := hd
    exact ⟨env, env', w1.M, w1.C, b1, d, er1, Yt.of (r1.rp h1), h2, fun σ' er' _ => lf.nx env' n b1 w1 σ' hb1 er'⟩
/-! ### x += i, x -= i of ints -/
def wAug (f : Int → Int → Int) (i : Nat) (wa : WE) : WS := fun env De => ∃ m, env[i]? = some (.fz (.int m)) ∧ wa env fun x => ∃ k, x.val = some (.int k) ∧ De.nx (env.set i (.fz (.int (f m k))))
theorem ds_aug {op : Operator} {f : Int → Int → Int} (ho : PIp X op (ipI f)) (i : Nat) {x : Str} {pos' : Pos} (hN : X.N.Nodup) (he : DE X G e wa ca) (hi : X.N[i]? = some x := by rfl) (hx : Loc X.env.scope x := by first | exact Or.inl rfl | exact Or.inr rfl)
    (hf : X.fn x = true ∨ X.env.scope.names.lookup x = some .local := by first | exact .inl rfl | exact .inr rfl | assumption) : DS X G (.AugAssign (.Name x pos') op e pos) (wAug f i wa) ca :=
  PS_imp (ps_aug hN hi hx he ho hf) fun σ H T h => by
    obtain ⟨env, M, C, b0, De, hb0, er, ⟨m, hm, hw⟩, lf⟩ := h
    obtain ⟨ov, h1, v, rfl, rv⟩ := er.at hm
    cases rv
    refine ⟨.int m, h1, env, M, C, b0, _, hb0, er, hw, fun dv hd b1 w1 v hb1 er1 e1 r1 => ?_⟩
    obtain ⟨k, h2, n⟩ := hd
    have q := r1.rq h2
    cases q
    exact ⟨m, k, rfl, rfl, lf.nx _ n b1 w1 _ hb1 (er1.setFz (.int _) i)⟩
abbrev addI : Int → Int → Int := fun i j => i + j
abbrev subI : Int → Int → Int := fun i j => i - j
theorem ds_augAdd (i : Nat) {x : Str} {pos' : Pos} (hN : X.N.Nodup) (he : DE X G e wa ca) (hi : X.N[i]? = some x := by rfl) (hx : Loc X.env.scope x := by first | exact Or.inl rfl | exact Or.inr rfl) (hf : X.fn x = true ∨ X.env.scope.names.lookup x = some .local := by first | exact .inl rfl | exact .inr rfl | assumption) : DS X G (.AugAssign (.Name x pos') .Add e pos) (wAug addI i wa) ca := ds_aug ip_add i hN he hi hx hf
theorem ds_augSub (i : Nat) {x : Str} {pos' : Pos} (hN : X.N.Nodup) (he : DE X G e wa ca) (hi : X.N[i]? = some x := by rfl) (hx : Loc X.env.scope x := by first | exact Or.inl rfl | exact Or.inr rfl) (hf : X.fn x = true ∨ X.env.scope.names.lookup x = some .local := by first | exact .inl rfl | exact .inr rfl | assumption) : DS X G (.AugAssign (.Name x pos') .Sub e pos) (wAug subI i wa) ca := ds_aug ip_sub i hN he hi hx hf
/-! ### calls with defaults, with keywords -/
theorem dk_nil : PK X [] (tA G wNil 0) := ⟨fun pos pins s σ H Q I h => pk_nil.run pos pins s σ H Q I (by
  obtain ⟨env, M, C, b, P, hb, er, p, hf⟩ := h
  exact hf _ p b _ _ (Nat.le_refl _) er (Ext.refl _) .nil)⟩
theorem dk_cons (ha : DE X G e wa ca) (hr : PK X kws (tA G wr cb)) : PK X (⟨nm, e, kpos⟩ :: kws) (tA G (wCons wa wr) (ca + cb)) := ⟨fun pos pins s σ H Q I h => (pk_cons ha hr).run pos pins s σ H Q I (by
  obtain ⟨env, M, C, b, P, hb, er, hw, hf⟩ := h
  refine ⟨env, M, C, b, _, by omega, er, hw, fun dx hx b1 w1 x hb1 er1 e1 r1 => ⟨env, w1.M, w1.C, b1, _, by omega, er1, hx, fun ds hd b2 w2 xs hb2 er2 e2 r2 => ?_⟩⟩
  exact hf _ hd b2 w2 _ (by omega) er2 (e1.trans e2) (.cons (r1.ext e2 er1.cm fun _ z => z) (r2.ext (Ext.refl w2) er2.cm fun a z => e1.free z)))⟩
variable {k n : Nat} {f : Addr} {fd : FuncData} {ps ks : List Str} {spec : Spec} {x : Str}
theorem ARs.append {w : Wd} : ∀ {vs us : List V} {as bs : List Ag}, ARs w vs as → ARs w us bs → ARs w (vs ++ us) (as ++ bs)
  | _, _, _, _, .nil, q => q
  | _, _, _, _, .cons h r, q => .cons h (ARs.append r q)
theorem ARs.pure {w : Wd} (C : Addr → Prop) (hC : ∀ a, ¬ C a) : ∀ {vs : List V} {as : List Ag}, ARs w vs as → ARs ⟨w.H, w.M, C⟩ vs as
  | _, _, .nil => .nil
  | _, _, .cons (a := a) h r => .cons (by
      have up : St1 w ⟨w.H, w.M, C⟩ := ⟨fun a o _ h => .inl h, fun a m => .inl m⟩
      cases a with
      | fz d => exact Rp.st up h
      | raw u => exact h
      | bw d => obtain ⟨b, e, m, n, o⟩ := h; exact ⟨b, e, m, hC b, o.st up rfl⟩) (ARs.pure C hC r)
/-- a pure def runs: from its promise to the expression's end -/
theorem pure_call {σ : L2.St} {env : Ev} {w : Wd} {b0 : Nat} {Q : VK} {P : Dv → Prop} {vs : List V} {as : List Ag} (er : ER (G.at b0) w env σ) (ars : ARs w vs as) (kk : spec as fun d => P (.fz d)) (hf : Fin G b0 σ env w Q P) : spF SI0 0 spec vs w.H Q E0 := by
  refine ⟨as, w.M, fun _ => False, 0, _, Nat.zero_le _, ⟨fun a c => c.elim, er.md, er.mt⟩, trivial, ars.pure _ fun _ z => z, kk, fun d pd _ w' v _ e _ wf r => ?_⟩
  have ex : Ext w ⟨w'.H, w.M, w.C⟩ := ⟨fun a o n h => e.keep a o (fun z => z) h, e.dom, fun a c => .inl c, fun a m => .inl m, fun a m => m⟩
  have si : G.SI b0 w.C w'.H := G.stab _ _ _ _ er.si fun a o c h => (e.keep a o (fun z => z) h).elim id fun q => absurd (er.cm a c) q.1
  refine hf _ pd b0 ⟨w'.H, w.M, w.C⟩ v (Nat.le_refl _) (er.ext' ex (er.toEH.ext ex si ⟨er.cm, fun a m => e.dom a (er.md a m), fun a xs m => e.ntup (fun z => z) m (er.md a m) (er.mt a xs m)⟩)) ex ?_
  have down : St1 w' ⟨w'.H, w.M, w.C⟩ := ⟨fun a o _ h => .inl h, fun a m => .inl (e.oldM a m)⟩
  exact Rp.st down r
theorem run_fnGd {sp : Sp} {pins : List (Addr × Obj)} {σ : L2.St} {H : Hp} {s : Shared} {Q : VK} {us ds : List Value} {vs dvs : List V} (F : FnG X.prog X.w X.K X.mg X.base CX0 k f fd ps sp) (hgd : X.A.guards = some []) (hr : Room k X.A) (hb : Binds X.K fd ps ds) (hd : Vals dvs ds)
    (I : Inv X pins σ H s) (r : Vals vs us) (h : sp (vs ++ dvs) H Q E0) : wpAny (model X.prog X.w) X.A (call (.ref f) us) (EP X pins σ Q) X.xe s := by
  have r2 := r.append hd
  have hl : (us ++ ds).length = ps.length := by rw [← r2.length]; exact F.len _ _ _ _ h
  refine wpAny_call (codeAny_mono (F.run X.A X.stack s H ⟨us, []⟩ (us ++ ds) (vs ++ dvs) Q E0 hgd hr I.env0 (hb s us I.kIn hl) r2 h) fun r s' hq => ?_)
  cases r with
  | error e => exact False.elim hq
  | ok fl => cases fl with
    | ret u => exact I.after hq
    | next => exact False.elim hq
    | brk => exact False.elim hq
    | cont => exact False.elim hq
/-- f(e, ..) of a pure def, the last parameters by their defaults -/
def wCallD (spec : Spec) (das : List Ag) (wr : WA) : WE := fun env P => wr env fun xs => spec (xs.map Dv.ag ++ das) fun d => P (.fz d)
theorem de_callD {ds : List Value} {dvs : List V} {das : List Ag} (F : FnG X.prog X.w X.K X.mg X.base CX0 k f fd ps (spF SI0 0 spec)) (hgd : X.A.guards = some []) (hr : Room k X.A) (hg : Gl X x) (hm : X.mg x = some (.ref f)) (hk : PySem.W.keepIn X.K (.ref f) = true) (hb : Binds X.K fd ps ds) (hd : Vals dvs ds) (hda : ∀ w, ARs w dvs das)
    (ha : DA X G (e :: es) wr ca) (hdb : (x == ("__debug__" : Str)) = false := by decide) (he : starEach (e :: es) X.env = (false, eval e X.env) :: starEach es X.env := by rfl) (hpl : (backTo pos (starEach es X.env)).any (·.1) = false := by rfl) :
    DE X G (.Call (.Name x p) (e :: es) [] pos) (wCallD spec das wr) ca := by
  refine ⟨fun pins s σ H Q I h => wpAny_Call_Name_kw (ld_glob I hg hm ?_ hdb)⟩
  have h' : tA G wr ca σ H fun vs H1 => spF SI0 0 spec (vs ++ dvs) H1 Q E0 := tA.one h fun env w xs dxs P er rs kk hf => pure_call er (rs.ars.append (hda w)) kk hf
  exact PySem.W.callWith_K (h₀ := X.base) I.ok.mod.kin hk (thn (ha.run pos pins s σ H _ I h') fun us s1 ⟨vs, H1, I1, r, q⟩ => ⟨I1.kIn, run_fnGd F hgd hr hb hd I1 r q⟩) he hpl
/-- f(e, .., k = v, ..): the keywords' values behind the others -/
def wCallK (n m : Nat) (spec : Spec) (wr wk : WA) : WE := fun env P => wr env fun xs => wk env fun zs => xs.length = n ∧ zs.length = m ∧ spec (xs.map Dv.ag ++ zs.map Dv.ag) fun d => P (.fz d)
theorem de_callK {m : Nat} (F : FnG X.prog X.w X.K X.mg X.base CX0 k f fd ps (spF SI0 0 spec)) (hgd : X.A.guards = some []) (hr : Room k X.A) (hg : Gl X x) (hm : X.mg x = some (.ref f)) (hk : PySem.W.keepIn X.K (.ref f) = true) (hb : KBn X.K fd ps n ks (fun us ws => us ++ ws) (fun vs zs => vs ++ zs))
    (ha : DA X G (e :: es) wr ca) (hkw : PK X kws (tA G wk cb)) (hall : (backToKw pos (keywordEach kws X.env)).all (·.1.isSome) = true := by rfl) (hks : (backToKw pos (keywordEach kws X.env)).filterMap (·.1) = ks := by rfl)
    (hdb : (x == ("__debug__" : Str)) = false := by decide) (he : starEach (e :: es) X.env = (false, eval e X.env) :: starEach es X.env := by rfl)
    (hpl : ((backTo pos (starEach (e :: es) X.env)).any (·.1) || (backToKw pos (keywordEach kws X.env)).any (·.1.isNone)) = false := by rfl) (hml : ks.length = m := by rfl) :
    DE X G (.Call (.Name x p) (e :: es) kws pos) (wCallK n m spec wr wk) (ca + cb) := by
  subst hml
  refine ⟨fun pins s σ H Q I h => wpAny_Call_Name_kw (ld_glob I hg hm ?_ hdb)⟩
  have h' : tA G wr ca σ H fun vs H1 => tA G wk cb σ H1 fun zs H2 => vs.length = n ∧ zs.length = ks.length ∧ spF SI0 0 spec (vs ++ zs) H2 Q E0 := by
    obtain ⟨env, M, C, b0, P, hb0, er, hw, hf⟩ := h
    refine ⟨env, M, C, b0, _, by omega, er, hw, fun ds hd b1 w1 xs hb1 er1 e1 r1 => ⟨env, w1.M, w1.C, b1, _, by omega, er1, hd, fun zs hz b2 w2 ys hb2 er2 e2 r2 => ?_⟩⟩
    obtain ⟨l1, l2, kk⟩ := hz
    have r1' := r1.ext (Hs' := H) e2 er1.cm fun _ z => z
    exact ⟨by rw [r1.length]; exact l1, by rw [r2.length]; exact l2, pure_call er2 (r1'.ars.append r2.ars) kk (Fin.ext (Fin.ext (w := ⟨H, M, C⟩) hf e1 (Nat.le_refl _)) e2 (by omega))⟩
  refine PySem.W.callWith_KW (h₀ := X.base) I.ok.mod.kin hk hall (thn (ha.run pos pins s σ H _ I h') fun us s1 ⟨vs, H1, I1, r, q⟩ => ?_) hpl he
  refine thn (hkw.run pos pins s1 σ H1 _ I1 q) fun ws s2 ⟨zs, H2, I2, rz, l1, l2, q2⟩ => ⟨I2.kIn, ?_⟩
  rw [hks]
  refine wpAny_call (codeAny_mono (F.run X.A X.stack s2 H2 ⟨us, ks.zip ws⟩ (us ++ ws) (vs ++ zs) Q E0 hgd hr I2.env0 (hb.to s2 us ws I2.kIn (r.length.symm.trans l1) (rz.length.symm.trans l2)) (hb.rel r rz) q2) fun r s' hq => ?_)
  cases r with
  | error e => exact False.elim hq
  | ok fl => cases fl with
    | ret u => exact I2.after hq
    | next => exact False.elim hq
    | brk => exact False.elim hq
    | cont => exact False.elim hq
/-! ### min, max -/
def minI : List Int → Option Int
  | [] => none
  | a :: r => some (r.foldl min a)
def maxI : List Int → Option Int
  | [] => none
  | a :: r => some (r.foldl max a)
theorem foldl_max : ∀ (r : List Int) (a : Int), (r.foldl max a = a ∨ r.foldl max a ∈ r) ∧ a ≤ r.foldl max a ∧ ∀ y ∈ r, y ≤ r.foldl max a
  | [], a => ⟨.inl rfl, Int.le_refl _, fun _ h => nomatch h⟩
  | x :: r, a => by
    obtain ⟨h1, h2, h3⟩ := foldl_max r (max a x)
    rw [List.foldl_cons]
    refine ⟨?_, by omega, fun y hy => ?_⟩
    · rcases h1 with h | h
      · rw [h]
        by_cases c : a ≤ x
        · rw [Int.max_eq_right c]; exact .inr (List.mem_cons_self ..)
        · rw [Int.max_eq_left (by omega)]; exact .inl rfl
      · exact .inr (List.mem_cons_of_mem _ h)
    · rcases List.mem_cons.mp hy with rfl | hy
      · omega
      · exact h3 y hy
theorem foldl_min : ∀ (r : List Int) (a : Int), (r.foldl min a = a ∨ r.foldl min a ∈ r) ∧ r.foldl min a ≤ a ∧ ∀ y ∈ r, r.foldl min a ≤ y
  | [], a => ⟨.inl rfl, Int.le_refl _, fun _ h => nomatch h⟩
  | x :: r, a => by
    obtain ⟨h1, h2, h3⟩ := foldl_min r (min a x)
    rw [List.foldl_cons]
    refine ⟨?_, by omega, fun y hy => ?_⟩
    · rcases h1 with h | h
      · rw [h]
        by_cases c : a ≤ x
        · rw [Int.min_eq_left c]; exact .inl rfl
        · rw [Int.min_eq_right (by omega)]; exact .inr (List.mem_cons_self ..)
      · exact .inr (List.mem_cons_of_mem _ h)
    · rcases List.mem_cons.mp hy with rfl | hy
      · omega
      · exact h3 y hy
theorem maxI_get {ns : List Int} {m : Int} (h : maxI ns = some m) : m ∈ ns ∧ ∀ y ∈ ns, y ≤ m := by
  cases ns with
  | nil => cases h
  | cons a r =>
    cases h
    obtain ⟨h1, h2, h3⟩ := foldl_max r a
    refine ⟨h1.elim (fun h => by rw [h]; exact List.mem_cons_self ..) fun h => List.mem_cons_of_mem _ h, fun y hy => ?_⟩
    rcases List.mem_cons.mp hy with rfl | hy
    · exact h2
    · exact h3 y hy
theorem minI_get {ns : List Int} {m : Int} (h : minI ns = some m) : m ∈ ns ∧ ∀ y ∈ ns, m ≤ y := by
  cases ns with
  | nil => cases h
  | cons a r =>
    cases h
    obtain ⟨h1, h2, h3⟩ := foldl_min r a
    refine ⟨h1.elim (fun h => by rw [h]; exact List.mem_cons_self ..) fun h => List.mem_cons_of_mem _ h, fun y hy => ?_⟩
    rcases List.mem_cons.mp hy with rfl | hy
    · exact h2
    · exact h3 y hy
def minD : List D → Option D
  | [.int i, .int j] => some (.int (if j < i then j else i))
  | [.list ds] => ((intsOf ds).bind minI).map .int
  | _ => none
def maxD : List D → Option D
  | [.int i, .int j] => some (.int (if j > i then j else i))
  | [.list ds] => ((intsOf ds).bind maxI).map .int
  | _ => none
theorem call_minD (hc : X.calm = true) : CallR X (.builtin "min") (rB minD) := by
  intro pins s σ H xs us Q I r ⟨w, ds, d, eH, wk, qx, hf, hq⟩
  subst eH
  unfold minD at hf
  split at hf
  · cases hf
    cases qx with
    | cons a b =>
      cases a
      cases b with
      | cons a b =>
        cases a; cases b
        exact call_min2 hc pins s σ _ _ us Q I r ⟨_, _, rfl, hq _ _ (Same.refl _) (.int _)⟩
  · obtain ⟨m, h1, rfl⟩ := Option.map_eq_some_iff.mp hf
    obtain ⟨ns, e1, e2⟩ := Option.bind_eq_some_iff.mp h1
    obtain ⟨x, rfl, q⟩ := qx.one'
    cases q with
    | lst h r1 =>
      have e3 := intsOf_rp e1 r1
      subst e3
      obtain ⟨g1, g2⟩ := minI_get e2
      refine cr_min hc pins s σ _ _ us Q I r ⟨_, ns, rfl, SqL.of h, List.length_pos_of_mem g1, fun k k1 k2 => ?_⟩
      have e4 : k = m := Int.le_antisymm (k2 m g1) (g2 k k1)
      subst e4
      exact hq _ _ (Same.refl _) (.int _)
  · cases hf
theorem call_maxD (hc : X.calm = true) : CallR X (.builtin "max") (rB maxD) := by
  intro pins s σ H xs us Q I r ⟨w, ds, d, eH, wk, qx, hf, hq⟩
  subst eH
  unfold maxD at hf
  split at hf
  · cases hf
    cases qx with
    | cons a b =>
      cases a
      cases b with
      | cons a b =>
        cases a; cases b
        exact call_max2 hc pins s σ _ _ us Q I r ⟨_, _, rfl, hq _ _ (Same.refl _) (.int _)⟩
  · obtain ⟨m, h1, rfl⟩ := Option.map_eq_some_iff.mp hf
    obtain ⟨ns, e1, e2⟩ := Option.bind_eq_some_iff.mp h1
    obtain ⟨x, rfl, q⟩ := qx.one'
    cases q with
    | lst h r1 =>
      have e3 := intsOf_rp e1 r1
      subst e3
      obtain ⟨g1, g2⟩ := maxI_get e2
      refine cr_max hc pins s σ _ _ us Q I r ⟨_, ns, rfl, SqL.of h, List.length_pos_of_mem g1, fun k k1 k2 => ?_⟩
      have e4 : k = m := Int.le_antisymm (g2 k k1) (k2 m g1)
      subst e4
      exact hq _ _ (Same.refl _) (.int _)
  · cases hf
end
end DL
namespace DL
open PySem PySem.Spec PyProof.Rows L2
/-! ### (*xs, ..) -/
section
variable {X : Cx} {G : Gh} {e : Expr} {es : List Expr} {wa : WE} {wr : WA} {ca cb : Nat} {pos p : Pos}
theorem VRs.of_rp {Hs : Hp} {w : Wd} : ∀ {vs : List V} {ds : List D}, RpL w vs ds → VRs G Hs w vs (ds.map .fz)
  | _, _, .nil => .nil
  | _, _, .cons h r => .cons h (VRs.of_rp r)
theorem VRs.append {Hs : Hp} {w : Wd} : ∀ {vs us : List V} {ds es : List Dv}, VRs G Hs w vs ds → VRs G Hs w us es → VRs G Hs w (vs ++ us) (ds ++ es)
  | _, _, _, _, .nil, q => q
  | _, _, _, _, .cons h r, q => .cons h (VRs.append r q)
def wStar (wa : WE) (wr : WA) : WA := fun env P => wa env fun x => ∃ ds, x.val.bind seqD = some ds ∧ wr env fun xs => P (ds.map .fz ++ xs)
theorem da_star (ha : DE X G e wa ca) (hr : DA X G es wr cb) (hs : starEach (.Starred e p :: es) X.env = (true, eval e X.env) :: starEach es X.env := by rfl) : DA X G (.Starred e p :: es) (wStar wa wr) (ca + cb) := PA_imp (StX.pa_star ha hr hs) fun σ H Q h => by
  obtain ⟨env, M, C, b, P, hb, er, hw, hf⟩ := h
  refine ⟨env, M, C, b, _, by omega, er, hw, fun dx hx b1 w1 x hb1 er1 e1 r1 => ?_⟩
  obtain ⟨ds, h1, h2⟩ := hx
  obtain ⟨d, h3, h4⟩ := Option.bind_eq_some_iff.mp h1
  have rq := r1.rq h3
  have fin : ∀ {xs : List V}, RpL w1 xs ds → tA G wr cb σ w1.H fun ys H2 => Q (xs ++ ys) H2 := fun {xs} rl =>
    ⟨env, w1.M, w1.C, b1, _, by omega, er1, h2, fun dys hy b2 w2 ys hb2 er2 e2 r2 => hf _ hy b2 w2 _ (by omega) er2 (e1.trans e2) ((VRs.of_rp (rl.st (e2.st er1.cm))).append (VRs.ext (Ext.refl w2) er2.cm (fun a z => e1.free z) r2))⟩
  cases d with
  | list ds' =>
    cases h4
    cases rq with
    | lst q1 q2 => exact ⟨_, _, rfl, .inr (SqL.of q1), fin q2⟩
  | tuple ds' =>
    cases h4
    cases rq with
    | tup q0 q1 q2 => exact ⟨_, _, rfl, .inl (q1.sq), fin q2⟩
  | _ => cases h4
end
/-! ### xs[::-1] -/
section
variable {prog : Program} {w : World} {A : Around} {E : Value → Shared → Prop} {s : Shared}
theorem places_rev (n : Nat) : Builtin.Slice.slicePlaces ((n : Int) - 1) (-1) (-1) = n := by
  unfold Builtin.Slice.slicePlaces
  have h1 : ¬ ((-1 : Int) > 0) := by omega
  simp only [h1, if_false, Int.neg_neg, Int.ediv_one]
  split <;> omega
theorem adjust_rev (n : Nat) : Builtin.Slice.sliceAdjust none none (-1) (n : Int) = ((n : Int) - 1, -1) := by
  unfold Builtin.Slice.sliceAdjust
  simp
theorem applied_rev {sl : Addr} {vl vu vs : Value} {n : Nat} {Q : Int × Int × Nat → Shared → Prop} (hs : s.heap.IsSliceOf sl vl vu vs) (pl : IsPart vl none) (pu : IsPart vu none) (ps : IsPart vs (some (-1)))
    (h : Q ((n : Int) - 1, -1, n) s) : wpAny (model prog w) A (Builtin.Slice.sliceApplied (.ref sl) (pure (n : Int))) Q E s := by
  obtain ⟨os, hos, hcs, hds⟩ := id hs
  unfold Builtin.Slice.sliceApplied Builtin.Slice.sliceFields
  refine wpAny_bind (wpAny_bind (wpAny_field hos hds (x := vl) rfl (wpAny_bind (wpAny_field hos hds (x := vu) rfl (wpAny_bind (wpAny_field hos hds (x := vs) rfl (wpAny_pure ?_)))))))
  refine wpAny_bind (HT.slicePart_ ps ?_)
  show wpAny _ _ (if ((-1 : Int) == 0) = true then _ else _) _ _ s
  rw [if_neg (by decide)]
  refine wpAny_bind (HT.slicePart_ pl (wpAny_bind (HT.slicePart_ pu (wpAny_bind (wpAny_pure ?_)))))
  show wpAny _ _ (match Builtin.Slice.sliceAdjust none none (-1) (n : Int) with | (lo, hi) => pure (lo, (-1 : Int), Builtin.Slice.slicePlaces lo hi (-1))) _ _ s
  rw [adjust_rev n]
  show wpAny _ _ (pure ((n : Int) - 1, (-1 : Int), Builtin.Slice.slicePlaces ((n : Int) - 1) (-1) (-1))) _ _ s
  rw [places_rev]
  exact wpAny_pure h
theorem fm_all {α β : Type} {f : α → Option β} {g : α → β} : ∀ l : List α, (∀ m ∈ l, f m = some (g m)) → l.filterMap f = l.map g
  | [], _ => rfl
  | m :: l, h => by rw [List.filterMap_cons_some (h m (List.mem_cons_self ..)), fm_all l fun x hx => h x (List.mem_cons_of_mem _ hx), List.map_cons]
theorem pick_rev (xs : Array Value) : ((List.range xs.size).filterMap fun (m : Nat) => xs[((xs.size : Int) - 1 + (m : Int) * -1).toNat]?) = xs.toList.reverse := by
  have e : ∀ m ∈ List.range xs.size, xs[((xs.size : Int) - 1 + (m : Int) * -1).toNat]? = some (xs.toList.reverse.getD m .none) := fun m hm => by
    have hm' := List.mem_range.mp hm
    have : ((xs.size : Int) - 1 + (m : Int) * -1).toNat = xs.size - 1 - m := by omega
    rw [this, List.getD_eq_getElem?_getD, List.getElem?_reverse (by simpa using hm')]
    have hl : xs.toList.length = xs.size := Array.length_toList
    rw [hl, Array.getElem?_toList, Array.getElem?_eq_getElem (by omega)]
    rfl
  rw [fm_all _ e]
  refine List.ext_getElem (by simp) fun i h1 h2 => ?_
  rw [List.getElem_map, List.getElem_range, List.getD_eq_getElem?_getD, List.getElem?_eq_getElem h2]
  rfl
theorem getItem_tuple_rev {t sl : Addr} {items : Array Value} {vl vu vs : Value} {Q : Value → Shared → Prop} (ht : IsTup s.heap t items) (hs : s.heap.IsSliceOf sl vl vu vs) (pl : IsPart vl none) (pu : IsPart vu none) (ps : IsPart vs (some (-1)))
    (h : Q (.ref s.heap.objs.size) { s with heap := s.heap.push { cls := .type "tuple", data := .seq items.toList.reverse.toArray } })
    (hsz : items.size ≤ sizeLine) : wpAny (model prog w) A (getItem (.ref t) (.ref sl)) Q E s := by
  have htake : sizeOk (.seq items.toList.reverse.toArray) := by
    show items.toList.reverse.toArray.size ≤ sizeLine
    rw [List.size_toArray, List.length_reverse, Array.length_toList]; exact hsz
  obtain ⟨os, hos, hcs, hds⟩ := id hs
  have hTs : s.TypeIs (.ref sl) "slice" := ⟨os, hos, hcs⟩
  unfold getItem
  try with_reducible refine wpAny_holding ?_
  first | refine wpAny_bind (wpAny_pure ?_) | skip
  refine wpAny_bind (wpAny_sequenceKey ht.typeIs (by decide) ?_)
  refine wpAny_bind (wpAny_callSpecial?_slot (name := Str.ofString "__getitem__") ht.typeIs PyProof.Rows.slot_tuple_getitem
    (wpAny_call_entry PyProof.Rows.slot_tuple_getitem ht.typeIs entry_tuple_getitem ?_ (args_tuple_getitem _ _)))
  show wpAny _ _ (Builtin.Tuple.tupleItemsOf (.ref t) >>= _) _ _ s
  refine wpAny_bind (tupleItemsOf_ ht ?_)
  refine wpAny_bind (wpAny_typeOf hTs ?_)
  rw [if_pos (by decide)]
  refine wpAny_bind (applied_rev hs pl pu ps ?_)
  have hno : ¬ (((items.size : Int) - 1 == 0 && (-1 : Int) == 1 && items.size == items.size) = true) := by simp
  show wpAny _ _ (if ((items.size : Int) - 1 == 0 && (-1 : Int) == 1 && items.size == items.size) = true then _ else _) _ _ s
  rw [if_neg hno, pick_rev]
  first
    | exact wpAny_bind (m := Builtin.Tuple.tupleExact _) (wpAny_newObj_type (wpAny_pure ⟨_, rfl, wpAny_pure h⟩) htake)
    | exact wpAny_bind (m := Builtin.Tuple.tupleExact _) (wpAny_newObj_type (wpAny_bind (wpAny_pure (wpAny_pure ⟨_, rfl, wpAny_pure h⟩))) htake)
    | exact wpAny_bind (wpAny_bind (m := Builtin.Tuple.tupleExact _) (wpAny_newObj_type (wpAny_pure (wpAny_pure ⟨_, rfl, wpAny_pure h⟩)) htake))
    | exact wpAny_bind (wpAny_bind (m := Builtin.Tuple.tupleExact _) (wpAny_newObj_type (wpAny_pure ⟨_, rfl, wpAny_pure h⟩) htake))
end
section
variable {X : Cx} {G : Gh} {e : Expr} {wa : WE} {ca : Nat} {pos p1 p2 p3 : Pos} {k : Nat} {te : TE}
def tRevA (K : PySem.W.Frag) (te : TE) : TE := fun σ H Q => te σ H fun x H1 => ∃ a xs, x = .ref a ∧ ((SqL K H1 a xs ∧ ∀ p, H1 p = none → Q (.ref p) (upd H1 p (.lst xs.reverse))) ∨ (SqT K H1 a xs ∧ NewT H1 xs.reverse Q))
theorem pe_revA (he : PE X e te) : PE X (.Subscript e (.Slice none none (some (.UnaryOp .USub (.Constant (.int 1) k p1) p2)) p3) pos) (tRevA X.K te) := by
  refine ⟨fun pins s σ H Q I h => ?_⟩
  refine Subscript_ (thn (he.run pins s σ H _ I h) fun v s1 ⟨x, H1, I1, r1, q1⟩ => ?_)
  obtain ⟨a, xs, ex, hx⟩ := q1
  subst ex
  cases r1
  have hst : PO X (some (.UnaryOp .USub (.Constant (.int 1) k p1) p2)) (tPart (tUn (rU fun i => .int (-i)) (tC (.int 1)))) := po_some (pe_un un_neg pe_int)
  refine wpAny_Slice (thn (po_none.run pins s1 σ H1 (fun o H2 => o = none ∧ H2 = H1) I1 ⟨rfl, rfl⟩) fun vl s2 ⟨l, H2, I2, pl, el, e2⟩ => ?_)
  subst el e2
  refine thn (po_none.run pins s2 σ H2 (fun o H3 => o = none ∧ H3 = H2) I2 ⟨rfl, rfl⟩) fun vu s3 ⟨u, H3, I3, pu, eu, e3⟩ => ?_
  subst eu e3
  refine thn (hst.run pins s3 σ H3 (fun o H4 => o = some (-1) ∧ H4 = H3) I3 ⟨1, rfl, -1, rfl, rfl, rfl⟩) fun vs s4 ⟨o, H4, I4, ps, eo, e4⟩ => ?_
  subst eo e4
  have I5 : Inv X pins σ H4 { s4 with heap := s4.heap.push { cls := .type "slice", data := .fields #[vl, vu, vs] } } := I4.kept (t' := s4.toks) fun b ob q => Heap.get?_push_of_some _ q
  show wpAny (model X.prog X.w) X.A (subscriptTail e (.Slice none none (some (.UnaryOp .USub (.Constant (.int 1) k p1) p2)) p3) (.ref a) (.ref s4.heap.objs.size)) (EP X pins σ Q) X.xe { s4 with heap := s4.heap.push { cls := .type "slice", data := .fields #[vl, vu, vs] } }
  rcases hx with ⟨hx, q⟩ | ⟨hx, q⟩
  · obtain ⟨its, r, ht, hz⟩ := I5.list hx
    have hlen := r.length
    refine tail_any (ops := [.ref a, .ref s4.heap.objs.size]) ht.isList.typeIs (PySem.slot_list_getitem.lookup) ?_ (by with_unfolding_all rfl)
    refine wpAny_getItem_list_slice ht.isList (Heap.IsSliceOf.new _ vl vu vs) pl pu ps (by decide) ?_ (by rw [List.size_toArray]; omega)
    rw [PySem.W.krv_pick]
    refine ⟨.ref _, _, I5.laid (t' := s4.toks) (o := .lst xs.reverse) (fun b ob q => Heap.get?_push_of_some _ q) (Nat.le_refl _) ?_, rfl, q _ (I5.hok.fresh (Nat.le_refl _))⟩
    exact ⟨by rw [List.length_reverse]; exact hz, _, 0, r.reverse, Heap.get?_push_size _ rfl⟩
  · obtain ⟨its, r, ht, hz⟩ := I5.tuple hx
    have hlen := r.length
    refine tail_any (ops := [.ref a, .ref s4.heap.objs.size]) ht.typeIs (PyProof.Rows.slot_tuple_getitem.lookup) ?_ (by with_unfolding_all rfl)
    refine getItem_tuple_rev ht (Heap.IsSliceOf.new _ vl vu vs) pl pu ps ?_ (by rw [List.size_toArray]; omega)
    have e : its.toArray.reverse = its.reverse.toArray := by simp
    first | exact newT_push I5 (by rw [List.length_reverse]; exact hz) r.reverse q | (rw [e]; exact newT_push I5 (by rw [List.length_reverse]; exact hz) r.reverse q)
def revD : D → Option D
  | .list ds => some (.list ds.reverse)
  | .tuple ds => some (.tuple ds.reverse)
  | _ => none
def wRev (wa : WE) : WE := fun env P => wa env fun x => ∃ d, x.val.bind revD = some d ∧ P (mkDv d)
theorem de_rev (ha : DE X G e wa ca) : DE X G (.Subscript e (.Slice none none (some (.UnaryOp .USub (.Constant (.int 1) k p1) p2)) p3) pos) (wRev wa) ca := PE_imp (pe_revA ha) fun σ H Q h => by
  refine tV.one (K := fun env x P => ∃ d, x.val.bind revD = some d ∧ P (mkDv d)) h fun env w x dx P er r k hf => ?_
  obtain ⟨d, h1, p⟩ := k
  obtain ⟨d', h3, h4⟩ := Option.bind_eq_some_iff.mp h1
  have rq := r.rq h3
  cases d' with
  | list ds' =>
    cases h4
    cases rq with
    | lst q1 q2 => exact ⟨_, _, rfl, .inl ⟨SqL.of q1, fun q n => hf.pure er (d := .list ds'.reverse) p (same_new n) (newL n q2.reverse)⟩⟩
  | tuple ds' =>
    cases h4
    cases rq with
    | tup q0 q1 q2 => exact ⟨_, _, rfl, .inr ⟨q1.sq, fun q o h n => hf.rp er p (same_new n) (newT er.md h n q2.reverse)⟩⟩
  | _ => cases h4
end
/-! ### a, b, c = x, y, z: what is frozen -/
section
variable {X : Cx} {G : Gh} {a b c : Expr} {wr : WA} {ca : Nat} {pos : Pos}
def wPar3 (i j l : Nat) (wr : WA) : WS := fun env De => wr env fun xs => ∃ dx dy dz, keptL xs = some [dx, dy, dz] ∧ De.nx (((env.set i (.fz dx)).set j (.fz dy)).set l (.fz dz))
theorem ds_par3 (i j l : Nat) {x y z : Str} {px py pz pt : Pos} {kt k2 pt2} (hc : X.calm = true) (hN : X.N.Nodup) (ha : DA X G [a, b, c] wr ca) (hi : X.N[i]? = some x := by rfl) (hj : X.N[j]? = some y := by rfl) (hl : X.N[l]? = some z := by rfl) (hij : i ≠ j := by decide) (hil : i ≠ l := by decide) (hjl : j ≠ l := by decide)
    (hx : X.env.scope.names.lookup x = some .local := by rfl) (hy : X.env.scope.names.lookup y = some .local := by rfl) (hz : X.env.scope.names.lookup z = some .local := by rfl)
    (hw : swappedStores [.Tuple [.Name x px, .Name y py, .Name z pz] kt pt] (.Tuple [a, b, c] k2 pt2) X.env = pure (some [x, y, z]) := by rfl)
    (hs : swapsWithSole [.Tuple [.Name x px, .Name y py, .Name z pz] kt pt] (.Tuple [a, b, c] k2 pt2) pos.line X.env = pure false := by rfl) :
    DS X G (.Assign [.Tuple [.Name x px, .Name y py, .Name z pz] kt pt] (.Tuple [a, b, c] k2 pt2) pos) (wPar3 i j l wr) ca :=
  PS_imp (ps_par3 hc hN hi hj hl hij hil hjl hx hy hz ha hw hs) fun σ H T h => by
    obtain ⟨env, M, C, b0, De, hb0, er, hw, lf⟩ := h
    refine ⟨env, M, C, b0, _, hb0, er, hw, fun ds hd b1 w1 vs hb1 er1 e1 r1 => ?_⟩
    obtain ⟨dx, dy, dz, hk, hn⟩ := hd
    have rp := r1.rp hk
    cases rp with
    | cons p1 rp =>
      cases rp with
      | cons p2 rp =>
        cases rp with
        | cons p3 rp =>
          cases rp
          exact ⟨_, _, _, rfl, lf.nx _ hn b1 w1 _ hb1 (((er1.setFz p1 i).setFz p2 j).setFz p3 l)⟩
end
end DL
namespace DL
open PySem PySem.Spec PyProof.Rows L2
/-! ### the law's own state: a dict of two lists of ints and a count -/
def stO (kc kg ks : Str) (c g : Addr) (n : Nat) : HO := .dK [(.inr kc, .ref c), (.inr kg, .ref g), (.inr ks, .int n)]
/-- a: the dict; C: what belongs to it -/
def SIB (kc kg ks : Str) (a : Addr) : SInv := fun b C H => ∃ (g c : Addr) (gs cs : List Int) (n : Nat), C a ∧ C g ∧ C c ∧ g ≠ c ∧ H a = some (stO kc kg ks c g n) ∧ H g = some (.lst (gs.map V.int)) ∧ H c = some (.lst (cs.map V.int)) ∧ n ≤ b
theorem stabB (kc kg ks : Str) (a : Addr) : Stab (SIB kc kg ks a) := fun b C H H' ⟨g, c, gs, cs, n, h1, h2, h3, h4, h5, h6, h7, h8⟩ k => ⟨g, c, gs, cs, n, h1, h2, h3, h4, k _ _ h1 h5, k _ _ h2 h6, k _ _ h3 h7, h8⟩
/-- something that is no tuple -/
def Lq (x : Option HO) : Prop := x ≠ none ∧ ∀ xs, x ≠ some (.tup xs)
/-- .. while the def that draws runs, w0 the world at its entry -/
structure StB (kc kg ks : Str) (a : Addr) (w0 : Wd) (H : Hp) (C : Addr → Prop) (g c : Addr) (gs cs : List Int) (n : Nat) : Prop where
  ex : Ext w0 ⟨H, fun x => w0.M x ∨ C x, C⟩
  cd : ∀ x, C x → Lq (H x)
  cc : ∀ x, w0.C x → C x
  ha : C a
  hg : C g
  hc : C c
  gc : g ≠ c
  da : H a = some (stO kc kg ks c g n)
  dg : H g = some (.lst (gs.map V.int))
  dc : H c = some (.lst (cs.map V.int))
section
variable {kc kg ks : Str} {a : Addr} {w0 : Wd} {H : Hp} {C : Addr → Prop} {g c : Addr} {gs cs : List Int} {n : Nat}
theorem StB.ag (h : StB kc kg ks a w0 H C g c gs cs n) : a ≠ g := fun z => by have := h.da; rw [z, h.dg] at this; cases this
theorem StB.ac (h : StB kc kg ks a w0 H C g c gs cs n) : a ≠ c := fun z => by have := h.da; rw [z, h.dc] at this; cases this
theorem StB.alloc (h : StB kc kg ks a w0 H C g c gs cs n) {p : Addr} {o : HO} (np : H p = none) : StB kc kg ks a w0 (upd H p o) C g c gs cs n := by
  have ne : ∀ {x : Addr} {u : HO}, H x = some u → x ≠ p := fun q z => by rw [z, np] at q; cases q
  exact ⟨h.ex.trans (Ext.same (w := ⟨H, fun x => w0.M x ∨ C x, C⟩) (same_new np)), fun x q => by
    have e : x ≠ p := fun z => (h.cd x q).1 (by rw [z]; exact np)
    rw [upd_ne e]; exact h.cd x q, h.cc, h.ha, h.hg, h.hc, h.gc, by rw [upd_ne (ne h.da)]; exact h.da, by rw [upd_ne (ne h.dg)]; exact h.dg, by rw [upd_ne (ne h.dc)]; exact h.dc⟩
theorem StB.same (h : StB kc kg ks a w0 H C g c gs cs n) {H' : Hp} (s : Same H H') : StB kc kg ks a w0 H' C g c gs cs n :=
  ⟨h.ex.trans (Ext.same (w := ⟨H, fun x => w0.M x ∨ C x, C⟩) s), fun x q => ⟨fun z => (h.cd x q).1 (s.free z), fun xs => ntup_same s (h.cd x q).1 ((h.cd x q).2 xs)⟩, h.cc, h.ha, h.hg, h.hc, h.gc, s _ _ h.da, s _ _ h.dg, s _ _ h.dc⟩
/-- something of the state is written -/
theorem StB.poke (h : StB kc kg ks a w0 H C g c gs cs n) {x : Addr} {o : HO} (hx : C x) (nt : ∀ xs, o ≠ .tup xs) : Ext w0 ⟨upd H x o, fun x => w0.M x ∨ C x, C⟩ ∧ ∀ y, C y → Lq (upd H x o y) := by
  have nw : ∀ b o', ¬ w0.C b → w0.H b = some o' → b ≠ x := fun b o' nc hb z => by
    rw [z] at nc hb
    rcases h.ex.newC x hx with q | q
    · exact nc q
    · rw [q] at hb; cases hb
  refine ⟨⟨fun b o' nc hb => ?_, fun b hb => ?_, h.ex.newC, h.ex.newM, h.ex.oldM⟩, fun y hy => ?_⟩
  · show upd H x o b = some o' ∨ _
    rw [upd_ne (nw b o' nc hb)]
    exact (h.ex.keep b o' nc hb).elim .inl fun ⟨q1, q2, ob, q3⟩ => .inr ⟨q1, q2, ob, by show upd H x o b = _; rw [upd_ne (nw b o' nc hb)]; exact q3⟩
  · show upd H x o b ≠ none
    by_cases e : b = x
    · rw [e, upd_same]; simp
    · rw [upd_ne e]; exact h.ex.dom b hb
  · by_cases e : y = x
    · rw [e, upd_same]; exact ⟨by simp, fun xs z => nt xs (Option.some.inj z)⟩
    · rw [upd_ne e]; exact h.cd y hy
/-- the list of great numbers: another one -/
theorem StB.newG (h : StB kc kg ks a w0 H C g c gs cs n) {p : Addr} {gs' : List Int} (np : H p = none) : StB kc kg ks a w0 (upd (upd H p (.lst (gs'.map V.int))) a (stO kc kg ks c p n)) (fun x => C x ∨ x = p) p c gs' cs n := by
  have h1 := h.alloc (o := .lst (gs'.map V.int)) np
  have ne : ∀ {x : Addr} {u : HO}, H x = some u → x ≠ p := fun q z => by rw [z, np] at q; cases q
  have npw : w0.H p = none := h.ex.free np
  have h2 : StB kc kg ks a w0 (upd H p (.lst (gs'.map V.int))) (fun x => C x ∨ x = p) g c gs cs n := by
    refine ⟨⟨h1.ex.keep, h1.ex.dom, fun b q => q.elim (h1.ex.newC b) fun z => .inr (by rw [z]; exact npw), fun b q => ?_, fun b q => .inl q⟩, fun x q => ?_, fun x q => .inl (h1.cc x q), .inl h.ha, .inl h.hg, .inl h.hc, h.gc, h1.da, h1.dg, h1.dc⟩
    · rcases q with q | q | q
      · exact .inl q
      · exact h1.ex.newM b (.inr q)
      · exact .inr (by rw [q]; exact npw)
    · rcases q with q | q
      · exact h1.cd x q
      · rw [q, upd_same]; exact ⟨by simp, fun xs z => nomatch z⟩
  obtain ⟨e1, e2⟩ := h2.poke (o := stO kc kg ks c p n) (x := a) h2.ha (fun _ z => nomatch z)
  have pa : p ≠ a := (ne h.da).symm
  exact ⟨e1, e2, fun x q => .inl (h.cc x q), .inl h.ha, .inr rfl, .inl h.hc, (ne h.dc).symm, upd_same, by rw [upd_ne pa, upd_same], by rw [upd_ne (h.ac).symm]; exact h1.dc⟩
theorem StB.setG (h : StB kc kg ks a w0 H C g c gs cs n) {gs' : List Int} : StB kc kg ks a w0 (upd H g (.lst (gs'.map V.int))) C g c gs' cs n := by
  obtain ⟨e1, e2⟩ := h.poke (o := .lst (gs'.map V.int)) h.hg (fun _ z => nomatch z)
  exact ⟨e1, e2, h.cc, h.ha, h.hg, h.hc, h.gc, by rw [upd_ne h.ag]; exact h.da, upd_same, by rw [upd_ne h.gc.symm]; exact h.dc⟩
theorem StB.setN (h : StB kc kg ks a w0 H C g c gs cs n) {n' : Nat} : StB kc kg ks a w0 (upd H a (stO kc kg ks c g n')) C g c gs cs n' := by
  obtain ⟨e1, e2⟩ := h.poke (o := stO kc kg ks c g n') h.ha (fun _ z => nomatch z)
  exact ⟨e1, e2, h.cc, h.ha, h.hg, h.hc, h.gc, upd_same, by rw [upd_ne h.ag.symm]; exact h.dg, by rw [upd_ne h.ac.symm]; exact h.dc⟩
theorem StB.start {M : Addr → Prop} {b : Nat} (wf : Wf ⟨H, M, C⟩) (h : SIB kc kg ks a b C H) : ∃ g c gs cs n, n ≤ b ∧ StB kc kg ks a ⟨H, M, C⟩ H C g c gs cs n := by
  obtain ⟨g, c, gs, cs, n, h1, h2, h3, h4, h5, h6, h7, h8⟩ := h
  exact ⟨g, c, gs, cs, n, h8, ⟨⟨fun a o _ h => .inl h, fun a h => h, fun a h => .inl h, fun a h => h.elim .inl fun q => .inl (wf.cm a q), fun a h => .inl h⟩, fun x q => ⟨wf.md x (wf.cm x q), fun xs => wf.mt x xs (wf.cm x q)⟩, fun x q => q, h1, h2, h3, h4, h5, h6, h7⟩⟩
theorem StB.nt (h : StB kc kg ks a w0 H C g c gs cs n) (wf0 : Wf w0) (x : Addr) (xs : List V) (q : w0.M x ∨ C x) : H x ≠ some (.tup xs) := by
  by_cases z : C x
  · exact (h.cd x z).2 xs
  · rcases q with q | q
    · exact h.ex.ntup (fun y => z (h.cc x y)) q (wf0.md x q) (wf0.mt x xs q)
    · exact absurd q z
/-- the end -/
theorem StB.done {b b' : Nat} {Q : VK} {Pd : D → Prop} {d : D} {v : V} (h : StB kc kg ks a w0 H C g c gs cs n) (wf0 : Wf w0) (hn : n ≤ b') (hb : b' ≤ b) (p : Pd d) (r : ∀ w, Rp w v d) (hq : ∀ d, Pd d → ∀ b' w' v, b' ≤ b → Ext w0 w' → SIB kc kg ks a b' w'.C w'.H → Wf w' → Rp w' v d → Q v w'.H) : Q v H :=
  hq d p b' ⟨H, fun x => w0.M x ∨ C x, C⟩ v hb h.ex ⟨g, c, gs, cs, n, h.ha, h.hg, h.hc, h.gc, h.da, h.dg, h.dc, hn⟩ ⟨fun x q => .inr q, fun x q => q.elim (fun m => h.ex.dom x (wf0.md x m)) (fun c => (h.cd x c).1), fun x xs q => h.nt wf0 x xs q⟩ (r _)
end
/-! ### raw rules for its body -/
section
variable {X : Cx} {o i e : Expr} {to ti tv : TE} {t : TSet} {pos p : Pos}
def sISet (to ti tv : TE) (t : TSet) : TS := fun D σ H => tv σ H fun v H1 => to σ H1 fun x H2 => ti σ H2 fun y H3 => t x y v H3 fun H4 => D.nx σ H4
theorem ps_iset (hp : PSet X t) (ho : PE X o to) (hi : PE X i ti) (hv : PE X e tv) (hs : swapsWith e (some (.Subscript o i p)) pos.line X.env = pure false := by rfl) : PS X (.Assign [.Subscript o i p] e pos) (sISet to ti tv t) := by
  refine ⟨fun pins s σ H D I h => ?_⟩
  refine wpAny_Assign_Subscript (thn (hv.run pins s σ H _ I h) fun r s1 ⟨v, H1, I1, rv, q1⟩ => thn (ho.run pins s1 σ H1 _ I1 q1) fun u s2 ⟨x, H2, I2, rx, q2⟩ => thn (hi.run pins s2 σ H2 _ I2 q2) fun iv s3 ⟨y, H3, I3, ry, q3⟩ => ?_) hs
  exact thn (hp pins s3 σ H3 x y v u iv r _ I3 rx ry rv q3) fun _ s4 ⟨H4, I4, q4⟩ => ⟨σ, H4, I4, q4⟩
def CMulB (i j : Int) : Prop := Builtin.Int.intBits i ≤ 2 ^ 20 ∧ Builtin.Int.intBits j ≤ 2 ^ 20
theorem op_mulB : OpR X (binaryOp .Mult) (rI CMulB fun i j => .int (i * j)) := opI fun _ _ _ _ _ _ _ hc q => mul_int q (.of_bits hc.1 hc.2)
def CDivB (_ j : Int) : Prop := 0 < j ∧ j < 2 ^ 1000
theorem small1000 {j : Int} (h : j < 2 ^ 63) : j < 2 ^ 1000 := Int.lt_trans h (by decide +kernel)
theorem CDivB.of {i j : Int} (h0 : 0 < j) (h : j < 2 ^ 63) : CDivB i j := ⟨h0, small1000 h⟩
theorem op_fdivB : OpR X (binaryOp .FloorDiv) (rI CDivB fun i j => .int (i / j)) := opI fun i j _ _ _ _ _ hc q => by
  obtain ⟨h1, h2⟩ := hc
  refine floordiv_int (by omega) (by rw [Int.fdiv_eq_ediv_of_nonneg i (by omega)]; exact q) (.inl (PyProof.noPylong_of_log2 ?_))
  have h3 : j.natAbs < 2 ^ 1000 := by omega
  have h4 : j.natAbs.log2 < 1000 := (Nat.log2_lt (by omega)).mpr h3
  omega
/-- a list of ints, as data, whoever owns it -/
def allW (H : Hp) : Wd := ⟨H, fun _ => False, fun _ => False⟩
def intL (ns : List Int) : D := .list (ns.map .int)
theorem ints_rp {w : Wd} : ∀ ns : List Int, RpL w (ns.map V.int) (ns.map .int)
  | [] => .nil
  | n :: r => .cons (.int n) (ints_rp r)
theorem ints_rq {H : Hp} {g : Addr} {gs : List Int} (h : H g = some (.lst (gs.map V.int))) : Rq (allW H) (.ref g) (intL gs) := .lst h (ints_rp gs)
theorem ints_shaped (gs : List Int) : SeqAt.shaped (intL gs) = true := by
  have h1 : ∀ gs : List Int, PyData.canLayAll0 (gs.map .int) = true := fun gs => by
    induction gs with
    | nil => rfl
    | cons n r ih => rw [List.map_cons, PyData.canLayAll0, ih]; rfl
  have h2 := PySem.W.depth_ints gs
  unfold SeqAt.shaped intL
  rw [show PyData.canLay0 (.list (gs.map .int)) = PyData.canLayAll0 (gs.map .int) from rfl, h1, PyData.depth, h2]
  decide
theorem ints_eqv (gs : List Int) : (intL gs).eqv (.list []) = decide (gs = []) := by
  cases gs with
  | nil => simp [intL, PyData.eqv, PyData.eqvAll]
  | cons n r => simp [intL, PyData.eqv, PyData.eqvAll]
/-- great != [] -/
theorem ne_nil {H : Hp} {g p : Addr} {gs : List Int} {Q : VK} (h1 : H g = some (.lst (gs.map V.int))) (h2 : H p = some (.lst [])) (q : ∀ H', Same H H' → Q (.bl (decide (gs ≠ []))) H') : rV2 neD (.ref g) (.ref p) H Q := by
  refine ⟨allW H, intL gs, .list [], .bool (decide (gs ≠ [])), rfl, fun _ z => z.elim, ints_rq h1, .lst h2 .nil, ?_, fun v H' s r => ?_⟩
  · unfold neD
    rw [if_pos ⟨ints_shaped gs, by decide⟩, ints_eqv, decide_not]
  · cases (show Rp ⟨H', fun _ => False, fun _ => False⟩ v (.bool (decide (gs ≠ []))) from r)
    exact q H' s

theorem ix0 (x : V) (r : List V) : ixN (x :: r).length 0 = some 0 := by
  unfold ixN
  rw [if_pos (by omega), if_pos (by rw [List.length_cons]; omega)]; rfl
theorem cap_bits {n : Nat} (h : n + 1 ≤ cap) : (67 * ((n : Int) + 1)).natAbs < 2 ^ 100010 ∧ ((n : Int) + 1).natAbs < 2 ^ 100010 := by
  have e : (2 : Nat) ^ 100010 = 1024 * cap := by decide +kernel
  rw [e]
  omega
theorem cut1 (gs : List Int) : cutV (gs.map V.int) (some 1) none = (gs.drop 1).map V.int := by
  unfold cutV
  rw [List.map_drop]
  have e1 : HT.sIx (gs.map V.int).length 0 (some 1) = min 1 (gs.map V.int).length := by
    unfold HT.sIx; simp
  have e2 : HT.sIx (gs.map V.int).length (gs.map V.int).length none = (gs.map V.int).length := rfl
  rw [e1, e2]
  cases gs with
  | nil => rfl
  | cons n r => simp [List.take_of_length_le]
section
variable {kc kg ks : Str} {a : Addr} {w0 : Wd} {H : Hp} {C : Addr → Prop} {g c : Addr} {gs cs : List Int} {n : Nat} {σ : L2.St} {Q : VK}
structure Kd (kc kg ks : Str) : Prop where
  cg : kc ≠ kg
  cs : kc ≠ ks
  gs : kg ≠ ks
theorem inr_ne {x y : Str} (h : x ≠ y) : ¬ ((Sum.inr x : Key) = Sum.inr y) := fun z => h (Sum.inr.inj z)
theorem StB.getC (S : StB kc kg ks a w0 H C g c gs cs n) (h0 : σ[0]? = some (some (.ref a))) (q : Q (.ref c) H) : tDGet (tVar 0) (tC (.str kc)) σ H Q :=
  ⟨.ref a, h0, a, .ref c, rfl, by have := DGet.k (k := .inr kc) S.da; rwa [valV_pos rfl] at this, q⟩
theorem StB.getG (S : StB kc kg ks a w0 H C g c gs cs n) (d : Kd kc kg ks) (h0 : σ[0]? = some (some (.ref a))) (q : Q (.ref g) H) : tDGet (tVar 0) (tC (.str kg)) σ H Q :=
  ⟨.ref a, h0, a, .ref g, rfl, by have := DGet.k (k := .inr kg) S.da; rwa [valV_neg (inr_ne d.cg), valV_pos rfl] at this, q⟩
theorem StB.getS (S : StB kc kg ks a w0 H C g c gs cs n) (d : Kd kc kg ks) (h0 : σ[0]? = some (some (.ref a))) (q : Q (.int n) H) : tDGet (tVar 0) (tC (.str ks)) σ H Q :=
  ⟨.ref a, h0, a, .int n, rfl, by have := DGet.k (k := .inr ks) S.da; rwa [valV_neg (inr_ne d.cs), valV_neg (inr_ne d.gs), valV_pos rfl] at this, q⟩
theorem StB.putG (S : StB kc kg ks a w0 H C g c gs cs n) (d : Kd kc kg ks) {p : Addr} : DPut H a (.str kg) (.ref p) (upd H a (stO kc kg ks c p n)) := by
  have h := DPut.k (k := .inr kg) (v := .ref p) S.da (by show 3 < sizeLine; decide)
  have e : putK [((.inr kc : Key), V.ref c), (.inr kg, .ref g), (.inr ks, .int n)] (.inr kg) (.ref p) = [(.inr kc, .ref c), (.inr kg, .ref p), (.inr ks, .int n)] := by
    unfold putK
    simp [inr_ne d.cg, inr_ne d.gs.symm]
  rw [e] at h
  exact h
theorem StB.putS (S : StB kc kg ks a w0 H C g c gs cs n) (d : Kd kc kg ks) {m : Nat} : DPut H a (.str ks) (.int m) (upd H a (stO kc kg ks c g m)) := by
  have h := DPut.k (k := .inr ks) (v := .int m) S.da (by show 3 < sizeLine; decide)
  have e : putK [((.inr kc : Key), V.ref c), (.inr kg, .ref g), (.inr ks, .int n)] (.inr ks) (.int m) = [(.inr kc, .ref c), (.inr kg, .ref g), (.inr ks, .int m)] := by
    unfold putK
    simp [inr_ne d.cs, inr_ne d.gs]
  rw [e] at h
  exact h
/-- the test m[kg] != [] -/
theorem StB.neG {Qt : Bool → Hp → Prop} (S : StB kc kg ks a w0 H C g c gs cs n) (d : Kd kc kg ks) (h0 : σ[0]? = some (some (.ref a))) (q : ∀ H', StB kc kg ks a w0 H' C g c gs cs n → Qt (decide (gs ≠ [])) H') : tTest (tOp (rV2 neD) (tDGet (tVar 0) (tC (.str kg))) (tLst tNil)) σ H Qt :=
  S.getG d h0 ⟨Nat.zero_le _, fun p np => ne_nil ((S.alloc np).dg) upd_same fun H' sm => ⟨_, rfl, q H' ((S.alloc np).same sm)⟩⟩
theorem StB.neC {Qt : Bool → Hp → Prop} (S : StB kc kg ks a w0 H C g c gs cs n) (h0 : σ[0]? = some (some (.ref a))) (q : ∀ H', StB kc kg ks a w0 H' C g c gs cs n → Qt (decide (cs ≠ [])) H') : tTest (tOp (rV2 neD) (tDGet (tVar 0) (tC (.str kc))) (tLst tNil)) σ H Qt :=
  S.getC h0 ⟨Nat.zero_le _, fun p np => ne_nil ((S.alloc np).dc) upd_same fun H' sm => ⟨_, rfl, q H' ((S.alloc np).same sm)⟩⟩
theorem bits_le {i : Int} {k : Nat} (h : i.natAbs < 2 ^ k) : Builtin.Int.intBits i ≤ k := by
  unfold Builtin.Int.intBits
  split
  · exact Nat.zero_le _
  · rename_i z
    have nz : i.natAbs ≠ 0 := fun q => z (by simpa using q)
    exact (Nat.log2_lt nz).mpr h
end
end
end DL
namespace DL
open PySem PySem.Spec PyProof.Rows L2
/-! ### the law's own call, for a def whose promise needs that no repr runs -/
theorem lawG_call {P : Program} {w : World} {K : PySem.W.Frag} {mg mb : Str → Option Value} {k : Nat} {fa a : Addr} {fd : FuncData} {x : Str} {sp : Sp} {s1 : Shared} {vs : List Value} {ns : List Int} (KX : K.In s1.heap) (hns : s1.heap.Ns mainGlobals mg) (hb : s1.heap.Ns builtinsNs mb)
    (hbb : ∀ x : Str, x ≠ "__name__" → mb x = bootBuiltins x) (hlim : s1.heap.NoLimit) (hg : s1.gens = #[]) (ha : s1.heap.get? a = some { cls := .type "list", data := .seq vs.toArray }) (hi : IntsAre vs ns) (hl : ns.length ≤ sizeLine) (hr : Room k callerA)
    (F : ∀ base : Heap, K.In base → base.Ns mainGlobals mg → FnG P w K mg base CX0 k fa fd [x] sp) (hbind : ∀ (s : Shared) (u : Value), BindsTo s fd ⟨[u], []⟩ [(x, u)]) (hsp : ∀ H : Hp, Only H → SqL K H a (ns.map V.int) → sp [.ref a] H (fun v _ => v = .bl true) fun _ _ _ => False) :
    codeAny (model P w) callerA (.call (.ref fa) ⟨[.ref a], []⟩) (fun r s' => r = .ok (.ret (.bool true)) ∧ OldK s1.heap s'.heap ∧ s'.os = s1.os ∧ AllBare s'.gens) s1 := by
  have rv := vals_ints hi; have lenV := hi.length
  have core : ∀ H : Hp, Only H → SqL K H a (ns.map V.int) → HOk P w H s1.heap → (∀ b, H b ≠ none → b = a) → (H a ≠ none → K.lookup a = none) → codeAny (model P w) callerA (.call (.ref fa) ⟨[.ref a], []⟩) (fun r s' => r = .ok (.ret (.bool true)) ∧ OldK s1.heap s'.heap ∧ s'.os = s1.os ∧ AllBare s'.gens) s1 := by
    intro H hO hS hok hA hK
    have bs : ∀ {b : Addr} {o : Obj}, s1.heap.get? b = some o → H b = none → (hidT s1.heap H).get? b = some o := fun e n => hidT_get e n
    have noA : ∀ {b : Addr} {o : Obj} {es : Array DictEntry} {ep : Nat}, s1.heap.get? b = some o → o.data = .dict es ep → H b = none := fun {b o es ep} e d => by
      cases q : H b with | none => rfl | some u =>
        obtain rfl : b = a := hA b (by rw [q]; simp)
        rw [ha] at e; cases e; cases (show Data.seq vs.toArray _ = Data.dict es ep from d)
    have nsK : ∀ {b : Addr} {m : Str → Option Value}, s1.heap.Ns b m → (hidT s1.heap H).Ns b m := fun {b m} ⟨o, es, ep, e, d, r⟩ => ⟨o, es, ep, bs e (noA e d), d, r⟩
    have hKb : K.In (hidT s1.heap H) := fun b o e => bs (KX b o e) (by
      cases q : H b with | none => rfl | some u => (obtain rfl : b = a := hA b (by rw [q]; simp)); rw [hK (by rw [q]; simp)] at e; cases e)
    have hM : Mod K mg (hidT s1.heap H) := ⟨hKb, nsK hns, ⟨mb, nsK hb, hbb⟩, let ⟨mc, h1, h2⟩ := hlim; ⟨mc, nsK h1, h2⟩⟩
    have e0 : Env0 P w K mg (hidT s1.heap H) callerA [] s1 H := ⟨rfl, hM, fun b o e => of_hidT e, Nat.le_of_eq (hidT_size _ _), trivial, fun b hb => absurd (show b ∈ ([] : List Addr) from hb) (by simp), hok, .of_eq hg⟩
    refine codeAny_mono ((F _ hKb (nsK hns)).run callerA [] s1 H ⟨[.ref a], []⟩ [.ref a] [.ref a] _ _ rfl hr e0 (hbind s1 (.ref a)) (.cons rfl .nil) (hsp H hO hS)) fun r s' h => ?_
    cases r with | error e => exact False.elim h | ok fl =>
      cases fl with
      | ret u =>
        obtain ⟨v, H', os, bare, un, hok', r', q⟩ := h
        cases (show v = .bl true from q); cases (show u = Value.bool true from r')
        refine ⟨rfl, OldK.of_keep fun b o e => ?_, os, bare⟩
        cases q : H b with
        | none => exact un.keep b o e q (by intro z; exact absurd (show b ∈ ([] : List Addr) from z) (by simp)) (by simp)
        | some u =>
          rcases hO b with z | ⟨ob, xs, z⟩
          · rw [q] at z; cases z
          · have z2 := un.frzs b ob _ z; obtain ⟨e1, _⟩ := hok b _ z; obtain ⟨e2, _⟩ := hok' b _ z2
            rw [e] at e1; cases e1; exact e2
      | _ => exact False.elim h
  cases hk : K.lookup a with
  | some o =>
    have e := KX a o hk
    rw [ha] at e; cases e
    exact core (fun _ => none) (fun _ => .inl rfl) (.inr ⟨_, vs.toArray, _, hk, rfl, rfl, rfl, by rw [List.size_toArray, lenV]; exact hl, by simpa using rv⟩) (fun b u z => by cases (show (none : Option HO) = some u from z)) (fun b z => absurd rfl z) fun z => absurd rfl z
  | none =>
    refine core (fun b => if b = a then some (.frz { cls := .type "list", data := .seq vs.toArray } (.lst (ns.map V.int))) else none) (fun b => ?_) (.inl (.inr ⟨{ cls := .type "list", data := .seq vs.toArray }, if_pos rfl⟩)) (fun b u z => ?_) (fun b z => ?_) fun _ => hk
    · by_cases hb : b = a; exact .inr ⟨_, _, if_pos hb⟩; exact .inl (if_neg hb)
    · by_cases hb : b = a
      · have z' := (if_pos hb).symm.trans z; cases z'; subst hb
        exact ⟨ha, by rw [List.length_map]; exact hl, vs, _, rv, ha⟩
      · have z' := (if_neg hb).symm.trans z; cases z'
    · by_cases hb : b = a; exact hb; exact absurd (if_neg hb) z
/-- what k_head leaves (case hc), from the promise of the law's def -/
theorem walkG {l : PySem.W.OpenLaw} {n k : Nat} {q : Program} {loose : List Str} {XP : (Str → Option Value) → Heap → Prop} {YP : World → Heap → Prop} {d : DefRec} {K : Params → PySem.W.Frag} {sp : World → Sp} {x : Str} (hn : l.most = some n) (hn2 : n ≤ sizeLine) (hdf : d.params.defaults = []) (hr : Room k callerA)
    (hY : ∀ (w : World) (h : Heap), YP w h → (K w.params).In h) (F : ∀ (w : World) (mg : Str → Option Value) (fa : Addr) (h : Heap), (K w.params).In h → h.Ns mainGlobals mg → mg d.name = some (.ref fa) → ∃ fd : FuncData, (∀ (s : Shared) (u : Value), BindsTo s fd ⟨[u], []⟩ [(x, u)]) ∧ ∀ base : Heap, (K w.params).In base → base.Ns mainGlobals mg → FnG l.prog w (K w.params) mg base CX0 k fa fd [x] (sp w))
    (hsp : ∀ (w : World) (H : Hp) (a : Addr) (ns : List Int), ns.length ≤ n → Only H → SqL (K w.params) H a (ns.map V.int) → sp w [.ref a] H (fun v _ => v = .bl true) fun _ _ _ => False) : PySem.W.WalkO q loose XP YP l.row.toRowW d [] (fun f vs => PySem.call f vs) := by
  refine Att.attach_call hn hdf fun w s0 s1 mg mb fa o pm cd doc a vs ns G Y ho hd hcd hmg hobj hints hlen hg => ?_
  have KX := hY w _ Y; obtain ⟨fd, hb, hF⟩ := F w mg fa _ KX G.T.g hmg
  exact lawG_call KX G.T.g G.T.b G.T.builtins G.T.nolimit hg hobj hints (Nat.le_trans hlen hn2) hr hF hb fun H hO hS => hsp w H a ns hlen hO hS
/-! ### the script: it stands as it was, and only its length is asked for -/
section
variable {X : Cx} {G : Gh}
/-- the script at a0 is among what is protected -/
def Scr (K : PySem.W.Frag) (G : Gh) (a0 : Addr) (n : Nat) : Prop := ∃ xs : List V, xs.length = n ∧ (∃ ns : List Int, xs = ns.map V.int) ∧ ((∃ o, G.Pt a0 = some (.frz o (.lst xs))) ∨ ∀ H, SqL K H a0 xs)
theorem Scr.sq {K : PySem.W.Frag} {a0 : Addr} {n b : Nat} {w : Wd} (h : Scr K G a0 n) (eh : EH (G.at b) w) : ∃ xs : List V, xs.length = n ∧ (∃ ns : List Int, xs = ns.map V.int) ∧ SqL K w.H a0 xs := by
  obtain ⟨xs, hl, hn, ⟨o, ho⟩ | h⟩ := h
  · refine ⟨xs, hl, hn, .inl (.inr ⟨o, ?_⟩)⟩
    rcases eh.kp a0 _ ho with q | ⟨_, d, _⟩
    · exact q
    · exact (no_dct_frz d).elim
  · exact ⟨xs, hl, hn, h _⟩
def wLenS (i : Nat) (a0 : Addr) (n : Nat) : WE := fun env P => env[i]? = some (.raw (.ref a0)) ∧ P (.fz (.int n))
theorem de_lenS (i : Nat) {x : Str} {a0 : Addr} {n : Nat} {p p2 pos : Pos} (hs : Scr X.K G a0 n) (hg : Gl X "len") (hm : X.mg "len" = none) (hN : X.N[i]? = some x := by rfl) (hv : Vis X.env.scope x := by first | exact Or.inl rfl | exact Or.inr (Or.inl rfl) | exact Or.inr (Or.inr rfl)) (hd : (x == ("__debug__" : Str)) = false := by decide) (hcd : (x == ("__classdict__" : Str)) = false := by decide)
    (he : starEach [.Name x p2] X.env = (false, eval (.Name x p2) X.env) :: starEach [] X.env := by rfl) : DE X G (.Call (.Name "len" p) [.Name x p2] [] pos) (wLenS i a0 n) 0 :=
  PE_imp (pe_callB call_len_seq hg hm PySem.boot_len (pa_cons (pe_var hN hv hd hcd) pa_nil he) (by decide) (by decide) he rfl) fun σ H Q h => by
    obtain ⟨env, M, C, b0, P, hb0, er, ⟨hi, p⟩, hf⟩ := h
    obtain ⟨ov, h1, h2⟩ := er.at hi
    obtain rfl : ov = some (.ref a0) := h2
    obtain ⟨xs, hl, _, hq⟩ := hs.sq er.toEH
    refine ⟨.ref a0, h1, a0, xs, rfl, .inl hq, ?_⟩
    rw [hl]
    exact Fin.now (b := b0) (w := ⟨H, M, C⟩) hf p er (.int _)
/-- the script's item at 0 -/
def wScr0 (i : Nat) (a0 : Addr) (n : Nat) : WE := fun env P => env[i]? = some (.raw (.ref a0)) ∧ 0 < n ∧ ∀ z : Int, P (.fz (.int z))
theorem de_scr0 (i : Nat) {x : Str} {a0 : Addr} {n : Nat} {b2 : Nat} {p2 p3 pos : Pos} (hs : Scr X.K G a0 n) (hN : X.N[i]? = some x := by rfl) (hv : Vis X.env.scope x := by first | exact Or.inl rfl | exact Or.inr (Or.inl rfl) | exact Or.inr (Or.inr rfl)) (hd : (x == ("__debug__" : Str)) = false := by decide) (hcd : (x == ("__classdict__" : Str)) = false := by decide)
    (hp : PlainIx (.Constant (.int 0) b2 p3) := by intro _ _; rfl) : DE X G (.Subscript (.Name x p2) (.Constant (.int 0) b2 p3) pos) (wScr0 i a0 n) 0 :=
  PE_imp (pe_ix ix_list (pe_var hN hv hd hcd) pe_int hp) fun σ H Q h => by
    obtain ⟨env, M, C, b0, P, hb0, er, ⟨hi, h0, p⟩, hf⟩ := h
    obtain ⟨ov, h1, h2⟩ := er.at hi
    obtain rfl : ov = some (.ref a0) := h2
    obtain ⟨xs, hl, ⟨ns, rfl⟩, hq⟩ := hs.sq er.toEH
    rw [List.length_map] at hl
    have e0 : (ns.map V.int)[0]? = some (V.int ns[0]) := by rw [List.getElem?_map, List.getElem?_eq_getElem (by omega)]; rfl
    refine ⟨.ref a0, h1, ?_⟩
    refine ⟨a0, ns.map V.int, 0, .int ns[0], rfl, rfl, hq, L2.atI_nat (j := 0) e0, ?_⟩
    exact Fin.now (b := b0) (w := ⟨H, M, C⟩) hf (p _) er (.int _)
end
/-! ### the law's def: its state is made, the rest draws -/
def spBeg (K : PySem.W.Frag) (SIa : Addr → SInv) : Sp := fun vs H Q _ => ∃ (a0 : Addr) (ns : List Int), vs = [.ref a0] ∧ SqL K H a0 (ns.map V.int) ∧ ns.length ≤ 63 ∧ ∀ (a : Addr) (C : Addr → Prop) (H' : Hp), Same H H' → (∀ x, C x → H x = none ∧ Lq (H' x)) → SIa a 0 C H' → Q (.ref a) H'
def spLaw (K : PySem.W.Frag) : Sp := fun vs H Q _ => ∃ (a0 : Addr) (ns : List Int), vs = [.ref a0] ∧ ns.length ≤ 63 ∧ Only H ∧ SqL K H a0 (ns.map V.int) ∧ ∀ H', Q (.bl true) H'
def lawEnds : DEnds := { nx := fun _ => False, rt := fun _ dv => dv = .fz (.bool true), bk := fun _ => False, ct := fun _ => False }
def lawEnv (a0 a : Addr) (m : Nat) : Ev := .raw (.ref a0) :: .raw (.ref a) :: List.replicate m .no
theorem fn_law {SIa : Addr → SInv} (st : ∀ a, Stab (SIa a)) {P : Program} {w : World} {K : PySem.W.Frag} {mg : Str → Option Value} {base : Heap} {stm s0 : Stmt} {rest : List Stmt} {f : Addr} {fd : FuncData} {N : List Str} {x : Str} {k c m : Nat} {ws : Addr → Addr → Nat → WS}
    (F : Fun K "law" "law" stm f fd) (S : FnScope N [x] (defScope stm)) (hN : N.length = m + 2) (hb : defBody stm = s0 :: rest)
    (h0 : ∀ (cdv : Value) (A : Around) (outer : List Env) (s : Shared) (H : Hp) (E : XK), A.guards = some [] → Room k (A.deeper (envOfC "law" (defScope stm) s.heap.objs.size f cdv)) → PS (cxOf CX0 P w K mg base N "law" (defScope stm) f cdv A outer s H E).nox s0 (tAsg (tCall (spBeg K SIa) [] E0 (tCons (tVar 0) tNil)) (gName 1)))
    (hrest : ∀ (a a0 : Addr) (n : Nat) (G : Gh) (cdv : Value) (A : Around) (outer : List Env) (s : Shared) (H : Hp) (E : XK), G.SI = SIa a → Scr K G a0 n → A.guards = some [] → Room k (A.deeper (envOfC "law" (defScope stm) s.heap.objs.size f cdv)) → DSs (cxOf CX0 P w K mg base N "law" (defScope stm) f cdv A outer s H E).nox G rest (ws a a0 n) c)
    (hd : ∀ (a a0 : Addr) (n : Nat), n ≤ 63 → ws a a0 n (lawEnv a0 a m) lawEnds) (hc : c ≤ cap := by decide +kernel) : FnG P w K mg base CX0 (k + 1) f fd [x] (spLaw K) := by
  obtain ⟨oc, od, kV, doc, pm, an, cdv, ct, osl, rfl, lk, hcd⟩ := F.ex
  refine fnG_of lk hcd S (fun vs H Q E h => ?_) fun A outer s H vs Q E hgd hr h => ?_
  · obtain ⟨a0, ns, rfl, _⟩ := h
    rfl
  · obtain ⟨a0, ns, rfl, hl, hO, hS, hq⟩ := h
    have dR : PSs (cxOf CX0 P w K mg base N "law" (defScope stm) f cdv A outer s H E).nox rest (fun T σ H => ∃ a a0 n G, G.SI = SIa a ∧ Scr K G a0 n ∧ tS G (ws a a0 n) c T σ H) := ⟨fun pins s' σ H' T I ⟨a, a0, n, G, h1, h2, q⟩ => (hrest a a0 n G cdv A outer s H E h1 h2 hgd hr).run pins s' σ H' T I q⟩
    have dA := (pss_cons (h0 cdv A outer s H E hgd hr) dR).nox
    rw [← hb] at dA
    refine ⟨_, dA, ?_⟩
    refine ⟨.ref a0, rfl, a0, ns, rfl, hS, hl, fun a C H' sm hC si => ?_⟩
    have eσ : (L2.start N [V.ref a0]).set 1 (some (V.ref a)) = some (.ref a0) :: some (.ref a) :: List.replicate m none := by
      unfold L2.start
      rw [hN]; rfl
    have mh : ∀ x, C x → H' x ≠ none := fun x q => (hC x q).2.1
    have mt : ∀ x xs, C x → H' x ≠ some (.tup xs) := fun x xs q => (hC x q).2.2 xs
    have wf : Wf ⟨H', C, C⟩ := ⟨fun x q => q, mh, mt⟩
    refine ⟨a, a0, ns.length, ghOf (SIa a) (st a) H' C C mh, rfl, ?_, lawEnv a0 a m, C, C, 0, lawEnds, by omega, ?_, hd a a0 _ hl, ?_⟩
    · refine ⟨ns.map V.int, List.length_map .., ⟨ns, rfl⟩, ?_⟩
      rcases hS with (h | ⟨o, h⟩) | h
      · rcases hO a0 with z | ⟨o, xs, z⟩
        · rw [h] at z; cases z
        · rw [h] at z; cases z
      · exact .inl ⟨o, (ghOf_pt (C := C) (H := H') fun q => by rw [(hC a0 q).1] at h; cases h).trans (sm _ _ h)⟩
      · exact .inr fun _ => .inr h
    · refine ⟨⟨fun b o q => ?_, fun b q => q, fun b q => .inl q, fun b q => ghOf_pt0 q, fun b q => q, mh, fun b q => q, fun p hp => (nomatch hp), si, mt⟩, ?_, fun i sl ov q1 q2 => ?_, OD.tame fun i sl q1 hs => ?_⟩
      · by_cases z : C b
        · have q' := (ghOf_pt0 (H := H') z).symm.trans q; cases q'
        · exact .inl ((ghOf_pt z).symm.trans q)
      · rw [eσ]; simp [lawEnv]
      · rw [eσ] at q2
        match i with
        | 0 =>
          cases q1; cases q2
          exact rfl
        | 1 =>
          cases q1; cases q2
          exact rfl
        | i + 2 =>
          have q1' : (List.replicate m Sl.no)[i]? = some sl := q1
          rw [List.getElem?_replicate] at q1'
          split at q1'
          · cases q1'; trivial
          · cases q1'
      · exfalso
        match i with
        | 0 => cases q1; cases hs
        | 1 => cases q1; cases hs
        | i + 2 =>
          have q1' : (List.replicate m Sl.no)[i]? = some sl := q1
          rw [List.getElem?_replicate] at q1'
          split at q1'
          · cases q1'; cases hs
          · cases q1'
    · refine ⟨fun _ q => q.elim, fun _ dv q b' w' Hs σ0 v hb' er0 rv _ => ?_, fun _ q => q.elim, fun _ q => q.elim⟩
      obtain rfl : dv = .fz (.bool true) := q
      cases rv
      exact hq _
end DL
namespace DL
open PySem
/-! ### loops by an invariant -/
theorem wFor_inv {g : GD} {f : WS} {De : DEnds} (I : Ev → Prop) (fin : ∀ e, I e → De.nx e) : ∀ (ds : List D), (∀ d ∈ ds, ∀ (env : Ev) (De' : DEnds), I env → De'.rt = De.rt → (∀ e, I e → De'.nx e) → (∀ e, I e → De'.ct e) → ∃ env', g d env = some env' ∧ f env' De') → ∀ env, I env → wFor g f ds env De
  | [], _, env, h => fin env h
  | d :: r, st, env, h => st d (List.mem_cons_self ..) env _ h rfl (fun e he => wFor_inv I fin r (fun d hd => st d (List.mem_cons_of_mem _ hd)) e he) (fun e he => wFor_inv I fin r (fun d hd => st d (List.mem_cons_of_mem _ hd)) e he)
theorem wFor_rng {g : GD} {f : WS} {De : DEnds} {n : Nat} (I : Nat → Ev → Prop) (fin : ∀ e, I n e → De.nx e) (st : ∀ i, i < n → ∀ (env : Ev) (De' : DEnds), I i env → De'.rt = De.rt → De'.bk = De.nx → (∀ e, I (i + 1) e → De'.nx e) → (∀ e, I (i + 1) e → De'.ct e) → ∃ env', g (.int (i : Nat)) env = some env' ∧ f env' De') :
    ∀ (r k : Nat), k + r = n → ∀ env, I k env → wFor g f ((List.range' k r).map fun i => .int (i : Nat)) env De
  | 0, k, e, env, h => by
    have e' : k = n := by omega
    subst e'
    exact fin env h
  | r + 1, k, e, env, h => by
    rw [List.range'_succ, List.map_cons]
    exact st k (by omega) env _ h rfl rfl (fun e' he => wFor_rng I fin st r (k + 1) (by omega) e' he) (fun e' he => wFor_rng I fin st r (k + 1) (by omega) e' he)
/-- over a list of coded things; the invariant knows how many are done -/
theorem wFor_enc {α : Type} {g : GD} {f : WS} {De : DEnds} (c : α → D) (xs : List α) (I : Nat → Ev → Prop) (fin : ∀ e, I xs.length e → De.nx e) (st : ∀ i x, xs[i]? = some x → ∀ (env : Ev) (De' : DEnds), I i env → De'.rt = De.rt → De'.bk = De.nx → (∀ e, I (i + 1) e → De'.nx e) → (∀ e, I (i + 1) e → De'.ct e) → ∃ env', g (c x) env = some env' ∧ f env' De') :
    ∀ (ys : List α) (k : Nat), xs.drop k = ys → k ≤ xs.length → ∀ env, I k env → wFor g f (ys.map c) env De
  | [], k, e, hk, env, h => by
    have e' : k = xs.length := by have := List.drop_eq_nil_iff.mp e; omega
    subst e'
    exact fin env h
  | y :: ys, k, e, hk, env, h => by
    have hlt : k < xs.length := by
      rcases Nat.lt_or_ge k xs.length with q | q
      · exact q
      · rw [List.drop_eq_nil_iff.mpr q] at e; cases e
    rw [List.drop_eq_getElem_cons hlt] at e
    injection e with e1 e2
    refine st k y (by rw [List.getElem?_eq_getElem hlt, e1]) env _ h rfl rfl (fun e' he => ?_) (fun e' he => ?_)
    · exact wFor_enc c xs I fin st ys (k + 1) e2 hlt e' he
    · exact wFor_enc c xs I fin st ys (k + 1) e2 hlt e' he
/-- a comprehension whose items are drawn -/
theorem lc_any {α : Type} {gd : GD} {we : WE} {env : Ev} {P : Dv → Prop} (c : α → D) (good : α → Prop) : ∀ (ds acc : List D), (∀ d ∈ ds, ∃ env', gd d env = some env' ∧ ∀ R : Dv → Prop, (∀ x, good x → R (.fz (c x))) → we env' R) → acc.length + ds.length ≤ sizeLine →
    (∀ xs : List α, xs.length = ds.length → (∀ x ∈ xs, good x) → P (.nw (.list (acc ++ xs.map c)))) → wLcL gd wYes we env P ds acc
  | [], acc, _, _, p => by simpa [wLcL] using p [] rfl (fun _ z => nomatch z)
  | d :: r, acc, h, hl, p => by
    obtain ⟨env', h1, h2⟩ := h d (List.mem_cons_self ..)
    rw [List.length_cons] at hl
    refine ⟨env', h1, ?_⟩
    simp only [wYes, if_true]
    refine h2 _ fun x hx => ⟨c x, rfl, by omega, ?_⟩
    refine lc_any c good r _ (fun e he => h e (List.mem_cons_of_mem _ he)) (by rw [List.length_append, List.length_singleton]; omega) fun xs e q => ?_
    have := p (x :: xs) (by rw [List.length_cons, List.length_cons, e]) (fun y hy => (List.mem_cons.mp hy).elim (fun z => z ▸ hx) (q y))
    rw [List.append_assoc]; exact this
/-! ### data that can be shown -/
structure Rok (h n : Nat) (d : D) : Prop where
  lay : d.canLay0 = true
  sh : d.showable = true
  dp : d.depth ≤ h
  ln : d.shown.length ≤ n
theorem Rok.mono {h n h' n' : Nat} {d : D} (r : Rok h n d) (a : h ≤ h') (b : n ≤ n') : Rok h' n' d := ⟨r.lay, r.sh, Nat.le_trans r.dp a, Nat.le_trans r.ln b⟩
theorem rok_none : Rok 0 13 .none := ⟨rfl, rfl, by simp [PyData.depth], by decide +kernel⟩
theorem rok_bool (b : Bool) : Rok 0 13 (.bool b) := ⟨rfl, rfl, by simp [PyData.depth], by cases b <;> decide +kernel⟩
theorem rok_int {i : Int} (h1 : -999999999999 ≤ i) (h2 : i ≤ 999999999999) : Rok 0 13 (.int i) := by
  refine ⟨rfl, ?_, by simp [PyData.depth], PyData.shown_int_le2 h1 h2⟩
  simp only [PyData.showable, decide_eq_true_eq]
  by_cases z : i.natAbs = 0
  · rw [z]; decide
  · refine (Nat.log2_lt z).mpr (Nat.lt_of_lt_of_le (show i.natAbs < 2 ^ 40 by omega) (Nat.pow_le_pow_right (by decide) (by decide)))
theorem rokAll {h n : Nat} : ∀ {ds : List D}, (∀ d ∈ ds, Rok h n d) → PyData.canLayAll0 ds = true ∧ PyData.showableAll ds = true ∧ PyData.depthAll ds ≤ h ∧ ((PyData.shownAll ds).map (·.length)).sum ≤ ds.length * n
  | [], _ => ⟨rfl, by simp [PyData.showableAll], by simp [PyData.depthAll], by simp [PyData.shownAll]⟩
  | d :: r, H => by
    have h1 := H d (List.mem_cons_self ..)
    obtain ⟨a, b, c, e⟩ := rokAll fun x hx => H x (List.mem_cons_of_mem _ hx)
    refine ⟨by simp [PyData.canLayAll0, h1.lay, a], by simp [PyData.showableAll, h1.sh, b], ?_, ?_⟩
    · have := h1.dp
      simp only [PyData.depthAll]; omega
    · have := h1.ln
      simp only [PyData.shownAll, List.map_cons, List.sum_cons, List.length_cons, Nat.add_mul, Nat.one_mul]; omega
theorem rok_tup {h n : Nat} {ds : List D} (H : ∀ d ∈ ds, Rok h n d) : Rok (h + 1) (ds.length * (n + 2) + 3) (.tuple ds) := by
  obtain ⟨a, b, c, e⟩ := rokAll H
  refine ⟨a, by simpa [PyData.showable] using b, by simp only [PyData.depth]; omega, ?_⟩
  have h2 := tupleText_len_le (PyData.shownAll ds)
  have h3 := PyData.shownAll_length ds
  simp only [PyData.shown]
  rw [Nat.mul_add]; omega
theorem rok_lst {h n : Nat} {ds : List D} (H : ∀ d ∈ ds, Rok h n d) : Rok (h + 1) (ds.length * (n + 2) + 3) (.list ds) := by
  obtain ⟨a, b, c, e⟩ := rokAll H
  refine ⟨a, by simpa [PyData.showable] using b, by simp only [PyData.depth]; omega, ?_⟩
  have h2 := listText_len_le (PyData.shownAll ds)
  have h3 := PyData.shownAll_length ds
  simp only [PyData.shown]
  rw [Nat.mul_add]; omega
theorem Rok.repr {h n : Nat} {d : D} (r : Rok h n d) (a : h ≤ 50) (b : n ≤ 16777216) : reprD [d] = some (.str d.shown) := by
  show (if reprOk d = true then _ else none) = _
  rw [if_pos]
  have := r.dp
  have := r.ln
  simp only [reprOk, r.lay, r.sh, Bool.true_and, Bool.and_eq_true, decide_eq_true_eq, sizeLine_eq]
  omega
theorem Rok.reprV {h n : Nat} {d : D} (r : Rok h n d) (a : h ≤ 50) (b : n ≤ 16777216) : (valL [.fz d]).bind reprD = some (.str d.shown) := r.repr a b
theorem Rok.shp {h n : Nat} {d : D} (r : Rok h n d) (a : h ≤ 50) : SeqAt.shaped d = true := by
  have := r.dp
  simp only [SeqAt.shaped, r.lay, Bool.true_and, decide_eq_true_eq]; omega
theorem Rok.eqv {h n : Nat} {d : D} (r : Rok h n d) : PyData.eqv d d = true := SeqAt.eqv_refl d r.lay
theorem Rok.ne {h n : Nat} {d : D} (r : Rok h n d) (a : h ≤ 50) : neD d d = some (.bool false) := by
  unfold neD
  rw [if_pos ⟨r.shp a, r.shp a⟩, r.eqv]; rfl
theorem Rok.eq {h n : Nat} {d : D} (r : Rok h n d) (a : h ≤ 50) : eqD d d = some (.bool true) := by
  unfold eqD
  rw [if_pos ⟨r.shp a, r.shp a⟩, r.eqv]
theorem ne_str_self (x : Str) : neD (.str x) (.str x) = some (.bool false) := by rw [ne_strs]; simp
theorem ne_strV (x : Str) : ((Dv.fz (.str x)).val.bind fun a => (Dv.fz (.str x)).val.bind fun b => neD a b) = some (.bool false) := ne_str_self x
theorem ne_bool (a b : Bool) : neD (.bool a) (.bool b) = some (.bool (a != b)) := by
  cases a <;> cases b <;> rfl
theorem eq_bool (a b : Bool) : eqD (.bool a) (.bool b) = some (.bool (a == b)) := by
  cases a <;> cases b <;> rfl
theorem fnG_no {P : Program} {w : World} {K : PySem.W.Frag} {mg : Str → Option Value} {base : Heap} {k : Nat} {f : Addr} {fd : FuncData} {ps : List Str} : FnG P w K mg base L2.CX0 k f fd ps (spF SI0 0 fun _ _ => False) :=
  ⟨fun _ _ _ _ ⟨_, _, _, _, _, _, _, _, _, h, _⟩ => h.elim, fun _ _ _ _ _ _ _ _ _ _ _ _ _ _ ⟨_, _, _, _, _, _, _, _, _, h, _⟩ => h.elim⟩
end DL
set_option maxHeartbeats 2000000
/-! Errors of the program's own classes right under ValueError, OverflowError or LookupError, whose __init__ says super().__init__(..) and may store one field. -/
namespace PySem
namespace EXN
open PySem.W PySem.Calls PyProof.Rows PySem.HandSPX
/-- what there is to say of the builtin class above -/
structure XB (B nw ini : String) (tail : List Value) : Prop where
  f : ExcBaseFacts B nw ini tail
  kx : KxsFacts B ini
  pass : ∀ self, refuseLoop self "__setattr__" tail = pure ()
  obj : tail.contains (.type "object") = true
theorem xb_ValueError : XB "ValueError" "ValueError.__new__" "ValueError.__init__" [.type "ValueError", .type "Exception", .type "BaseException", .type "object"] := ⟨F.excBase_ValueError, kxs_ValueError, F.store_ValueError.passes, by decide +kernel⟩
theorem xb_OverflowError : XB "OverflowError" "OverflowError.__new__" "OverflowError.__init__" [.type "OverflowError", .type "ArithmeticError", .type "Exception", .type "BaseException", .type "object"] := ⟨F.excBase_OverflowError, kxs_OverflowError, F.store_OverflowError.passes, by decide +kernel⟩
theorem xb_LookupError : XB "LookupError" "LookupError.__new__" "LookupError.__init__" [.type "LookupError", .type "Exception", .type "BaseException", .type "object"] := ⟨F.excBase_LookupError, kxs_LookupError, F.store_LookupError.passes, by decide +kernel⟩
section
variable {prog : Program} {w : World} {R : Result → Shared → Prop} {A : Around} {E : Value → Shared → Prop} {hp : Heap} {g : Array GenState} {d : Drawn} {t : Nat} {os : OsState}
open Builtin Builtin.ObjectAttr in
/-- HandSPX.exc_osa for any builtin class above -/
theorem osa_new {K : W.Frag} {name : Str} {tk : Tok} {v : Value} {x C : Addr} {fv : Array Value} {cd : ClassData}
    (X : K.In hp) (hx : hp.get? x = some { cls := .ref C, data := .fields fv }) (hcd : W.clsIn K C = some cd) (hp1 : ∀ self, refuseLoop self "__setattr__" cd.mro = pure ()) (hob : cd.mro.contains (.type "object") = true) (ne : cd.mro.isEmpty = false)
    (hh : cd.hasDict = true) (ha : W.findIn K (.ref C) name = some none)
    (hq : ∀ h' tk' dx, (∀ b o, b ≠ x → hp.get? b = some o → h'.get? b = some o) → hp.objs.size ≤ dx → dx ≠ x → h'.get? x = some { cls := .ref C, dict := some dx, data := .fields fv } →
      h'.Ns1 dx (fun y => if y = name then some v else none) → R (.ok (.ret .none)) ⟨h', g, d, tk', os⟩) :
    codeAny (model prog w) A (.call (.builtin "object.__setattr__") ⟨[.ref x, .str name tk, v], []⟩) R ⟨hp, g, d, t, os⟩ := by
  have I : W.InstAt hp x { cls := .ref C, data := .fields fv } C none := ⟨hx, rfl, rfl, trivial⟩
  have SF := F.store_object
  have hxs : x ≠ hp.objs.size := Nat.ne_of_lt (Heap.lt_size hx)
  have sub : W.Looks (model prog w) hp (isInstance (.ref x) (.type "object")) true := I.type.andThen (W.looks_mroIn X (by unfold W.mroIn; rw [hcd, Option.bind_some, if_neg (by rw [ne]; decide), hob]))
  refine codeAny_call_builtin SF.slot.plain SF.entry (@W.check_slot (model prog w) _ _ ⟨hp, g, d, t, os⟩ "object.__setattr__" "object" "__setattr__" (.ref x) [.str name tk, v] [] _ SF.kind SF.split sub (SF.args (.ref x) (.str name tk) v) ?_)
  have hmr : W.Looks (model prog w) hp (mroOf (.ref C)) cd.mro := (W.looks_clsIn X hcd).andThen .now
  have L3 : W.Looks (model prog w) hp (storeTaker? none) none := .now
  have hcls : W.Looks (model prog w) hp (classData C) cd := W.looks_clsIn X hcd
  rw [W.osa_eq, refuse_eq]
  refine wpAny_bind (wpAny_bind (I.type.at (wpAny_bind (hmr.at ?_))))
  rw [hp1]
  refine wpAny_pure (wpAny_bind (I.type.at (wpAny_bind ((W.looks_findIn X ha).at (wpAny_bind (L3.at ?_))))))
  show wpAny _ _ (storeInOwnDict (.ref x) (.ref C) (.str name tk) name v false) _ _ _
  obtain ⟨nm, bs, mro, ns, qn, hd, sn, sb, ab, col, del⟩ := cd
  dsimp only at hh
  subst hh
  unfold storeInOwnDict ownDictForStores
  repeat (first | with_reducible refine store_in_new ?_ ?_ | with_reducible refine wpAny_loadPart_at hx ?_ | with_reducible refine hcls.at ?_ | wp_step)
  · exact ⟨_, #[], _, (Heap.get?_update_ne _ _ _ _ hxs.symm).trans (Heap.get?_push_at rfl rfl), rfl, fun e he => absurd he (by simp), fun _ => rfl⟩
  · intro h' tk' hn' hs
    have hx₁ : (hp.push { cls := .type "dict", data := .dict #[] }).get? x = some { cls := .ref C, data := .fields fv } := Heap.get?_push_of_some _ hx
    refine hq h' tk' hp.objs.size (fun b o hb ho => ?_) (Nat.le_refl _) hxs.symm ?_ hn'
    · exact (hs.2 b (Nat.ne_of_lt (Heap.lt_size ho))).trans ((Heap.get?_update_ne _ _ _ _ hb).trans (Heap.get?_push_of_some _ ho))
    · exact (hs.2 x hxs).trans (Heap.get?_update_self _ hx₁ rfl)
end
section
variable {B nw ini : String} {tail : List Value}
variable {prog : Program} {w : World} {A : Around} {E : Value → Shared → Prop} {h : Heap} {g : Array GenState} {d : Drawn} {t : Nat} {os : OsState}
variable {nm q : Str} {C N : Addr} {bs bm : List Value} {hdct : Bool} {sn : List Str} {sub : List Value} {ab : Bool} {col : Option Bool} {dd : Option Addr} {k0 k1 k2 k3 k5 : Option Value}
/-- the builtin class's __init__ bound to the error at e, called -/
theorem call_mw (xb : XB B nw ini tail) {u e t0 : Addr} {rest : List Value} {Q : Value → Shared → Prop}
    (hC : h.get? C = some (excClassObj nm q C N bs bm hdct sn sub ab col dd k0 k1 k2 k3 k5 nw)) (he : h.get? e = some (excO C t0)) (hu : h.get? u = some (kxs_mw ini e)) (hrest : rest.length ≤ sizeLine)
    (hq : ∀ h' t1, (∀ b o, b ≠ e → h.get? b = some o → h'.get? b = some o) → h'.get? e = some (excO C t1) → Q .none ⟨h', g, d, t, os⟩) :
    wpAny (model prog w) A (call (.ref u) rest) Q E ⟨h, g, d, t, os⟩ := by
  refine wpAny_call (codeAny_of_tree ?_)
  show wpAny _ A.in1 (callAny (.ref u) ⟨rest, []⟩) _ _ _
  simp only [callAny]
  refine wpAny_bind (wpAny_load hu ?_)
  simp only [kxs_mw, show (Value.type "method-wrapper" == Value.type "method" || Value.type "method-wrapper" == Value.type "builtin_function_or_method" || Value.type "method-wrapper" == Value.type "method-wrapper") = true by decide, if_true]
  refine W.KFB.if_so (by decide) ?_
  refine wpAny_bind (check_bound_init xb.f.toExcCallFacts hC he rfl ?_)
  refine wpAny_bind (wpAny_pure (wpAny_pure ?_))
  refine ⟨plainId_quiet xb.f.init.plain _, codeAny_builtin xb.f.initEntry ?_⟩
  refine exc_init_tree (cls := .ref C) (t0 := t0) (dv := none) (c2 := .none) (c3 := .none) (b4 := .bool false) he hrest fun h' k e' _ => ?_
  exact hq h' _ k e'
end
/-- the one def of a class of the text -/
def cInit : Stmt → Stmt
  | .ClassDef _ _ _ body _ _ _ _ _ _ _ => body.getD 0 (.Pass ⟨0, 0, 0, 0⟩)
  | st => st
/-- what the text says of such a class -/
structure Txt (P : Program) (K : Frag) (mg : Str → Option Value) (nm qual : Str) (st : Stmt) (C fI : Addr) : Prop where
  gC : mg nm = some (.ref C)
  cls : ∃ B nw ini tail, XB B nw ini tail ∧ subIn K (.ref C) (.type B) = some true ∧ ks_superIn K C C "__init__" = some (some (.builtin ini)) ∧
    ∃ n q N bs sn sub ab col dd k0 k1 k2 k3 k5, K.lookup C = some (excClassObj n q C N bs tail true sn sub ab col dd k0 k1 k2 k3 k5 nw)
  sa : findIn K (.ref C) "__setattr__" = some (some (.builtin "object.__setattr__"))
  ga : findIn K (.ref C) "__getattribute__" = some (some (.builtin "BaseException.__getattribute__"))
  gg : findIn K (.ref C) "__getattr__" = some none
  iC : findIn K (.ref C) "__init__" = some (some (.ref fI))
  tC : typeIn K (.ref fI) = some (.type "function")
  kC : keepIn K (.ref C) = true
  exC : subIn K (.ref C) (.type "BaseException") = some true
  tyC : typeIn K (.ref C) = some (.type "type")
  hdC : hasDictIn K C = true
  mC : mroIn K C (.ref C) = some true
  no3 : nsIn K cStatics "thirdparty.any" = some none
  mS : mg "super" = none
  top : (P.main.scope.names.lookup ("super" : Str)).isSome = false
  fn : ∃ (oc : Value) (od : Option Addr) (doc pm : Value) (an : Option Addr) (ct : Value) (osl : Array (Option Value)) (cda cc : Addr),
    K.lookup fI = some ⟨oc, od, .func (ksFn "__init__" qual (L2.defArgs (cInit st)) (L2.defBody (cInit st)) (L2.defScope (cInit st)) .none .none doc pm an (.ref cda) ct cc), osl⟩ ∧
    codeIn K (.ref cda) qual = true ∧
    (∃ ccl cdd vs ccs file tf, K.lookup cda = some ⟨ccl, cdd, .fields vs, ccs⟩ ∧ vs[2]? = some (.str file tf) ∧ ((P.main.file : Str) == file) = true) ∧
    (∃ cl cld csl, K.lookup cc = some ⟨cl, cld, .cell (some (.ref C)), csl⟩)
/-- what __init__ leaves of a fresh error at x: its field v -/
structure InitF (h h' : Heap) (x C dx : Addr) (fld : Str) (v : Value) : Prop where
  keep : ∀ b o, b ≠ x → h.get? b = some o → h'.get? b = some o
  obj : ∃ t1, h'.get? x = some { cls := .ref C, dict := some dx, data := .fields #[.ref t1, .none, .none, .none, .bool false, .none] }
  dbig : h.objs.size ≤ dx
  dne : dx ≠ x
  ns : h'.Ns1 dx (fun y => if y = fld then some v else none)
structure Init0 (h h' : Heap) (x C : Addr) : Prop where
  keep : ∀ b o, b ≠ x → h.get? b = some o → h'.get? b = some o
  obj : ∃ t1, h'.get? x = some (excO C t1)
theorem one_size (v : Value) : [v].length ≤ sizeLine := by
  rw [sizeLine_eq]
  exact (by decide : 1 ≤ 16777216)
theorem ldK {M : Model} {s : Shared} {env : Env} {m : Str → Option Value} {x : Str} {pos : Pos} {v : Value} {Q : Value → Shared → Prop} {A : Around} {E : Value → Shared → Prop} (hn : s.heap.Ns env.locals m) (hv : m x = some v) (h : Q v s)
    (hk : env.scope.kind = .function := by rfl) (hl : env.kindOf x = some .local := by rfl) (hd : (x == ("__debug__" : Str)) = false := by decide) :
    wpAny M A (eval (.Name x pos) env) Q E s := wpAny_Name (wpAny_loadName_local hk hl hn hv h) hd
/-- a made error with a field -/
structure MadeF (h h' : Heap) (e C d : Addr) (fld : Str) (v : Value) : Prop where
  keep : ∀ b o, h.get? b = some o → h'.get? b = some o
  new : h.objs.size ≤ e
  obj : ∃ oe vs, h'.get? e = some oe ∧ oe.cls = .ref C ∧ oe.dict = some d ∧ oe.data = .fields vs ∧ vs[1]? = some .none
  dbig : h.objs.size ≤ d
  dne : d ≠ e
  ns : h'.Ns1 d (fun y => if y = fld then some v else none)
structure Made0 (h h' : Heap) (e C : Addr) : Prop where
  keep : ∀ b o, h.get? b = some o → h'.get? b = some o
  new : h.objs.size ≤ e
  obj : ∃ oe vs, h'.get? e = some oe ∧ oe.cls = .ref C ∧ oe.dict = none ∧ oe.data = .fields vs ∧ vs[1]? = some .none
abbrev Blt (h : Heap) : Prop := ∃ mb, h.Ns builtinsNs mb ∧ ∀ x : Str, x ≠ "__name__" → mb x = bootBuiltins x
def FieldInit (P : Program) (w : World) (K : Frag) (mg : Str → Option Value) (C fI : Addr) (fld : Str) : Prop := ∀ (A : Around) (R : Result → Shared → Prop) (s : Shared) (x t0 : Addr) (v : Value), K.In s.heap → s.heap.NoLimit → s.heap.Ns mainGlobals mg → Blt s.heap →
  s.heap.get? x = some (excO C t0) → K.lookup x = none → A.depth < recursionLimit → (∀ h' tk dx, InitF s.heap h' x C dx fld v → R (.ok (.ret .none)) { s with heap := h', toks := tk }) → codeAny (model P w) A (.call (.ref fI) ⟨[.ref x, v], []⟩) R s
def PlainInit (P : Program) (w : World) (K : Frag) (mg : Str → Option Value) (C fI : Addr) : Prop := ∀ (A : Around) (R : Result → Shared → Prop) (s : Shared) (x t0 : Addr) (v : Value), K.In s.heap → s.heap.NoLimit → s.heap.Ns mainGlobals mg → Blt s.heap →
  s.heap.get? x = some (excO C t0) → K.lookup x = none → A.depth < recursionLimit → (∀ h' tk, Init0 s.heap h' x C → R (.ok (.ret .none)) { s with heap := h', toks := tk }) → codeAny (model P w) A (.call (.ref fI) ⟨[.ref x, v], []⟩) R s
section
variable {P : Program} {w : World} {A : Around} {R : Result → Shared → Prop} {s : Shared} {K : Frag} {mg : Str → Option Value} {C fI : Addr} {nm qual fld : Str} {st : Stmt}
theorem ns_keep {h h' : Heap} {a : Addr} {m : Str → Option Value} (n : h.Ns a m) (k : ∀ b o, h.get? b = some o → h'.get? b = some o) : h'.Ns a m := let ⟨o, es, ep, e, r⟩ := n; ⟨o, es, ep, k _ _ e, r⟩
theorem fresh_look {X : K.In s.heap} : K.lookup (s.heap.objs.size + 1) = none := by
  cases e : K.lookup (s.heap.objs.size + 1) with
  | none => rfl
  | some o => exact absurd (Nat.lt_of_succ_lt (Heap.lt_size (X _ _ e))) (Nat.lt_irrefl _)
theorem madeF (T : Txt P K mg nm qual st C fI) (FI : FieldInit P w K mg C fI fld) {v : Value} (X : K.In s.heap) (hlim : s.heap.NoLimit) (hg : s.heap.Ns mainGlobals mg) (hb : Blt s.heap) (hroom : A.depth + 1 < recursionLimit)
    (hq : ∀ h' tk e d, MadeF s.heap h' e C d fld v → R (.ok (.ret (.ref e))) { s with heap := h', toks := tk }) :
    codeAny (model P w) A (.call (.ref C) ⟨[v], []⟩) R s := by
  obtain ⟨B, nw, ini, tail, xb, vC, sI, n, q, N, bs, sn, sub, ab, col, dd, k0, k1, k2, k3, k5, hC⟩ := T.cls
  have hnx := fresh_look (X := X)
  obtain ⟨hp, g, dr, tk, os⟩ := s
  have k : ∀ b o, hp.get? b = some o → ((hp.push (kdv_tup [v])).push (excO C hp.objs.size)).get? b = some o := fun b o e => Heap.get?_push_of_some _ (Heap.get?_push_of_some _ e)
  have hget : ((hp.push (kdv_tup [v])).push (excO C hp.objs.size)).get? (hp.objs.size + 1) = some (excO C hp.objs.size) := by heap_get
  refine call_own xb.f (fun _ => rfl) (X _ _ hC) (looks_findIn X T.iC) (fun self => bind_fn X self T.tC) (one_size v) ?_
  obtain ⟨mb, hmb, hbb⟩ := hb
  refine FI _ _ ⟨(hp.push (kdv_tup [v])).push (excO C hp.objs.size), g, dr, tk, os⟩ _ _ v (X.keeps k) (hlim.keeps k) (ns_keep hg k) ⟨mb, ns_keep hmb k, hbb⟩ hget hnx ?_ fun h' tk' dx ⟨k', ⟨t1, hx⟩, dn, dne, hns⟩ => ?_
  · show A.depth + 1 < recursionLimit
    exact hroom
  · have old : ∀ b o, hp.get? b = some o → h'.get? b = some o := fun b o e => k' b o (Nat.ne_of_lt (Nat.lt_succ_of_lt (Heap.lt_size e))) (k b o e)
    have z : hp.objs.size + 1 + 1 ≤ dx := by
      have q := dn
      rw [Heap.size_push, Heap.size_push] at q
      exact q
    exact ⟨rfl, hq h' tk' (hp.objs.size + 1) dx ⟨old, Nat.le_succ _, ⟨_, _, hx, rfl, rfl, rfl, rfl⟩, by show hp.objs.size ≤ dx; omega, dne, hns⟩⟩
theorem made0 (T : Txt P K mg nm qual st C fI) (FI : PlainInit P w K mg C fI) {v : Value} (X : K.In s.heap) (hlim : s.heap.NoLimit) (hg : s.heap.Ns mainGlobals mg) (hb : Blt s.heap) (hroom : A.depth + 1 < recursionLimit)
    (hq : ∀ h' tk e, Made0 s.heap h' e C → R (.ok (.ret (.ref e))) { s with heap := h', toks := tk }) :
    codeAny (model P w) A (.call (.ref C) ⟨[v], []⟩) R s := by
  obtain ⟨B, nw, ini, tail, xb, vC, sI, n, q, N, bs, sn, sub, ab, col, dd, k0, k1, k2, k3, k5, hC⟩ := T.cls
  have hnx := fresh_look (X := X)
  obtain ⟨hp, g, dr, tk, os⟩ := s
  have k : ∀ b o, hp.get? b = some o → ((hp.push (kdv_tup [v])).push (excO C hp.objs.size)).get? b = some o := fun b o e => Heap.get?_push_of_some _ (Heap.get?_push_of_some _ e)
  have hget : ((hp.push (kdv_tup [v])).push (excO C hp.objs.size)).get? (hp.objs.size + 1) = some (excO C hp.objs.size) := by heap_get
  refine call_own xb.f (fun _ => rfl) (X _ _ hC) (looks_findIn X T.iC) (fun self => bind_fn X self T.tC) (one_size v) ?_
  obtain ⟨mb, hmb, hbb⟩ := hb
  refine FI _ _ ⟨(hp.push (kdv_tup [v])).push (excO C hp.objs.size), g, dr, tk, os⟩ _ _ v (X.keeps k) (hlim.keeps k) (ns_keep hg k) ⟨mb, ns_keep hmb k, hbb⟩ hget hnx ?_ fun h' tk' ⟨k', ⟨t1, hx⟩⟩ => ?_
  · show A.depth + 1 < recursionLimit
    exact hroom
  · have old : ∀ b o, hp.get? b = some o → h'.get? b = some o := fun b o e => k' b o (Nat.ne_of_lt (Nat.lt_succ_of_lt (Heap.lt_size e))) (k b o e)
    exact ⟨rfl, hq h' tk' (hp.objs.size + 1) ⟨old, Nat.le_succ _, ⟨_, _, hx, rfl, rfl, rfl, rfl⟩⟩⟩
end
end EXN
end PySem
namespace L2
open PySem PySem.Spec PyProof.Rows
theorem relO_fld {fld : Str} {v : V} {v' : Value} (r : RelV v v') (f : Str) : RelO (List.lookup f [(fld, v)]) (if f = fld then some v' else none) := by
  by_cases hw : f = fld
  · subst hw
    rw [if_pos rfl]
    have q : List.lookup f [(f, v)] = some v := by simp [List.lookup]
    rw [q]
    exact r
  · rw [if_neg hw]
    have qw : (f == fld) = false := by simpa using hw
    have q2 : List.lookup f [(fld, v)] = none := by simp [List.lookup, qw]
    rw [q2]
    trivial
section
variable {X : Cx} {C fI : Addr} {nm qual fld : Str} {st : Stmt}
def tMkF (C : Addr) (fld : Str) (ta : TA) : St → Hp → XK → Prop := fun σ H Q => ta σ H fun vs H1 => ∃ v, vs = [v] ∧ ∀ d, H1 d = none → Q (.ref C) (some d) (upd H1 d (.xd [(fld, v)]))
def tMk0 (C : Addr) (ta : TA) : St → Hp → XK → Prop := fun σ H Q => ta σ H fun vs H1 => ∃ v, vs = [v] ∧ Q (.ref C) none H1
theorem pmkF {a : Expr} {ta : TA} {p pos : Pos} {k : Nat} (T : PySem.EXN.Txt X.prog X.K X.mg nm qual st C fI) (FI : PySem.EXN.FieldInit X.prog X.w X.K X.mg C fI fld) (hr : Room k X.A) (ha : PA X [a] ta) (hg : Gl X nm) (hdb : (nm == ("__debug__" : Str)) = false)
    (he : starEach (a :: []) X.env = (false, eval a X.env) :: starEach [] X.env := by rfl) (hpl : (backTo pos (starEach [] X.env)).any (·.1) = false := by rfl) :
    PMk X (.Call (.Name nm p) [a] [] pos) (tMkF C fld ta) := by
  intro pins s σ H Q I h
  refine wpAny_Call_Name_kw (ld_glob I hg T.gC ?_ hdb)
  refine PySem.W.callWith_K (h₀ := X.base) I.ok.mod.kin T.kC (thn (ha.run pos pins s σ H _ I h) fun us s1 hh => ?_) he hpl
  obtain ⟨vs, H1, I1, r1, v, ev, q1⟩ := hh
  subst ev
  refine ⟨I1.kIn, ?_⟩
  cases r1 with
  | cons rv rn =>
    rename_i v' us'
    cases rn
    show wpAny _ _ (call (.ref C) [v']) _ _ _
    have hlim := I1.nolimit
    have hgl := PySem.EXN.ns_keep I1.ok.mod.glob I1.bk
    have hbl : PySem.EXN.Blt s1.heap := (let ⟨mb, h1, h2⟩ := I1.ok.mod.blt; ⟨mb, PySem.EXN.ns_keep h1 I1.bk, h2⟩)
    obtain ⟨hp, g, dr, tk, os⟩ := s1
    refine wpAny_call (PySem.EXN.madeF T FI I1.kIn hlim hgl hbl (by have := hr.dp; omega) fun h' tk' e d M => ?_)
    show MkP X pins σ Q (.ref e) ⟨h', g, dr, tk', os⟩
    obtain ⟨oe, fv, hoe, hc, hd, hdat, h1⟩ := M.obj
    have hns := M.ns
    obtain ⟨G', g1, g2⟩ := restrict h' fun b => decide (b ≠ e)
    have gk : ∀ b, b ≠ e → G'.get? b = h'.get? b := fun b hb => g1 b (decide_eq_true hb)
    have ge : G'.get? e = none := g2 e (by simp)
    have old : ∀ b o, hp.get? b = some o → G'.get? b = some o := fun b o q => (gk b (Nat.ne_of_lt (Nat.lt_of_lt_of_le (Heap.lt_size q) M.new))).trans (M.keep b o q)
    have ob : ObjOk X.prog X.w (upd H1 d (.xd [(fld, v)])) G' d (.xd [(fld, v)]) :=
      ⟨_, hns.at (fun o q => (gk d M.dne).trans q), fun f => relO_fld rv f⟩
    have J : Inv X pins σ (upd H1 d (.xd [(fld, v)])) ⟨G', g, dr, tk', os⟩ := I1.laid (t' := tk') old M.dbig ob
    refine ⟨e, oe, fv, ⟨G', g, dr, tk', os⟩, _, .ref C, some d, rfl, J, fun b o q => ?_, ge, hoe, ⟨hc, hd⟩, hdat, h1, ?_, rfl, I1.bare, raises_own T.exC T.tyC, q1 d (I1.hok.fresh M.dbig)⟩
    · by_cases hb : b = e
      · have q' : G'.get? b = some o := q
        rw [hb, ge] at q'; cases q'
      · exact (gk b hb).symm.trans q
    · rw [upd_ne (Ne.symm M.dne)]
      exact I1.hok.fresh M.new
theorem pmk0 {a : Expr} {ta : TA} {p pos : Pos} {k : Nat} (T : PySem.EXN.Txt X.prog X.K X.mg nm qual st C fI) (FI : PySem.EXN.PlainInit X.prog X.w X.K X.mg C fI) (hr : Room k X.A) (ha : PA X [a] ta) (hg : Gl X nm) (hdb : (nm == ("__debug__" : Str)) = false)
    (he : starEach (a :: []) X.env = (false, eval a X.env) :: starEach [] X.env := by rfl) (hpl : (backTo pos (starEach [] X.env)).any (·.1) = false := by rfl) :
    PMk X (.Call (.Name nm p) [a] [] pos) (tMk0 C ta) := by
  intro pins s σ H Q I h
  refine wpAny_Call_Name_kw (ld_glob I hg T.gC ?_ hdb)
  refine PySem.W.callWith_K (h₀ := X.base) I.ok.mod.kin T.kC (thn (ha.run pos pins s σ H _ I h) fun us s1 hh => ?_) he hpl
  obtain ⟨vs, H1, I1, r1, v, ev, q1⟩ := hh
  subst ev
  refine ⟨I1.kIn, ?_⟩
  cases r1 with
  | cons rv rn =>
    rename_i v' us'
    cases rn
    show wpAny _ _ (call (.ref C) [v']) _ _ _
    have hlim := I1.nolimit
    have hgl := PySem.EXN.ns_keep I1.ok.mod.glob I1.bk
    have hbl : PySem.EXN.Blt s1.heap := (let ⟨mb, h1, h2⟩ := I1.ok.mod.blt; ⟨mb, PySem.EXN.ns_keep h1 I1.bk, h2⟩)
    obtain ⟨hp, g, dr, tk, os⟩ := s1
    refine wpAny_call (PySem.EXN.made0 T FI I1.kIn hlim hgl hbl (by have := hr.dp; omega) fun h' tk' e M => ?_)
    show MkP X pins σ Q (.ref e) ⟨h', g, dr, tk', os⟩
    obtain ⟨oe, fv, hoe, hc, hd, hdat, h1⟩ := M.obj
    obtain ⟨G', g1, g2⟩ := restrict h' fun b => decide (b ≠ e)
    have gk : ∀ b, b ≠ e → G'.get? b = h'.get? b := fun b hb => g1 b (decide_eq_true hb)
    have ge : G'.get? e = none := g2 e (by simp)
    have old : ∀ b o, hp.get? b = some o → G'.get? b = some o := fun b o q => (gk b (Nat.ne_of_lt (Nat.lt_of_lt_of_le (Heap.lt_size q) M.new))).trans (M.keep b o q)
    have J : Inv X pins σ H1 ⟨G', g, dr, tk', os⟩ := I1.kept (t' := tk') old
    refine ⟨e, oe, fv, ⟨G', g, dr, tk', os⟩, _, .ref C, none, rfl, J, fun b o q => ?_, ge, hoe, ⟨hc, hd⟩, hdat, h1, I1.hok.fresh M.new, rfl, I1.bare, raises_own T.exC T.tyC, q1⟩
    by_cases hb : b = e
    · have q' : G'.get? b = some o := q
      rw [hb, ge] at q'; cases q'
    · exact (gk b hb).symm.trans q
/-- e.fld in an except suite that holds the error at a -/
def tFldX (C : Addr) (fld : Str) (a : Addr) (cls : Value) (d : Option Addr) (te : TE) : TE := fun σ H Q => te σ H fun x H1 => x = .ref a ∧ cls = .ref C ∧ ∃ (dd : Addr) (v : V), d = some dd ∧ H1 dd = some (.xd [(fld, v)]) ∧ Q v H1
theorem pe_fldX {a : Addr} {oe : Obj} {cls : Value} {d : Option Addr} {pn : List (Addr × Obj)} {e : Expr} {te : TE} {pos : Pos} (T : PySem.EXN.Txt X.prog X.K X.mg nm qual st C fI) (noN : PySem.W.findIn X.K (.ref C) fld = some none) (hz : Zc cls d oe) (hf : ∃ vs, oe.data = .fields vs) (he : PE (X.suite a ((a, oe) :: pn)) e te)
    (hb : attributeBase e fld X.env (eval e X.env) = eval e X.env) :
    PE (X.suite a ((a, oe) :: pn)) (.Attribute e fld pos) (tFldX C fld a cls d te) := by
  refine ⟨fun pins s σ H Q I h => ?_⟩
  refine attr_of hb (thn (he.run pins s σ H _ I h) fun u s1 hh => ?_)
  obtain ⟨x, H1, I1, rx, ex, ec, dd, v, ed, ea, q⟩ := hh
  subst ex
  obtain rfl : u = Value.ref a := rx
  subst ec
  subst ed
  obtain ⟨ha, _⟩ := I1.pin (a, oe) (List.mem_append_left _ List.mem_cons_self)
  obtain ⟨vs, hd⟩ := hf
  have hx : ObjOk X.prog X.w H1 s1.heap dd (.xd [(fld, v)]) := I1.hok dd _ ea
  obtain ⟨mA, hns, hr⟩ := hx
  obtain ⟨od, ho, hl⟩ := lookIn_ns hns
  have l : List.lookup fld [(fld, v)] = some v := by simp [List.lookup]
  obtain ⟨u, hu, ru⟩ := RelO.some_of (v := v) (o := mA fld) (by rw [← l]; exact hr fld)
  have J : PySem.W.InstAt s1.heap a oe C (some od) := ⟨ha, hz.1, by unfold PySem.W.notCls; rw [hd] <;> rfl, by rw [hz.2]; exact ho⟩
  exact HandSPX.exc_get I1.kIn J T.ga T.gg T.exC (PySem.W.findObj_own T.hdC noN rfl (by rw [hl, hu])) (handed_of ru) ⟨v, H1, I1.tok _, ru, q⟩
end
end L2
/-! Exceptions of the program's own classes, at the level of data; in defs that do not draw. -/
namespace DL
open PySem PySem.Spec PyProof.Rows L2

/-- an error: its class' name, its field's data (none where there is no field) -/
structure Xd where
  nm : Str
  d : D
/-- the classes of a law: name, class, field -/
abbrev CM := Str → Option (Addr × Option Str)
def XR (cm : CM) (w : Wd) (cls : Value) (o : Option Addr) (x : Xd) : Prop := ∃ C fo, cm x.nm = some (C, fo) ∧ cls = .ref C ∧ match fo with
  | none => o = none ∧ x.d = .none
  | some f => ∃ a v, o = some a ∧ ¬ w.M a ∧ w.H a = some (.xd [(f, v)]) ∧ Rp w v x.d
theorem no_dct_xd {l : List (Str × V)} : ¬ IsDct (.xd l) := fun h => by rcases h with ⟨_, h⟩ | ⟨_, h⟩ <;> cases h
theorem XR.st {cm : CM} {w w' : Wd} {cls : Value} {o : Option Addr} {x : Xd} (e : St1 w w') (h : XR cm w cls o x) : XR cm w' cls o x := by
  obtain ⟨C, fo, h1, h2, h3⟩ := h
  refine ⟨C, fo, h1, h2, ?_⟩
  cases fo with
  | none => exact h3
  | some f =>
    obtain ⟨a, v, q1, q2, q3, q4⟩ := h3
    exact ⟨a, v, q1, e.nm q2 q3, (e.keep a _ q2 q3).exact no_dct_xd, q4.st e⟩
abbrev EX := Ev → Xd → Prop
def XOk (cm : CM) (G : Gh) (W : WX) (Ex : EX) : Prop := ∀ env x, Ex env x → ∀ b w σ cls o, b ≤ cap → ER (G.at b) w env σ → XR cm w cls o x → W cls o σ w.H
theorem ER.less {G : Gh} {l : List Fx} {b : Nat} {w : Wd} {env : Ev} {σ : L2.St} (h : ER ((G.more l).at b) w env σ) : ER (G.at b) w env σ :=
  ⟨⟨h.kp, h.m0, h.nc, h.cp, h.cm, h.md, h.hd, fun p hp => h.gk p (List.mem_append_right _ hp), h.si, h.mt⟩, h.len, h.sl, h.od⟩
theorem XOk.more {cm : CM} {G : Gh} {W : WX} {Ex : EX} {l : List Fx} (h : XOk cm G W Ex) : XOk cm (G.more l) W Ex := fun env x q b w σ cls o hb er r => h env x q b w σ cls o hb er.less r

/-! ### raise -/
def wRaise (Ex : EX) (nm : Str) (wa : WE) : WS := fun env De => wa env fun dv => ∃ d, dv.kept = some d ∧ Ex env ⟨nm, d⟩
def wRaise0 (Ex : EX) (nm : Str) (wa : WE) : WS := fun env De => wa env fun _ => Ex env ⟨nm, .none⟩
section
variable {X : Cx} {G : Gh} {W : WX} {Ex : EX} {cm : CM} {C fI : Addr} {nm qual fld : Str} {st : Stmt} {a : Expr} {wa : WE} {ca k : Nat} {p pos pos' : Pos}
theorem ds_raiseF (tk : Takes X W) (hx : XOk cm G W Ex) (T : PySem.EXN.Txt X.prog X.K X.mg nm qual st C fI) (FI : PySem.EXN.FieldInit X.prog X.w X.K X.mg C fI fld) (hcm : cm nm = some (C, some fld)) (hr : Room k X.A) (ha : DE X G a wa ca) (hg : Gl X nm) (hdb : (nm == ("__debug__" : Str)) = false := by decide) (hc : X.calm = true := by rfl)
    (he : starEach (a :: []) X.env = (false, eval a X.env) :: starEach [] X.env := by rfl) (hpl : (backTo pos (starEach [] X.env)).any (·.1) = false := by rfl) :
    DS X G (.Raise (some (.Call (.Name nm p) [a] [] pos)) none pos') (wRaise Ex nm wa) ca := PS_imp (ps_raise hc tk (pmkF T FI hr (da_cons ha da_nil he) hg hdb he hpl)) fun σ H T h => by
  obtain ⟨env, M, C0, b0, De, hb0, er, hw, lf⟩ := h
  refine ⟨env, M, C0, b0, fun ds => match ds with | [x] => ∃ d, x.kept = some d ∧ Ex env ⟨nm, d⟩ | _ => False, hb0, er, hw, fun ds hd b1 w1 vs hb1 er1 e1 r1 => ?_⟩
  match ds, hd with
  | [x], ⟨d, hk, q⟩ =>
    cases r1 with
    | cons rv rn =>
      cases rn
      rename_i v
      refine ⟨v, rfl, fun dd hn => ?_⟩
      have sm : Same w1.H (upd w1.H dd (.xd [(fld, v)])) := same_new hn
      refine hx env _ q b1 ⟨upd w1.H dd (.xd [(fld, v)]), w1.M, w1.C⟩ σ _ _ (by omega) (er1.same sm) ⟨C, some fld, hcm, rfl, dd, v, rfl, fun m => er1.md dd m hn, upd_same, (rv.rp hk).st (St1.same sm)⟩
theorem ds_raise0 (tk : Takes X W) (hx : XOk cm G W Ex) (T : PySem.EXN.Txt X.prog X.K X.mg nm qual st C fI) (FI : PySem.EXN.PlainInit X.prog X.w X.K X.mg C fI) (hcm : cm nm = some (C, none)) (hr : Room k X.A) (ha : DE X G a wa ca) (hg : Gl X nm) (hdb : (nm == ("__debug__" : Str)) = false := by decide) (hc : X.calm = true := by rfl)
    (he : starEach (a :: []) X.env = (false, eval a X.env) :: starEach [] X.env := by rfl) (hpl : (backTo pos (starEach [] X.env)).any (·.1) = false := by rfl) :
    DS X G (.Raise (some (.Call (.Name nm p) [a] [] pos)) none pos') (wRaise0 Ex nm wa) ca := PS_imp (ps_raise hc tk (pmk0 T FI hr (da_cons ha da_nil he) hg hdb he hpl)) fun σ H T h => by
  obtain ⟨env, M, C0, b0, De, hb0, er, hw, lf⟩ := h
  refine ⟨env, M, C0, b0, fun ds => match ds with | [x] => Ex env ⟨nm, .none⟩ | _ => False, hb0, er, hw, fun ds hd b1 w1 vs hb1 er1 e1 r1 => ?_⟩
  match ds, hd with
  | [x], q =>
    cases r1 with
    | cons rv rn =>
      cases rn
      rename_i v
      exact ⟨v, rfl, hx env _ q b1 w1 σ _ _ (by omega) er1 ⟨C, none, hcm, rfl, rfl, rfl⟩⟩

/-! ### defs that may raise -/
end
abbrev SpecX := List Ag → (D → Prop) → (Xd → Prop) → Prop
def noC : Addr → Prop := fun _ => False
def spX (cm : CM) (spec : SpecX) : Sp := fun vs H Q E => ∃ (as : List Ag) (M : Addr → Prop) (Pd : D → Prop) (Px : Xd → Prop), Wf ⟨H, M, noC⟩ ∧ ARs ⟨H, M, noC⟩ vs as ∧ spec as Pd Px ∧
  (∀ d, Pd d → ∀ w' v, Ext ⟨H, M, noC⟩ w' → Wf w' → Rp w' v d → Q v w'.H) ∧ (∀ x, Px x → ∀ w' cls o, Ext ⟨H, M, noC⟩ w' → Wf w' → XR cm w' cls o x → E cls o w'.H)
theorem fn_raise {cm : CM} {P : Program} {w : World} {K : PySem.W.Frag} {mg : Str → Option Value} {base : Heap} {x qual : Str} {stm : Stmt} {f : Addr} {fd : FuncData} {N ps : List Str} {k c : Nat} {spec : SpecX} {ws : EX → WS}
    (F : Fun K x qual stm f fd) (S : FnScope N ps (defScope stm)) (hlen : ∀ as Q E, spec as Q E → as.length = ps.length)
    (hbody : ∀ (G : Gh) (cdv : Value) (A : Around) (outer : List Env) (s : Shared) (H : Hp) (E : XK) (W : WX) (Ex : EX), G.SI = SI0 → A.guards = some [] → Room k (A.deeper (envOfC qual (defScope stm) s.heap.objs.size f cdv)) → Takes (cxOf (L2.CX P w) P w K mg base N qual (defScope stm) f cdv A outer s H E) W → XOk cm G W Ex →
      PassesOwn (model P w) (cxOf (L2.CX P w) P w K mg base N qual (defScope stm) f cdv A outer s H E).A (cxOf (L2.CX P w) P w K mg base N qual (defScope stm) f cdv A outer s H E).env (cxOf (L2.CX P w) P w K mg base N qual (defScope stm) f cdv A outer s H E).xe →
      DSs (cxOf (L2.CX P w) P w K mg base N qual (defScope stm) f cdv A outer s H E) G (defBody stm) (ws Ex) c)
    (hspec : ∀ as Q E, spec as Q E → ws (fun _ x => E x) (env0 N.length as) (endsOf Q)) (hcc : c ≤ cap := by decide +kernel) : FnG P w K mg base (L2.CX P w) (k + 1) f fd ps (spX cm spec) := by
  obtain ⟨oc, od, kV, doc, pm, an, cdv, ct, osl, rfl, lk, hcd⟩ := F.ex
  refine fnG_of lk hcd S (fun vs H Q E h => ?_) fun A outer s H vs Q E hgd hr h => ?_
  · obtain ⟨as, M, Pd, Px, _, r, q, _⟩ := h
    rw [r.length]; exact hlen _ _ _ q
  · obtain ⟨as, M, Pd, Px, wf, r, q, hq, hqx⟩ := h
    have fin : ∀ (b' : Nat) (w' : Wd), EH ((ghOf SI0 stab0 H M noC wf.md).at b') w' → Ext ⟨H, M, noC⟩ ⟨w'.H, fun a => M a ∨ w'.C a, w'.C⟩ ∧ Wf ⟨w'.H, fun a => M a ∨ w'.C a, w'.C⟩ ∧ St1 w' ⟨w'.H, fun a => M a ∨ w'.C a, w'.C⟩ := fun b' w' eh => by
      refine ⟨⟨fun a o n h => ?_, eh.hd, eh.nc, fun a m => m.elim .inl fun c => (eh.nc a c).imp (wf.cm a) id, fun a m => .inl m⟩, ⟨fun a c => .inr c, fun a m => eh.md a (m.elim (eh.m0 a) (eh.cm a)), fun a xs m => eh.mt a xs (m.elim (eh.m0 a) (eh.cm a))⟩, ⟨fun a o _ h => .inl h, fun a m => .inl (Or.elim m (eh.m0 a) (eh.cm a))⟩⟩
      exact eh.kp a o ((ghOf_pt n).trans h)
    refine ⟨_, hbody (ghOf SI0 stab0 H M noC wf.md) cdv A outer s H E (fun cls d _ H => E cls d H) (fun _ x => Px x) rfl hgd hr (takes_of rfl rfl rfl rfl) (fun env x px b w' σ cls o hb er xr => ?_) (passes_of rfl), env0 N.length as, M, noC, 0, _, by omega, start_er wf trivial r, hspec as _ _ q, ?_⟩
    · obtain ⟨e1, e2, e3⟩ := fin b w' er.toEH
      exact hqx x px ⟨w'.H, fun a => M a ∨ w'.C a, w'.C⟩ cls o e1 e2 (xr.st e3)
    refine ⟨fun env' q b' w' σ' hb' er' => ?_, fun _ dv q b' w' Hs σ0 v hb' er0 rv hh => ?_, fun _ q => q.elim, fun _ q => q.elim⟩
    · obtain ⟨e1, e2, e3⟩ := fin b' w' er'.toEH
      exact hq _ q ⟨w'.H, fun a => M a ∨ w'.C a, w'.C⟩ .non e1 e2 .non
    · have eh := er0.toEH
      obtain ⟨e1, e2, e3⟩ := fin b' w' eh
      obtain ⟨d, hd, q⟩ := q
      refine hq _ q ⟨w'.H, fun a => M a ∨ w'.C a, w'.C⟩ v e1 e2 ?_
      have fresh : ∀ {a : Addr}, H a = none → ¬ w'.C a → ¬ (M a ∨ w'.C a) := fun h0 nc m => m.elim (fun m => wf.md _ m h0) nc
      cases dv with
      | fz d' => cases hd; exact Rp.st e3 rv
      | nw d' =>
        cases hd
        obtain ⟨a, rfl, z, m, n, o⟩ := rv
        have h0 : H a = none := by
          cases y : H a with
          | none => rfl
          | some o => exact absurd z (hh a (by show H a ≠ none; rw [y]; simp))
        exact ((o.st (St1.less w' a) rfl).st e3 rfl).rp (fresh h0 n)
      | ow d' =>
        cases hd
        obtain ⟨a, rfl, m, z, p, n, o⟩ := rv
        exact (o.st e3 rfl).rp (fresh z n)
      | bw d' => cases hd
      | raw u => cases hd

/-! ### calls of such defs -/
def wCallX (spec : SpecX) (Ex : EX) (wr : WA) : WE := fun env P => wr env fun xs => spec (xs.map Dv.ag) (fun d => P (.fz d)) (fun x => Ex env x)
section
variable {X : Cx} {G : Gh} {W : WX} {Ex : EX} {cm : CM} {k : Nat} {f : Addr} {fd : FuncData} {ps : List Str} {spec : SpecX} {x : Str} {e : Expr} {es : List Expr} {wr : WA} {ca c : Nat} {p pos : Pos}
theorem run_fnX {sp : Sp} {pins : List (Addr × Obj)} {σ : L2.St} {H : Hp} {s : Shared} {Q : VK} {us : List Value} {vs : List V} (F : FnG X.prog X.w X.K X.mg X.base (L2.CX X.prog X.w) k f fd ps sp) (hgd : X.A.guards = some []) (hr : Room k X.A) (hb : Binds X.K fd ps []) (tk : Takes X W)
    (I : Inv X pins σ H s) (r : Vals vs us) (h : sp vs H Q (fun cls d H' => W cls d σ H')) : wpAny (model X.prog X.w) X.A (call (.ref f) us) (EP X pins σ Q) X.xe s := by
  have hl : (us ++ []).length = ps.length := by rw [List.append_nil, ← r.length]; exact F.len _ _ _ _ h
  have bd := hb s us I.kIn hl
  rw [List.append_nil] at bd
  refine wpAny_call (codeAny_mono (F.run X.A X.stack s H ⟨us, []⟩ us vs Q _ hgd hr I.env0 bd r h) fun r s' hq => ?_)
  cases r with
  | error e => exact tk e s' (XE.of_call I (fun _ _ _ h => h) hq)
  | ok fl => cases fl with
    | ret u => exact I.after hq
    | next => exact False.elim hq
    | brk => exact False.elim hq
    | cont => exact False.elim hq
def tCallX (sp : Sp) (W : WX) (t : TA) : TE := fun σ H Q => t σ H fun vs H1 => sp vs H1 Q fun cls d H' => W cls d σ H'
theorem pe_callX {sp : Sp} {t : TA} (F : FnG X.prog X.w X.K X.mg X.base (L2.CX X.prog X.w) k f fd ps sp) (hgd : X.A.guards = some []) (hr : Room k X.A) (hg : Gl X x) (hm : X.mg x = some (.ref f)) (hk : PySem.W.keepIn X.K (.ref f) = true) (hb : Binds X.K fd ps []) (tk : Takes X W)
    (ha : PA X (e :: es) t) (hdb : (x == ("__debug__" : Str)) = false := by decide) (he : starEach (e :: es) X.env = (false, eval e X.env) :: starEach es X.env := by rfl) (hpl : (backTo pos (starEach es X.env)).any (·.1) = false := by rfl) :
    PE X (.Call (.Name x p) (e :: es) [] pos) (tCallX sp W t) := by
  refine ⟨fun pins s σ H Q I h => wpAny_Call_Name_kw (ld_glob I hg hm ?_ hdb)⟩
  exact PySem.W.callWith_K (h₀ := X.base) I.ok.mod.kin hk (thn (ha.run pos pins s σ H _ I h) fun us s1 ⟨vs, H1, I1, r, q⟩ => ⟨I1.kIn, run_fnX F hgd hr hb tk I1 r q⟩) he hpl
theorem rd_callX {σ : L2.St} {H : Hp} {Q : VK} (hx : XOk cm G W Ex) (h : tV G (wCallX spec Ex wr) ca σ H Q) : tCallX (spX cm spec) W (tA G wr ca) σ H Q := by
  obtain ⟨env, M0, C0, bb, P, hbb, er0, hw, hf0⟩ := h
  refine ⟨env, M0, C0, bb, _, hbb, er0, hw, fun dxs kk b0 w xs hb0 er e0 rs => ?_⟩
  have up : St1 w ⟨w.H, w.M, noC⟩ := ⟨fun a o _ h => .inl h, fun a m => .inl m⟩
  have ars : ∀ {vs : List V} {as : List Ag}, ARs w vs as → ARs ⟨w.H, w.M, noC⟩ vs as := by
    intro vs as r
    induction r with
    | nil => exact .nil
    | @cons v vs a as h r ih =>
      refine .cons ?_ ih
      cases a with
      | fz d => exact Rp.st up h
      | raw u => exact h
      | bw d => obtain ⟨b, e, m, n, o⟩ := h; exact ⟨b, e, m, fun z => z, o.st up rfl⟩
  have go : ∀ w', Ext ⟨w.H, w.M, noC⟩ w' → Ext w ⟨w'.H, w.M, w.C⟩ ∧ ER (G.at b0) ⟨w'.H, w.M, w.C⟩ env σ ∧ St1 w' ⟨w'.H, w.M, w.C⟩ := fun w' e => by
    have ex : Ext w ⟨w'.H, w.M, w.C⟩ := ⟨fun a o n h => e.keep a o (fun z => z) h, e.dom, fun a c => .inl c, fun a m => .inl m, fun a m => m⟩
    have si : G.SI b0 w.C w'.H := G.stab _ _ _ _ er.si fun a o c h => (e.keep a o (fun z => z) h).elim id fun q => absurd (er.cm a c) q.1
    exact ⟨ex, er.ext' ex (er.toEH.ext ex si ⟨er.cm, fun a m => e.dom a (er.md a m), fun a xs m => e.ntup (fun z => z) m (er.md a m) (er.mt a xs m)⟩), ⟨fun a o _ h => .inl h, fun a m => .inl (e.oldM a m)⟩⟩
  refine ⟨_, w.M, _, _, ⟨fun a c => c.elim, er.md, er.mt⟩, ars rs.ars, kk, fun d pd w' v e wf r => ?_, fun x px w' cls o e wf r => ?_⟩
  · obtain ⟨ex, er', dn⟩ := go w' e
    exact hf0 _ pd b0 ⟨w'.H, w.M, w.C⟩ v hb0 er' (e0.trans ex) (Rp.st dn r)
  · obtain ⟨ex, er', dn⟩ := go w' e
    exact hx env x px b0 ⟨w'.H, w.M, w.C⟩ σ cls o (by omega) er' (r.st dn)
theorem de_callX (tk : Takes X W) (hx : XOk cm G W Ex) (F : FnG X.prog X.w X.K X.mg X.base (L2.CX X.prog X.w) k f fd ps (spX cm spec)) (hgd : X.A.guards = some []) (hr : Room k X.A) (hg : Gl X x) (hm : X.mg x = some (.ref f)) (hk : PySem.W.keepIn X.K (.ref f) = true) (hb : Binds X.K fd ps [])
    (ha : DA X G (e :: es) wr ca) (hdb : (x == ("__debug__" : Str)) = false := by decide) (he : starEach (e :: es) X.env = (false, eval e X.env) :: starEach es X.env := by rfl) (hpl : (backTo pos (starEach es X.env)).any (·.1) = false := by rfl) :
    DE X G (.Call (.Name x p) (e :: es) [] pos) (wCallX spec Ex wr) ca := PE_imp (pe_callX F hgd hr hg hm hk hb tk ha hdb he hpl) fun _ _ _ h => rd_callX hx h
end
end DL
/-! try with several except clauses, each with a name or without one. -/
namespace L2
open PySem PySem.Spec PyProof.Rows
abbrev TSu := Addr → Value → Option Addr → TS
/-- the ends of a suite whose name, slot i, goes behind it -/
def Ends.gone (D : Ends) (i : Nat) : Ends := { nx := fun σ H => D.nx (σ.set i none) H, rt := D.rt, bk := fun σ H => D.bk (σ.set i none) H, ct := fun σ H => D.ct (σ.set i none) H }
def enter (ts : TSu) (D : Ends) (cls : Value) (d : Option Addr) (σ : St) (H : Hp) (a : Addr) : Option Nat → Prop
  | none => ts a cls d D σ H
  | some i => ts a cls d (D.gone i) (σ.set i (some (.ref a))) H
def wGen (K : PySem.W.Frag) (Wout : WX) (D : Ends) : List (Value × Option Nat × TSu) → WX
  | [] => Wout
  | (c, oi, ts) :: r => fun cls d σ H => ∃ b, PySem.W.exmOne K cls c = some b ∧ (b = true → ∀ a, H a = none → enter ts D cls d σ H a oi) ∧ (b = false → wGen K Wout D r cls d σ H)
def NameOk (X : Cx) : Option Str → Option Nat → Prop
  | none, none => True
  | some n, some i => X.N.Nodup ∧ X.N[i]? = some n ∧ X.env.kindOf n = some .local
  | _, _ => False
inductive HdsG (X : Cx) : List ExceptHandler → List (Value × Option Nat × TSu) → Prop
  | nil : HdsG X [] []
  | cons {x : Str} {on : Option Str} {c : Value} {oi : Option Nat} {ts : TSu} {b₀ : Stmt} {suite : List Stmt} {np pos' : Pos} {hds : List ExceptHandler} {l : List (Value × Option Nat × TSu)} (hc : Names X x c) (hn : NameOk X on oi)
      (hsu : ∀ (a : Addr) (oe : Obj) (cls : Value) (d : Option Addr) (pn : List (Addr × Obj)), Zc cls d oe → (∃ vs, oe.data = .fields vs) → PSs (X.suite a ((a, oe) :: pn)) (b₀ :: suite) (ts a cls d)) (r : HdsG X hds l) :
      HdsG X (.ExceptHandler (some (.Name x np)) on (b₀ :: suite) pos' :: hds) ((c, oi, ts) :: l)
section
variable {X : Cx} {body : List Stmt} {h₀ : ExceptHandler} {hds : List ExceptHandler} {l : List (Value × Option Nat × TSu)} {pos : Pos} {tb : WX → TS} {Wout : WX}
theorem ps_try_gen (hs : X.stack = X.env :: X.outer) (hf : X.env.frame = some X.env.locals) (tk : Takes X Wout)
    (hb : ∀ (W : WX) (pn : List (Addr × Obj)) (xe : Value → Shared → Prop), Takes (X.tr pn xe) W → PassesOwn (model X.prog X.w) X.A X.env xe → PSs (X.tr pn xe) body (tb W))
    (hh : HdsG X (h₀ :: hds) l) : PS X (.Try body (h₀ :: hds) [] [] pos) (fun D σ H => tb (wGen X.K Wout D l) D σ H) := by
  refine ⟨fun pins s σ H D I h => ?_⟩
  have ok := I.ok
  have hfr : X.A.frames = some (X.env :: X.outer) := by rw [ok.frames, hs]
  refine wpAny_Try_except (wpAny_mono ((hb (wGen X.K Wout D l) (X.pn ++ pins) (fun e s₁ => wpAny (model X.prog X.w) X.A (noteFrame e X.env) (fun _ s₂ => wpAny (model X.prog X.w) X.A (setFlight e none) (fun _ s₃ =>
    wpAny (model X.prog X.w) X.A (handleBy e X.env (h₀ :: hds)) (SP X pins D) X.xe s₃) X.xe s₂) X.xe s₁) (fun u s' xx => ?_) PassesOwn.looking).run [] s σ H D (I.toTry _) h) (fun f s1 hsp => ?_) (fun e s1 he => he))
  case refine_2 =>
    cases f with
    | next => exact let ⟨σ', H', J', q⟩ := hsp; wpAny_execs_nil ⟨σ', H', J'.ofTry ok, q⟩
    | brk => exact let ⟨σ', H', J', q⟩ := hsp; ⟨σ', H', J'.ofTry ok, q⟩
    | cont => exact let ⟨σ', H', J', q⟩ := hsp; ⟨σ', H', J'.ofTry ok, q⟩
    | ret u => exact let ⟨v, σ', H', J', r, q⟩ := hsp; ⟨v, σ', H', J'.ofTry ok, r, q⟩
  obtain ⟨a, B, sI, pins', σ', H', cls, d, rfl, J', nb, up, sky, na, os, ag, w⟩ := xx
  have J : Inv X pins σ' H' sI := J'.ofTry ok
  rw [show (X.tr _ _).stack = X.env :: X.outer from hs] at sky
  refine Sky.land (env := X.env) Zc.steady hfr hf sky fun h3 fl3 up3 => ?_
  have J3 : Inv X pins σ' H' { s' with heap := h3 } := J.landed nb fl3.1 (up.trans up3) os ag
  obtain ⟨oe3, vs3, he3, hz3, hd3⟩ := fl3.there
  have nfr : a ∉ frs (X.env :: X.outer) := fun hm => by
    obtain ⟨_, o', e', hnf⟩ := fl3.2.2.1.mem hm
    rw [he3] at e'; cases e'
    exact hnf _ hd3
  have nL : a ≠ X.env.locals := fun z => nfr (List.mem_filterMap.mpr ⟨X.env, List.mem_cons_self, by rw [hf, z]⟩)
  have nF : a ∉ X.fs := fun hm => by
    obtain ⟨e, he, q⟩ := List.mem_filterMap.mp hm
    exact nfr (List.mem_filterMap.mpr ⟨e, List.mem_cons_of_mem _ he, q⟩)
  have S3 := J3.suite he3 hd3 na nL nF
  suffices go : ∀ {hds' : List ExceptHandler} {l' : List (Value × Option Nat × TSu)}, HdsG X hds' l' → wGen X.K Wout D l' cls d σ' H' →
      wpAny (model X.prog X.w) X.A (handleBy (.ref a) X.env hds') (SP X pins D) X.xe { s' with heap := h3 } from go hh w
  intro hds' l' hk
  induction hk with
  | nil =>
    intro w
    refine wpAny_handleBy_nil ?_
    obtain ⟨k1, k2, k3, oe, vs, T, oT, ts', he, hz, hd, h1, hr⟩ := id fl3
    unfold PySem.passOn
    refine wpAny_bind (wpAny_field he hd h1 ?_)
    rw [if_neg (show ¬ ((Value.ref T == Value.none) = true) from by simp)]
    have fin : wpAny (model X.prog X.w) X.A (setFlight (.ref a) X.env.frame) (fun _ s4 => wpAny (model X.prog X.w) X.A (throw (.ref a) : Sem Flow) (SP X pins D) X.xe s4) X.xe { s' with heap := h3 } := by
      rw [hf]
      refine HandSPX.setFlight_upZ fl3 fun h4 hh4 up4 => wpAny_throw (tk _ _ ?_)
      exact ⟨a, B, sI, pins, σ', H', cls, d, rfl, J, nb, (up.trans up3).trans up4, .inr (.inr (by rw [hs]; exact hh4)), na, os, ag, w⟩
    first
      | exact wpAny_bind (wpAny_pure (wpAny_bind fin))
      | exact wpAny_bind fin
  | @cons x on c oi ts b₀ suite np pos' hds2 l2 hc hn hsu r ih =>
    rintro ⟨b, hb1, hyes, hno⟩
    refine wpAny_handleBy_cons (codeAny_handlers_test ?_) (by intro q; cases q)
    have LT : PySem.W.Looks (model X.prog X.w) h3 (typeOf (.ref a)) cls := fun A Q E s k q => wpAny_typeOf_ref (k _ _ he3) (by rw [hz3.1]; exact q)
    have LM := PySem.W.exm_one (M := model X.prog X.w) (J3.kIn) LT hb1
    have test : ∀ {Q : Value → Shared → Prop} {E : Value → Shared → Prop}, Q c { s' with heap := h3 } → wpAny (model X.prog X.w) (X.A.mark (some (.ref a))) (eval (.Name x np) X.env) Q E { s' with heap := h3 } := fun {Q E} q => by
      obtain ⟨hg, hdbg, hm | ⟨hm, hv, hnn⟩⟩ := hc
      · exact ld_glob (X := X.suite a ((a, oe3) :: (X.pn ++ pins))) S3 hg hm q hdbg
      · exact ld_blt (X := X.suite a ((a, oe3) :: (X.pn ++ pins))) S3 hg hm hv q hnn hdbg
    refine test (LM.here ?_)
    cases b with
    | false => exact ih (hno rfl)
    | true =>
      have met : ∀ h4, HandSPX.FlyingZ B (X.env :: X.outer) a (Zc cls d) h4 → h3.UpToSlots h4 → ∃ oe4 vs4, Zc cls d oe4 ∧ oe4.data = .fields vs4 ∧ Inv (X.suite a ((a, oe4) :: (X.pn ++ pins))) [] σ' H' { s' with heap := h4 } := fun h4 fl4 up4 => by
        obtain ⟨oe4, vs4, he4, hz4, hd4⟩ := fl4.there
        exact ⟨oe4, vs4, hz4, hd4, (J.landed nb fl4.1 ((up.trans up3).trans up4) os ag : Inv X pins σ' H' { s' with heap := h4 }).suite he4 hd4 na nL nF⟩
      have q := hyes rfl a na
      cases on with
      | none =>
        cases oi with
        | some i => exact hn.elim
        | none =>
          refine codeAny_handlers_suite (HandSPX.lands_againZ fl3 fun h4 fl4 up4 => ?_)
          obtain ⟨oe4, vs4, hz4, hd4, S4⟩ := met h4 fl4 up4
          refine wpAny_mono ((hsu a oe4 cls d (X.pn ++ pins) hz4 ⟨_, hd4⟩).run [] _ _ H' _ S4 q) (fun f s6 hsp => ?_) (fun _ _ z => False.elim z)
          cases f with
          | next => exact let ⟨σ6, H6, S6, q6⟩ := hsp; ⟨_, _, S6.unsuite ok, q6⟩
          | brk => exact let ⟨σ6, H6, S6, q6⟩ := hsp; ⟨_, _, S6.unsuite ok, q6⟩
          | cont => exact let ⟨σ6, H6, S6, q6⟩ := hsp; ⟨_, _, S6.unsuite ok, q6⟩
          | ret u => exact let ⟨v6, σ6, H6, S6, r6, q6⟩ := hsp; ⟨_, _, _, S6.unsuite ok, r6, q6⟩
      | some n =>
        cases oi with
        | none => exact hn.elim
        | some i =>
          obtain ⟨hN, hi, hln⟩ := hn
          refine codeAny_handlers_suite_as (HandSPX.lands_againZ fl3 fun h4 fl4 up4 => ?_)
          obtain ⟨oe4, vs4, hz4, hd4, S4⟩ := met h4 fl4 up4
          refine store_ok (X := X.suite a ((a, oe4) :: (X.pn ++ pins))) (v := .ref a) S4 hN hi (.inl hln) rfl (fun s5 S5 => ?_) (.inr hln)
          refine wpAny_mono ((hsu a oe4 cls d (X.pn ++ pins) hz4 ⟨_, hd4⟩).run [] s5 _ H' _ S5 q) (fun f s6 hsp => ?_) (fun _ _ z => False.elim z)
          have end_ : ∀ {σ6 : St} {H6 : Hp} {Q : Shared → Prop}, Inv (X.suite a ((a, oe4) :: (X.pn ++ pins))) [] σ6 H6 s6 → (∀ s7, Inv X pins (σ6.set i none) H6 s7 → Q s7) →
              wpAny (model X.prog X.w) X.A (do bindName X.env n .none; unbindBehindTheSuite X.env n pos') (fun _ s7 => Q s7) X.xe s6 := fun {σ6 H6 Q} S6 hq => gone_ok (S6.unsuite ok) hN hi hln hq
          cases f with
          | next => exact let ⟨σ6, H6, S6, q6⟩ := hsp; end_ S6 fun s7 J7 => ⟨_, _, J7, q6⟩
          | brk => exact let ⟨σ6, H6, S6, q6⟩ := hsp; end_ S6 fun s7 J7 => ⟨_, _, J7, q6⟩
          | cont => exact let ⟨σ6, H6, S6, q6⟩ := hsp; end_ S6 fun s7 J7 => ⟨_, _, J7, q6⟩
          | ret u => exact let ⟨v6, σ6, H6, S6, r6, q6⟩ := hsp; end_ S6 fun s7 J7 => ⟨_, _, _, J7, r6, q6⟩
end
end L2
namespace DL
open PySem PySem.Spec PyProof.Rows L2
/-! ### what an error holds while its suite runs -/
def Gh.hold (G : Gh) (a : Addr) (f : Str) (v : V) (d : D) : Gh := { G with Pt := upd G.Pt a (.xd [(f, v)]), gs := fx v d :: G.gs }
section
variable {G : Gh} {b : Nat} {w : Wd} {env : Ev} {σ : L2.St} {a : Addr} {f : Str} {v : V} {d : D}
theorem hold_ne {c : Addr} (n : c ≠ a) : (G.hold a f v d).Pt c = G.Pt c := upd_ne n
theorem hold_at : (G.hold a f v d).Pt a = some (.xd [(f, v)]) := upd_same
theorem EH.hold (h : EH (G.at b) w) (m : ¬ w.M a) (q : w.H a = some (.xd [(f, v)])) (r : Rp w v d) : EH ((G.hold a f v d).at b) w := by
  refine ⟨fun c o e => ?_, h.m0, h.nc, fun c e => ?_, h.cm, h.md, h.hd, fun p hp => ?_, h.si, h.mt⟩
  · by_cases z : c = a
    · subst z
      have e' := (hold_at (G := G) (f := f) (v := v) (d := d)).symm.trans e
      cases e'
      exact .inl q
    · exact h.kp c o ((hold_ne z).symm.trans e)
  · have z : c ≠ a := fun z => m (z ▸ h.cm c e)
    exact (hold_ne (G := G) (f := f) (v := v) (d := d) z).trans (h.cp c e)
  · rcases List.mem_cons.mp hp with rfl | hp
    · exact r
    · exact h.gk p hp
theorem SlR.hold {ov : Option V} {s : Sl} (m : ¬ w.M a) (h : SlR (G.at b) w ov s) : SlR ((G.hold a f v d).at b) w ov s := by
  cases s with
  | no => exact h
  | fz d' => exact h
  | raw u => exact h
  | own d' =>
    obtain ⟨c, h1, h2, h3, h4, h5⟩ := h
    have z : c ≠ a := fun z => m (z ▸ h2)
    exact ⟨c, h1, h2, h3, (hold_ne (G := G) (f := f) (v := v) (d := d) z).trans h4, h5⟩
  | bw d' =>
    obtain ⟨c, h1, h2, h3, ⟨o, h4⟩, h5⟩ := h
    have z : c ≠ a := fun z => m (z ▸ h2)
    exact ⟨c, h1, h2, h3, ⟨o, (hold_ne (G := G) (f := f) (v := v) (d := d) z).trans h4⟩, h5⟩
  | ab b' A =>
    obtain ⟨c, h1, ⟨h2, h3, h4, h5⟩, ⟨g2, g3, g4, g5⟩, h6⟩ := h
    have z : c ≠ a := fun z => m (z ▸ h2)
    have z2 : b' ≠ a := fun z => m (z ▸ g2)
    exact ⟨c, h1, ⟨h2, h3, (hold_ne (G := G) (f := f) (v := v) (d := d) z).trans h4, h5⟩, ⟨g2, g3, (hold_ne (G := G) (f := f) (v := v) (d := d) z2).trans g4, g5⟩, h6⟩
theorem ER.hold (h : ER (G.at b) w env σ) (m : ¬ w.M a) (q : w.H a = some (.xd [(f, v)])) (r : Rp w v d) : ER ((G.hold a f v d).at b) w env σ :=
  ⟨h.toEH.hold m q r, h.len, fun i s ov h1 h2 => (h.sl i s ov h1 h2).hold m, h.od⟩
/-- at the entry the ghost knew nothing else of it -/
def Fits (G : Gh) (a : Addr) (f : Str) (v : V) : Prop := ∀ o, G.Pt a = some o → o = .xd [(f, v)]
theorem EH.fits (h : EH (G.at b) w) (q : w.H a = some (.xd [(f, v)])) : Fits G a f v := fun o e => by
  rcases h.kp a o e with z | ⟨_, _, ob, z⟩
  · rw [q] at z; cases z; rfl
  · rw [q] at z; cases z
theorem EH.drop (z : Fits G a f v) (h : EH ((G.hold a f v d).at b) w) : EH (G.at b) w := by
  refine ⟨fun c o e => ?_, h.m0, h.nc, fun c e => ?_, h.cm, h.md, h.hd, fun p hp => h.gk p (List.mem_cons_of_mem _ hp), h.si, h.mt⟩
  · by_cases y : c = a
    · subst y
      rw [z o e]
      exact h.kp c _ (hold_at (G := G) (f := f) (v := v) (d := d))
    · exact h.kp c o ((hold_ne (G := G) (f := f) (v := v) (d := d) y).trans e)
  · have y : c ≠ a := fun y => by
      have q := h.cp c e
      subst y
      have q' := (hold_at (G := G) (f := f) (v := v) (d := d)).symm.trans q
      cases q'
    exact (hold_ne (G := G) (f := f) (v := v) (d := d) y).symm.trans (h.cp c e)
theorem pt_none {c : Addr} (h : (G.hold a f v d).Pt c = none) : G.Pt c = none := by
  by_cases y : c = a
  · subst y
    have q' := (hold_at (G := G) (f := f) (v := v) (d := d)).symm.trans h
    cases q'
  · exact (hold_ne (G := G) (f := f) (v := v) (d := d) y).symm.trans h
theorem ER.drop (z : Fits G a f v) (h : ER ((G.hold a f v d).at b) w env σ) : ER (G.at b) w env σ := by
  refine ⟨h.toEH.drop z, h.len, fun i s ov h1 h2 => ?_, h.od⟩
  have q := h.sl i s ov h1 h2
  cases s with
  | no => exact q
  | fz d' => exact q
  | raw u => exact q
  | own d' =>
    obtain ⟨c, g1, g2, g3, g4, g5⟩ := q
    exact ⟨c, g1, g2, g3, pt_none g4, g5⟩
  | bw d' =>
    obtain ⟨c, g1, g2, g3, ⟨o, g4⟩, g5⟩ := q
    refine ⟨c, g1, g2, g3, ⟨o, ?_⟩, g5⟩
    by_cases y : c = a
    · subst y
      have k := h.kp c _ (hold_at (G := G) (f := f) (v := v) (d := d))
      exfalso
      rcases k with k | ⟨_, dc, _⟩
      · cases g5 with
        | lst e _ => rw [k] at e; cases e
        | dK e _ _ => rw [k] at e; cases e
        | dN e _ _ => obtain ⟨_, e⟩ := e.at_; rw [k] at e; cases e
      · exact no_dct_xd dc
    · exact (hold_ne (G := G) (f := f) (v := v) (d := d) y).symm.trans g4
  | ab b' A =>
    obtain ⟨c, g1, ⟨g2, g3, g4, g5⟩, ⟨e2, e3, e4, e5⟩, g6⟩ := q
    exact ⟨c, g1, ⟨g2, g3, pt_none g4, g5⟩, ⟨e2, e3, pt_none e4, e5⟩, g6⟩
theorem VR.drop {Hs : Hp} {u : V} {dv : Dv} (h : VR (G.hold a f v d) Hs w u dv) : VR G Hs w u dv := by
  cases dv with
  | fz _ => exact h
  | nw _ => exact h
  | bw _ => exact h
  | raw _ => exact h
  | ow d' =>
    obtain ⟨c, g1, g2, g3, g4, g5⟩ := h
    exact ⟨c, g1, g2, g3, pt_none g4, g5⟩
theorem EH.re (hS : G.SI = SI0) {b' : Nat} (h : EH (G.at b) w) : EH (G.at b') w := ⟨h.kp, h.m0, h.nc, h.cp, h.cm, h.md, h.hd, h.gk, by show G.SI b' w.C w.H; rw [hS]; trivial, h.mt⟩
theorem ER.re (hS : G.SI = SI0) {b' : Nat} (h : ER (G.at b) w env σ) : ER (G.at b') w env σ := ⟨h.toEH.re hS, h.len, h.sl, h.od⟩
end
/-- the error that a suite looks at -/
def SX (cm : CM) (cls : Value) (o : Option Addr) (x : Xd) (G : Gh) : Prop := ∃ C fo, cm x.nm = some (C, fo) ∧ cls = .ref C ∧ match fo with
  | none => o = none ∧ x.d = .none
  | some f => ∃ a v, o = some a ∧ G.Pt a = some (.xd [(f, v)]) ∧ fx v x.d ∈ G.gs

/-! ### try -/
abbrev Hd := (Str → Bool) × Option Nat × (Addr → Xd → WS)
def DEnds.gone (De : DEnds) (i : Nat) : DEnds := { nx := fun e => De.nx (e.set i .no), rt := De.rt, bk := fun e => De.bk (e.set i .no), ct := fun e => De.ct (e.set i .no) }
def wSuite (ts : Addr → Xd → WS) (oi : Option Nat) (x : Xd) (env : Ev) (De : DEnds) : Prop := ∀ a, match oi with
  | none => ts a x env De
  | some i => ts a x (env.set i (.raw (.ref a))) (De.gone i)
def wHds (Ex : EX) (De : DEnds) : List Hd → EX
  | [] => Ex
  | (mt, oi, ts) :: r => fun env x => if mt x.nm = true then wSuite ts oi x env De else wHds Ex De r env x
def wTry (tb : EX → WS) (l : List Hd) (Ex : EX) : WS := fun env De => tb (wHds Ex De l) env De
def lH (cm : CM) (G : Gh) (cs : Nat) (ts : Addr → Xd → WS) : TSu := fun a cls o T σ H => ∃ (x : Xd) (G' : Gh), G'.SI = SI0 ∧ SX cm cls o x G' ∧ tS G' (ts a x) cs T σ H
/-- the clauses, as data -/
inductive HdsD (cm : CM) (X : Cx) (G : Gh) : List ExceptHandler → List (Value × Option Nat × TSu) → List Hd → Prop
  | nil : HdsD cm X G [] [] []
  | cons {x : Str} {on : Option Str} {c : Value} {oi : Option Nat} {ts : Addr → Xd → WS} {mt : Str → Bool} {cs : Nat} {b₀ : Stmt} {suite : List Stmt} {np pos' : Pos} {hds : List ExceptHandler} {l : List (Value × Option Nat × TSu)} {l' : List Hd} (hc : Names X x c) (hn : NameOk X on oi)
      (hm : ∀ y C fo, cm y = some (C, fo) → PySem.W.exmOne X.K (.ref C) c = some (mt y)) (hcs : cs ≤ cap)
      (hsu : ∀ (a : Addr) (oe : Obj) (cls : Value) (o : Option Addr) (pn : List (Addr × Obj)) (x : Xd) (G' : Gh), Zc cls o oe → (∃ vs, oe.data = .fields vs) → G'.SI = SI0 → SX cm cls o x G' → DSs (X.suite a ((a, oe) :: pn)) G' (b₀ :: suite) (ts a x) cs) (r : HdsD cm X G hds l l') :
      HdsD cm X G (.ExceptHandler (some (.Name x np)) on (b₀ :: suite) pos' :: hds) ((c, oi, lH cm G cs ts) :: l) ((mt, oi, ts) :: l')
theorem HdsD.g {cm : CM} {X : Cx} {G : Gh} {hds : List ExceptHandler} {l : List (Value × Option Nat × TSu)} {l' : List Hd} (h : HdsD cm X G hds l l') : HdsG X hds l := by
  induction h with
  | nil => exact .nil
  | cons hc hn hm hcs hsu r ih =>
    refine .cons hc hn (fun a oe cls o pn hz hf => ⟨fun pins s σ H D I q => ?_⟩) ih
    obtain ⟨x, G', hS, sx, t⟩ := q
    exact (hsu a oe cls o pn x G' hz hf hS sx).run pins s σ H D I t
theorem Lift.re {G G' : Gh} {B B' : Nat} {T : Ends} {De : DEnds} (h : Lift G B T De) (h0 : G'.H0 = G.H0) (e1 : ∀ b w env σ, ER (G'.at b) w env σ → ER (G.at 0) w env σ) (e2 : ∀ b w, EH (G'.at b) w → EH (G.at 0) w) (e3 : ∀ Hs w v dv, VR G' Hs w v dv → VR G Hs w v dv) : Lift G' B' T De :=
  ⟨fun e q b w σ hb er => h.nx e q 0 w σ (Nat.zero_le _) (e1 _ _ _ _ er), fun e dv q b w Hs σ v hb er r hh => h.rt e dv q 0 w Hs σ v (Nat.zero_le _) (e1 _ _ _ _ er) (e3 _ _ _ _ r) (by rw [← h0]; exact hh),
    fun e q b w σ hb er => h.bk e q 0 w σ (Nat.zero_le _) (e1 _ _ _ _ er), fun e q b w σ hb er => h.ct e q 0 w σ (Nat.zero_le _) (e1 _ _ _ _ er)⟩
theorem Lift.gone {G : Gh} {B : Nat} {T : Ends} {De : DEnds} (h : Lift G B T De) (i : Nat) : Lift G B (T.gone i) (De.gone i) :=
  ⟨fun e q b w σ hb er => h.nx _ q b w _ hb (er.setNo i), h.rt, fun e q b w σ hb er => h.bk _ q b w _ hb (er.setNo i), fun e q b w σ hb er => h.ct _ q b w _ hb (er.setNo i)⟩
section
variable {X : Cx} {G : Gh} {cm : CM} {body : List Stmt} {h₀ : ExceptHandler} {hds : List ExceptHandler} {l : List (Value × Option Nat × TSu)} {l' : List Hd} {pos : Pos} {tb : EX → WS} {Wout : WX} {Ex : EX} {cb : Nat}
theorem hds_ok (hS : G.SI = SI0) (hx : XOk cm G Wout Ex) {B : Nat} {T : Ends} {De : DEnds} (lf : Lift G B T De) {hds : List ExceptHandler} (hh : HdsD cm X G hds l l') : XOk cm G (wGen X.K Wout T l) (wHds Ex De l') := by
  induction hh with
  | nil => exact hx
  | @cons x on c oi ts mt cs b₀ suite np pos' hds2 l2 l2' hc hn hm hcs hsu r ih =>
    intro env x q b w σ cls o hb er xr
    obtain ⟨C, fo, e1, rfl, e3⟩ := id xr
    refine ⟨mt x.nm, hm _ _ _ e1, fun hy a na => ?_, fun hy => ?_⟩
    · have q' : wSuite ts oi x env De := by
        have q0 : (if mt x.nm = true then wSuite ts oi x env De else wHds Ex De l2' env x) := q
        rw [if_pos hy] at q0; exact q0
      have main : ∃ G' : Gh, G'.SI = SI0 ∧ SX cm (.ref C) o x G' ∧ ER (G'.at 0) w env σ ∧ Lift G' (0 + cs) T De := by
        cases fo with
        | none => exact ⟨G, hS, ⟨C, none, e1, rfl, e3⟩, er.re hS, lf.re rfl (fun _ _ _ _ h => h.re hS) (fun _ _ h => h.re hS) fun _ _ _ _ h => h⟩
        | some f =>
          obtain ⟨dd, v, g1, g2, g3, g4⟩ := e3
          have z := er.toEH.fits (f := f) (v := v) g3
          have hS' : (G.hold dd f v x.d).SI = SI0 := hS
          exact ⟨G.hold dd f v x.d, hS', ⟨C, some f, e1, rfl, dd, v, g1, hold_at, List.mem_cons_self⟩, (er.hold g2 g3 g4).re hS', lf.re rfl (fun _ _ _ _ h => (h.drop z).re hS) (fun _ _ h => (h.drop z).re hS) fun _ _ _ _ h => h.drop⟩
      obtain ⟨G', hS', sx, er', lf'⟩ := main
      have qa := q' a
      cases oi with
      | none => exact ⟨x, G', hS', sx, env, w.M, w.C, 0, De, by omega, er', qa, lf'⟩
      | some i => exact ⟨x, G', hS', sx, env.set i (.raw (.ref a)), w.M, w.C, 0, De.gone i, by omega, er'.setRaw i, qa, lf'.gone i⟩
    · have q' : wHds Ex De l2' env x := by
        have q0 : (if mt x.nm = true then wSuite ts oi x env De else wHds Ex De l2' env x) := q
        rw [if_neg (by rw [hy]; exact Bool.false_ne_true)] at q0; exact q0
      exact ih env x q' b w σ _ o hb er xr
theorem ds_try (hS : G.SI = SI0) (hs : X.stack = X.env :: X.outer) (hf : X.env.frame = some X.env.locals) (tk : Takes X Wout) (hx : XOk cm G Wout Ex)
    (hb : ∀ (W : WX) (Ex' : EX) (pn : List (Addr × Obj)) (xe : Value → Shared → Prop), Takes (X.tr pn xe) W → XOk cm G W Ex' → PassesOwn (model X.prog X.w) X.A X.env xe → DSs (X.tr pn xe) G body (tb Ex') cb)
    (hh : HdsD cm X G (h₀ :: hds) l l') : DS X G (.Try body (h₀ :: hds) [] [] pos) (wTry tb l' Ex) cb :=
  PS_imp (ps_try_gen (tb := fun W T σ H => ∃ Ex', XOk cm G W Ex' ∧ tS G (tb Ex') cb T σ H) hs hf tk (fun W pn xe tkW ps => ⟨fun pins s σ H D I q => by
    obtain ⟨Ex', hx', t⟩ := q
    exact (hb W Ex' pn xe tkW hx' ps).run pins s σ H D I t⟩) hh.g) fun σ H T h => by
  obtain ⟨env, M, C0, b0, De, hb0, er, hw, lf⟩ := h
  exact ⟨wHds Ex De l', hds_ok hS hx lf hh, env, M, C0, b0, De, hb0, er, hw, lf⟩
end
/-- e.fld in a suite -/
def wFldX (nm : Str) (i : Nat) (a : Addr) (x : Xd) : WE := fun env P => x.nm = nm ∧ env[i]? = some (.raw (.ref a)) ∧ P (.fz x.d)
section
variable {X : Cx} {G' : Gh} {cm : CM} {C fI : Addr} {nm qual fld n : Str} {st : Stmt} {a : Addr} {oe : Obj} {cls : Value} {o : Option Addr} {pn : List (Addr × Obj)} {x : Xd} {p pos : Pos}
theorem de_fldX (i : Nat) (T : PySem.EXN.Txt X.prog X.K X.mg nm qual st C fI) (noN : PySem.W.findIn X.K (.ref C) fld = some none) (hcm : cm nm = some (C, some fld)) (hz : Zc cls o oe) (hf : ∃ vs, oe.data = .fields vs) (sx : SX cm cls o x G')
    (he : DE (X.suite a ((a, oe) :: pn)) G' (.Name n p) (wName i) 0) (hb : attributeBase (.Name n p) fld X.env (eval (.Name n p) X.env) = eval (.Name n p) X.env := by rfl) :
    DE (X.suite a ((a, oe) :: pn)) G' (.Attribute (.Name n p) fld pos) (wFldX nm i a x) 0 := PE_imp (pe_fldX T noN hz hf he hb) fun σ H Q h => by
  obtain ⟨env, M, C0, b0, P, hb0, er, ⟨hn, hi, hp⟩, hf'⟩ := h
  refine ⟨env, M, C0, b0, fun dv => dv = .raw (.ref a), hb0, er, ⟨.raw (.ref a), by rw [hi]; rfl, rfl⟩, fun dv hd b1 w1 v hb1 er1 e1 r1 => ?_⟩
  subst hd
  obtain ⟨C', fo, c1, c2, c3⟩ := sx
  rw [hn, hcm] at c1
  cases c1
  obtain ⟨dd, u, g1, g2, g3⟩ := c3
  refine ⟨r1, c2, dd, u, g1, ?_, hf' _ hp b1 w1 u hb1 er1 e1 (er1.gk _ g3)⟩
  rcases er1.kp dd _ g2 with k | ⟨_, dc, _⟩
  · exact k
  · exact (no_dct_xd dc).elim
end
theorem exm_of {K : PySem.W.Frag} {S S' : Addr} {b : Bool} (h1 : PySem.W.subIn K (.ref S') (.type "BaseException") = some true) (h2 : PySem.W.isClsIn K S' = true) (h3 : PySem.W.typeIn K (.ref S') = some (.type "type")) (h4 : PySem.W.subIn K (.ref S) (.ref S') = some b) :
    PySem.W.exmOne K (.ref S) (.ref S') = some b := by
  have e1 : (PySem.W.subIn K (.ref S') (.type "BaseException") == some true) = true := by rw [h1] <;> rfl
  have e2 : ((PySem.W.clsIn K S').isSome && PySem.W.typeIn K (.ref S') == some (.type "type")) = true := by
    have h2' : (PySem.W.clsIn K S').isSome = true := h2
    rw [h2', h3] <;> rfl
  show (if (PySem.W.subIn K (.ref S') (.type "BaseException") == some true) = true then (if ((PySem.W.clsIn K S').isSome && PySem.W.typeIn K (.ref S') == some (.type "type")) = true then PySem.W.subIn K (.ref S) (.ref S') else none) else none) = some b
  rw [if_pos e1, if_pos e2]
  exact h4
/-! ### no error, and which clause -/
def exNo : EX := fun _ _ => False
theorem takes_no {X : Cx} : Takes X (fun _ _ _ _ => False) := fun _ _ ⟨_, _, _, _, _, _, _, _, _, _, _, _, _, _, _, _, w⟩ => w.elim
theorem xok_no {cm : CM} {G : Gh} : XOk cm G (fun _ _ _ _ => False) exNo := fun _ _ h => h.elim
def mt (nm : Str) : Str → Bool := fun y => decide (y = nm)
end DL
namespace DL
open PySem PySem.Spec PyProof.Rows L2
/-! ### a, b, c = .., .., [..] by a tuple, where the last one becomes a local's own -/
def wAsg3O (i j l : Nat) (wa wb wc : WE) : WS := fun env De => wa env fun x => wb env fun y => wc env fun z => ∃ dx dy d, x.kept = some dx ∧ y.kept = some dy ∧ z = .nw d ∧ De.nx (((env.set i (.fz dx)).set j (.fz dy)).set l (.own d))
section
variable {X : Cx} {G : Gh} {a b c : Expr} {wa wb wc : WE} {ca cb cc : Nat} {pos : Pos}
theorem ds_asg3O (i j l : Nat) {x y z : Str} {px py pz pt : Pos} {kt k2 pt2} (hc : X.calm = true) (hN : X.N.Nodup) (ha : DE X G a wa ca) (hb : DE X G b wb cb) (hcc : DE X G c wc cc) (hi : X.N[i]? = some x := by rfl) (hj : X.N[j]? = some y := by rfl) (hl : X.N[l]? = some z := by rfl)
    (hx : Loc X.env.scope x := by first | exact Or.inl rfl | exact Or.inr rfl) (hy : Loc X.env.scope y := by first | exact Or.inl rfl | exact Or.inr rfl) (hz : Loc X.env.scope z := by first | exact Or.inl rfl | exact Or.inr rfl)
    (fx : X.fn x = true ∨ X.env.scope.names.lookup x = some .local := by first | exact .inl rfl | exact .inr rfl | assumption) (fy : X.fn y = true ∨ X.env.scope.names.lookup y = some .local := by first | exact .inl rfl | exact .inr rfl | assumption) (fz : X.fn z = true ∨ X.env.scope.names.lookup z = some .local := by first | exact .inl rfl | exact .inr rfl | assumption)
    (ne : starEach [a, b, c] X.env = (false, eval a X.env) :: starEach [b, c] X.env := by rfl) (ne2 : starEach [b, c] X.env = (false, eval b X.env) :: starEach [c] X.env := by rfl) (ne3 : starEach [c] X.env = (false, eval c X.env) :: starEach [] X.env := by rfl)
    (hn : (assignEach [.Name x px, .Name y py, .Name z pz] X.env).length = 3 := by rfl) (hst : (assignEach [.Name x px, .Name y py, .Name z pz] X.env).findIdx? (·.1) = none := by rfl)
    (q1 : (assignEach [.Name x px, .Name y py, .Name z pz] X.env).map (·.2) = assign (.Name x px) X.env :: (assignEach [.Name y py, .Name z pz] X.env).map (·.2) := by rfl) (q2 : (assignEach [.Name y py, .Name z pz] X.env).map (·.2) = assign (.Name y py) X.env :: (assignEach [.Name z pz] X.env).map (·.2) := by rfl) (q3 : (assignEach [.Name z pz] X.env).map (·.2) = assign (.Name z pz) X.env :: (assignEach [] X.env).map (·.2) := by rfl)
    (hs : swapsWithSole [.Tuple [.Name x px, .Name y py, .Name z pz] kt pt] (.Tuple [a, b, c] k2 pt2) pos.line X.env = pure false := by rfl) (hw : swappedStores [.Tuple [.Name x px, .Name y py, .Name z pz] kt pt] (.Tuple [a, b, c] k2 pt2) X.env = pure none := by rfl)
    (h1 : (assignEach [.Tuple [.Name x px, .Name y py, .Name z pz] kt pt] X.env).map (·.2) = [assign (.Tuple [.Name x px, .Name y py, .Name z pz] kt pt) X.env] := by rfl) :
    DS X G (.Assign [.Tuple [.Name x px, .Name y py, .Name z pz] kt pt] (.Tuple [a, b, c] k2 pt2) pos) (wAsg3O i j l wa wb wc) (ca + (cb + cc)) :=
  PS_imp (ps_asg (pe_tup (pa_cons ha (pa_cons hb (pa_cons hcc pa_nil ne3) ne2) ne)) (pg_tup hc (pgs_cons (pg_name hN hi hx fx) (pgs_cons (pg_name hN hj hy fy) (pgs_cons (pg_name hN hl hz fz) pgs_nil q3) q2) q1) hn hst) hs hw h1) fun σ H T h => by
    obtain ⟨env, M, C, b0, De, hb0, er, hw, lf⟩ := h
    suffices q : tV G wa ca σ H fun v1 H1 => tV G wb cb σ H1 fun v2 H2 => tV G wc cc σ H2 fun v3 H3 => [v1, v2, v3].length ≤ sizeLine ∧ ∀ q, H3 q = none → gTup X.K 3 (gCons (gName i) (gCons (gName j) (gCons (gName l) gNil))) (.ref q) σ (upd H3 q (.tup [v1, v2, v3])) T.nx from q
    refine ⟨env, M, C, b0, _, by omega, er, hw, fun dv1 h1 b1 w1 v1 hb1 er1 e1 r1 => ?_⟩
    refine ⟨env, w1.M, w1.C, b1, _, by omega, er1, h1, fun dv2 h2 b2 w2 v2 hb2 er2 e2 r2 => ?_⟩
    refine ⟨env, w2.M, w2.C, b2, _, by omega, er2, h2, fun dv3 h3 b3 w3 v3 hb3 er3 e3 r3 => ?_⟩
    obtain ⟨dx, dy, d, k1, k2, rfl, hn⟩ := h3
    refine ⟨by show 3 ≤ sizeLine; rw [sizeLine_eq]; omega, fun q nq => ?_⟩
    have sm : Same w3.H (upd w3.H q (.tup [v1, v2, v3])) := same_new nq
    have ex := Ext.same sm
    refine ⟨q, [v1, v2, v3], rfl, .inl (.inl upd_same), rfl, v1, _, rfl, v2, _, rfl, v3, _, rfl, rfl, ?_⟩
    obtain ⟨ad, rfl, n0, _, nc, o⟩ := VR.ext r3 ex er3.cm (fun _ h => h)
    have p1 := (r1.rp k1).st (e2.st er1.cm)
    have p2 := r2.rp k2
    have s23 := (e3.trans ex).st er2.cm
    have er2' := (er2.setFz p1 i).setFz p2 j
    have er3' := (((er3.same sm).setFz (p1.st s23) i).setFz (p2.st s23) j)
    exact lf.nx _ hn b3 _ _ (by omega) (ER.setNw er2' er3' (e3.trans ex) n0 nc o l)
end
end DL
namespace DL
open PySem PySem.Spec PyProof.Rows L2
/-- a def that may raise, where it does not -/
theorem FnG.noX {cm : CM} {P : Program} {w : World} {K : PySem.W.Frag} {mg : Str → Option Value} {base : Heap} {k : Nat} {f : Addr} {fd : FuncData} {ps : List Str} {spec : SpecX} {sp : Spec} (F : FnG P w K mg base (L2.CX P w) k f fd ps (spX cm spec)) (h : ∀ as Q, sp as Q → spec as Q (fun _ => False)) : FnG P w K mg base CX0 k f fd ps (spF SI0 0 sp) := by
  have tr : ∀ vs H Q E, spF SI0 0 sp vs H Q E → spX cm spec vs H Q (fun _ _ _ => False) := fun vs H Q E q => by
    obtain ⟨as, M, C, b, Pd, hb, wf, si, r, q, hq⟩ := q
    have up : St1 ⟨H, M, C⟩ ⟨H, M, noC⟩ := ⟨fun a o _ h => .inl h, fun a m => .inl m⟩
    have ars : ∀ {vs : List V} {as : List Ag}, ARs ⟨H, M, C⟩ vs as → ARs ⟨H, M, noC⟩ vs as := by
      intro vs as r
      induction r with
      | nil => exact .nil
      | @cons v vs a as h r ih =>
        refine .cons ?_ ih
        cases a with
        | fz d => exact Rp.st up h
        | raw u => exact h
        | bw d => obtain ⟨b, e, m, n, o⟩ := h; exact ⟨b, e, m, fun z => z, o.st up rfl⟩
    refine ⟨as, M, Pd, _, ⟨fun a c => c.elim, wf.md, wf.mt⟩, ars r, h as _ q, fun d pd w' v e wf' rv => ?_, fun x px => px.elim⟩
    have ex : Ext ⟨H, M, C⟩ ⟨w'.H, M, C⟩ := ⟨fun a o n h => e.keep a o (fun z => z) h, e.dom, fun a c => .inl c, fun a m => .inl m, fun a m => m⟩
    have dn : St1 w' ⟨w'.H, M, C⟩ := ⟨fun a o _ h => .inl h, fun a m => .inl (e.oldM a m)⟩
    exact hq d pd b ⟨w'.H, M, C⟩ v (Nat.le_refl _) ex trivial ⟨wf.cm, fun a m => e.dom a (wf.md a m), fun a xs m => e.ntup (fun z => z) m (wf.md a m) (wf.mt a xs m)⟩ (Rp.st dn rv)
  refine ⟨fun vs H Q E q => F.len vs H Q _ (tr vs H Q E q), fun A outer s H args us vs Q E g r e b v q => codeAny_mono (F.run A outer s H args us vs Q _ g r e b v (tr vs H Q E q)) fun res s' hq => ?_⟩
  cases res with
  | error u =>
    obtain ⟨_, _, _, _, _, _, _, _, _, _, _, _, z⟩ := hq
    exact z.elim
  | ok fl => cases fl <;> exact hq
end DL
/-! Errors held as values: except clauses with several classes; an error kept in another name behind its clause; isinstance and fields of such an error. -/
namespace L2
open PySem PySem.Spec PyProof.Rows
theorem erO_ok {P : Program} {w : World} {H : Hp} {h : Heap} {a : Addr} {cls : Value} {d : Option Addr} {oe : Obj} {vs : Array Value} (e : h.get? a = some oe) (z : Zc cls d oe) (dd : oe.data = .fields vs) : ObjOk P w H h a (ErO cls d a) :=
  ⟨⟨oe, vs, e, z, dd⟩, ⟨oe, e⟩, fun _ _ ⟨o, v, q, r⟩ k => ⟨o, v, k o q, r⟩⟩
section
variable {X : Cx} {pins : List (Addr × Obj)} {σ : St} {H : Hp} {s : Shared}
/-- an object that came after the entry is tracked -/
theorem Inv.track {a : Addr} {o : HO} (I : Inv X pins σ H s) (n0 : X.s_0.heap.get? a = none) (hn : H a = none) (nl : a ≠ X.env.locals) (nc : ∀ x c, X.env.cells.lookup x = some c → c ≠ a) (np : ∀ p ∈ X.pn ++ pins, p.1 ≠ a) (ok : ObjOk X.prog X.w (upd H a o) s.heap a o) : Inv X pins σ (upd H a o) s := by
  have ne0 : ∀ b u, X.s_0.heap.get? b = some u → b ≠ a := fun b u e z => by rw [z, n0] at e; cases e
  refine ⟨I.ok, I.os, I.bare, ⟨I.base.keep, I.base.slot, fun b u q n x => ?_, I.base.there, fun b xs q => ?_, fun b u xs q => ?_, fun b ps q => ?_⟩, I.loc, I.cell, ?_, fun x c e => ?_, fun p hp => ?_, ?_, I.len⟩
  · rw [upd_ne (ne0 b u q)]; exact I.base.free b u q n x
  · have z := I.base.tups b xs q
    rw [upd_ne (ne_of_none z hn)]; exact z
  · have z := I.base.frzs b u xs q
    rw [upd_ne (ne_of_none z hn)]; exact z
  · obtain ⟨m, z⟩ := I.base.tbls b ps q
    exact ⟨m, by rw [upd_ne (ne_of_none z hn)]; exact z⟩
  · rw [upd_ne (Ne.symm nl)]; exact I.free
  · rw [upd_ne (nc x c e)]; exact I.freeC x c e
  · obtain ⟨e, n, r⟩ := I.pin p hp
    exact ⟨e, by rw [upd_ne (np p hp)]; exact n, r⟩
  · exact HOk.laidN I.hok (fun _ _ z => z) hn ok
end
/-! ### several classes in a clause -/
section
variable {M : Model} {A : Around} {E : Value → Shared → Prop} {s : Shared}
theorem loop_all {f : Value → PUnit → Sem (ForInStep PUnit)} : ∀ {cs : List Value} {Q : PUnit → Shared → Prop}, (∀ c ∈ cs, ∀ Q' : ForInStep PUnit → Shared → Prop, Q' (.yield ⟨⟩) s → wpAny M A (f c ⟨⟩) Q' E s) → Q ⟨⟩ s → wpAny M A (forIn cs ⟨⟩ f) Q E s
  | [], Q, _, q => by rw [List.forIn_nil]; exact wpAny_pure q
  | c :: r, Q, h, q => by
    rw [List.forIn_cons]
    exact wpAny_bind (h c (List.mem_cons_self ..) _ (loop_all (fun d hd => h d (List.mem_cons_of_mem _ hd)) q))
theorem loop_any {f : Value → Option Bool × Unit → Sem (ForInStep (Option Bool × Unit))} {K : PySem.W.Frag} {cls : Value} : ∀ {cs : List Value} {b : Bool} {Q : Option Bool × Unit → Shared → Prop}, (∀ c ∈ cs, ∀ v, PySem.W.exmOne K cls c = some v → ∀ Q' : ForInStep (Option Bool × Unit) → Shared → Prop, Q' (if v = true then .done (some true, ()) else .yield (none, ())) s → wpAny M A (f c (none, ())) Q' E s) →
    PySem.W.exmAny K cls cs = some b → Q (if b = true then (some true, ()) else (none, ())) s → wpAny M A (forIn cs (none, ()) f) Q E s
  | [], b, Q, _, e, q => by
    cases e
    rw [List.forIn_nil]; exact wpAny_pure q
  | c :: r, b, Q, h, e, q => by
    obtain ⟨b1, d1, e1, e2, rfl⟩ := PySem.W.exmAny_cons e
    rw [List.forIn_cons]
    refine wpAny_bind (h c (List.mem_cons_self ..) b1 e1 _ ?_)
    cases b1 with
    | true => exact wpAny_pure q
    | false => exact loop_any (fun d hd => h d (List.mem_cons_of_mem _ hd)) e2 q
end
theorem exmAny_mem {K : PySem.W.Frag} {cls : Value} : ∀ {cs : List Value} {b : Bool}, PySem.W.exmAny K cls cs = some b → ∀ c ∈ cs, ∃ v, PySem.W.exmOne K cls c = some v
  | [], _, _, c, h => nomatch h
  | c :: r, b, e, d, h => by
    obtain ⟨b1, d1, e1, e2, _⟩ := PySem.W.exmAny_cons e
    rcases List.mem_cons.mp h with rfl | h
    · exact ⟨b1, e1⟩
    · exact exmAny_mem e2 d h
open PySem.W in
theorem exm_tupN {M : Model} {K : Frag} {cs : List Value} {cls : Value} {tp e : Addr} {b : Bool} {h : Heap} (X : K.In h) (LT : Looks M h (typeOf (.ref e)) cls) (hp : h.get? tp = some { cls := .type "tuple", data := .seq cs.toArray }) (hx : exmAny K cls cs = some b) :
    Looks M h (excMatches (.ref e) (.ref tp)) b := by
  intro A Q E s k₀ q
  obtain ⟨hh, g, d, tk, os⟩ := s
  have k : ∀ b o, h.get? b = some o → hh.get? b = some o := k₀
  have LT0 : Looks M h (isInstance (.ref tp) (.type "tuple")) true := ((Looks.ld hp).andThen .now).andThen (Looks.of_pure isSubtype_tuple_tuple)
  have LT := LT.keeps k
  have LT0 := LT0.keeps k
  have hp' := k _ _ hp
  unfold excMatches
  refine wpAny_bind (LT0.at ?_)
  dsimp only
  rw [if_pos rfl]
  first
    | refine wpAny_bind (wpAny_seqItems hp' rfl ?_)
    | refine wpAny_bind (wpAny_bind (wpAny_seqItems hp' rfl (wpAny_pure ?_)))
  dsimp only [Option.getD_some, Option.getD]
  refine wpAny_bind (wpAny_pure ?_)
  refine wpAny_bind (loop_all (fun c hc Q' q' => ?_) ?_)
  · obtain ⟨v, hv⟩ := exmAny_mem hx c hc
    obtain ⟨e1, _⟩ := exm_cls (M := M) X hv
    have e1 := e1.keeps k
    refine wpAny_bind (e1.at ?_)
    simp only [Bool.not_true, Bool.false_eq_true, if_false]
    exact wpAny_pure q'
  · refine wpAny_bind (LT.at ?_)
    refine wpAny_bind (loop_any (K := K) (cls := cls) (fun c hc v hv Q' q' => ?_) hx ?_)
    · obtain ⟨_, S1⟩ := exm_cls (M := M) X hv
      have S1 := S1.keeps k
      refine wpAny_bind (S1.at ?_)
      cases v <;> exact wpAny_pure q'
    · cases b <;> exact wpAny_pure q
/-- the classes that a clause names -/
inductive NamesL (X : Cx) : List Expr → List Value → Prop
  | nil : NamesL X [] []
  | cons {x : Str} {np : Pos} {c : Value} {es : List Expr} {cs : List Value} (h : Names X x c) (r : NamesL X es cs) : NamesL X (.Name x np :: es) (c :: cs)
inductive TestOk (X : Cx) : Expr → List Value → Prop
  | name {x : Str} {np : Pos} {c : Value} (h : Names X x c) : TestOk X (.Name x np) [c]
  | tup {es : List Expr} {k : Nat} {pos : Pos} {cs : List Value} (h : NamesL X es cs) (hl : cs.length ≤ sizeLine) : TestOk X (.Tuple es k pos) cs
theorem exmAny_one {K : PySem.W.Frag} {cls c : Value} {b : Bool} (h : PySem.W.exmAny K cls [c] = some b) : PySem.W.exmOne K cls c = some b := by
  obtain ⟨b1, d1, e1, e2, rfl⟩ := PySem.W.exmAny_cons h
  have : some false = some d1 := e2
  cases this
  rw [Bool.or_false]; exact e1
theorem exmAny_of {K : PySem.W.Frag} {cls c : Value} {r : List Value} {b d : Bool} (h : PySem.W.exmOne K cls c = some b) (q : PySem.W.exmAny K cls r = some d) : PySem.W.exmAny K cls (c :: r) = some (b || d) := by
  show (match PySem.W.exmOne K cls c, PySem.W.exmAny K cls r with | some b, some d => some (b || d) | _, _ => none) = _
  rw [h, q]
section
variable {X : Cx} {pins : List (Addr × Obj)} {σ : St} {H : Hp} {s : Shared}
theorem run_name {x : Str} {np : Pos} {c : Value} {Q E : Value → Shared → Prop} (hc : Names X x c) (I : Inv X pins σ H s) (q : Q c s) : wpAny (model X.prog X.w) X.A (eval (.Name x np) X.env) Q E s := by
  obtain ⟨hg, hdbg, hm | ⟨hm, hv, hnn⟩⟩ := hc
  · exact ld_glob I hg hm q hdbg
  · exact ld_blt I hg hm hv q hnn hdbg
theorem run_names {pos : Pos} {E : Value → Shared → Prop} (I : Inv X pins σ H s) : ∀ {es : List Expr} {cs : List Value} {Q : List Value → Shared → Prop}, NamesL X es cs → Q cs s → wpAny (model X.prog X.w) X.A (spliced (backTo pos (starEach es X.env))) Q E s
  | _, _, _, .nil, q => wpAny_items_nil q
  | _, _, _, .cons h r, q => wpAny_items_cons (run_name h I (run_names I r q)) (by rfl)
theorem run_test {t : Expr} {cs : List Value} {cls : Value} {e : Addr} {b : Bool} {Q : Bool → Shared → Prop} {E : Value → Shared → Prop} (T : TestOk X t cs) (I : Inv X pins σ H s) (LT : PySem.W.Looks (model X.prog X.w) s.heap (typeOf (.ref e)) cls) (hb : PySem.W.exmAny X.K cls cs = some b)
    (q : ∀ h', (∀ b o, s.heap.get? b = some o → h'.get? b = some o) → Q b { s with heap := h' }) : wpAny (model X.prog X.w) X.A (eval t X.env) (fun c s₁ => wpAny (model X.prog X.w) X.A (excMatches (.ref e) c) Q E s₁) E s := by
  cases T with
  | name h => exact run_name h I ((PySem.W.exm_one (M := model X.prog X.w) I.kIn LT (exmAny_one hb)).here (q s.heap fun _ _ z => z))
  | tup h hl =>
    refine wpAny_Tuple (run_names I h ⟨hl, ?_⟩)
    have kp : ∀ q o, s.heap.get? q = some o → (s.heap.push { cls := .type "tuple", data := .seq cs.toArray }).get? q = some o := fun _ _ z => Heap.get?_push_of_some _ z
    exact (exm_tupN (I.kIn.keeps kp) (LT.keeps kp) (Heap.get?_push_size s.heap rfl) hb).here (q _ kp)
end
theorem flyingZ_keeps {B : Heap} {l : List Env} {a : Addr} {Z : Obj → Prop} {h h' : Heap} (R : HandSPX.FlyingZ B l a Z h) (k : ∀ b o, h.get? b = some o → h'.get? b = some o) : HandSPX.FlyingZ B l a Z h' := by
  obtain ⟨f1, f2, f3, oe, vs, T, oT, ts, he, hz, hd, h1, hnT, hTe, hT, hdT, h3⟩ := R
  exact ⟨fun b o q => k b o (f1 b o q), f2, f3.of_keeps fun b o q _ => ⟨o, k b o q, rfl⟩, oe, vs, T, oT, ts, k _ _ he, hz, hd, h1, hnT, hTe, k _ _ hT, hdT, h3⟩
end L2
/-! try whose clauses name one class or several, with a name or without; an error may be kept behind its clause. -/
namespace L2
open PySem PySem.Spec PyProof.Rows
/-- the ends of a suite whose name, slot i, goes behind it; the error at a stands in the heap then -/
def Ends.goneV (D : Ends) (i : Nat) (a : Addr) (o : HO) : Ends := { nx := fun σ H => H a = none → D.nx (σ.set i none) (upd H a o), rt := D.rt, bk := fun σ H => H a = none → D.bk (σ.set i none) (upd H a o), ct := fun σ H => H a = none → D.ct (σ.set i none) (upd H a o) }
def enterV (ts : TSu) (D : Ends) (cls : Value) (d : Option Addr) (σ : St) (H : Hp) (a : Addr) : Option (Nat × Bool) → Prop
  | none => ts a cls d D σ H
  | some (i, false) => ts a cls d (D.gone i) (σ.set i (some (.ref a))) H
  | some (i, true) => ts a cls d (D.goneV i a (ErO cls d a)) (σ.set i (some (.ref a))) H
abbrev HdV := List Value × Option (Nat × Bool) × TSu
def wGenV (K : PySem.W.Frag) (Wout : WX) (D : Ends) : List HdV → WX
  | [] => Wout
  | (cs, oi, ts) :: r => fun cls d σ H => ∃ b, PySem.W.exmAny K cls cs = some b ∧ (b = true → ∀ a, H a = none → enterV ts D cls d σ H a oi) ∧ (b = false → wGenV K Wout D r cls d σ H)
def NameOkV (X : Cx) : Option Str → Option (Nat × Bool) → Prop
  | none, none => True
  | some n, some (i, _) => X.N.Nodup ∧ X.N[i]? = some n ∧ X.env.kindOf n = some .local
  | _, _ => False
inductive HdsV (X : Cx) : List ExceptHandler → List HdV → Prop
  | nil : HdsV X [] []
  | cons {t : Expr} {on : Option Str} {cs : List Value} {oi : Option (Nat × Bool)} {ts : TSu} {b₀ : Stmt} {suite : List Stmt} {pos' : Pos} {hds : List ExceptHandler} {l : List HdV} (hc : ∀ (a : Addr) (oe : Obj) (pn : List (Addr × Obj)), TestOk (X.suite a ((a, oe) :: pn)) t cs) (hn : NameOkV X on oi)
      (hsu : ∀ (a : Addr) (oe : Obj) (cls : Value) (d : Option Addr) (pn : List (Addr × Obj)), Zc cls d oe → (∃ vs, oe.data = .fields vs) → X.base.get? a = none → PSs (X.suite a ((a, oe) :: pn)) (b₀ :: suite) (ts a cls d)) (r : HdsV X hds l) :
      HdsV X (.ExceptHandler (some t) on (b₀ :: suite) pos' :: hds) ((cs, oi, ts) :: l)
section
variable {X : Cx} {body : List Stmt} {h₀ : ExceptHandler} {hds : List ExceptHandler} {l : List HdV} {pos : Pos} {tb : WX → TS} {Wout : WX}
theorem ps_try_V (hex : X.ex = []) (hs : X.stack = X.env :: X.outer) (hf : X.env.frame = some X.env.locals) (tk : Takes X Wout)
    (hb : ∀ (W : WX) (pn : List (Addr × Obj)) (xe : Value → Shared → Prop), Takes (X.tr pn xe) W → PassesOwn (model X.prog X.w) X.A X.env xe → PSs (X.tr pn xe) body (tb W))
    (hh : HdsV X (h₀ :: hds) l) : PS X (.Try body (h₀ :: hds) [] [] pos) (fun D σ H => tb (wGenV X.K Wout D l) D σ H) := by
  refine ⟨fun pins s σ H D I h => ?_⟩
  have ok := I.ok
  have hfr : X.A.frames = some (X.env :: X.outer) := by rw [ok.frames, hs]
  refine wpAny_Try_except (wpAny_mono ((hb (wGenV X.K Wout D l) (X.pn ++ pins) (fun e s₁ => wpAny (model X.prog X.w) X.A (noteFrame e X.env) (fun _ s₂ => wpAny (model X.prog X.w) X.A (setFlight e none) (fun _ s₃ =>
    wpAny (model X.prog X.w) X.A (handleBy e X.env (h₀ :: hds)) (SP X pins D) X.xe s₃) X.xe s₂) X.xe s₁) (fun u s' xx => ?_) PassesOwn.looking).run [] s σ H D (I.toTry _) h) (fun f s1 hsp => ?_) (fun e s1 he => he))
  case refine_2 =>
    cases f with
    | next => exact let ⟨σ', H', J', q⟩ := hsp; wpAny_execs_nil ⟨σ', H', J'.ofTry ok, q⟩
    | brk => exact let ⟨σ', H', J', q⟩ := hsp; ⟨σ', H', J'.ofTry ok, q⟩
    | cont => exact let ⟨σ', H', J', q⟩ := hsp; ⟨σ', H', J'.ofTry ok, q⟩
    | ret u => exact let ⟨v, σ', H', J', r, q⟩ := hsp; ⟨v, σ', H', J'.ofTry ok, r, q⟩
  obtain ⟨a, B, sI, pins', σ', H', cls, d, rfl, J', nb, up, sky, na, os, ag, w⟩ := xx
  have J : Inv X pins σ' H' sI := J'.ofTry ok
  rw [show (X.tr _ _).stack = X.env :: X.outer from hs] at sky
  have nb' : ∀ b o, sI.heap.get? b = some o → b ∉ frs (X.env :: X.outer) → B.get? b = some o := by
    intro b o q n
    exact nb b o q (by rw [show (X.tr _ _).stack = X.env :: X.outer from hs]; exact n)
  refine Sky.land (env := X.env) Zc.steady hfr hf sky fun h3 fl3 up3 => ?_
  suffices go : ∀ {hds' : List ExceptHandler} {l' : List HdV}, HdsV X hds' l' → wGenV X.K Wout D l' cls d σ' H' → ∀ h3, HandSPX.FlyingZ B (X.env :: X.outer) a (Zc cls d) h3 → sI.heap.UpToSlots h3 →
      wpAny (model X.prog X.w) X.A (handleBy (.ref a) X.env hds') (SP X pins D) X.xe { s' with heap := h3 } from go hh w h3 fl3 (up.trans up3)
  intro hds' l' hk
  induction hk with
  | nil =>
    intro w h3 fl3 up3
    refine wpAny_handleBy_nil ?_
    obtain ⟨k1, k2, k3, oe, vs, T, oT, ts', he, hz, hd, h1, hr⟩ := id fl3
    unfold PySem.passOn
    refine wpAny_bind (wpAny_field he hd h1 ?_)
    rw [if_neg (show ¬ ((Value.ref T == Value.none) = true) from by simp)]
    have fin : wpAny (model X.prog X.w) X.A (setFlight (.ref a) X.env.frame) (fun _ s4 => wpAny (model X.prog X.w) X.A (throw (.ref a) : Sem Flow) (SP X pins D) X.xe s4) X.xe { s' with heap := h3 } := by
      rw [hf]
      refine HandSPX.setFlight_upZ fl3 fun h4 hh4 up4 => wpAny_throw (tk _ _ ?_)
      exact ⟨a, B, sI, pins, σ', H', cls, d, rfl, J, nb, up3.trans up4, .inr (.inr (by rw [hs]; exact hh4)), na, os, ag, w⟩
    first
      | exact wpAny_bind (wpAny_pure (wpAny_bind fin))
      | exact wpAny_bind fin
  | @cons t on cs oi ts b₀ suite pos' hds2 l2 hc hn hsu r ih =>
    rintro ⟨b, hb1, hyes, hno⟩ h3 fl3 up3
    have J3 : Inv X pins σ' H' { s' with heap := h3 } := J.landed nb fl3.1 up3 os ag
    obtain ⟨oe3, vs3, he3, hz3, hd3⟩ := fl3.there
    have nfr : a ∉ frs (X.env :: X.outer) := fun hm => by
      obtain ⟨_, o', e', hnf⟩ := fl3.2.2.1.mem hm
      rw [he3] at e'; cases e'
      exact hnf _ hd3
    have nL : a ≠ X.env.locals := fun z => nfr (List.mem_filterMap.mpr ⟨X.env, List.mem_cons_self, by rw [hf, z]⟩)
    have nF : a ∉ X.fs := fun hm => by
      obtain ⟨e, he, q⟩ := List.mem_filterMap.mp hm
      exact nfr (List.mem_filterMap.mpr ⟨e, List.mem_cons_of_mem _ he, q⟩)
    have S3 := J3.suite he3 hd3 na nL nF
    have aI : sI.heap.get? a = none := by
      cases e : sI.heap.get? a with
      | none => rfl
      | some o =>
        have := nb' a o e nfr
        rw [fl3.2.1] at this; cases this
    have n0 : X.s_0.heap.get? a = none := by
      cases e : X.s_0.heap.get? a with
      | none => rfl
      | some o =>
        obtain ⟨o', q⟩ := J.base.there a o e (by rw [hex]; exact fun z => nomatch z)
        rw [aI] at q; cases q
    have nb0 : X.base.get? a = none := by
      cases e : X.base.get? a with
      | none => rfl
      | some o =>
        have := (ok.bs a o e).1
        rw [n0] at this; cases this
    have npins : ∀ p ∈ X.pn ++ pins, p.1 ≠ a := fun p hp z => by
      obtain ⟨e, _⟩ := J.pin p hp
      rw [z, aI] at e; cases e
    refine wpAny_handleBy_cons (codeAny_handlers_test ?_) (by intro q; cases q)
    have LT : PySem.W.Looks (model X.prog X.w) h3 (typeOf (.ref a)) cls := fun A Q E s k q => wpAny_typeOf_ref (k _ _ he3) (by rw [hz3.1]; exact q)
    refine run_test (X := X.suite a ((a, oe3) :: (X.pn ++ pins))) (hc a oe3 _) S3 LT hb1 fun h4 k4 => ?_
    have fl4 := flyingZ_keeps fl3 k4
    have up4 : sI.heap.UpToSlots h4 := up3.trans (Heap.UpToSlots.of_keeps k4)
    cases b with
    | false => exact ih (hno rfl) h4 fl4 up4
    | true =>
      have met : ∀ h5, HandSPX.FlyingZ B (X.env :: X.outer) a (Zc cls d) h5 → h4.UpToSlots h5 → ∃ oe4 vs4, Zc cls d oe4 ∧ oe4.data = .fields vs4 ∧ Inv (X.suite a ((a, oe4) :: (X.pn ++ pins))) [] σ' H' { s' with heap := h5 } := fun h5 fl5 up5 => by
        obtain ⟨oe4, vs4, he4, hz4, hd4⟩ := fl5.there
        exact ⟨oe4, vs4, hz4, hd4, (J.landed nb fl5.1 (up4.trans up5) os ag : Inv X pins σ' H' { s' with heap := h5 }).suite he4 hd4 na nL nF⟩
      have q := hyes rfl a na
      cases on with
      | none =>
        cases oi with
        | some i => exact hn.elim
        | none =>
          refine codeAny_handlers_suite (HandSPX.lands_againZ fl4 fun h5 fl5 up5 => ?_)
          obtain ⟨oe4, vs4, hz4, hd4, S4⟩ := met h5 fl5 up5
          refine wpAny_mono ((hsu a oe4 cls d (X.pn ++ pins) hz4 ⟨_, hd4⟩ nb0).run [] _ _ H' _ S4 q) (fun f s6 hsp => ?_) (fun _ _ z => False.elim z)
          cases f with
          | next => exact let ⟨σ6, H6, S6, q6⟩ := hsp; ⟨_, _, S6.unsuite ok, q6⟩
          | brk => exact let ⟨σ6, H6, S6, q6⟩ := hsp; ⟨_, _, S6.unsuite ok, q6⟩
          | cont => exact let ⟨σ6, H6, S6, q6⟩ := hsp; ⟨_, _, S6.unsuite ok, q6⟩
          | ret u => exact let ⟨v6, σ6, H6, S6, r6, q6⟩ := hsp; ⟨_, _, _, S6.unsuite ok, r6, q6⟩
      | some n =>
        cases oi with
        | none => exact hn.elim
        | some ik =>
          obtain ⟨i, kp⟩ := ik
          obtain ⟨hN, hi, hln⟩ := hn
          refine codeAny_handlers_suite_as (HandSPX.lands_againZ fl4 fun h5 fl5 up5 => ?_)
          obtain ⟨oe4, vs4, hz4, hd4, S4⟩ := met h5 fl5 up5
          refine store_ok (X := X.suite a ((a, oe4) :: (X.pn ++ pins))) (v := .ref a) S4 hN hi (.inl hln) rfl (fun s5 S5 => ?_) (.inr hln)
          cases kp with
          | false =>
            refine wpAny_mono ((hsu a oe4 cls d (X.pn ++ pins) hz4 ⟨_, hd4⟩ nb0).run [] s5 _ H' _ S5 q) (fun f s6 hsp => ?_) (fun _ _ z => False.elim z)
            have end_ : ∀ {σ6 : St} {H6 : Hp} {Q : Shared → Prop}, Inv (X.suite a ((a, oe4) :: (X.pn ++ pins))) [] σ6 H6 s6 → (∀ s7, Inv X pins (σ6.set i none) H6 s7 → Q s7) →
                wpAny (model X.prog X.w) X.A (do bindName X.env n .none; unbindBehindTheSuite X.env n pos') (fun _ s7 => Q s7) X.xe s6 := fun {σ6 H6 Q} S6 hq => gone_ok (S6.unsuite ok) hN hi hln hq
            cases f with
            | next => exact let ⟨σ6, H6, S6, q6⟩ := hsp; end_ S6 fun s7 J7 => ⟨_, _, J7, q6⟩
            | brk => exact let ⟨σ6, H6, S6, q6⟩ := hsp; end_ S6 fun s7 J7 => ⟨_, _, J7, q6⟩
            | cont => exact let ⟨σ6, H6, S6, q6⟩ := hsp; end_ S6 fun s7 J7 => ⟨_, _, J7, q6⟩
            | ret u => exact let ⟨v6, σ6, H6, S6, r6, q6⟩ := hsp; end_ S6 fun s7 J7 => ⟨_, _, _, J7, r6, q6⟩
          | true =>
            refine wpAny_mono ((hsu a oe4 cls d (X.pn ++ pins) hz4 ⟨_, hd4⟩ nb0).run [] s5 _ H' _ S5 q) (fun f s6 hsp => ?_) (fun _ _ z => False.elim z)
            have end0 : ∀ {σ6 : St} {H6 : Hp} {Q : Shared → Prop}, Inv (X.suite a ((a, oe4) :: (X.pn ++ pins))) [] σ6 H6 s6 → (∀ s7, Inv X pins (σ6.set i none) H6 s7 → Q s7) →
                wpAny (model X.prog X.w) X.A (do bindName X.env n .none; unbindBehindTheSuite X.env n pos') (fun _ s7 => Q s7) X.xe s6 := fun {σ6 H6 Q} S6 hq => gone_ok (S6.unsuite ok) hN hi hln hq
            have end_ : ∀ {σ6 : St} {H6 : Hp} {Q : Shared → Prop}, Inv (X.suite a ((a, oe4) :: (X.pn ++ pins))) [] σ6 H6 s6 → (∀ s7, H6 a = none → Inv X pins (σ6.set i none) (upd H6 a (ErO cls d a)) s7 → Q s7) →
                wpAny (model X.prog X.w) X.A (do bindName X.env n .none; unbindBehindTheSuite X.env n pos') (fun _ s7 => Q s7) X.xe s6 := fun {σ6 H6 Q} S6 hq => by
              obtain ⟨p1, p2, p3, p4, p5⟩ := S6.pin (a, oe4) (List.mem_append_left _ List.mem_cons_self)
              have J6 : Inv X pins σ6 H6 s6 := S6.unsuite ok
              have nc : ∀ x c, X.env.cells.lookup x = some c → c ≠ a := fun x c e z => by
                obtain ⟨v, o, ho, hd⟩ := J6.cell x c e
                rw [z, p1] at ho
                cases ho
                exact p5 _ hd
              exact gone_ok (J6.track n0 p2 nL nc npins (erO_ok p1 hz4 hd4)) hN hi hln fun s7 J7 => hq s7 p2 J7
            cases f with
            | next => exact let ⟨σ6, H6, S6, q6⟩ := hsp; end_ S6 fun s7 n7 J7 => ⟨_, _, J7, q6 n7⟩
            | brk => exact let ⟨σ6, H6, S6, q6⟩ := hsp; end_ S6 fun s7 n7 J7 => ⟨_, _, J7, q6 n7⟩
            | cont => exact let ⟨σ6, H6, S6, q6⟩ := hsp; end_ S6 fun s7 n7 J7 => ⟨_, _, J7, q6 n7⟩
            | ret u => exact let ⟨v6, σ6, H6, S6, r6, q6⟩ := hsp; end0 S6 fun s7 J7 => ⟨_, _, _, J7, r6, q6⟩
end
/-! ### isinstance, fields of an error that stands in the heap -/
open PySem.W in
theorem kitx_excV {K : Frag} {x D : Addr} {ox : Obj} {od : Option Obj} (C : ExcC K D) : KitX K (.ref x) (.ref D) (fun h => PySem.W.InstAt h x ox D od) where
  ty := fun _ _ _ I => I.type
  it := fun _ _ X _ => by
    obtain ⟨cdD, hcD, _⟩ := any_some C.hd
    unfold clsIn at hcD
    split at hcD
    · rename_i c' d' cd' sl' ho
      intro A' Q' E' s' k q
      unfold isType loadHead
      exact wpAny_bind (wpAny_loadPart (k _ _ (X _ _ ho)) (wpAny_pure q))
    · cases hcD
  ne := fun h tp dd its n sl X htp => by
    obtain ⟨cdD, hcD, _⟩ := any_some C.hd
    refine Bool.eq_false_iff.mpr fun q => ?_
    have e : D = tp := Value.ref.inj (beq_iff_eq.mp q)
    subst e
    unfold clsIn at hcD
    split at hcD
    · rename_i c' d' cd' sl' ho
      have z := (X _ _ ho).symm.trans htp
      cases z
    · cases hcD
  ca := fun X I k => kx_classE X I C.hg C.hk C.hs (findObj_dataE (by obtain ⟨cd, hc, _⟩ := any_some C.hd; rw [hc]; rfl) C.ha C.hn C.ht) C.hm k
/-- where an error's dict is tracked, the error is an instance of its class -/
theorem inst_of {X : Cx} {pins : List (Addr × Obj)} {σ : St} {H : Hp} {s : Shared} {a D : Addr} {d : Option Addr} (I : Inv X pins σ H s) (h : H a = some (ErO (.ref D) d a)) (hd : ∀ dd, d = some dd → ∃ fs, H dd = some (.xd fs)) : ∃ oe od, PySem.W.InstAt s.heap a oe D od := by
  obtain ⟨⟨oe, vs, he, hz, hv⟩, _, _⟩ := I.hok a _ h
  cases d with
  | none =>
    refine ⟨oe, none, ?_⟩
    obtain ⟨oc, od, oda, osl⟩ := oe
    obtain ⟨h1, h2⟩ := hz
    dsimp only at h1 h2 hv
    subst h1 h2 hv
    exact ⟨he, rfl, rfl, trivial⟩
  | some dd =>
    obtain ⟨fs, hf⟩ := hd dd rfl
    obtain ⟨mA, hns, _⟩ : ObjOk X.prog X.w H s.heap dd (.xd fs) := I.hok dd _ hf
    obtain ⟨od, ho, hl⟩ := lookIn_ns hns
    exact ⟨oe, some od, he, hz.1, by unfold PySem.W.notCls; rw [hv] <;> rfl, by rw [hz.2]; exact ho⟩
/-- isinstance(e, c), e an error that stands in the heap -/
def rIsV (K : PySem.W.Frag) : List V → Hp → VK → Prop := fun xs H Q => ∃ (a D : Addr) (d : Option Addr) (c : V) (cv : Value) (b : Bool), xs = [.ref a, c] ∧ H a = some (ErO (.ref D) d a) ∧ (∀ dd, d = some dd → ∃ fs, H dd = some (.xd fs)) ∧ ExcC K D ∧ (∀ u, RelV c u → u = cv) ∧ PySem.W.kitOne K (.ref D) cv = some b ∧ Q (.bl b) H
theorem call_isV {X : Cx} : CallR X (.builtin "isinstance") (rIsV X.K) := by
  intro pins s σ H xs us Q I r h
  obtain ⟨a, D, d, c, cv, b, rfl, ha, hd, C, hcv, e, q⟩ := h
  cases r with
  | cons rx rr =>
    cases rr with
    | cons rt rr =>
      cases rr
      cases rx
      have ec := hcv _ rt
      subst ec
      obtain ⟨oe, od, J⟩ := inst_of I ha hd
      exact PySem.W.kia_one (kitx_excV C) I.kIn J e (fun z => nomatch z) fun tk => ⟨.bl b, H, I.kept (t' := tk) fun _ _ z => z, rfl, q⟩
/-- e.fld, e an error that stands in the heap -/
def tFldV (K : PySem.W.Frag) (fld : Str) (te : TE) : TE := fun σ H Q => te σ H fun x H1 => ∃ (a C dd : Addr) (v : V), x = .ref a ∧ H1 a = some (ErO (.ref C) (some dd) a) ∧ H1 dd = some (.xd [(fld, v)]) ∧ PySem.W.findIn K (.ref C) "__getattribute__" = some (some (.builtin "BaseException.__getattribute__")) ∧ PySem.W.findIn K (.ref C) "__getattr__" = some none ∧ PySem.W.subIn K (.ref C) (.type "BaseException") = some true ∧ PySem.W.hasDictIn K C = true ∧ PySem.W.findIn K (.ref C) fld = some none ∧ Q v H1
theorem pe_fldV {X : Cx} {fld : Str} {e : Expr} {te : TE} {pos : Pos} (he : PE X e te) (hb : attributeBase e fld X.env (eval e X.env) = eval e X.env) : PE X (.Attribute e fld pos) (tFldV X.K fld te) := by
  refine ⟨fun pins s σ H Q I h => ?_⟩
  refine attr_of hb (thn (he.run pins s σ H _ I h) fun u s1 hh => ?_)
  obtain ⟨x, H1, I1, rx, a, C, dd, v, ex, ha, ea, ga, gg, exC, hdC, noN, q⟩ := hh
  subst ex
  obtain rfl : u = Value.ref a := rx
  obtain ⟨⟨oe, vs, he, hz, hv⟩, _, _⟩ := I1.hok a _ ha
  have hx : ObjOk X.prog X.w H1 s1.heap dd (.xd [(fld, v)]) := I1.hok dd _ ea
  obtain ⟨mA, hns, hr⟩ := hx
  obtain ⟨od, ho, hl⟩ := lookIn_ns hns
  have l : List.lookup fld [(fld, v)] = some v := by simp [List.lookup]
  obtain ⟨u, hu, ru⟩ := RelO.some_of (v := v) (o := mA fld) (by rw [← l]; exact hr fld)
  have J : PySem.W.InstAt s1.heap a oe C (some od) := ⟨he, hz.1, by unfold PySem.W.notCls; rw [hv] <;> rfl, by rw [hz.2]; exact ho⟩
  exact HandSPX.exc_get I1.kIn J ga gg exC (PySem.W.findObj_own hdC noN rfl (by rw [hl, hu])) (handed_of ru) ⟨v, H1, I1.tok _, ru, q⟩
end L2
/-! A def called by the names of its parameters alone, in any order. -/
namespace DL
open PySem PySem.Spec PyProof.Rows L2
/-- the things at these places -/
def prm {α : Type} : List Nat → List α → List α
  | [], _ => []
  | i :: π, l => match l[i]? with
    | some x => x :: prm π l
    | none => prm π l
theorem vals_prm {vs : List V} {us : List Value} (h : L2.Vals vs us) : ∀ π : List Nat, L2.Vals (prm π vs) (prm π us)
  | [] => .nil
  | i :: π => by
    unfold prm
    cases hv : vs[i]? with
    | none =>
      rw [L2.Vals.none_of h hv]
      exact vals_prm h π
    | some v =>
      obtain ⟨u, hu, r⟩ := L2.Vals.get h hv
      rw [hu]
      exact .cons r (vals_prm h π)
theorem VRs.at {G : Gh} {Hs : Hp} {w : Wd} : ∀ {vs : List V} {ds : List Dv}, VRs G Hs w vs ds → ∀ i : Nat, (vs[i]? = none ∧ ds[i]? = none) ∨ ∃ v d, vs[i]? = some v ∧ ds[i]? = some d ∧ VR G Hs w v d
  | _, _, .nil, i => .inl ⟨rfl, rfl⟩
  | _, _, .cons h r, 0 => .inr ⟨_, _, rfl, rfl, h⟩
  | _, _, .cons h r, i + 1 => by simpa using VRs.at r i
theorem VRs.prm {G : Gh} {Hs : Hp} {w : Wd} {vs : List V} {ds : List Dv} (h : VRs G Hs w vs ds) : ∀ π : List Nat, VRs G Hs w (DL.prm π vs) (DL.prm π ds)
  | [] => .nil
  | i :: π => by
    unfold DL.prm
    rcases h.at i with ⟨h1, h2⟩ | ⟨v, d, h1, h2, r⟩
    · rw [h1, h2]; exact VRs.prm h π
    · rw [h1, h2]; exact .cons r (VRs.prm h π)
def wPerm (π : List Nat) (m : Nat) (wk : WA) : WA := fun env P => wk env fun zs => zs.length = m ∧ P (prm π zs)
theorem VRs.len {G : Gh} {Hs : Hp} {w : Wd} : ∀ {vs : List V} {ds : List Dv}, VRs G Hs w vs ds → vs.length = ds.length
  | _, _, .nil => rfl
  | _, _, .cons _ r => by rw [List.length_cons, List.length_cons, VRs.len r]
theorem tA_perm {G : Gh} {π : List Nat} {m : Nat} {wk : WA} {c : Nat} {σ : L2.St} {H : Hp} {Q : List V → Hp → Prop} (h : tA G (wPerm π m wk) c σ H Q) : tA G wk c σ H fun vs H1 => vs.length = m ∧ Q (prm π vs) H1 := by
  obtain ⟨env, M, C, b, P, hb, er, hw, hf⟩ := h
  exact ⟨env, M, C, b, _, hb, er, hw, fun ds hd b' w' vs hb' er' e r => ⟨by rw [r.len]; exact hd.1, hf _ hd.2 b' w' _ hb' er' e (r.prm π)⟩⟩
section
variable {X : Cx} {G : Gh} {k c cb : Nat} {f : Addr} {fd : FuncData} {ps ks : List Str} {spec : Spec} {x : Str} {p pos : Pos} {kws : List Keyword} {wk : WA} {π : List Nat} {m : Nat}
/-- how keywords alone are bound -/
structure KBp (K : PySem.W.Frag) (fd : FuncData) (ps : List Str) (ks : List Str) (π : List Nat) : Prop where
  to : ∀ (s : Shared) (ws : List Value), K.In s.heap → ws.length = ks.length → BindsTo s fd ⟨[], ks.zip ws⟩ (ps.zip (prm π ws))
theorem kbp_of {K : PySem.W.Frag} {x qual : Str} {st : Stmt} {ps ks : List Str} {π : List Nat} (F : L2.Fun K x qual st f fd)
    (h : ∀ (kV doc pm : Value) (an : Option Addr) (cdv ct : Value) (ws : List Value), ws.length = ks.length → bindArgs (PySem.W.fnOf x qual (defArgs st) (defBody st) (defScope st) .none kV doc pm an cdv ct) ⟨[], ks.zip ws⟩ = pure (ps.zip (prm π ws))) : KBp K fd ps ks π := by
  obtain ⟨oc, od, kV, doc, pm, an, cdv, ct, osl, rfl, lk, hcd⟩ := F.ex
  exact ⟨fun s ws _ hl => .of_eq (h kV doc pm an cdv ct ws hl)⟩
theorem pe_callP {sp : Sp} (F : FnG X.prog X.w X.K X.mg X.base CX0 k f fd ps sp) (hgd : X.A.guards = some []) (hr : Room k X.A) (hg : Gl X x) (hm : X.mg x = some (.ref f)) (hk : PySem.W.keepIn X.K (.ref f) = true) (hb : KBp X.K fd ps ks π)
    (hkw : PK X kws (tA G wk cb)) (hall : (backToKw pos (keywordEach kws X.env)).all (·.1.isSome) = true := by rfl) (hks : (backToKw pos (keywordEach kws X.env)).filterMap (·.1) = ks := by rfl) (hml : ks.length = m := by rfl) (hdb : (x == ("__debug__" : Str)) = false := by decide)
    (hpl : ((backTo pos (starEach [] X.env)).any (·.1) || (backToKw pos (keywordEach kws X.env)).any (·.1.isNone)) = false := by rfl) :
    PE X (.Call (.Name x p) [] kws pos) (tCall sp [] E0 (tA G (wPerm π m wk) cb)) := by
  subst hml
  refine ⟨fun pins s σ H Q I h => wpAny_Call_Name_kw (ld_glob I hg hm ?_ hdb)⟩
  have h' := tA_perm h
  refine PySem.W.callWith_KW0 (h₀ := X.base) I.ok.mod.kin hk hall (thn (hkw.run pos pins s σ H _ I h') fun ws s2 ⟨zs, H2, I2, rz, hl, q2⟩ => ⟨I2.kIn, ?_⟩) hpl
  rw [hks]
  have q3 : sp (prm π zs) H2 Q E0 := by
    have q' : sp (prm π zs ++ []) H2 Q E0 := q2
    rw [List.append_nil] at q'; exact q'
  refine wpAny_call (codeAny_mono (F.run X.A X.stack s2 H2 ⟨[], ks.zip ws⟩ (prm π ws) (prm π zs) Q E0 hgd hr I2.env0 (hb.to s2 ws I2.kIn (rz.length.symm.trans hl)) (vals_prm rz π) q3) fun r s' hq => ?_)
  cases r with
  | error e => exact False.elim hq
  | ok fl => cases fl with
    | ret u => exact I2.after hq
    | next => exact False.elim hq
    | brk => exact False.elim hq
    | cont => exact False.elim hq
/-- f(k = v, ..) of a pure def -/
theorem de_callP (F : FnG X.prog X.w X.K X.mg X.base CX0 k f fd ps (spF SI0 0 spec)) (hgd : X.A.guards = some []) (hr : Room k X.A) (hg : Gl X x) (hm : X.mg x = some (.ref f)) (hk : PySem.W.keepIn X.K (.ref f) = true) (hb : KBp X.K fd ps ks π)
    (hkw : PK X kws (tA G wk cb)) (hall : (backToKw pos (keywordEach kws X.env)).all (·.1.isSome) = true := by rfl) (hks : (backToKw pos (keywordEach kws X.env)).filterMap (·.1) = ks := by rfl) (hml : ks.length = m := by rfl) (hdb : (x == ("__debug__" : Str)) = false := by decide)
    (hpl : ((backTo pos (starEach [] X.env)).any (·.1) || (backToKw pos (keywordEach kws X.env)).any (·.1.isNone)) = false := by rfl) :
    DE X G (.Call (.Name x p) [] kws pos) (wCall spec (wPerm π m wk)) cb := PE_imp (pe_callP F hgd hr hg hm hk hb hkw hall hks hml hdb hpl) fun _ _ _ h => rd_pure h
theorem de_callEP {SI : SInv} (hS : G.SI = SI) (F : FnG X.prog X.w X.K X.mg X.base CX0 k f fd ps (spF SI c spec)) (hgd : X.A.guards = some []) (hr : Room k X.A) (hg : Gl X x) (hm : X.mg x = some (.ref f)) (hk : PySem.W.keepIn X.K (.ref f) = true) (hb : KBp X.K fd ps ks π)
    (hkw : PK X kws (tA G wk cb)) (hall : (backToKw pos (keywordEach kws X.env)).all (·.1.isSome) = true := by rfl) (hks : (backToKw pos (keywordEach kws X.env)).filterMap (·.1) = ks := by rfl) (hml : ks.length = m := by rfl) (hdb : (x == ("__debug__" : Str)) = false := by decide)
    (hpl : ((backTo pos (starEach [] X.env)).any (·.1) || (backToKw pos (keywordEach kws X.env)).any (·.1.isNone)) = false := by rfl) :
    DE X G (.Call (.Name x p) [] kws pos) (wCall spec (wPerm π m wk)) (cb + c) := PE_imp (pe_callP F hgd hr hg hm hk hb hkw hall hks hml hdb hpl) fun _ _ _ h => rd_eff hS h
end
end DL
set_option maxHeartbeats 2000000
/-! An error made by the name of its field. -/
namespace PySem
namespace EXN
open PySem.W PySem.Calls PyProof.Rows PySem.HandSPX Builtin Builtin.ObjectAttr
section
variable {M : Model} {A : Around} {E : Value → Shared → Prop} {h : Heap} {g : Array GenState} {d : Drawn} {t : Nat} {os : OsState}
variable {nm q : Str} {C N : Addr} {bs bm bmB : List Value} {hdct : Bool} {sn : List Str} {sub : List Value} {ab : Bool} {col : Option Bool} {dd : Option Addr} {k0 k1 k2 k3 k5 : Option Value} {B newId initId : String} {kw : List (Str × Value)}
theorem check_new_kw (F : ExcBaseFacts B newId initId bmB) (hT : ∀ X : String, bm.contains (.type X) = bmB.contains (.type X)) {Q : Unit → Shared → Prop}
    (hC : h.get? C = some (excClassObj nm q C N bs bm hdct sn sub ab col dd k0 k1 k2 k3 k5 newId)) (hq : Q () ⟨h, g, d, t, os⟩) : wpAny M A (checkBuiltinCall newId ⟨[.ref C], kw⟩) Q E ⟨h, g, d, t, os⟩ := by
  have hcont : (Value.ref C :: bm).contains (.type B) = true := by rw [List.contains_cons, hT, F.hasB, Bool.or_true]
  have hstar := F.noStar
  simp only [checkBuiltinCall, F.newKind, F.newSplit, F.newRow]
  repeat (first | refine wpAny_loadPart_at hC ?_ | (refine wpAny_isSubtype_exc hC ?_; rw [hcont]) | refine wpAny_staticBase_exc hC ?_ | refine wpAny_madeBy_exc hC ?_ | simp only [bne_self_eq_false, Bool.false_eq_true, if_false] | wp_step)
  exact hq
end
section
variable {prog : Program} {w : World} {A : Around} {E : Value → Shared → Prop} {R : Result → Shared → Prop} {h : Heap} {g : Array GenState} {d : Drawn} {t : Nat} {os : OsState}
variable {nm q : Str} {C N : Addr} {bs bm bmB : List Value} {hdct : Bool} {sn : List Str} {sub : List Value} {ab : Bool} {col : Option Bool} {dd : Option Addr} {k0 k1 k2 k3 k5 : Option Value} {B newId initId : String} {kw : List (Str × Value)}
theorem new_kw (F : ExcBaseFacts B newId initId bmB) (hT : ∀ X : String, bm.contains (.type X) = bmB.contains (.type X))
    (hC : h.get? C = some (excClassObj nm q C N bs bm hdct sn sub ab col dd k0 k1 k2 k3 k5 newId))
    (hq : R (.ok (.ret (.ref (h.objs.size + 1)))) ⟨(h.push (W.kdv_tup [])).push (excO C h.objs.size), g, d, t, os⟩) :
    codeAny (model prog w) A (.builtin newId ⟨[.ref C], kw⟩) R ⟨h, g, d, t, os⟩ := by
  have hends := F.ends
  have hcB : (Value.ref C :: bm).contains (.type B) = true := by rw [List.contains_cons, hT, F.hasB, Bool.or_true]
  have hcA : (Value.ref C :: bm).contains (.type "AttributeError") = false := by rw [List.contains_cons, hT, F.noAttr]; rfl
  have hcN : (Value.ref C :: bm).contains (.type "NameError") = false := by rw [List.contains_cons, hT, F.noName]; rfl
  refine codeAny_builtinAt F.entry ?_
  unfold Builtin.«BaseException.__new__»
  refine wpAt_bind ?_
  show wpAt _ _ _ (stack >>= _) _ _ _
  refine wpAt_bind (wpAt_stack fun p below => wpAt_of_wpAny ?_)
  wp_walk
  refine wpAt_of_wpAny ?_
  rw [F.owner]
  repeat (first | with_reducible refine wpAny_madeHere_exc F.canon hC ?_ | with_reducible refine wpAny_loadPart_at hC ?_ | (with_reducible refine wpAny_isSubtype_exc hC ?_; first | rw [hcB] | rw [hcA] | rw [hcN]) | wp_step)
  show R _ _
  rw [Heap.size_push]
  exact hq
theorem type_call_kw (F : ExcBaseFacts B newId initId bmB) (hT : ∀ X : String, bm.contains (.type X) = bmB.contains (.type X)) {fI : Addr} {Q : Fin → Shared → Prop}
    (hC : h.get? C = some (excClassObj nm q C N bs bm hdct sn sub ab col dd k0 k1 k2 k3 k5 newId))
    (hi : W.Looks (model prog w) h (typeLookup (.ref C) "__init__") (some (.ref fI))) (hb : ∀ self, W.Looks (model prog w) h (bindSpecial (.ref fI) self) (.ref fI, [self]))
    (hq : codeAny (model prog w) A (.call (.ref fI) ⟨[.ref (h.objs.size + 1)], kw⟩)
      (fun r s' => match r with | .ok (.ret v) => v = .none ∧ Q (.done (.ret (.ref (h.objs.size + 1)))) s' | .ok _ => False | .error e => E e s')
      ⟨(h.push (W.kdv_tup [])).push (excO C h.objs.size), g, d, t, os⟩) :
    wpAny (model prog w) A (Builtin.«type.__call__» ⟨[.ref C], kw⟩) Q E ⟨h, g, d, t, os⟩ := by
  repeat (first | with_reducible refine wpAny_loadPart_at hC ?_ | with_reducible refine wpAny_madeBy_exc hC ?_ | wp_step)
  refine codeAny_call_builtin_code (Code.quiet_builtin _ F.quiet) (check_new_kw F hT hC ?_)
  refine new_kw F hT hC ?_
  show wpAny _ _ _ _ _ _
  have k : ∀ b o, h.get? b = some o → ((h.push (W.kdv_tup [])).push (excO C h.objs.size)).get? b = some o := fun b o e => Heap.get?_push_of_some _ (Heap.get?_push_of_some _ e)
  have hget : ((h.push (W.kdv_tup [])).push (excO C h.objs.size)).get? (h.objs.size + 1) = some (excO C h.objs.size) := by heap_get
  have hcC : (Value.ref C :: bm).contains (.ref C) = true := by simp
  have hC₁ := k _ _ hC
  have i1 := hi.keeps k
  have b1 := (hb (.ref (h.objs.size + 1))).keeps k
  unfold isInstance
  repeat (first | with_reducible refine wpAny_loadPart_at hget ?_ | (with_reducible refine wpAny_isSubtype_exc hC₁ ?_; rw [hcC]) | wp_step)
  show wpAny _ _ (typeLookup (.ref C) _) _ _ _
  refine i1.at ?_
  refine wpAny_holding (wpAny_bind (b1.at ?_))
  refine wpAny_bind (wpAny_call (codeAny_mono hq fun r s' z => ?_))
  rcases r with e | (v | _ | _ | _) <;> first | exact z | exact z.elim | skip
  obtain ⟨rfl, z⟩ := z
  first
    | exact wpAny_pure (wpAny_pure z)
    | (wp_walk; exact z)
theorem check_type_call_kw {M : Model} {Q : Unit → Shared → Prop} {E : Value → Shared → Prop} (hC : h.get? C = some (excClassObj nm q C N bs bm hdct sn sub ab col dd k0 k1 k2 k3 k5 newId))
    (hq : Q () ⟨h, g, d, t, os⟩) : wpAny M A (checkBuiltinCall "type.__call__" ⟨[.ref C], kw⟩) Q E ⟨h, g, d, t, os⟩ := by
  have f3 := tc_sub
  have hT : (⟨h, g, d, t, os⟩ : Shared).TypeIs (.ref C) "type" := ⟨_, hC, rfl⟩
  simp only [checkBuiltinCall, tc_kind, tc_split]
  repeat (any_goals (first | assumption | with_reducible refine wpAny_loadPart_at hC ?_ | with_reducible refine wpAny_onRaise ?_ | with_reducible refine wpAny_map ?_ | wp_step))
theorem call_kw (F : ExcBaseFacts B newId initId bmB) (hT : ∀ X : String, bm.contains (.type X) = bmB.contains (.type X)) {fI : Addr}
    (hC : h.get? C = some (excClassObj nm q C N bs bm hdct sn sub ab col dd k0 k1 k2 k3 k5 newId))
    (hi : W.Looks (model prog w) h (typeLookup (.ref C) "__init__") (some (.ref fI))) (hb : ∀ self, W.Looks (model prog w) h (bindSpecial (.ref fI) self) (.ref fI, [self]))
    (hq : codeAny (model prog w) (A.under (.builtin "type.__call__" ⟨[.ref C], kw⟩)) (.call (.ref fI) ⟨[.ref (h.objs.size + 1)], kw⟩) (W.InitBack (h.objs.size + 1) R)
      ⟨(h.push (W.kdv_tup [])).push (excO C h.objs.size), g, d, t, os⟩) :
    codeAny (model prog w) A (.call (.ref C) ⟨[], kw⟩) R ⟨h, g, d, t, os⟩ := by
  have f1 := tc_lookup
  have f2 := tc_bind (.ref C)
  have hTy : (⟨h, g, d, t, os⟩ : Shared).TypeIs (.ref C) "type" := ⟨_, hC, rfl⟩
  refine codeAny_of_tree ?_
  show wpAny _ _ (callAny (.ref C) _) _ _ _
  repeat (any_goals (first | assumption | with_reducible refine wpAny_loadPart_at hC ?_ | wp_step))
  refine ⟨rfl, ?_⟩
  refine codeAny_call_builtin_at (Code.quiet_builtin _ (by decide +kernel)) entry_typeCall ?_
  refine check_type_call_kw hC ?_
  refine type_call_kw F hT hC hi hb ?_
  refine codeAny_mono hq fun r s' z => ?_
  rcases r with e | (v | _ | _ | _) <;> exact z
end
/-- __init__ by the name of its field -/
def FieldInitK (P : Program) (w : World) (K : Frag) (mg : Str → Option Value) (C fI : Addr) (fld par : Str) : Prop := ∀ (A : Around) (R : Result → Shared → Prop) (s : Shared) (x t0 : Addr) (v : Value), K.In s.heap → s.heap.NoLimit → s.heap.Ns mainGlobals mg → Blt s.heap →
  s.heap.get? x = some (excO C t0) → K.lookup x = none → A.depth < recursionLimit → (∀ h' tk dx, InitF s.heap h' x C dx fld v → R (.ok (.ret .none)) { s with heap := h', toks := tk }) → codeAny (model P w) A (.call (.ref fI) ⟨[.ref x], [(par, v)]⟩) R s
section
variable {P : Program} {w : World} {A : Around} {R : Result → Shared → Prop} {s : Shared} {K : Frag} {mg : Str → Option Value} {C fI : Addr} {nm qual fld par : Str} {st : Stmt}
theorem madeFK (T : Txt P K mg nm qual st C fI) (FI : FieldInitK P w K mg C fI fld par) {v : Value} (X : K.In s.heap) (hlim : s.heap.NoLimit) (hg : s.heap.Ns mainGlobals mg) (hb : Blt s.heap) (hroom : A.depth + 1 < recursionLimit)
    (hq : ∀ h' tk e d, MadeF s.heap h' e C d fld v → R (.ok (.ret (.ref e))) { s with heap := h', toks := tk }) :
    codeAny (model P w) A (.call (.ref C) ⟨[], [(par, v)]⟩) R s := by
  obtain ⟨B, nw, ini, tail, xb, vC, sI, n, q, N, bs, sn, sub, ab, col, dd, k0, k1, k2, k3, k5, hC⟩ := T.cls
  have hnx := fresh_look (X := X)
  obtain ⟨hp, g, dr, tk, os⟩ := s
  have k : ∀ b o, hp.get? b = some o → ((hp.push (kdv_tup [])).push (excO C hp.objs.size)).get? b = some o := fun b o e => Heap.get?_push_of_some _ (Heap.get?_push_of_some _ e)
  have hget : ((hp.push (kdv_tup [])).push (excO C hp.objs.size)).get? (hp.objs.size + 1) = some (excO C hp.objs.size) := by heap_get
  refine call_kw xb.f (fun _ => rfl) (X _ _ hC) (looks_findIn X T.iC) (fun self => bind_fn X self T.tC) ?_
  obtain ⟨mb, hmb, hbb⟩ := hb
  refine FI _ _ ⟨(hp.push (kdv_tup [])).push (excO C hp.objs.size), g, dr, tk, os⟩ _ _ v (X.keeps k) (hlim.keeps k) (ns_keep hg k) ⟨mb, ns_keep hmb k, hbb⟩ hget hnx ?_ fun h' tk' dx ⟨k', ⟨t1, hx⟩, dn, dne, hns⟩ => ?_
  · show A.depth + 1 < recursionLimit
    exact hroom
  · have old : ∀ b o, hp.get? b = some o → h'.get? b = some o := fun b o e => k' b o (Nat.ne_of_lt (Nat.lt_succ_of_lt (Heap.lt_size e))) (k b o e)
    have z : hp.objs.size + 1 + 1 ≤ dx := by
      have q := dn
      rw [Heap.size_push, Heap.size_push] at q
      exact q
    exact ⟨rfl, hq h' tk' (hp.objs.size + 1) dx ⟨old, Nat.le_succ _, ⟨_, _, hx, rfl, rfl, rfl, rfl⟩, by show hp.objs.size ≤ dx; omega, dne, hns⟩⟩
end
end EXN
end PySem
namespace L2
open PySem PySem.Spec PyProof.Rows
section
variable {X : Cx} {C fI : Addr} {nm qual fld par : Str} {st : Stmt}
/-- an error made by the name of its field -/
theorem pmkFK {a : Expr} {ta : TA} {p pos : Pos} {kp : Pos} {k : Nat} (T : PySem.EXN.Txt X.prog X.K X.mg nm qual st C fI) (FI : PySem.EXN.FieldInitK X.prog X.w X.K X.mg C fI fld par) (hr : Room k X.A) (ha : PK X [⟨some par, a, kp⟩] ta) (hg : Gl X nm) (hdb : (nm == ("__debug__" : Str)) = false)
    (hall : (backToKw pos (keywordEach [⟨some par, a, kp⟩] X.env)).all (·.1.isSome) = true := by rfl) (hks : (backToKw pos (keywordEach [⟨some par, a, kp⟩] X.env)).filterMap (·.1) = [par] := by rfl)
    (hpl : ((backTo pos (starEach [] X.env)).any (·.1) || (backToKw pos (keywordEach [⟨some par, a, kp⟩] X.env)).any (·.1.isNone)) = false := by rfl) :
    PMk X (.Call (.Name nm p) [] [⟨some par, a, kp⟩] pos) (tMkF C fld ta) := by
  intro pins s σ H Q I h
  refine wpAny_Call_Name_kw (ld_glob I hg T.gC ?_ hdb)
  refine PySem.W.callWith_KW0 (h₀ := X.base) I.ok.mod.kin T.kC hall (thn (ha.run pos pins s σ H _ I h) fun us s1 hh => ?_) hpl
  rw [hks]
  obtain ⟨vs, H1, I1, r1, v, ev, q1⟩ := hh
  subst ev
  refine ⟨I1.kIn, ?_⟩
  cases r1 with
  | cons rv rn =>
    rename_i v' us'
    cases rn
    show wpAny _ _ (call (.ref C) [] [(par, v')]) _ _ _
    have hlim := I1.nolimit
    have hgl := PySem.EXN.ns_keep I1.ok.mod.glob I1.bk
    have hbl : PySem.EXN.Blt s1.heap := (let ⟨mb, h1, h2⟩ := I1.ok.mod.blt; ⟨mb, PySem.EXN.ns_keep h1 I1.bk, h2⟩)
    obtain ⟨hp, g, dr, tk, os⟩ := s1
    refine wpAny_call (PySem.EXN.madeFK T FI I1.kIn hlim hgl hbl (by have := hr.dp; omega) fun h' tk' e d M => ?_)
    show MkP X pins σ Q (.ref e) ⟨h', g, dr, tk', os⟩
    obtain ⟨oe, fv, hoe, hc, hd, hdat, h1⟩ := M.obj
    have hns := M.ns
    obtain ⟨G', g1, g2⟩ := restrict h' fun b => decide (b ≠ e)
    have gk : ∀ b, b ≠ e → G'.get? b = h'.get? b := fun b hb => g1 b (decide_eq_true hb)
    have ge : G'.get? e = none := g2 e (by simp)
    have old : ∀ b o, hp.get? b = some o → G'.get? b = some o := fun b o q => (gk b (Nat.ne_of_lt (Nat.lt_of_lt_of_le (Heap.lt_size q) M.new))).trans (M.keep b o q)
    have ob : ObjOk X.prog X.w (upd H1 d (.xd [(fld, v)])) G' d (.xd [(fld, v)]) :=
      ⟨_, hns.at (fun o q => (gk d M.dne).trans q), fun f => relO_fld rv f⟩
    have J : Inv X pins σ (upd H1 d (.xd [(fld, v)])) ⟨G', g, dr, tk', os⟩ := I1.laid (t' := tk') old M.dbig ob
    refine ⟨e, oe, fv, ⟨G', g, dr, tk', os⟩, _, .ref C, some d, rfl, J, fun b o q => ?_, ge, hoe, ⟨hc, hd⟩, hdat, h1, ?_, rfl, I1.bare, raises_own T.exC T.tyC, q1 d (I1.hok.fresh M.dbig)⟩
    · by_cases hb : b = e
      · have q' : G'.get? b = some o := q
        rw [hb, ge] at q'; cases q'
      · exact (gk b hb).symm.trans q
    · rw [upd_ne (Ne.symm M.dne)]
      exact I1.hok.fresh M.new
end
/-- an error that is made and kept -/
def tKeep (t : St → Hp → XK → Prop) : TE := fun σ H Q => t σ H fun cls d H1 => ∀ e, H1 e = none → Q (.ref e) (upd H1 e (ErO cls d e))
theorem pe_keep {X : Cx} {e : Expr} {t : St → Hp → XK → Prop} (h : PMk X e t) : PE X e (tKeep t) := ⟨fun pins s σ H Q I q => by
  refine wpAny_mono (h pins s σ H _ I q) (fun u s' hh => ?_) fun _ _ z => z
  obtain ⟨a, oe, vs, sI, H', cls, d, rfl, J, kp, na, he, hz, hdat, _, hn, hos, hb, _, q1⟩ := hh
  have J' := J.laidN (h' := s'.heap) (t' := sI.toks) kp na hn (erO_ok (cls := cls) (d := d) he hz hdat)
  exact ⟨.ref a, _, ⟨J'.ok, hos.trans J.os, hb, J'.base, J'.loc, J'.cell, J'.free, J'.freeC, J'.pin, J'.hok, J'.len⟩, rfl, q1 a hn⟩⟩
end L2
/-! ### own dicts the list at whose last key is owned, too: d[k] = [..], d[j] = x, d[k].append(x) -/
namespace DL
open PySem PySem.Spec PyProof.Rows L2
theorem valV_out {kvs : List (Key × V)} {k : Key} (h : ∀ p ∈ kvs, p.1 ≠ k) : valV kvs k = none := by
  unfold valV
  rw [List.find?_eq_none.mpr fun p hp => by rw [decide_eq_true_eq]; exact h p hp]; rfl
theorem putK_last {kvs : List (Key × V)} {k : Key} {u v : V} (h : ∀ p ∈ kvs, p.1 ≠ k) : putK (kvs ++ [(k, u)]) k v = kvs ++ [(k, v)] := by
  have a : ((kvs ++ [(k, u)]).any fun kv => decide (kv.1 = k)) = true := by simp
  unfold putK
  rw [if_pos a, List.map_append]
  congr 1
  · rw [List.map_congr_left (g := id) fun p hp => by rw [if_neg (h p hp)]; rfl, List.map_id]
  · simp
theorem putK_pre {kvs : List (Key × V)} {k q : Key} {u v : V} (n : q ≠ k) (h : ∃ p ∈ kvs, p.1 = q) : putK (kvs ++ [(k, u)]) q v = putK kvs q v ++ [(k, u)] := by
  obtain ⟨p, hp, e⟩ := h
  have a : (kvs.any fun kv => decide (kv.1 = q)) = true := List.any_eq_true.mpr ⟨p, hp, decide_eq_true e⟩
  have b : ((kvs ++ [(k, u)]).any fun kv => decide (kv.1 = q)) = true := by rw [List.any_append, a]; rfl
  unfold putK
  rw [if_pos a, if_pos b, List.map_append]
  congr 1
  simp [Ne.symm n]
section
variable {G : Gh} {w w' : Wd} {env : Ev} {σ : L2.St}
/-- the slot of such a dict -/
theorem ER.hotAt (er : ER G w env σ) {i : Nat} {b : Addr} {k : Key} {es : List (D × D)} {ds : List D} (h : env[i]? = some (.hot b k es ds)) : ∃ a, σ[i]? = some (some (.ref a)) ∧ (w.M a ∧ ¬ w.C a ∧ G.Pt a = none ∧ G.H0 a = none) ∧ (w.M b ∧ ¬ w.C b ∧ G.Pt b = none ∧ G.H0 b = none) ∧ HotD w a b k es ds := by
  obtain ⟨ov, h1, a, rfl, r⟩ := er.at h
  exact ⟨a, h1, r⟩
/-- slot i becomes an own thing of a sort -/
theorem ER.toAb (er : ER G w env σ) {i : Nat} {a b : Addr} {o : HO} {A : Ab} (hs : σ[i]? = some (some (.ref a))) (ma : w.M a ∧ ¬ w.C a ∧ G.Pt a = none ∧ G.H0 a = none) (mb : w.M b ∧ ¬ w.C b ∧ G.Pt b = none ∧ G.H0 b = none) (nt : ∀ xs, o ≠ .tup xs) (no : A.R ⟨upd w.H a o, w.M, w.C⟩ a b)
    (sepO : ∀ (j : Nat) (d : D), j ≠ i → env[j]? = some (.own d) → σ[j]? ≠ some (some (.ref a)) ∧ σ[j]? ≠ some (some (.ref b)))
    (sepH : ∀ (j : Nat) (b' : Addr) (A' : Ab), j ≠ i → env[j]? = some (.ab b' A') → σ[j]? ≠ some (some (.ref a)) ∧ σ[j]? ≠ some (some (.ref b)) ∧ a ≠ b' ∧ b ≠ b') :
    ER G ⟨upd w.H a o, w.M, w.C⟩ (env.set i (.ab b A)) σ := by
  obtain ⟨m, c, p, z⟩ := ma
  have st : St1 w ⟨upd w.H a o, w.M, w.C⟩ := ⟨fun b x n q => .inl (by show upd w.H a o b = some x; rw [upd_ne (fun z => n (by rw [z]; exact m))]; exact q), fun b m => .inl m⟩
  refine ⟨er.toEH.poke m c p nt, by rw [List.length_set]; exact er.len, fun j s ov q1 q2 => ?_, ?_⟩
  · rcases get_set q1 with ⟨rfl, rfl⟩ | ⟨ne, q1⟩
    · rw [hs] at q2; cases q2
      exact ⟨a, rfl, ⟨m, c, p, z⟩, mb, no⟩
    · have s0 := er.sl j s ov q1 q2
      cases s with
      | no => trivial
      | fz d => obtain ⟨v, y, r⟩ := s0; exact ⟨v, y, r.st st⟩
      | raw v => exact s0
      | own d =>
        obtain ⟨x, rfl, mx, cx, px, zx, ox⟩ := s0
        have nx : x ≠ a := fun y => (sepO j d ne q1).1 (by rw [q2, y])
        exact ⟨x, rfl, mx, cx, px, zx, ox.st st (by show upd w.H a o x = w.H x; rw [upd_ne nx])⟩
      | bw d =>
        obtain ⟨x, rfl, mx, cx, ⟨y, px⟩, ox⟩ := s0
        have nx : x ≠ a := fun z => by rw [z, p] at px; cases px
        exact ⟨x, rfl, mx, cx, ⟨y, px⟩, ox.st st (by show upd w.H a o x = w.H x; rw [upd_ne nx])⟩
      | ab b' A' =>
        obtain ⟨x, rfl, mx, my, ox⟩ := s0
        obtain ⟨n1, n2, n3, n4⟩ := sepH j b' A' ne q1
        have nx : x ≠ a := fun y => n1 (by rw [q2, y])
        exact ⟨x, rfl, mx, my, A'.st st ox (by show upd w.H a o x = w.H x; rw [upd_ne nx]) (by show upd w.H a o b' = w.H b'; rw [upd_ne (Ne.symm n3)])⟩
  · refine ⟨fun j l d1 d2 x q1 q2 q3 q4 => ?_, fun j l d1 x b' A' q1 q2 q3 => ?_, fun j l b1 b2 A1 A2 q1 q2 njl => ?_⟩
    · rcases get_set q1 with ⟨_, y⟩ | ⟨n1, r1⟩
      · cases y
      · rcases get_set q2 with ⟨_, y⟩ | ⟨n2, r2⟩
        · cases y
        · exact er.od.oo j l d1 d2 x r1 r2 q3 q4
    · rcases get_set q1 with ⟨_, y⟩ | ⟨n1, r1⟩
      · cases y
      · rcases get_set q2 with ⟨e, y⟩ | ⟨n2, r2⟩
        · cases y
          subst e
          obtain ⟨g1, g2⟩ := sepO j d1 n1 r1
          exact ⟨fun y => g2 (by rw [q3, y]), fun y => g1 (by rw [q3]; rw [hs] at y; exact y.symm)⟩
        · exact er.od.oh j l d1 x b' A' r1 r2 q3
    · rcases get_set q1 with ⟨e, y⟩ | ⟨n1, r1⟩
      · cases y
        subst e
        rcases get_set q2 with ⟨e2, _⟩ | ⟨n2, r2⟩
        · exact absurd e2.symm njl
        · obtain ⟨g1, g2, g3, g4⟩ := sepH l b2 A2 n2 r2
          refine ⟨g4, fun x hx => ?_⟩
          rw [hs] at hx
          cases hx
          exact ⟨g1, g3⟩
      · rcases get_set q2 with ⟨e2, y⟩ | ⟨n2, r2⟩
        · cases y
          subst e2
          obtain ⟨g1, g2, g3, g4⟩ := sepH j b1 A1 n1 r1
          refine ⟨Ne.symm g4, fun x hx => ⟨fun y => g1 (by rw [hx]; rw [hs] at y; exact y.symm), fun y => g2 (by rw [hx, y])⟩⟩
        · exact er.od.hh j l b1 b2 A1 A2 r1 r2 njl
/-- slot i becomes such a dict -/
theorem ER.toHot (er : ER G w env σ) {i : Nat} {a b : Addr} {o : HO} {k : Key} {es : List (D × D)} {ds : List D} (hs : σ[i]? = some (some (.ref a))) (ma : w.M a ∧ ¬ w.C a ∧ G.Pt a = none ∧ G.H0 a = none) (mb : w.M b ∧ ¬ w.C b ∧ G.Pt b = none ∧ G.H0 b = none) (nt : ∀ xs, o ≠ .tup xs) (no : HotD ⟨upd w.H a o, w.M, w.C⟩ a b k es ds)
    (sepO : ∀ (j : Nat) (d : D), j ≠ i → env[j]? = some (.own d) → σ[j]? ≠ some (some (.ref a)) ∧ σ[j]? ≠ some (some (.ref b)))
    (sepH : ∀ (j : Nat) (b' : Addr) (A' : Ab), j ≠ i → env[j]? = some (.ab b' A') → σ[j]? ≠ some (some (.ref a)) ∧ σ[j]? ≠ some (some (.ref b)) ∧ a ≠ b' ∧ b ≠ b') :
    ER G ⟨upd w.H a o, w.M, w.C⟩ (env.set i (.hot b k es ds)) σ := er.toAb (A := hotA k es ds) hs ma mb nt no sepO sepH
/-- what is new is nobody's -/
theorem fresh_pt {b0 : Nat} {w0 : Wd} {env0 : Ev} {σ0 : L2.St} (er0 : ER (G.at b0) w0 env0 σ0) {a : Addr} (z : w0.H a = none) : G.Pt a = none ∧ G.H0 a = none := ⟨by
    cases q : G.Pt a with
    | none => rfl
    | some x => rcases er0.kp a x q with y | ⟨_, _, ob, y⟩ <;> (rw [z] at y; cases y), by
    cases q : G.H0 a with
    | none => rfl
    | some x => exact absurd z (er0.hd a (by rw [q]; simp))⟩
/-- the owned list of such a dict takes a value more, and is frozen: the dict is an own one again -/
theorem ER.cool (er : ER G w env σ) {i : Nat} {b : Addr} {k : Key} {es : List (D × D)} {ds : List D} {xs : List V} {v : V} {d : D} (h : env[i]? = some (.hot b k es ds)) (hb : w.H b = some (.lst xs)) (rx : RpL w xs ds) (rv : Rp w v d) :
    ER G ⟨upd w.H b (.lst (xs ++ [v])), fun x => w.M x ∧ x ≠ b, w.C⟩ (env.set i (.own (.dict (es ++ [(kD k, .list (ds ++ [d]))])))) σ := by
  obtain ⟨a, hs, ⟨m, c, p, z⟩, ⟨mb, cb, pb, zb⟩, ⟨kvs, h1, h2, h3, h4⟩, _, nab⟩ := er.hotAt h
  have eh := er.toEH.poke (o := .lst (xs ++ [v])) mb cb pb (fun _ z => nomatch z)
  have st : St1 w ⟨upd w.H b (.lst (xs ++ [v])), fun x => w.M x ∧ x ≠ b, w.C⟩ := ⟨fun x y n q => .inl (by show upd w.H b _ x = some y; rw [upd_ne (fun z => n (by rw [z]; exact mb))]; exact q), fun x m => .inl m.1⟩
  have st2 : St1 ⟨upd w.H b (.lst (xs ++ [v])), w.M, w.C⟩ ⟨upd w.H b (.lst (xs ++ [v])), fun x => w.M x ∧ x ≠ b, w.C⟩ := ⟨fun x y _ q => .inl q, fun x m => .inl m.1⟩
  have kb : ∀ x, x ≠ b → upd w.H b (.lst (xs ++ [v])) x = w.H x := fun x n => upd_ne n
  refine ⟨⟨eh.kp, fun x q => ⟨eh.m0 x q, fun y => G.mh x q (by rw [y]; exact zb)⟩, eh.nc, eh.cp, fun x q => ⟨eh.cm x q, fun y => cb (by rw [← y]; exact q)⟩, fun x q => eh.md x q.1, eh.hd, fun p hp => p.st _ _ st2 (eh.gk p hp), eh.si, fun x ys q => eh.mt x ys q.1⟩, by rw [List.length_set]; exact er.len, fun j s ov q1 q2 => ?_, ?_⟩
  · rcases get_set q1 with ⟨rfl, rfl⟩ | ⟨ne, q1⟩
    · rw [hs] at q2; cases q2
      refine ⟨a, rfl, ⟨m, nab⟩, c, p, z, .dK (kvs := kvs ++ [(k, .ref b)]) ((kb a nab).trans h1) ?_ ?_⟩
      · rw [List.map_append, List.map_append, h2]; rfl
      · rw [List.map_append, List.map_append]
        exact (h3.st st).append (.cons (.lst (fun q => q.2 rfl) upd_same ((rx.append (.cons rv .nil)).st st)) .nil)
    · have s0 := er.sl j s ov q1 q2
      cases s with
      | no => trivial
      | fz d => obtain ⟨v, y, r⟩ := s0; exact ⟨v, y, r.st st⟩
      | raw v => exact s0
      | own d =>
        obtain ⟨x, rfl, mx, cx, px, zx, ox⟩ := s0
        obtain ⟨n1, n2⟩ := er.od.oh j i d x b (hotA k es ds) q1 h q2
        exact ⟨x, rfl, ⟨mx, n1⟩, cx, px, zx, ox.st st (kb x n1)⟩
      | bw d =>
        obtain ⟨x, rfl, mx, cx, ⟨y, px⟩, ox⟩ := s0
        have nx : x ≠ b := fun z => by rw [z, pb] at px; cases px
        exact ⟨x, rfl, ⟨mx, nx⟩, cx, ⟨y, px⟩, ox.st st (kb x nx)⟩
      | ab b' A' =>
        obtain ⟨x, rfl, ⟨mx, cx, px, zx⟩, ⟨my, cy, py, zy⟩, ox⟩ := s0
        obtain ⟨n1, n2⟩ := er.od.hh j i b' b A' (hotA k es ds) q1 h ne
        obtain ⟨n3, n4⟩ := n2 x q2
        exact ⟨x, rfl, ⟨⟨mx, n4⟩, cx, px, zx⟩, ⟨⟨my, n1⟩, cy, py, zy⟩, A'.st st ox (kb x n4) (kb b' n1)⟩
  · refine ⟨fun j l d1 d2 x q1 q2 q3 q4 => ?_, fun j l d1 x b' A' q1 q2 q3 => ?_, fun j l b1 b2 A1 A2 q1 q2 njl => ?_⟩
    · rcases get_set q1 with ⟨e1, _⟩ | ⟨n1, r1⟩
      · rcases get_set q2 with ⟨e2, _⟩ | ⟨n2, r2⟩
        · rw [e1, e2]
        · subst e1
          exact absurd q3 (er.od.oh l j d2 x b (hotA k es ds) r2 h q4).2
      · rcases get_set q2 with ⟨e2, _⟩ | ⟨n2, r2⟩
        · subst e2
          exact absurd q4 (er.od.oh j l d1 x b (hotA k es ds) r1 h q3).2
        · exact er.od.oo j l d1 d2 x r1 r2 q3 q4
    · rcases get_set q2 with ⟨_, y⟩ | ⟨n2, r2⟩
      · cases y
      · rcases get_set q1 with ⟨e1, _⟩ | ⟨n1, r1⟩
        · subst e1
          obtain ⟨g1, g2⟩ := (er.od.hh j l b b' (hotA k es ds) A' h r2 (Ne.symm n2)).2 x q3
          exact ⟨g2, g1⟩
        · exact er.od.oh j l d1 x b' A' r1 r2 q3
    · rcases get_set q1 with ⟨_, y⟩ | ⟨_, r1⟩
      · cases y
      · rcases get_set q2 with ⟨_, y⟩ | ⟨_, r2⟩
        · cases y
        · exact er.od.hh j l b1 b2 A1 A2 r1 r2 njl
end
end DL
/-! Errors kept as values, at the level of data: clauses with several classes, `j = e` behind whose clause the error stands in slot j. -/
namespace DL
open PySem PySem.Spec PyProof.Rows L2
/-- an error x that stands in the heap at a -/
def XV (cm : CM) (w : Wd) (a : Addr) (x : Xd) : Prop := ∃ C fo, cm x.nm = some (C, fo) ∧ match fo with
  | none => w.H a = some (ErO (.ref C) none a) ∧ x.d = .none
  | some f => ∃ dd v, w.H a = some (ErO (.ref C) (some dd) a) ∧ ¬ w.M dd ∧ w.H dd = some (.xd [(f, v)]) ∧ Rp w v x.d
theorem XV.st {cm : CM} {w w' : Wd} {a : Addr} {x : Xd} (e : St1 w w') (h : XV cm w a x) (k : w'.H a = w.H a) : XV cm w' a x := by
  obtain ⟨C, fo, h1, h2⟩ := h
  refine ⟨C, fo, h1, ?_⟩
  cases fo with
  | none => exact ⟨k.trans h2.1, h2.2⟩
  | some f =>
    obtain ⟨dd, v, q1, q2, q3, q4⟩ := h2
    exact ⟨dd, v, k.trans q1, e.nm q2 q3, (e.keep dd _ q2 q3).exact no_dct_xd, q4.st e⟩
theorem XV.there {cm : CM} {w : Wd} {a : Addr} {x : Xd} (h : XV cm w a x) : ∃ o, w.H a = some o := by
  obtain ⟨C, fo, _, h2⟩ := h
  cases fo with
  | none => exact ⟨_, h2.1⟩
  | some f => obtain ⟨dd, v, q1, _⟩ := h2; exact ⟨_, q1⟩
def errA (cm : CM) (x : Xd) : Ab where
  R := fun w a b => XV cm w a x ∧ b = a
  st := fun e h ka _ => ⟨h.1.st e ka, h.2⟩
  ex := fun h => ⟨h.1.there, by rw [h.2]; exact h.1.there⟩
/-- what is there, and nobody's -/
def fxN (a : Addr) : Fx := ⟨fun w => ¬ w.M a ∧ w.H a ≠ none, fun w w' e h => by
  obtain ⟨h1, h2⟩ := h
  cases q : w.H a with
  | none => exact absurd q h2
  | some o => exact ⟨e.nm h1 q, (e.keep a o h1 q).there⟩⟩
section
variable {G : Gh} {w : Wd} {env : Ev} {σ : L2.St} {a : Addr} {cm : CM} {x : Xd}
/-- the error at a, slot j's, is tracked -/
theorem ER.keepErr {b i j : Nat} {o : HO} (er : ER (G.at b) w env σ) (na : w.H a = none) (no : ∀ xs, o ≠ .tup xs) (hj : env[j]? = some (.raw (.ref a))) (hij : i ≠ j) (xv : XV cm (Wd.plus ⟨upd w.H a o, w.M, w.C⟩ a) a x) :
    ER (G.at b) (Wd.plus ⟨upd w.H a o, w.M, w.C⟩ a) ((env.set i .no).set j (.ab a (errA cm x))) (σ.set i none) := by
  have er1 := er.setNo (v := none) i
  have hj1 : (env.set i .no)[j]? = some (.raw (.ref a)) := by rw [List.getElem?_set_ne hij]; exact hj
  generalize henv : env.set i .no = env1 at er1 hj1 ⊢
  generalize hσ : σ.set i none = σ1 at er1 ⊢
  obtain ⟨ov, hs, rfl⟩ := er1.at hj1
  have s : Same w.H (upd w.H a o) := same_new na
  have there : upd w.H a o a ≠ none := by rw [upd_same]; simp
  have eh := er1.toEH.plus s na there fun xs => by rw [upd_same]; exact fun z => no xs (Option.some.inj z)
  have ex := Ext.plus s na
  have ne : ∀ {c : Addr}, w.M c → c ≠ a := fun {c} m z => er1.md c m (by rw [z]; exact na)
  refine ⟨eh, by rw [List.length_set]; exact er1.len, fun k s' ov' q1 q2 => ?_, ?_⟩
  · rcases get_set q1 with ⟨rfl, rfl⟩ | ⟨n1, q1⟩
    · rw [hs] at q2; cases q2
      obtain ⟨p1, p2⟩ := fresh_pt er1 na
      exact ⟨a, rfl, ⟨.inr rfl, fun c => ne (er1.cm a c) rfl, p1, p2⟩, ⟨.inr rfl, fun c => ne (er1.cm a c) rfl, p1, p2⟩, xv, rfl⟩
    · exact SlR.ext ex er1.cm (er1.sl k s' ov' q1 q2)
  · have mab : ∀ {k : Nat} {b : Addr} {A : Ab}, env1[k]? = some (Sl.ab b A) → b ≠ a ∧ σ1[k]? ≠ some (some (V.ref a)) := fun {k b A} q => by
      obtain ⟨ov, h1, c, rfl, ⟨m, _⟩, ⟨mb, _⟩, _⟩ := er1.at q
      exact ⟨ne mb, fun z => by rw [h1] at z; cases z; exact ne m rfl⟩
    have mown : ∀ {k : Nat} {d : D}, env1[k]? = some (Sl.own d) → σ1[k]? ≠ some (some (V.ref a)) := fun {k d} q z => by
      obtain ⟨ov, h1, c, rfl, m, _⟩ := er1.at q
      rw [h1] at z; cases z
      exact ne m rfl
    refine ⟨fun k l d1 d2 c q1 q2 q3 q4 => ?_, fun k l d1 c b' A' q1 q2 q3 => ?_, fun k l b1 b2 A1 A2 q1 q2 nkl => ?_⟩
    · rcases get_set q1 with ⟨_, y⟩ | ⟨_, r1⟩
      · cases y
      · rcases get_set q2 with ⟨_, y⟩ | ⟨_, r2⟩
        · cases y
        · exact er1.od.oo k l d1 d2 c r1 r2 q3 q4
    · rcases get_set q1 with ⟨_, y⟩ | ⟨_, r1⟩
      · cases y
      · rcases get_set q2 with ⟨rfl, y⟩ | ⟨_, r2⟩
        · cases y
          have n := mown r1
          refine ⟨fun z => n (by rw [q3, z]), fun z => ?_⟩
          rw [hs] at z; cases z
          exact n q3
        · exact er1.od.oh k l d1 c b' A' r1 r2 q3
    · rcases get_set q1 with ⟨rfl, y⟩ | ⟨_, r1⟩
      · cases y
        rcases get_set q2 with ⟨e2, _⟩ | ⟨_, r2⟩
        · exact absurd e2.symm nkl
        · obtain ⟨g1, g2⟩ := mab r2
          refine ⟨Ne.symm g1, fun c hc => ?_⟩
          rw [hs] at hc; cases hc
          exact ⟨g2, Ne.symm g1⟩
      · rcases get_set q2 with ⟨rfl, y⟩ | ⟨_, r2⟩
        · cases y
          obtain ⟨g1, g2⟩ := mab r1
          refine ⟨g1, fun c hc => ⟨fun z => ?_, fun z => g2 (by rw [hc, z])⟩⟩
          rw [hs] at z; cases z
          exact g2 hc
        · exact er1.od.hh k l b1 b2 A1 A2 r1 r2 nkl
end
/-! ### try -/
abbrev EOf := Ab → Xd → Prop
abbrev HdX := (Str → Bool) × Option (Nat × Option Nat) × (Addr → Xd → WS)
def DEnds.goneV (De : DEnds) (i j : Nat) (a : Addr) (A : Ab) : DEnds := { nx := fun e => e[j]? = some (.raw (.ref a)) ∧ De.nx ((e.set i .no).set j (.ab a A)), rt := De.rt, bk := fun _ => False, ct := fun _ => False }
def wSuiteV (EO : EOf) (ts : Addr → Xd → WS) (oi : Option (Nat × Option Nat)) (x : Xd) (env : Ev) (De : DEnds) : Prop := ∀ a, match oi with
  | none => ts a x env De
  | some (i, none) => ts a x (env.set i (.raw (.ref a))) (De.gone i)
  | some (i, some j) => i ≠ j ∧ ∀ A, EO A x → ts a x (env.set i (.raw (.ref a))) (De.goneV i j a A)
def wHdsV (EO : EOf) (Ex : EX) (De : DEnds) : List HdX → EX
  | [] => Ex
  | (mt, oi, ts) :: r => fun env x => if mt x.nm = true then wSuiteV EO ts oi x env De else wHdsV EO Ex De r env x
def wTryV (EO : EOf) (tb : EX → WS) (l : List HdX) (Ex : EX) : WS := fun env De => tb (wHdsV EO Ex De l) env De
/-- as SX; its dict is there and nobody's -/
def SXW (cm : CM) (cls : Value) (o : Option Addr) (x : Xd) (G : Gh) : Prop := SX cm cls o x G ∧ ∀ dd, o = some dd → fxN dd ∈ G.gs
def lHW (cm : CM) (G : Gh) (cs : Nat) (ts : Addr → Xd → WS) : TSu := fun a cls o T σ H => ∃ (x : Xd) (G' : Gh), G'.SI = SI0 ∧ SXW cm cls o x G' ∧ tS G' (ts a x) cs T σ H
def oiV (oi : Option (Nat × Option Nat)) : Option (Nat × Bool) := oi.map fun p => (p.1, p.2.isSome)
inductive HdsDV (cm : CM) (X : Cx) (G : Gh) : List ExceptHandler → List HdV → List HdX → Prop
  | nil : HdsDV cm X G [] [] []
  | cons {t : Expr} {on : Option Str} {cs : List Value} {oi : Option (Nat × Option Nat)} {ts : Addr → Xd → WS} {mt : Str → Bool} {cst : Nat} {b₀ : Stmt} {suite : List Stmt} {pos' : Pos} {hds : List ExceptHandler} {l : List HdV} {l' : List HdX} (hc : ∀ (a : Addr) (oe : Obj) (pn : List (Addr × Obj)), TestOk (X.suite a ((a, oe) :: pn)) t cs) (hn : NameOkV X on (oiV oi))
      (hm : ∀ y C fo, cm y = some (C, fo) → PySem.W.exmAny X.K (.ref C) cs = some (mt y)) (hcs : cst ≤ cap)
      (hsu : ∀ (a : Addr) (oe : Obj) (cls : Value) (o : Option Addr) (pn : List (Addr × Obj)) (x : Xd) (G' : Gh), Zc cls o oe → (∃ vs, oe.data = .fields vs) → G'.SI = SI0 → SXW cm cls o x G' → X.base.get? a = none → DSs (X.suite a ((a, oe) :: pn)) G' (b₀ :: suite) (ts a x) cst) (r : HdsDV cm X G hds l l') :
      HdsDV cm X G (.ExceptHandler (some t) on (b₀ :: suite) pos' :: hds) ((cs, oiV oi, lHW cm G cst ts) :: l) ((mt, oi, ts) :: l')
theorem HdsDV.g {cm : CM} {X : Cx} {G : Gh} {hds : List ExceptHandler} {l : List HdV} {l' : List HdX} (h : HdsDV cm X G hds l l') : HdsV X hds l := by
  induction h with
  | nil => exact .nil
  | cons hc hn hm hcs hsu r ih =>
    refine .cons hc hn (fun a oe cls o pn hz hf hb => ⟨fun pins s σ H D I q => ?_⟩) ih
    obtain ⟨x, G', hS, sx, t⟩ := q
    exact (hsu a oe cls o pn x G' hz hf hS sx hb).run pins s σ H D I t
theorem ER.more1 {G : Gh} {b : Nat} {w : Wd} {env : Ev} {σ : L2.St} {p : Fx} (h : ER (G.at b) w env σ) (q : p.P w) : ER ((G.more [p]).at b) w env σ :=
  ⟨h.toEH.more fun r hr => by rw [List.mem_singleton.mp hr]; exact q, h.len, h.sl, h.od⟩
theorem VR.less {G : Gh} {l : List Fx} {Hs : Hp} {w : Wd} {v : V} {dv : Dv} (h : VR (G.more l) Hs w v dv) : VR G Hs w v dv := by
  cases dv <;> exact h
section
variable {X : Cx} {G : Gh} {cm : CM} {body : List Stmt} {h₀ : ExceptHandler} {hds : List ExceptHandler} {l : List HdV} {l' : List HdX} {pos : Pos} {tb : EX → WS} {Wout : WX} {Ex : EX} {cb : Nat}
/-- the ends of a suite behind which the error is kept -/
theorem Lift.goneV {G' : Gh} {B' i j : Nat} {T : Ends} {De : DEnds} {a : Addr} {x : Xd} {o : HO} (no : ∀ xs, o ≠ .tup xs) (hij : i ≠ j) (lf : Lift G 0 T De) (lf' : Lift G' B' T De)
    (dn : ∀ b w e σ, ER (G'.at b) w e σ → ER (G.at 0) w e σ) (xv : ∀ b w, EH (G'.at b) w → w.H a = none → XV cm (Wd.plus ⟨upd w.H a o, w.M, w.C⟩ a) a x) : Lift G' B' (T.goneV i a o) (De.goneV i j a (errA cm x)) :=
  ⟨fun e q b w σ hb er na => lf.nx _ q.2 0 _ _ (Nat.le_refl _) ((dn b w e σ er).keepErr na no q.1 hij (xv b w er.toEH na)), lf'.rt, fun _ q => q.elim, fun _ q => q.elim⟩
theorem erO_nt {cls : Value} {d : Option Addr} {a : Addr} (xs : List V) : ErO cls d a ≠ .tup xs := fun z => by unfold ErO at z; cases z
theorem hds_okV (hS : G.SI = SI0) (hx : XOk cm G Wout Ex) {B : Nat} {T : Ends} {De : DEnds} (lf : Lift G B T De) {hds : List ExceptHandler} (hh : HdsDV cm X G hds l l') : XOk cm G (wGenV X.K Wout T l) (wHdsV (fun A x => A = errA cm x) Ex De l') := by
  induction hh with
  | nil => exact hx
  | @cons t on cs oi ts mt cst b₀ suite pos' hds2 l2 l2' hc hn hm hcs hsu r ih =>
    intro env x q b w σ cls o hb er xr
    obtain ⟨C, fo, e1, rfl, e3⟩ := id xr
    refine ⟨mt x.nm, hm _ _ _ e1, fun hy a na => ?_, fun hy => ?_⟩
    · have q' : wSuiteV (fun A x => A = errA cm x) ts oi x env De := by
        have q0 : (if mt x.nm = true then wSuiteV (fun A x => A = errA cm x) ts oi x env De else wHdsV (fun A x => A = errA cm x) Ex De l2' env x) := q
        rw [if_pos hy] at q0; exact q0
      have lf0 : Lift G 0 T De := lf.mono (Nat.zero_le _)
      have main : ∃ G' : Gh, G'.SI = SI0 ∧ SXW cm (.ref C) o x G' ∧ ER (G'.at 0) w env σ ∧ Lift G' (0 + cst) T De ∧ (∀ b w e σ, ER (G'.at b) w e σ → ER (G.at 0) w e σ) ∧ ∀ b w1, EH (G'.at b) w1 → w1.H a = none → XV cm (Wd.plus ⟨upd w1.H a (ErO (.ref C) o a), w1.M, w1.C⟩ a) a x := by
        cases fo with
        | none =>
          refine ⟨G, hS, ⟨⟨C, none, e1, rfl, e3⟩, fun dd z => by rw [e3.1] at z; cases z⟩, er.re hS, lf.re rfl (fun _ _ _ _ h => h.re hS) (fun _ _ h => h.re hS) (fun _ _ _ _ h => h), fun _ _ _ _ h => h.re hS, fun b1 w1 eh z => ⟨C, none, e1, ?_, e3.2⟩⟩
          show upd w1.H a (ErO (.ref C) o a) a = _
          rw [upd_same, e3.1]
        | some f =>
          obtain ⟨dd, v, g1, g2, g3, g4⟩ := e3
          have z := er.toEH.fits (f := f) (v := v) g3
          have hS1 : (G.hold dd f v x.d).SI = SI0 := hS
          have hS' : ((G.hold dd f v x.d).more [fxN dd]).SI = SI0 := hS
          have down : ∀ b w e σ, ER (((G.hold dd f v x.d).more [fxN dd]).at b) w e σ → ER (G.at 0) w e σ := fun _ _ _ _ h => (h.less.drop z).re hS
          refine ⟨(G.hold dd f v x.d).more [fxN dd], hS', ⟨⟨C, some f, e1, rfl, dd, v, g1, hold_at (G := G) (f := f) (v := v) (d := x.d), List.mem_append_right _ List.mem_cons_self⟩, fun d2 z => by rw [g1] at z; cases z; exact List.mem_append_left _ List.mem_cons_self⟩, ((er.hold g2 g3 g4).re hS1).more1 ⟨g2, by rw [g3]; simp⟩, lf.re rfl down (fun _ _ h => (h.fewer.drop z).re hS) (fun _ _ _ _ h => h.less.drop), down, fun b1 w1 eh z1 => ?_⟩
          have k1 : w1.H dd = some (.xd [(f, v)]) := by
            rcases eh.kp dd _ (hold_at (G := G) (f := f) (v := v) (d := x.d)) with k | ⟨_, dc, _⟩
            · exact k
            · exact absurd dc no_dct_xd
          have k2 : ¬ w1.M dd := (eh.gk (fxN dd) (List.mem_append_left _ List.mem_cons_self) : ¬ w1.M dd ∧ w1.H dd ≠ none).1
          have k3 : Rp w1 v x.d := eh.gk (fx v x.d) (List.mem_append_right _ List.mem_cons_self)
          have ne : dd ≠ a := fun y => by rw [y, z1] at k1; cases k1
          refine ⟨C, some f, e1, dd, v, ?_, ?_, ?_, k3.st (st_new z1)⟩
          · show upd w1.H a (ErO (.ref C) o a) a = _
            rw [upd_same, g1]
          · rintro (m | m)
            · exact k2 m
            · exact ne m
          · show upd w1.H a (ErO (.ref C) o a) dd = _
            rw [upd_ne ne]; exact k1
      obtain ⟨G', hS', sx, er', lf', dn, xv⟩ := main
      have qa := q' a
      match oi, qa with
      | none, qa => exact ⟨x, G', hS', sx, env, w.M, w.C, 0, De, by omega, er', qa, lf'⟩
      | some (i, none), qa => exact ⟨x, G', hS', sx, env.set i (.raw (.ref a)), w.M, w.C, 0, De.gone i, by omega, er'.setRaw i, qa, lf'.gone i⟩
      | some (i, some j), qa => exact ⟨x, G', hS', sx, env.set i (.raw (.ref a)), w.M, w.C, 0, De.goneV i j a (errA cm x), by omega, er'.setRaw i, qa.2 _ rfl, Lift.goneV (erO_nt) qa.1 lf0 lf' dn xv⟩
    · have q' : wHdsV (fun A x => A = errA cm x) Ex De l2' env x := by
        have q0 : (if mt x.nm = true then wSuiteV (fun A x => A = errA cm x) ts oi x env De else wHdsV (fun A x => A = errA cm x) Ex De l2' env x) := q
        rw [if_neg (by rw [hy]; exact Bool.false_ne_true)] at q0; exact q0
      exact ih env x q' b w σ _ o hb er xr
theorem ds_tryV (hS : G.SI = SI0) (hex : X.ex = []) (hs : X.stack = X.env :: X.outer) (hf : X.env.frame = some X.env.locals) (tk : Takes X Wout) (hx : XOk cm G Wout Ex)
    (hb : ∀ (W : WX) (Ex' : EX) (pn : List (Addr × Obj)) (xe : Value → Shared → Prop), Takes (X.tr pn xe) W → XOk cm G W Ex' → PassesOwn (model X.prog X.w) X.A X.env xe → DSs (X.tr pn xe) G body (tb Ex') cb)
    (hh : HdsDV cm X G (h₀ :: hds) l l') : DS X G (.Try body (h₀ :: hds) [] [] pos) (wTryV (fun A x => A = errA cm x) tb l' Ex) cb :=
  PS_imp (ps_try_V (tb := fun W T σ H => ∃ Ex', XOk cm G W Ex' ∧ tS G (tb Ex') cb T σ H) hex hs hf tk (fun W pn xe tkW ps => ⟨fun pins s σ H D I q => by
    obtain ⟨Ex', hx', t⟩ := q
    exact (hb W Ex' pn xe tkW hx' ps).run pins s σ H D I t⟩) hh.g) fun σ H T h => by
  obtain ⟨env, M, C0, b0, De, hb0, er, hw, lf⟩ := h
  exact ⟨wHdsV (fun A x => A = errA cm x) Ex De l', hds_okV hS hx lf hh, env, M, C0, b0, De, hb0, er, hw, lf⟩
end
end DL
namespace DL
open PySem PySem.Spec PyProof.Rows L2
/-! ### the law's own state, of four entries: two lists of ints, a count, a sum -/
def stO4 (c g : Addr) (n : Nat) (z : Int) : HO := .dK [(.inr "cells", .ref c), (.inr "great", .ref g), (.inr "turn", .int n), (.inr "sum", .int z)]
def Sml (z : Int) : Prop := 0 ≤ z ∧ z < 4294967296
def SI4 (a : Addr) : SInv := fun b C H => ∃ (g c : Addr) (gs cs : List Int) (n : Nat) (z : Int), C a ∧ C g ∧ C c ∧ g ≠ c ∧ H a = some (stO4 c g n z) ∧ H g = some (.lst (gs.map V.int)) ∧ H c = some (.lst (cs.map V.int)) ∧ n ≤ b ∧ Sml z ∧ 0 < cs.length
theorem stab4 (a : Addr) : Stab (SI4 a) := fun b C H H' ⟨g, c, gs, cs, n, z, h1, h2, h3, h4, h5, h6, h7, h8⟩ k => ⟨g, c, gs, cs, n, z, h1, h2, h3, h4, k _ _ h1 h5, k _ _ h2 h6, k _ _ h3 h7, h8⟩
structure St4 (a : Addr) (w0 : Wd) (H : Hp) (C : Addr → Prop) (g c : Addr) (gs cs : List Int) (n : Nat) (z : Int) : Prop where
  ex : Ext w0 ⟨H, fun x => w0.M x ∨ C x, C⟩
  cd : ∀ x, C x → Lq (H x)
  cc : ∀ x, w0.C x → C x
  ha : C a
  hg : C g
  hc : C c
  gc : g ≠ c
  da : H a = some (stO4 c g n z)
  dg : H g = some (.lst (gs.map V.int))
  dc : H c = some (.lst (cs.map V.int))
section
variable {a : Addr} {w0 : Wd} {H : Hp} {C : Addr → Prop} {g c : Addr} {gs cs : List Int} {n : Nat} {z : Int}
theorem St4.ag (h : St4 a w0 H C g c gs cs n z) : a ≠ g := fun e => by have := h.da; rw [e, h.dg] at this; cases this
theorem St4.ac (h : St4 a w0 H C g c gs cs n z) : a ≠ c := fun e => by have := h.da; rw [e, h.dc] at this; cases this
theorem St4.alloc (h : St4 a w0 H C g c gs cs n z) {p : Addr} {o : HO} (np : H p = none) : St4 a w0 (upd H p o) C g c gs cs n z := by
  have ne : ∀ {x : Addr} {u : HO}, H x = some u → x ≠ p := fun q e => by rw [e, np] at q; cases q
  exact ⟨h.ex.trans (Ext.same (w := ⟨H, fun x => w0.M x ∨ C x, C⟩) (same_new np)), fun x q => by
    have e : x ≠ p := fun e => (h.cd x q).1 (by rw [e]; exact np)
    rw [upd_ne e]; exact h.cd x q, h.cc, h.ha, h.hg, h.hc, h.gc, by rw [upd_ne (ne h.da)]; exact h.da, by rw [upd_ne (ne h.dg)]; exact h.dg, by rw [upd_ne (ne h.dc)]; exact h.dc⟩
theorem St4.same (h : St4 a w0 H C g c gs cs n z) {H' : Hp} (s : Same H H') : St4 a w0 H' C g c gs cs n z :=
  ⟨h.ex.trans (Ext.same (w := ⟨H, fun x => w0.M x ∨ C x, C⟩) s), fun x q => ⟨fun e => (h.cd x q).1 (s.free e), fun xs => ntup_same s (h.cd x q).1 ((h.cd x q).2 xs)⟩, h.cc, h.ha, h.hg, h.hc, h.gc, s _ _ h.da, s _ _ h.dg, s _ _ h.dc⟩
theorem St4.poke (h : St4 a w0 H C g c gs cs n z) {x : Addr} {o : HO} (hx : C x) (nt : ∀ xs, o ≠ .tup xs) : Ext w0 ⟨upd H x o, fun x => w0.M x ∨ C x, C⟩ ∧ ∀ y, C y → Lq (upd H x o y) := by
  have nw : ∀ b o', ¬ w0.C b → w0.H b = some o' → b ≠ x := fun b o' nc hb e => by
    rw [e] at nc hb
    rcases h.ex.newC x hx with q | q
    · exact nc q
    · rw [q] at hb; cases hb
  refine ⟨⟨fun b o' nc hb => ?_, fun b hb => ?_, h.ex.newC, h.ex.newM, h.ex.oldM⟩, fun y hy => ?_⟩
  · show upd H x o b = some o' ∨ _
    rw [upd_ne (nw b o' nc hb)]
    exact (h.ex.keep b o' nc hb).elim .inl fun ⟨q1, q2, ob, q3⟩ => .inr ⟨q1, q2, ob, by show upd H x o b = _; rw [upd_ne (nw b o' nc hb)]; exact q3⟩
  · show upd H x o b ≠ none
    by_cases e : b = x
    · rw [e, upd_same]; simp
    · rw [upd_ne e]; exact h.ex.dom b hb
  · by_cases e : y = x
    · rw [e, upd_same]; exact ⟨by simp, fun xs e => nt xs (Option.some.inj e)⟩
    · rw [upd_ne e]; exact h.cd y hy
theorem St4.newG (h : St4 a w0 H C g c gs cs n z) {p : Addr} {gs' : List Int} (np : H p = none) : St4 a w0 (upd (upd H p (.lst (gs'.map V.int))) a (stO4 c p n z)) (fun x => C x ∨ x = p) p c gs' cs n z := by
  have h1 := h.alloc (o := .lst (gs'.map V.int)) np
  have ne : ∀ {x : Addr} {u : HO}, H x = some u → x ≠ p := fun q e => by rw [e, np] at q; cases q
  have npw : w0.H p = none := h.ex.free np
  have h2 : St4 a w0 (upd H p (.lst (gs'.map V.int))) (fun x => C x ∨ x = p) g c gs cs n z := by
    refine ⟨⟨h1.ex.keep, h1.ex.dom, fun b q => q.elim (h1.ex.newC b) fun e => .inr (by rw [e]; exact npw), fun b q => ?_, fun b q => .inl q⟩, fun x q => ?_, fun x q => .inl (h1.cc x q), .inl h.ha, .inl h.hg, .inl h.hc, h.gc, h1.da, h1.dg, h1.dc⟩
    · rcases q with q | q | q
      · exact .inl q
      · exact h1.ex.newM b (.inr q)
      · exact .inr (by rw [q]; exact npw)
    · rcases q with q | q
      · exact h1.cd x q
      · rw [q, upd_same]; exact ⟨by simp, fun xs e => nomatch e⟩
  obtain ⟨e1, e2⟩ := h2.poke (o := stO4 c p n z) (x := a) h2.ha (fun _ e => nomatch e)
  have pa : p ≠ a := (ne h.da).symm
  exact ⟨e1, e2, fun x q => .inl (h.cc x q), .inl h.ha, .inr rfl, .inl h.hc, (ne h.dc).symm, upd_same, by rw [upd_ne pa, upd_same], by rw [upd_ne (h.ac).symm]; exact h1.dc⟩
theorem St4.setG (h : St4 a w0 H C g c gs cs n z) {gs' : List Int} : St4 a w0 (upd H g (.lst (gs'.map V.int))) C g c gs' cs n z := by
  obtain ⟨e1, e2⟩ := h.poke (o := .lst (gs'.map V.int)) h.hg (fun _ e => nomatch e)
  exact ⟨e1, e2, h.cc, h.ha, h.hg, h.hc, h.gc, by rw [upd_ne h.ag]; exact h.da, upd_same, by rw [upd_ne h.gc.symm]; exact h.dc⟩
theorem St4.setD (h : St4 a w0 H C g c gs cs n z) {n' : Nat} {z' : Int} : St4 a w0 (upd H a (stO4 c g n' z')) C g c gs cs n' z' := by
  obtain ⟨e1, e2⟩ := h.poke (o := stO4 c g n' z') h.ha (fun _ e => nomatch e)
  exact ⟨e1, e2, h.cc, h.ha, h.hg, h.hc, h.gc, upd_same, by rw [upd_ne h.ag.symm]; exact h.dg, by rw [upd_ne h.ac.symm]; exact h.dc⟩
theorem St4.start {M : Addr → Prop} {b : Nat} (wf : Wf ⟨H, M, C⟩) (h : SI4 a b C H) : ∃ g c gs cs n z, n ≤ b ∧ Sml z ∧ 0 < cs.length ∧ St4 a ⟨H, M, C⟩ H C g c gs cs n z := by
  obtain ⟨g, c, gs, cs, n, z, h1, h2, h3, h4, h5, h6, h7, h8, h9, h10⟩ := h
  exact ⟨g, c, gs, cs, n, z, h8, h9, h10, ⟨⟨fun a o _ h => .inl h, fun a h => h, fun a h => .inl h, fun a h => h.elim .inl fun q => .inl (wf.cm a q), fun a h => .inl h⟩, fun x q => ⟨wf.md x (wf.cm x q), fun xs => wf.mt x xs (wf.cm x q)⟩, fun x q => q, h1, h2, h3, h4, h5, h6, h7⟩⟩
theorem St4.nt (h : St4 a w0 H C g c gs cs n z) (wf0 : Wf w0) (x : Addr) (xs : List V) (q : w0.M x ∨ C x) : H x ≠ some (.tup xs) := by
  by_cases e : C x
  · exact (h.cd x e).2 xs
  · rcases q with q | q
    · exact h.ex.ntup (fun y => e (h.cc x y)) q (wf0.md x q) (wf0.mt x xs q)
    · exact absurd q e
theorem St4.done {b b' : Nat} {Q : VK} {Pd : D → Prop} {d : D} {v : V} (h : St4 a w0 H C g c gs cs n z) (wf0 : Wf w0) (hn : n ≤ b') (hz : Sml z) (hl : 0 < cs.length) (hb : b' ≤ b) (p : Pd d) (r : ∀ w, Rp w v d) (hq : ∀ d, Pd d → ∀ b' w' v, b' ≤ b → Ext w0 w' → SI4 a b' w'.C w'.H → Wf w' → Rp w' v d → Q v w'.H) : Q v H :=
  hq d p b' ⟨H, fun x => w0.M x ∨ C x, C⟩ v hb h.ex ⟨g, c, gs, cs, n, z, h.ha, h.hg, h.hc, h.gc, h.da, h.dg, h.dc, hn, hz, hl⟩ ⟨fun x q => .inr q, fun x q => q.elim (fun m => h.ex.dom x (wf0.md x m)) (fun c => (h.cd x c).1), fun x xs q => h.nt wf0 x xs q⟩ (r _)
variable {σ : L2.St} {Q : VK}
theorem St4.getC (S : St4 a w0 H C g c gs cs n z) (h0 : σ[0]? = some (some (.ref a))) (q : Q (.ref c) H) : tDGet (tVar 0) (tC (.str "cells")) σ H Q :=
  ⟨.ref a, h0, a, .ref c, rfl, by have := DGet.k (k := .inr "cells") S.da; rwa [valV_pos rfl] at this, q⟩
theorem St4.getG (S : St4 a w0 H C g c gs cs n z) (h0 : σ[0]? = some (some (.ref a))) (q : Q (.ref g) H) : tDGet (tVar 0) (tC (.str "great")) σ H Q :=
  ⟨.ref a, h0, a, .ref g, rfl, by have := DGet.k (k := .inr "great") S.da; rwa [valV_neg (inr_ne (by decide)), valV_pos rfl] at this, q⟩
theorem St4.getT (S : St4 a w0 H C g c gs cs n z) (h0 : σ[0]? = some (some (.ref a))) (q : Q (.int n) H) : tDGet (tVar 0) (tC (.str "turn")) σ H Q :=
  ⟨.ref a, h0, a, .int n, rfl, by have := DGet.k (k := .inr "turn") S.da; rwa [valV_neg (inr_ne (by decide)), valV_neg (inr_ne (by decide)), valV_pos rfl] at this, q⟩
theorem St4.getS (S : St4 a w0 H C g c gs cs n z) (h0 : σ[0]? = some (some (.ref a))) (q : Q (.int z) H) : tDGet (tVar 0) (tC (.str "sum")) σ H Q :=
  ⟨.ref a, h0, a, .int z, rfl, by have := DGet.k (k := .inr "sum") S.da; rwa [valV_neg (inr_ne (by decide)), valV_neg (inr_ne (by decide)), valV_neg (inr_ne (by decide)), valV_pos rfl] at this, q⟩
theorem St4.putG (S : St4 a w0 H C g c gs cs n z) {p : Addr} : DPut H a (.str "great") (.ref p) (upd H a (stO4 c p n z)) := by
  have h := DPut.k (k := .inr "great") (v := .ref p) S.da (by show 4 < sizeLine; decide)
  exact h
theorem St4.putT (S : St4 a w0 H C g c gs cs n z) {m : Nat} : DPut H a (.str "turn") (.int m) (upd H a (stO4 c g m z)) := by
  have h := DPut.k (k := .inr "turn") (v := .int m) S.da (by show 4 < sizeLine; decide)
  exact h
theorem St4.putS (S : St4 a w0 H C g c gs cs n z) {y : Int} : DPut H a (.str "sum") (.int y) (upd H a (stO4 c g n y)) := by
  have h := DPut.k (k := .inr "sum") (v := .int y) S.da (by show 4 < sizeLine; decide)
  exact h
theorem St4.neG {Qt : Bool → Hp → Prop} (S : St4 a w0 H C g c gs cs n z) (h0 : σ[0]? = some (some (.ref a))) (q : ∀ H', St4 a w0 H' C g c gs cs n z → Qt (decide (gs ≠ [])) H') : tTest (tOp (rV2 neD) (tDGet (tVar 0) (tC (.str "great"))) (tLst tNil)) σ H Qt :=
  S.getG h0 ⟨Nat.zero_le _, fun p np => ne_nil ((S.alloc np).dg) upd_same fun H' sm => ⟨_, rfl, q H' ((S.alloc np).same sm)⟩⟩
end
end DL
namespace DL
open PySem PySem.Spec PyProof.Rows L2 LamX
/-! ### the law's own call, with tables of code objects, for a def whose promise needs that no repr runs -/
/-- what is tracked at the law's entry: the tables, and the script unless it is kept by the fragment -/
structure Ent (P : Program) (w : World) (K : PySem.W.Frag) (s1 : Shared) (a : Addr) (ts : List Addr) (H : Hp) : Prop where
  tb : ∀ t ∈ ts, H t = some (.tbl #[])
  only : ∀ b, H b = none ∨ b ∈ ts ∨ ∃ o xs, H b = some (.frz o (.lst xs))
  ok : HOk P w H s1.heap
  at_ : ∀ b, H b ≠ none → b = a ∨ b ∈ ts
  nk : H a ≠ none → K.lookup a = none
theorem lawG_callT {P : Program} {w : World} {K : PySem.W.Frag} {mg mb : Str → Option Value} {k : Nat} {fa a : Addr} {cs : List (Addr × Addr)} {fd : FuncData} {x : Str} {sp : Sp} {s1 : Shared} {vs : List Value} {ns : List Int} (KX : K.In s1.heap) (hns : s1.heap.Ns mainGlobals mg) (hb : s1.heap.Ns builtinsNs mb)
    (hbb : ∀ x : Str, x ≠ "__name__" → mb x = bootBuiltins x) (hlim : s1.heap.NoLimit) (hg : s1.gens = #[])
    (hT : ∀ p ∈ cs, s1.heap.get? p.2 = some { cls := .none, data := .fields #[] }) (nT : ∀ p ∈ cs, K.lookup p.2 = none) (C : ∀ p ∈ cs, PySem.W.CodeHd s1.heap p.1 p.2)
    (hbm : ∃ (bm : Addr) (ob : Obj), mg "__builtins__" = some (.ref bm) ∧ bm ≠ builtinsNs ∧ s1.heap.get? bm = some ob ∧ ob.cls = .type "module" ∧ ob.dict = some builtinsNs ∧ ob.data = .plain)
    (ha : s1.heap.get? a = some { cls := .type "list", data := .seq vs.toArray }) (hi : IntsAre vs ns) (hl : ns.length ≤ sizeLine) (hr : Room k callerA)
    (F : ∀ base : Heap, K.In base → base.Ns mainGlobals mg → (∀ p ∈ cs, TabB base mg p.1 p.2) → FnG P w K mg base CX0 k fa fd [x] sp) (hbind : ∀ (s : Shared) (u : Value), BindsTo s fd ⟨[u], []⟩ [(x, u)])
    (hsp : ∀ H : Hp, (∀ p ∈ cs, H p.2 = some (.tbl #[])) → (∀ b, H b = none ∨ (∃ ps, H b = some (.tbl ps)) ∨ ∃ o xs, H b = some (.frz o (.lst xs))) → SqL K H a (ns.map V.int) → sp [.ref a] H (fun v _ => v = .bl true) fun _ _ _ => False) :
    codeAny (model P w) callerA (.call (.ref fa) ⟨[.ref a], []⟩) (fun r s' => r = .ok (.ret (.bool true)) ∧ OldK s1.heap s'.heap ∧ s'.os = s1.os ∧ AllBare s'.gens) s1 := by
  have rv := vals_ints hi
  have lenV := hi.length
  generalize hts : cs.map (·.2) = ts
  have inT : ∀ p ∈ cs, p.2 ∈ ts := fun p hp => by rw [← hts]; exact List.mem_map.mpr ⟨p, hp, rfl⟩
  have ofT : ∀ b ∈ ts, ∃ p ∈ cs, p.2 = b := fun b hb => by
    rw [← hts] at hb
    obtain ⟨p, hp, e⟩ := List.mem_map.mp hb
    exact ⟨p, hp, e⟩
  have isT : ∀ b ∈ ts, s1.heap.get? b = some { cls := .none, data := .fields #[] } := fun b hb => by
    obtain ⟨p, hp, rfl⟩ := ofT b hb
    exact hT p hp
  have aT : a ∉ ts := fun z => by
    have q := isT a z
    rw [ha] at q
    cases (show Data.seq vs.toArray _ = Data.fields #[] from congrArg Obj.data (Option.some.inj q))
  have core : ∀ H : Hp, Ent P w K s1 a ts H → SqL K H a (ns.map V.int) → codeAny (model P w) callerA (.call (.ref fa) ⟨[.ref a], []⟩) (fun r s' => r = .ok (.ret (.bool true)) ∧ OldK s1.heap s'.heap ∧ s'.os = s1.os ∧ AllBare s'.gens) s1 := by
    intro H En hS
    have free : ∀ {b : Addr} {o : Obj}, s1.heap.get? b = some o → (∀ vs n, o.data ≠ .seq vs n) → o.data ≠ .fields #[] → H b = none := fun {b o} e h1 h2 => by
      cases q : H b with
      | none => rfl
      | some u =>
        rcases En.at_ b (by rw [q]; simp) with e' | e'
        · rw [e', ha] at e; cases e
          exact (h1 _ _ rfl).elim
        · rw [isT b e'] at e; cases e
          exact (h2 rfl).elim
    have bs : ∀ {b : Addr} {o : Obj}, s1.heap.get? b = some o → H b = none → (hidT s1.heap H).get? b = some o := fun e n => hidT_get e n
    have noA : ∀ {b : Addr} {o : Obj} {es : Array DictEntry} {ep : Nat}, s1.heap.get? b = some o → o.data = .dict es ep → H b = none := fun {b o es ep} e d => free e (fun vs n z => by rw [d] at z; cases z) fun z => by rw [d] at z; cases z
    have nsK : ∀ {b : Addr} {m : Str → Option Value}, s1.heap.Ns b m → (hidT s1.heap H).Ns b m := fun {b m} ⟨o, es, ep, e, d, r⟩ => ⟨o, es, ep, bs e (noA e d), d, r⟩
    have hKb : K.In (hidT s1.heap H) := fun b o e => bs (KX b o e) (by
      cases q : H b with
      | none => rfl
      | some u =>
        rcases En.at_ b (by rw [q]; simp) with e' | e'
        · rw [e'] at e q
          rw [En.nk (by rw [q]; simp)] at e; cases e
        · obtain ⟨p, hp, rfl⟩ := ofT b e'
          rw [nT p hp] at e; cases e)
    have hM : Mod K mg (hidT s1.heap H) := ⟨hKb, nsK hns, ⟨mb, nsK hb, hbb⟩, let ⟨mc, h1, h2⟩ := hlim; ⟨mc, nsK h1, h2⟩⟩
    have TB : ∀ p ∈ cs, TabB (hidT s1.heap H) mg p.1 p.2 := fun p hp => by
      refine ⟨?_, ?_, fun z => ?_⟩
      · obtain ⟨o, us, file, tf, flags, tg, inF, text, tt, e1, r1, r2, r3, rest⟩ := C p hp
        exact ⟨o, us, file, tf, flags, tg, inF, text, tt, bs e1 (free e1 (fun vs n z => by rw [r2] at z; cases z) fun z => by rw [r2] at z; cases z; simp at r3), r1, r2, r3, rest⟩
      · obtain ⟨bm, ob, b1, b2, b3, b4, b5, b6⟩ := hbm
        refine ⟨bm, ob, b1, b2, fun q => ?_, fun q => ?_, bs b3 (free b3 (fun vs n z => by rw [b6] at z; cases z) fun z => by rw [b6] at z; cases z), b4, b5, b6⟩
        · obtain ⟨o, es, ep, e, hd, _⟩ := hns
          rw [q, e] at b3; cases b3
          rw [hd] at b6; cases b6
        · rw [q, hT p hp] at b3; cases b3; cases b6
      · obtain ⟨o, es, ep, e, hd, _⟩ := hns
        rw [z, hT p hp] at e; cases e; cases hd
    have e0 : Env0 P w K mg (hidT s1.heap H) callerA [] s1 H := ⟨rfl, hM, fun b o e => of_hidT e, Nat.le_of_eq (hidT_size _ _), trivial, fun b hb => absurd (show b ∈ ([] : List Addr) from hb) (by simp), En.ok, .of_eq hg⟩
    have oS : ∀ b, H b = none ∨ (∃ ps, H b = some (.tbl ps)) ∨ ∃ o xs, H b = some (.frz o (.lst xs)) := fun b => (En.only b).elim .inl fun z => z.elim (fun z => .inr (.inl ⟨_, En.tb b z⟩)) fun z => .inr (.inr z)
    refine codeAny_mono ((F _ hKb (nsK hns) TB).run callerA [] s1 H ⟨[.ref a], []⟩ [.ref a] [.ref a] _ _ rfl hr e0 (hbind s1 (.ref a)) (.cons rfl .nil) (hsp H (fun p hp => En.tb _ (inT p hp)) oS hS)) fun r s' h => ?_
    cases r with | error e => exact False.elim h | ok fl =>
      cases fl with
      | ret u =>
        obtain ⟨v, H', os, bare, un, hok', r', q⟩ := h
        cases (show v = .bl true from q); cases (show u = Value.bool true from r')
        have key : ∀ b o, b ∉ ts → s1.heap.get? b = some o → s'.heap.get? b = some o := fun b o nb e => by
          cases q : H b with
          | none => exact un.keep b o e q (by intro z; exact absurd (show b ∈ ([] : List Addr) from z) (by simp)) (by simp)
          | some u =>
            rcases En.only b with z | z | ⟨ob, xs, z⟩
            · rw [q] at z; cases z
            · exact absurd z nb
            · have z2 := un.frzs b ob _ z; obtain ⟨e1, _⟩ := En.ok b _ z; obtain ⟨e2, _⟩ := hok' b _ z2
              rw [e] at e1; cases e1; exact e2
        have grown : ∀ b ∈ ts, ∃ more : Array Value, s'.heap.get? b = some { cls := .none, data := .fields more } := fun b hb => by
          obtain ⟨more, z⟩ := un.tbls b #[] (En.tb b hb)
          exact ⟨_, hok' b _ z⟩
        refine ⟨rfl, ⟨fun b o e => ?_, fun b o e => ?_⟩, os, bare⟩
        · by_cases hb : b ∈ ts
          · obtain ⟨more, hm⟩ := grown b hb
            obtain ⟨p, hp, rfl⟩ := ofT b hb
            rw [hT p hp] at e; cases e
            exact .inr (.inl ⟨((C p hp).tab (hT p hp)).isCodeTable, rfl, #[], more, rfl, by rw [Array.empty_append]; exact hm⟩)
          · exact .inl (key b o hb e)
        · by_cases hb : b ∈ ts
          · obtain ⟨more, hm⟩ := grown b hb
            exact ⟨_, hm⟩
          · exact ⟨o, key b o hb e⟩
      | _ => exact False.elim h
  have tbl : ∀ b ∈ ts, ∀ H : Hp, ObjOk P w H s1.heap b (.tbl #[]) := fun b hb H => isT b hb
  cases hk : K.lookup a with
  | some o =>
    have e := KX a o hk
    rw [ha] at e; cases e
    refine core (fun b => if b ∈ ts then some (.tbl #[]) else none) ⟨fun t ht => if_pos ht, fun b => ?_, fun b u z => ?_, fun b z => ?_, fun z => ?_⟩ (.inr ⟨_, vs.toArray, _, hk, rfl, rfl, rfl, by rw [List.size_toArray, lenV]; exact hl, by simpa using rv⟩)
    · by_cases hb : b ∈ ts
      · exact .inr (.inl hb)
      · exact .inl (if_neg hb)
    · by_cases hb : b ∈ ts
      · cases (if_pos hb).symm.trans z; exact tbl b hb _
      · cases (if_neg hb).symm.trans z
    · by_cases hb : b ∈ ts
      · exact .inr hb
      · exact absurd (if_neg hb) z
    · exact absurd (if_neg aT) z
  | none =>
    refine core (fun b => if b = a then some (.frz { cls := .type "list", data := .seq vs.toArray } (.lst (ns.map V.int))) else if b ∈ ts then some (.tbl #[]) else none) ⟨fun t ht => ?_, fun b => ?_, fun b u z => ?_, fun b z => ?_, fun _ => hk⟩ (.inl (.inr ⟨{ cls := .type "list", data := .seq vs.toArray }, if_pos rfl⟩))
    · exact (if_neg fun z => aT (by rw [← z]; exact ht)).trans (if_pos ht)
    · by_cases hb : b = a
      · exact .inr (.inr ⟨_, _, if_pos hb⟩)
      · by_cases hb2 : b ∈ ts
        · exact .inr (.inl hb2)
        · exact .inl ((if_neg hb).trans (if_neg hb2))
    · by_cases hb : b = a
      · cases (if_pos hb).symm.trans z; subst hb
        exact ⟨ha, by rw [List.length_map]; exact hl, vs, _, rv, ha⟩
      · have z1 := (if_neg hb).symm.trans z
        by_cases hb2 : b ∈ ts
        · cases (if_pos hb2).symm.trans z1; exact tbl b hb2 _
        · cases (if_neg hb2).symm.trans z1
    · by_cases hb : b = a
      · exact .inl hb
      · by_cases hb2 : b ∈ ts
        · exact .inr hb2
        · exact absurd ((if_neg hb).trans (if_neg hb2)) z
/-- what the head leaves (case hc), from the promise of the law's def, with tables -/
theorem walkGT {l : PySem.W.OpenLaw} {n k : Nat} {q : Program} {loose : List Str} {XP : (Str → Option Value) → Heap → Prop} {YP : World → Heap → Prop} {d : DefRec} {K : Params → PySem.W.Frag} {cs : List (Addr × Addr)} {sp : World → Sp} {x : Str} (hn : l.most = some n) (hn2 : n ≤ sizeLine) (hdf : d.params.defaults = []) (hr : Room k callerA)
    (hY : ∀ (w : World) (h : Heap), YP w h → (K w.params).In h) (hT : ∀ (w : World) (h : Heap), YP w h → ∀ p ∈ cs, h.get? p.2 = some { cls := .none, data := .fields #[] }) (nT : ∀ w : World, ∀ p ∈ cs, (K w.params).lookup p.2 = none) (hC : ∀ w : World, ∀ p ∈ cs, PySem.W.codeHdIn (K w.params) p.1 p.2 = true)
    (F : ∀ (w : World) (mg : Str → Option Value) (fa : Addr) (h : Heap), (K w.params).In h → h.Ns mainGlobals mg → mg d.name = some (.ref fa) → ∃ fd : FuncData, (∀ (s : Shared) (u : Value), BindsTo s fd ⟨[u], []⟩ [(x, u)]) ∧ ∀ base : Heap, (K w.params).In base → base.Ns mainGlobals mg → (∀ p ∈ cs, TabB base mg p.1 p.2) → FnG l.prog w (K w.params) mg base CX0 k fa fd [x] (sp w))
    (hsp : ∀ (w : World) (H : Hp) (a : Addr) (ns : List Int), ns.length ≤ n → (∀ p ∈ cs, H p.2 = some (.tbl #[])) → (∀ b, H b = none ∨ (∃ ps, H b = some (.tbl ps)) ∨ ∃ o xs, H b = some (.frz o (.lst xs))) → SqL (K w.params) H a (ns.map V.int) → sp w [.ref a] H (fun v _ => v = .bl true) fun _ _ _ => False) : PySem.W.WalkO q loose XP YP l.row.toRowW d [] (fun f vs => PySem.call f vs) := by
  refine Att.attach_call hn hdf fun w s0 s1 mg mb fa o pm cd doc a vs ns G Y ho hd hcd hmg hobj hints hlen hg => ?_
  have KX := hY w _ Y
  obtain ⟨fd, hb, hF⟩ := F w mg fa _ KX G.T.g hmg
  exact lawG_callT KX G.T.g G.T.b G.T.builtins G.T.nolimit hg (hT w _ Y) (nT w) (fun p hp => PySem.W.codeHd_of_K KX (hC w p hp)) G.T.bmain hobj hints (Nat.le_trans hlen hn2) hr hF hb fun H h1 h2 hS => hsp w H a ns hlen h1 h2 hS
end DL
namespace DL
open PySem PySem.Spec PyProof.Rows L2 LamX
/-! ### the law's own state, with tables of code objects -/
/-- the tables, what they tell: all of it the law's own -/
def TabC (T : List (Addr × Str)) (C : Addr → Prop) (H : Hp) : Prop := ∀ p ∈ T, C p.1 ∧ ∃ ps : Array Value, H p.1 = some (.tbl ps) ∧ TriplesOk ps.toList ∧ ∀ (pos : Pos) (cv : Value), codeAmong pos ps.toList = some cv → ∃ c, cv = .ref c ∧ C c ∧ H c = some (CodeO c p.2)
theorem TabC.tabs {T : List (Addr × Str)} {C : Addr → Prop} {H : Hp} (h : TabC T C H) : Tabs T H := fun p hp => by
  obtain ⟨_, ps, h1, h2, h3⟩ := h p hp
  exact ⟨ps, h1, h2, fun pos cv hc => by obtain ⟨c, e, _, k⟩ := h3 pos cv hc; exact ⟨c, e, k⟩⟩
theorem TabC.stab {T : List (Addr × Str)} {C : Addr → Prop} {H H' : Hp} (h : TabC T C H) (k : ∀ a o, C a → H a = some o → H' a = some o) : TabC T C H' := fun p hp => by
  obtain ⟨h0, ps, h1, h2, h3⟩ := h p hp
  exact ⟨h0, ps, k _ _ h0 h1, h2, fun pos cv hc => by obtain ⟨c, e, hC, q⟩ := h3 pos cv hc; exact ⟨c, e, hC, k _ _ hC q⟩⟩
/-- what is neither a dict nor a list stays -/
theorem TabC.frame {T : List (Addr × Str)} {C C' : Addr → Prop} {H H' : Hp} (h : TabC T C H) (cc : ∀ x, C x → C' x) (k : ∀ x o, C x → H x = some o → (∀ kvs, o ≠ .dK kvs) → (∀ xs, o ≠ .lst xs) → H' x = some o) : TabC T C' H' := fun p hp => by
  obtain ⟨h0, ps, h1, h2, h3⟩ := h p hp
  refine ⟨cc _ h0, ps, k _ _ h0 h1 (fun _ z => nomatch z) (fun _ z => nomatch z), h2, fun pos cv hc => ?_⟩
  obtain ⟨c, e, hC, q⟩ := h3 pos cv hc
  exact ⟨c, e, cc _ hC, k _ _ hC q (fun _ z => by unfold CodeO at z; cases z) (fun _ z => by unfold CodeO at z; cases z)⟩
def SI4T (T : List (Addr × Str)) (a : Addr) : SInv := fun b C H => SI4 a b C H ∧ TabC T C H
theorem stab4T (T : List (Addr × Str)) (a : Addr) : Stab (SI4T T a) := fun b C H H' h k => ⟨stab4 a b C H H' h.1 k, h.2.stab k⟩
structure St4T (a : Addr) (w0 : Wd) (g0 : Addr) (H : Hp) (C : Addr → Prop) (g c : Addr) (gs cs : List Int) (n : Nat) (z : Int) : Prop extends St4 a w0 H C g c gs cs n z where
  fr : ∀ x o, x ≠ a → x ≠ g0 → w0.H x = some o → H x = some o
  gf : g = g0 ∨ w0.H g = none
  a0 : ∃ kvs, w0.H a = some (.dK kvs)
  l0 : ∃ xs, w0.H g0 = some (.lst xs)
section
variable {a g0 : Addr} {w0 : Wd} {H : Hp} {C : Addr → Prop} {g c : Addr} {gs cs : List Int} {n : Nat} {z : Int}
theorem St4T.alloc (h : St4T a w0 g0 H C g c gs cs n z) {p : Addr} {o : HO} (np : H p = none) : St4T a w0 g0 (upd H p o) C g c gs cs n z :=
  ⟨h.toSt4.alloc np, fun x u h1 h2 q => by
    have := h.fr x u h1 h2 q
    rw [upd_ne (ne_of_none this np)]; exact this, h.gf, h.a0, h.l0⟩
theorem St4T.same (h : St4T a w0 g0 H C g c gs cs n z) {H' : Hp} (s : Same H H') : St4T a w0 g0 H' C g c gs cs n z :=
  ⟨h.toSt4.same s, fun x u h1 h2 q => s _ _ (h.fr x u h1 h2 q), h.gf, h.a0, h.l0⟩
theorem St4T.newG (h : St4T a w0 g0 H C g c gs cs n z) {p : Addr} {gs' : List Int} (np : H p = none) : St4T a w0 g0 (upd (upd H p (.lst (gs'.map V.int))) a (stO4 c p n z)) (fun x => C x ∨ x = p) p c gs' cs n z :=
  ⟨h.toSt4.newG np, fun x u h1 h2 q => by
    have := h.fr x u h1 h2 q
    rw [upd_ne h1, upd_ne (ne_of_none this np)]; exact this, .inr (h.ex.free np), h.a0, h.l0⟩
theorem St4T.setG (h : St4T a w0 g0 H C g c gs cs n z) {gs' : List Int} : St4T a w0 g0 (upd H g (.lst (gs'.map V.int))) C g c gs' cs n z :=
  ⟨h.toSt4.setG, fun x u h1 h2 q => by
    have ne : x ≠ g := fun e => by
      rcases h.gf with k | k
      · exact h2 (e.trans k)
      · rw [e, k] at q; cases q
    rw [upd_ne ne]; exact h.fr x u h1 h2 q, h.gf, h.a0, h.l0⟩
theorem St4T.setD (h : St4T a w0 g0 H C g c gs cs n z) {n' : Nat} {z' : Int} : St4T a w0 g0 (upd H a (stO4 c g n' z')) C g c gs cs n' z' :=
  ⟨h.toSt4.setD, fun x u h1 h2 q => by rw [upd_ne h1]; exact h.fr x u h1 h2 q, h.gf, h.a0, h.l0⟩
theorem St4T.start {T : List (Addr × Str)} {M : Addr → Prop} {b : Nat} (wf : Wf ⟨H, M, C⟩) (h : SI4T T a b C H) : ∃ g c gs cs n z, n ≤ b ∧ Sml z ∧ 0 < cs.length ∧ TabC T C H ∧ St4T a ⟨H, M, C⟩ g H C g c gs cs n z := by
  obtain ⟨g, c, gs, cs, n, z, h1, h2, h3, S⟩ := St4.start wf h.1
  exact ⟨g, c, gs, cs, n, z, h1, h2, h3, h.2, S, fun x o _ _ q => q, .inl rfl, ⟨_, S.da⟩, ⟨_, S.dg⟩⟩
theorem St4T.tabs {T : List (Addr × Str)} (h : St4T a w0 g0 H C g c gs cs n z) (t : TabC T w0.C w0.H) : TabC T C H := t.frame h.cc fun x o _ q h1 h2 => h.fr x o (fun e => by obtain ⟨kvs, k⟩ := h.a0; rw [e, k] at q; cases q; exact h1 _ rfl) (fun e => by obtain ⟨xs, k⟩ := h.l0; rw [e, k] at q; cases q; exact h2 _ rfl) q
theorem St4T.done {T : List (Addr × Str)} {b b' : Nat} {Q : VK} {Pd : D → Prop} {d : D} {v : V} (h : St4T a w0 g0 H C g c gs cs n z) (t : TabC T w0.C w0.H) (wf0 : Wf w0) (hn : n ≤ b') (hz : Sml z) (hl : 0 < cs.length) (hb : b' ≤ b) (p : Pd d) (r : ∀ w, Rp w v d) (hq : ∀ d, Pd d → ∀ b' w' v, b' ≤ b → Ext w0 w' → SI4T T a b' w'.C w'.H → Wf w' → Rp w' v d → Q v w'.H) : Q v H :=
  hq d p b' ⟨H, fun x => w0.M x ∨ C x, C⟩ v hb h.ex ⟨⟨g, c, gs, cs, n, z, h.ha, h.hg, h.hc, h.gc, h.da, h.dg, h.dc, hn, hz, hl⟩, h.tabs t⟩ ⟨fun x q => .inr q, fun x q => q.elim (fun m => h.ex.dom x (wf0.md x m)) (fun c => (h.cd x c).1), fun x xs q => h.nt wf0 x xs q⟩ (r _)
variable {σ : L2.St} {Q : VK}
theorem St4T.getC (S : St4T a w0 g0 H C g c gs cs n z) (h0 : σ[0]? = some (some (.ref a))) (q : Q (.ref c) H) : tDGet (tVar 0) (tC (.str "cells")) σ H Q := S.toSt4.getC h0 q
theorem St4T.getG (S : St4T a w0 g0 H C g c gs cs n z) (h0 : σ[0]? = some (some (.ref a))) (q : Q (.ref g) H) : tDGet (tVar 0) (tC (.str "great")) σ H Q := S.toSt4.getG h0 q
theorem St4T.getT (S : St4T a w0 g0 H C g c gs cs n z) (h0 : σ[0]? = some (some (.ref a))) (q : Q (.int n) H) : tDGet (tVar 0) (tC (.str "turn")) σ H Q := S.toSt4.getT h0 q
theorem St4T.getS (S : St4T a w0 g0 H C g c gs cs n z) (h0 : σ[0]? = some (some (.ref a))) (q : Q (.int z) H) : tDGet (tVar 0) (tC (.str "sum")) σ H Q := S.toSt4.getS h0 q
theorem St4T.putG (S : St4T a w0 g0 H C g c gs cs n z) {p : Addr} : DPut H a (.str "great") (.ref p) (upd H a (stO4 c p n z)) := S.toSt4.putG
theorem St4T.putT (S : St4T a w0 g0 H C g c gs cs n z) {m : Nat} : DPut H a (.str "turn") (.int m) (upd H a (stO4 c g m z)) := S.toSt4.putT
theorem St4T.putS (S : St4T a w0 g0 H C g c gs cs n z) {y : Int} : DPut H a (.str "sum") (.int y) (upd H a (stO4 c g n y)) := S.toSt4.putS
theorem St4T.neG {Qt : Bool → Hp → Prop} (S : St4T a w0 g0 H C g c gs cs n z) (h0 : σ[0]? = some (some (.ref a))) (q : ∀ H', St4T a w0 g0 H' C g c gs cs n z → Qt (decide (gs ≠ [])) H') : tTest (tOp (rV2 neD) (tDGet (tVar 0) (tC (.str "great"))) (tLst tNil)) σ H Qt :=
  S.getG h0 ⟨Nat.zero_le _, fun p np => ne_nil ((S.alloc np).dg) upd_same fun H' sm => ⟨_, rfl, q H' ((S.alloc np).same sm)⟩⟩
end
end DL
/-! A lambda handed to a def: what its making does to the table, told sharply enough for a law's own objects. -/
namespace DL
open PySem PySem.Spec PyProof.Rows L2 LamX
/-- the table has grown by new code objects, or not at all; they joined C; all else is as it was -/
structure Grow (T : List (Addr × Str)) (C C1 : Addr → Prop) (H H1 : Hp) : Prop where
  cc : ∀ x, C x → C1 x
  nw : ∀ x, C1 x → C x ∨ (H x = none ∧ H1 x ≠ none ∧ ∀ xs, H1 x ≠ some (.tup xs))
  eq : ∀ x, ¬ C1 x → H1 x = H x
  ext : ExtN H H1
  tb : ∀ a o, H a = some o → H1 a = some o ∨ ∃ ps, H1 a = some (.tbl ps)
  tab : TabC T C1 H1
theorem Grow.refl {T : List (Addr × Str)} {C : Addr → Prop} {H : Hp} (t : TabC T C H) : Grow T C C H H := ⟨fun _ c => c, fun _ c => .inl c, fun _ _ => rfl, ExtN.refl H, fun _ _ h => .inl h, t⟩
theorem grow_new {T : List (Addr × Str)} {C : Addr → Prop} {H : Hp} {P c' : Addr} {q : Str} {ps : Array Value} {pos : Pos} (t : TabC T C H) (hm : (P, q) ∈ T) (hu : ∀ p ∈ T, p.1 = P → p.2 = q) (hP : H P = some (.tbl ps)) (ht : TriplesOk ps.toList) (nC : H c' = none) :
    Grow T C (fun x => C x ∨ x = c') H (upd (upd H P (.tbl (ps ++ #[rawInt pos.line, rawInt pos.col, .ref c']))) c' (CodeO c' q)) := by
  have hE : ExtN H (upd (upd H P (.tbl (ps ++ #[rawInt pos.line, rawInt pos.col, .ref c']))) c' (CodeO c' q)) := fun b o e n => by
    have h1 : b ≠ c' := ne_of_none e nC
    have h2 : b ≠ P := fun z => n ps (Option.some.inj (e.symm.trans (by rw [z]; exact hP)))
    rw [upd_ne h1, upd_ne h2]
    exact e
  refine ⟨fun _ c => .inl c, fun x c => ?_, fun x n => ?_, hE, fun a o h => ?_, fun p hp => ?_⟩
  · rcases c with c | rfl
    · exact .inl c
    · exact .inr ⟨nC, by rw [upd_same]; simp, fun xs z => by rw [upd_same] at z; unfold CodeO at z; cases z⟩
  · have h1 : x ≠ c' := fun z => n (.inr z)
    have h2 : x ≠ P := fun z => n (.inl (z ▸ (t _ hm).1))
    rw [upd_ne h1, upd_ne h2]
  · have h1 : a ≠ c' := ne_of_none h nC
    by_cases h2 : a = P
    · exact .inr ⟨_, by rw [upd_ne h1, h2, upd_same]⟩
    · exact .inl (by rw [upd_ne h1, upd_ne h2]; exact h)
  · obtain ⟨hc, ps', a1, a2, a3⟩ := t p hp
    refine ⟨.inl hc, ?_⟩
    by_cases hb : p.1 = P
    · rw [hu p hp hb, hb]
      have eps : ps' = ps := by
        rw [hb, hP] at a1
        cases a1; rfl
      subst eps
      have eL : (ps' ++ #[rawInt pos.line, rawInt pos.col, .ref c']).toList = ps'.toList ++ [rawInt pos.line, rawInt pos.col, .ref c'] := by simp
      refine ⟨_, by rw [upd_ne (ne_of_none hP nC), upd_same], by rw [eL]; exact PySem.TriplesOk_snoc _ _ _ _ ht, fun p' cv hcv => ?_⟩
      rw [eL] at hcv
      rcases among_app _ ht hcv with z | z
      · obtain ⟨c0, e1, e2, e3⟩ := a3 p' cv z
        rw [hu p hp hb] at e3
        exact ⟨c0, e1, .inl e2, hE _ _ e3 codeO_ne⟩
      · exact ⟨c', z, .inr rfl, upd_same⟩
    · refine ⟨ps', by rw [upd_ne (ne_of_none a1 nC), upd_ne hb]; exact a1, a2, fun p' cv hcv => ?_⟩
      obtain ⟨c0, e1, e2, e3⟩ := a3 p' cv hcv
      exact ⟨c0, e1, .inl e2, hE _ _ e3 codeO_ne⟩
theorem Grow.er {T : List (Addr × Str)} {G : Gh} {b : Nat} {M C C1 : Addr → Prop} {H H1 : Hp} {env : Ev} {σ : L2.St} (g : Grow T C C1 H H1) (er : ER (G.at b) ⟨H, M, C⟩ env σ) (si : G.SI b C1 H1) :
    ER (G.at b) ⟨H1, fun x => M x ∨ C1 x, C1⟩ env σ ∧ Ext ⟨H, M, C⟩ ⟨H1, fun x => M x ∨ C1 x, C1⟩ := by
  have dom : ∀ a, H a ≠ none → H1 a ≠ none := fun a h => by
    cases q : H a with
    | none => exact absurd q h
    | some o => rcases g.tb a o q with z | ⟨ps, z⟩ <;> rw [z] <;> simp
  have ex : Ext ⟨H, M, C⟩ ⟨H1, fun x => M x ∨ C1 x, C1⟩ := by
    refine ⟨fun a o n h => .inl ?_, dom, fun a c => (g.nw a c).imp id fun q => q.1, fun a m => m.elim .inl fun c => (g.nw a c).imp (er.cm a) fun q => q.1, fun a m => .inl m⟩
    exact (g.eq a fun c => (g.nw a c).elim n fun q => by rw [show H a = some o from h] at q; cases q.1).trans h
  refine ⟨er.ext' ex (er.toEH.ext ex si ⟨fun a c => .inr c, fun a m => ?_, fun a xs m z => ?_⟩), ex⟩
  · rcases m with m | c
    · exact dom a (er.md a m)
    · exact (g.nw a c).elim (fun c => dom a (er.md a (er.cm a c))) fun q => q.2.1
  · have old : M a → False := fun m => by
      cases q : H a with
      | none => exact er.md a m q
      | some o =>
        rcases g.tb a o q with r | ⟨ps, r⟩
        · exact er.mt a xs m (q.trans (r.symm.trans z))
        · have z' : H1 a = some (.tup xs) := z
          rw [r] at z'; cases z'
    rcases m with m | c
    · exact old m
    · exact (g.nw a c).elim (fun c => old (er.cm a c)) fun q => q.2.2 xs z
section
variable {X : Cx} {pins : List (Addr × Obj)} {σ : L2.St} {H : Hp} {s : Shared}
theorem lam_makeC {T : List (Addr × Str)} {C : Addr → Prop} {c P : Addr} {params : Arguments} {body : Expr} {scope : Scope} {pos : Pos} {E : Value → Shared → Prop} {Q : Value → Shared → Prop} (I : Inv X pins σ H s) (TB : TabB X.base X.mg c P) (hcode : X.env.code = .ref c)
    (hm : (P, X.env.qual ++ "<lambda>") ∈ T) (hu : ∀ p ∈ T, p.1 = P → p.2 = X.env.qual ++ "<lambda>") (hT : TabC T C H) (hdef : defaultsOf params X.env = ([], [])) (hfree : ∀ y ∈ scope.names, y.2 = .free → ∃ c, X.env.cells.lookup y.1 = some c)
    (h : ∀ (f c' : Addr) (pm ctv : Value) (C1 : Addr → Prop) (H1 : Hp) (s' : Shared), Inv X pins σ H1 s' → Grow T C C1 H H1 →
      s'.heap.get? f = some (PySem.W.kla_obj "<lambda>" (X.env.qual ++ "<lambda>") params body scope (cloFrom X.env.cells scope.names []) pm c' ctv) → H1 f = none → f ∉ frs X.stack → H1 c' = some (CodeO c' (X.env.qual ++ "<lambda>")) → Q (.ref f) s') :
    wpAny (model X.prog X.w) X.A (eval (.Lambda params body scope pos) X.env) Q E s := by
  obtain ⟨_, ps, hP, ht, ha⟩ := hT _ hm
  have bP : s.heap.BuiltinsAt X.mg P := TB.bm.keeps I.bk
  have hP' : s.heap.get? P = some { cls := .none, data := .fields ps } := I.hok P _ hP
  have nofr : ∀ f, s.heap.objs.size ≤ f → f ∉ frs X.stack := fun f hf z => by
    rcases List.mem_cons.mp (I.stkSub _ z) with e | e
    · have h1 := I.lt
      rw [← e] at h1
      exact absurd h1 (Nat.not_lt.mpr hf)
    · exact I.nofs hf e
  refine PySem.W.kla_eval hdef ?_
  cases hc : codeAmong pos ps.toList with
  | some cv =>
    obtain ⟨c', e, _, hco⟩ := ha pos cv hc
    subst e
    exact PySem.W.kla_makeFunctionHit (mg := X.mg) (c := c) (P := P) (ps := ps) (closure_ok hfree) I.ok.glob (I.mod.glob.keeps I.bk) hcode (TB.code.keeps I.bk) hP' ht hc bP fun ctv h' tk hx hsz =>
      h h'.objs.size c' ((X.mg "__name__").getD .none) ctv C H _ (I.kept fun b o e => Heap.get?_push_of_some _ (hx b o e)) (.refl hT) (Heap.get?_push_size _ rfl) (I.hok.fresh hsz) (nofr _ hsz) hco
  | none =>
    refine PySem.W.kla_makeFunction (mg := X.mg) (c := c) (P := P) (ps := ps) (closure_ok hfree) I.ok.glob (I.mod.glob.keeps I.bk) hcode (TB.code.keeps I.bk) hP' ht hc TB.gP bP fun c' ctv h' tk hx hge hlt hrec htb => ?_
    obtain ⟨_, oc, vs, t, e2, hoc, hd, hv⟩ := hrec
    cases e2
    have hsz : s.heap.objs.size ≤ h'.objs.size := by omega
    have I1 := inv_table (t' := tk) (more := #[rawInt pos.line, rawInt pos.col, .ref c']) (h' := h'.push (PySem.W.kla_obj "<lambda>" (X.env.qual ++ "<lambda>") params body scope (cloFrom X.env.cells scope.names []) ((X.mg "__name__").getD .none) c' ctv)) I hP
      (fun b o hb e => Heap.get?_push_of_some _ (hx b o hb e)) (Heap.get?_push_of_some _ htb) hge ⟨oc, vs, t, Heap.get?_push_of_some _ hoc, hd, hv⟩
    refine h h'.objs.size c' ((X.mg "__name__").getD .none) ctv _ _ _ I1 (grow_new (pos := pos) hT hm hu hP ht (I.hok.fresh hge)) (Heap.get?_push_size _ rfl) ?_ (nofr _ hsz) upd_same
    have n1 : h'.objs.size ≠ c' := by omega
    have n2 : h'.objs.size ≠ P := Nat.ne_of_gt (Nat.lt_of_lt_of_le (Heap.lt_size hP') hsz)
    rw [upd_ne n1, upd_ne n2]
    exact I.hok.fresh hsz
end
/-! ### x(lambda: body) -/
def tLamC (T : List (Addr × Str)) (TT : (XK → Hp → VK → Prop) → Hp → VK → Prop) (t : XK → TE) : TE := fun σ H Q => ∃ C, TabC T C H ∧ ∀ C1 H1, Grow T C C1 H H1 → TT (fun E H' Q' => t E σ H' Q') H1 Q
section
variable {X : Cx}
theorem pe_lamcallC {T : List (Addr × Str)} {TT : (XK → Hp → VK → Prop) → Hp → VK → Prop} {x a : Str} {g c P : Addr} {k : Nat} {pg : Arguments} {bg : List Stmt} {sg : Scope} {dV kV doc pm cdv ct oc : Value} {an od : Option Addr} {osl : Array (Option Value)} {Ng : List Str}
    {params : Arguments} {body : Expr} {scope : Scope} {t : XK → TE} {p lpos pos : Pos} (hg : Gl X x) (hm : X.mg x = some (.ref g)) (hk : PySem.W.keepIn X.K (.ref g) = true)
    (lk : X.K.lookup g = some ⟨oc, od, .func (PySem.W.fnOf x x pg bg sg dV kV doc pm an cdv ct), osl⟩) (hcg : PySem.W.codeIn X.K cdv x = true) (hb : L2.Binds X.K (PySem.W.fnOf x x pg bg sg dV kV doc pm an cdv ct) [a] []) (Sg : FnScope Ng [a] sg) (hNg : Ng[0]? = some a) (hva : Vis sg a)
    (hG : GivesTo X Ng x sg g cdv bg a (X.env.qual ++ "<lambda>") TT)
    (TB : TabB X.base X.mg c P) (hcode : X.env.code = .ref c) (hmT : (P, X.env.qual ++ "<lambda>") ∈ T) (hu : ∀ p ∈ T, p.1 = P → p.2 = X.env.qual ++ "<lambda>") (hr : Room (k + 2) X.A) (L : LamS X.env.scope scope) (hdef : defaultsOf params X.env = ([], []))
    (hbind : ∀ (q : Str) (cl : List (Str × Addr)) (pm cv ctv : Value), bindArgs (PySem.W.kla_fn "<lambda>" q params body scope cl pm cv ctv) ⟨[], []⟩ = pure [])
    (hbody : ∀ (A : Around) (outer : List Env) (s : Shared) (H : Hp) (E : XK) (f c' : Addr), Room k (A.deeper (lamEnv X scope s.heap.objs.size f c')) → PE (lamCx X A outer s H E scope f c') body (t E))
    (hdb : (x == ("__debug__" : Str)) = false := by decide) (hd : (a == ("__debug__" : Str)) = false := by decide) (hcd : (a == ("__classdict__" : Str)) = false := by decide) :
    PE X (.Call (.Name x p) [.Lambda params body scope lpos] [] pos) (tLamC T TT t) := by
  refine ⟨fun pins s σ H Q I h => ?_⟩
  obtain ⟨C, hT, h⟩ := h
  refine wpAny_Call_Name_kw (ld_glob I hg hm ?_ hdb)
  refine PySem.W.callWith_K (h₀ := X.base) I.ok.mod.kin hk ?_ (by rfl) (by rfl)
  show wpAny _ _ (spliced ((false, eval (.Lambda params body scope lpos) X.env) :: backTo pos (starEach [] X.env))) _ _ s
  refine Calls.spliced_cons (lam_makeC I TB hcode hmT hu hT hdef (L.has I.ok) fun f c' pm' ctv C1 H1 s' I1 G1 hf hfn hfr hco => ?_)
  refine Calls.spliced_nil ⟨I1.kIn, wpAny_call (codeAny_mono (?_ : codeAny (model X.prog X.w) X.A (.call (.ref g) ⟨[.ref f], []⟩) (CR C8.CX0 X.stack X.prog X.w H1 s' Q C8.E0) s') fun r s2 hq => ?_)⟩
  · refine run_ofS (N := Ng) (ps := [a]) (us := [.ref f]) (vs := [.ref f]) lk hcg Sg hr I1.env0 (hb s' [.ref f] I1.kIn rfl) (.cons rfl .nil) rfl fun hr' => ?_
    obtain ⟨t', ht', hq'⟩ := hG f c' s' H1 Q (fun E H' Q' => t E σ H' Q') (fun W pn xe E p1 p2 tk hW => pe_act (i := 0) I1 L hf hfn hfr (hbind _ _ _ _ _) tk hW hr' (fun A outer s H hr2 => hbody A outer s H E f c' hr2) hNg hva hd hcd) hco (h C1 H1 G1)
    exact ⟨t', ht'.nox, hq'⟩
  · cases r with
    | error e => exact (show False from hq).elim
    | ok fl => cases fl with
      | ret u => exact I1.after hq
      | next => exact False.elim hq
      | brk => exact False.elim hq
      | cont => exact False.elim hq
end
end DL
/-! The body of a lambda, read in a ghost of its own; its end, told in the law's world. -/
namespace DL
open PySem PySem.Spec PyProof.Rows L2 LamX
/-- an own object, as the lambda sees it -/
def Sl.bd : Sl → Sl
  | .own d => .bw d
  | .ab _ _ => .no
  | s => s
theorem ER.bd {SI : SInv} {st : Stab SI} {G : Gh} {b b' : Nat} {H : Hp} {M C : Addr → Prop} {env : Ev} {σ : L2.St} (er : ER (G.at b) ⟨H, M, C⟩ env σ) (si : SI b' C H) (mh : ∀ a, M a → H a ≠ none) : ER ((ghOf SI st H M C mh).at b') ⟨H, M, C⟩ (env.map Sl.bd) σ := by
  refine ⟨⟨fun a o q => ?_, fun a m => m, fun a c => .inl c, fun a c => ghOf_pt0 c, er.cm, er.md, fun a q => q, fun p hp => (nomatch hp), si, er.mt⟩, ?_, fun i s ov h1 h2 => ?_, OD.tame fun i s h1 hs => ?_⟩
  · by_cases c : C a
    · have q' := (ghOf_pt0 (H := H) c).symm.trans q; cases q'
    · exact .inl ((ghOf_pt c).symm.trans q)
  · rw [List.length_map]; exact er.len
  · rw [List.getElem?_map] at h1
    obtain ⟨s0, g1, rfl⟩ := Option.map_eq_some_iff.mp h1
    have q := er.sl i s0 ov g1 h2
    have some_of : ∀ a, M a → ¬ C a → ∃ o, ghPt C H a = some o := fun a m n => by
      cases z : H a with
      | none => exact absurd z (mh a m)
      | some o => exact ⟨o, (ghOf_pt n).trans z⟩
    cases s0 with
    | no => trivial
    | fz d => exact q
    | raw v => exact q
    | own d =>
      obtain ⟨a, e, m, n, _, _, o⟩ := q
      exact ⟨a, e, m, n, some_of a m n, o⟩
    | bw d =>
      obtain ⟨a, e, m, n, _, o⟩ := q
      exact ⟨a, e, m, n, some_of a m n, o⟩
    | ab _ _ => trivial
  · exfalso
    rw [List.getElem?_map] at h1
    obtain ⟨s0, _, h1⟩ := Option.map_eq_some_iff.mp h1
    subst h1
    cases s0 <;> cases hs
/-- from the lambda's end back to the world in which it began -/
theorem lam_fin {SI : SInv} {st : Stab SI} {b' : Nat} {H : Hp} {M C : Addr → Prop} {mh : ∀ a, M a → H a ≠ none} {w' : Wd} (wf : Wf ⟨H, M, C⟩) (eh : EH ((ghOf SI st H M C mh).at b') w') :
    Ext ⟨H, M, C⟩ ⟨w'.H, fun a => M a ∨ w'.C a, w'.C⟩ ∧ Wf ⟨w'.H, fun a => M a ∨ w'.C a, w'.C⟩ ∧ St1 w' ⟨w'.H, fun a => M a ∨ w'.C a, w'.C⟩ :=
  ⟨⟨fun a o n h => eh.kp a o ((ghOf_pt n).trans h), eh.hd, eh.nc, fun a m => m.elim .inl fun c => (eh.nc a c).imp (wf.cm a) id, fun a m => .inl m⟩,
    ⟨fun a c => .inr c, fun a m => eh.md a (m.elim (eh.m0 a) (eh.cm a)), fun a xs m => eh.mt a xs (m.elim (eh.m0 a) (eh.cm a))⟩,
    ⟨fun a o _ h => .inl h, fun a m => .inl (Or.elim m (eh.m0 a) (eh.cm a))⟩⟩
/-- what a kept value of the lambda is in that world -/
theorem lam_val {SI : SInv} {st : Stab SI} {b' : Nat} {H : Hp} {M C : Addr → Prop} {mh : ∀ a, M a → H a ≠ none} {w' : Wd} {v : V} {dv : Dv} {d : D} (wf : Wf ⟨H, M, C⟩) (eh : EH ((ghOf SI st H M C mh).at b') w') (rv : VR ((ghOf SI st H M C mh).at b') H w' v dv) (hk : dv.kept = some d) : Rp ⟨w'.H, fun a => M a ∨ w'.C a, w'.C⟩ v d :=
  (rv.rp hk).st (lam_fin wf eh).2.2
/-! ### the lambda's reading -/
/-- E: where its errors go -/
def tLm (cm : CM) (SIc : Nat → SInv) (we : EX → WE) (c0 : Nat) : XK → TE := fun E σ H Q => ∃ (G : Gh) (Ex : EX), (∃ b, G.SI = SIc b) ∧ XOk cm G (fun cls d _ H' => E cls d H') Ex ∧ tV G (we Ex) c0 σ H Q
/-- the def that calls it: RV what it makes of the value, EE of an error -/
def TTHeard (RV : V → Hp → VK → Prop) (EE : Value → Option Addr → Hp → VK → Prop) : (XK → Hp → VK → Prop) → Hp → VK → Prop := fun tl H Q => tl (fun cls o H' => EE cls o H' Q) H fun v H1 => RV v H1 Q
def wHeard (we : EX → WE) (ok : D → D) (err : Xd → Option D) : WE := fun env P => we (fun _ x => ∃ d, err x = some d ∧ P (mkDv d)) (env.map Sl.bd) fun dv => ∃ d, dv.kept = some d ∧ P (mkDv (ok d))
def RVOk (RV : V → Hp → VK → Prop) (ok : D → D) : Prop := ∀ (w : Wd) (v : V) (d : D) (Q : VK), Wf w → Rp w v d → (∀ v' H', Same w.H H' → VN w H' v' (ok d) → Q v' H') → RV v w.H Q
def EEOk (cm : CM) (EE : Value → Option Addr → Hp → VK → Prop) (err : Xd → Option D) : Prop := ∀ (w : Wd) (cls : Value) (o : Option Addr) (x : Xd) (d : D) (Q : VK), Wf w → XR cm w cls o x → err x = some d → (∀ v' H', Same w.H H' → VN w H' v' d → Q v' H') → EE cls o w.H Q
theorem rd_heard {T : List (Addr × Str)} {cm : CM} {G : Gh} {we : EX → WE} {ok : D → D} {err : Xd → Option D} {RV : V → Hp → VK → Prop} {EE : Value → Option Addr → Hp → VK → Prop} {c0 c : Nat} {σ : L2.St} {H : Hp} {Q : VK} (hSI : ∀ b C H, G.SI b C H → TabC T C H) (hg : ∀ b C C1 H H1, G.SI b C H → Grow T C C1 H H1 → G.SI b C1 H1)
    (hRV : RVOk RV ok) (hEE : EEOk cm EE err) (hc0 : c0 ≤ cap) (h : tV G (wHeard we ok err) c σ H Q) : tLamC T (TTHeard RV EE) (tLm cm (fun b _ C H => G.SI b C H) we c0) σ H Q := by
  obtain ⟨env, M, C, b, P, hb, er0, hw, lf⟩ := h
  refine ⟨C, hSI b C H er0.si, fun C1 H1 g => ?_⟩
  have si1 : G.SI b C1 H1 := hg _ _ _ _ _ er0.si g
  obtain ⟨er1, ex1⟩ := g.er er0 si1
  let SI' : SInv := fun _ C H => G.SI b C H
  have st' : Stab SI' := fun _ C H H' h k => G.stab b C H H' h k
  have wf1 : Wf ⟨H1, fun x => M x ∨ C1 x, C1⟩ := ⟨er1.cm, er1.md, er1.mt⟩
  have fin : ∀ (b' : Nat) (w' : Wd), EH ((ghOf SI' st' H1 (fun x => M x ∨ C1 x) C1 er1.md).at b') w' → ∀ d, P (mkDv d) → ∀ v H', Same w'.H H' → VN ⟨w'.H, fun a => (M a ∨ C1 a) ∨ w'.C a, w'.C⟩ H' v d → Q v H' := fun b' w' eh d p v H' sm vn => by
    obtain ⟨e, wf, _⟩ := lam_fin wf1 eh
    have er2 := er1.ext' e (er1.toEH.ext (b' := b) e eh.si wf)
    have f : Fin G (b + c) σ env ⟨H, M, C⟩ Q P := lf
    exact (f.ext (b2 := b) (ex1.trans e) (by omega)).pure er2 p sm vn
  refine ⟨ghOf SI' st' H1 (fun x => M x ∨ C1 x) C1 er1.md, _, ⟨b, rfl⟩, fun env' x hx b' w σ' cls o hb' er' xr => ?_, env.map Sl.bd, fun x => M x ∨ C1 x, C1, 0, _, by omega, er1.bd (SI := SI') (st := st') (b' := 0) si1 er1.md, hw, fun dv hp b' w' v hb' er' e' rv => ?_⟩
  · obtain ⟨d, hd, p⟩ := hx
    obtain ⟨e, wf, s⟩ := lam_fin wf1 er'.toEH
    exact hEE ⟨w.H, fun a => (M a ∨ C1 a) ∨ w.C a, w.C⟩ cls o x d Q wf (xr.st s) hd fun v' H' sm vn => fin b' w er'.toEH d p v' H' sm vn
  · obtain ⟨d, hk, p⟩ := hp
    obtain ⟨e, wf, s⟩ := lam_fin wf1 er'.toEH
    exact hRV ⟨w'.H, fun a => (M a ∨ C1 a) ∨ w'.C a, w'.C⟩ v d Q wf (lam_val wf1 er'.toEH rv hk) fun v' H' sm vn => fin b' w' er'.toEH (ok d) p v' H' sm vn
end DL
namespace DL
open PySem PySem.Spec PyProof.Rows L2 LamX
/-! ### the law's def, with tables -/
def SIT (T : List (Addr × Str)) (SIa : Addr → SInv) (a : Addr) : SInv := fun b C H => SIa a b C H ∧ TabC T C H
theorem stT {SIa : Addr → SInv} (st : ∀ a, Stab (SIa a)) (T : List (Addr × Str)) (a : Addr) : Stab (SIT T SIa a) := fun b C H H' h k => ⟨st a b C H H' h.1 k, h.2.stab k⟩
theorem mono4 : ∀ (a : Addr) (b : Nat) (C C' : Addr → Prop) (H : Hp), SI4 a b C H → (∀ x, C x → C' x) → SI4 a b C' H := fun a b C C' H ⟨g, c, gs, cs, n, z, h1, h2, h3, r⟩ k => ⟨g, c, gs, cs, n, z, k _ h1, k _ h2, k _ h3, r⟩
def spLawT (K : PySem.W.Frag) (T : List (Addr × Str)) : Sp := fun vs H Q _ => ∃ (a0 : Addr) (ns : List Int), vs = [.ref a0] ∧ ns.length ≤ 63 ∧ (∀ p ∈ T, H p.1 = some (.tbl #[])) ∧ (∀ b, H b = none ∨ (∃ ps, H b = some (.tbl ps)) ∨ ∃ o xs, H b = some (.frz o (.lst xs))) ∧ SqL K H a0 (ns.map V.int) ∧ ∀ H', Q (.bl true) H'
theorem fn_lawT {T : List (Addr × Str)} {SIa : Addr → SInv} (mono : ∀ a b C C' H, SIa a b C H → (∀ x, C x → C' x) → SIa a b C' H) (st : ∀ a, Stab (SIa a)) {P : Program} {w : World} {K : PySem.W.Frag} {mg : Str → Option Value} {base : Heap} {stm s0 : Stmt} {rest : List Stmt} {f : Addr} {fd : FuncData} {N : List Str} {x : Str} {k c m : Nat} {ws : Addr → Addr → Nat → WS}
    (F : Fun K "law" "law" stm f fd) (S : FnScope N [x] (defScope stm)) (hN : N.length = m + 2) (hb : defBody stm = s0 :: rest)
    (h0 : ∀ (cdv : Value) (A : Around) (outer : List Env) (s : Shared) (H : Hp) (E : XK), A.guards = some [] → Room k (A.deeper (envOfC "law" (defScope stm) s.heap.objs.size f cdv)) → PS (cxOf CX0 P w K mg base N "law" (defScope stm) f cdv A outer s H E).nox s0 (tAsg (tCall (spBeg K SIa) [] E0 (tCons (tVar 0) tNil)) (gName 1)))
    (hrest : ∀ (a a0 : Addr) (n : Nat) (G : Gh) (cdv : Value) (A : Around) (outer : List Env) (s : Shared) (H : Hp) (E : XK), G.SI = SIT T SIa a → Scr K G a0 n → A.guards = some [] → Room k (A.deeper (envOfC "law" (defScope stm) s.heap.objs.size f cdv)) → DSs (cxOf CX0 P w K mg base N "law" (defScope stm) f cdv A outer s H E).nox G rest (ws a a0 n) c)
    (hd : ∀ (a a0 : Addr) (n : Nat), n ≤ 63 → ws a a0 n (lawEnv a0 a m) lawEnds) (hc : c ≤ cap := by decide +kernel) : FnG P w K mg base CX0 (k + 1) f fd [x] (spLawT K T) := by
  obtain ⟨oc, od, kV, doc, pm, an, cdv, ct, osl, rfl, lk, hcd⟩ := F.ex
  refine fnG_of lk hcd S (fun vs H Q E h => ?_) fun A outer s H vs Q E hgd hr h => ?_
  · obtain ⟨a0, ns, rfl, _⟩ := h
    rfl
  · obtain ⟨a0, ns, rfl, hl, hT, hO, hS, hq⟩ := h
    have dR : PSs (cxOf CX0 P w K mg base N "law" (defScope stm) f cdv A outer s H E).nox rest (fun D σ H => ∃ a a0 n G, G.SI = SIT T SIa a ∧ Scr K G a0 n ∧ tS G (ws a a0 n) c D σ H) := ⟨fun pins s' σ H' T I ⟨a, a0, n, G, h1, h2, q⟩ => (hrest a a0 n G cdv A outer s H E h1 h2 hgd hr).run pins s' σ H' T I q⟩
    have dA := (pss_cons (h0 cdv A outer s H E hgd hr) dR).nox
    rw [← hb] at dA
    refine ⟨_, dA, ?_⟩
    refine ⟨.ref a0, rfl, a0, ns, rfl, hS, hl, fun a C1 H' sm hC1 si1 => ?_⟩
    let C : Addr → Prop := fun x => C1 x ∨ ∃ p ∈ T, x = p.1
    have si : SIT T SIa a 0 C H' := ⟨mono a 0 C1 C H' si1 fun x q => .inl q, fun p hp => ⟨.inr ⟨p, hp, rfl⟩, #[], sm _ _ (hT p hp), True.intro, fun pos cv hc => by
      have z : codeAmong pos [] = some cv := hc
      simp [codeAmong] at z⟩⟩
    have hC : ∀ x, C x → H' x ≠ none ∧ (∀ xs, H' x ≠ some (.tup xs)) ∧ ∀ o xs, H x ≠ some (.frz o (.lst xs)) := fun x q => by
      rcases q with q | ⟨p, hp, rfl⟩
      · exact ⟨(hC1 x q).2.1, (hC1 x q).2.2, fun o xs z => (by rw [(hC1 x q).1] at z; cases z)⟩
      · have e := sm _ _ (hT p hp)
        exact ⟨by rw [e]; simp, fun xs z => (by rw [e] at z; cases z), fun o xs z => (by rw [hT p hp] at z; cases z)⟩
    have eσ : (L2.start N [V.ref a0]).set 1 (some (V.ref a)) = some (.ref a0) :: some (.ref a) :: List.replicate m none := by
      unfold L2.start
      rw [hN]; rfl
    have mh : ∀ x, C x → H' x ≠ none := fun x q => (hC x q).1
    have mt : ∀ x xs, C x → H' x ≠ some (.tup xs) := fun x xs q => (hC x q).2.1 xs
    have wf : Wf ⟨H', C, C⟩ := ⟨fun x q => q, mh, mt⟩
    refine ⟨a, a0, ns.length, ghOf (SIT T SIa a) (stT st T a) H' C C mh, rfl, ?_, lawEnv a0 a m, C, C, 0, lawEnds, by omega, ?_, hd a a0 _ hl, ?_⟩
    · refine ⟨ns.map V.int, List.length_map .., ⟨ns, rfl⟩, ?_⟩
      rcases hS with (h | ⟨o, h⟩) | h
      · rcases hO a0 with z | ⟨ps, z⟩ | ⟨o, xs, z⟩
        · rw [h] at z; cases z
        · rw [h] at z; cases z
        · rw [h] at z; cases z
      · exact .inl ⟨o, (ghOf_pt (C := C) (H := H') fun q => (hC a0 q).2.2 _ _ h).trans (sm _ _ h)⟩
      · exact .inr fun _ => .inr h
    · refine ⟨⟨fun b o q => ?_, fun b q => q, fun b q => .inl q, fun b q => ghOf_pt0 q, fun b q => q, mh, fun b q => q, fun p hp => (nomatch hp), si, mt⟩, ?_, fun i sl ov q1 q2 => ?_, OD.tame fun i sl q1 hs => ?_⟩
      · by_cases z : C b
        · have q' := (ghOf_pt0 (H := H') z).symm.trans q; cases q'
        · exact .inl ((ghOf_pt z).symm.trans q)
      · rw [eσ]; simp [lawEnv]
      · rw [eσ] at q2
        match i with
        | 0 =>
          cases q1; cases q2
          exact rfl
        | 1 =>
          cases q1; cases q2
          exact rfl
        | i + 2 =>
          have q1' : (List.replicate m Sl.no)[i]? = some sl := q1
          rw [List.getElem?_replicate] at q1'
          split at q1'
          · cases q1'; trivial
          · cases q1'
      · exfalso
        match i with
        | 0 => cases q1; cases hs
        | 1 => cases q1; cases hs
        | i + 2 =>
          have q1' : (List.replicate m Sl.no)[i]? = some sl := q1
          rw [List.getElem?_replicate] at q1'
          split at q1'
          · cases q1'; cases hs
          · cases q1'
    · refine ⟨fun _ q => q.elim, fun _ dv q b' w' Hs σ0 v hb' er0 rv _ => ?_, fun _ q => q.elim, fun _ q => q.elim⟩
      obtain rfl : dv = .fz (.bool true) := q
      cases rv
      exact hq _
end DL
namespace DL
open PySem PySem.Spec PyProof.Rows L2 LamX
/-! ### the law's own state of three entries, with tables of code objects -/
abbrev SIBT (kc kg ks : Str) (T : List (Addr × Str)) : Addr → SInv := SIT T (SIB kc kg ks)
theorem monoB {kc kg ks : Str} : ∀ (a : Addr) (b : Nat) (C C' : Addr → Prop) (H : Hp), SIB kc kg ks a b C H → (∀ x, C x → C' x) → SIB kc kg ks a b C' H := fun a b C C' H ⟨g, c, gs, cs, n, h1, h2, h3, r⟩ k => ⟨g, c, gs, cs, n, k _ h1, k _ h2, k _ h3, r⟩
structure StBT (kc kg ks : Str) (a : Addr) (w0 : Wd) (g0 : Addr) (H : Hp) (C : Addr → Prop) (g c : Addr) (gs cs : List Int) (n : Nat) : Prop extends StB kc kg ks a w0 H C g c gs cs n where
  fr : ∀ x o, x ≠ a → x ≠ g0 → w0.H x = some o → H x = some o
  gf : g = g0 ∨ w0.H g = none
  a0 : ∃ kvs, w0.H a = some (.dK kvs)
  l0 : ∃ xs, w0.H g0 = some (.lst xs)
section
variable {kc kg ks : Str} {a g0 : Addr} {w0 : Wd} {H : Hp} {C : Addr → Prop} {g c : Addr} {gs cs : List Int} {n : Nat}
theorem StBT.alloc (h : StBT kc kg ks a w0 g0 H C g c gs cs n) {p : Addr} {o : HO} (np : H p = none) : StBT kc kg ks a w0 g0 (upd H p o) C g c gs cs n :=
  ⟨h.toStB.alloc np, fun x u h1 h2 q => by
    have := h.fr x u h1 h2 q
    rw [upd_ne (ne_of_none this np)]; exact this, h.gf, h.a0, h.l0⟩
theorem StBT.same (h : StBT kc kg ks a w0 g0 H C g c gs cs n) {H' : Hp} (s : Same H H') : StBT kc kg ks a w0 g0 H' C g c gs cs n :=
  ⟨h.toStB.same s, fun x u h1 h2 q => s _ _ (h.fr x u h1 h2 q), h.gf, h.a0, h.l0⟩
theorem StBT.newG (h : StBT kc kg ks a w0 g0 H C g c gs cs n) {p : Addr} {gs' : List Int} (np : H p = none) : StBT kc kg ks a w0 g0 (upd (upd H p (.lst (gs'.map V.int))) a (stO kc kg ks c p n)) (fun x => C x ∨ x = p) p c gs' cs n :=
  ⟨h.toStB.newG np, fun x u h1 h2 q => by
    have := h.fr x u h1 h2 q
    rw [upd_ne h1, upd_ne (ne_of_none this np)]; exact this, .inr (h.ex.free np), h.a0, h.l0⟩
theorem StBT.setG (h : StBT kc kg ks a w0 g0 H C g c gs cs n) {gs' : List Int} : StBT kc kg ks a w0 g0 (upd H g (.lst (gs'.map V.int))) C g c gs' cs n :=
  ⟨h.toStB.setG, fun x u h1 h2 q => by
    have ne : x ≠ g := fun e => by
      rcases h.gf with k | k
      · exact h2 (e.trans k)
      · rw [e, k] at q; cases q
    rw [upd_ne ne]; exact h.fr x u h1 h2 q, h.gf, h.a0, h.l0⟩
theorem StBT.setN (h : StBT kc kg ks a w0 g0 H C g c gs cs n) {n' : Nat} : StBT kc kg ks a w0 g0 (upd H a (stO kc kg ks c g n')) C g c gs cs n' :=
  ⟨h.toStB.setN, fun x u h1 h2 q => by rw [upd_ne h1]; exact h.fr x u h1 h2 q, h.gf, h.a0, h.l0⟩
theorem StBT.start {T : List (Addr × Str)} {M : Addr → Prop} {b : Nat} (wf : Wf ⟨H, M, C⟩) (h : SIBT kc kg ks T a b C H) : ∃ g c gs cs n, n ≤ b ∧ TabC T C H ∧ StBT kc kg ks a ⟨H, M, C⟩ g H C g c gs cs n := by
  obtain ⟨g, c, gs, cs, n, h1, S⟩ := StB.start wf h.1
  exact ⟨g, c, gs, cs, n, h1, h.2, S, fun x o _ _ q => q, .inl rfl, ⟨_, S.da⟩, ⟨_, S.dg⟩⟩
theorem StBT.tabs {T : List (Addr × Str)} (h : StBT kc kg ks a w0 g0 H C g c gs cs n) (t : TabC T w0.C w0.H) : TabC T C H := t.frame h.cc fun x o _ q h1 h2 => h.fr x o (fun e => by obtain ⟨kvs, k⟩ := h.a0; rw [e, k] at q; cases q; exact h1 _ rfl) (fun e => by obtain ⟨xs, k⟩ := h.l0; rw [e, k] at q; cases q; exact h2 _ rfl) q
theorem StBT.done {T : List (Addr × Str)} {b b' : Nat} {Q : VK} {Pd : D → Prop} {d : D} {v : V} (h : StBT kc kg ks a w0 g0 H C g c gs cs n) (t : TabC T w0.C w0.H) (wf0 : Wf w0) (hn : n ≤ b') (hb : b' ≤ b) (p : Pd d) (r : ∀ w, Rp w v d) (hq : ∀ d, Pd d → ∀ b' w' v, b' ≤ b → Ext w0 w' → SIBT kc kg ks T a b' w'.C w'.H → Wf w' → Rp w' v d → Q v w'.H) : Q v H :=
  hq d p b' ⟨H, fun x => w0.M x ∨ C x, C⟩ v hb h.ex ⟨⟨g, c, gs, cs, n, h.ha, h.hg, h.hc, h.gc, h.da, h.dg, h.dc, hn⟩, h.tabs t⟩ ⟨fun x q => .inr q, fun x q => q.elim (fun m => h.ex.dom x (wf0.md x m)) (fun c => (h.cd x c).1), fun x xs q => h.nt wf0 x xs q⟩ (r _)
variable {σ : L2.St} {Q : VK}
theorem StBT.getC (S : StBT kc kg ks a w0 g0 H C g c gs cs n) (h0 : σ[0]? = some (some (.ref a))) (q : Q (.ref c) H) : tDGet (tVar 0) (tC (.str kc)) σ H Q := S.toStB.getC h0 q
theorem StBT.getG (S : StBT kc kg ks a w0 g0 H C g c gs cs n) (d : Kd kc kg ks) (h0 : σ[0]? = some (some (.ref a))) (q : Q (.ref g) H) : tDGet (tVar 0) (tC (.str kg)) σ H Q := S.toStB.getG d h0 q
theorem StBT.getS (S : StBT kc kg ks a w0 g0 H C g c gs cs n) (d : Kd kc kg ks) (h0 : σ[0]? = some (some (.ref a))) (q : Q (.int n) H) : tDGet (tVar 0) (tC (.str ks)) σ H Q := S.toStB.getS d h0 q
theorem StBT.putG (S : StBT kc kg ks a w0 g0 H C g c gs cs n) (d : Kd kc kg ks) {p : Addr} : DPut H a (.str kg) (.ref p) (upd H a (stO kc kg ks c p n)) := S.toStB.putG d
theorem StBT.putS (S : StBT kc kg ks a w0 g0 H C g c gs cs n) (d : Kd kc kg ks) {m : Nat} : DPut H a (.str ks) (.int m) (upd H a (stO kc kg ks c g m)) := S.toStB.putS d
theorem StBT.neG {Qt : Bool → Hp → Prop} (S : StBT kc kg ks a w0 g0 H C g c gs cs n) (d : Kd kc kg ks) (h0 : σ[0]? = some (some (.ref a))) (q : ∀ H', StBT kc kg ks a w0 g0 H' C g c gs cs n → Qt (decide (gs ≠ [])) H') : tTest (tOp (rV2 neD) (tDGet (tVar 0) (tC (.str kg))) (tLst tNil)) σ H Qt :=
  S.getG d h0 ⟨Nat.zero_le _, fun p np => ne_nil ((S.alloc np).dg) upd_same fun H' sm => ⟨_, rfl, q H' ((S.alloc np).same sm)⟩⟩
theorem StBT.neC {Qt : Bool → Hp → Prop} (S : StBT kc kg ks a w0 g0 H C g c gs cs n) (h0 : σ[0]? = some (some (.ref a))) (q : ∀ H', StBT kc kg ks a w0 g0 H' C g c gs cs n → Qt (decide (cs ≠ [])) H') : tTest (tOp (rV2 neD) (tDGet (tVar 0) (tC (.str kc))) (tLst tNil)) σ H Qt :=
  S.getC h0 ⟨Nat.zero_le _, fun p np => ne_nil ((S.alloc np).dc) upd_same fun H' sm => ⟨_, rfl, q H' ((S.alloc np).same sm)⟩⟩
end
end DL
/-! A def called with a lambda, as a law's walk uses it. -/
namespace DL
open PySem PySem.Spec PyProof.Rows L2 LamX
theorem grow4 {T : List (Addr × Str)} {a : Addr} {b : Nat} {C C1 : Addr → Prop} {H H1 : Hp} (h : SI4T T a b C H) (g : Grow T C C1 H H1) : SI4T T a b C1 H1 := by
  obtain ⟨⟨p, c, gs, cs, n, z, h1, h2, h3, h4, h5, h6, h7, h8⟩, _⟩ := h
  exact ⟨⟨p, c, gs, cs, n, z, g.cc _ h1, g.cc _ h2, g.cc _ h3, h4, g.ext _ _ h5 (fun ps q => nomatch q), g.ext _ _ h6 (fun ps q => nomatch q), g.ext _ _ h7 (fun ps q => nomatch q), h8⟩, g.tab⟩
theorem growB {kc kg ks : Str} {T : List (Addr × Str)} {a : Addr} {b : Nat} {C C1 : Addr → Prop} {H H1 : Hp} (h : SIBT kc kg ks T a b C H) (g : Grow T C C1 H H1) : SIBT kc kg ks T a b C1 H1 := by
  obtain ⟨⟨p, c, gs, cs, n, h1, h2, h3, h4, h5, h6, h7, h8⟩, _⟩ := h
  exact ⟨⟨p, c, gs, cs, n, g.cc _ h1, g.cc _ h2, g.cc _ h3, h4, g.ext _ _ h5 (fun ps q => nomatch q), g.ext _ _ h6 (fun ps q => nomatch q), g.ext _ _ h7 (fun ps q => nomatch q), h8⟩, g.tab⟩
/-- errors of the lambda's body go on to the call's end -/
theorem takes_lam {X : Cx} {A : Around} {outer : List Env} {s : Shared} {H : Hp} {E : XK} {scope : Scope} {f c' : Addr} : Takes (lamCx X A outer s H E scope f c') (fun cls d _ H' => E cls d H') := takes_of rfl rfl rfl rfl
section
variable {X : Cx}
theorem de_lamcall {T : List (Addr × Str)} {cm : CM} {G : Gh} {we : EX → WE} {ok : D → D} {err : Xd → Option D} {RV : V → Hp → VK → Prop} {EE : Value → Option Addr → Hp → VK → Prop} {c0 cc : Nat} {x a : Str} {g c P : Addr} {k : Nat} {pg : Arguments} {bg : List Stmt} {sg : Scope} {dV kV doc pm cdv ct oc : Value} {an od : Option Addr} {osl : Array (Option Value)} {Ng : List Str}
    {params : Arguments} {body : Expr} {scope : Scope} {p lpos pos : Pos} (hSI : ∀ b C H, G.SI b C H → TabC T C H) (hgr : ∀ b C C1 H H1, G.SI b C H → Grow T C C1 H H1 → G.SI b C1 H1) (hRV : RVOk RV ok) (hEE : EEOk cm EE err)
    (hg : Gl X x) (hm : X.mg x = some (.ref g)) (hk : PySem.W.keepIn X.K (.ref g) = true)
    (lk : X.K.lookup g = some ⟨oc, od, .func (PySem.W.fnOf x x pg bg sg dV kV doc pm an cdv ct), osl⟩) (hcg : PySem.W.codeIn X.K cdv x = true) (hb : L2.Binds X.K (PySem.W.fnOf x x pg bg sg dV kV doc pm an cdv ct) [a] []) (Sg : FnScope Ng [a] sg) (hNg : Ng[0]? = some a) (hva : Vis sg a)
    (hG : GivesTo X Ng x sg g cdv bg a (X.env.qual ++ "<lambda>") (TTHeard RV EE))
    (TB : TabB X.base X.mg c P) (hcode : X.env.code = .ref c) (hmT : (P, X.env.qual ++ "<lambda>") ∈ T) (hu : ∀ p ∈ T, p.1 = P → p.2 = X.env.qual ++ "<lambda>") (hr : Room (k + 2) X.A) (L : LamS X.env.scope scope) (hdef : defaultsOf params X.env = ([], []))
    (hbind : ∀ (q : Str) (cl : List (Str × Addr)) (pm cv ctv : Value), bindArgs (PySem.W.kla_fn "<lambda>" q params body scope cl pm cv ctv) ⟨[], []⟩ = pure [])
    (hB : ∀ (A : Around) (outer : List Env) (s : Shared) (H : Hp) (E : XK) (f c' : Addr) (G' : Gh) (Ex : EX), Room k (A.deeper (lamEnv X scope s.heap.objs.size f c')) → XOk cm G' (fun cls d _ H' => E cls d H') Ex → DE (lamCx X A outer s H E scope f c') G' body (we Ex) c0)
    (hc0 : c0 ≤ cap := by decide +kernel) (hdb : (x == ("__debug__" : Str)) = false := by decide) (hd : (a == ("__debug__" : Str)) = false := by decide) (hcd : (a == ("__classdict__" : Str)) = false := by decide) :
    DE X G (.Call (.Name x p) [.Lambda params body scope lpos] [] pos) (wHeard we ok err) cc :=
  PE_imp (pe_lamcallC (t := tLm cm (fun b _ C H => G.SI b C H) we c0) hg hm hk lk hcg hb Sg hNg hva hG TB hcode hmT hu hr L hdef hbind (fun A outer s H E f c' hr2 => ⟨fun pins s' σ H' Q I ⟨G', Ex, _, hx, h⟩ => (hB A outer s H E f c' G' Ex hr2 hx).run pins s' σ H' Q I h⟩) hdb hd hcd)
    fun σ H Q h => rd_heard hSI hgr hRV hEE hc0 h
end
end DL
/-! The body of a lambda that does not draw: all that is there is protected. -/
namespace DL
open PySem PySem.Spec PyProof.Rows L2 LamX
theorem ER.bd0 {G : Gh} {b b' : Nat} {H : Hp} {M C : Addr → Prop} {env : Ev} {σ : L2.St} (er : ER (G.at b) ⟨H, M, C⟩ env σ) (mh : ∀ a, M a → H a ≠ none) : ER ((ghOf SI0 stab0 H M noC mh).at b') ⟨H, M, noC⟩ (env.map Sl.bd) σ := by
  have up : St1 ⟨H, M, C⟩ ⟨H, M, noC⟩ := ⟨fun a o _ h => .inl h, fun a m => .inl m⟩
  have some_of : ∀ a, M a → ∃ o, ghPt noC H a = some o := fun a m => by
    cases z : H a with
    | none => exact absurd z (mh a m)
    | some o => exact ⟨o, (ghOf_pt (fun z => z)).trans z⟩
  refine ⟨⟨fun a o q => .inl ((ghOf_pt (fun z => z)).symm.trans q), fun a m => m, fun a c => c.elim, fun a c => c.elim, fun a c => c.elim, er.md, fun a q => q, fun p hp => (nomatch hp), trivial, er.mt⟩, ?_, fun i s ov h1 h2 => ?_, OD.tame fun i s h1 hs => ?_⟩
  · rw [List.length_map]; exact er.len
  · rw [List.getElem?_map] at h1
    obtain ⟨s0, g1, rfl⟩ := Option.map_eq_some_iff.mp h1
    have q := er.sl i s0 ov g1 h2
    cases s0 with
    | no => trivial
    | fz d =>
      obtain ⟨v, e, r⟩ := q
      exact ⟨v, e, Rp.st up r⟩
    | raw v => exact q
    | own d =>
      obtain ⟨a, e, m, n, _, _, o⟩ := q
      exact ⟨a, e, m, fun z => z, some_of a m, o.st up rfl⟩
    | bw d =>
      obtain ⟨a, e, m, n, _, o⟩ := q
      exact ⟨a, e, m, fun z => z, some_of a m, o.st up rfl⟩
    | ab _ _ => trivial
  · exfalso
    rw [List.getElem?_map] at h1
    obtain ⟨s0, _, h1⟩ := Option.map_eq_some_iff.mp h1
    subst h1
    cases s0 <;> cases hs
def tLm0 (cm : CM) (we : EX → WE) (c0 : Nat) : XK → TE := fun E σ H Q => ∃ (G : Gh) (Ex : EX), G.SI = SI0 ∧ XOk cm G (fun cls d _ H' => E cls d H') Ex ∧ tV G (we Ex) c0 σ H Q
/-- the lambda run at a state of the law: its values and errors, wherever it ends -/
theorem lam_run {cm : CM} {G : Gh} {we : EX → WE} {c0 b : Nat} {E : XK} {σ : L2.St} {H : Hp} {M C : Addr → Prop} {env : Ev} {Q : VK} {Px : Xd → Prop} {Pv : Dv → Prop} (er : ER (G.at b) ⟨H, M, C⟩ env σ) (hc0 : c0 ≤ cap)
    (hx : ∀ x, Px x → ∀ w2 cls o, Ext ⟨H, M, noC⟩ w2 → Wf w2 → XR cm w2 cls o x → E cls o w2.H)
    (hq : ∀ dv, Pv dv → ∃ d, dv.kept = some d ∧ ∀ w2 v, Ext ⟨H, M, noC⟩ w2 → Wf w2 → Rp w2 v d → Q v w2.H)
    (hw : we (fun _ x => Px x) (env.map Sl.bd) Pv) : tLm0 cm we c0 E σ H Q := by
  have wf1 : Wf ⟨H, M, noC⟩ := ⟨fun a c => c.elim, er.md, er.mt⟩
  refine ⟨ghOf SI0 stab0 H M noC er.md, _, rfl, fun env' x px b' w σ' cls o hb' er' xr => ?_, env.map Sl.bd, M, noC, 0, _, by omega, er.bd0 er.md, hw, fun dv hp b' w' v hb' er' e' rv => ?_⟩
  · obtain ⟨e, wf, s⟩ := lam_fin wf1 er'.toEH
    exact hx x px ⟨w.H, fun a => M a ∨ w.C a, w.C⟩ cls o e wf (xr.st s)
  · obtain ⟨d, hk, k⟩ := hq dv hp
    obtain ⟨e, wf, s⟩ := lam_fin wf1 er'.toEH
    exact k ⟨w'.H, fun a => M a ∨ w'.C a, w'.C⟩ v e wf (lam_val wf1 er'.toEH rv hk)
end DL
/-! The lambda called, its errors told at the frame of now. -/
namespace DL
open PySem PySem.Spec PyProof.Rows L2 LamX
section
variable {X : Cx} {pins : List (Addr × Obj)} {σ : L2.St} {H HZ : Hp} {s : Shared}
theorem act_now {CXg : CXT} {Eg : XK} {Ng : List Str} {qg : Str} {sg : Scope} {g f c' : Addr} {cdg pm ctv : Value} {params : Arguments} {body : Expr} {scope : Scope} {k i : Nat} {a : Str} {pn : List (Addr × Obj)} {xe : Value → Shared → Prop} {W : WX} {tb : XK → TE} {p1 p2 : Pos}
    (I : Inv X pins σ H s) (L : LamS X.env.scope scope) (hf : s.heap.get? f = some (PySem.W.kla_obj "<lambda>" (X.env.qual ++ "<lambda>") params body scope (cloFrom X.env.cells scope.names []) pm c' ctv)) (hfn : H f = none) (hfr : f ∉ frs X.stack)
    (hbind : bindArgs (PySem.W.kla_fn "<lambda>" (X.env.qual ++ "<lambda>") params body scope (cloFrom X.env.cells scope.names []) pm (.ref c') ctv) ⟨[], []⟩ = pure [])
    (tk : Takes ((cxOf CXg X.prog X.w X.K X.mg X.base Ng qg sg g cdg X.A X.stack s H Eg).tr pn xe) W) (hr : Room (k + 1) (X.A.deeper (envOfC qg sg s.heap.objs.size g cdg)))
    (hgd : X.A.guards = some []) (hbody : ∀ (A : Around) (outer : List Env) (s : Shared) (H : Hp) (E : XK), A.guards = some [] → Room k (A.deeper (lamEnv X scope s.heap.objs.size f c')) → PE (lamCx X A outer s H E scope f c') body (tb E))
    (hN : Ng[i]? = some a) (hv : Vis sg a) (hd : (a == ("__debug__" : Str)) = false := by decide) (hcd : (a == ("__classdict__" : Str)) = false := by decide) :
    PE ((cxOf CXg X.prog X.w X.K X.mg X.base Ng qg sg g cdg X.A X.stack s H Eg).tr pn xe) (.Call (.Name a p1) [] [] p2)
      (fun σZ HZ Q => σZ[i]? = some (some (.ref f)) ∧ HZ c' = some (CodeO c' (X.env.qual ++ "<lambda>")) ∧ tb (fun cls d H' => W cls d σZ H') σ HZ Q) := by
  refine ⟨fun pinsZ sZ σZ HZ Q IZ ⟨hs, hc, ht⟩ => wpAny_Call_Name_kw (thn ((pe_var (pos := p1) (i := i) hN hv hd hcd).run pinsZ sZ σZ HZ (fun v H1 => v = .ref f ∧ H1 = HZ) IZ ⟨.ref f, hs, rfl, rfl⟩) fun u s1 ⟨v, H1, I1, r1, q1⟩ => ?_)⟩
  obtain ⟨rfl, eH⟩ := q1
  rw [eH] at I1
  obtain rfl : u = Value.ref f := r1
  have at1 : s1.heap.get? f = some (PySem.W.kla_obj "<lambda>" (X.env.qual ++ "<lambda>") params body scope (cloFrom X.env.cells scope.names []) pm c' ctv) := I1.base.keep f _ hf hfn hfr (fun z => nomatch (show f ∈ ([] : List Addr) from z))
  have un : Un (frs X.stack) [] H HZ s.heap s1.heap := I1.base
  obtain ⟨⟨oc, vs, t, hoc, hdc, hvc⟩, _, _⟩ := I1.hok c' _ hc
  refine PySem.W.callWith_F0 ⟨_, _, _, _, at1⟩ (wpAny_call (codeAny_mono (?_ : codeAny (model X.prog X.w) (X.A.deeper (envOfC qg sg s.heap.objs.size g cdg)) (.call (.ref f) ⟨[], []⟩) (CR (L2.CX X.prog X.w) (envOfC qg sg s.heap.objs.size g cdg :: X.stack) X.prog X.w HZ s1 Q fun cls d H' => W cls d σZ H') s1) fun r s' hq => ?_))
  · refine PySem.W.kla_callFunE hr.depth at1 rfl L.co L.gen rfl ⟨c', oc, vs, t, rfl, hoc, hdc, hvc⟩ ?_
    rw [hbind]
    refine wpAny_pure (wpAny_newFunctionEnv (fun y hy => (L.own y hy).2) (fun y hy => absurd hy (by simp)) (fun h₁ hns hsb => ⟨I1.nolimit.fresh _ hsb, ?_⟩) L.kind)
    have J : Inv (lamCx X (X.A.deeper (envOfC qg sg s.heap.objs.size g cdg)) (envOfC qg sg s.heap.objs.size g cdg :: X.stack) s1 HZ (fun cls d H' => W cls d σZ H') scope f c') [] σ HZ { s1 with heap := h₁, toks := s1.toks + ([] : List (Str × Value)).length } :=
      lam_start2 I L I1.env0 hr.hd un hns fun b o e => hsb.extBut b o (Nat.ne_of_lt (Heap.lt_size e)) (Heap.get?_push_of_some _ e)
    refine PySem.W.kla_codeExpr (wpAny_mono ((hbody (X.A.deeper (envOfC qg sg s.heap.objs.size g cdg)) _ s1 HZ _ hgd (hr.deeper _)).run [] _ _ HZ Q J ht) (fun v s' hq => ?_) fun e s' hq => hq)
    obtain ⟨w', H', J', rv, q⟩ := hq
    exact ⟨w', H', J'.os, J'.bare, J'.base, J'.hok, rv, q⟩
  · cases r with
    | error e => exact tk e s' (XE.of_call I1 (fun _ _ _ h => h) hq)
    | ok fl => cases fl with
      | ret u => exact I1.after hq
      | next => exact False.elim hq
      | brk => exact False.elim hq
      | cont => exact False.elim hq
end
section
variable {X : Cx}
/-- the def that calls what it got, errors told at the frame of now -/
def GivesNow (X : Cx) (Ng : List Str) (x : Str) (sg : Scope) (g : Addr) (cdg : Value) (bg : List Stmt) (a : Str) (q : Str) (TT : (XK → Hp → VK → Prop) → Hp → VK → Prop) : Prop :=
  ∀ (f c' : Addr) (s : Shared) (H : Hp) (Q : VK) (tl : XK → Hp → VK → Prop),
    (∀ (W : WX) (pn : List (Addr × Obj)) (xe : Value → Shared → Prop) (p1 p2 : Pos), Takes ((cxOf C8.CX0 X.prog X.w X.K X.mg X.base Ng x sg g cdg X.A X.stack s H C8.E0).tr pn xe) W →
      PE ((cxOf C8.CX0 X.prog X.w X.K X.mg X.base Ng x sg g cdg X.A X.stack s H C8.E0).tr pn xe) (.Call (.Name a p1) [] [] p2) (fun σZ HZ Q => σZ[0]? = some (some (.ref f)) ∧ HZ c' = some (CodeO c' q) ∧ tl (fun cls d H' => W cls d σZ H') HZ Q)) →
    H c' = some (CodeO c' q) → TT tl H Q →
    ∃ t, PSs (cxOf C8.CX0 X.prog X.w X.K X.mg X.base Ng x sg g cdg X.A X.stack s H C8.E0).nox bg t ∧ t { nx := fun _ H' => Q .non H', rt := Q } (L2.start Ng [.ref f]) H
theorem pe_lamcallN {T : List (Addr × Str)} {TT : (XK → Hp → VK → Prop) → Hp → VK → Prop} {x a : Str} {g c P : Addr} {k : Nat} {pg : Arguments} {bg : List Stmt} {sg : Scope} {dV kV doc pm cdv ct oc : Value} {an od : Option Addr} {osl : Array (Option Value)} {Ng : List Str}
    {params : Arguments} {body : Expr} {scope : Scope} {t : XK → TE} {p lpos pos : Pos} (hg : Gl X x) (hm : X.mg x = some (.ref g)) (hk : PySem.W.keepIn X.K (.ref g) = true)
    (lk : X.K.lookup g = some ⟨oc, od, .func (PySem.W.fnOf x x pg bg sg dV kV doc pm an cdv ct), osl⟩) (hcg : PySem.W.codeIn X.K cdv x = true) (hb : L2.Binds X.K (PySem.W.fnOf x x pg bg sg dV kV doc pm an cdv ct) [a] []) (Sg : FnScope Ng [a] sg) (hNg : Ng[0]? = some a) (hva : Vis sg a)
    (hG : GivesNow X Ng x sg g cdv bg a (X.env.qual ++ "<lambda>") TT)
    (TB : TabB X.base X.mg c P) (hcode : X.env.code = .ref c) (hmT : (P, X.env.qual ++ "<lambda>") ∈ T) (hu : ∀ p ∈ T, p.1 = P → p.2 = X.env.qual ++ "<lambda>") (hr : Room (k + 2) X.A) (L : LamS X.env.scope scope) (hdef : defaultsOf params X.env = ([], []))
    (hbind : ∀ (q : Str) (cl : List (Str × Addr)) (pm cv ctv : Value), bindArgs (PySem.W.kla_fn "<lambda>" q params body scope cl pm cv ctv) ⟨[], []⟩ = pure [])
    (hgd : X.A.guards = some []) (hbody : ∀ (A : Around) (outer : List Env) (s : Shared) (H : Hp) (E : XK) (f c' : Addr), A.guards = some [] → Room k (A.deeper (lamEnv X scope s.heap.objs.size f c')) → PE (lamCx X A outer s H E scope f c') body (t E))
    (hdb : (x == ("__debug__" : Str)) = false := by decide) (hd : (a == ("__debug__" : Str)) = false := by decide) (hcd : (a == ("__classdict__" : Str)) = false := by decide) :
    PE X (.Call (.Name x p) [.Lambda params body scope lpos] [] pos) (tLamC T TT t) := by
  refine ⟨fun pins s σ H Q I h => ?_⟩
  obtain ⟨C, hT, h⟩ := h
  refine wpAny_Call_Name_kw (ld_glob I hg hm ?_ hdb)
  refine PySem.W.callWith_K (h₀ := X.base) I.ok.mod.kin hk ?_ (by rfl) (by rfl)
  show wpAny _ _ (spliced ((false, eval (.Lambda params body scope lpos) X.env) :: backTo pos (starEach [] X.env))) _ _ s
  refine Calls.spliced_cons (lam_makeC I TB hcode hmT hu hT hdef (L.has I.ok) fun f c' pm' ctv C1 H1 s' I1 G1 hf hfn hfr hco => ?_)
  refine Calls.spliced_nil ⟨I1.kIn, wpAny_call (codeAny_mono (?_ : codeAny (model X.prog X.w) X.A (.call (.ref g) ⟨[.ref f], []⟩) (CR C8.CX0 X.stack X.prog X.w H1 s' Q C8.E0) s') fun r s2 hq => ?_)⟩
  · refine run_ofS (N := Ng) (ps := [a]) (us := [.ref f]) (vs := [.ref f]) lk hcg Sg hr I1.env0 (hb s' [.ref f] I1.kIn rfl) (.cons rfl .nil) rfl fun hr' => ?_
    obtain ⟨t', ht', hq'⟩ := hG f c' s' H1 Q (fun E H' Q' => t E σ H' Q') (fun W pn xe p1 p2 tk => act_now (i := 0) (tb := t) I1 L hf hfn hfr (hbind _ _ _ _ _) tk hr' hgd (fun A outer s H E hg2 hr2 => hbody A outer s H E f c' hg2 hr2) hNg hva hd hcd) hco (h C1 H1 G1)
    exact ⟨t', ht'.nox, hq'⟩
  · cases r with
    | error e => exact (show False from hq).elim
    | ok fl => cases fl with
      | ret u => exact I1.after hq
      | next => exact False.elim hq
      | brk => exact False.elim hq
      | cont => exact False.elim hq
end
end DL
/-! A def called with a lambda: its body read as data, the lambda's call an expression of it. -/
namespace DL
open PySem PySem.Spec PyProof.Rows L2 LamX
/-- the lambda for the def that calls it: where errors go, where values go -/
abbrev WL := (Xd → Prop) → (D → Prop) → Prop
def Hears (cm : CM) (wl : WL) (tl : XK → Hp → VK → Prop) (H : Hp) (M : Addr → Prop) : Prop := ∀ (Px : Xd → Prop) (Pv : D → Prop), wl Px Pv → ∀ (H' : Hp) (M' : Addr → Prop), Ext ⟨H, M, noC⟩ ⟨H', M', noC⟩ → Wf ⟨H', M', noC⟩ → ∀ (E : XK) (Q : VK),
  (∀ x, Px x → ∀ w2 cls o, Ext ⟨H', M', noC⟩ w2 → Wf w2 → XR cm w2 cls o x → E cls o w2.H) → (∀ d, Pv d → ∀ w2 v, Ext ⟨H', M', noC⟩ w2 → Wf w2 → Rp w2 v d → Q v w2.H) → tl E H' Q
/-- what the law's reading makes of the lambda's body -/
def wlOf (we : EX → WE) (env : Ev) : WL := fun Px Pv => we (fun _ x => Px x) (env.map Sl.bd) fun dv => ∃ d, dv.kept = some d ∧ Pv d
theorem hears_of {cm : CM} {G : Gh} {we : EX → WE} {c0 b : Nat} {σ : L2.St} {H : Hp} {M C : Addr → Prop} {env : Ev} (er : ER (G.at b) ⟨H, M, C⟩ env σ) (hc0 : c0 ≤ cap) : Hears cm (wlOf we env) (fun E H' Q' => tLm0 cm we c0 E σ H' Q') H M := by
  intro Px Pv hw H' M' e wf E Q hx hq
  have ex : Ext ⟨H, M, C⟩ ⟨H', M', C⟩ := ⟨fun a o n h => e.keep a o (fun z => z) h, e.dom, fun a c => .inl c, e.newM, e.oldM⟩
  have si : G.SI b C H' := G.stab _ _ _ _ er.si fun a o c h => (e.keep a o (fun z => z) h).elim id fun q => absurd (er.cm a c) q.1
  have er' := er.ext' ex (er.toEH.ext ex si ⟨fun a c => e.oldM a (er.cm a c), wf.md, wf.mt⟩)
  exact lam_run er' hc0 hx (fun dv ⟨d, hk, p⟩ => ⟨d, hk, hq d p⟩) hw
/-- what is owned was so at the start, or is new -/
def fxM (H : Hp) (M : Addr → Prop) : Fx := ⟨fun w => ∀ a, ¬ M a → H a ≠ none → ¬ w.M a ∧ w.H a ≠ none, fun w w' e h a n z => by
  obtain ⟨h1, h2⟩ := h a n z
  refine ⟨fun m => (e.newM a m).elim h1 h2, ?_⟩
  cases q : w.H a with
  | none => exact absurd q h2
  | some o => exact (e.keep a o h1 q).there⟩
noncomputable def ghH (H : Hp) (M : Addr → Prop) (mh : ∀ a, M a → H a ≠ none) : Gh := { ghOf SI0 stab0 H M noC mh with gs := [fxM H M] }
/-- the call of the lambda, in the def that got it -/
def wAct (wl : WL) (v : V) (Ex : EX) : WE := fun env P => env[0]? = some (.raw v) ∧ wl (fun x => Ex env x) fun d => P (.fz d)
theorem de_act {Y : Cx} {H : Hp} {M : Addr → Prop} {mh : ∀ a, M a → H a ≠ none} {cm : CM} {wl : WL} {tl : XK → Hp → VK → Prop} {f c' : Addr} {q : Str} {W : WX} {Ex : EX} {e : Expr} (hh : Hears cm wl tl H M) (hc : H c' = some (CodeO c' q))
    (act : PE Y e (fun σZ HZ Q => σZ[0]? = some (some (.ref f)) ∧ HZ c' = some (CodeO c' q) ∧ tl (fun cls d H' => W cls d σZ H') HZ Q)) (hx : XOk cm (ghH H M mh) W Ex) : DE Y (ghH H M mh) e (wAct wl (.ref f) Ex) 0 := PE_imp act fun σ HZ Q h => by
  obtain ⟨env, M', C', b, P, hb, er, ⟨h0, hw⟩, hf⟩ := h
  have un : ∀ a, M' a → M a ∨ H a = none := fun a m => by
    by_cases m0 : M a
    · exact .inl m0
    · by_cases z : H a = none
      · exact .inr z
      · exact absurd m ((er.gk (fxM H M) (List.mem_cons_self (l := [])) : ∀ a, ¬ M a → H a ≠ none → ¬ M' a ∧ HZ a ≠ none) a m0 z).1
  have ext : Ext ⟨H, M, noC⟩ ⟨HZ, M', noC⟩ := ⟨fun a o _ h => er.kp a o ((ghOf_pt (C := noC) (fun z => z)).trans h), er.hd, fun a c => c.elim, un, er.m0⟩
  have wf1 : Wf ⟨HZ, M', noC⟩ := ⟨fun a c => c.elim, er.md, er.mt⟩
  have go : ∀ w', Ext ⟨HZ, M', noC⟩ w' → Ext ⟨HZ, M', C'⟩ ⟨w'.H, M', C'⟩ ∧ ER ((ghH H M mh).at b) ⟨w'.H, M', C'⟩ env σ ∧ St1 w' ⟨w'.H, M', C'⟩ := fun w' e => by
    have ex : Ext ⟨HZ, M', C'⟩ ⟨w'.H, M', C'⟩ := ⟨fun a o n h => e.keep a o (fun z => z) h, e.dom, fun a c => .inl c, fun a m => .inl m, fun a m => m⟩
    exact ⟨ex, er.ext' ex (er.toEH.ext ex trivial ⟨er.cm, fun a m => e.dom a (er.md a m), fun a xs m => e.ntup (fun z => z) m (er.md a m) (er.mt a xs m)⟩), ⟨fun a o _ h => .inl h, fun a m => .inl (e.oldM a m)⟩⟩
  refine ⟨?_, ?_, hh _ _ hw HZ M' ext wf1 _ Q (fun x px w2 cls o e2 wf2 xr => ?_) fun d pd w2 v e2 wf2 r => ?_⟩
  · have hl : 0 < env.length := by
      cases env with
      | nil => cases h0
      | cons s r => exact Nat.zero_lt_succ _
    obtain ⟨ov, ho⟩ : ∃ ov, σ[0]? = some ov := ⟨_, List.getElem?_eq_getElem (by rw [← er.len]; exact hl)⟩
    rw [ho, (er.sl 0 _ ov h0 ho : ov = some (.ref f))]
  · rcases er.kp c' _ ((ghOf_pt (C := noC) (fun z => z)).trans hc) with k | ⟨_, k, _⟩
    · exact k
    · exfalso
      rcases k with ⟨kvs, k⟩ | ⟨kvs, k⟩ <;> (unfold CodeO at k; cases k)
  · obtain ⟨ex, er', dn⟩ := go w2 e2
    exact hx env x px b ⟨w2.H, M', C'⟩ σ cls o (by omega) er' (xr.st dn)
  · obtain ⟨ex, er', dn⟩ := go w2 e2
    exact hf _ pd b ⟨w2.H, M', C'⟩ v (by omega) er' ex (Rp.st dn r)
/-- what the def makes of the lambda: wsH its body's reading, n its slots -/
def TTd (cm : CM) (wsH : WL → V → WS) (n : Nat) : (XK → Hp → VK → Prop) → Hp → VK → Prop := fun tl H Q => ∃ (M : Addr → Prop) (wl : WL) (Pd : D → Prop), Wf ⟨H, M, noC⟩ ∧ Hears cm wl tl H M ∧ (∀ f : V, wsH wl f (env0 n [.raw f]) (endsOf Pd)) ∧ ∀ d, Pd d → ∀ w' v, Ext ⟨H, M, noC⟩ w' → Wf w' → Rp w' v d → Q v w'.H
/-- the calls of the lambda, wherever they stand in the def -/
def Acts (cm : CM) (Y : Cx) (G : Gh) (a : Str) (wl : WL) (v : V) : Prop := ∀ (W : WX) (Ex : EX) (pn : List (Addr × Obj)) (xe : Value → Shared → Prop) (p1 p2 : Pos), Takes (Y.tr pn xe) W → XOk cm G W Ex → DE (Y.tr pn xe) G (.Call (.Name a p1) [] [] p2) (wAct wl v Ex) 0
theorem hear_gives {X : Cx} {Ng : List Str} {x a : Str} {sg : Scope} {g : Addr} {cdg : Value} {bg : List Stmt} {q : Str} {cm : CM} {wsH : WL → V → WS} {cH : Nat} (hcH : cH ≤ cap)
    (hbody : ∀ (f : Addr) (s : Shared) (H : Hp) (G : Gh) (wl : WL), G.SI = SI0 → Acts cm (cxOf C8.CX0 X.prog X.w X.K X.mg X.base Ng x sg g cdg X.A X.stack s H C8.E0).nox G a wl (.ref f) → DSs (cxOf C8.CX0 X.prog X.w X.K X.mg X.base Ng x sg g cdg X.A X.stack s H C8.E0).nox G bg (wsH wl (.ref f)) cH) :
    GivesNow X Ng x sg g cdg bg a q (TTd cm wsH Ng.length) := by
  intro f c' s H Q tl act hc ⟨M, wl, Pd, wf, hh, hws, hq⟩
  have fin : ∀ (b' : Nat) (w' : Wd), EH ((ghH H M wf.md).at b') w' → Ext ⟨H, M, noC⟩ ⟨w'.H, fun a => M a ∨ w'.C a, w'.C⟩ ∧ Wf ⟨w'.H, fun a => M a ∨ w'.C a, w'.C⟩ ∧ St1 w' ⟨w'.H, fun a => M a ∨ w'.C a, w'.C⟩ := fun b' w' eh => by
    refine ⟨⟨fun a o n h => ?_, eh.hd, eh.nc, fun a m => m.elim .inl fun c => (eh.nc a c).imp (wf.cm a) id, fun a m => .inl m⟩, ⟨fun a c => .inr c, fun a m => eh.md a (m.elim (eh.m0 a) (eh.cm a)), fun a xs m => eh.mt a xs (m.elim (eh.m0 a) (eh.cm a))⟩, ⟨fun a o _ h => .inl h, fun a m => .inl (Or.elim m (eh.m0 a) (eh.cm a))⟩⟩
    exact eh.kp a o ((ghOf_pt (C := noC) n).trans h)
  have er0 : ER ((ghH H M wf.md).at 0) ⟨H, M, noC⟩ (env0 Ng.length [.raw (.ref f)]) (L2.start Ng [.ref f]) := by
    have e := start_er (SI := SI0) (st := stab0) (N := Ng) (b := 0) (vs := [.ref f]) (as := [.raw (.ref f)]) wf trivial (.cons (rfl : (V.ref f) = V.ref f) .nil)
    refine ⟨⟨e.kp, e.m0, e.nc, e.cp, e.cm, e.md, e.hd, fun p hp => ?_, e.si, e.mt⟩, e.len, e.sl, e.od⟩
    obtain rfl : p = fxM H M := by
      cases hp with
      | head => rfl
      | tail _ h => cases h
    exact fun a n z => ⟨n, z⟩
  refine ⟨_, hbody f s H (ghH H M wf.md) wl rfl fun W Ex pn xe p1 p2 tk hx => de_act hh hc (act W pn xe p1 p2 tk) hx, env0 Ng.length [.raw (.ref f)], M, noC, 0, _, by omega, er0, hws (.ref f), ?_⟩
  refine ⟨fun env' q b' w' σ' hb' er' => ?_, fun _ dv q b' w' Hs σ0 v hb' er0 rv hs => ?_, fun _ q => q.elim, fun _ q => q.elim⟩
  · obtain ⟨e1, e2, e3⟩ := fin b' w' er'.toEH
    exact hq _ q ⟨w'.H, fun a => M a ∨ w'.C a, w'.C⟩ .non e1 e2 .non
  · have eh := er0.toEH
    obtain ⟨e1, e2, e3⟩ := fin b' w' eh
    obtain ⟨d, hd, q⟩ := q
    refine hq _ q ⟨w'.H, fun a => M a ∨ w'.C a, w'.C⟩ v e1 e2 ?_
    have fresh : ∀ {a : Addr}, H a = none → ¬ w'.C a → ¬ (M a ∨ w'.C a) := fun h0 nc m => m.elim (fun m => wf.md _ m h0) nc
    cases dv with
    | fz d' => cases hd; exact Rp.st e3 rv
    | nw d' =>
      cases hd
      obtain ⟨a, rfl, z, m, n, o⟩ := rv
      have h0 : H a = none := by
        cases y : H a with
        | none => rfl
        | some o => exact absurd z (hs a (by show H a ≠ none; rw [y]; simp))
      exact ((o.st (St1.less w' a) rfl).st e3 rfl).rp (fresh h0 n)
    | ow d' =>
      cases hd
      obtain ⟨a, rfl, m, z, p, n, o⟩ := rv
      exact (o.st e3 rfl).rp (fresh z n)
    | bw d' => cases hd
    | raw u => cases hd
/-! ### at the law's level -/
def wHear (we : EX → WE) (wsH : WL → V → WS) (n : Nat) : WE := fun env P => ∀ f : V, wsH (wlOf we env) f (env0 n [.raw f]) (endsOf fun d => P (.fz d))
theorem rd_hear {T : List (Addr × Str)} {cm : CM} {G : Gh} {we : EX → WE} {wsH : WL → V → WS} {n c0 c : Nat} {σ : L2.St} {H : Hp} {Q : VK} (hSI : ∀ b C H, G.SI b C H → TabC T C H) (hg : ∀ b C C1 H H1, G.SI b C H → Grow T C C1 H H1 → G.SI b C1 H1)
    (hc0 : c0 ≤ cap) (h : tV G (wHear we wsH n) c σ H Q) : tLamC T (TTd cm wsH n) (tLm0 cm we c0) σ H Q := by
  obtain ⟨env, M, C, b, P, hb, er0, hw, lf⟩ := h
  refine ⟨C, hSI b C H er0.si, fun C1 H1 g => ?_⟩
  obtain ⟨er1, ex1⟩ := g.er er0 (hg _ _ _ _ _ er0.si g)
  refine ⟨fun x => M x ∨ C1 x, wlOf we env, fun d => P (.fz d), ⟨fun a c => c.elim, er1.md, er1.mt⟩, hears_of er1 hc0, hw, fun d pd w' v e wf' r => ?_⟩
  have ex : Ext ⟨H1, fun x => M x ∨ C1 x, C1⟩ ⟨w'.H, fun x => M x ∨ C1 x, C1⟩ := ⟨fun a o n h => e.keep a o (fun z => z) h, e.dom, fun a c => .inl c, fun a m => .inl m, fun a m => m⟩
  have si : G.SI b C1 w'.H := G.stab _ _ _ _ er1.si fun a o c h => (e.keep a o (fun z => z) h).elim id fun q => absurd (er1.cm a c) q.1
  have er' := er1.ext' ex (er1.toEH.ext ex si ⟨er1.cm, fun a m => e.dom a (er1.md a m), fun a xs m => e.ntup (fun z => z) m (er1.md a m) (er1.mt a xs m)⟩)
  exact lf _ pd b ⟨w'.H, fun x => M x ∨ C1 x, C1⟩ v (by omega) er' (ex1.trans ex) (Rp.st (⟨fun a o _ h => .inl h, fun a m => .inl (e.oldM a m)⟩ : St1 w' ⟨w'.H, fun x => M x ∨ C1 x, C1⟩) r)
section
variable {X : Cx}
theorem de_hear {T : List (Addr × Str)} {cm : CM} {G : Gh} {we : EX → WE} {wsH : WL → V → WS} {c0 cc cH : Nat} {x a : Str} {g c P : Addr} {k : Nat} {pg : Arguments} {bg : List Stmt} {sg : Scope} {dV kV doc pm cdv ct oc : Value} {an od : Option Addr} {osl : Array (Option Value)} {Ng : List Str}
    {params : Arguments} {body : Expr} {scope : Scope} {p lpos pos : Pos} (hSI : ∀ b C H, G.SI b C H → TabC T C H) (hgr : ∀ b C C1 H H1, G.SI b C H → Grow T C C1 H H1 → G.SI b C1 H1)
    (hg : Gl X x) (hm : X.mg x = some (.ref g)) (hk : PySem.W.keepIn X.K (.ref g) = true)
    (lk : X.K.lookup g = some ⟨oc, od, .func (PySem.W.fnOf x x pg bg sg dV kV doc pm an cdv ct), osl⟩) (hcg : PySem.W.codeIn X.K cdv x = true) (hb : L2.Binds X.K (PySem.W.fnOf x x pg bg sg dV kV doc pm an cdv ct) [a] []) (Sg : FnScope Ng [a] sg) (hNg : Ng[0]? = some a) (hva : Vis sg a)
    (hG : GivesNow X Ng x sg g cdv bg a (X.env.qual ++ "<lambda>") (TTd cm wsH Ng.length))
    (TB : TabB X.base X.mg c P) (hcode : X.env.code = .ref c) (hmT : (P, X.env.qual ++ "<lambda>") ∈ T) (hu : ∀ p ∈ T, p.1 = P → p.2 = X.env.qual ++ "<lambda>") (hgd : X.A.guards = some []) (hr : Room (k + 2) X.A) (L : LamS X.env.scope scope) (hdef : defaultsOf params X.env = ([], []))
    (hbind : ∀ (q : Str) (cl : List (Str × Addr)) (pm cv ctv : Value), bindArgs (PySem.W.kla_fn "<lambda>" q params body scope cl pm cv ctv) ⟨[], []⟩ = pure [])
    (hB : ∀ (A : Around) (outer : List Env) (s : Shared) (H : Hp) (E : XK) (f c' : Addr) (G' : Gh) (Ex : EX), G'.SI = SI0 → A.guards = some [] → Room k (A.deeper (lamEnv X scope s.heap.objs.size f c')) → XOk cm G' (fun cls d _ H' => E cls d H') Ex → DE (lamCx X A outer s H E scope f c') G' body (we Ex) c0)
    (hc0 : c0 ≤ cap := by decide +kernel) (hdb : (x == ("__debug__" : Str)) = false := by decide) (hd : (a == ("__debug__" : Str)) = false := by decide) (hcd : (a == ("__classdict__" : Str)) = false := by decide) :
    DE X G (.Call (.Name x p) [.Lambda params body scope lpos] [] pos) (wHear we wsH Ng.length) cc :=
  PE_imp (pe_lamcallN (t := tLm0 cm we c0) hg hm hk lk hcg hb Sg hNg hva hG TB hcode hmT hu hr L hdef hbind hgd (fun A outer s H E f c' hg2 hr2 => ⟨fun pins s' σ H' Q I ⟨G', Ex, hS, hx, h⟩ => (hB A outer s H E f c' G' Ex hS hg2 hr2 hx).run pins s' σ H' Q I h⟩) hdb hd hcd)
    fun σ H Q h => rd_hear hSI hgr hc0 h
end
end DL
/-! Defs that make lambdas: their code object is known. -/
namespace DL
open PySem PySem.Spec PyProof.Rows L2 LamX
/-- a def of the text keeps its promise over data -/
theorem fn_dataC {SI : SInv} {cdv : Value} (st : Stab SI) {P : Program} {w : World} {K : PySem.W.Frag} {mg : Str → Option Value} {base : Heap} {x qual : Str} {stm : Stmt} {f : Addr} {fd : FuncData} {N ps : List Str} {k c c' : Nat} {spec : Spec} {ws : WS}
    (hcode : fd.code = cdv) (F : Fun K x qual stm f fd) (S : FnScope N ps (defScope stm)) (hlen : ∀ as Q, spec as Q → as.length = ps.length)
    (hbody : ∀ (G : Gh) (A : Around) (outer : List Env) (s : Shared) (H : Hp) (E : XK), G.SI = SI → A.guards = some [] → Room k (A.deeper (envOfC qual (defScope stm) s.heap.objs.size f cdv)) → DSs (cxOf CX0 P w K mg base N qual (defScope stm) f cdv A outer s H E).nox G (defBody stm) ws c)
    (hspec : ∀ as Q, spec as Q → ws (env0 N.length as) (endsOf Q)) (hcc : c ≤ c' := by decide +kernel) : FnG P w K mg base CX0 (k + 1) f fd ps (spF SI c' spec) := by
  obtain ⟨oc, od, kV, doc, pm, an, cdv', ct, osl, rfl, lk, hcd⟩ := F.ex
  obtain rfl : cdv' = cdv := hcode
  refine fnG_of lk hcd S (fun vs H Q E h => ?_) fun A outer s H vs Q E hgd hr h => ?_
  · obtain ⟨as, M, C, b, Pd, _, _, _, r, q, _⟩ := h
    rw [r.length]; exact hlen _ _ q
  · obtain ⟨as, M, C, b, Pd, hb, wf, si, r, q, hq⟩ := h
    refine ⟨_, (hbody (ghOf SI st H M C wf.md) A outer s H E rfl hgd hr).nox, env0 N.length as, M, C, b, _, by omega, start_er wf si r, hspec as _ q, ?_⟩
    -- what the ends are worth
    have fin : ∀ (b' : Nat) (w' : Wd), EH ((ghOf SI st H M C wf.md).at b') w' → Ext ⟨H, M, C⟩ ⟨w'.H, fun a => M a ∨ w'.C a, w'.C⟩ ∧ Wf ⟨w'.H, fun a => M a ∨ w'.C a, w'.C⟩ ∧ St1 w' ⟨w'.H, fun a => M a ∨ w'.C a, w'.C⟩ := fun b' w' eh => by
      refine ⟨⟨fun a o n h => ?_, eh.hd, eh.nc, fun a m => m.elim .inl fun c => (eh.nc a c).imp (wf.cm a) id, fun a m => .inl m⟩, ⟨fun a c => .inr c, fun a m => eh.md a (m.elim (eh.m0 a) (eh.cm a)), fun a xs m => eh.mt a xs (m.elim (eh.m0 a) (eh.cm a))⟩, ⟨fun a o _ h => .inl h, fun a m => .inl (Or.elim m (eh.m0 a) (eh.cm a))⟩⟩
      exact eh.kp a o ((ghOf_pt n).trans h)
    refine ⟨fun env' q b' w' σ' hb' er' => ?_, fun _ dv q b' w' Hs σ0 v hb' er0 rv hh => ?_, fun _ q => q.elim, fun _ q => q.elim⟩
    · obtain ⟨e1, e2, e3⟩ := fin b' w' er'.toEH
      exact hq _ q b' ⟨w'.H, fun a => M a ∨ w'.C a, w'.C⟩ .non (by omega) e1 er'.si e2 .non
    · have eh := er0.toEH
      obtain ⟨e1, e2, e3⟩ := fin b' w' eh
      obtain ⟨d, hd, q⟩ := q
      refine hq _ q b' ⟨w'.H, fun a => M a ∨ w'.C a, w'.C⟩ v (by omega) e1 eh.si e2 ?_
      have fresh : ∀ {a : Addr}, H a = none → ¬ w'.C a → ¬ (M a ∨ w'.C a) := fun h0 nc m => m.elim (fun m => wf.md _ m h0) nc
      cases dv with
      | fz d' => cases hd; exact Rp.st e3 rv
      | nw d' =>
        cases hd
        obtain ⟨a, rfl, z, m, n, o⟩ := rv
        have h0 : H a = none := by
          cases y : H a with
          | none => rfl
          | some o => exact absurd z (hh a (by show H a ≠ none; rw [y]; simp))
        exact ((o.st (St1.less w' a) rfl).st e3 rfl).rp (fresh h0 n)
      | ow d' =>
        cases hd
        obtain ⟨a, rfl, m, z, p, n, o⟩ := rv
        exact (o.st e3 rfl).rp (fresh z n)
      | bw d' => cases hd
      | raw u => cases hd

theorem fn_lawTC {cdv : Value} {T : List (Addr × Str)} {SIa : Addr → SInv} (mono : ∀ a b C C' H, SIa a b C H → (∀ x, C x → C' x) → SIa a b C' H) (st : ∀ a, Stab (SIa a)) {P : Program} {w : World} {K : PySem.W.Frag} {mg : Str → Option Value} {base : Heap} {stm s0 : Stmt} {rest : List Stmt} {f : Addr} {fd : FuncData} {N : List Str} {x : Str} {k c m : Nat} {ws : Addr → Addr → Nat → WS}
    (hcode : fd.code = cdv) (F : Fun K "law" "law" stm f fd) (S : FnScope N [x] (defScope stm)) (hN : N.length = m + 2) (hb : defBody stm = s0 :: rest)
    (h0 : ∀ (A : Around) (outer : List Env) (s : Shared) (H : Hp) (E : XK), A.guards = some [] → Room k (A.deeper (envOfC "law" (defScope stm) s.heap.objs.size f cdv)) → PS (cxOf CX0 P w K mg base N "law" (defScope stm) f cdv A outer s H E).nox s0 (tAsg (tCall (spBeg K SIa) [] E0 (tCons (tVar 0) tNil)) (gName 1)))
    (hrest : ∀ (a a0 : Addr) (n : Nat) (G : Gh) (A : Around) (outer : List Env) (s : Shared) (H : Hp) (E : XK), G.SI = SIT T SIa a → Scr K G a0 n → A.guards = some [] → Room k (A.deeper (envOfC "law" (defScope stm) s.heap.objs.size f cdv)) → DSs (cxOf CX0 P w K mg base N "law" (defScope stm) f cdv A outer s H E).nox G rest (ws a a0 n) c)
    (hd : ∀ (a a0 : Addr) (n : Nat), n ≤ 63 → ws a a0 n (lawEnv a0 a m) lawEnds) (hc : c ≤ cap := by decide +kernel) : FnG P w K mg base CX0 (k + 1) f fd [x] (spLawT K T) := by
  obtain ⟨oc, od, kV, doc, pm, an, cdv', ct, osl, rfl, lk, hcd⟩ := F.ex
  obtain rfl : cdv' = cdv := hcode
  refine fnG_of lk hcd S (fun vs H Q E h => ?_) fun A outer s H vs Q E hgd hr h => ?_
  · obtain ⟨a0, ns, rfl, _⟩ := h
    rfl
  · obtain ⟨a0, ns, rfl, hl, hT, hO, hS, hq⟩ := h
    have dR : PSs (cxOf CX0 P w K mg base N "law" (defScope stm) f cdv' A outer s H E).nox rest (fun D σ H => ∃ a a0 n G, G.SI = SIT T SIa a ∧ Scr K G a0 n ∧ tS G (ws a a0 n) c D σ H) := ⟨fun pins s' σ H' T I ⟨a, a0, n, G, h1, h2, q⟩ => (hrest a a0 n G A outer s H E h1 h2 hgd hr).run pins s' σ H' T I q⟩
    have dA := (pss_cons (h0 A outer s H E hgd hr) dR).nox
    rw [← hb] at dA
    refine ⟨_, dA, ?_⟩
    refine ⟨.ref a0, rfl, a0, ns, rfl, hS, hl, fun a C1 H' sm hC1 si1 => ?_⟩
    let C : Addr → Prop := fun x => C1 x ∨ ∃ p ∈ T, x = p.1
    have si : SIT T SIa a 0 C H' := ⟨mono a 0 C1 C H' si1 fun x q => .inl q, fun p hp => ⟨.inr ⟨p, hp, rfl⟩, #[], sm _ _ (hT p hp), True.intro, fun pos cv hc => by
      have z : codeAmong pos [] = some cv := hc
      simp [codeAmong] at z⟩⟩
    have hC : ∀ x, C x → H' x ≠ none ∧ (∀ xs, H' x ≠ some (.tup xs)) ∧ ∀ o xs, H x ≠ some (.frz o (.lst xs)) := fun x q => by
      rcases q with q | ⟨p, hp, rfl⟩
      · exact ⟨(hC1 x q).2.1, (hC1 x q).2.2, fun o xs z => (by rw [(hC1 x q).1] at z; cases z)⟩
      · have e := sm _ _ (hT p hp)
        exact ⟨by rw [e]; simp, fun xs z => (by rw [e] at z; cases z), fun o xs z => (by rw [hT p hp] at z; cases z)⟩
    have eσ : (L2.start N [V.ref a0]).set 1 (some (V.ref a)) = some (.ref a0) :: some (.ref a) :: List.replicate m none := by
      unfold L2.start
      rw [hN]; rfl
    have mh : ∀ x, C x → H' x ≠ none := fun x q => (hC x q).1
    have mt : ∀ x xs, C x → H' x ≠ some (.tup xs) := fun x xs q => (hC x q).2.1 xs
    have wf : Wf ⟨H', C, C⟩ := ⟨fun x q => q, mh, mt⟩
    refine ⟨a, a0, ns.length, ghOf (SIT T SIa a) (stT st T a) H' C C mh, rfl, ?_, lawEnv a0 a m, C, C, 0, lawEnds, by omega, ?_, hd a a0 _ hl, ?_⟩
    · refine ⟨ns.map V.int, List.length_map .., ⟨ns, rfl⟩, ?_⟩
      rcases hS with (h | ⟨o, h⟩) | h
      · rcases hO a0 with z | ⟨ps, z⟩ | ⟨o, xs, z⟩
        · rw [h] at z; cases z
        · rw [h] at z; cases z
        · rw [h] at z; cases z
      · exact .inl ⟨o, (ghOf_pt (C := C) (H := H') fun q => (hC a0 q).2.2 _ _ h).trans (sm _ _ h)⟩
      · exact .inr fun _ => .inr h
    · refine ⟨⟨fun b o q => ?_, fun b q => q, fun b q => .inl q, fun b q => ghOf_pt0 q, fun b q => q, mh, fun b q => q, fun p hp => (nomatch hp), si, mt⟩, ?_, fun i sl ov q1 q2 => ?_, OD.tame fun i sl q1 hs => ?_⟩
      · by_cases z : C b
        · have q' := (ghOf_pt0 (H := H') z).symm.trans q; cases q'
        · exact .inl ((ghOf_pt z).symm.trans q)
      · rw [eσ]; simp [lawEnv]
      · rw [eσ] at q2
        match i with
        | 0 =>
          cases q1; cases q2
          exact rfl
        | 1 =>
          cases q1; cases q2
          exact rfl
        | i + 2 =>
          have q1' : (List.replicate m Sl.no)[i]? = some sl := q1
          rw [List.getElem?_replicate] at q1'
          split at q1'
          · cases q1'; trivial
          · cases q1'
      · exfalso
        match i with
        | 0 => cases q1; cases hs
        | 1 => cases q1; cases hs
        | i + 2 =>
          have q1' : (List.replicate m Sl.no)[i]? = some sl := q1
          rw [List.getElem?_replicate] at q1'
          split at q1'
          · cases q1'; cases hs
          · cases q1'
    · refine ⟨fun _ q => q.elim, fun _ dv q b' w' Hs σ0 v hb' er0 rv _ => ?_, fun _ q => q.elim, fun _ q => q.elim⟩
      obtain rfl : dv = .fz (.bool true) := q
      cases rv
      exact hq _

section
variable {X : Cx}
/-- a lambda's qualified name -/
abbrev lq (x : Str) : Str := (x ++ ".<locals>.") ++ "<lambda>"
theorem de_hearF {T : List (Addr × Str)} {q : Str} {cm : CM} {G : Gh} {we : EX → WE} {wsH : WL → V → WS} {S0 : SInv} {c0 n : Nat} {x a : Str} {g c P : Addr} (k : Nat) {stm : Stmt} {fd : FuncData} {Ng : List Str}
    {params : Arguments} {body : Expr} {scope : Scope} {p lpos pos : Pos} (hS : G.SI = S0) (hSI : ∀ b C H, S0 b C H → TabC T C H) (hgr : ∀ b C C1 H H1, S0 b C H → Grow T C C1 H H1 → S0 b C1 H1)
    (hg : Gl X x) (hm : X.mg x = some (.ref g)) (F : Fun X.K x x stm g fd) (hb : L2.Binds X.K fd [a] []) (Sg : FnScope Ng [a] (defScope stm)) (hn : Ng.length = n) (hNg : Ng[0]? = some a) (hva : Vis (defScope stm) a)
    (hG : ∀ cdv : Value, GivesNow X Ng x (defScope stm) g cdv (defBody stm) a (X.env.qual ++ "<lambda>") (TTd cm wsH Ng.length))
    (TB : TabB X.base X.mg c P) (hcode : X.env.code = .ref c) (hmT : (P, q) ∈ T) (hu : ∀ p ∈ T, p.1 = P → p.2 = q) (hq : X.env.qual ++ "<lambda>" = q) (hgd : X.A.guards = some []) (hr : Room (k + 2) X.A) (L : LamS X.env.scope scope) (hdef : defaultsOf params X.env = ([], []))
    (hbind : ∀ (q : Str) (cl : List (Str × Addr)) (pm cv ctv : Value), bindArgs (PySem.W.kla_fn "<lambda>" q params body scope cl pm cv ctv) ⟨[], []⟩ = pure [])
    (hB : ∀ (A : Around) (outer : List Env) (s : Shared) (H : Hp) (E : XK) (f c' : Addr) (G' : Gh) (Ex : EX), G'.SI = SI0 → A.guards = some [] → Room k (A.deeper (lamEnv X scope s.heap.objs.size f c')) → XOk cm G' (fun cls d _ H' => E cls d H') Ex → DE (lamCx X A outer s H E scope f c') G' body (we Ex) c0)
    (hc0 : c0 ≤ cap) (hdb : (x == ("__debug__" : Str)) = false) (hd : (a == ("__debug__" : Str)) = false) (hcd : (a == ("__classdict__" : Str)) = false) :
    DE X G (.Call (.Name x p) [.Lambda params body scope lpos] [] pos) (wHear we wsH n) 0 := by
  obtain ⟨oc, od, kV, doc, pm, an, cdv, ct, osl, rfl, lk, hcg⟩ := F.ex
  subst hq
  subst hn
  exact de_hear (cH := 0) (fun b C H h => hSI b C H (by rw [← hS]; exact h)) (fun b C C1 H H1 h q => by rw [hS] at h ⊢; exact hgr _ _ _ _ _ h q) hg hm F.kp lk hcg hb Sg hNg hva (hG cdv) TB hcode hmT hu hgd hr L hdef hbind hB hc0 hdb hd hcd
end
theorem sitab {T : List (Addr × Str)} {SIa : Addr → SInv} {a : Addr} : ∀ b C H, SIT T SIa a b C H → TabC T C H := fun _ _ _ h => h.2
end DL
/-! Errors kept as values: `is None`, defs of an error, isinstance and fields there. -/
namespace DL
open PySem PySem.Spec PyProof.Rows L2
/-- whatever the kept errors are told by -/
def wAllE (f : EOf → WS) : WS := fun env De => ∀ EO, f EO env De
theorem dss_allE {X : Cx} {G : Gh} {b : List Stmt} {f : EOf → WS} {c : Nat} (EO : EOf) (h : DSs X G b (f EO) c) : DSs X G b (wAllE f) c := PSs_imp h fun σ H T q => by
  obtain ⟨env, M, C, b, De, hb, er, hw, lf⟩ := q
  exact ⟨env, M, C, b, De, hb, er, hw EO, lf⟩
/-! ### is None -/
def wIsN (i : Nat) : WT := fun env P => (∃ d, env[i]? = some (.fz d) ∧ P (isNone d)) ∨ ∃ a A, env[i]? = some (.ab a A) ∧ P false
section
variable {X : Cx} {G : Gh}
theorem dt_isN (i : Nat) {x : Str} {p p2 pos : Pos} {k} (hv : PE X (.Name x p) (tVar i)) (hm : behindInMarks .Is (.Constant .none k p2) = false := by rfl) : DT X G (.Compare (.Name x p) [.Is] [.Constant .none k p2] pos) (wIsN i) 0 :=
  PT_imp (pt_cmpR op_isN hv pe_non hm) fun σ H Q h => by
    obtain ⟨env, M, C, b, P, hb, er, hw, hf⟩ := h
    rcases hw with ⟨d, hi, p⟩ | ⟨a, A, hi, p⟩
    · obtain ⟨ov, h1, v, rfl, r⟩ := er.at hi
      refine ⟨v, h1, rfl, _, rfl, ?_⟩
      rw [r.rq.isN]
      exact hf _ p b ⟨H, M, C⟩ (by omega) er (Ext.refl _)
    · obtain ⟨ov, h1, c, rfl, _⟩ := er.at hi
      exact ⟨.ref c, h1, rfl, _, rfl, hf _ p b ⟨H, M, C⟩ (by omega) er (Ext.refl _)⟩
end
/-! ### defs of an error -/
abbrev SpecV := Xd → (D → Prop) → Prop
def spV (cm : CM) (spec : SpecV) : Sp := fun vs H Q _ => ∃ (a : Addr) (M : Addr → Prop) (x : Xd) (Pd : D → Prop), vs = [.ref a] ∧ Wf ⟨H, M, noC⟩ ∧ XV cm ⟨H, M, noC⟩ a x ∧ spec x Pd ∧ ∀ d, Pd d → ∀ w' v, Ext ⟨H, M, noC⟩ w' → Wf w' → Rp w' v d → Q v w'.H
def wCallV (EO : EOf) (spec : SpecV) (i : Nat) : WE := fun env P => ∃ a A x, env[i]? = some (.ab a A) ∧ EO A x ∧ spec x fun d => P (.fz d)
section
variable {X : Cx} {G : Gh} {cm : CM} {k : Nat} {f : Addr} {fd : FuncData} {ps : List Str} {spec : SpecV} {x : Str} {e : Expr} {p pos : Pos}
theorem de_callV (i : Nat) (F : FnG X.prog X.w X.K X.mg X.base CX0 k f fd ps (spV cm spec)) (hgd : X.A.guards = some []) (hr : Room k X.A) (hg : Gl X x) (hm : X.mg x = some (.ref f)) (hk : PySem.W.keepIn X.K (.ref f) = true) (hb : Binds X.K fd ps [])
    (hv : PE X e (tVar i)) (hdb : (x == ("__debug__" : Str)) = false := by decide) (he : starEach [e] X.env = (false, eval e X.env) :: starEach [] X.env := by rfl) (hpl : (backTo pos (starEach [] X.env)).any (·.1) = false := by rfl) :
    DE X G (.Call (.Name x p) [e] [] pos) (wCallV (fun A x => A = errA cm x) spec i) 0 := PE_imp (pe_callG F hgd hr hg hm hk hb (pa_cons hv pa_nil he) hdb he hpl) fun σ H Q h => by
  obtain ⟨env, M, C, b, P, hb0, er, ⟨a, A, xd, hi, rfl, hs⟩, hf⟩ := h
  obtain ⟨ov, h1, a', rfl, _, _, xv, rfl⟩ := er.at hi
  have up : St1 ⟨H, M, C⟩ ⟨H, M, noC⟩ := ⟨fun a o _ h => .inl h, fun a m => .inl m⟩
  refine ⟨.ref a, h1, a, M, xd, _, rfl, ⟨fun a c => c.elim, er.md, er.mt⟩, xv.st up rfl, hs, fun d pd w' v e wf r => ?_⟩
  have ex : Ext ⟨H, M, C⟩ ⟨w'.H, M, C⟩ := ⟨fun a o n h => e.keep a o (fun z => z) h, e.dom, fun a c => .inl c, fun a m => .inl m, fun a m => m⟩
  have si : G.SI b C w'.H := G.stab _ _ _ _ er.si fun a o c h => (e.keep a o (fun z => z) h).elim id fun q => absurd (er.cm a c) q.1
  refine hf _ pd b ⟨w'.H, M, C⟩ v (by omega) (er.ext' ex (er.toEH.ext ex si ⟨er.cm, fun a m => e.dom a (er.md a m), fun a xs m => e.ntup (fun z => z) m (er.md a m) (er.mt a xs m)⟩)) ex ?_
  have down : St1 w' ⟨w'.H, M, C⟩ := ⟨fun a o _ h => .inl h, fun a m => .inl (e.oldM a m)⟩
  exact Rp.st down r
end
/-- what the body of such a def knows of the error -/
def SXV (cm : CM) (a : Addr) (x : Xd) (G : Gh) : Prop := ∃ C fo, cm x.nm = some (C, fo) ∧ match fo with
  | none => G.Pt a = some (ErO (.ref C) none a) ∧ x.d = .none
  | some f => ∃ dd v, G.Pt a = some (ErO (.ref C) (some dd) a) ∧ G.Pt dd = some (.xd [(f, v)]) ∧ fx v x.d ∈ G.gs
theorem no_dct_er {cls : Value} {d : Option Addr} {a : Addr} : ¬ IsDct (ErO cls d a) := fun h => by unfold ErO at h; rcases h with ⟨_, h⟩ | ⟨_, h⟩ <;> cases h
theorem fn_errV {cm : CM} {P : Program} {w : World} {K : PySem.W.Frag} {mg : Str → Option Value} {base : Heap} {x qual pn : Str} {stm : Stmt} {f : Addr} {fd : FuncData} {N : List Str} {k c : Nat} {spec : SpecV} {ws : Addr → Xd → WS}
    (F : Fun K x qual stm f fd) (S : FnScope N [pn] (defScope stm))
    (hbody : ∀ (G : Gh) (cdv : Value) (A : Around) (outer : List Env) (s : Shared) (H : Hp) (E : XK) (a : Addr) (xd : Xd), G.SI = SI0 → SXV cm a xd G → A.guards = some [] → Room k (A.deeper (envOfC qual (defScope stm) s.heap.objs.size f cdv)) → DSs (cxOf CX0 P w K mg base N qual (defScope stm) f cdv A outer s H E).nox G (defBody stm) (ws a xd) c)
    (hspec : ∀ a xd Q, spec xd Q → ws a xd (env0 N.length [.raw (.ref a)]) (endsOf Q)) (hcc : c ≤ cap := by decide +kernel) : FnG P w K mg base CX0 (k + 1) f fd [pn] (spV cm spec) := by
  obtain ⟨oc, od, kV, doc, pm, an, cdv, ct, osl, rfl, lk, hcd⟩ := F.ex
  refine fnG_of lk hcd S (fun vs H Q E h => ?_) fun A outer s H vs Q E hgd hr h => ?_
  · obtain ⟨a, M, x, Pd, rfl, _⟩ := h
    rfl
  · obtain ⟨a, M, xd, Pd, rfl, wf, xv, q, hq⟩ := h
    have er0 := start_er (SI := SI0) (st := stab0) (N := N) (b := 0) (vs := [.ref a]) (as := [.raw (.ref a)]) wf trivial (.cons (rfl : (V.ref a) = V.ref a) .nil)
    have fin : ∀ (l : List Fx) (b' : Nat) (w' : Wd), EH (((ghOf SI0 stab0 H M noC wf.md).more l).at b') w' → Ext ⟨H, M, noC⟩ ⟨w'.H, fun a => M a ∨ w'.C a, w'.C⟩ ∧ Wf ⟨w'.H, fun a => M a ∨ w'.C a, w'.C⟩ ∧ St1 w' ⟨w'.H, fun a => M a ∨ w'.C a, w'.C⟩ := fun l b' w' eh => by
      refine ⟨⟨fun a o n h => ?_, eh.hd, eh.nc, fun a m => m.elim .inl fun c => (eh.nc a c).imp (wf.cm a) id, fun a m => .inl m⟩, ⟨fun a c => .inr c, fun a m => eh.md a (m.elim (eh.m0 a) (eh.cm a)), fun a xs m => eh.mt a xs (m.elim (eh.m0 a) (eh.cm a))⟩, ⟨fun a o _ h => .inl h, fun a m => .inl (Or.elim m (eh.m0 a) (eh.cm a))⟩⟩
      exact eh.kp a o ((ghOf_pt (C := noC) n).trans h)
    have lfg : ∀ l : List Fx, Lift ((ghOf SI0 stab0 H M noC wf.md).more l) (0 + c) { nx := fun _ H' => Q .non H', rt := Q } (endsOf Pd) := fun l => by
      refine ⟨fun env' q b' w' σ' hb' er' => ?_, fun _ dv q b' w' Hs σ0 v hb' er0 rv hh => ?_, fun _ q => q.elim, fun _ q => q.elim⟩
      · obtain ⟨e1, e2, e3⟩ := fin l b' w' er'.toEH
        exact hq _ q ⟨w'.H, fun a => M a ∨ w'.C a, w'.C⟩ .non e1 e2 .non
      · have eh := er0.toEH
        obtain ⟨e1, e2, e3⟩ := fin l b' w' eh
        obtain ⟨d, hd, q⟩ := q
        refine hq _ q ⟨w'.H, fun a => M a ∨ w'.C a, w'.C⟩ v e1 e2 ?_
        have fresh : ∀ {a : Addr}, H a = none → ¬ w'.C a → ¬ (M a ∨ w'.C a) := fun h0 nc m => m.elim (fun m => wf.md _ m h0) nc
        cases dv with
        | fz d' => cases hd; exact Rp.st e3 rv
        | nw d' =>
          cases hd
          obtain ⟨a, rfl, z, m, n, o⟩ := rv
          have h0 : H a = none := by
            cases y : H a with
            | none => rfl
            | some o => exact absurd z (hh a (by show H a ≠ none; rw [y]; simp))
          exact ((o.st (St1.less w' a) rfl).st e3 rfl).rp (fresh h0 n)
        | ow d' =>
          cases hd
          obtain ⟨a, rfl, m, z, p, n, o⟩ := rv
          exact (o.st e3 rfl).rp (fresh z n)
        | bw d' => cases hd
        | raw u => cases hd
    obtain ⟨C, fo, e1, e2⟩ := xv
    cases fo with
    | none => exact ⟨_, hbody ((ghOf SI0 stab0 H M noC wf.md).more []) cdv A outer s H E a xd rfl ⟨C, none, e1, (ghOf_pt (C := noC) (fun z => z)).trans e2.1, e2.2⟩ hgd hr |>.nox, env0 N.length [.raw (.ref a)], M, noC, 0, _, by omega, ⟨er0.toEH.more (fun p hp => (nomatch hp)), er0.len, er0.sl, er0.od⟩, hspec a xd _ q, lfg []⟩
    | some fl =>
      obtain ⟨dd, v, g1, g2, g3, g4⟩ := e2
      exact ⟨_, hbody ((ghOf SI0 stab0 H M noC wf.md).more [fx v xd.d]) cdv A outer s H E a xd rfl ⟨C, some fl, e1, dd, v, (ghOf_pt (C := noC) (fun z => z)).trans g1, (ghOf_pt (C := noC) (fun z => z)).trans g3, List.mem_append_left _ List.mem_cons_self⟩ hgd hr |>.nox, env0 N.length [.raw (.ref a)], M, noC, 0, _, by omega, er0.more1 g4, hspec a xd _ q, lfg [fx v xd.d]⟩
/-- isinstance(e, one of the classes) -/
def wIsV (nm : Str) (i : Nat) (a : Addr) (x : Xd) : WE := fun env P => env[i]? = some (.raw (.ref a)) ∧ P (.fz (.bool (decide (x.nm = nm))))
/-- e.fld -/
def wFldV (nm : Str) (i : Nat) (a : Addr) (x : Xd) : WE := fun env P => x.nm = nm ∧ env[i]? = some (.raw (.ref a)) ∧ P (.fz x.d)
section
variable {X : Cx} {G : Gh} {cm : CM} {C C' fI : Addr} {nm qual fld n : Str} {st : Stmt} {a : Addr} {x : Xd} {p p2 p3 pos : Pos}
theorem SXV.obj {b : Nat} {w : Wd} (sx : SXV cm a x G) (eh : EH (G.at b) w) : ∃ D fo d, cm x.nm = some (D, fo) ∧ w.H a = some (ErO (.ref D) d a) ∧ (∀ dd, d = some dd → ∃ fs, w.H dd = some (.xd fs)) ∧ ∀ f, fo = some f → ∃ dd v, d = some dd ∧ w.H dd = some (.xd [(f, v)]) ∧ Rp w v x.d := by
  obtain ⟨D, fo, e1, e2⟩ := sx
  cases fo with
  | none =>
    refine ⟨D, none, none, e1, ?_, fun dd z => (nomatch z), fun f z => nomatch z⟩
    rcases eh.kp a _ e2.1 with k | ⟨_, dc, _⟩
    · exact k
    · exact (no_dct_er dc).elim
  | some f =>
    obtain ⟨dd, v, g1, g2, g3⟩ := e2
    have k2 : w.H dd = some (.xd [(f, v)]) := by
      rcases eh.kp dd _ g2 with k | ⟨_, dc, _⟩
      · exact k
      · exact (no_dct_xd dc).elim
    refine ⟨D, some f, some dd, e1, ?_, fun q z => by cases z; exact ⟨_, k2⟩, fun q z => by cases z; exact ⟨dd, v, rfl, k2, eh.gk _ g3⟩⟩
    rcases eh.kp a _ g1 with k | ⟨_, dc, _⟩
    · exact k
    · exact (no_dct_er dc).elim
theorem de_isV (i : Nat) (sx : SXV cm a x G) (hk : ∀ y D fo, cm y = some (D, fo) → ExcC X.K D ∧ PySem.W.kitOne X.K (.ref D) (.ref C') = some (decide (y = nm))) (hg : Gl X "isinstance") (hm : X.mg "isinstance" = none) (hgT : Gl X nm) (hmT : X.mg nm = some (.ref C')) (hv : PE X (.Name n p2) (tVar i))
    (hdT : (nm == ("__debug__" : Str)) = false := by decide) (hs : starEach [.Name n p2, .Name nm p3] X.env = (false, eval (.Name n p2) X.env) :: starEach [.Name nm p3] X.env := by rfl) (hs2 : starEach [.Name nm p3] X.env = (false, eval (.Name nm p3) X.env) :: starEach [] X.env := by rfl) (hpl : (backTo pos (starEach [.Name nm p3] X.env)).any (·.1) = false := by rfl) :
    DE X G (.Call (.Name "isinstance" p) [.Name n p2, .Name nm p3] [] pos) (wIsV nm i a x) 0 :=
  PE_imp (pe_callB call_isV hg hm (by decide +kernel) (pa_cons hv (pa_cons (pe_glob (v := .ref C') hgT hmT rfl hdT) pa_nil hs2) hs) (by decide) (by decide) hs hpl) fun σ H Q h => by
    obtain ⟨env, M, C, b, P, hb, er, ⟨hi, p⟩, hf⟩ := h
    obtain ⟨ov, h1, rfl⟩ := er.at hi
    obtain ⟨D, fo, d, e1, e2, e3, _⟩ := sx.obj er.toEH
    obtain ⟨k1, k2⟩ := hk _ _ _ e1
    exact ⟨.ref a, h1, a, D, d, .ref C', .ref C', _, rfl, e2, e3, k1, fun u r => r, k2, hf _ p b ⟨H, M, C⟩ _ (by omega) er (Ext.refl _) (.bl _)⟩
theorem de_fldV (i : Nat) (sx : SXV cm a x G) (T : PySem.EXN.Txt X.prog X.K X.mg nm qual st C fI) (noN : PySem.W.findIn X.K (.ref C) fld = some none) (hcm : cm nm = some (C, some fld)) (hv : PE X (.Name n p) (tVar i)) (hb : attributeBase (.Name n p) fld X.env (eval (.Name n p) X.env) = eval (.Name n p) X.env := by rfl) :
    DE X G (.Attribute (.Name n p) fld pos) (wFldV nm i a x) 0 := PE_imp (pe_fldV hv hb) fun σ H Q h => by
  obtain ⟨env, M, C0, b, P, hb0, er, ⟨hn, hi, p⟩, hf⟩ := h
  obtain ⟨ov, h1, rfl⟩ := er.at hi
  obtain ⟨D, fo, d, e1, e2, e3, e4⟩ := sx.obj er.toEH
  rw [hn, hcm] at e1
  cases e1
  obtain ⟨dd, v, rfl, g1, g2⟩ := e4 fld rfl
  exact ⟨.ref a, h1, a, C, dd, v, rfl, e2, g1, T.ga, T.gg, T.exC, T.hdC, noN, hf _ p b ⟨H, M, C0⟩ v (by omega) er (Ext.refl _) g2⟩
end
end DL
namespace DL
open PySem PySem.Spec PyProof.Rows L2
theorem kit_clsOf {K : PySem.W.Frag} {S S' : Addr} {b : Bool} (h2 : PySem.W.isClsIn K S' = true) (h3 : PySem.W.typeIn K (.ref S') = some (.type "type")) (h4 : PySem.W.subIn K (.ref S) (.ref S') = some b) (h5 : PySem.W.subIn K (.ref S) (.ref S) = some true) : PySem.W.kitOne K (.ref S) (.ref S') = some b := by
  unfold PySem.W.kitOne
  by_cases e : (Value.ref S == Value.ref S') = true
  · have : S = S' := Value.ref.inj (beq_iff_eq.mp e)
    subst this
    rw [h5] at h4
    rw [if_pos e, h4]
  · rw [if_neg e]
    have h2' : (PySem.W.clsIn K S').isSome = true := h2
    have e2 : ((PySem.W.clsIn K S').isSome && PySem.W.typeIn K (.ref S') == some (.type "type")) = true := by rw [h2', h3] <;> rfl
    show (if ((PySem.W.clsIn K S').isSome && PySem.W.typeIn K (.ref S') == some (.type "type")) = true then PySem.W.subIn K (.ref S) (.ref S') else none) = _
    rw [if_pos e2]; exact h4
/-- one of several classes -/
def mts (l : List Str) : Str → Bool := fun y => decide (y ∈ l)
end DL
/-! Errors as data: made, looked at, handed on. -/
namespace DL
open PySem PySem.Spec PyProof.Rows L2
def errD (C : Addr) : Option (Str × D) → D
  | none => .dict [(.none, .list []), (.tuple [], .int ((C : Nat) : Int))]
  | some (f, d) => .dict [(.none, .list [d]), (.tuple [], .tuple [.int ((C : Nat) : Int), .str f])]
/-- by its name -/
def erD (cm : CM) (nm : Str) (d : D) : D := match cm nm with
  | some (C, some f) => errD C (some (f, d))
  | some (C, none) => errD C none
  | none => .none
theorem rp_err0 {w : Wd} {a C : Addr} (m : ¬ w.M a) (h : w.H a = some (ErO (.ref C) none a)) : Rp w (.ref a) (errD C none) :=
  .op m .err0 (fun p hp => by rw [List.mem_singleton.mp hp]; exact ⟨m, h⟩) .nil
theorem rp_err1 {w : Wd} {a C dd : Addr} {f : Str} {v : V} {d : D} (m : ¬ w.M a) (h : w.H a = some (ErO (.ref C) (some dd) a)) (m2 : ¬ w.M dd) (h2 : w.H dd = some (.xd [(f, v)])) (r : Rp w v d) : Rp w (.ref a) (errD C (some (f, d))) :=
  .op m .err1 (fun p hp => by
    rcases List.mem_cons.mp hp with rfl | hp
    · exact ⟨m, h⟩
    · rw [List.mem_singleton.mp hp]; exact ⟨m2, h2⟩) (.cons r .nil)
theorem rp_errX0 {w : Wd} {a C : Addr} {oe : Obj} (z : Zc (.ref C) none oe) (hv : ∃ vs, oe.data = .fields vs) (m : ¬ w.M a) (h : w.H a = some (ErX oe a)) : Rp w (.ref a) (errD C none) :=
  .op m (.errX0 z hv) (fun p hp => by rw [List.mem_singleton.mp hp]; exact ⟨m, h⟩) .nil
theorem rp_errX1 {w : Wd} {a C dd : Addr} {f : Str} {v : V} {d : D} {oe : Obj} (z : Zc (.ref C) (some dd) oe) (hv : ∃ vs, oe.data = .fields vs) (m : ¬ w.M a) (h : w.H a = some (ErX oe a)) (m2 : ¬ w.M dd) (h2 : w.H dd = some (.xd [(f, v)])) (r : Rp w v d) : Rp w (.ref a) (errD C (some (f, d))) :=
  .op m (.errX1 z hv) (fun p hp => by
    rcases List.mem_cons.mp hp with rfl | hp
    · exact ⟨m, h⟩
    · rw [List.mem_singleton.mp hp]; exact ⟨m2, h2⟩) (.cons r .nil)
/-- what is read off such data -/
theorem Rq.opq {w : Wd} {u : V} {c : D} {ds : List D} (h : Rq w u (.dict [(.none, .list ds), (.tuple [], c)])) : ∃ a F vs, u = .ref a ∧ Opq c a F vs ∧ (∀ p ∈ F, ¬ w.M p.1 ∧ w.H p.1 = some p.2) ∧ RpL w vs ds := by
  cases h with
  | op h f r => exact ⟨_, _, _, rfl, h, f, r⟩
  | @dK a kvs _ _ ek _ =>
    exfalso
    cases kvs with
    | nil => cases ek
    | cons q s =>
      rw [List.map_cons, List.map_cons] at ek
      have e := (List.cons.inj ek).1
      obtain ⟨qk, qv⟩ := q
      cases qk <;> cases e
  | dN n _ _ =>
    have := n.tt _ (List.mem_cons_self ..)
    cases this
section
variable {X : Cx} {pins : List (Addr × Obj)} {σ : L2.St} {s : Shared} {w : Wd}
theorem Rq.err0 (I : Inv X pins σ w.H s) {u : V} {C : Addr} (h : Rq w u (errD C none)) : ∃ a oe od, u = .ref a ∧ PySem.W.InstAt s.heap a oe C od := by
  obtain ⟨a, F, vs, rfl, o, f, r⟩ := Rq.opq h
  generalize hc : (PyData.int ((C : Nat) : Int) : D) = c at o
  cases o with
  | @err0 C' _ =>
    have e : C = C' := by injection hc with e; exact Int.ofNat.inj e
    subst e
    obtain ⟨oe, od, J⟩ := inst_of I (f _ (List.mem_singleton.mpr rfl)).2 (fun dd z => (nomatch z))
    exact ⟨a, oe, od, rfl, J⟩
  | @errX0 C' _ oe z hv =>
    have e : C = C' := by injection hc with e; exact Int.ofNat.inj e
    subst e
    obtain ⟨vs, hv⟩ := hv
    obtain ⟨h1, _, _⟩ := I.hok a _ (f _ (List.mem_singleton.mpr rfl)).2
    refine ⟨a, oe, none, rfl, ?_⟩
    obtain ⟨oc, od, oda, osl⟩ := oe
    obtain ⟨z1, z2⟩ := z
    dsimp only at z1 z2 hv
    subst z1 z2 hv
    exact ⟨h1, rfl, rfl, trivial⟩
  | err1 => cases hc
  | errX1 _ _ => cases hc
theorem Rq.err1 (I : Inv X pins σ w.H s) {u : V} {C : Addr} {fl : Str} {d : D} (h : Rq w u (errD C (some (fl, d)))) : ∃ a oe dd v vs, u = .ref a ∧ s.heap.get? a = some oe ∧ Zc (.ref C) (some dd) oe ∧ oe.data = .fields vs ∧ w.H dd = some (.xd [(fl, v)]) ∧ Rp w v d := by
  obtain ⟨a, F, vs, rfl, o, f, r⟩ := Rq.opq h
  generalize hc : (PyData.tuple [.int ((C : Nat) : Int), .str fl] : D) = c at o
  cases o with
  | @err1 C' _ dd fl' v =>
    obtain ⟨e, rfl⟩ : C = C' ∧ fl = fl' := by
      injection hc with e
      obtain ⟨e1, e2⟩ := List.cons.inj e
      obtain ⟨e3, _⟩ := List.cons.inj e2
      injection e1 with e1
      injection e3 with e3
      exact ⟨Int.ofNat.inj e1, e3⟩
    subst e
    obtain ⟨⟨oe, vs, h1, hz, hv⟩, _, _⟩ := I.hok a _ (f _ (List.mem_cons_self ..)).2
    cases r with
    | cons rv rn => exact ⟨a, oe, dd, v, vs, rfl, h1, hz, hv, (f _ (List.mem_cons_of_mem _ (List.mem_singleton.mpr rfl))).2, rv⟩
  | @errX1 C' _ dd fl' v oe z hv =>
    obtain ⟨e, rfl⟩ : C = C' ∧ fl = fl' := by
      injection hc with e
      obtain ⟨e1, e2⟩ := List.cons.inj e
      obtain ⟨e3, _⟩ := List.cons.inj e2
      injection e1 with e1
      injection e3 with e3
      exact ⟨Int.ofNat.inj e1, e3⟩
    subst e
    obtain ⟨vs, hv⟩ := hv
    obtain ⟨h1, _, _⟩ := I.hok a _ (f _ (List.mem_cons_self ..)).2
    cases r with
    | cons rv rn => exact ⟨a, oe, dd, v, vs, rfl, h1, z, hv, (f _ (List.mem_cons_of_mem _ (List.mem_singleton.mpr rfl))).2, rv⟩
  | err0 => cases hc
  | errX0 _ _ => cases hc
theorem inst_xd (I : Inv X pins σ w.H s) {a C dd : Addr} {oe : Obj} {fs : List (Str × V)} {vs : Array Value} (h1 : s.heap.get? a = some oe) (z : Zc (.ref C) (some dd) oe) (hv : oe.data = .fields vs) (hd : w.H dd = some (.xd fs)) : ∃ od, PySem.W.InstAt s.heap a oe C (some od) := by
  obtain ⟨mA, hns, _⟩ : ObjOk X.prog X.w w.H s.heap dd (.xd fs) := I.hok dd _ hd
  obtain ⟨od, ho, hl⟩ := lookIn_ns hns
  exact ⟨od, h1, z.1, by unfold PySem.W.notCls; rw [hv] <;> rfl, by rw [z.2]; exact ho⟩
theorem Rq.errI (I : Inv X pins σ w.H s) {u : V} {C : Addr} {fo : Option (Str × D)} (h : Rq w u (errD C fo)) : ∃ a oe od, u = .ref a ∧ PySem.W.InstAt s.heap a oe C od := by
  match fo, h with
  | none, h => exact h.err0 I
  | some (f, d), h =>
    obtain ⟨a, oe, dd, v, vs, rfl, h1, z, hv, hd, _⟩ := h.err1 I
    obtain ⟨od, J⟩ := inst_xd I h1 z hv hd
    exact ⟨a, oe, _, rfl, J⟩
end
/-! ### isinstance, fields -/
theorem call_isW {X : Cx} : CallR X (.builtin "isinstance") (fun xs H Q => ∃ (w : Wd) (x : V) (C : Addr) (fo : Option (Str × D)) (c : V) (cv : Value) (b : Bool), w.H = H ∧ xs = [x, c] ∧ Rq w x (errD C fo) ∧ ExcC X.K C ∧ (∀ u, RelV c u → u = cv) ∧ PySem.W.kitOne X.K (.ref C) cv = some b ∧ Q (.bl b) H) := by
  intro pins s σ H xs us Q I r h
  obtain ⟨w, x, D, fo, c, cv, b, rfl, rfl, rq, C, hcv, e, q⟩ := h
  cases r with
  | cons rx rr =>
    cases rr with
    | cons rt rr =>
      cases rr
      have ec := hcv _ rt
      subst ec
      obtain ⟨a, oe, od, rfl, J⟩ := rq.errI I
      cases rx
      exact PySem.W.kia_one (kitx_excV C) I.kIn J e (fun z => nomatch z) fun tk => ⟨.bl b, w.H, I.kept (t' := tk) fun _ _ z => z, rfl, q⟩
def wIsE (er : Str → D → D) (ns : List Str) (isa : Str → Str → Bool) (nm2 : Str) (we : WE) : WE := fun env P => we env fun x => ∃ nm d, nm ∈ ns ∧ x.val = some (er nm d) ∧ P (.fz (.bool (isa nm nm2)))
section
variable {X : Cx} {G : Gh} {cm : CM} {e t : Expr} {we : WE} {ca : Nat} {ns : List Str} {isa : Str → Str → Bool} {nm2 : Str} {c : V} {cv : Value} {p pos : Pos}
theorem erD_of {y : Str} {C : Addr} {fo : Option Str} {d : D} (h : cm y = some (C, fo)) : erD cm y d = errD C (fo.map fun f => (f, d)) := by
  unfold erD
  rw [h]
  cases fo <;> rfl
theorem de_isE (hc : ∀ u, RelV c u → u = cv) (hk : ∀ y ∈ ns, ∃ C fo, cm y = some (C, fo) ∧ ExcC X.K C ∧ PySem.W.kitOne X.K (.ref C) cv = some (isa y nm2)) (hg : Gl X "isinstance") (hm : X.mg "isinstance" = none) (he : DE X G e we ca) (ht : PE X t (fun σ H Q => Q c H))
    (hs : starEach [e, t] X.env = (false, eval e X.env) :: starEach [t] X.env := by rfl) (hs2 : starEach [t] X.env = (false, eval t X.env) :: starEach [] X.env := by rfl) (hpl : (backTo pos (starEach [t] X.env)).any (·.1) = false := by rfl) :
    DE X G (.Call (.Name "isinstance" p) [e, t] [] pos) (wIsE (erD cm) ns isa nm2 we) ca :=
  PE_imp (pe_callB call_isW hg hm (by decide +kernel) (pa_cons he (pa_cons ht pa_nil hs2) hs) (by decide) (by decide) hs hpl) fun σ H Q h => by
    obtain ⟨env, M, C, b, P, hb, er, hw, hf⟩ := h
    refine ⟨env, M, C, b, _, hb, er, hw, fun dv hd b1 w1 v hb1 er1 e1 r1 => ?_⟩
    obtain ⟨nm, d, hn, hv, q⟩ := hd
    obtain ⟨D, fo, k1, k2, k3⟩ := hk nm hn
    rw [erD_of k1] at hv
    exact ⟨w1, v, D, _, c, cv, _, rfl, rfl, r1.rq hv, k2, hc, k3, hf _ q b1 w1 _ hb1 er1 e1 (.bl _)⟩
end
end DL
/-! Errors as data: their fields; made ones. -/
namespace DL
open PySem PySem.Spec PyProof.Rows L2
/-- the class above, and whether an error of y is one of c -/
def eBase (y : Str) : Str := if y = "TooGreat" then "OverflowError" else if y = "Nothing" then "LookupError" else "ValueError"
def isaE (y c : Str) : Bool := decide (y = c) || decide (c = eBase y)
theorem kit_bltOf {K : PySem.W.Frag} {C : Addr} {T : String} {b : Bool} (m : PySem.W.kitMeta T = true) (h : PySem.W.subIn K (.ref C) (.type T) = some b) : PySem.W.kitOne K (.ref C) (.type T) = some b := by
  show (if (Value.ref C == Value.type T) = true then some true else if PySem.W.kitMeta T = true then PySem.W.subIn K (.ref C) (.type T) else none) = some b
  rw [if_neg (show ¬ ((Value.ref C == Value.type T) = true) from by simp), if_pos m]; exact h
structure FldC (K : PySem.W.Frag) (C : Addr) (fld : Str) : Prop where
  ga : PySem.W.findIn K (.ref C) "__getattribute__" = some (some (.builtin "BaseException.__getattribute__"))
  gg : PySem.W.findIn K (.ref C) "__getattr__" = some none
  exC : PySem.W.subIn K (.ref C) (.type "BaseException") = some true
  hdC : PySem.W.hasDictIn K C = true
  noN : PySem.W.findIn K (.ref C) fld = some none
theorem fldC_of {P : Program} {K : PySem.W.Frag} {mg : Str → Option Value} {nm qual fld : Str} {st : Stmt} {C fI : Addr} (T : PySem.EXN.Txt P K mg nm qual st C fI) (noN : PySem.W.findIn K (.ref C) fld = some none) : FldC K C fld := ⟨T.ga, T.gg, T.exC, T.hdC, noN⟩
theorem pe_fldW {X : Cx} {fld : Str} {e : Expr} {te : TE} {pos : Pos} (he : PE X e te) (hb : attributeBase e fld X.env (eval e X.env) = eval e X.env) :
    PE X (.Attribute e fld pos) (fun σ H Q => te σ H fun x H1 => ∃ (w : Wd) (C : Addr) (d : D), w.H = H1 ∧ Rq w x (errD C (some (fld, d))) ∧ FldC X.K C fld ∧ ∀ v, Rp w v d → Q v H1) := by
  refine ⟨fun pins s σ H Q I h => ?_⟩
  refine attr_of hb (thn (he.run pins s σ H _ I h) fun u s1 hh => ?_)
  obtain ⟨x, H1, I1, rx, w, C, d, rfl, rq, F, q⟩ := hh
  obtain ⟨a, oe, dd, v, vs, rfl, h1, z, hv, hd, rv⟩ := rq.err1 I1
  obtain rfl : u = Value.ref a := rx
  have hx : ObjOk X.prog X.w w.H s1.heap dd (.xd [(fld, v)]) := I1.hok dd _ hd
  obtain ⟨mA, hns, hr⟩ := hx
  obtain ⟨od, ho, hl⟩ := lookIn_ns hns
  have l : List.lookup fld [(fld, v)] = some v := by simp [List.lookup]
  obtain ⟨u, hu, ru⟩ := RelO.some_of (v := v) (o := mA fld) (by rw [← l]; exact hr fld)
  have J : PySem.W.InstAt s1.heap a oe C (some od) := ⟨h1, z.1, by unfold PySem.W.notCls; rw [hv] <;> rfl, by rw [z.2]; exact ho⟩
  exact HandSPX.exc_get I1.kIn J F.ga F.gg F.exC (PySem.W.findObj_own F.hdC F.noN rfl (by rw [hl, hu])) (handed_of ru) ⟨v, w.H, I1.tok _, ru, q v rv⟩
def wFldE (er : Str → D → D) (ns : List Str) (we : WE) : WE := fun env P => we env fun x => ∃ nm d, nm ∈ ns ∧ x.val = some (er nm d) ∧ P (.fz d)
def wMkE (er : Str → D → D) (nm : Str) (wr : WA) : WE := fun env P => wr env fun ds => ∃ x d, ds = [x] ∧ x.kept = some d ∧ P (.fz (er nm d))
def wMkE0 (er : Str → D → D) (nm : Str) (wr : WA) : WE := fun env P => wr env fun ds => ∃ x, ds = [x] ∧ P (.fz (er nm .none))
section
variable {X : Cx} {G : Gh} {cm : CM} {e : Expr} {we : WE} {wr : WA} {ca : Nat} {ns : List Str} {nm fld : Str} {C : Addr} {pos : Pos}
theorem de_fldE (hk : ∀ y ∈ ns, ∃ C, cm y = some (C, some fld) ∧ FldC X.K C fld) (he : DE X G e we ca) (hb : attributeBase e fld X.env (eval e X.env) = eval e X.env := by rfl) :
    DE X G (.Attribute e fld pos) (wFldE (erD cm) ns we) ca := PE_imp (pe_fldW he hb) fun σ H Q h => by
  obtain ⟨env, M, C0, b, P, hb0, er, hw, hf⟩ := h
  refine ⟨env, M, C0, b, _, hb0, er, hw, fun dv hd b1 w1 v hb1 er1 e1 r1 => ?_⟩
  obtain ⟨nm, d, hn, hv, q⟩ := hd
  obtain ⟨D, k1, k2⟩ := hk nm hn
  rw [erD_of k1] at hv
  exact ⟨w1, D, d, rfl, r1.rq hv, k2, fun v' rv => hf _ q b1 w1 v' hb1 er1 e1 rv⟩
theorem de_mkF (hcm : cm nm = some (C, some fld)) (h : PMk X e (tMkF C fld (tA G wr ca))) : DE X G e (wMkE (erD cm) nm wr) ca := PE_imp (pe_keep h) fun σ H Q h => by
  obtain ⟨env, M, C0, b, P, hb0, er, hw, hf⟩ := h
  refine ⟨env, M, C0, b, _, hb0, er, hw, fun ds hd b1 w1 vs hb1 er1 e1 r1 => ?_⟩
  obtain ⟨x, d, rfl, hk, q⟩ := hd
  cases r1 with
  | cons rv rn =>
    cases rn
    rename_i v
    refine ⟨v, rfl, fun dd hn a hn2 => ?_⟩
    have sm : Same w1.H (upd w1.H dd (.xd [(fld, v)])) := same_new hn
    have ne : dd ≠ a := fun z => by rw [z, upd_same] at hn2; cases hn2
    have na : w1.H a = none := by rw [upd_ne ne.symm] at hn2; exact hn2
    have sm2 : Same (upd w1.H dd (.xd [(fld, v)])) (upd (upd w1.H dd (.xd [(fld, v)])) a (ErO (.ref C) (some dd) a)) := same_new hn2
    have er2 := (er1.same sm).same sm2
    have e2 := (Ext.same (w := w1) sm).trans (Ext.same (w := ⟨upd w1.H dd (.xd [(fld, v)]), w1.M, w1.C⟩) sm2)
    refine hf _ q b1 ⟨_, w1.M, w1.C⟩ _ hb1 er2 (e1.trans e2) ?_
    rw [erD_of hcm]
    refine rp_err1 (fun m => er1.md a m na) upd_same (fun m => er1.md dd m hn) ?_ ((rv.rp hk).st (e2.st er1.cm))
    show upd (upd w1.H dd (.xd [(fld, v)])) a _ dd = _
    rw [upd_ne ne, upd_same]
theorem de_mk0 (hcm : cm nm = some (C, none)) (h : PMk X e (tMk0 C (tA G wr ca))) : DE X G e (wMkE0 (erD cm) nm wr) ca := PE_imp (pe_keep h) fun σ H Q h => by
  obtain ⟨env, M, C0, b, P, hb0, er, hw, hf⟩ := h
  refine ⟨env, M, C0, b, _, hb0, er, hw, fun ds hd b1 w1 vs hb1 er1 e1 r1 => ?_⟩
  obtain ⟨x, rfl, q⟩ := hd
  cases r1 with
  | cons rv rn =>
    cases rn
    rename_i v
    refine ⟨v, rfl, fun a na => ?_⟩
    have sm2 : Same w1.H (upd w1.H a (ErO (.ref C) none a)) := same_new na
    refine hf _ q b1 ⟨_, w1.M, w1.C⟩ _ hb1 (er1.same sm2) (e1.trans (Ext.same sm2)) ?_
    rw [erD_of hcm]
    exact rp_err0 (fun m => er1.md a m na) upd_same
end
end DL
/-! Defs that may be called while an error is handled. -/
namespace DL
open PySem PySem.Spec PyProof.Rows L2
structure FnW (P : Program) (w : World) (K : PySem.W.Frag) (mg : Str → Option Value) (base : Heap) (CX : CXT) (k : Nat) (f : Addr) (fd : FuncData) (ps : List Str) (sp : Sp) : Prop where
  len : ∀ vs H Q E, sp vs H Q E → vs.length = ps.length
  run : ∀ (A : Around) (outer : List Env) (s : Shared) (H : Hp) (args : Args) (us : List Value) (vs : List V) (Q : VK) (E : XK), A.guards = some [] → L2H.RoomH k A → Env0 P w K mg base A outer s H → BindsTo s fd args (ps.zip us) → Vals vs us → sp vs H Q E →
    codeAny (model P w) A (.call (.ref f) args) (CR CX outer P w H s Q E) s
/-- the context of such a def's body -/
def cxW (CX : CXT) (P : Program) (w : World) (K : PySem.W.Frag) (mg : Str → Option Value) (base : Heap) (N : List Str) (qual : Str) (scope : Scope) (f : Addr) (cd : Value) (A : Around) (outer : List Env) (s : Shared) (H : Hp) (E : XK) : Cx :=
  { cxOf CX P w K mg base N qual scope f cd A outer s H E with calm := false }
theorem inv_startW {CX : CXT} {P : Program} {w : World} {K : PySem.W.Frag} {mg : Str → Option Value} {base : Heap} {N ps : List Str} {qual : Str} {scope : Scope} {f : Addr} {cd : Value} {A : Around} {outer : List Env} {s s1 : Shared} {H : Hp} {E : XK} {us : List Value} {vs : List V}
    (S : FnScope N ps scope) (e0 : Env0 P w K mg base A outer s H) (hl : vs.length = ps.length) (r : Vals vs us)
    (x : InCallC s s.heap.objs.size (bindL (envOfC qual scope s.heap.objs.size f cd).kindOf (ps.zip us) fun _ => none) (cellsFrom (s.heap.objs.size + 1) scope.names []) (bindC (envOfC qual scope s.heap.objs.size f cd).kindOf (ps.zip us) fun _ => none) s1) :
    Inv (cxW CX P w K mg base N qual scope f cd A outer s H E) [] (L2.start N vs) H s1 := by
  have e1 : Env0 P w K mg base ({ A with handled := none } : Around) outer s H := ⟨e0.frames, e0.mod, e0.bs, e0.bsz, e0.funs, e0.frf, e0.hok, e0.bare⟩
  have I := inv_start (CX := CX) (E := E) (A := { A with handled := none }) S rfl e1 hl r x
  exact ⟨⟨I.ok.mod, I.ok.kind, I.ok.glob, I.ok.blt, I.ok.above, I.ok.inj, I.ok.has, I.ok.cab, fun z => Bool.noConfusion (show false = true from z), Around.frames_deeper e0.frames, I.ok.stk, I.ok.exf, I.ok.bs, I.ok.bsz, I.ok.noex, I.ok.exfs, I.ok.funs, I.ok.frf⟩, I.os, I.bare, I.base, I.loc, I.cell, I.free, I.freeC, I.pin, I.hok, I.len⟩
theorem fnW_of {CX : CXT} {P : Program} {w : World} {K : PySem.W.Frag} {mg : Str → Option Value} {base : Heap} {k : Nat} {f : Addr} {name qual : Str} {params : Arguments} {body : List Stmt} {scope : Scope} {dV kV doc pm cdv ct oc : Value} {an od : Option Addr}
    {osl : Array (Option Value)} {N ps : List Str} {sp : Sp} (hlk : K.lookup f = some ⟨oc, od, .func (PySem.W.fnOf name qual params body scope dV kV doc pm an cdv ct), osl⟩) (hco : PySem.W.codeIn K cdv qual = true) (S : FnScope N ps scope)
    (hlen : ∀ vs H Q E, sp vs H Q E → vs.length = ps.length)
    (hb : ∀ (A : Around) (outer : List Env) (s : Shared) (H : Hp) (vs : List V) (Q : VK) (E : XK), A.guards = some [] → L2H.RoomH k (A.deeper (envOfC qual scope s.heap.objs.size f cdv)) → sp vs H Q E →
      ∃ t, PSs (cxW CX P w K mg base N qual scope f cdv A outer s H E) body t ∧ t { nx := fun _ H' => Q .non H', rt := Q } (L2.start N vs) H) :
    FnW P w K mg base CX (k + 1) f (PySem.W.fnOf name qual params body scope dV kV doc pm an cdv ct) ps sp := by
  refine ⟨hlen, fun A outer s H args us vs Q E hgd hroom env0 hbind hvals hs => ?_⟩
  have inK : K.In s.heap := env0.mod.kin.keeps fun b o q => (env0.bs b o q).1
  have nol : s.heap.NoLimit := env0.mod.nolimit.keeps fun b o q => (env0.bs b o q).1
  have kinds : ∀ y ∈ ps.zip us, scope.names.lookup y.1 = some .local ∨ (scope.names.lookup y.1 = some .cell ∧ ((cellsFrom (s.heap.objs.size + 1) scope.names []).lookup y.1).isSome = true) := by
    rintro ⟨n, v⟩ hy
    exact (S.par n (List.of_mem_zip hy).1).imp id fun q => ⟨q, PySem.W.cellsFrom_some _ _ _ (.inl q)⟩
  refine codeAny_call_function hroom.depth (inK _ _ hlk) rfl S.co S.gen rfl (PySem.W.codeRec_of inK hco) (hbind _ _ _ _ (wpAny_newFunctionEnv_cells S.kind kinds fun env he s1 x => ?_))
  subst he
  refine ⟨nol.keeps x.toInCall.keep, codeAny_func ?_⟩
  obtain ⟨t, pt, ht⟩ := hb A outer s H vs Q E hgd (hroom.deeper _) hs
  have inv0 := inv_startW (CX := CX) (E := E) S env0 (hlen _ _ _ _ hs) hvals x
  refine wpAny_mono (pt.run [] s1 (L2.start N vs) H _ inv0 ht) (fun fl s2 q => ?_) fun e s2 q => q
  cases fl with
  | ret u => obtain ⟨v, σ2, H2, J, rv, q⟩ := q; exact ⟨v, H2, J.os, J.bare, J.base, J.hok, rv, q⟩
  | next => obtain ⟨σ2, H2, J, q⟩ := q; exact ⟨.non, H2, J.os, J.bare, J.base, J.hok, rfl, q⟩
  | brk => obtain ⟨_, _, _, q⟩ := q; exact q.elim
  | cont => obtain ⟨_, _, _, q⟩ := q; exact q.elim

theorem fn_dataW {SI : SInv} (st : Stab SI) {P : Program} {w : World} {K : PySem.W.Frag} {mg : Str → Option Value} {base : Heap} {x qual : Str} {stm : Stmt} {f : Addr} {fd : FuncData} {N ps : List Str} {k c c' : Nat} {spec : Spec} {ws : WS}
    (F : Fun K x qual stm f fd) (S : FnScope N ps (defScope stm)) (hlen : ∀ as Q, spec as Q → as.length = ps.length)
    (hbody : ∀ (G : Gh) (cdv : Value) (A : Around) (outer : List Env) (s : Shared) (H : Hp) (E : XK), G.SI = SI → A.guards = some [] → L2H.RoomH k (A.deeper (envOfC qual (defScope stm) s.heap.objs.size f cdv)) → DSs (cxW CX0 P w K mg base N qual (defScope stm) f cdv A outer s H E).nox G (defBody stm) ws c)
    (hspec : ∀ as Q, spec as Q → ws (env0 N.length as) (endsOf Q)) (hcc : c ≤ c' := by decide +kernel) : FnW P w K mg base CX0 (k + 1) f fd ps (spF SI c' spec) := by
  obtain ⟨oc, od, kV, doc, pm, an, cdv, ct, osl, rfl, lk, hcd⟩ := F.ex
  refine fnW_of lk hcd S (fun vs H Q E h => ?_) fun A outer s H vs Q E hgd hr h => ?_
  · obtain ⟨as, M, C, b, Pd, _, _, _, r, q, _⟩ := h
    rw [r.length]; exact hlen _ _ q
  · obtain ⟨as, M, C, b, Pd, hb, wf, si, r, q, hq⟩ := h
    refine ⟨_, (hbody (ghOf SI st H M C wf.md) cdv A outer s H E rfl hgd hr).nox, env0 N.length as, M, C, b, _, by omega, start_er wf si r, hspec as _ q, ?_⟩
    -- what the ends are worth
    have fin : ∀ (b' : Nat) (w' : Wd), EH ((ghOf SI st H M C wf.md).at b') w' → Ext ⟨H, M, C⟩ ⟨w'.H, fun a => M a ∨ w'.C a, w'.C⟩ ∧ Wf ⟨w'.H, fun a => M a ∨ w'.C a, w'.C⟩ ∧ St1 w' ⟨w'.H, fun a => M a ∨ w'.C a, w'.C⟩ := fun b' w' eh => by
      refine ⟨⟨fun a o n h => ?_, eh.hd, eh.nc, fun a m => m.elim .inl fun c => (eh.nc a c).imp (wf.cm a) id, fun a m => .inl m⟩, ⟨fun a c => .inr c, fun a m => eh.md a (m.elim (eh.m0 a) (eh.cm a)), fun a xs m => eh.mt a xs (m.elim (eh.m0 a) (eh.cm a))⟩, ⟨fun a o _ h => .inl h, fun a m => .inl (Or.elim m (eh.m0 a) (eh.cm a))⟩⟩
      exact eh.kp a o ((ghOf_pt n).trans h)
    refine ⟨fun env' q b' w' σ' hb' er' => ?_, fun _ dv q b' w' Hs σ0 v hb' er0 rv hh => ?_, fun _ q => q.elim, fun _ q => q.elim⟩
    · obtain ⟨e1, e2, e3⟩ := fin b' w' er'.toEH
      exact hq _ q b' ⟨w'.H, fun a => M a ∨ w'.C a, w'.C⟩ .non (by omega) e1 er'.si e2 .non
    · have eh := er0.toEH
      obtain ⟨e1, e2, e3⟩ := fin b' w' eh
      obtain ⟨d, hd, q⟩ := q
      refine hq _ q b' ⟨w'.H, fun a => M a ∨ w'.C a, w'.C⟩ v (by omega) e1 eh.si e2 ?_
      have fresh : ∀ {a : Addr}, H a = none → ¬ w'.C a → ¬ (M a ∨ w'.C a) := fun h0 nc m => m.elim (fun m => wf.md _ m h0) nc
      cases dv with
      | fz d' => cases hd; exact Rp.st e3 rv
      | nw d' =>
        cases hd
        obtain ⟨a, rfl, z, m, n, o⟩ := rv
        have h0 : H a = none := by
          cases y : H a with
          | none => rfl
          | some o => exact absurd z (hh a (by show H a ≠ none; rw [y]; simp))
        exact ((o.st (St1.less w' a) rfl).st e3 rfl).rp (fresh h0 n)
      | ow d' =>
        cases hd
        obtain ⟨a, rfl, m, z, p, n, o⟩ := rv
        exact (o.st e3 rfl).rp (fresh z n)
      | bw d' => cases hd
      | raw u => cases hd

theorem fn_pureW {P : Program} {w : World} {K : PySem.W.Frag} {mg : Str → Option Value} {base : Heap} {x qual : Str} {stm : Stmt} {f : Addr} {fd : FuncData} {N ps : List Str} {k c : Nat} {spec : Spec} {ws : WS}
    (F : Fun K x qual stm f fd) (S : FnScope N ps (defScope stm)) (hlen : ∀ as Q, spec as Q → as.length = ps.length)
    (hbody : ∀ (G : Gh) (cdv : Value) (A : Around) (outer : List Env) (s : Shared) (H : Hp) (E : XK), G.SI = SI0 → A.guards = some [] → L2H.RoomH k (A.deeper (envOfC qual (defScope stm) s.heap.objs.size f cdv)) → DSs (cxW CX0 P w K mg base N qual (defScope stm) f cdv A outer s H E).nox G (defBody stm) ws c)
    (hspec : ∀ as Q, spec as Q → ws (env0 N.length as) (endsOf Q)) (hcc : c ≤ cap := by decide +kernel) : FnW P w K mg base CX0 (k + 1) f fd ps (spF SI0 0 spec) := by
  have h := fn_dataW (c' := c) stab0 F S hlen hbody hspec (Nat.le_refl _)
  have dn : ∀ vs H Q E, spF SI0 0 spec vs H Q E → spF SI0 c spec vs H Q E := fun vs H Q E h => by
    obtain ⟨as, M, C, b, Pd, hb, wf, si, r, q, hq⟩ := h
    exact ⟨as, M, C, 0, Pd, by omega, wf, trivial, r, q, fun d pd b' w' v hb' e _ wf' rv => hq d pd 0 w' v (Nat.zero_le _) e trivial wf' rv⟩
  exact ⟨fun vs H Q E q => h.len vs H Q E (dn vs H Q E q), fun A outer s H args us vs Q E g r e b v q => h.run A outer s H args us vs Q E g r e b v (dn vs H Q E q)⟩
theorem roomH_mark {k : Nat} {A : Around} (hr : Room k A) (h : Option Value) : L2H.RoomH k (A.mark h) := ⟨hr.dp, hr.un⟩
end DL
/-! The error that a suite looks at, handed to a def. -/
namespace L2
open PySem PySem.Spec PyProof.Rows
theorem un_pin {fs : List Addr} {H H2 : Hp} {h h' : Heap} {a : Addr} {oe : Obj} {o : HO} (u : Un fs [] (upd H a o) H2 h h') (na : H a = none) (he : h.get? a = some oe) (nf : a ∉ fs) (he' : h'.get? a = some oe) : Un fs [] H (delH H2 a) h h' where
  keep b ob q n hb hx := by
    by_cases z : b = a
    · subst z; rw [he] at q; cases q; exact he'
    · exact u.keep b ob q (by rw [upd_ne z]; exact n) hb hx
  slot b ob q n hb hx := by
    have z : b ≠ a := fun z => nf (z ▸ hb)
    exact u.slot b ob q (by rw [upd_ne z]; exact n) hb hx
  free b ob q n hx := by
    by_cases z : b = a
    · rw [z]; exact delH_same
    · rw [delH_ne z]; exact u.free b ob q (by rw [upd_ne z]; exact n) hx
  there := u.there
  tups b xs e := by
    have z : b ≠ a := fun z => by rw [z, na] at e; cases e
    rw [delH_ne z]; exact u.tups b xs (by rw [upd_ne z]; exact e)
  frzs b ob v e := by
    have z : b ≠ a := fun z => by rw [z, na] at e; cases e
    rw [delH_ne z]; exact u.frzs b ob v (by rw [upd_ne z]; exact e)
  tbls b ps e := by
    have z : b ≠ a := fun z => by rw [z, na] at e; cases e
    rw [delH_ne z]; exact u.tbls b ps (by rw [upd_ne z]; exact e)
theorem hok_del {P : Program} {w : World} {H : Hp} {h : Heap} {a : Addr} {Φ : Heap → Prop} (x : HOk P w H h) (ha : H a = some (.ext Φ)) : HOk P w (delH H a) h := fun b o e => by
  have z : b ≠ a := fun z => by rw [z, delH_same] at e; cases e
  rw [delH_ne z] at e
  exact (x b o e).stay (fun _ _ _ q => q) (fun c q => by rw [delH_ne fun y => by rw [y, ha] at q; cases q]; exact q) fun c xs q => by rw [delH_ne fun y => by rw [y, ha] at q; cases q]; exact q
theorem erX_ok {P : Program} {w : World} {H : Hp} {h : Heap} {a : Addr} {oe : Obj} (e : h.get? a = some oe) : ObjOk P w H h a (ErX oe a) :=
  ⟨e, ⟨oe, e⟩, fun _ _ q k => k oe q⟩
end L2
namespace DL
open PySem PySem.Spec PyProof.Rows L2
section
variable {X : Cx} {k : Nat} {f : Addr} {fd : FuncData} {ps : List Str} {x : Str} {e : Expr} {p pos : Pos} {a : Addr} {oe : Obj}
theorem pe_callPin {sp : Sp} {t : TE} (F : FnW X.prog X.w X.K X.mg X.base CX0 k f fd ps sp) (hgd : X.A.guards = some []) (hr : L2H.RoomH k X.A) (hg : Gl X x) (hm : X.mg x = some (.ref f)) (hk : PySem.W.keepIn X.K (.ref f) = true) (hb : Binds X.K fd ps [])
    (hp : (a, oe) ∈ X.pn) (hbase : X.base.get? a = none) (hv : PE X e t) (hdb : (x == ("__debug__" : Str)) = false := by decide) (he : starEach [e] X.env = (false, eval e X.env) :: starEach [] X.env := by rfl) (hpl : (backTo pos (starEach [] X.env)).any (·.1) = false := by rfl) :
    PE X (.Call (.Name x p) [e] [] pos) (fun σ H Q => t σ H fun u H1 => H1 a = none → sp [u] (upd H1 a (ErX oe a)) (fun v H2 => H2 a = some (ErX oe a) ∧ Q v (delH H2 a)) E0) := by
  refine ⟨fun pins s σ H Q I h => wpAny_Call_Name_kw (ld_glob I hg hm ?_ hdb)⟩
  refine PySem.W.callWith_K (h₀ := X.base) I.ok.mod.kin hk (thn ((pa_cons hv pa_nil he).run pos pins s σ H (fun vs H1 => H1 a = none → sp vs (upd H1 a (ErX oe a)) (fun v H2 => H2 a = some (ErX oe a) ∧ Q v (delH H2 a)) E0) I h) fun us s1 ⟨vs, H1, I1, r, q⟩ => ⟨I1.kIn, ?_⟩) he hpl
  obtain ⟨p1, p2, p3, p4, p5⟩ := I1.pin (a, oe) (List.mem_append_left _ hp)
  have h' := q p2
  have nf : a ∉ frs X.stack := fun z => (List.mem_cons.mp (I1.stkSub a z)).elim p3 p4
  have hl : (us ++ []).length = ps.length := by rw [List.append_nil, ← r.length]; exact F.len _ _ _ _ h'
  have bd := hb s1 us I1.kIn hl
  rw [List.append_nil] at bd
  have e0 := I1.env0
  have e1 : Env0 X.prog X.w X.K X.mg X.base X.A X.stack s1 (upd H1 a (ErX oe a)) := ⟨e0.frames, e0.mod, fun b o z => ⟨(e0.bs b o z).1, by rw [upd_ne (show b ≠ a from fun y => by rw [y, hbase] at z; cases z)]; exact (e0.bs b o z).2⟩, e0.bsz, e0.funs, fun b z => by rw [upd_ne (show b ≠ a from fun y => nf (by rw [← y]; exact z))]; exact e0.frf b z, HOk.laidN I1.hok (fun _ _ z => z) p2 (erX_ok p1), e0.bare⟩
  refine wpAny_call (codeAny_mono (F.run X.A X.stack s1 _ ⟨us, []⟩ us vs _ E0 hgd hr e1 bd r h') fun r s' hq => ?_)
  cases r with
  | error e => exact False.elim hq
  | ok fl => cases fl with
    | ret u =>
      obtain ⟨v, H2, os, bare, un, hok, rv, ⟨h2, q2⟩⟩ := hq
      exact I1.after ⟨v, delH H2 a, os, bare, un_pin un p2 p1 nf (hok a _ h2).1, hok_del hok h2, rv, q2⟩
    | next => exact False.elim hq
    | brk => exact False.elim hq
    | cont => exact False.elim hq
/-- f(e) in e's suite, where f tells a list of truths -/
def wCallM (er : Str → D → D) (spec : Spec) (i : Nat) (a : Addr) (xd : Xd) : WE := fun env P => env[i]? = some (.raw (.ref a)) ∧ spec [.fz (er xd.nm xd.d)] fun d => ∃ bs : List Bool, d = .list (bs.map PyData.bool) ∧ P (.fz d)
theorem rp_bools {w w2 : Wd} : ∀ {vs : List V} {bs : List Bool}, RpL w vs (bs.map PyData.bool) → RpL w2 vs (bs.map PyData.bool)
  | _, [], .nil => .nil
  | _, _ :: _, .cons h r => .cons (by cases h; exact .bl _) (rp_bools r)
theorem de_callPin {G : Gh} {cm : CM} {spec : Spec} {xd : Xd} {cls : Value} {o : Option Addr} (i : Nat) (sx : SXW cm cls o xd G) (hz : Zc cls o oe) (hf : ∃ vs, oe.data = .fields vs) (F : FnW X.prog X.w X.K X.mg X.base CX0 k f fd ps (spF SI0 0 spec)) (hgd : X.A.guards = some []) (hr : L2H.RoomH k X.A) (hg : Gl X x) (hm : X.mg x = some (.ref f)) (hk : PySem.W.keepIn X.K (.ref f) = true) (hb : Binds X.K fd ps [])
    (hp : (a, oe) ∈ X.pn) (hbase : X.base.get? a = none) (hv : PE X e (tVar i)) (hdb : (x == ("__debug__" : Str)) = false := by decide) (he : starEach [e] X.env = (false, eval e X.env) :: starEach [] X.env := by rfl) (hpl : (backTo pos (starEach [] X.env)).any (·.1) = false := by rfl) :
    DE X G (.Call (.Name x p) [e] [] pos) (wCallM (erD cm) spec i a xd) 0 := PE_imp (pe_callPin F hgd hr hg hm hk hb hp hbase hv hdb he hpl) fun σ H Q h => by
  obtain ⟨env, M, C, b, P, hb0, er, ⟨hi, hs⟩, hfin⟩ := h
  obtain ⟨ov, h1, rfl⟩ := er.at hi
  refine ⟨.ref a, h1, fun na => ?_⟩
  have nm : ¬ M a := fun m => er.md a m na
  have up : ∀ b, b ≠ a → upd H a (ErX oe a) b = H b := fun b n => upd_ne n
  have rp : Rp ⟨upd H a (ErX oe a), M, noC⟩ (.ref a) (erD cm xd.nm xd.d) := by
    obtain ⟨⟨D, fo, e1, rfl, e3⟩, e4⟩ := sx
    rw [erD_of e1]
    cases fo with
    | none =>
      rw [e3.1] at hz
      exact rp_errX0 hz hf nm upd_same
    | some fl =>
      obtain ⟨dd, v, g1, g2, g3⟩ := e3
      have k1 : H dd = some (.xd [(fl, v)]) := by
        rcases er.kp dd _ g2 with k | ⟨_, dc, _⟩
        · exact k
        · exact absurd dc no_dct_xd
      have k2 : ¬ M dd := (er.gk (fxN dd) (e4 dd g1) : ¬ M dd ∧ H dd ≠ none).1
      have k3 : Rp ⟨H, M, C⟩ v xd.d := er.gk _ g3
      have ne : dd ≠ a := fun y => by rw [y, na] at k1; cases k1
      rw [g1] at hz
      have s1 : St1 ⟨H, M, C⟩ ⟨upd H a (ErX oe a), M, noC⟩ := ⟨fun c ob _ q => .inl ((up c fun y => by rw [y] at q; rw [show (⟨H, M, C⟩ : Wd).H a = none from na] at q; cases q).trans q), fun c m => .inl m⟩
      exact rp_errX1 hz hf nm upd_same k2 ((up dd ne).trans k1) (k3.st s1)
  have md : ∀ c, M c → upd H a (ErX oe a) c ≠ none := fun c m => by rw [up c fun y => nm (y ▸ m)]; exact er.md c m
  refine ⟨[.fz (erD cm xd.nm xd.d)], M, noC, 0, _, Nat.zero_le _, ⟨fun a c => c.elim, md, fun c xs m => by show upd H a (ErX oe a) c ≠ _; rw [up c fun y => nm (y ▸ m)]; exact er.mt c xs m⟩, trivial, .cons rp .nil, hs, fun d pd _ w' v _ e _ wf r => ?_⟩
  obtain ⟨bs, rfl, pd⟩ := pd
  have ha' : w'.H a = some (ErX oe a) := (e.keep a _ (fun z => z) upd_same).elim id fun q => absurd q.2.1 no_dct_ext
  refine ⟨ha', ?_⟩
  have dl : ∀ c, c ≠ a → delH w'.H a c = w'.H c := fun c n => delH_ne n
  have nz : ∀ {c : Addr} {ob : HO}, H c = some ob → c ≠ a := fun {c ob} q y => by rw [y, na] at q; cases q
  have ex : Ext ⟨H, M, C⟩ ⟨delH w'.H a, M, C⟩ := by
    refine ⟨fun c ob n q => ?_, fun c q => ?_, fun c m => .inl m, fun c m => .inl m, fun c m => m⟩
    · have z := nz q
      have kq := e.keep c ob (fun z => z) ((up c z).trans q)
      rcases kq with kq | ⟨m, dc, ob', kq⟩
      · exact .inl ((dl c z).trans kq)
      · exact .inr ⟨m, dc, ob', (dl c z).trans kq⟩
    · have z : c ≠ a := fun y => q (by rw [y]; exact na)
      show delH w'.H a c ≠ none
      rw [dl c z]
      exact e.dom c (by show upd H a (ErX oe a) c ≠ none; rw [up c z]; exact q)
  have si : G.SI b C (delH w'.H a) := G.stab _ _ _ _ er.si fun c ob m q => (ex.keep c ob) |> fun _ => by
    have z := nz q
    have kq := e.keep c ob (fun z => z) ((up c z).trans q)
    rw [dl c z]
    exact kq.elim id fun y => absurd (er.cm c m) y.1
  have mne : ∀ {c}, M c → c ≠ a := fun {c} m y => nm (y ▸ m)
  refine hfin _ pd b ⟨delH w'.H a, M, C⟩ v (by omega) (er.ext' ex (er.toEH.ext ex si ⟨er.cm, fun c m => by show delH w'.H a c ≠ none; rw [dl c (mne m)]; exact e.dom c (md c m), fun c xs m => by
    show delH w'.H a c ≠ _
    rw [dl c (mne m)]
    exact e.ntup (fun z => z) m (md c m) (by show upd H a (ErX oe a) c ≠ _; rw [up c (mne m)]; exact er.mt c xs m)⟩)) ex ?_
  cases r with
  | @lst c xs _ n hh rl =>
    have z : c ≠ a := fun y => by rw [y, ha'] at hh; cases hh
    exact .lst (fun m => n (e.oldM c m)) ((dl c z).trans hh) (rp_bools rl)
end
end DL
/-! A new list or dict that is kept as data at once. -/
namespace DL
open PySem PySem.Spec PyProof.Rows L2
def wFrzE (we : WE) : WE := fun env P => we env fun x => ∃ d, x = .nw d ∧ P (.fz d)
section
variable {X : Cx} {G : Gh} {e : Expr} {we : WE} {ca : Nat}
theorem de_frzE (he : DE X G e we ca) : DE X G e (wFrzE we) ca := PE_imp he fun σ H Q h => by
  obtain ⟨env, M, C, b, P, hb, er, hw, hf⟩ := h
  refine ⟨env, M, C, b, _, hb, er, hw, fun dv hd b' w v hb' er' ex r => ?_⟩
  obtain ⟨d, rfl, p⟩ := hd
  obtain ⟨a, rfl, na, hm, nc, o⟩ := r
  have ma : ∀ {c}, M c → c ≠ a := fun {c} m z => er.md c m (by rw [z]; exact na)
  have st : St1 w ⟨w.H, fun c => w.M c ∧ c ≠ a, w.C⟩ := ⟨fun c ob _ q => .inl q, fun c m => .inl m.1⟩
  have ex2 : Ext ⟨H, M, C⟩ ⟨w.H, fun c => w.M c ∧ c ≠ a, w.C⟩ := ⟨ex.keep, ex.dom, ex.newC, fun c m => ex.newM c m.1, fun c m => ⟨ex.oldM c m, ma m⟩⟩
  have eh := er'.toEH
  have cn : ∀ c, w.C c → c ≠ a := fun c m z => nc (z ▸ m)
  have eh2 : EH (G.at b') ⟨w.H, fun c => w.M c ∧ c ≠ a, w.C⟩ := ⟨eh.kp, fun c m => ⟨eh.m0 c m, ma (er.m0 c m)⟩, eh.nc, eh.cp, fun c m => ⟨eh.cm c m, cn c m⟩, fun c m => eh.md c m.1, eh.hd, fun q hq => q.st _ _ st (eh.gk q hq), eh.si, fun c xs m => eh.mt c xs m.1⟩
  have er2 : ER (G.at b') ⟨w.H, fun c => w.M c ∧ c ≠ a, w.C⟩ env σ := er.ext' (w' := ⟨w.H, fun c => w.M c ∧ c ≠ a, w.C⟩) ex2 eh2
  have st2 : St1 (w.plus a) ⟨w.H, fun c => w.M c ∧ c ≠ a, w.C⟩ := ⟨fun c ob _ q => Or.inl q, fun c m => Or.inl (Or.inl m.1)⟩
  exact hf _ p b' ⟨w.H, fun c => w.M c ∧ c ≠ a, w.C⟩ _ hb' er2 ex2 ((o.st st2 rfl).rp fun m => m.2 rfl)
end
end DL
/-! ### repr of things that hold empty dicts, in tuples -/
namespace DL
open PySem PySem.Spec PyProof.Rows L2
mutual
def eD : D → Bool
  | .none => true
  | .bool _ => true
  | .int _ => true
  | .str _ => true
  | .tuple ds => eDs ds
  | .dict es => es.isEmpty
  | .list _ => false
def eDs : List D → Bool
  | [] => true
  | d :: r => eD d && eDs r
end
def reprE : List D → Option D
  | [d] => if reprOk d = true then some (.str d.shown) else if (eD d && d.showable && decide (d.depth ≤ 50) && decide (d.shown.length ≤ sizeLine)) = true then some (.str d.shown) else none
  | _ => none
section
variable {X : Cx} {pins : List (Addr × Obj)} {σ : L2.St} {s : Shared} {w : Wd}
theorem rd_dict0 (I : Inv X pins σ w.H s) {a : Addr} (h : Rd w.H a (.dK [])) : Reads s.heap (.ref a) (.dict []) (a :: [] ++ []) ∧ sysModules ∉ (a :: [] ++ [] : List Addr) := by
  obtain ⟨n, o, es, ep, g1, g2, g3, g4, _⟩ := nest0 I h
  have e : es.toList = [] := g4
  refine ⟨.dict g1 g2.1 g3 (by rw [e]; exact .nil) (by rw [e]; exact .nil), fun z => ?_⟩
  simp at z
  rw [← z] at n
  simp at n
mutual
theorem eRd (I : Inv X pins σ w.H s) : ∀ (d : D), eD d = true → ∀ {v : V} {u : Value}, Rp w v d → RelV v u → ∃ as, Reads s.heap u d as ∧ sysModules ∉ as
  | .none, _, v, u, r, ru => by cases r; obtain rfl : u = Value.none := ru; exact ⟨[], .none, nofun⟩
  | .bool b, _, v, u, r, ru => by cases r; obtain rfl : u = Value.bool b := ru; exact ⟨[], .bool b, nofun⟩
  | .int i, _, v, u, r, ru => by cases r; obtain ⟨t, rfl⟩ : ∃ t, u = Value.int i t := ru; exact ⟨[], .int i t, nofun⟩
  | .str x, _, v, u, r, ru => by cases r; obtain ⟨t, rfl⟩ : ∃ t, u = Value.str x t := ru; exact ⟨[], .str x t, nofun⟩
  | .tuple ds, h, v, u, r, ru => by
    rw [eD] at h
    cases r with
    | @tup a xs _ nn hx rl =>
      obtain rfl : u = Value.ref a := ru
      obtain ⟨_, its, rv, o, h1, h2, n, h3⟩ := (show ObjOk X.prog X.w w.H s.heap a (.tup xs) from hx.rd.ok I.hok)
      obtain ⟨as, ra, na⟩ := eRds I ds h rl rv
      exact ⟨as, .tuple h1 h2 h3 (by simpa using ra), na⟩
  | .dict es, h, v, u, r, ru => by
    rw [eD] at h
    obtain rfl := List.isEmpty_iff.mp h
    cases r with
    | @dK a kvs _ nn hr ek rl =>
      obtain rfl : u = Value.ref a := ru
      obtain rfl : kvs = [] := by cases kvs with | nil => rfl | cons _ _ => cases ek
      exact ⟨_, rd_dict0 I hr⟩
    | dN _ n _ _ => exact absurd rfl n.ne
  | .list _, h, _, _, _, _ => by rw [eD] at h; cases h
theorem eRds (I : Inv X pins σ w.H s) : ∀ (ds : List D), eDs ds = true → ∀ {vs : List V} {us : List Value}, RpL w vs ds → Vals vs us → ∃ as, ReadsAll s.heap us ds as ∧ sysModules ∉ as
  | [], _, vs, us, r, ru => by cases r; cases ru; exact ⟨[], .nil, nofun⟩
  | d :: ds, h, vs, us, r, ru => by
    rw [eDs, Bool.and_eq_true] at h
    cases r with
    | cons r1 r2 =>
      cases ru with
      | cons u1 u2 =>
        obtain ⟨as, a1, a2⟩ := eRd I d h.1 r1 u1
        obtain ⟨bs, b1, b2⟩ := eRds I ds h.2 r2 u2
        exact ⟨as ++ bs, .cons a1 b1, fun z => (List.mem_append.mp z).elim a2 b2⟩
end
theorem eRq (I : Inv X pins σ w.H s) {d : D} (h : eD d = true) {v : V} {u : Value} (q : Rq w v d) (ru : RelV v u) : ∃ as, Reads s.heap u d as ∧ sysModules ∉ as := by
  cases q with
  | non => exact eRd I _ h .non ru
  | bl b => exact eRd I _ h (.bl b) ru
  | int i => exact eRd I _ h (.int i) ru
  | str x => exact eRd I _ h (.str x) ru
  | lst _ _ => rw [eD] at h; cases h
  | tup n hx rl => exact eRd I _ h (.tup n hx rl) ru
  | @dK a kvs es hr ek rl =>
    rw [eD] at h
    obtain rfl := List.isEmpty_iff.mp h
    obtain rfl : u = Value.ref a := ru
    obtain rfl : kvs = [] := by cases kvs with | nil => rfl | cons _ _ => cases ek
    exact ⟨_, rd_dict0 I hr⟩
  | op _ _ _ => rw [eD] at h; cases h
  | dN n _ _ =>
    rw [eD] at h
    exact absurd (List.isEmpty_iff.mp h) n.ne
theorem call_reprE (hgd : X.A.guards = some []) (hu : X.A.units + 65 < cLine) : CallR X (.builtin "repr") (rB reprE) := by
  intro pins s σ H xs us Q I r ⟨w, ds, d, eH, wk, qx, hf, hq⟩
  unfold reprE at hf
  split at hf
  · rename_i d0
    split at hf
    · rename_i c
      exact call_reprD hgd hu pins s σ H xs us Q I r ⟨w, [d0], d, eH, wk, qx, by show (if reprOk d0 = true then some (PyData.str d0.shown) else none) = some d; rw [if_pos c]; exact hf, hq⟩
    · subst eH
      obtain ⟨c, rfl⟩ := of_if hf
      obtain ⟨x, rfl, q⟩ := qx.one'
      obtain ⟨u, rfl, ru⟩ := vals1 r
      simp only [Bool.and_eq_true, decide_eq_true_eq] at c
      obtain ⟨⟨⟨c1, c2⟩, c3⟩, c4⟩ := c
      have fin : ∀ (t : Tok) (s' : Shared), Inv X pins σ w.H s' → EP X pins σ Q (.str d0.shown t) s' := fun t s' I' => ⟨.str d0.shown, _, I', ⟨t, rfl⟩, hq _ _ (Same.refl _) (.str _)⟩
      obtain ⟨as, rd, na⟩ := eRq I c1 q ru
      have big : ∀ a, u = .ref a → wpAny (model X.prog X.w) X.A (call (.builtin "repr") [u]) (EP X pins σ Q) X.xe s := fun a e => by
        subst e
        exact repr_of_reads' rd c2 (fun _ => na) hgd (by omega) (fun _ _ z => z) (fun h' t tk k => fin _ _ (I.kept k)) c4
      cases rd with
      | none => exact PySem.P.repr_of_none (fin _ _ (I.tok _))
      | bool b => simp only [PyData.shown] at fin; exact PySem.P.repr_of_bool (fin _ _ (I.tok _))
      | int i t => simp only [PyData.shown] at fin; exact PySem.P.repr_of_int (by simpa [PyData.showable] using c2) (fin _ _ (I.tok _))
      | str y t => simp only [PyData.shown] at fin c4; exact PySem.P.repr_of_str (fin _ _ (I.tok _)) c4
      | list _ _ _ _ => exact big _ rfl
      | tuple _ _ _ _ => exact big _ rfl
      | dict _ _ _ _ _ => exact big _ rfl
  · cases hf
end
end DL
/-! ### repr of a list of dicts of plain things -/
namespace DL
open PySem PySem.Spec PyProof.Rows L2
def plD : D → Bool
  | .none => true
  | .bool _ => true
  | .int _ => true
  | .str _ => true
  | _ => false
/-- a dict of plain things, keys whole numbers or texts -/
def pdD : D → Bool
  | .dict es => es.all fun p => !isT p.1 && plD p.2
  | _ => false
def reprL : List D → Option D
  | [.list ds] => if reprOk (.list ds) = true then some (.str (PyData.list ds).shown) else if (ds.all pdD && (PyData.list ds).showable && decide ((PyData.list ds).depth ≤ 50) && decide ((PyData.list ds).shown.length ≤ sizeLine)) = true then some (.str (PyData.list ds).shown) else none
  | _ => none
section
variable {X : Cx} {pins : List (Addr × Obj)} {σ : L2.St} {s : Shared} {w : Wd}
theorem pl_rd {h : Heap} {d : D} {v : V} {u : Value} (p : plD d = true) (r : Rp w v d) (ru : RelV v u) : Reads h u d [] := by
  cases d with
  | none => cases r; obtain rfl : u = Value.none := ru; exact .none
  | bool b => cases r; obtain rfl : u = Value.bool b := ru; exact .bool b
  | int i => cases r; obtain ⟨t, rfl⟩ : ∃ t, u = Value.int i t := ru; exact .int i t
  | str x => cases r; obtain ⟨t, rfl⟩ : ∃ t, u = Value.str x t := ru; exact .str x t
  | _ => cases p
theorem pd_keys {P : Program} {w0 : World} {h : Heap} : ∀ {es : List DictEntry} {vs : List (Key × Value)} {ks : List D}, Pairs (mixKind P w0) es vs → ks = vs.map (fun p => kD p.1) → ReadsAll h (es.map (·.key)) ks []
  | _, _, _, .nil, e => by subst e; exact .nil
  | _, _, _, .cons (e := en) (kv := kv) a b c, e => by
    subst e
    refine .cons (as := []) (bs := []) ?_ (pd_keys c rfl)
    rcases keyIs_shape a with ⟨i, t, h1, h2⟩ | ⟨x, t, h1, h2⟩
    · show Reads h en.key (kD kv.1) []
      rw [h1, h2]; exact .int i t
    · show Reads h en.key (kD kv.1) []
      rw [h1, h2]; exact .str x t
theorem pd_vals {P : Program} {w0 : World} {h : Heap} : ∀ {es : List DictEntry} {vs : List (Key × Value)} {kvs : List (Key × V)} {ds : List D}, Pairs (mixKind P w0) es vs → KV kvs vs → RpL w (kvs.map (·.2)) ds → (ds.all plD) = true → ReadsAll h (es.map (·.val)) ds []
  | _, _, _, _, .nil, .nil, .nil, _ => .nil
  | _, _, _, _, .cons (e := en) a b c, .cons k1 k2, .cons (d := d) r1 r2, p => by
    rw [List.all_cons, Bool.and_eq_true] at p
    refine .cons (as := []) (bs := []) ?_ (pd_vals c k2 r2 p.2)
    show Reads h en.val d []
    rw [b]
    exact pl_rd p.1 r1 k1.2
theorem kv_fst {kvs : List (Key × V)} {vs : List (Key × Value)} (h : KV kvs vs) : kvs.map (fun p => kD p.1) = vs.map fun q => kD q.1 := by
  induction h with
  | nil => rfl
  | cons q _ ih => rw [List.map_cons, List.map_cons, ih, q.1]
theorem pd_rd (I : Inv X pins σ w.H s) {d : D} (p : pdD d = true) {v : V} {u : Value} (r : Rp w v d) (ru : RelV v u) : ∃ a, Reads s.heap u d [a] ∧ a ≠ sysModules := by
  cases d with
  | dict es =>
    cases r with
    | @dK a kvs _ nm hr ek rl =>
      obtain rfl : u = Value.ref a := ru
      obtain ⟨_, na, vs, rel, o, es', ep, h1, h2, h3, _, pr, _⟩ := dk_rd I.hok hr
      have pv : (es.map (·.2)).all plD = true := by
        rw [List.all_map, List.all_eq_true]
        intro q hq
        have := List.all_eq_true.mp p q hq
        rw [Bool.and_eq_true] at this
        exact this.2
      have k : es.map (·.1) = vs.map fun q => kD q.1 := ek.trans (kv_fst rel)
      exact ⟨a, .dict h1 h2.1 h3 (pd_keys pr k) (pd_vals pr rel rl pv), fun z => by rw [z] at na; cases na⟩
    | dN _ n _ _ =>
      obtain ⟨p0, hp0⟩ : ∃ p0, p0 ∈ es := List.exists_mem_of_ne_nil _ n.ne
      have := List.all_eq_true.mp p p0 hp0
      rw [n.tt p0 hp0] at this; cases this
    | op _ _ _ _ => cases p
  | _ => cases p
theorem pds_rd (I : Inv X pins σ w.H s) : ∀ {ds : List D} {vs : List V} {us : List Value}, (ds.all pdD) = true → RpL w vs ds → Vals vs us → ∃ as, ReadsAll s.heap us ds as ∧ sysModules ∉ as
  | [], _, _, _, .nil, .nil => ⟨[], .nil, nofun⟩
  | d :: ds, _, _, p, .cons r1 r2, .cons u1 u2 => by
    rw [List.all_cons, Bool.and_eq_true] at p
    obtain ⟨a, h1, n⟩ := pd_rd I p.1 r1 u1
    obtain ⟨as, h2, n2⟩ := pds_rd I p.2 r2 u2
    exact ⟨[a] ++ as, .cons h1 h2, fun z => by
      rcases List.mem_append.mp z with z | z
      · exact n (List.mem_singleton.mp z).symm
      · exact n2 z⟩
open PySem in
/-- as the kit's road, where only what lies inside must not be the table of modules -/
theorem repr_listL {prog : Program} {w0 : World} {h₀ : Heap} {a : Addr} {o : Obj} {vs : Array Value} {n : Nat} {xs : List D} {as : List Addr} {A : Around} {E : Value → Shared → Prop} {s : Shared} {Q : Value → Shared → Prop} (h1 : h₀.get? a = some o) (h2 : o.cls = .type "list") (h3 : o.data = .seq vs n) (h4 : ReadsAll h₀ vs.toList xs as) (hs : PyData.showable (.list xs) = true) (hsm : sysModules ∉ as) (hg : A.guards = some []) (hu : A.units + ((PyData.list xs).depth + 1) < cLine) (hk0 : ∀ b o, h₀.get? b = some o → s.heap.get? b = some o)
    (hQ : ∀ h' u tk, (∀ b o, s.heap.get? b = some o → h'.get? b = some o) → Q (.str (PyData.list xs).shown u) { s with heap := h', toks := tk }) (hsz : (PyData.list xs).shown.length ≤ sizeLine) : wpAny (model prog w0) A (call (.builtin "repr") [.ref a]) Q E s := by
  have hz' : (listText (PyData.shownAll xs)).length ≤ sizeLine := by simpa only [PyData.shown] using hsz
  obtain ⟨bs, hb, hk⟩ := ReprAllK.of_readsAll (prog := prog) (w := w0) h4 (by simpa [PyData.showable] using hs) (fun _ => hsm) (fun t ht => Nat.le_trans (listText_mem_le ht) hz')
  have hna : a ∉ bs := not_mem_of_deeper (.list h1 h2 h3 h4) (by simp only [PyData.depth]; omega) hb
  refine call_repr_slot (by omega) (⟨o, hk0 _ _ h1, h2⟩ : s.TypeIs (.ref a) "list") F.slot_list_repr.toG ?_
  simp only [PyData.depth] at hu
  simp only [PyData.shown] at hQ
  obtain ⟨l⟩ := vs
  cases l with
  | nil =>
    have h4' : ReadsAll h₀ [] xs _ := h4
    cases h4'
    simp only [PyData.shownAll, listText_nil] at hQ
    exact call_list_repr_empty ⟨o, hk0 _ _ h1, h2⟩ (hk0 _ _ h1) h3 ⟨_, _, rfl, hQ s.heap _ _ fun _ _ e => e⟩
  | cons x l =>
    exact call_list_reprK h1 h2 h3 hna (by simpa using hk.length_eq) (fun i y e => hk.item i y (by simpa using e)) hg (fun b _ => Clear.nil b) (by show A.units + 1 + _ < cLine; omega) hk0 (fun h' u tk hk => ⟨_, _, rfl, hQ h' u tk hk⟩) hz'
theorem call_reprL (hgd : X.A.guards = some []) (hu : X.A.units + 65 < cLine) : CallR X (.builtin "repr") (rB reprL) := by
  intro pins s σ H xs us Q I r ⟨w, ds, d, eH, wk, qx, hf, hq⟩
  unfold reprL at hf
  split at hf
  · rename_i d0
    split at hf
    · rename_i c
      exact call_reprD hgd hu pins s σ H xs us Q I r ⟨w, [.list d0], d, eH, wk, qx, by show (if reprOk (.list d0) = true then some (PyData.str (PyData.list d0).shown) else none) = some d; rw [if_pos c]; exact hf, hq⟩
    · subst eH
      obtain ⟨c, rfl⟩ := of_if hf
      obtain ⟨x, rfl, q⟩ := qx.one'
      obtain ⟨u, rfl, ru⟩ := vals1 r
      simp only [Bool.and_eq_true, decide_eq_true_eq] at c
      obtain ⟨⟨⟨c1, c2⟩, c3⟩, c4⟩ := c
      cases q with
      | @lst a xs _ hh rl =>
        obtain rfl : u = Value.ref a := ru
        obtain ⟨_, its, n, rv, e⟩ := I.hok a _ hh
        obtain ⟨as, h4, na⟩ := pds_rd I c1 rl rv
        exact repr_listL e rfl rfl (by simpa using h4) c2 na hgd (by omega) (fun _ _ z => z) (fun h' t tk k => ⟨.str (PyData.list d0).shown, _, I.kept k, ⟨t, rfl⟩, hq _ _ (Same.refl _) (.str _)⟩) c4
  · cases hf
end
end DL
namespace L2
open PySem PySem.Spec PyProof.Rows
theorem tuple_mul1 (l : Addr) (items : Array Value) (n : Nat) (dd : Option Addr) (sl : Array (Option Value)) (u : Tok) :
    Meets (Builtin.«tuple.__mul__» ⟨[.ref l, .int 1 u], []⟩) (fun _ R s => s.heap.get? l = some { cls := .type "tuple", dict := dd, data := .seq items n, slots := sl } ∧ R (.ok (.ret (Value.ref l))) s) :=
  .of_wp fun prog w A R s h => by
    obtain ⟨hp, g, d, tk, os⟩ := s
    obtain ⟨hl, h⟩ := h
    have f1 := AutoSeq1.idx_int
    have c0 : (decide ((1 : Int) < -(2 ^ 63)) || decide ((1 : Int) ≥ 2 ^ 63)) = false := by decide
    have c1 : (items.isEmpty || (1 : Int) == 1) = true := by simp
    wp_walk using wpAny_loadPart' hl
    repeat (first
      | (refine wpAny_ite_false (decide_eq_false (by rw [c0]; exact Bool.false_ne_true)) ?_; wp_walk using wpAny_loadPart' hl)
      | (refine wpAny_ite_true (decide_eq_true c1) ?_; wp_walk using wpAny_loadPart' hl))
    exact ⟨_, rfl, h⟩
def rRepT1 (K : PySem.W.Frag) : R2 := fun x y H Q => ∃ l xs, x = .ref l ∧ y = .int 1 ∧ SqT K H l xs ∧ Q (.ref l) H
section
variable {X : Cx}
theorem op_repT1 : OpR X (binaryOp .Mult) (rRepT1 X.K) := by
  intro pins s σ H x y v u Q I rx ry h
  obtain ⟨l, xs, rfl, rfl, hT, q⟩ := h
  cases rx
  obtain ⟨t, rfl⟩ := ry
  obtain ⟨its, r, ⟨⟨cls, dd, data, sl⟩, ho, hc, n, hd⟩, hs⟩ := I.tuple hT
  simp only at hc hd
  subst hc hd
  refine wpAny_binaryOp_repeat_ref (T := "tuple") (U := "int") (by decide) ⟨_, ho, rfl⟩ (fun s' => typeIs_int s' 1 t) noFill_tuple_mul F.fills_int_mul F.slot_int_rmul repeat_tuple F.slot_int_index.lookup
    (call_meets F.slot_int_rmul (typeIs_int s 1 t) F.entry_int_rmul (F.args_int_rmul_2 _ _) (int_rmul_tuple 1 t l its.toArray n dd sl)
      ⟨ho, rfl, ⟨_, ho, rfl⟩, call_meets F.slot_tuple_mul ⟨_, ho, rfl⟩ F.entry_tuple_mul (F.args_tuple_mul_2 _ _) (tuple_mul1 l its.toArray n dd sl t) ⟨ho, ?_⟩⟩)
  exact ⟨.ref l, H, I, rfl, q⟩
end
end L2
namespace DL
open PySem PySem.Spec PyProof.Rows L2
/-- a product, and a tuple one time -/
def mulX : D → D → Option D
  | .tuple a, .int k => if k = 1 then some (.tuple a) else mulD (.tuple a) (.int k)
  | a, b => mulD a b
section
variable {X : Cx}
theorem op_mulX : OpR X (binaryOp .Mult) (rV2 mulX) := by
  intro pins s σ H x y v u Q I rx ry h
  obtain ⟨w, dx, dy, d, eH, wk, qx, qy, hf, hq⟩ := id h
  by_cases hc : ∃ a, dx = .tuple a ∧ dy = .int 1
  · obtain ⟨a, rfl, rfl⟩ := hc
    have e : d = .tuple a := by
      simp only [mulX, if_pos] at hf
      exact (Option.some.inj hf).symm
    subst e
    subst eH
    cases qy
    cases qx with
    | tup n1 h1 r1 => exact op_repT1 pins s σ _ _ _ v u Q I rx ry ⟨_, _, rfl, rfl, h1.sq, hq _ _ (Same.refl _) (.tup n1 h1 r1)⟩
  · have e : mulX dx dy = mulD dx dy := by
      cases dx with
      | tuple a =>
        cases dy with
        | int k =>
          simp only [mulX]
          rw [if_neg fun z => hc ⟨a, rfl, by rw [z]⟩]
        | _ => rfl
      | _ => rfl
    exact op_mulD pins s σ H x y v u Q I rx ry ⟨w, dx, dy, d, eH, wk, qx, qy, by rw [← e]; exact hf, hq⟩
end
end DL
namespace DL
open PySem PySem.Spec PyProof.Rows L2
/-- a local's own thing is frozen ahead of a statement -/
def wFrz (i : Nat) (f : WS) : WS := fun env De => ∃ d, env[i]? = some (.own d) ∧ f (env.set i (.fz d)) De
section
variable {X : Cx} {G : Gh} {st : Stmt} {f : WS} {c : Nat}
theorem ds_frz (i : Nat) (h : DS X G st f c) : DS X G st (wFrz i f) c := PS_imp h fun σ H T q => by
  obtain ⟨env, M, C, b0, De, hb0, er, ⟨d, hd, hw⟩, lf⟩ := q
  obtain ⟨a, h1, _⟩ := er.ownAt hd
  obtain ⟨er1, _⟩ := er.freeze hd h1
  exact ⟨_, _, C, b0, De, hb0, er1, hw, lf⟩
end
end DL
namespace DL
open PySem PySem.Spec PyProof.Rows L2
/-! ### a, b, c = x, y, z, all of them new and of one's own -/
def wPar3O (i j l : Nat) (wa wb wc : WE) : WS := fun env De => wa env fun x => wb env fun y => wc env fun z => ∃ d1 d2 d3, x = .nw d1 ∧ y = .nw d2 ∧ z = .nw d3 ∧ De.nx (((env.set i (.own d1)).set j (.own d2)).set l (.own d3))
section
variable {X : Cx} {G : Gh} {a b c : Expr} {wa wb wc : WE} {ca cb cc : Nat} {pos : Pos}
/-- a held new thing becomes a slot's own -/
theorem ER.setHeld {w0 w : Wd} {env env0 : Ev} {σ σ0 : L2.St} {a : Addr} {d : D} {b0 b1 : Nat} (er0 : ER (G.at b0) w0 env0 σ0) (z : w0.H a = none) (er : ER (G.at b1) w env σ) (m : w.M a) (n : ¬ w.C a) (o : Ow w a d) (nd : ∀ (j : Nat) (d : D), env[j]? = some (Sl.own d) → σ[j]? ≠ some (some (V.ref a))) (nh : ∀ (j : Nat) (b : Addr) (A : Ab), env[j]? = some (Sl.ab b A) → a ≠ b ∧ σ[j]? ≠ some (some (V.ref a))) (i : Nat) :
    ER (G.at b1) w (env.set i (.own d)) (σ.set i (some (.ref a))) := by
  have fr : G.Pt a = none ∧ G.H0 a = none := ⟨by
      cases q : G.Pt a with
      | none => rfl
      | some x => rcases er0.kp a x q with y | ⟨_, _, ob, y⟩ <;> (rw [z] at y; cases y), by
      cases q : G.H0 a with
      | none => rfl
      | some x => exact absurd z (er0.hd a (by rw [q]; simp))⟩
  refine ⟨er.toEH, by rw [List.length_set, List.length_set]; exact er.len, fun j s ov q1 q2 => ?_, OD.new er.od i nd nh⟩
  · rcases get_set q1 with ⟨rfl, rfl⟩ | ⟨n1, q1⟩
    · rcases get_set q2 with ⟨_, rfl⟩ | ⟨n2, _⟩
      · exact ⟨a, rfl, m, n, fr.1, fr.2, o⟩
      · exact absurd rfl n2
    · rcases get_set q2 with ⟨n2, _⟩ | ⟨_, q2⟩
      · exact absurd n2 n1
      · exact er.sl j s ov q1 q2
theorem ds_par3O (i j l : Nat) {x y z : Str} {px py pz pt : Pos} {kt k2 pt2} (hcm : X.calm = true) (hN : X.N.Nodup) (ha : DE X G a wa ca) (hb : DE X G b wb cb) (hc : DE X G c wc cc) (hi : X.N[i]? = some x := by rfl) (hj : X.N[j]? = some y := by rfl) (hl : X.N[l]? = some z := by rfl) (hij : i ≠ j := by decide) (hil : i ≠ l := by decide) (hjl : j ≠ l := by decide)
    (hx : X.env.scope.names.lookup x = some .local := by rfl) (hy : X.env.scope.names.lookup y = some .local := by rfl) (hz : X.env.scope.names.lookup z = some .local := by rfl)
    (ne : starEach [a, b, c] X.env = (false, eval a X.env) :: starEach [b, c] X.env := by rfl) (ne2 : starEach [b, c] X.env = (false, eval b X.env) :: starEach [c] X.env := by rfl) (ne3 : starEach [c] X.env = (false, eval c X.env) :: starEach [] X.env := by rfl)
    (hw : swappedStores [.Tuple [.Name x px, .Name y py, .Name z pz] kt pt] (.Tuple [a, b, c] k2 pt2) X.env = pure (some [x, y, z]) := by rfl)
    (hs : swapsWithSole [.Tuple [.Name x px, .Name y py, .Name z pz] kt pt] (.Tuple [a, b, c] k2 pt2) pos.line X.env = pure false := by rfl) :
    DS X G (.Assign [.Tuple [.Name x px, .Name y py, .Name z pz] kt pt] (.Tuple [a, b, c] k2 pt2) pos) (wPar3O i j l wa wb wc) (ca + (cb + cc)) :=
  PS_imp (ps_par3 hcm hN hi hj hl hij hil hjl hx hy hz (pa_cons ha (pa_cons hb (pa_cons hc pa_nil ne3) ne2) ne) hw hs) fun σ H T h => by
    obtain ⟨env, M, C, b0, De, hb0, er, hp, lf⟩ := h
    suffices q : tV G wa ca σ H fun v1 H1 => tV G wb cb σ H1 fun v2 H2 => tV G wc cc σ H2 fun v3 H3 => ∃ u v w, [v1, v2, v3] = [u, v, w] ∧ T.nx (((σ.set i (some u)).set j (some v)).set l (some w)) H3 from q
    refine tV.held (K := fun env x => wb env fun y => wc env fun z => ∃ d1 d2 d3, x = .nw d1 ∧ y = .nw d2 ∧ z = .nw d3 ∧ De.nx (((env.set i (.own d1)).set j (.own d2)).set l (.own d3))) (w := ⟨H, M, C⟩) (b := b0) (by omega) er hp fun b1 w1 v1 x1 hb1 er1 e1 r1 hq1 => ?_
    refine tV.held (K := fun env y => wc env fun z => ∃ d1 d2 d3, x1 = .nw d1 ∧ y = .nw d2 ∧ z = .nw d3 ∧ De.nx (((env.set i (.own d1)).set j (.own d2)).set l (.own d3))) (b := b1) (by omega) er1 hq1 fun b2 w2 v2 x2 hb2 er2 e2 r2 hq2 => ?_
    refine tV.held (K := fun env z => ∃ d1 d2 d3, x1 = .nw d1 ∧ x2 = .nw d2 ∧ z = .nw d3 ∧ De.nx (((env.set i (.own d1)).set j (.own d2)).set l (.own d3))) (b := b2) (by omega) er2 hq2 fun b3 w3 v3 x3 hb3 er3 e3 r3 hq3 => ?_
    obtain ⟨d1, d2, d3, rfl, rfl, rfl, hn⟩ := hq3
    refine ⟨v1, v2, v3, rfl, ?_⟩
    have r1' := (r1.ext e2 er1.cm).ext e3 er2.cm
    have r2' := r2.ext e3 er2.cm
    obtain ⟨a1, rfl, z1, m1, n1, o1⟩ := r1'
    obtain ⟨a2, rfl, z2, m2, n2, o2⟩ := r2'
    obtain ⟨a3, rfl, z3, m3, n3, o3⟩ := r3
    obtain ⟨a1', e1', _, _, _, o1'⟩ := r1
    cases e1'
    obtain ⟨a2', e2', _, _, _, o2'⟩ := r2
    cases e2'
    have t1 : w1.H a1 ≠ none := by obtain ⟨ob, ho⟩ := o1'.there; rw [ho]; simp
    have t2 : w2.H a2 ≠ none := by obtain ⟨ob, ho⟩ := o2'.there; rw [ho]; simp
    have n12 : a1 ≠ a2 := fun e => t1 (by rw [e]; exact z2)
    have n13 : a1 ≠ a3 := fun e => e2.dom a1 t1 (by rw [e]; exact z3)
    have n23 : a2 ≠ a3 := fun e => t2 (by rw [e]; exact z3)
    have erA := ER.setHeld er z1 er3 m1 n1 o1 (fun k d q => er.notNew q z1) (fun k b A q => er.notNewH q z1) i
    have erB := ER.setHeld er1 z2 erA m2 n2 o2 (fun k d q g => by
      rcases get_set g with ⟨y, e⟩ | ⟨y, g⟩
      · exact n12 (V.ref.inj (Option.some.inj e)).symm
      · rcases get_set q with ⟨y', _⟩ | ⟨_, q⟩
        · exact y y'
        · exact er1.notNew q z2 g) (fun k b A q => by
      rcases get_set q with ⟨_, y⟩ | ⟨n1, q⟩
      · cases y
      · rw [List.getElem?_set_ne (Ne.symm n1)]
        exact er1.notNewH q z2) j
    have erC := ER.setHeld er2 z3 erB m3 n3 o3 (fun k d q g => by
      rcases get_set g with ⟨y, e⟩ | ⟨y, g⟩
      · exact n23 (V.ref.inj (Option.some.inj e)).symm
      · rcases get_set q with ⟨y', _⟩ | ⟨_, q⟩
        · exact y y'
        · rcases get_set g with ⟨y2, e⟩ | ⟨y2, g⟩
          · exact n13 (V.ref.inj (Option.some.inj e)).symm
          · rcases get_set q with ⟨y', _⟩ | ⟨_, q⟩
            · exact y2 y'
            · exact er2.notNew q z3 g) (fun k b A q => by
      rcases get_set q with ⟨_, y⟩ | ⟨n1, q⟩
      · cases y
      · rcases get_set q with ⟨_, y⟩ | ⟨n2, q⟩
        · cases y
        · rw [List.getElem?_set_ne (Ne.symm n1), List.getElem?_set_ne (Ne.symm n2)]
          exact er2.notNewH q z3) l
    exact lf.nx _ hn b3 w3 _ (by omega) erC
end
/-! ### x.append(y.pop(e)) of two own lists -/
def wAppPop (i j : Nat) (we : WE) : WS := fun env De => ∃ ds es, env[i]? = some (.own (.list ds)) ∧ env[j]? = some (.own (.list es)) ∧ i ≠ j ∧ we env fun x => ∃ (k : Nat) (d : D), x.val = some (.int (k : Nat)) ∧ k < 1000 ∧ es[k]? = some d ∧ ds.length < sizeLine ∧ De.nx ((env.set j (.own (.list (es.eraseIdx k)))).set i (.own (.list (ds ++ [d]))))
section
variable {X : Cx} {G : Gh} {e : Expr} {we : WE} {ca : Nat} {pos p1 p2 p3 y1 y2 y3 : Pos}
theorem seqIx {k n : Nat} (h : k < n) : seqIndex? (k : Int) n = some k := by
  unfold seqIndex?
  have e : (if (k : Int) < 0 then (k : Int) + n else k) = k := if_neg (by omega)
  simp only [e]
  rw [if_pos (by simp; omega)]
  simp
theorem ds_appPop (i j : Nat) {x y : Str} (he : DE X G e we ca) (hN : X.N[i]? = some x := by rfl) (hv : Vis X.env.scope x := by first | exact Or.inl rfl | exact Or.inr (Or.inl rfl) | exact Or.inr (Or.inr rfl)) (hNy : X.N[j]? = some y := by rfl) (hvy : Vis X.env.scope y := by first | exact Or.inl rfl | exact Or.inr (Or.inl rfl) | exact Or.inr (Or.inr rfl))
    (hd : (x == ("__debug__" : Str)) = false := by decide) (hcd : (x == ("__classdict__" : Str)) = false := by decide) (hdy : (y == ("__debug__" : Str)) = false := by decide) (hcdy : (y == ("__classdict__" : Str)) = false := by decide)
    (hbase : attributeBase (.Name x p1) "append" X.env (eval (.Name x p1) X.env) = eval (.Name x p1) X.env := by rfl) (hbasey : attributeBase (.Name y y1) "pop" X.env (eval (.Name y y1) X.env) = eval (.Name y y1) X.env := by rfl)
    (hfew : ((backTo p3 (starEach [.Call (.Attribute (.Name y y1) "pop" y2) [e] [] y3] X.env)).all (fun x => !x.1) && (backToKw p3 (keywordEach [] X.env)).all (fun x => x.1.isSome)
      && decide ([Expr.Call (.Attribute (.Name y y1) "pop" y2) [e] [] y3].length + ([] : List Keyword).length + (if ([] : List Keyword).isEmpty then 0 else 1) < 30)) = true := by rfl)
    (hfewy : ((backTo y3 (starEach [e] X.env)).all (fun x => !x.1) && (backToKw y3 (keywordEach [] X.env)).all (fun x => x.1.isSome)
      && decide ([e].length + ([] : List Keyword).length + (if ([] : List Keyword).isEmpty then 0 else 1) < 30)) = true := by rfl)
    (hline : (p2.endLine == p3.line) = true := by rfl) (hliney : (y2.endLine == y3.line) = true := by rfl)
    (hs : starEach [.Call (.Attribute (.Name y y1) "pop" y2) [e] [] y3] X.env = (false, eval (.Call (.Attribute (.Name y y1) "pop" y2) [e] [] y3) X.env) :: starEach [] X.env := by rfl) (hsy : starEach [e] X.env = (false, eval e X.env) :: starEach [] X.env := by rfl)
    (hplain : (backTo p3 (starEach [] X.env)).any (·.1) = false := by rfl) (hplainy : (backTo y3 (starEach [] X.env)).any (·.1) = false := by rfl)
    (hsw : swapsWith (.Call (.Attribute (.Name x p1) "append" p2) [.Call (.Attribute (.Name y y1) "pop" y2) [e] [] y3] [] p3) none pos.line X.env = pure false := by rfl) :
    DS X G (.Expr (.Call (.Attribute (.Name x p1) "append" p2) [.Call (.Attribute (.Name y y1) "pop" y2) [e] [] y3] [] p3) pos) (wAppPop i j we) ca :=
  PS_imp (ps_expr (pe_bm PySem.F.plainAttrs_list PySem.F.slot_list_append PySem.F.type_list_append mt_append (pe_var hN hv hd hcd) (pa_cons (pe_bm PySem.F.plainAttrs_list PySem.F.slot_list_pop PySem.F.type_list_pop mt_popAt (pe_var hNy hvy hdy hcdy) (pa_cons he pa_nil hsy) hbasey hfewy hliney hsy hplainy) pa_nil hs) hbase hfew hline hs hplain) hsw) fun σ H T h => by
    obtain ⟨env, M, C, b0, De, hb0, er, ⟨ds, es, hi, hj, hij, hw⟩, lf⟩ := h
    obtain ⟨a, h1, m, c, p, z, ob⟩ := er.ownAt hi
    obtain ⟨q, h2, mq, cq, pq, zq, oq⟩ := er.ownAt hj
    cases ob with
    | @lst xs _ hx rl =>
      cases oq with
      | @lst ys _ hy ry =>
        refine ⟨.ref a, h1, .inl ⟨rfl, xs, SqL.of hx⟩, .ref q, h2, .inl ⟨rfl, ys, SqL.of hy⟩, env, M, C, b0, _, hb0, er, hw, fun dv hd b1 w1 v hb1 er1 e1 r1 => ?_⟩
        obtain ⟨k, d, hk, hk1, hkd, hz, n⟩ := hd
        have rv := r1.rq hk
        cases rv
        obtain ⟨q', h2', mq', cq', _, _, oq'⟩ := er1.ownAt hj
        rw [h2] at h2'
        cases h2'
        cases oq' with
        | @lst ys' _ hy' ry' =>
          obtain ⟨u, hu, ru⟩ := ry'.get hkd
          have hl : k < ys'.length := (List.getElem?_eq_some_iff.mp hu).1
          refine ⟨q, ys', (k : Int), k, u, rfl, rfl, hy', by omega, by omega, seqIx hl, hu, ?_⟩
          have st : St1 w1 ⟨upd w1.H q (.lst (ys'.eraseIdx k)), w1.M, w1.C⟩ := ⟨fun b x n q0 => .inl (by show upd w1.H q _ b = some x; rw [upd_ne (fun z => n (by rw [z]; exact mq'))]; exact q0), fun b m => .inl m⟩
          have er2 := er1.mut hj h2 (.lst upd_same ((ry'.eraseIdx k).st st) : Ow ⟨upd w1.H q (.lst (ys'.eraseIdx k)), w1.M, w1.C⟩ q (.list (es.eraseIdx k)))
          have hi' : (env.set j (.own (.list (es.eraseIdx k))))[i]? = some (.own (.list ds)) := by rw [List.getElem?_set_ne hij.symm]; exact hi
          obtain ⟨a', h1', m', c', _, _, ob'⟩ := er2.ownAt hi'
          rw [h1] at h1'
          cases h1'
          cases ob' with
          | @lst xs' _ hx' rl' =>
            refine ⟨a, xs', u, rfl, rfl, hx', by rw [rl'.length]; exact hz, ?_⟩
            have st2 : St1 ⟨upd w1.H q (.lst (ys'.eraseIdx k)), w1.M, w1.C⟩ ⟨upd (upd w1.H q (.lst (ys'.eraseIdx k))) a (.lst (xs' ++ [u])), w1.M, w1.C⟩ := ⟨fun b x n q0 => .inl (by show upd _ a _ b = some x; rw [upd_ne (fun z => n (by rw [z]; exact m'))]; exact q0), fun b m => .inl m⟩
            exact lf.nx _ n b1 ⟨upd (upd w1.H q (.lst (ys'.eraseIdx k))) a (.lst (xs' ++ [u])), w1.M, w1.C⟩ σ hb1 (er2.mut hi' h1 (.lst upd_same ((rl'.append (.cons (ru.st st) .nil)).st st2)))
end
/-! ### list(d): the keys of a dict -/
def wKeys (wa : WE) : WE := fun env P => wa env fun x => ∃ es : List (D × D), x.val = some (.dict es) ∧ es.length ≤ sizeLine ∧ isOp (.dict es) = false ∧ P (.nw (.list (es.map (·.1))))
theorem CallR.or {X : Cx} {f : Value} {r1 r2 : List V → Hp → VK → Prop} (h1 : CallR X f r1) (h2 : CallR X f r2) : CallR X f (fun xs H Q => r1 xs H Q ∨ r2 xs H Q) := fun pins s σ H xs us Q I r h => h.elim (h1 pins s σ H xs us Q I r) (h2 pins s σ H xs us Q I r)
theorem rp_key {w : Wd} (k : Key) : Rp w (kV k) (kD k) := by
  cases k with
  | inl i => exact .int i
  | inr x => exact .str x
theorem rp_keys {w : Wd} : ∀ ks : List Key, RpL w (ks.map kV) (ks.map kD)
  | [] => .nil
  | k :: r => .cons (rp_key k) (rp_keys r)
section
variable {X : Cx}
theorem call_list_nest (hc : X.calm = true) : CallR X (.type "list") (fun xs H Q => ∃ d o L, xs = [V.ref d] ∧ H d = some (.ext (nestΦ d o L)) ∧ L.length ≤ sizeLine ∧ ∀ p, H p = none → Q (.ref p) (upd H p (.lst (L.map fun x => V.ref x.2.1)))) := by
  intro pins s σ H xs us Q I r h
  obtain ⟨d, o, L, rfl, hd, hz, q⟩ := h
  obtain ⟨u, rfl, rx⟩ := r.one
  cases rx
  obtain ⟨⟨hs, ho, es, ep, hx, hdt, he, hn⟩, _⟩ := (show ObjOk X.prog X.w H s.heap d (.ext (nestΦ d o L)) from I.hok d _ hd)
  have l1 : es.size = L.length := by
    have := congrArg List.length he
    rw [Array.length_toList, List.length_map] at this
    exact this
  refine PySem.W.kdl_call (kdl_raw hs hx hdt) (I.ok.hd hc) ho (by omega) fun h' tk acc' c' kp e it => ?_
  have ea : acc'.toList = L.map fun x => Value.ref x.2.1 := by
    have hl : acc'.toList.length = L.length := by rw [Array.length_toList, it.1]; exact l1
    apply List.ext_getElem?
    intro j
    rw [List.getElem?_map]
    cases hj : acc'.toList[j]? with
    | none =>
      have h1 := List.getElem?_eq_none_iff.mp hj
      rw [List.getElem?_eq_none (by omega)]; rfl
    | some v =>
      obtain ⟨en, hen, hv⟩ := it.2 j v (by rw [← Array.getElem?_toList]; exact hj)
      have qe : es.toList[j]? = (L.map nEnt)[j]? := by rw [he]
      rw [Array.getElem?_toList, hen, List.getElem?_map] at qe
      cases hb : L[j]? with
      | none => rw [hb] at qe; cases qe
      | some b =>
        rw [hb] at qe
        have e2 : en = nEnt b := Option.some.inj qe
        rw [hv, e2]; rfl
  have eb : acc'.toList = (L.map fun x => x.2.1).map Value.ref := by rw [ea, List.map_map]; rfl
  have ev : (L.map fun x => V.ref x.2.1) = (L.map fun x => x.2.1).map V.ref := by rw [List.map_map]; rfl
  have rv : Vals (L.map fun x => V.ref x.2.1) acc'.toList := by rw [eb, ev]; exact vals_refs _
  refine ⟨.ref s.heap.objs.size, _, I.laid (t' := tk) (o := .lst (L.map fun x => V.ref x.2.1)) kp (Nat.le_refl _) ?_, rfl, q _ (I.hok.fresh (Nat.le_refl _))⟩
  exact ⟨by rw [List.length_map]; exact hz, acc'.toList, c', rv, by rw [Array.toArray_toList]; exact e⟩
end
section
variable {X : Cx} {G : Gh} {e : Expr} {wa : WE} {ca : Nat} {p pos : Pos}
theorem de_keys (hcalm : X.calm = true) (hg : Gl X "list") (hm : X.mg "list" = none) (he : DE X G e wa ca) (hs : starEach [e] X.env = (false, eval e X.env) :: starEach [] X.env := by rfl) (hpl : (backTo pos (starEach [] X.env)).any (·.1) = false := by rfl) :
    DE X G (.Call (.Name "list" p) [e] [] pos) (wKeys wa) ca :=
  PE_imp (pe_callTy (CallR.or (L2.call_listD hcalm) (call_list_nest hcalm)) hg hm (by decide +kernel) (da_cons he da_nil hs) (by decide) (by decide) hs hpl) fun σ H Q h => by
    obtain ⟨env, M, C, b0, P, hb0, er, hw, hf⟩ := h
    refine ⟨env, M, C, b0, fun ds => match ds with | [x] => ∃ es : List (D × D), x.val = some (.dict es) ∧ es.length ≤ sizeLine ∧ isOp (.dict es) = false ∧ P (.nw (.list (es.map (·.1)))) | _ => False, hb0, er, hw, fun ds hd b1 w1 vs hb1 er1 e1 r1 => ?_⟩
    match ds, hd with
    | [x], ⟨es, hx, hz, nop, hp⟩ =>
      cases r1 with
      | cons rv rn =>
        cases rn
        have rq := rv.rq hx
        have fin := Fin.ext (w := ⟨H, M, C⟩) hf e1 hb1
        cases rq with
        | @dK a kvs _ hr ek rl =>
          refine .inl ⟨a, kvs, rfl, hr, fun q n => fin.pure er1 (d := PyData.list (es.map (fun z : D × D => z.1))) hp (same_new n) (newL n ?_)⟩
          rw [ek, show (kvs.map fun kv => kV kv.1) = (kvs.map (·.1)).map kV by rw [List.map_map]; rfl, show (kvs.map fun p => kD p.1) = (kvs.map (·.1)).map kD by rw [List.map_map]; rfl]
          exact rp_keys _
        | op _ _ _ => cases nop
        | dN n r1 r2 =>
          obtain ⟨o, ho⟩ := n.at_
          have np := n.np r1 r2
          refine .inr ⟨_, o, _, rfl, ho, by rw [np.len]; exact hz, fun q n => fin.pure er1 (d := PyData.list (es.map (fun z : D × D => z.1))) hp (same_new n) (newL n (np_keys np))⟩
end
end DL
/-! {"a": x, "b": y, ..}: a dict display whose keys are texts -/
namespace DL
open PySem PySem.Spec PyProof.Rows L2
section
variable {G : Gh} {w w' : Wd} {env : Ev} {σ : L2.St}
/-- something that was not there at first, and that no slot holds, changes -/
theorem ER.pokeNew {b0 b1 : Nat} {p : Addr} {o : HO} (er0 : ER (G.at b0) w env σ) (n : w.H p = none) (er : ER (G.at b1) w' env σ) (m : w'.M p) (c : ¬ w'.C p) (nt : ∀ xs, o ≠ .tup xs) : ER (G.at b1) ⟨upd w'.H p o, w'.M, w'.C⟩ env σ := by
  have pt : G.Pt p = none := by
    cases q : G.Pt p with
    | none => rfl
    | some x => rcases er0.kp p x q with z | ⟨_, _, ob, z⟩ <;> (rw [n] at z; cases z)
  have st : St1 w' ⟨upd w'.H p o, w'.M, w'.C⟩ := ⟨fun b x n q => .inl (by show upd w'.H p o b = some x; rw [upd_ne (fun z => n (by rw [z]; exact m))]; exact q), fun b m => .inl m⟩
  refine ⟨er.toEH.poke m c pt nt, er.len, fun j s ov q1 q2 => ?_, er.od⟩
  have s0 := er.sl j s ov q1 q2
  cases s with
  | no => trivial
  | fz d => obtain ⟨v, y, r⟩ := s0; exact ⟨v, y, r.st st⟩
  | raw v => exact s0
  | own d =>
    obtain ⟨x, rfl, mx, cx, px, zx, ox⟩ := s0
    have nx : x ≠ p := fun y => er0.notNew q1 n (by rw [q2, y])
    exact ⟨x, rfl, mx, cx, px, zx, ox.st st (by show upd w'.H p o x = w'.H x; rw [upd_ne nx])⟩
  | bw d =>
    obtain ⟨x, rfl, mx, cx, ⟨y, px⟩, ox⟩ := s0
    have nx : x ≠ p := fun z => by rw [z] at px; exact nomatch px.symm.trans pt
    exact ⟨x, rfl, mx, cx, ⟨y, px⟩, ox.st st (by show upd w'.H p o x = w'.H x; rw [upd_ne nx])⟩
  | ab b' A' =>
    obtain ⟨x, rfl, mx, my, ox⟩ := s0
    obtain ⟨n1, n2⟩ := er0.notNewH q1 n
    have nx : x ≠ p := fun y => n2 (by rw [q2, y])
    exact ⟨x, rfl, mx, my, A'.st st ox (by show upd w'.H p o x = w'.H x; rw [upd_ne nx]) (by show upd w'.H p o b' = w'.H b'; rw [upd_ne (Ne.symm n1)])⟩
end
def wVals : List WE → Ev → (List D → Prop) → Prop
  | [], _, P => P []
  | wa :: r, env, P => wa env fun x => ∃ d, x.kept = some d ∧ wVals r env fun ds => P (d :: ds)
/-- the display's pairs -/
inductive DPs (X : Cx) (G : Gh) (pos : Pos) : List (Option Expr) → List Expr → List Str → List WE → Nat → Prop
  | nil : DPs X G pos [] [] [] [] 0
  | cons {k : Str} {kj} {kp : Pos} {v : Expr} {ks : List (Option Expr)} {vs : List Expr} {xs : List Str} {wa : WE} {ws : List WE} {ca cb : Nat} : DE X G v wa ca → DPs X G pos ks vs xs ws cb → DPs X G pos (some (.Constant (.str k) kj kp) :: ks) (v :: vs) (k :: xs) (wa :: ws) (ca + cb)
section
variable {X : Cx} {G : Gh} {pos : Pos} {keys : List (Option Expr)} {values : List Expr} {xs : List Str} {ws : List WE} {c : Nat}
theorem DPs.shape (h : DPs X G pos keys values xs ws c) : keys.all (·.isSome) = true ∧ keys.length = values.length ∧ keys.length = xs.length := by
  induction h with
  | nil => exact ⟨rfl, rfl, rfl⟩
  | cons _ _ ih => exact ⟨by simp [ih.1], by simp [ih.2.1], by simp [ih.2.2]⟩
theorem DPs.run (h : DPs X G pos keys values xs ws c) : ∃ trs, PPs X pos keys values trs ∧ ∀ (σ : L2.St) (env : Ev) (w : Wd) (b : Nat) (P : List D → Prop) (R : List (V × V) → Hp → Prop), b + c ≤ cap → ER (G.at b) w env σ → wVals ws env P →
    (∀ ds, P ds → ∀ b' w' vs, b' ≤ b + c → ER (G.at b') w' env σ → Ext w w' → RpL w' vs ds → vs.length = xs.length → R (List.zipWith (fun k v => (V.str k, v)) xs vs) w'.H) → tPairs trs σ w.H R := by
  induction h with
  | nil => exact ⟨[], pps_nil, fun σ env w b P R hb er hw hf => hf [] hw b w [] (by omega) er (Ext.refl w) .nil rfl⟩
  | @cons k kj kp v ks vs xs wa ws ca cb he _ ih =>
    obtain ⟨trs, hp, hr⟩ := ih
    refine ⟨_, pps_cons pe_str he hp, fun σ env w b P R hb er hw hf => ?_⟩
    refine ⟨env, w.M, w.C, b, _, by omega, er, hw, fun dv hd b1 w1 v1 hb1 er1 e1 r1 => ?_⟩
    obtain ⟨d, hk, hd⟩ := hd
    refine hr σ env w1 b1 _ _ (by omega) er1 hd fun ds pd b2 w2 vs2 hb2 er2 e2 r2 l2 => ?_
    exact hf (d :: ds) pd b2 w2 (v1 :: vs2) (by omega) er2 (e1.trans e2) (.cons ((r1.rp hk).st (e2.st er1.cm)) r2) (by simp [l2])
theorem putK_new1 {kvs : List (Key × V)} {k : Key} {v : V} (h : k ∉ kvs.map (·.1)) : putK kvs k v = kvs ++ [(k, v)] := by
  unfold putK
  rw [if_neg]
  intro z
  obtain ⟨p, hp, e⟩ := List.any_eq_true.mp z
  exact h (List.mem_map.mpr ⟨p, hp, by simpa using e⟩)
theorem mergeK_nodup : ∀ (more kvs : List (Key × V)), ((kvs ++ more).map (·.1)).Nodup → mergeK kvs more = kvs ++ more
  | [], kvs, _ => by simp [mergeK]
  | (k, v) :: more, kvs, h => by
    have hn : k ∉ kvs.map (·.1) := by
      intro z
      rw [List.map_append, List.nodup_append] at h
      exact h.2.2 k z k (by simp) rfl
    show mergeK (putK kvs k v) more = _
    rw [putK_new1 hn, mergeK_nodup more (kvs ++ [(k, v)]) (by simpa using h)]
    simp
theorem zw_fst {α β γ : Type} (f : α → γ) : ∀ (xs : List α) (vs : List β), vs.length = xs.length → (List.zipWith (fun k v => (f k, v)) xs vs).map (·.1) = xs.map f
  | [], _, _ => rfl
  | _ :: _, [], h => by simp at h
  | x :: xs, v :: vs, h => by
    rw [List.zipWith_cons_cons, List.map_cons, List.map_cons, zw_fst f xs vs (by simpa using h)]
theorem zw_snd {α β γ : Type} (f : α → γ) : ∀ (xs : List α) (vs : List β), vs.length = xs.length → (List.zipWith (fun k v => (f k, v)) xs vs).map (·.2) = vs
  | [], [], _ => rfl
  | [], _ :: _, h => by simp at h
  | _ :: _, [], h => by simp at h
  | x :: xs, v :: vs, h => by
    rw [List.zipWith_cons_cons, List.map_cons, zw_snd f xs vs (by simpa using h)]
def wDispS (xs : List Str) (ws : List WE) : WE := fun env P => wVals ws env fun ds => P (.nw (.dict (List.zipWith (fun k d => (.str k, d)) xs ds)))
theorem de_dispS (h : DPs X G pos keys values xs ws c) (hn : xs.Nodup) (h0 : keys ≠ []) (h15 : keys.length ≤ 15) : DE X G (.Dict keys values pos) (wDispS xs ws) c := by
  obtain ⟨trs, hp, hr⟩ := h.run
  obtain ⟨s1, s2, s3⟩ := h.shape
  refine PE_imp (pe_disp hp s1 s2 h0 h15) fun σ H Q h => ?_
  obtain ⟨env, M, C, b, P, hb, er, hw, hf⟩ := h
  intro p np
  have sm : Same H (upd H p (.dK [])) := same_new np
  have ex1 : Ext ⟨H, M, C⟩ (Wd.plus ⟨upd H p (.dK []), M, C⟩ p) := Ext.plus (w := ⟨H, M, C⟩) sm np
  have er1 := er.ext' ex1 (er.toEH.plus (w := ⟨H, M, C⟩) sm np (by rw [upd_same]; simp) (fun xs => by rw [upd_same]; simp))
  refine hr σ env (Wd.plus ⟨upd H p (.dK []), M, C⟩ p) b _ _ hb er1 hw fun ds pd b' w' vs hb' er' e' r' l' => ?_
  have ncp : ¬ (Wd.plus ⟨upd H p (.dK []), M, C⟩ p).C p := fun z => er.md p (er.cm p z) np
  have hp' : w'.H p = some (.dK []) := e'.own ncp (.inr rfl) upd_same
  have mp : w'.M p := e'.oldM p (.inr rfl)
  have cp' : ¬ w'.C p := fun z => (e'.newC p z).elim ncp fun q => by rw [show (Wd.plus ⟨upd H p (.dK []), M, C⟩ p).H p = _ from upd_same] at q; cases q
  have zk : List.zipWith (fun k v => (V.str k, v)) xs vs = (List.zipWith (fun (k : Str) (v : V) => ((.inr k : Key), v)) xs vs).map fun kv => (kV kv.1, kv.2) := by
    rw [List.map_zipWith]; rfl
  have kn : (List.zipWith (fun (k : Str) (v : V) => ((.inr k : Key), v)) xs vs).map (·.1) = xs.map fun k => (.inr k : Key) := zw_fst (fun k => (.inr k : Key)) xs vs l'
  have kvn : ((List.zipWith (fun (k : Str) (v : V) => ((.inr k : Key), v)) xs vs).map (·.1)).Nodup := by
    rw [kn]
    exact List.Pairwise.map _ (fun a b (ne : a ≠ b) z => ne (Sum.inr.inj z)) hn
  have kvv : (List.zipWith (fun (k : Str) (v : V) => ((.inr k : Key), v)) xs vs).map (·.2) = vs := zw_snd (fun k => (.inr k : Key)) xs vs l'
  have dl : ds.length = xs.length := by rw [← r'.length, l']
  have dk : (List.zipWith (fun (k : Str) (d : D) => ((.str k : D), d)) xs ds).map (·.1) = (List.zipWith (fun (k : Str) (v : V) => ((.inr k : Key), v)) xs vs).map fun p => kD p.1 := by
    have : (List.zipWith (fun (k : Str) (v : V) => ((.inr k : Key), v)) xs vs).map (fun p => kD p.1) = ((List.zipWith (fun (k : Str) (v : V) => ((.inr k : Key), v)) xs vs).map (·.1)).map kD := by rw [List.map_map]; rfl
    rw [this, kn, List.map_map, zw_fst (fun k => (.str k : D)) xs ds dl]; rfl
  have dvv : (List.zipWith (fun (k : Str) (d : D) => ((.str k : D), d)) xs ds).map (·.2) = ds := zw_snd (fun k => (.str k : D)) xs ds dl
  refine ⟨hp', _, zk, by rw [List.length_zipWith]; omega, ?_⟩
  rw [mergeK_nodup _ [] (by simpa using kvn), List.nil_append]
  have er2 := ER.pokeNew (o := .dK (List.zipWith (fun (k : Str) (v : V) => ((.inr k : Key), v)) xs vs)) er np er' mp cp' (fun _ z => nomatch z)
  have e01 := ex1.trans e'
  have st2 : St1 w' (Wd.plus ⟨upd w'.H p (.dK (List.zipWith (fun (k : Str) (v : V) => ((.inr k : Key), v)) xs vs)), w'.M, w'.C⟩ p) := ⟨fun b x n q => .inl (by show upd w'.H p _ b = some x; rw [upd_ne (fun z => n (by rw [z]; exact mp))]; exact q), fun b m => m.elim .inl fun z => .inl (by rw [z]; exact mp)⟩
  have ex2 : Ext ⟨H, M, C⟩ ⟨upd w'.H p (.dK (List.zipWith (fun (k : Str) (v : V) => ((.inr k : Key), v)) xs vs)), w'.M, w'.C⟩ := by
    have ne : ∀ {a : Addr} {o : HO}, H a = some o → a ≠ p := fun h z => by rw [z, np] at h; cases h
    refine ⟨fun a o n h => ?_, fun a h => ?_, e01.newC, e01.newM, e01.oldM⟩
    · show upd w'.H p _ a = _ ∨ (_ ∧ _ ∧ ∃ ob, upd w'.H p _ a = _)
      rw [upd_ne (ne h)]
      exact e01.keep a o n h
    · show upd w'.H p _ a ≠ none
      by_cases z : a = p
      · rw [z, upd_same]; simp
      · rw [upd_ne z]; exact e01.dom a h
  exact hf _ pd b' ⟨upd w'.H p (.dK (List.zipWith (fun (k : Str) (v : V) => ((.inr k : Key), v)) xs vs)), w'.M, w'.C⟩ (.ref p) hb' er2 ex2
    ⟨p, rfl, np, ⟨fun _ => mp, fun _ => rfl⟩, cp', .dK upd_same dk (by rw [kvv, dvv]; exact r'.st st2)⟩
end
end DL
/-! Slices of texts, a text some times, tuples of ints in turn. -/
namespace DL
open PySem PySem.Spec PyProof.Rows L2
section
variable {X : Cx}
def slS : D → Option Int → Option Int → Option D
  | .str z, lo, hi => if z.length ≤ sizeLine then some (.str (cutS z lo hi)) else none
  | d, lo, hi => slD d lo hi
def rSlSD : V → Option Int → Option Int → Hp → VK → Prop := fun x lo hi H Q => ∃ w dx d, w.H = H ∧ Wk w ∧ Rq w x dx ∧ slS dx lo hi = some d ∧ ∀ v H', Same H H' → VN w H' v d → Q v H'
theorem sl_SD : L2.SlR X rSlSD := by
  intro pins s σ H x v vl vu lo hi sl Q I rx hs pl pu ⟨w, dx, d, eH, wk, qx, hf, hq⟩
  subst eH
  cases dx with
  | str z =>
    cases qx
    have hf' : (if z.length ≤ sizeLine then some (PyData.str (cutS z lo hi)) else none) = some d := hf
    by_cases hz : z.length ≤ sizeLine
    · rw [if_pos hz] at hf'
      cases hf'
      exact sl_str pins s σ _ _ v vl vu lo hi sl Q I rx hs pl pu ⟨z, rfl, hz, hq _ _ (Same.refl _) (.str _)⟩
    · rw [if_neg hz] at hf'; cases hf'
  | list ds => exact sl_D pins s σ _ _ v vl vu lo hi sl Q I rx hs pl pu ⟨w, _, d, rfl, wk, qx, hf, hq⟩
  | tuple ds => exact sl_D pins s σ _ _ v vl vu lo hi sl Q I rx hs pl pu ⟨w, _, d, rfl, wk, qx, hf, hq⟩
  | _ => cases hf
def wSlS (wa : WE) (wl wh : WO) : WE := fun env P => wa env fun x => wl env fun lo => wh env fun hi => ∃ d, (x.val.bind fun a => slS a lo hi) = some d ∧ P (mkDv d)
theorem de_sliceS {G : Gh} {a : Expr} {lo hi : Option Expr} {wa : WE} {wl wh : WO} {ca cb cc : Nat} {pos p2 : Pos} (ha : DE X G a wa ca) (hl : PO X lo (tO G wl cb)) (hh : PO X hi (tO G wh cc)) : DE X G (.Subscript a (.Slice lo hi none p2) pos) (wSlS wa wl wh) (ca + cb + cc) :=
  PE_imp (pe_slice sl_SD ha hl hh) fun σ H Q h => by
    obtain ⟨env, M, C, b, P, hb, er, hw, hf⟩ := h
    refine ⟨env, M, C, b, _, by omega, er, hw, fun dx hx b1 w1 x hb1 er1 e1 r1 => ⟨env, w1.M, w1.C, b1, _, by omega, er1, hx, fun lo hl b2 w2 hb2 er2 e2 => ⟨env, w2.M, w2.C, b2, _, by omega, er2, hl, fun hi hh b3 w3 hb3 er3 e3 => ?_⟩⟩⟩
    obtain ⟨d, e, p⟩ := hh
    obtain ⟨dx', e4, e5⟩ := Option.bind_eq_some_iff.mp e
    have r3 := r1.ext (Hs' := H) (e2.trans e3) er1.cm fun _ z => z
    exact ⟨w3, dx', d, rfl, er3.md, r3.rq e4, e5, fun v H' s r => (Fin.ext (Fin.ext (Fin.ext (w := ⟨H, M, C⟩) hf e1 (Nat.le_refl _)) e2 (Nat.le_refl _)) e3 (by omega)).pure er3 p s r⟩
/-! a text some times -/
def repS (z : Str) (k : Nat) : Str := ⟨(List.replicate k z.cps).foldl (· ++ ·) #[]⟩
def mulS : D → D → Option D
  | .str z, .int k => if 2 ≤ k ∧ k ≤ 1000 ∧ z.length ≤ 1000 ∧ z.length ≠ 0 then some (.str (repS z k.toNat)) else none
  | a, b => mulX a b
theorem op_mulS : OpR X (binaryOp .Mult) (rV2 mulS) := by
  intro pins s σ H x y v u Q I rx ry h
  obtain ⟨w, dx, dy, d, eH, wk, qx, qy, hf, hq⟩ := id h
  have old : mulX dx dy = some d → wpAny (model X.prog X.w) X.A (binaryOp .Mult v u) (EP X pins σ Q) X.xe s := fun e => op_mulX pins s σ H x y v u Q I rx ry ⟨w, dx, dy, d, eH, wk, qx, qy, e, hq⟩
  cases dx with
  | str z =>
    cases dy with
    | int k =>
      have hf' : (if 2 ≤ k ∧ k ≤ 1000 ∧ z.length ≤ 1000 ∧ z.length ≠ 0 then some (PyData.str (repS z k.toNat)) else none) = some d := hf
      by_cases c : 2 ≤ k ∧ k ≤ 1000 ∧ z.length ≤ 1000 ∧ z.length ≠ 0
      · rw [if_pos c] at hf'
        cases hf'
        cases qx; cases qy
        subst eH
        obtain ⟨c1, c2, c3, c4⟩ := c
        obtain ⟨tz, rfl⟩ := rx
        obtain ⟨tk, rfl⟩ := ry
        have m := PyProof.Rows.mulOk_of (x := z) (n := k) 1000 1000 c3 (by omega) (by omega) (by omega) (by omega)
        obtain ⟨m1, m2, m3⟩ := m
        refine PySem.P.mul_str m1 m2 m3 ?_
        have n1 : ¬ k < 1 := by omega
        have n2 : ¬ ((k == 1 || z.length == 0) = true) := by
          rw [Bool.or_eq_true, beq_iff_eq, beq_iff_eq]; omega
        rw [if_neg n1, if_neg n2]
        have hl : (repS z k.toNat).length ≤ sizeLine := by
          show ((List.replicate k.toNat z.cps).foldl (· ++ ·) #[]).size ≤ _
          rw [PyProof.Rows.len_reps, sizeLine_eq]
          have h1 : k.toNat * z.cps.size ≤ 1000 * 1000 := Nat.mul_le_mul (by omega) c3
          simp only [Array.size_empty, Nat.zero_add]
          omega
        exact ⟨hl, .str _, _, I.tok _, ⟨_, rfl⟩, hq _ _ (Same.refl _) (.str _)⟩
      · rw [if_neg c] at hf'; cases hf'
    | _ => cases hf
  | _ => exact old hf
/-! tuples of ints in turn -/
def lexB (ns ms : List Int) : Bool := Ob.lexAt (fun j => decide (ns.getD j 0 = ms.getD j 0)) (fun j => decide (ns.getD j 0 ≤ ms.getD j 0)) (decide (ns.length ≤ ms.length)) 0 (min ns.length ms.length)
def leX : D → D → Option D
  | .tuple a, .tuple b => match intsOf a, intsOf b with
    | some ns, some ms => some (.bool (lexB ns ms))
    | _, _ => none
  | a, b => leD a b
theorem op_leX (hu : X.A.units < cLine) : OpR X (compareOp .LtE) (rV2 leX) := by
  intro pins s σ H x y v u Q I rx ry h
  obtain ⟨w, dx, dy, d, eH, wk, qx, qy, hf, hq⟩ := id h
  have old : leD dx dy = some d → wpAny (model X.prog X.w) X.A (compareOp .LtE v u) (EP X pins σ Q) X.xe s := fun e => op_leD pins s σ H x y v u Q I rx ry ⟨w, dx, dy, d, eH, wk, qx, qy, e, hq⟩
  cases dx with
  | tuple a =>
    cases dy with
    | tuple b =>
      cases ha : intsOf a with
      | none => simp only [leX, ha] at hf; cases hf
      | some ns =>
        cases hb : intsOf b with
        | none => simp only [leX, ha, hb] at hf; cases hf
        | some ms =>
          simp only [leX, ha, hb] at hf
          cases hf
          subst eH
          cases qx with
          | tup n1 h1 r1 =>
            cases qy with
            | tup n2 h2 r2 =>
              have e1 := intsOf_rp ha r1
              have e2 := intsOf_rp hb r2
              subst e1 e2
              exact op_leT hu pins s σ _ _ _ v u Q I rx ry ⟨_, _, ns, ms, rfl, rfl, h1.sq, h2.sq, hq _ _ (Same.refl _) (.bl _)⟩
    | _ => cases hf
  | _ => exact old hf
end
end DL
/-! A text no time, once, some times. -/
namespace DL
open PySem PySem.Spec PyProof.Rows L2
def mulZ : D → D → Option D
  | .str z, .int k => if 0 ≤ k ∧ k ≤ 1000 ∧ z.length ≤ 1000 ∧ z.length ≠ 0 then some (.str (repS z k.toNat)) else none
  | a, b => mulX a b
theorem op_mulZ {X : Cx} : OpR X (binaryOp .Mult) (rV2 mulZ) := by
  intro pins s σ H x y v u Q I rx ry h
  obtain ⟨w, dx, dy, d, eH, wk, qx, qy, hf, hq⟩ := id h
  have old : mulX dx dy = some d → wpAny (model X.prog X.w) X.A (binaryOp .Mult v u) (EP X pins σ Q) X.xe s := fun e => op_mulX pins s σ H x y v u Q I rx ry ⟨w, dx, dy, d, eH, wk, qx, qy, e, hq⟩
  cases dx with
  | str z =>
    cases dy with
    | int k =>
      have hf' : (if 0 ≤ k ∧ k ≤ 1000 ∧ z.length ≤ 1000 ∧ z.length ≠ 0 then some (PyData.str (repS z k.toNat)) else none) = some d := hf
      obtain ⟨⟨c1, c2, c3, c4⟩, rfl⟩ := of_if hf'
      cases qx; cases qy
      subst eH
      obtain ⟨tz, rfl⟩ := rx
      obtain ⟨tk, rfl⟩ := ry
      have m := PyProof.Rows.mulOk_of (x := z) (n := k) 1000 1000 c3 (by omega) (by omega) (by omega) (by omega)
      obtain ⟨m1, m2, m3⟩ := m
      refine PySem.P.mul_str m1 m2 m3 ?_
      by_cases n1 : k < 1
      · rw [if_pos n1]
        obtain rfl : k = 0 := by omega
        exact ⟨by decide, .str _, _, I.tok _, ⟨_, rfl⟩, hq _ _ (Same.refl _) (.str _)⟩
      · rw [if_neg n1]
        by_cases n2 : (k == 1 || z.length == 0) = true
        · rw [if_pos n2]
          have k1 : k = 1 := by
            rw [Bool.or_eq_true, beq_iff_eq, beq_iff_eq] at n2; omega
          subst k1
          have e : repS z (1 : Int).toNat = z := by
            show (⟨#[] ++ z.cps⟩ : Str) = z
            rw [Array.empty_append]
          rw [e] at hq
          exact ⟨.str _, _, I, ⟨_, rfl⟩, hq _ _ (Same.refl _) (.str _)⟩
        · rw [if_neg n2]
          have hl : (repS z k.toNat).length ≤ sizeLine := by
            show ((List.replicate k.toNat z.cps).foldl (· ++ ·) #[]).size ≤ _
            rw [PyProof.Rows.len_reps, sizeLine_eq]
            have h1 : k.toNat * z.cps.size ≤ 1000 * 1000 := Nat.mul_le_mul (by omega) c3
            simp only [Array.size_empty, Nat.zero_add]
            omega
          exact ⟨hl, .str _, _, I.tok _, ⟨_, rfl⟩, hq _ _ (Same.refl _) (.str _)⟩
    | _ => cases hf
  | _ => exact old hf
end DL
namespace K87
open PySem PySem.Spec PyProof.Rows L2 DL
def topS (i : Nat) : Stmt := PySem.Challenge.pw_nestcrates_k87_errors.main.body.getD i (.Pass ⟨0, 0, 0, 0⟩)
abbrev s11 : Stmt := topS 11
abbrev nN : List Str := ["_law_m", "_law_total", "_law_found", "_law_cell"]
theorem sc11 : FnScope nN ["_law_m", "_law_total"] (defScope s11) := ⟨rfl, rfl, rfl, by decide +kernel, rfl, by decide +kernel, by decide +kernel⟩
section
variable {P : Program} {w : World} {K : PySem.W.Frag} {mg : Str → Option Value} {base : Heap}
def spNext (a : Addr) : DL.Spec := fun as Q => ∃ t : Int, as = [.raw (.ref a), .fz (.int t)] ∧ 0 < t ∧ t < 2 ^ 1000 ∧ ∀ r : Int, 0 ≤ r → r < t → Q (.int r)
abbrev SI := SI4
theorem ok_next (a : Addr) {f : Addr} {fd : FuncData} (F : Fun K "_law_next" "_law_next" s11 f fd) (nI : mg "int" = none) (nL : mg "len" = none) : FnG P w K mg base CX0 2 f fd ["_law_m", "_law_total"] (spF (SI a) 1 (spNext a)) := by
  obtain ⟨oc, od, kV, doc, pm, an, cdv, ct, osl, rfl, lk, hcd⟩ := F.ex
  refine fnG_of lk hcd sc11 (fun vs H Q E h => ?_) fun A outer s H vs Q E hgd hr h => ?_
  · obtain ⟨as, M, C, b, Pd, _, _, _, r, ⟨t, rfl, _⟩, _⟩ := h
    rw [r.length]; rfl
  · obtain ⟨as, M, C, b, Pd, hb, wf, si, r, ⟨t, rfl, ht0, ht1, hr0⟩, hq⟩ := h
    cases r with
    | cons r1 r2 =>
      cases r2 with
      | cons r2 r3 =>
        cases r3
        cases r1; cases r2
        obtain ⟨g, c, gs, cs, n, z, hn, hz, hl, S⟩ := St4.start wf si
        have wf0 : Wf (⟨H, M, C⟩ : Wd) := wf
        have mI : ∀ {e : Expr} {te : TE} {p pos : Pos}, PE (cxOf CX0 P w K mg base nN "_law_next" (defScope s11) f cdv A outer s H E).nox e te → starEach [e] (cxOf CX0 P w K mg base nN "_law_next" (defScope s11) f cdv A outer s H E).nox.env = (false, eval e (cxOf CX0 P w K mg base nN "_law_next" (defScope s11) f cdv A outer s H E).nox.env) :: starEach [] (cxOf CX0 P w K mg base nN "_law_next" (defScope s11) f cdv A outer s H E).nox.env → PE (cxOf CX0 P w K mg base nN "_law_next" (defScope s11) f cdv A outer s H E).nox (.Call (.Name "int" p) [e] [] pos) (tCB (fun xs H Q => (∃ i, xs = [.int i] ∧ Q (.int i) H) ∨ ∃ k, xs = [.bl k] ∧ Q (.int (if k then 1 else 0)) H) (tCons te tNil)) := fun h hs => pe_callTy call_int1 (by rfl) nI (by decide +kernel) (pa_cons h pa_nil hs) (by decide) (by decide) hs rfl
        have sml : ∀ i : Int, Sml (i % 4294967291) := fun i => ⟨Int.emod_nonneg _ (by decide), Int.lt_trans (Int.emod_lt_of_pos _ (by decide)) (by decide)⟩
        -- the sum
        obtain ⟨tE, dE, hE⟩ : ∃ tE, PSs (cxOf CX0 P w K mg base nN "_law_next" (defScope s11) f cdv A outer s H E).nox ((defBody s11).drop 4) tE ∧ ∀ (C1 : Addr → Prop) (g1 : Addr) (gs1 : List Int) (x : Int) (H2 : Hp), St4 a ⟨H, M, C⟩ H2 C1 g1 c gs1 cs (n + 1) z → tE { nx := fun _ H' => Q .non H', rt := Q } [some (.ref a), some (.int t), none, some (.int x)] H2 := by
          refine ⟨_, pss_cons (ps_iset (set_dict (DL.Room.u1 hr)) (pv 0) pe_str (pe_op op_mod (mI (pe_op op_add (pe_op op_add (pe_op op_mul (pe_dget (DL.Room.u1 hr) (pv 0) pe_str (fun _ _ => rfl)) pe_int) (pe_op op_mod (mI (pv 3) rfl) pe_int)) (pe_op op_mul pe_int (pe_dget (DL.Room.u1 hr) (pv 0) pe_str (fun _ _ => rfl)))) rfl) pe_int))
          (pss_one (ps_ret (pe_op op_mod (pe_op op_fdivB (pe_op op_mod (mI (pe_op op_add (pe_op op_mul (pe_dget (DL.Room.u1 hr) (pv 0) pe_str (fun _ _ => rfl)) pe_int) (pe_dget (DL.Room.u1 hr) (pv 0) pe_str (fun _ _ => rfl))) rfl) pe_int) pe_int) (pv 1)))), fun C1 g1 gs1 x H2 S2 => ?_⟩
          refine S2.getS rfl ⟨z, 75364, rfl, rfl, .inr (by decide), ?_⟩
          refine ⟨.int x, rfl, .inl ⟨x, rfl, x, _, rfl, rfl, (show (0 : Int) < 2147483587 by decide), ?_⟩⟩
          refine ⟨_, _, rfl, rfl, S2.getT rfl ⟨977, _, rfl, rfl, .inl (by decide), ?_⟩⟩
          refine ⟨_, _, rfl, rfl, .inl ⟨_, rfl, _, _, rfl, rfl, (show (0 : Int) < 4294967291 by decide), ?_⟩⟩
          refine ⟨.ref a, rfl, a, _, rfl, S2.putS, ?_⟩
          have S3 := S2.setD (n' := n + 1) (z' := ((z * 75364 + x % 2147483587) + 977 * ((n + 1 : Nat) : Int)) % 4294967291)
          refine S3.getS rfl ⟨_, 40692, rfl, rfl, .inr (by decide), ?_⟩
          refine S3.getT rfl ⟨_, _, rfl, rfl, .inl ⟨_, rfl, _, _, rfl, rfl, (show (0 : Int) < 4294967279 by decide), ?_⟩⟩
          refine ⟨_, _, rfl, rfl, CDivB.of (by decide) (by decide), ?_⟩
          refine ⟨.int t, rfl, _, _, rfl, rfl, ht0, ?_⟩
          exact S3.done wf0 (b' := b + 1) (by omega) (sml _) hl (Nat.le_refl _) (hr0 _ (Int.emod_nonneg _ (by omega)) (Int.emod_lt_of_pos _ ht0)) (fun _ => .int _) hq
        obtain ⟨tR, dR, hR⟩ : ∃ tR, PSs (cxOf CX0 P w K mg base nN "_law_next" (defScope s11) f cdv A outer s H E).nox ((defBody s11).drop 2) tR ∧ ∀ (C1 : Addr → Prop) (g1 : Addr) (gs1 : List Int) (H2 : Hp), St4 a ⟨H, M, C⟩ H2 C1 g1 c gs1 cs (n + 1) z → tR { nx := fun _ H' => Q .non H', rt := Q } [some (.ref a), some (.int t), none, none] H2 := by
          refine ⟨_, pss_cons (ps_if (pt_cmpR (op_neDD hr.units) (pe_dget (DL.Room.u1 hr) (pv 0) pe_str (fun _ _ => rfl)) (pe_lst pa_nil) (nomark _))
            (pss_cons (ps_asg (pe_tup (pa_cons (pe_op op_mod (mI (pe_ix ix_list (pe_dget (DL.Room.u1 hr) (pv 0) pe_str (fun _ _ => rfl)) pe_int (fun _ _ => rfl)) rfl) (pv 1)) (pa_cons (pe_op op_fdivB (mI (pe_ix ix_list (pe_dget (DL.Room.u1 hr) (pv 0) pe_str (fun _ _ => rfl)) pe_int (fun _ _ => rfl)) rfl) (pv 1)) pa_nil)))
              (pg_tup rfl (pgs_cons (pg_name (i := 2) sc11.nd rfl (.inl rfl)) (pgs_cons (pg_sub (pe_dget (DL.Room.u1 hr) (pv 0) pe_str (fun _ _ => rfl)) pe_int set_list) pgs_nil))))
            (pss_one (ps_ret (pv 2)))) pss_nil)
          (pss_cons (ps_set (i := 3) sc11.nd rfl (.inl rfl) (pe_ix ix_list (pe_dget (DL.Room.u1 hr) (pv 0) pe_str (fun _ _ => rfl)) (pe_op op_mod (mI (pe_dget (DL.Room.u1 hr) (pv 0) pe_str (fun _ _ => rfl)) rfl) (pe_callB call_len_seq (by rfl) nL PySem.boot_len (pa_cons (pe_dget (DL.Room.u1 hr) (pv 0) pe_str (fun _ _ => rfl)) pa_nil))) (fun _ _ => rfl)))
          dE), fun C1 g1 gs1 H2 S2 => ?_⟩
          refine S2.neG rfl fun H3 S3 => ?_
          cases gs1 with
          | cons x r =>
            rw [if_pos (by simp)]
            refine S3.getG rfl ⟨g1, _, 0, .int x, rfl, rfl, SqL.of S3.dg, atI_nat (j := 0) rfl, .inl ⟨x, rfl, ?_⟩⟩
            refine ⟨.int t, rfl, x, t, rfl, rfl, ht0, ?_⟩
            refine S3.getG rfl ⟨g1, _, 0, .int x, rfl, rfl, SqL.of S3.dg, atI_nat (j := 0) rfl, .inl ⟨x, rfl, ?_⟩⟩
            refine ⟨.int t, rfl, x, t, rfl, rfl, ⟨ht0, ht1⟩, ?_⟩
            refine ⟨by show 2 ≤ sizeLine; decide, fun p np => ?_⟩
            have S4 := S3.alloc (o := .tup [.int (x % t), .int (x / t)]) np
            refine ⟨p, [.int (x % t), .int (x / t)], rfl, .inl (.inl upd_same), rfl, .int (x % t), _, rfl, .int (x / t), _, rfl, ?_⟩
            refine S4.getG rfl ⟨g1, _, 0, 0, rfl, rfl, S4.dg, ix0 _ _, rfl, ?_⟩
            have S5 := S4.setG (gs' := (x / t) :: r)
            refine ⟨.int (x % t), rfl, ?_⟩
            exact S5.done wf0 (b' := b + 1) (by omega) hz hl (Nat.le_refl _) (hr0 _ (Int.emod_nonneg _ (by omega)) (Int.emod_lt_of_pos _ ht0)) (fun _ => .int _) hq
          | nil =>
            rw [if_neg (by simp)]
            have h1 : 0 ≤ (((n + 1 : Nat) : Int)) % (cs.length : Int) := Int.emod_nonneg _ (by omega)
            have h2 : (((n + 1 : Nat) : Int)) % (cs.length : Int) < cs.length := Int.emod_lt_of_pos _ (by omega)
            obtain ⟨j, hj⟩ := Int.eq_ofNat_of_zero_le h1
            have hj' : j < cs.length := by omega
            refine S3.getC rfl (S3.getT rfl (.inl ⟨_, rfl, S3.getC rfl ⟨c, cs.map V.int, rfl, .inl (SqL.of S3.dc), _, _, rfl, rfl, by rw [List.length_map]; omega, c, cs.map V.int, _, .int cs[j], rfl, rfl, SqL.of S3.dc, ?_, hE C1 g1 [] _ H3 S3⟩⟩))
            rw [List.length_map, hj]
            exact atI_nat (by rw [List.getElem?_map, List.getElem?_eq_getElem hj']; rfl)
        refine ⟨_, (pss_cons (ps_iset (set_dict (DL.Room.u1 hr)) (pv 0) pe_str (pe_op op_add (pe_dget (DL.Room.u1 hr) (pv 0) pe_str (fun _ _ => rfl)) pe_int))
          (pss_cons (ps_while PassesOwn.never (PW.pt (pw_and (pt_cmpR (op_neDD hr.units) (pe_dget (DL.Room.u1 hr) (pv 0) pe_str (fun _ _ => rfl)) (pe_lst pa_nil) (nomark _)) (pw_and1 (pt_cmpR op_eq (pe_ix ix_list (pe_dget (DL.Room.u1 hr) (pv 0) pe_str (fun _ _ => rfl)) pe_int (fun _ _ => rfl)) pe_int (nomark _)))))
            (pss_one (ps_iset (set_dict (DL.Room.u1 hr)) (pv 0) pe_str (pe_slice sl_list (pe_dget (DL.Room.u1 hr) (pv 0) pe_str (fun _ _ => rfl)) (po_some pe_int) po_none)))) dR)).nox, ?_⟩
        refine S.getT rfl ⟨n, 1, rfl, rfl, ?_⟩
        refine ⟨.ref a, rfl, a, _, rfl, S.putT (m := n + 1), ?_⟩
        have S0 := S.setD (n' := n + 1) (z' := z)
        refine ⟨fun m σ H1 => ∃ C' g' gs', m = gs'.length ∧ σ = [some (.ref a), some (.int t), none, none] ∧ St4 a ⟨H, M, C⟩ H1 C' g' c gs' cs (n + 1) z, ⟨gs.length, C, g, gs, rfl, rfl, S0⟩, fun m σ H1 hW => ?_⟩
        obtain ⟨C1, g1, gs1, rfl, rfl, S1⟩ := hW
        refine S1.neG rfl fun H2 S2 => ?_
        cases gs1 with
        | nil =>
          rw [if_neg (by simp)]
          exact iteF (hR C1 g1 [] H2 S2)
        | cons x r =>
          rw [if_pos (by simp)]
          refine S2.getG rfl ⟨g1, _, 0, .int x, rfl, rfl, SqL.of S2.dg, atI_nat (j := 0) rfl, rfl, _, rfl, ?_⟩
          refine ite2 (fun hx => ?_) (fun hx => ?_)
          · refine ⟨fun σ' H' => ∃ C' g', σ' = [some (.ref a), some (.int t), none, none] ∧ St4 a ⟨H, M, C⟩ H' C' g' c r cs (n + 1) z, fun σ' H' ⟨C', g', e, S'⟩ => ⟨r.length, by simp, C', g', r, rfl, e, S'⟩, ?_⟩
            refine S2.getG rfl ⟨1, rfl, g1, _, rfl, SqL.of S2.dg, fun p np => ?_⟩
            rw [cut1]
            refine ⟨.ref a, rfl, a, _, rfl, (S2.alloc np).putG (p := p), _, p, rfl, S2.newG (gs' := r) np⟩
          · exact hR C1 g1 (x :: r) H2 S2
abbrev s10 : Stmt := topS 10
abbrev nB : List Str := ["_law_script", "_law_cells", "_law_cell"]
theorem sc10 : FnScope nB ["_law_script"] (defScope s10) := ⟨rfl, rfl, rfl, by decide +kernel, rfl, by decide +kernel, by decide +kernel⟩
def spBegun (K : PySem.W.Frag) : Sp := fun vs H Q _ => ∃ (a0 : Addr) (ns : List Int), vs = [.ref a0] ∧ SqL K H a0 (ns.map V.int) ∧ ns.length ≤ 63 ∧
  ∀ (a g c : Addr) (gs cs : List Int) (z : Int) (H' : Hp), Same H H' → H a = none → H g = none → H c = none → g ≠ c → H' a = some (stO4 c g 0 z) → Sml z → 0 < cs.length → H' g = some (.lst (gs.map V.int)) → H' c = some (.lst (cs.map V.int)) → Q (.ref a) H'
theorem ok_begun {f : Addr} {fd : FuncData} (F : Fun K "_law_start" "_law_start" s10 f fd) (nL : mg "list" = none) (nN : mg "len" = none) : FnG P w K mg base CX0 2 f fd ["_law_script"] (spBegun K) := by
  obtain ⟨oc, od, kV, doc, pm, an, cdv, ct, osl, rfl, lk, hcd⟩ := F.ex
  refine fnG_of lk hcd sc10 (fun vs H Q E h => ?_) fun A outer s H vs Q E hgd hr h => ?_
  · obtain ⟨a0, ns, rfl, _⟩ := h
    rfl
  · obtain ⟨a0, ns, rfl, hS0, hl, hq0⟩ := h
    refine ⟨_, (pss_cons (ps_set (i := 1) sc10.nd rfl (.inl rfl) (pe_op op_cat (pe_callTy call_list_of (by rfl) nL (by decide +kernel) (pa_cons (pv 0) pa_nil)) (pe_lst (pa_cons pe_int pa_nil))))
      (pss_one (ps_ret (pe_disp (pps_cons pe_str (pv 1) (pps_cons pe_str (pe_lc rfl sc10.nd (pi_list (pv 0)) (blkOk_by (N := nB) (sc := defScope s10) (own := [("_law_cell", 2)]) (by decide +kernel))
        (fun _ _ _ _ _ => pg_name (i := 2) sc10.nd rfl (.inl rfl)) (fun _ _ _ _ _ => pts_one (pt_cmpR op_ge (pv 2) (pe_op op_pow pe_int pe_int) (nomark _))) (fun _ _ _ _ _ => pv 2)) (pps_cons pe_str pe_int (pps_cons pe_str (pe_callB call_len_seq (by rfl) nN PySem.boot_len (pa_cons (pv 1) pa_nil)) pps_nil)))) rfl rfl (by simp) (by decide))))).nox, ?_⟩
    refine ⟨.ref a0, rfl, a0, _, rfl, .inl hS0, fun l0 nl0 => ?_⟩
    have sa : Same H (upd H l0 (.lst (ns.map V.int))) := same_new nl0
    refine ⟨(show 1 ≤ sizeLine by decide), fun l1 nl1 => ?_⟩
    have sb : Same H (upd (upd H l0 (.lst (ns.map V.int))) l1 (.lst [.int 29])) := fun b o e => (same_new nl1) b o (sa b o e)
    have n01 : l0 ≠ l1 := fun e => by rw [← e, upd_same] at nl1; cases nl1
    refine ⟨l0, l1, ns.map V.int, [.int 29], rfl, rfl, by rw [upd_ne n01, upd_same], upd_same, by rw [List.length_map, sizeLine_eq]; simp; omega, fun l nl => ?_⟩
    have ecs : ns.map V.int ++ [V.int 29] = (ns ++ [29]).map V.int := by rw [List.map_append]; rfl
    rw [ecs]
    generalize hH0 : upd (upd H l0 (.lst (ns.map V.int))) l1 (.lst [.int 29]) = H0 at sb nl
    have nlH : H l = none := sb.free nl
    have hS := sb.seq hS0
    have sc : Same H0 (upd H0 l (.lst ((ns ++ [29]).map V.int))) := same_new nl
    intro p np
    have s2 : Same H0 (upd (upd H0 l (.lst ((ns ++ [29]).map V.int))) p (.dK [])) := fun b o e => (same_new np) b o (sc b o e)
    have lp : l ≠ p := fun e => by rw [← e, upd_same] at np; cases np
    have hl0 : upd (upd H0 l (.lst ((ns ++ [29]).map V.int))) p (.dK []) l = some (.lst ((ns ++ [29]).map V.int)) := by rw [upd_ne lp, upd_same]
    have hp0 : upd (upd H0 l (.lst ((ns ++ [29]).map V.int))) p (.dK []) p = some (.dK []) := upd_same
    have npH : H p = none := sb.free (sc.free np)
    refine ⟨.ref l, rfl, ?_⟩
    generalize hH1 : upd (upd H0 l (.lst ((ns ++ [29]).map V.int))) p (.dK []) = H1 at s2 hl0 hp0
    refine ⟨.ref a0, rfl, a0, rfl, ⟨_, s2.seq hS⟩, fun L nL => ⟨fun i m H' => m = ns.length - i ∧ i ≤ ns.length ∧ ∃ gs : List Int, gs.length ≤ i ∧ Same H1 H' ∧ H' L = some (.lst (gs.map V.int)), ⟨ns.length, by simp, Nat.zero_le _, [], Nat.le_refl 0, same_new nL, upd_same⟩, fun i m H2 hW => ?_⟩⟩
    obtain ⟨rfl, hi, gs, hg, sm, hL⟩ := hW
    have s3 : Same H0 H2 := fun b o e => sm b o (s2 b o e)
    by_cases hlt : i < ns.length
    · have gi : (ns.map V.int)[i]? = some (.int ns[i]) := by rw [List.getElem?_map, List.getElem?_eq_getElem hlt]; rfl
      refine .inr ⟨⟨ns.map V.int, .int ns[i], s3.seq hS, gi⟩, fun H' => ∃ gs' : List Int, gs'.length ≤ i + 1 ∧ Same H1 H' ∧ H' L = some (.lst (gs'.map V.int)), fun H' ⟨gs', h1, h2, h3⟩ => ⟨ns.length - (i + 1), by omega, rfl, hlt, gs', h1, h2, h3⟩, fun x H' hy => ?_⟩
      obtain ⟨rfl, fx⟩ := hy
      have ex : x = .int ns[i] := Option.some.inj ((fx _ (s3.seq hS)).symm.trans gi)
      subst ex
      refine ⟨rfl, .int ns[i], rfl, 10, 18, rfl, rfl, ⟨by decide, by decide, by decide⟩, _, _, rfl, rfl, _, rfl, ite2 (fun _ => ?_) (fun _ => ?_)⟩
      · refine ⟨.int ns[i], rfl, gs.map V.int, hL, by rw [List.length_map, sizeLine_eq]; omega, gs ++ [ns[i]], by rw [List.length_append]; exact Nat.succ_le_succ hg, fun b o e => ?_, by rw [upd_same, List.map_append]; rfl⟩
        rw [upd_ne (ne_of_none e nL)]
        exact sm b o e
      · exact ⟨gs, by omega, sm, hL⟩
    · refine .inl ⟨⟨_, s3.seq hS, by rw [List.length_map]; omega⟩, ?_⟩
      have Lp : L ≠ p := fun e => by rw [e, hp0] at nL; cases nL
      have Ll : L ≠ l := fun e => by rw [e, hl0] at nL; cases nL
      have nLH : H L = none := sb.free (s2.free nL)
      refine ⟨.ref l, rfl, l, (ns ++ [29]).map V.int, rfl, .inl (.inl (.inl (sm _ _ hl0))), ?_⟩
      refine ⟨sm _ _ hp0, [(.inr "cells", .ref l), (.inr "great", .ref L), (.inr "turn", .int 0), (.inr "sum", .int ((ns ++ [29]).map V.int).length)], rfl, (by show 4 ≤ 15; decide), ?_⟩
      have lz : ((ns ++ [29]).map V.int).length = ns.length + 1 := by simp
      refine hq0 p L l gs (ns ++ [29]) _ _ ?_ npH nLH nlH Ll upd_same ?_ (by simp) ?_ ?_
      · intro b o e
        have bp : b ≠ p := ne_of_none e npH
        rw [upd_ne bp]
        exact s3 b o (sb b o e)
      · rw [lz]; exact ⟨by omega, by omega⟩
      · rw [upd_ne Lp]; exact hL
      · rw [upd_ne lp]; exact sm _ _ hl0
end
end K87
/-! ### things, errors made of them -/
namespace PF
end PF
namespace K87
open PySem L2 DL TL
abbrev sp__law_next := K87.spNext
theorem small1000 {t : Int} (h : t < 2 ^ 100) : t < 2 ^ 1000 := Int.lt_trans h (by decide +kernel)
def ws__law_of (a : Addr) : WS := (wRet (wIx (wName 1) (wCall (sp__law_next a) (wCons (wName 0) (wCons (wB lenD (wCons (wName 1) wNil)) wNil)))))
def sp__law_of (a : Addr) : DL.Spec := fun as Q => ∃ ds : List D, as = [.raw (.ref a), .fz (.list ds)] ∧ 0 < ds.length ∧ ds.length ≤ 1000 ∧ ∀ d ∈ ds, Q d
theorem len__law_of (a : Addr) : ∀ as Q, sp__law_of a as Q → as.length = 2 := by rintro as Q ⟨_, rfl, _⟩; rfl
theorem ok_ws__law_of (a : Addr) : ∀ as Q, sp__law_of a as Q → ws__law_of a (env0 2 as) (endsOf Q) := by
  rintro as Q ⟨ds, rfl, h0, h1, q⟩
  refine ⟨_, rfl, _, rfl, _, rfl, .int (ds.length : Nat), rfl, (ds.length : Int), rfl, by omega, small1000 (by omega), fun r r0 r1 => ?_⟩
  obtain ⟨k, rfl⟩ := Int.eq_ofNat_of_zero_le r0
  have hk : k < ds.length := by omega
  exact ⟨ds[k], L2.atI_nat (by rw [List.getElem?_eq_getElem hk]), _, rfl, q _ (List.getElem_mem hk)⟩
/-! ### texts of plain signs -/
theorem shownAll_map {α : Type} (g : α → D) : ∀ l : List α, PyData.shownAll (l.map g) = l.map fun x => (g x).shown
  | [] => by simp [PyData.shownAll]
  | x :: r => by rw [List.map_cons, PyData.shownAll, shownAll_map g r, List.map_cons]
theorem tl_int (k : Nat) : tl (PyData.shown (.int (k : Nat))) = numL k := by
  rw [PyData.shown]
  exact tl_num k
def Plain (d : D) : Prop := ∀ c ∈ tl d.shown, c < 128
theorem shownAll_eq (ds : List D) : PyData.shownAll ds = ds.map (·.shown) := by
  have := shownAll_map (fun d : D => d) ds
  rwa [List.map_id'] at this
theorem plain_lst {ds : List D} (h : ∀ d ∈ ds, Plain d) : Plain (.list ds) := fun c hc => by
  have go : ∀ (ts : List Str) (k : Nat) (acc : Str), (∀ t ∈ ts, ∀ c ∈ tl t, c < 128) → (∀ c ∈ tl acc, c < 128) → ∀ c ∈ tl (PySem.textFrom k acc ts), c < 128 := fun ts => by
    induction ts with
    | nil => intro k acc _ h; exact h
    | cons x s ih =>
      intro k acc h1 h2
      refine ih (k + 1) _ (fun t ht => h1 t (List.mem_cons_of_mem _ ht)) fun c hc => ?_
      rw [tl_append, tl_append] at hc
      rcases List.mem_append.mp hc with hc | hc
      · rcases List.mem_append.mp hc with hc | hc
        · exact h2 c hc
        · by_cases z : k > 0
          · rw [if_pos z] at hc
            have e : tl (Str.ofString ", ") = [44, 32] := by decide +kernel
            rw [e] at hc
            simp at hc; omega
          · rw [if_neg z] at hc
            have e : tl (Str.ofString "") = [] := by decide +kernel
            rw [e] at hc; cases hc
      · exact h1 x (List.mem_cons_self ..) c hc
  rw [PyData.shown] at hc
  unfold PySem.listText at hc
  rw [tl_append] at hc
  rcases List.mem_append.mp hc with hc | hc
  · refine go _ _ _ (fun t ht => ?_) (fun c hc => ?_) c hc
    · rw [shownAll_eq] at ht
      obtain ⟨d, hd, rfl⟩ := List.mem_map.mp ht
      exact h d hd
    · have e : tl ("[" : Str) = [91] := by decide +kernel
      rw [e] at hc; simp at hc; omega
  · have e : tl ("]" : Str) = [93] := by decide +kernel
    rw [e] at hc; simp at hc; omega
theorem plain_nat (k : Nat) : Plain (.int (k : Nat)) := fun c hc => by
  rw [tl_int] at hc
  have := numL_digits k c hc
  omega
theorem Plain.sok {d : D} (h : Plain d) : PyData.strOk d.shown = true := by
  unfold PyData.strOk
  rw [← Array.all_toList, List.all_eq_true]
  intro c hc
  have := h c hc
  exact decide_eq_true (by omega)
/-- six of them -/
abbrev six (d : D) : D := .list (List.replicate 6 d)
def RepOk (d : D) : Prop := ((reprOk (six d) || ((List.replicate 6 d).all pdD && (six d).showable && decide ((six d).depth ≤ 50) && decide ((six d).shown.length ≤ sizeLine))) && PyData.strOk (six d).shown) = true
theorem RepOk.sok {d : D} (h : RepOk d) : PyData.strOk (six d).shown = true := by
  unfold RepOk at h
  rw [Bool.and_eq_true] at h
  exact h.2
theorem RepOk.ok {d : D} (h : RepOk d) : reprL [six d] = some (.str (six d).shown) := by
  unfold RepOk at h
  rw [Bool.and_eq_true] at h
  replace h := h.1
  show (if reprOk (six d) = true then some (PyData.str (six d).shown) else if ((List.replicate 6 d).all pdD && (six d).showable && decide ((six d).depth ≤ 50) && decide ((six d).shown.length ≤ sizeLine)) = true then some (PyData.str (six d).shown) else none) = _
  rw [Bool.or_eq_true] at h
  by_cases c : reprOk (six d) = true
  · rw [if_pos c]
  · rw [if_neg c, if_pos (h.resolve_left c)]
theorem rep_int (i : Nat) (h : i < 5000) : RepOk (.int (i : Nat)) := by
  have r := (rok_lst (h := 0) (n := 13) (ds := List.replicate 6 (.int (i : Nat))) fun d hd => by
    obtain rfl := List.eq_of_mem_replicate hd
    exact rok_int (by omega) (by omega)).repr (by omega) (by show 6 * (13 + 2) + 3 ≤ 16777216; decide)
  unfold reprD at r
  obtain ⟨c, _⟩ := of_if r
  unfold RepOk
  have p : PyData.strOk (six (.int (i : Nat))).shown = true := Plain.sok (plain_lst fun d hd => by
    obtain rfl := List.eq_of_mem_replicate hd
    exact plain_nat i)
  rw [show reprOk (six (.int (i : Nat))) = true from c, p]; rfl
def ws__law_thing (a : Addr) : WS := (wSeq (wSet .fz 1 (wLst (wCons (wC (.fz .none)) (wCons (wC (.fz (.int 0))) (wCons (w1 negD (wC (.fz (.int 1)))) (wCons (wC (.fz (.bool true))) (wCons (wC (.fz (.bool false))) (wCons (wC (.fz (.str ""))) (wCons (wC (.fz (.str "pairs"))) (wCons (wTup wNil) (wCons (wTup (wCons (wC (.fz (.int 1))) (wCons (wC (.fz (.int 2))) wNil))) (wCons (wLst wNil) (wCons (wLst (wCons (wC (.fz (.int 3))) wNil)) (wCons (wFrzE (wC (.nw (.dict [])))) (wCons (wFrzE (wDispS ["a"] [(wC (.fz (.int 1)))])) (wCons (w2 powD (wC (.fz (.int 10))) (wC (.fz (.int 30)))) wNil))))))))))))))))
    (wRet (wCall (sp__law_of a) (wCons (wName 0) (wCons (w2 addD (wName 1) (wLst (wCons (wCall (sp__law_next a) (wCons (wName 0) (wCons (wC (.fz (.int 5000))) wNil))) (wCons (w2 mulZ (wC (.fz (.str "z"))) (wCall (sp__law_next a) (wCons (wName 0) (wCons (wC (.fz (.int 9))) wNil)))) wNil)))) wNil)))))
def sp__law_thing (a : Addr) : DL.Spec := fun as Q => as = [.raw (.ref a)] ∧ ∀ d, RepOk d → Q d
theorem len__law_thing (a : Addr) : ∀ as Q, sp__law_thing a as Q → as.length = 1 := by rintro as Q ⟨rfl, _⟩; rfl
def ths : List D := [.none, .int 0, .int (-1), .bool true, .bool false, .str "", .str "pairs", .tuple [], .tuple [.int 1, .int 2], .list [], .list [.int 3], .dict [], .dict [(.str "a", .int 1)], .int (10 ^ 30)]
theorem rep_ths : ∀ d ∈ ths, RepOk d := by
  intro d hd
  unfold ths at hd
  simp only [List.mem_cons, List.not_mem_nil, or_false] at hd
  rcases hd with rfl | rfl | rfl | rfl | rfl | rfl | rfl | rfl | rfl | rfl | rfl | rfl | rfl | rfl <;> (unfold RepOk; decide +kernel)
theorem rep_z (k : Nat) (h : k < 9) : RepOk (.str (repS "z" k)) := by
  have : k = 0 ∨ k = 1 ∨ k = 2 ∨ k = 3 ∨ k = 4 ∨ k = 5 ∨ k = 6 ∨ k = 7 ∨ k = 8 := by omega
  rcases this with rfl | rfl | rfl | rfl | rfl | rfl | rfl | rfl | rfl <;> (unfold RepOk; decide +kernel)
theorem ok_ws__law_thing (a : Addr) : ∀ as Q, sp__law_thing a as Q → ws__law_thing a (env0 2 as) (endsOf Q) := by
  rintro as Q ⟨rfl, q⟩
  refine ⟨.int (-1), rfl, [], rfl, by decide, [.int 1, .int 2], rfl, by decide, [], rfl, by decide, [.int 3], rfl, by decide, .dict [], rfl, .int 1, rfl, .dict [(.str "a", .int 1)], rfl, ?_⟩
  refine ⟨.int (10 ^ 30), rfl, ths, rfl, by decide, _, rfl, ?_⟩
  refine ⟨_, rfl, _, rfl, _, rfl, 5000, rfl, by omega, small1000 (by omega), fun r r0 r1 => ?_⟩
  refine ⟨_, rfl, 9, rfl, by omega, small1000 (by omega), fun k k0 k1 => ?_⟩
  refine ⟨.str (repS "z" k.toNat), if_pos ⟨k0, by omega, by decide, by decide⟩, [.int r, .str (repS "z" k.toNat)], rfl, (by decide : 2 ≤ sizeLine), .list (ths ++ [.int r, .str (repS "z" k.toNat)]), rfl, ?_⟩
  refine ⟨_, rfl, (by decide : 0 < 16), (by decide : 16 ≤ 1000), fun d hd => ?_⟩
  refine ⟨d, rfl, q d ?_⟩
  rcases List.mem_append.mp hd with hd | hd
  · exact rep_ths d hd
  · rcases List.mem_cons.mp hd with rfl | hd
    · obtain ⟨i, rfl⟩ := Int.eq_ofNat_of_zero_le r0
      exact rep_int i (by omega)
    · obtain rfl := List.mem_singleton.mp hd
      exact rep_z _ (by omega)
/-! ### errors -/
abbrev nms : List Str := ["BadOrder", "BadHeap", "BadBoxes", "BadPaper", "BadText", "OutOfPlace", "TooGreat", "Nothing"]
def ws__law_all (er : Str → D → D) : WS := (wSeq (wSet .fz 1 (wLst (wCons (wMkE er "BadOrder" (wCons (wName 0) wNil)) (wCons (wMkE er "BadHeap" (wCons (wName 0) wNil)) (wCons (wMkE er "BadBoxes" (wCons (wName 0) wNil)) (wCons (wMkE er "BadPaper" (wCons (wName 0) wNil)) (wCons (wMkE er "BadText" (wCons (wName 0) wNil)) wNil)))))))
    (wRet (w2 addD (wName 1) (wLst (wCons (wMkE0 er "OutOfPlace" (wCons (wC (.fz (.str "x"))) wNil)) (wCons (wMkE er "TooGreat" (wCons (wName 0) wNil)) (wCons (wMkE0 er "Nothing" (wCons (wC (.fz (.str "y"))) wNil)) wNil)))))))
abbrev errs (er : Str → D → D) (d : D) : List D := [er "BadOrder" d, er "BadHeap" d, er "BadBoxes" d, er "BadPaper" d, er "BadText" d, er "OutOfPlace" .none, er "TooGreat" d, er "Nothing" .none]
def sp__law_all (er : Str → D → D) : DL.Spec := fun as Q => ∃ d, as = [.fz d] ∧ Q (.list (errs er d))
theorem len__law_all {er : Str → D → D} : ∀ as Q, sp__law_all er as Q → as.length = 1 := by rintro as Q ⟨_, rfl, _⟩; rfl
theorem ok_ws__law_all (er : Str → D → D) : ∀ as Q, sp__law_all er as Q → ws__law_all er (env0 2 as) (endsOf Q) := by
  rintro as Q ⟨d, rfl, q⟩
  refine ⟨_, rfl, _, d, rfl, rfl, _, rfl, _, d, rfl, rfl, _, rfl, _, d, rfl, rfl, _, rfl, _, d, rfl, rfl, _, rfl, _, d, rfl, rfl, [er "BadOrder" d, er "BadHeap" d, er "BadBoxes" d, er "BadPaper" d, er "BadText" d], rfl, (by decide : 5 ≤ sizeLine), _, rfl, ?_⟩
  exact ⟨_, rfl, _, rfl, _, rfl, _, d, rfl, rfl, _, rfl, [er "OutOfPlace" .none, er "TooGreat" d, er "Nothing" .none], rfl, (by decide : 3 ≤ sizeLine), .list (errs er d), rfl, _, rfl, q⟩
def ws__law_named (er : Str → D → D) : WS := (wSeq (wSet .fz 1 (wLst (wCons (wMkE er "BadOrder" (wCons (wName 0) wNil)) (wCons (wMkE er "BadHeap" (wCons (wName 0) wNil)) (wCons (wMkE er "BadBoxes" (wCons (wName 0) wNil)) (wCons (wMkE er "BadPaper" (wCons (wName 0) wNil)) wNil))))))
    (wRet (w2 addD (wName 1) (wLst (wCons (wMkE er "BadText" (wCons (wName 0) wNil)) (wCons (wMkE er "TooGreat" (wCons (wName 0) wNil)) wNil))))))
abbrev nmd (er : Str → D → D) (d : D) : List D := [er "BadOrder" d, er "BadHeap" d, er "BadBoxes" d, er "BadPaper" d, er "BadText" d, er "TooGreat" d]
def sp__law_named (er : Str → D → D) : DL.Spec := fun as Q => ∃ d, as = [.fz d] ∧ Q (.list (nmd er d))
theorem len__law_named {er : Str → D → D} : ∀ as Q, sp__law_named er as Q → as.length = 1 := by rintro as Q ⟨_, rfl, _⟩; rfl
theorem ok_ws__law_named (er : Str → D → D) : ∀ as Q, sp__law_named er as Q → ws__law_named er (env0 2 as) (endsOf Q) := by
  rintro as Q ⟨d, rfl, q⟩
  refine ⟨_, rfl, _, d, rfl, rfl, _, rfl, _, d, rfl, rfl, _, rfl, _, d, rfl, rfl, _, rfl, _, d, rfl, rfl, [er "BadOrder" d, er "BadHeap" d, er "BadBoxes" d, er "BadPaper" d], rfl, (by decide : 4 ≤ sizeLine), _, rfl, ?_⟩
  exact ⟨_, rfl, _, rfl, _, d, rfl, rfl, _, rfl, _, d, rfl, rfl, [er "BadText" d, er "TooGreat" d], rfl, (by decide : 2 ≤ sizeLine), .list (nmd er d), rfl, _, rfl, q⟩
def ws__law_fields (er : Str → D → D) : WS := (wRet (wLst (wCons (wFldE er ["BadOrder", "BadPaper"] (wIx (wName 0) (wC (.fz (.int 0))))) (wCons (wFldE er ["BadHeap", "BadBoxes"] (wIx (wName 0) (wC (.fz (.int 1))))) (wCons (wFldE er ["BadHeap", "BadBoxes"] (wIx (wName 0) (wC (.fz (.int 2))))) (wCons (wFldE er ["BadOrder", "BadPaper"] (wIx (wName 0) (wC (.fz (.int 3))))) (wCons (wFldE er ["BadText"] (wIx (wName 0) (wC (.fz (.int 4))))) (wCons (wFldE er ["TooGreat"] (wIx (wName 0) (wC (.fz (.int 5))))) wNil))))))))
def sp__law_fields (er : Str → D → D) : DL.Spec := fun as Q => ∃ d, as = [.fz (.list (nmd er d))] ∧ Q (six d)
theorem len__law_fields {er : Str → D → D} : ∀ as Q, sp__law_fields er as Q → as.length = 1 := by rintro as Q ⟨_, rfl, _⟩; rfl
theorem ok_ws__law_fields (er : Str → D → D) : ∀ as Q, sp__law_fields er as Q → ws__law_fields er (env0 1 as) (endsOf Q) := by
  rintro as Q ⟨d, rfl, q⟩
  refine ⟨_, rfl, _, rfl, "BadOrder", d, by simp, rfl, _, rfl, _, rfl, "BadHeap", d, by simp, rfl, _, rfl, _, rfl, "BadBoxes", d, by simp, rfl, _, rfl, _, rfl, "BadPaper", d, by simp, rfl, _, rfl, _, rfl, "BadText", d, by simp, rfl, _, rfl, _, rfl, "TooGreat", d, by simp, rfl, ?_⟩
  exact ⟨[d, d, d, d, d, d], rfl, (by decide : 6 ≤ sizeLine), _, rfl, q⟩
/-! ### whose errors they are -/
def clss : List Str := nms ++ (["ValueError", "OverflowError", "LookupError", "KeyError", "IndexError", "RuntimeError"] : List Str)
def marksB (nm : Str) : List Bool := clss.map fun c => isaE nm c
abbrev marks (nm : Str) : D := .list ((marksB nm).map PyData.bool)
def ws__law_marks (er : Str → D → D) : WS := (wSeq (wSet .fz 1 (wLst (wCons (wIsE er ["BadOrder", "BadHeap", "BadBoxes", "BadPaper", "BadText", "OutOfPlace", "TooGreat", "Nothing"] DL.isaE "BadOrder" (wName 0)) (wCons (wIsE er ["BadOrder", "BadHeap", "BadBoxes", "BadPaper", "BadText", "OutOfPlace", "TooGreat", "Nothing"] DL.isaE "BadHeap" (wName 0)) (wCons (wIsE er ["BadOrder", "BadHeap", "BadBoxes", "BadPaper", "BadText", "OutOfPlace", "TooGreat", "Nothing"] DL.isaE "BadBoxes" (wName 0)) wNil)))))
    (wSeq (wSet .fz 1 (w2 addD (wName 1) (wLst (wCons (wIsE er ["BadOrder", "BadHeap", "BadBoxes", "BadPaper", "BadText", "OutOfPlace", "TooGreat", "Nothing"] DL.isaE "BadPaper" (wName 0)) (wCons (wIsE er ["BadOrder", "BadHeap", "BadBoxes", "BadPaper", "BadText", "OutOfPlace", "TooGreat", "Nothing"] DL.isaE "BadText" (wName 0)) wNil)))))
    (wSeq (wSet .fz 1 (w2 addD (wName 1) (wLst (wCons (wIsE er ["BadOrder", "BadHeap", "BadBoxes", "BadPaper", "BadText", "OutOfPlace", "TooGreat", "Nothing"] DL.isaE "OutOfPlace" (wName 0)) (wCons (wIsE er ["BadOrder", "BadHeap", "BadBoxes", "BadPaper", "BadText", "OutOfPlace", "TooGreat", "Nothing"] DL.isaE "TooGreat" (wName 0)) wNil)))))
    (wSeq (wSet .fz 1 (w2 addD (wName 1) (wLst (wCons (wIsE er ["BadOrder", "BadHeap", "BadBoxes", "BadPaper", "BadText", "OutOfPlace", "TooGreat", "Nothing"] DL.isaE "Nothing" (wName 0)) (wCons (wIsE er ["BadOrder", "BadHeap", "BadBoxes", "BadPaper", "BadText", "OutOfPlace", "TooGreat", "Nothing"] DL.isaE "ValueError" (wName 0)) wNil)))))
    (wSeq (wSet .fz 1 (w2 addD (wName 1) (wLst (wCons (wIsE er ["BadOrder", "BadHeap", "BadBoxes", "BadPaper", "BadText", "OutOfPlace", "TooGreat", "Nothing"] DL.isaE "OverflowError" (wName 0)) (wCons (wIsE er ["BadOrder", "BadHeap", "BadBoxes", "BadPaper", "BadText", "OutOfPlace", "TooGreat", "Nothing"] DL.isaE "LookupError" (wName 0)) wNil)))))
    (wRet (w2 addD (wName 1) (wLst (wCons (wIsE er ["BadOrder", "BadHeap", "BadBoxes", "BadPaper", "BadText", "OutOfPlace", "TooGreat", "Nothing"] DL.isaE "KeyError" (wName 0)) (wCons (wIsE er ["BadOrder", "BadHeap", "BadBoxes", "BadPaper", "BadText", "OutOfPlace", "TooGreat", "Nothing"] DL.isaE "IndexError" (wName 0)) (wCons (wIsE er ["BadOrder", "BadHeap", "BadBoxes", "BadPaper", "BadText", "OutOfPlace", "TooGreat", "Nothing"] DL.isaE "RuntimeError" (wName 0)) wNil)))))))))))
def sp__law_marks (er : Str → D → D) : DL.Spec := fun as Q => ∃ nm d, nm ∈ nms ∧ as = [.fz (er nm d)] ∧ Q (marks nm)
theorem len__law_marks {er : Str → D → D} : ∀ as Q, sp__law_marks er as Q → as.length = 1 := by rintro as Q ⟨_, _, _, rfl, _⟩; rfl
theorem ok_ws__law_marks (er : Str → D → D) : ∀ as Q, sp__law_marks er as Q → ws__law_marks er (env0 2 as) (endsOf Q) := by
  rintro as Q ⟨nm, d, hn, rfl, q⟩
  refine ⟨_, rfl, nm, d, hn, rfl, _, rfl, nm, d, hn, rfl, _, rfl, nm, d, hn, rfl, _, rfl, (by decide : 3 ≤ sizeLine), _, rfl, ?_⟩
  refine ⟨_, rfl, _, rfl, nm, d, hn, rfl, _, rfl, nm, d, hn, rfl, _, rfl, (by decide : 2 ≤ sizeLine), _, rfl, _, rfl, ?_⟩
  refine ⟨_, rfl, _, rfl, nm, d, hn, rfl, _, rfl, nm, d, hn, rfl, _, rfl, (by decide : 2 ≤ sizeLine), _, rfl, _, rfl, ?_⟩
  refine ⟨_, rfl, _, rfl, nm, d, hn, rfl, _, rfl, nm, d, hn, rfl, _, rfl, (by decide : 2 ≤ sizeLine), _, rfl, _, rfl, ?_⟩
  refine ⟨_, rfl, _, rfl, nm, d, hn, rfl, _, rfl, nm, d, hn, rfl, _, rfl, (by decide : 2 ≤ sizeLine), _, rfl, _, rfl, ?_⟩
  exact ⟨_, rfl, _, rfl, nm, d, hn, rfl, _, rfl, nm, d, hn, rfl, _, rfl, nm, d, hn, rfl, _, rfl, (by decide : 3 ≤ sizeLine), _, rfl, _, rfl, q⟩
/-! ### due, raised, caught -/
theorem ifF {b : Bool} {A B : Prop} (h : b = false) (x : B) : if b = true then A else B := by subst h; rw [if_neg Bool.false_ne_true]; exact x
theorem ifT {b : Bool} {A B : Prop} (h : b = true) (x : A) : if b = true then A else B := by subst h; rw [if_pos rfl]; exact x
def nmOf (k : Nat) : Str := nms.getD k ""
theorem lt8 {k : Nat} (h : k < 8) : k = 0 ∨ k = 1 ∨ k = 2 ∨ k = 3 ∨ k = 4 ∨ k = 5 ∨ k = 6 ∨ k = 7 := by omega
def ws__law_due : WS := (wSeq (wSet .fz 1 (wIf (wTest (w2 ltD (wName 0) (wC (.fz (.int 6))))) (wC (.fz (.int 8))) (wIf (wTest (w2 eqD (wName 0) (wC (.fz (.int 6))))) (wC (.fz (.int 9))) (wC (.fz (.int 10))))))
    (wRet (wLc (wRng rng1 (wCons (wC (.fz (.int 14))) wNil)) (gN 2) wYes (w2 inV' (wName 2) (wTup (wCons (wName 0) (wCons (wName 1) wNil)))) [2])))
def sp__law_due : DL.Spec := fun as Q => ∃ k : Nat, k < 8 ∧ as = [.fz (.int (k : Nat))] ∧ Q (marks (nmOf k))
theorem len__law_due : ∀ as Q, sp__law_due as Q → as.length = 1 := by rintro as Q ⟨_, _, rfl, _⟩; rfl
theorem in2 (x y d : Int) : inV' (.int d) (.tuple [.int x, .int y]) = some (.bool (x == d || y == d)) := by
  show (if SeqAt.shaped (.int d) = true ∧ SeqAt.shaped (.tuple [.int x, .int y]) = true then some (([.int x, .int y] : List D).any fun z => z.eqv (.int d)) else none).map (fun k => PyData.bool k) = _
  rw [if_pos ⟨rfl, rfl⟩]
  simp [List.any, PyData.eqv]
theorem due_lc (x y : Int) (P : Dv → Prop) (e1 : Ev) (he : e1 = [.fz (.int x), .fz (.int y), .no]) : ∀ (ds : List Int) (acc : List D), acc.length + ds.length ≤ 1000 → P (.nw (.list (acc ++ ds.map fun d => .bool (x == d || y == d)))) →
    wLcL (gN 2) wYes (w2 inV' (wName 2) (wTup (wCons (wName 0) (wCons (wName 1) wNil)))) e1 P (ds.map .int) acc
  | [], acc, _, p => by
    rw [List.map_nil, List.append_nil] at p
    exact p
  | d :: ds, acc, h, p => by
    subst he
    refine ⟨_, rfl, _, rfl, _, rfl, _, rfl, [.int x, .int y], rfl, (by decide : 2 ≤ sizeLine), .bool (x == d || y == d), in2 x y d, .bool (x == d || y == d), rfl, by rw [sizeLine_eq]; simp only [List.length_cons] at h; omega, ?_⟩
    refine due_lc x y P _ rfl ds _ (by simp only [List.length_append, List.length_cons, List.length_nil] at h ⊢; omega) ?_
    rw [List.append_assoc]; exact p
theorem due_end (x y : Int) (P : D → Prop) (h : P (.list ((List.range 14).map fun j : Nat => .bool (x == (j : Int) || y == (j : Int))))) : (wRet (wLc (wRng rng1 (wCons (wC (.fz (.int 14))) wNil)) (gN 2) wYes (w2 inV' (wName 2) (wTup (wCons (wName 0) (wCons (wName 1) wNil)))) [2])) [.fz (.int x), .fz (.int y), .no] (endsOf P) := by
  refine ⟨_, rfl, ?_⟩
  exact due_lc x y _ _ rfl ((List.range 14).map fun j : Nat => (j : Int)) [] (by simp) ⟨_, rfl, h⟩
theorem ok_ws__law_due : ∀ as Q, sp__law_due as Q → ws__law_due (env0 3 as) (endsOf Q) := by
  rintro as Q ⟨k, hk, rfl, q⟩
  rcases lt8 hk with rfl | rfl | rfl | rfl | rfl | rfl | rfl | rfl
  all_goals refine ⟨_, rfl, _, rfl, _, rfl, ?_⟩
  all_goals first | exact ifT rfl ⟨_, rfl, due_end _ _ _ q⟩ | exact ifF rfl ⟨_, rfl, _, rfl, _, rfl, ifT rfl ⟨_, rfl, due_end _ _ _ q⟩⟩ | exact ifF rfl ⟨_, rfl, _, rfl, _, rfl, ifF rfl ⟨_, rfl, due_end _ _ _ q⟩⟩
def wsx__law_raised (Ex : EX) : WS := (wSeq (wIfS (wTest (w2 eqD (wName 0) (wC (.fz (.int 0))))) (wRaise Ex "BadOrder" (wName 1)) wNext)
    (wSeq (wIfS (wTest (w2 eqD (wName 0) (wC (.fz (.int 1))))) (wRaise Ex "BadHeap" (wName 1)) wNext)
    (wSeq (wIfS (wTest (w2 eqD (wName 0) (wC (.fz (.int 2))))) (wRaise Ex "BadBoxes" (wName 1)) wNext)
    (wSeq (wIfS (wTest (w2 eqD (wName 0) (wC (.fz (.int 3))))) (wRaise Ex "BadPaper" (wName 1)) wNext)
    (wSeq (wIfS (wTest (w2 eqD (wName 0) (wC (.fz (.int 4))))) (wRaise Ex "BadText" (wName 1)) wNext)
    (wSeq (wIfS (wTest (w2 eqD (wName 0) (wC (.fz (.int 5))))) (wRaise0 Ex "OutOfPlace" (wC (.fz (.str "x")))) wNext)
    (wSeq (wIfS (wTest (w2 eqD (wName 0) (wC (.fz (.int 6))))) (wRaise Ex "TooGreat" (wName 1)) wNext)
    (wRaise0 Ex "Nothing" (wC (.fz (.str "y")))))))))))
def spx__law_raised : DL.SpecX := fun as Q E => ∃ (k : Nat) (d : D), k < 8 ∧ as = [.fz (.int (k : Nat)), .fz d] ∧ E ⟨nmOf k, if k = 5 ∨ k = 7 then .none else d⟩
theorem lenx__law_raised : ∀ as Q E, spx__law_raised as Q E → as.length = 2 := by rintro as Q E ⟨_, _, _, rfl, _⟩; rfl
theorem okx_ws__law_raised : ∀ as Q E, spx__law_raised as Q E → wsx__law_raised (fun _ x => E x) (env0 2 as) (endsOf Q) := by
  rintro as Q E ⟨k, d, hk, rfl, q⟩
  rcases lt8 hk with rfl | rfl | rfl | rfl | rfl | rfl | rfl | rfl
  · exact ⟨_, rfl, _, rfl, _, rfl, ifT rfl ⟨_, rfl, _, rfl, q⟩⟩
  · exact ⟨_, rfl, _, rfl, _, rfl, ifF rfl ⟨_, rfl, _, rfl, _, rfl, ifT rfl ⟨_, rfl, _, rfl, q⟩⟩⟩
  · exact ⟨_, rfl, _, rfl, _, rfl, ifF rfl ⟨_, rfl, _, rfl, _, rfl, ifF rfl ⟨_, rfl, _, rfl, _, rfl, ifT rfl ⟨_, rfl, _, rfl, q⟩⟩⟩⟩
  · exact ⟨_, rfl, _, rfl, _, rfl, ifF rfl ⟨_, rfl, _, rfl, _, rfl, ifF rfl ⟨_, rfl, _, rfl, _, rfl, ifF rfl ⟨_, rfl, _, rfl, _, rfl, ifT rfl ⟨_, rfl, _, rfl, q⟩⟩⟩⟩⟩
  · exact ⟨_, rfl, _, rfl, _, rfl, ifF rfl ⟨_, rfl, _, rfl, _, rfl, ifF rfl ⟨_, rfl, _, rfl, _, rfl, ifF rfl ⟨_, rfl, _, rfl, _, rfl, ifF rfl ⟨_, rfl, _, rfl, _, rfl, ifT rfl ⟨_, rfl, _, rfl, q⟩⟩⟩⟩⟩⟩
  · exact ⟨_, rfl, _, rfl, _, rfl, ifF rfl ⟨_, rfl, _, rfl, _, rfl, ifF rfl ⟨_, rfl, _, rfl, _, rfl, ifF rfl ⟨_, rfl, _, rfl, _, rfl, ifF rfl ⟨_, rfl, _, rfl, _, rfl, ifF rfl ⟨_, rfl, _, rfl, _, rfl, ifT rfl q⟩⟩⟩⟩⟩⟩
  · exact ⟨_, rfl, _, rfl, _, rfl, ifF rfl ⟨_, rfl, _, rfl, _, rfl, ifF rfl ⟨_, rfl, _, rfl, _, rfl, ifF rfl ⟨_, rfl, _, rfl, _, rfl, ifF rfl ⟨_, rfl, _, rfl, _, rfl, ifF rfl ⟨_, rfl, _, rfl, _, rfl, ifF rfl ⟨_, rfl, _, rfl, _, rfl, ifT rfl ⟨_, rfl, _, rfl, q⟩⟩⟩⟩⟩⟩⟩⟩
  · exact ⟨_, rfl, _, rfl, _, rfl, ifF rfl ⟨_, rfl, _, rfl, _, rfl, ifF rfl ⟨_, rfl, _, rfl, _, rfl, ifF rfl ⟨_, rfl, _, rfl, _, rfl, ifF rfl ⟨_, rfl, _, rfl, _, rfl, ifF rfl ⟨_, rfl, _, rfl, _, rfl, ifF rfl ⟨_, rfl, _, rfl, _, rfl, ifF rfl q⟩⟩⟩⟩⟩⟩⟩
end K87
/-! ### caught errors, the law -/
namespace K87
open PySem L2 DL
theorem hds_t {EO : EOf} {Ex : EX} {De : DEnds} {m : Str → Bool} {oi : Option (Nat × Option Nat)} {ts : Addr → Xd → WS} {r : List HdX} {env : Ev} {x : Xd} (h : m x.nm = true) (w : wSuiteV EO ts oi x env De) : wHdsV EO Ex De ((m, oi, ts) :: r) env x := by
  show if m x.nm = true then wSuiteV EO ts oi x env De else wHdsV EO Ex De r env x
  rw [if_pos h]; exact w
theorem hds_f {EO : EOf} {Ex : EX} {De : DEnds} {m : Str → Bool} {oi : Option (Nat × Option Nat)} {ts : Addr → Xd → WS} {r : List HdX} {env : Ev} {x : Xd} (h : m x.nm = false) (w : wHdsV EO Ex De r env x) : wHdsV EO Ex De ((m, oi, ts) :: r) env x := by
  show if m x.nm = true then wSuiteV EO ts oi x env De else wHdsV EO Ex De r env x
  rw [if_neg (by rw [h]; exact Bool.false_ne_true)]; exact w
def ws__law_caught (er : Str → D → D) : WS := wAllE fun EO => (wSeq (wSet .fz 2 (wLst wNil))
    (wSeq (wTryV EO (fun Ex1 => (wDrop (wCallX spx__law_raised Ex1 (wCons (wName 0) (wCons (wName 1) wNil))))) ((DL.mts ["BadOrder", "BadHeap", "BadBoxes", "BadPaper", "BadText"], some (3, none), fun ea ex => (wSet .fz 2 (wCallM er (sp__law_marks er) 3 ea ex))) :: ((DL.mts ["OutOfPlace", "TooGreat", "Nothing"], some (3, none), fun ea ex => (wSet .fz 2 (wCallM er (sp__law_marks er) 3 ea ex))) :: [])) exNo)
    (wRet (wName 2))))
def sp__law_caught (er : Str → D → D) : DL.Spec := fun as Q => ∃ (k : Nat) (d : D), k < 8 ∧ as = [.fz (.int (k : Nat)), .fz d] ∧ Q (marks (nmOf k))
theorem len__law_caught {er : Str → D → D} : ∀ as Q, sp__law_caught er as Q → as.length = 2 := by rintro as Q ⟨_, _, _, rfl, _⟩; rfl
theorem ok_ws__law_caught (er : Str → D → D) : ∀ as Q, sp__law_caught er as Q → ws__law_caught er (env0 4 as) (endsOf Q) := by
  rintro as Q ⟨k, d, hk, rfl, q⟩
  intro EO
  refine ⟨_, rfl, Nat.zero_le _, _, rfl, ?_⟩
  refine ⟨_, rfl, _, rfl, k, d, hk, rfl, ?_⟩
  rcases lt8 hk with rfl | rfl | rfl | rfl | rfl | rfl | rfl | rfl
  · exact hds_t (by rfl) fun a => ⟨rfl, "BadOrder", _, by simp, rfl, marksB "BadOrder", rfl, _, rfl, _, rfl, _, rfl, q⟩
  · exact hds_t (by rfl) fun a => ⟨rfl, "BadHeap", _, by simp, rfl, marksB "BadHeap", rfl, _, rfl, _, rfl, _, rfl, q⟩
  · exact hds_t (by rfl) fun a => ⟨rfl, "BadBoxes", _, by simp, rfl, marksB "BadBoxes", rfl, _, rfl, _, rfl, _, rfl, q⟩
  · exact hds_t (by rfl) fun a => ⟨rfl, "BadPaper", _, by simp, rfl, marksB "BadPaper", rfl, _, rfl, _, rfl, _, rfl, q⟩
  · exact hds_t (by rfl) fun a => ⟨rfl, "BadText", _, by simp, rfl, marksB "BadText", rfl, _, rfl, _, rfl, _, rfl, q⟩
  · exact hds_f (by rfl) (hds_t (by rfl) fun a => ⟨rfl, "OutOfPlace", _, by simp, rfl, marksB "OutOfPlace", rfl, _, rfl, _, rfl, _, rfl, q⟩)
  · exact hds_f (by rfl) (hds_t (by rfl) fun a => ⟨rfl, "TooGreat", _, by simp, rfl, marksB "TooGreat", rfl, _, rfl, _, rfl, _, rfl, q⟩)
  · exact hds_f (by rfl) (hds_t (by rfl) fun a => ⟨rfl, "Nothing", _, by simp, rfl, marksB "Nothing", rfl, _, rfl, _, rfl, _, rfl, q⟩)
def ws_law (er : Str → D → D) (a a0 : Addr) (n : Nat) : WS := (wSeq (wForI (wRng rng1 (wCons (w2 addD (wC (.fz (.int 2))) (wB minD (wCons (wLenS 0 a0 n) (wCons (wC (.fz (.int 8))) wNil)))) wNil)) (gN 2) (wSeq (wSet .fz 3 (wCall (sp__law_thing a) (wCons (wName 1) wNil)))
    (wSeq (wSet .fz 4 (wCall (sp__law_all er) (wCons (wName 3) wNil)))
    (wSeq (wSet .fz 5 (wB reprL (wCons (w2 mulD (wLst (wCons (wName 3) wNil)) (wC (.fz (.int 6)))) wNil)))
    (wSeq (wSet .fz 6 (wLst (wCons (wCall (sp__law_fields er) (wCons (w2 addD (wSl (wName 4) wNoPart (wPart (wC (.fz (.int 5))))) (wLst (wCons (wIx (wName 4) (wC (.fz (.int 6)))) wNil))) wNil)) (wCons (wCall (sp__law_fields er) (wCons (wCall (sp__law_named er) (wCons (wName 3) wNil)) wNil)) wNil))))
    (wSeq (wIfS (wTest (w2 neD (wLc (wSrc (wName 6)) (gN 7) wYes (wB reprL (wCons (wName 7) wNil)) [7]) (wLst (wCons (wName 5) (wCons (wName 5) wNil))))) (wRet (wC (.fz (.bool false)))) wNext)
    (wForI (wEnum (wCons (wName 4) wNil)) (gTup' 2 (gCons' (gN 8) (gCons' (gN 9) gNil'))) (wSeq (wSet .fz 6 (wLst (wCons (wCall (sp__law_marks er) (wCons (wName 9) wNil)) (wCons (wCall (sp__law_caught er) (wCons (wName 8) (wCons (wName 3) wNil))) wNil))))
    (wIfS (wTest (w2 neD (wName 6) (w2 mulD (wLst (wCons (wCall sp__law_due (wCons (wName 8) wNil)) wNil)) (wC (.fz (.int 2)))))) (wRet (wC (.fz (.bool false)))) wNext)))))))))
    (wRet (wC (.fz (.bool true)))))
theorem ne_tt (t : Str) (ht : PyData.strOk t = true) : neD (.list [.str t, .str t]) (.list [.str t, .str t]) = some (.bool false) := by
  have h : SeqAt.shaped (.list [.str t, .str t]) = true := by simp [SeqAt.shaped, PyData.canLay0, PyData.canLayAll0, PyData.depth, PyData.depthAll, ht]
  have h2 : PyData.canLay0 (.list [.str t, .str t]) = true := by simp [PyData.canLay0, PyData.canLayAll0, ht]
  unfold neD
  rw [if_pos ⟨h, h⟩, SeqAt.eqv_refl _ h2]; rfl
theorem ne_mm (k : Nat) (hk : k < 8) : neD (.list [marks (nmOf k), marks (nmOf k)]) (.list [marks (nmOf k), marks (nmOf k)]) = some (.bool false) := by
  rcases lt8 hk with rfl | rfl | rfl | rfl | rfl | rfl | rfl | rfl <;> rfl
theorem nof {A B : Prop} (b : B) : (fun k : Bool => if k = true then A else B) false := b
def lp_in (er : Str → D → D) : WS := (wSeq
                (wSet Kp.fz 6
                  (wLst
                    (wCons (wCall (sp__law_marks er) (wCons (wName 9) wNil))
                      (wCons (wCall (sp__law_caught er) (wCons (wName 8) (wCons (wName 3) wNil))) wNil))))
                (wIfS
                  (wTest
                    (w2 neD (wName 6)
                      (w2 mulD (wLst (wCons (wCall sp__law_due (wCons (wName 8) wNil)) wNil))
                        (wC (Dv.fz (PyData.int 2))))))
                  (wRet (wC (Dv.fz (PyData.bool false)))) wNext))
def evW (a0 a : Addr) (s2 s3 s4 s5 s6 s7 s8 s9 : Sl) : Ev := [.raw (.ref a0), .raw (.ref a), s2, s3, s4, s5, s6, s7, s8, s9]
theorem ok_ws_law (er : Str → D → D) : ∀ (a a0 : Addr) (n : Nat), n ≤ 63 → ws_law er a a0 n (lawEnv a0 a 8) lawEnds := by
  intro a a0 n hn
  refine ⟨rfl, .int (if (8 : Int) < (n : Int) then (8 : Int) else (n : Int)), rfl, .int (2 + (if (8 : Int) < (n : Int) then (8 : Int) else (n : Int)) : Int), rfl, ?_⟩
  have hj : -(2 ^ 62) ≤ (2 + (if (8 : Int) < (n : Int) then (8 : Int) else (n : Int)) : Int) ∧ (2 + (if (8 : Int) < (n : Int) then (8 : Int) else (n : Int)) : Int) < 2 ^ 62 := by
    constructor <;> (split <;> omega)
  generalize (2 + (if (8 : Int) < (n : Int) then (8 : Int) else (n : Int)) : Int) = j at hj ⊢
  refine ⟨_, if_pos hj, ?_⟩
  refine wFor_inv (fun env => ∃ s2 s3 s4 s5 s6 s7 s8 s9, env = evW a0 a s2 s3 s4 s5 s6 s7 s8 s9) ?_ _ ?_ _ ⟨_, _, _, _, _, _, _, _, rfl⟩
  · rintro _ ⟨s2, s3, s4, s5, s6, s7, s8, s9, rfl⟩
    rfl
  · rintro lap hlap _ De' ⟨s2, s3, s4, s5, s6, s7, s8, s9, rfl⟩ hrt hnx hct
    refine ⟨_, rfl, ?_⟩
    refine ⟨_, rfl, rfl, fun d hd => ⟨_, rfl, ?_⟩⟩
    obtain ⟨t, ht, hs⟩ : ∃ t : Str, reprL [six d] = some (.str t) ∧ PyData.strOk t = true := ⟨_, hd.ok, hd.sok⟩
    refine ⟨_, rfl, d, rfl, _, rfl, ?_⟩
    refine ⟨_, rfl, [d], rfl, (by decide : 1 ≤ sizeLine), six d, rfl, _, ht, _, rfl, ?_⟩
    refine ⟨_, rfl, 5, rfl, _, rfl, _, rfl, _, rfl, _, rfl, (by decide : 1 ≤ sizeLine), _, rfl, d, rfl, ?_⟩
    refine ⟨_, rfl, d, rfl, d, rfl, [six d, six d], rfl, (by decide : 2 ≤ sizeLine), _, rfl, ?_⟩
    refine ⟨_, rfl, [six d, six d], rfl, _, rfl, _, rfl, _, ht, _, rfl, (by decide : 0 < sizeLine), _, rfl, _, rfl, _, ht, _, rfl, (by decide : 1 < sizeLine), _, rfl, _, rfl, [.str t, .str t], rfl, (by decide : 2 ≤ sizeLine), .bool false, ne_tt t hs, _, rfl, ?_⟩
    refine nof ?_
    refine ⟨_, rfl, _, rfl, ?_⟩
    refine wFor_inv (fun env => ∃ s6 s7 s8 s9, env = evW a0 a (.fz lap) (.fz d) (.fz (.list (errs er d))) (.fz (.str t)) s6 s7 s8 s9) ?_ _ ?_ _ ⟨_, _, _, _, rfl⟩
    · rintro _ ⟨s6, s7, s8, s9, rfl⟩
      exact hnx _ ⟨_, _, _, _, _, _, _, _, rfl⟩
    · intro p hp e De2 he hrt2 hnx2 hct2
      obtain ⟨s6, s7, s8, s9, rfl⟩ := he
      have go : ∀ (k : Nat) (dd : D), k < 8 → p = .tuple [.int (k : Nat), er (nmOf k) dd] → nmOf k ∈ nms → ∃ env', gTup' 2 (gCons' (gN 8) (gCons' (gN 9) gNil')) p (evW a0 a (.fz lap) (.fz d) (.fz (.list (errs er d))) (.fz (.str t)) s6 s7 s8 s9) = some env' ∧ lp_in er env' De2 := by
        rintro k dd hk rfl hm
        refine ⟨_, rfl, ?_⟩
        refine ⟨_, rfl, nmOf k, dd, hm, rfl, _, rfl, _, rfl, k, d, hk, rfl, [marks (nmOf k), marks (nmOf k)], rfl, (by decide : 2 ≤ sizeLine), _, rfl, ?_⟩
        refine ⟨_, rfl, _, rfl, k, hk, rfl, [marks (nmOf k)], rfl, (by decide : 1 ≤ sizeLine), .list [marks (nmOf k), marks (nmOf k)], rfl, .bool false, ne_mm k hk, _, rfl, ?_⟩
        exact nof (hnx2 _ ⟨_, _, _, _, rfl⟩)
      have hp' : p ∈ ([.tuple [.int (0 : Nat), er (nmOf 0) d], .tuple [.int (1 : Nat), er (nmOf 1) d], .tuple [.int (2 : Nat), er (nmOf 2) d], .tuple [.int (3 : Nat), er (nmOf 3) d], .tuple [.int (4 : Nat), er (nmOf 4) d], .tuple [.int (5 : Nat), er (nmOf 5) .none], .tuple [.int (6 : Nat), er (nmOf 6) d], .tuple [.int (7 : Nat), er (nmOf 7) .none]] : List D) := hp
      simp only [List.mem_cons, List.not_mem_nil, or_false] at hp'
      rcases hp' with h | h | h | h | h | h | h | h
      · exact go 0 d (by decide) h (by decide)
      · exact go 1 d (by decide) h (by decide)
      · exact go 2 d (by decide) h (by decide)
      · exact go 3 d (by decide) h (by decide)
      · exact go 4 d (by decide) h (by decide)
      · exact go 5 .none (by decide) h (by decide)
      · exact go 6 d (by decide) h (by decide)
      · exact go 7 .none (by decide) h (by decide)
end K87
set_option maxHeartbeats 2000000
namespace K87
open PySem PySem.W PySem.Calls PyProof.Rows PySem.HandSPX PySem.EXN
abbrev s1 : Stmt := topS 1
section
variable {P : Program} {w : World} {A : Around} {E : Value → Shared → Prop} {R : Result → Shared → Prop} {s : Shared} {K : Frag} {mg : Str → Option Value} {C fI : Addr} 
theorem init_BadOrder (T : EXN.Txt P K mg "BadOrder" "BadOrder.__init__" s1 C fI) {x t0 : Addr} {v : Value} (X : K.In s.heap) (hlim : s.heap.NoLimit) (hg : s.heap.Ns mainGlobals mg) (hb : ∃ mb, s.heap.Ns builtinsNs mb ∧ ∀ x : Str, x ≠ "__name__" → mb x = bootBuiltins x)
    (hx : s.heap.get? x = some (excO C t0)) (hnx : K.lookup x = none) (hroom : A.depth < recursionLimit) (noN : findIn K (.ref C) "part" = some none)
    (hq : ∀ h' tk dx, InitF s.heap h' x C dx "part" v → R (.ok (.ret .none)) { s with heap := h', toks := tk }) :
    codeAny (model P w) A (.call (.ref fI) ⟨[.ref x, v], []⟩) R s := by
  obtain ⟨oc, od, doc, pm, an, ct, osl, cda, cc, ho, hcd, ⟨ccl, cdd, vs, ccs, file, tf, hco, hvs, hfi⟩, cl, cld, csl, hce⟩ := T.fn
  obtain ⟨B, nw, ini, tail, xb, vC, sI, n, q, N, bs, sn, sub, ab, col, dd, k0, k1, k2, k3, k5, hC⟩ := T.cls
  have hcl : clsIn K C = some { name := n, bases := bs, mro := .ref C :: tail, ns := N, qualname := q, hasDict := true, slotNames := sn, subclasses := sub, abstract := ab, collection := col, hasDel := false } := by unfold clsIn; rw [hC] <;> rfl
  obtain ⟨mb, hmb, hbb⟩ := hb
  refine ks_codeAny_call_defAt (binds := [("self", .ref x), ("part", v)]) hroom (X _ _ ho) rfl hlim (codeRec_of X hcd) rfl (BindsTo.of_eq (by first | rfl | with_unfolding_all rfl)) (show ∀ x ∈ (L2.defScope (EXN.cInit s1)).names, x.2 ≠ .cell by decide +kernel) (fun y hy => by simp only [List.mem_cons, List.not_mem_nil, or_false] at hy; rcases hy with rfl | rfl <;> (first | rfl | decide +kernel)) (fun h₁ hns k => ?_)
  have X₁ : K.In h₁ := X.keeps k
  have hx₁ := k _ _ hx
  have hxL : s.heap.objs.size ≠ x := Nat.ne_of_gt (Heap.lt_size hx)
  have I₁ : InstAt h₁ x (excO C t0) C none := ⟨hx₁, rfl, rfl, trivial⟩
  obtain ⟨hp, gg, dr, tk, os⟩ := s
  show _root_.PySem.wpAt _ _ _ (execs (L2.defBody (EXN.cInit s1)) _) _ _ _
  refine ks_wpAt_execs_cons (ks_wpAt_Expr_any (ks_wpAt_MethodCall (ks_wpAt_super_base rfl rfl rfl rfl (X₁ _ _ ho) rfl rfl rfl (X₁ _ _ hco) rfl hvs hfi T.top ?_)))
  refine ks_loadName_global rfl rfl (loadGlobal_builtin (hg.keeps k) T.mS (hmb.keeps k) ((hbb "super" (by decide)).trans (show bootBuiltins "super" = some (.type "super") by first | rfl | kernel_rfl)) ⟨rfl, ?_⟩)
  refine wpAny_loadName_free rfl rfl rfl ⟨_, X₁ _ _ hce, rfl⟩ ?_
  refine wpAny_loadName_local rfl rfl hns (by first | rfl | kernel_rfl) ?_
  refine ks_wpAny_isType_cls (X₁ _ _ hC) rfl ⟨rfl, ?_⟩
  refine ks_wpAny_call_super (X₁ _ _ hC) rfl hx₁ rfl (fun c z => by cases z) (looks_mroIn X₁ T.mC) (fun h₂ e₂ k₂ => ?_)
  have X₂ : K.In h₂ := X₁.keeps k₂
  have hx₂ := k₂ _ _ hx₁
  have I₂ : InstAt h₂ x (excO C t0) C none := ⟨hx₂, rfl, rfl, trivial⟩
  unfold ks_superIn at sI
  rw [hcl] at sI
  refine kxs_getMethod xb.kx e₂ (looks_opaque X₂ T.no3) (l₀ := .ref C :: tail) (fun A Q E s k q => wpAny_bind ((looks_clsIn X₂ hcl) A _ E s k (wpAny_pure q))) rfl X₂ sI (I₂.type.andThen (looks_subIn X₂ vC)) (ks_ne X₂ I₂ hcl) (by decide) ?_
  have k₃ : ∀ b o, h₂.get? b = some o → (h₂.push (kxs_mw ini x)).get? b = some o := fun b o e => Heap.get?_push_of_some _ e
  have hu₃ : (h₂.push (kxs_mw ini x)).get? h₂.objs.size = some (kxs_mw ini x) := Heap.get?_push_at rfl rfl
  refine kxs_callWith (i := ini) (x := x) rfl (evalArgs_plain ?_)
  refine Calls.spliced_cons (@Calls.Constant_str _ _ _ _ _ _ 0 ⟨0, 0, 0, 0⟩ _ (Calls.spliced_nil ⟨hu₃, ?_⟩))

  refine call_mw xb (k₃ _ _ (X₂ _ _ hC)) (k₃ _ _ hx₂) hu₃ (one_size _) fun h₄ t1 k₄ e₄ => ?_
  have old : ∀ b o, b ≠ x → h₁.get? b = some o → h₄.get? b = some o := fun b o hb e => k₄ b o hb (k₃ b o (k₂ b o e))
  have X₄ : K.In h₄ := fun a o e => old a o (fun z => by rw [z, hnx] at e; cases e) (X₁ a o e)
  have hn₄ : h₄.Ns hp.objs.size _ := (let ⟨oL, es, ep, hL, r⟩ := hns; ⟨oL, es, ep, old _ _ hxL hL, r⟩)
  refine wpAt_of_wpAny (wpAny_execs_cons (plainObj_wpAny_Assign_Attribute ?_))
  refine ldK (v := v) hn₄ (by first | rfl | with_unfolding_all rfl | kernel_rfl) (ldK (v := .ref x) hn₄ (by first | rfl | with_unfolding_all rfl | kernel_rfl) ?_)
  refine set_plain X₄ (ox := excO C t1) (od := none) ⟨e₄, rfl, rfl, trivial⟩ T.sa ?_
  refine osa_new X₄ e₄ hcl (fun self => by rw [show refuseLoop self "__setattr__" (.ref C :: tail) = refuseLoop self "__setattr__" tail from refuseLoop_ref ..]; exact xb.pass self) (by rw [List.contains_cons, xb.obj, Bool.or_true]) rfl rfl noN (fun h₅ tk₅ dx k₅ dn dne hx₅ hn₅ => ?_)
  have z : hp.objs.size < h₄.objs.size := hn₄.lt
  exact wpAny_execs_nil (hq h₅ tk₅ dx ⟨fun b o hb e => k₅ b o hb (old b o hb (k b o e)), ⟨_, hx₅⟩, Nat.le_of_lt (Nat.lt_of_lt_of_le z dn), dne, hn₅⟩)

end
section
variable {P : Program} {w : World} {A : Around} {E : Value → Shared → Prop} {R : Result → Shared → Prop} {s : Shared} {K : Frag} {mg : Str → Option Value} {C fI : Addr} 
theorem initK_BadOrder (T : EXN.Txt P K mg "BadOrder" "BadOrder.__init__" s1 C fI) {x t0 : Addr} {v : Value} (X : K.In s.heap) (hlim : s.heap.NoLimit) (hg : s.heap.Ns mainGlobals mg) (hb : ∃ mb, s.heap.Ns builtinsNs mb ∧ ∀ x : Str, x ≠ "__name__" → mb x = bootBuiltins x)
    (hx : s.heap.get? x = some (excO C t0)) (hnx : K.lookup x = none) (hroom : A.depth < recursionLimit) (noN : findIn K (.ref C) "part" = some none)
    (hq : ∀ h' tk dx, InitF s.heap h' x C dx "part" v → R (.ok (.ret .none)) { s with heap := h', toks := tk }) :
    codeAny (model P w) A (.call (.ref fI) ⟨[.ref x], [("part", v)]⟩) R s := by
  obtain ⟨oc, od, doc, pm, an, ct, osl, cda, cc, ho, hcd, ⟨ccl, cdd, vs, ccs, file, tf, hco, hvs, hfi⟩, cl, cld, csl, hce⟩ := T.fn
  obtain ⟨B, nw, ini, tail, xb, vC, sI, n, q, N, bs, sn, sub, ab, col, dd, k0, k1, k2, k3, k5, hC⟩ := T.cls
  have hcl : clsIn K C = some { name := n, bases := bs, mro := .ref C :: tail, ns := N, qualname := q, hasDict := true, slotNames := sn, subclasses := sub, abstract := ab, collection := col, hasDel := false } := by unfold clsIn; rw [hC] <;> rfl
  obtain ⟨mb, hmb, hbb⟩ := hb
  refine ks_codeAny_call_defAt (binds := [("self", .ref x), ("part", v)]) hroom (X _ _ ho) rfl hlim (codeRec_of X hcd) rfl (BindsTo.of_eq (by first | rfl | with_unfolding_all rfl)) (show ∀ x ∈ (L2.defScope (EXN.cInit s1)).names, x.2 ≠ .cell by decide +kernel) (fun y hy => by simp only [List.mem_cons, List.not_mem_nil, or_false] at hy; rcases hy with rfl | rfl <;> (first | rfl | decide +kernel)) (fun h₁ hns k => ?_)
  have X₁ : K.In h₁ := X.keeps k
  have hx₁ := k _ _ hx
  have hxL : s.heap.objs.size ≠ x := Nat.ne_of_gt (Heap.lt_size hx)
  have I₁ : InstAt h₁ x (excO C t0) C none := ⟨hx₁, rfl, rfl, trivial⟩
  obtain ⟨hp, gg, dr, tk, os⟩ := s
  show _root_.PySem.wpAt _ _ _ (execs (L2.defBody (EXN.cInit s1)) _) _ _ _
  refine ks_wpAt_execs_cons (ks_wpAt_Expr_any (ks_wpAt_MethodCall (ks_wpAt_super_base rfl rfl rfl rfl (X₁ _ _ ho) rfl rfl rfl (X₁ _ _ hco) rfl hvs hfi T.top ?_)))
  refine ks_loadName_global rfl rfl (loadGlobal_builtin (hg.keeps k) T.mS (hmb.keeps k) ((hbb "super" (by decide)).trans (show bootBuiltins "super" = some (.type "super") by first | rfl | kernel_rfl)) ⟨rfl, ?_⟩)
  refine wpAny_loadName_free rfl rfl rfl ⟨_, X₁ _ _ hce, rfl⟩ ?_
  refine wpAny_loadName_local rfl rfl hns (by first | rfl | kernel_rfl) ?_
  refine ks_wpAny_isType_cls (X₁ _ _ hC) rfl ⟨rfl, ?_⟩
  refine ks_wpAny_call_super (X₁ _ _ hC) rfl hx₁ rfl (fun c z => by cases z) (looks_mroIn X₁ T.mC) (fun h₂ e₂ k₂ => ?_)
  have X₂ : K.In h₂ := X₁.keeps k₂
  have hx₂ := k₂ _ _ hx₁
  have I₂ : InstAt h₂ x (excO C t0) C none := ⟨hx₂, rfl, rfl, trivial⟩
  unfold ks_superIn at sI
  rw [hcl] at sI
  refine kxs_getMethod xb.kx e₂ (looks_opaque X₂ T.no3) (l₀ := .ref C :: tail) (fun A Q E s k q => wpAny_bind ((looks_clsIn X₂ hcl) A _ E s k (wpAny_pure q))) rfl X₂ sI (I₂.type.andThen (looks_subIn X₂ vC)) (ks_ne X₂ I₂ hcl) (by decide) ?_
  have k₃ : ∀ b o, h₂.get? b = some o → (h₂.push (kxs_mw ini x)).get? b = some o := fun b o e => Heap.get?_push_of_some _ e
  have hu₃ : (h₂.push (kxs_mw ini x)).get? h₂.objs.size = some (kxs_mw ini x) := Heap.get?_push_at rfl rfl
  refine kxs_callWith (i := ini) (x := x) rfl (evalArgs_plain ?_)
  refine Calls.spliced_cons (@Calls.Constant_str _ _ _ _ _ _ 0 ⟨0, 0, 0, 0⟩ _ (Calls.spliced_nil ⟨hu₃, ?_⟩))

  refine call_mw xb (k₃ _ _ (X₂ _ _ hC)) (k₃ _ _ hx₂) hu₃ (one_size _) fun h₄ t1 k₄ e₄ => ?_
  have old : ∀ b o, b ≠ x → h₁.get? b = some o → h₄.get? b = some o := fun b o hb e => k₄ b o hb (k₃ b o (k₂ b o e))
  have X₄ : K.In h₄ := fun a o e => old a o (fun z => by rw [z, hnx] at e; cases e) (X₁ a o e)
  have hn₄ : h₄.Ns hp.objs.size _ := (let ⟨oL, es, ep, hL, r⟩ := hns; ⟨oL, es, ep, old _ _ hxL hL, r⟩)
  refine wpAt_of_wpAny (wpAny_execs_cons (plainObj_wpAny_Assign_Attribute ?_))
  refine ldK (v := v) hn₄ (by first | rfl | with_unfolding_all rfl | kernel_rfl) (ldK (v := .ref x) hn₄ (by first | rfl | with_unfolding_all rfl | kernel_rfl) ?_)
  refine set_plain X₄ (ox := excO C t1) (od := none) ⟨e₄, rfl, rfl, trivial⟩ T.sa ?_
  refine osa_new X₄ e₄ hcl (fun self => by rw [show refuseLoop self "__setattr__" (.ref C :: tail) = refuseLoop self "__setattr__" tail from refuseLoop_ref ..]; exact xb.pass self) (by rw [List.contains_cons, xb.obj, Bool.or_true]) rfl rfl noN (fun h₅ tk₅ dx k₅ dn dne hx₅ hn₅ => ?_)
  have z : hp.objs.size < h₄.objs.size := hn₄.lt
  exact wpAny_execs_nil (hq h₅ tk₅ dx ⟨fun b o hb e => k₅ b o hb (old b o hb (k b o e)), ⟨_, hx₅⟩, Nat.le_of_lt (Nat.lt_of_lt_of_le z dn), dne, hn₅⟩)

end
abbrev s2 : Stmt := topS 2
section
variable {P : Program} {w : World} {A : Around} {E : Value → Shared → Prop} {R : Result → Shared → Prop} {s : Shared} {K : Frag} {mg : Str → Option Value} {C fI : Addr} 
theorem init_BadHeap (T : EXN.Txt P K mg "BadHeap" "BadHeap.__init__" s2 C fI) {x t0 : Addr} {v : Value} (X : K.In s.heap) (hlim : s.heap.NoLimit) (hg : s.heap.Ns mainGlobals mg) (hb : ∃ mb, s.heap.Ns builtinsNs mb ∧ ∀ x : Str, x ≠ "__name__" → mb x = bootBuiltins x)
    (hx : s.heap.get? x = some (excO C t0)) (hnx : K.lookup x = none) (hroom : A.depth < recursionLimit) (noN : findIn K (.ref C) "number" = some none)
    (hq : ∀ h' tk dx, InitF s.heap h' x C dx "number" v → R (.ok (.ret .none)) { s with heap := h', toks := tk }) :
    codeAny (model P w) A (.call (.ref fI) ⟨[.ref x, v], []⟩) R s := by
  obtain ⟨oc, od, doc, pm, an, ct, osl, cda, cc, ho, hcd, ⟨ccl, cdd, vs, ccs, file, tf, hco, hvs, hfi⟩, cl, cld, csl, hce⟩ := T.fn
  obtain ⟨B, nw, ini, tail, xb, vC, sI, n, q, N, bs, sn, sub, ab, col, dd, k0, k1, k2, k3, k5, hC⟩ := T.cls
  have hcl : clsIn K C = some { name := n, bases := bs, mro := .ref C :: tail, ns := N, qualname := q, hasDict := true, slotNames := sn, subclasses := sub, abstract := ab, collection := col, hasDel := false } := by unfold clsIn; rw [hC] <;> rfl
  obtain ⟨mb, hmb, hbb⟩ := hb
  refine ks_codeAny_call_defAt (binds := [("self", .ref x), ("number", v)]) hroom (X _ _ ho) rfl hlim (codeRec_of X hcd) rfl (BindsTo.of_eq (by first | rfl | with_unfolding_all rfl)) (show ∀ x ∈ (L2.defScope (EXN.cInit s2)).names, x.2 ≠ .cell by decide +kernel) (fun y hy => by simp only [List.mem_cons, List.not_mem_nil, or_false] at hy; rcases hy with rfl | rfl <;> (first | rfl | decide +kernel)) (fun h₁ hns k => ?_)
  have X₁ : K.In h₁ := X.keeps k
  have hx₁ := k _ _ hx
  have hxL : s.heap.objs.size ≠ x := Nat.ne_of_gt (Heap.lt_size hx)
  have I₁ : InstAt h₁ x (excO C t0) C none := ⟨hx₁, rfl, rfl, trivial⟩
  obtain ⟨hp, gg, dr, tk, os⟩ := s
  show _root_.PySem.wpAt _ _ _ (execs (L2.defBody (EXN.cInit s2)) _) _ _ _
  refine ks_wpAt_execs_cons (ks_wpAt_Expr_any (ks_wpAt_MethodCall (ks_wpAt_super_base rfl rfl rfl rfl (X₁ _ _ ho) rfl rfl rfl (X₁ _ _ hco) rfl hvs hfi T.top ?_)))
  refine ks_loadName_global rfl rfl (loadGlobal_builtin (hg.keeps k) T.mS (hmb.keeps k) ((hbb "super" (by decide)).trans (show bootBuiltins "super" = some (.type "super") by first | rfl | kernel_rfl)) ⟨rfl, ?_⟩)
  refine wpAny_loadName_free rfl rfl rfl ⟨_, X₁ _ _ hce, rfl⟩ ?_
  refine wpAny_loadName_local rfl rfl hns (by first | rfl | kernel_rfl) ?_
  refine ks_wpAny_isType_cls (X₁ _ _ hC) rfl ⟨rfl, ?_⟩
  refine ks_wpAny_call_super (X₁ _ _ hC) rfl hx₁ rfl (fun c z => by cases z) (looks_mroIn X₁ T.mC) (fun h₂ e₂ k₂ => ?_)
  have X₂ : K.In h₂ := X₁.keeps k₂
  have hx₂ := k₂ _ _ hx₁
  have I₂ : InstAt h₂ x (excO C t0) C none := ⟨hx₂, rfl, rfl, trivial⟩
  unfold ks_superIn at sI
  rw [hcl] at sI
  refine kxs_getMethod xb.kx e₂ (looks_opaque X₂ T.no3) (l₀ := .ref C :: tail) (fun A Q E s k q => wpAny_bind ((looks_clsIn X₂ hcl) A _ E s k (wpAny_pure q))) rfl X₂ sI (I₂.type.andThen (looks_subIn X₂ vC)) (ks_ne X₂ I₂ hcl) (by decide) ?_
  have k₃ : ∀ b o, h₂.get? b = some o → (h₂.push (kxs_mw ini x)).get? b = some o := fun b o e => Heap.get?_push_of_some _ e
  have hu₃ : (h₂.push (kxs_mw ini x)).get? h₂.objs.size = some (kxs_mw ini x) := Heap.get?_push_at rfl rfl
  refine kxs_callWith (i := ini) (x := x) rfl (evalArgs_plain ?_)
  refine Calls.spliced_cons (@Calls.Constant_str _ _ _ _ _ _ 0 ⟨0, 0, 0, 0⟩ _ (Calls.spliced_nil ⟨hu₃, ?_⟩))

  refine call_mw xb (k₃ _ _ (X₂ _ _ hC)) (k₃ _ _ hx₂) hu₃ (one_size _) fun h₄ t1 k₄ e₄ => ?_
  have old : ∀ b o, b ≠ x → h₁.get? b = some o → h₄.get? b = some o := fun b o hb e => k₄ b o hb (k₃ b o (k₂ b o e))
  have X₄ : K.In h₄ := fun a o e => old a o (fun z => by rw [z, hnx] at e; cases e) (X₁ a o e)
  have hn₄ : h₄.Ns hp.objs.size _ := (let ⟨oL, es, ep, hL, r⟩ := hns; ⟨oL, es, ep, old _ _ hxL hL, r⟩)
  refine wpAt_of_wpAny (wpAny_execs_cons (plainObj_wpAny_Assign_Attribute ?_))
  refine ldK (v := v) hn₄ (by first | rfl | with_unfolding_all rfl | kernel_rfl) (ldK (v := .ref x) hn₄ (by first | rfl | with_unfolding_all rfl | kernel_rfl) ?_)
  refine set_plain X₄ (ox := excO C t1) (od := none) ⟨e₄, rfl, rfl, trivial⟩ T.sa ?_
  refine osa_new X₄ e₄ hcl (fun self => by rw [show refuseLoop self "__setattr__" (.ref C :: tail) = refuseLoop self "__setattr__" tail from refuseLoop_ref ..]; exact xb.pass self) (by rw [List.contains_cons, xb.obj, Bool.or_true]) rfl rfl noN (fun h₅ tk₅ dx k₅ dn dne hx₅ hn₅ => ?_)
  have z : hp.objs.size < h₄.objs.size := hn₄.lt
  exact wpAny_execs_nil (hq h₅ tk₅ dx ⟨fun b o hb e => k₅ b o hb (old b o hb (k b o e)), ⟨_, hx₅⟩, Nat.le_of_lt (Nat.lt_of_lt_of_le z dn), dne, hn₅⟩)

end
section
variable {P : Program} {w : World} {A : Around} {E : Value → Shared → Prop} {R : Result → Shared → Prop} {s : Shared} {K : Frag} {mg : Str → Option Value} {C fI : Addr} 
theorem initK_BadHeap (T : EXN.Txt P K mg "BadHeap" "BadHeap.__init__" s2 C fI) {x t0 : Addr} {v : Value} (X : K.In s.heap) (hlim : s.heap.NoLimit) (hg : s.heap.Ns mainGlobals mg) (hb : ∃ mb, s.heap.Ns builtinsNs mb ∧ ∀ x : Str, x ≠ "__name__" → mb x = bootBuiltins x)
    (hx : s.heap.get? x = some (excO C t0)) (hnx : K.lookup x = none) (hroom : A.depth < recursionLimit) (noN : findIn K (.ref C) "number" = some none)
    (hq : ∀ h' tk dx, InitF s.heap h' x C dx "number" v → R (.ok (.ret .none)) { s with heap := h', toks := tk }) :
    codeAny (model P w) A (.call (.ref fI) ⟨[.ref x], [("number", v)]⟩) R s := by
  obtain ⟨oc, od, doc, pm, an, ct, osl, cda, cc, ho, hcd, ⟨ccl, cdd, vs, ccs, file, tf, hco, hvs, hfi⟩, cl, cld, csl, hce⟩ := T.fn
  obtain ⟨B, nw, ini, tail, xb, vC, sI, n, q, N, bs, sn, sub, ab, col, dd, k0, k1, k2, k3, k5, hC⟩ := T.cls
  have hcl : clsIn K C = some { name := n, bases := bs, mro := .ref C :: tail, ns := N, qualname := q, hasDict := true, slotNames := sn, subclasses := sub, abstract := ab, collection := col, hasDel := false } := by unfold clsIn; rw [hC] <;> rfl
  obtain ⟨mb, hmb, hbb⟩ := hb
  refine ks_codeAny_call_defAt (binds := [("self", .ref x), ("number", v)]) hroom (X _ _ ho) rfl hlim (codeRec_of X hcd) rfl (BindsTo.of_eq (by first | rfl | with_unfolding_all rfl)) (show ∀ x ∈ (L2.defScope (EXN.cInit s2)).names, x.2 ≠ .cell by decide +kernel) (fun y hy => by simp only [List.mem_cons, List.not_mem_nil, or_false] at hy; rcases hy with rfl | rfl <;> (first | rfl | decide +kernel)) (fun h₁ hns k => ?_)
  have X₁ : K.In h₁ := X.keeps k
  have hx₁ := k _ _ hx
  have hxL : s.heap.objs.size ≠ x := Nat.ne_of_gt (Heap.lt_size hx)
  have I₁ : InstAt h₁ x (excO C t0) C none := ⟨hx₁, rfl, rfl, trivial⟩
  obtain ⟨hp, gg, dr, tk, os⟩ := s
  show _root_.PySem.wpAt _ _ _ (execs (L2.defBody (EXN.cInit s2)) _) _ _ _
  refine ks_wpAt_execs_cons (ks_wpAt_Expr_any (ks_wpAt_MethodCall (ks_wpAt_super_base rfl rfl rfl rfl (X₁ _ _ ho) rfl rfl rfl (X₁ _ _ hco) rfl hvs hfi T.top ?_)))
  refine ks_loadName_global rfl rfl (loadGlobal_builtin (hg.keeps k) T.mS (hmb.keeps k) ((hbb "super" (by decide)).trans (show bootBuiltins "super" = some (.type "super") by first | rfl | kernel_rfl)) ⟨rfl, ?_⟩)
  refine wpAny_loadName_free rfl rfl rfl ⟨_, X₁ _ _ hce, rfl⟩ ?_
  refine wpAny_loadName_local rfl rfl hns (by first | rfl | kernel_rfl) ?_
  refine ks_wpAny_isType_cls (X₁ _ _ hC) rfl ⟨rfl, ?_⟩
  refine ks_wpAny_call_super (X₁ _ _ hC) rfl hx₁ rfl (fun c z => by cases z) (looks_mroIn X₁ T.mC) (fun h₂ e₂ k₂ => ?_)
  have X₂ : K.In h₂ := X₁.keeps k₂
  have hx₂ := k₂ _ _ hx₁
  have I₂ : InstAt h₂ x (excO C t0) C none := ⟨hx₂, rfl, rfl, trivial⟩
  unfold ks_superIn at sI
  rw [hcl] at sI
  refine kxs_getMethod xb.kx e₂ (looks_opaque X₂ T.no3) (l₀ := .ref C :: tail) (fun A Q E s k q => wpAny_bind ((looks_clsIn X₂ hcl) A _ E s k (wpAny_pure q))) rfl X₂ sI (I₂.type.andThen (looks_subIn X₂ vC)) (ks_ne X₂ I₂ hcl) (by decide) ?_
  have k₃ : ∀ b o, h₂.get? b = some o → (h₂.push (kxs_mw ini x)).get? b = some o := fun b o e => Heap.get?_push_of_some _ e
  have hu₃ : (h₂.push (kxs_mw ini x)).get? h₂.objs.size = some (kxs_mw ini x) := Heap.get?_push_at rfl rfl
  refine kxs_callWith (i := ini) (x := x) rfl (evalArgs_plain ?_)
  refine Calls.spliced_cons (@Calls.Constant_str _ _ _ _ _ _ 0 ⟨0, 0, 0, 0⟩ _ (Calls.spliced_nil ⟨hu₃, ?_⟩))

  refine call_mw xb (k₃ _ _ (X₂ _ _ hC)) (k₃ _ _ hx₂) hu₃ (one_size _) fun h₄ t1 k₄ e₄ => ?_
  have old : ∀ b o, b ≠ x → h₁.get? b = some o → h₄.get? b = some o := fun b o hb e => k₄ b o hb (k₃ b o (k₂ b o e))
  have X₄ : K.In h₄ := fun a o e => old a o (fun z => by rw [z, hnx] at e; cases e) (X₁ a o e)
  have hn₄ : h₄.Ns hp.objs.size _ := (let ⟨oL, es, ep, hL, r⟩ := hns; ⟨oL, es, ep, old _ _ hxL hL, r⟩)
  refine wpAt_of_wpAny (wpAny_execs_cons (plainObj_wpAny_Assign_Attribute ?_))
  refine ldK (v := v) hn₄ (by first | rfl | with_unfolding_all rfl | kernel_rfl) (ldK (v := .ref x) hn₄ (by first | rfl | with_unfolding_all rfl | kernel_rfl) ?_)
  refine set_plain X₄ (ox := excO C t1) (od := none) ⟨e₄, rfl, rfl, trivial⟩ T.sa ?_
  refine osa_new X₄ e₄ hcl (fun self => by rw [show refuseLoop self "__setattr__" (.ref C :: tail) = refuseLoop self "__setattr__" tail from refuseLoop_ref ..]; exact xb.pass self) (by rw [List.contains_cons, xb.obj, Bool.or_true]) rfl rfl noN (fun h₅ tk₅ dx k₅ dn dne hx₅ hn₅ => ?_)
  have z : hp.objs.size < h₄.objs.size := hn₄.lt
  exact wpAny_execs_nil (hq h₅ tk₅ dx ⟨fun b o hb e => k₅ b o hb (old b o hb (k b o e)), ⟨_, hx₅⟩, Nat.le_of_lt (Nat.lt_of_lt_of_le z dn), dne, hn₅⟩)

end
abbrev s3 : Stmt := topS 3
section
variable {P : Program} {w : World} {A : Around} {E : Value → Shared → Prop} {R : Result → Shared → Prop} {s : Shared} {K : Frag} {mg : Str → Option Value} {C fI : Addr} 
theorem init_BadBoxes (T : EXN.Txt P K mg "BadBoxes" "BadBoxes.__init__" s3 C fI) {x t0 : Addr} {v : Value} (X : K.In s.heap) (hlim : s.heap.NoLimit) (hg : s.heap.Ns mainGlobals mg) (hb : ∃ mb, s.heap.Ns builtinsNs mb ∧ ∀ x : Str, x ≠ "__name__" → mb x = bootBuiltins x)
    (hx : s.heap.get? x = some (excO C t0)) (hnx : K.lookup x = none) (hroom : A.depth < recursionLimit) (noN : findIn K (.ref C) "number" = some none)
    (hq : ∀ h' tk dx, InitF s.heap h' x C dx "number" v → R (.ok (.ret .none)) { s with heap := h', toks := tk }) :
    codeAny (model P w) A (.call (.ref fI) ⟨[.ref x, v], []⟩) R s := by
  obtain ⟨oc, od, doc, pm, an, ct, osl, cda, cc, ho, hcd, ⟨ccl, cdd, vs, ccs, file, tf, hco, hvs, hfi⟩, cl, cld, csl, hce⟩ := T.fn
  obtain ⟨B, nw, ini, tail, xb, vC, sI, n, q, N, bs, sn, sub, ab, col, dd, k0, k1, k2, k3, k5, hC⟩ := T.cls
  have hcl : clsIn K C = some { name := n, bases := bs, mro := .ref C :: tail, ns := N, qualname := q, hasDict := true, slotNames := sn, subclasses := sub, abstract := ab, collection := col, hasDel := false } := by unfold clsIn; rw [hC] <;> rfl
  obtain ⟨mb, hmb, hbb⟩ := hb
  refine ks_codeAny_call_defAt (binds := [("self", .ref x), ("number", v)]) hroom (X _ _ ho) rfl hlim (codeRec_of X hcd) rfl (BindsTo.of_eq (by first | rfl | with_unfolding_all rfl)) (show ∀ x ∈ (L2.defScope (EXN.cInit s3)).names, x.2 ≠ .cell by decide +kernel) (fun y hy => by simp only [List.mem_cons, List.not_mem_nil, or_false] at hy; rcases hy with rfl | rfl <;> (first | rfl | decide +kernel)) (fun h₁ hns k => ?_)
  have X₁ : K.In h₁ := X.keeps k
  have hx₁ := k _ _ hx
  have hxL : s.heap.objs.size ≠ x := Nat.ne_of_gt (Heap.lt_size hx)
  have I₁ : InstAt h₁ x (excO C t0) C none := ⟨hx₁, rfl, rfl, trivial⟩
  obtain ⟨hp, gg, dr, tk, os⟩ := s
  show _root_.PySem.wpAt _ _ _ (execs (L2.defBody (EXN.cInit s3)) _) _ _ _
  refine ks_wpAt_execs_cons (ks_wpAt_Expr_any (ks_wpAt_MethodCall (ks_wpAt_super_base rfl rfl rfl rfl (X₁ _ _ ho) rfl rfl rfl (X₁ _ _ hco) rfl hvs hfi T.top ?_)))
  refine ks_loadName_global rfl rfl (loadGlobal_builtin (hg.keeps k) T.mS (hmb.keeps k) ((hbb "super" (by decide)).trans (show bootBuiltins "super" = some (.type "super") by first | rfl | kernel_rfl)) ⟨rfl, ?_⟩)
  refine wpAny_loadName_free rfl rfl rfl ⟨_, X₁ _ _ hce, rfl⟩ ?_
  refine wpAny_loadName_local rfl rfl hns (by first | rfl | kernel_rfl) ?_
  refine ks_wpAny_isType_cls (X₁ _ _ hC) rfl ⟨rfl, ?_⟩
  refine ks_wpAny_call_super (X₁ _ _ hC) rfl hx₁ rfl (fun c z => by cases z) (looks_mroIn X₁ T.mC) (fun h₂ e₂ k₂ => ?_)
  have X₂ : K.In h₂ := X₁.keeps k₂
  have hx₂ := k₂ _ _ hx₁
  have I₂ : InstAt h₂ x (excO C t0) C none := ⟨hx₂, rfl, rfl, trivial⟩
  unfold ks_superIn at sI
  rw [hcl] at sI
  refine kxs_getMethod xb.kx e₂ (looks_opaque X₂ T.no3) (l₀ := .ref C :: tail) (fun A Q E s k q => wpAny_bind ((looks_clsIn X₂ hcl) A _ E s k (wpAny_pure q))) rfl X₂ sI (I₂.type.andThen (looks_subIn X₂ vC)) (ks_ne X₂ I₂ hcl) (by decide) ?_
  have k₃ : ∀ b o, h₂.get? b = some o → (h₂.push (kxs_mw ini x)).get? b = some o := fun b o e => Heap.get?_push_of_some _ e
  have hu₃ : (h₂.push (kxs_mw ini x)).get? h₂.objs.size = some (kxs_mw ini x) := Heap.get?_push_at rfl rfl
  refine kxs_callWith (i := ini) (x := x) rfl (evalArgs_plain ?_)
  refine Calls.spliced_cons (@Calls.Constant_str _ _ _ _ _ _ 0 ⟨0, 0, 0, 0⟩ _ (Calls.spliced_nil ⟨hu₃, ?_⟩))

  refine call_mw xb (k₃ _ _ (X₂ _ _ hC)) (k₃ _ _ hx₂) hu₃ (one_size _) fun h₄ t1 k₄ e₄ => ?_
  have old : ∀ b o, b ≠ x → h₁.get? b = some o → h₄.get? b = some o := fun b o hb e => k₄ b o hb (k₃ b o (k₂ b o e))
  have X₄ : K.In h₄ := fun a o e => old a o (fun z => by rw [z, hnx] at e; cases e) (X₁ a o e)
  have hn₄ : h₄.Ns hp.objs.size _ := (let ⟨oL, es, ep, hL, r⟩ := hns; ⟨oL, es, ep, old _ _ hxL hL, r⟩)
  refine wpAt_of_wpAny (wpAny_execs_cons (plainObj_wpAny_Assign_Attribute ?_))
  refine ldK (v := v) hn₄ (by first | rfl | with_unfolding_all rfl | kernel_rfl) (ldK (v := .ref x) hn₄ (by first | rfl | with_unfolding_all rfl | kernel_rfl) ?_)
  refine set_plain X₄ (ox := excO C t1) (od := none) ⟨e₄, rfl, rfl, trivial⟩ T.sa ?_
  refine osa_new X₄ e₄ hcl (fun self => by rw [show refuseLoop self "__setattr__" (.ref C :: tail) = refuseLoop self "__setattr__" tail from refuseLoop_ref ..]; exact xb.pass self) (by rw [List.contains_cons, xb.obj, Bool.or_true]) rfl rfl noN (fun h₅ tk₅ dx k₅ dn dne hx₅ hn₅ => ?_)
  have z : hp.objs.size < h₄.objs.size := hn₄.lt
  exact wpAny_execs_nil (hq h₅ tk₅ dx ⟨fun b o hb e => k₅ b o hb (old b o hb (k b o e)), ⟨_, hx₅⟩, Nat.le_of_lt (Nat.lt_of_lt_of_le z dn), dne, hn₅⟩)

end
section
variable {P : Program} {w : World} {A : Around} {E : Value → Shared → Prop} {R : Result → Shared → Prop} {s : Shared} {K : Frag} {mg : Str → Option Value} {C fI : Addr} 
theorem initK_BadBoxes (T : EXN.Txt P K mg "BadBoxes" "BadBoxes.__init__" s3 C fI) {x t0 : Addr} {v : Value} (X : K.In s.heap) (hlim : s.heap.NoLimit) (hg : s.heap.Ns mainGlobals mg) (hb : ∃ mb, s.heap.Ns builtinsNs mb ∧ ∀ x : Str, x ≠ "__name__" → mb x = bootBuiltins x)
    (hx : s.heap.get? x = some (excO C t0)) (hnx : K.lookup x = none) (hroom : A.depth < recursionLimit) (noN : findIn K (.ref C) "number" = some none)
    (hq : ∀ h' tk dx, InitF s.heap h' x C dx "number" v → R (.ok (.ret .none)) { s with heap := h', toks := tk }) :
    codeAny (model P w) A (.call (.ref fI) ⟨[.ref x], [("number", v)]⟩) R s := by
  obtain ⟨oc, od, doc, pm, an, ct, osl, cda, cc, ho, hcd, ⟨ccl, cdd, vs, ccs, file, tf, hco, hvs, hfi⟩, cl, cld, csl, hce⟩ := T.fn
  obtain ⟨B, nw, ini, tail, xb, vC, sI, n, q, N, bs, sn, sub, ab, col, dd, k0, k1, k2, k3, k5, hC⟩ := T.cls
  have hcl : clsIn K C = some { name := n, bases := bs, mro := .ref C :: tail, ns := N, qualname := q, hasDict := true, slotNames := sn, subclasses := sub, abstract := ab, collection := col, hasDel := false } := by unfold clsIn; rw [hC] <;> rfl
  obtain ⟨mb, hmb, hbb⟩ := hb
  refine ks_codeAny_call_defAt (binds := [("self", .ref x), ("number", v)]) hroom (X _ _ ho) rfl hlim (codeRec_of X hcd) rfl (BindsTo.of_eq (by first | rfl | with_unfolding_all rfl)) (show ∀ x ∈ (L2.defScope (EXN.cInit s3)).names, x.2 ≠ .cell by decide +kernel) (fun y hy => by simp only [List.mem_cons, List.not_mem_nil, or_false] at hy; rcases hy with rfl | rfl <;> (first | rfl | decide +kernel)) (fun h₁ hns k => ?_)
  have X₁ : K.In h₁ := X.keeps k
  have hx₁ := k _ _ hx
  have hxL : s.heap.objs.size ≠ x := Nat.ne_of_gt (Heap.lt_size hx)
  have I₁ : InstAt h₁ x (excO C t0) C none := ⟨hx₁, rfl, rfl, trivial⟩
  obtain ⟨hp, gg, dr, tk, os⟩ := s
  show _root_.PySem.wpAt _ _ _ (execs (L2.defBody (EXN.cInit s3)) _) _ _ _
  refine ks_wpAt_execs_cons (ks_wpAt_Expr_any (ks_wpAt_MethodCall (ks_wpAt_super_base rfl rfl rfl rfl (X₁ _ _ ho) rfl rfl rfl (X₁ _ _ hco) rfl hvs hfi T.top ?_)))
  refine ks_loadName_global rfl rfl (loadGlobal_builtin (hg.keeps k) T.mS (hmb.keeps k) ((hbb "super" (by decide)).trans (show bootBuiltins "super" = some (.type "super") by first | rfl | kernel_rfl)) ⟨rfl, ?_⟩)
  refine wpAny_loadName_free rfl rfl rfl ⟨_, X₁ _ _ hce, rfl⟩ ?_
  refine wpAny_loadName_local rfl rfl hns (by first | rfl | kernel_rfl) ?_
  refine ks_wpAny_isType_cls (X₁ _ _ hC) rfl ⟨rfl, ?_⟩
  refine ks_wpAny_call_super (X₁ _ _ hC) rfl hx₁ rfl (fun c z => by cases z) (looks_mroIn X₁ T.mC) (fun h₂ e₂ k₂ => ?_)
  have X₂ : K.In h₂ := X₁.keeps k₂
  have hx₂ := k₂ _ _ hx₁
  have I₂ : InstAt h₂ x (excO C t0) C none := ⟨hx₂, rfl, rfl, trivial⟩
  unfold ks_superIn at sI
  rw [hcl] at sI
  refine kxs_getMethod xb.kx e₂ (looks_opaque X₂ T.no3) (l₀ := .ref C :: tail) (fun A Q E s k q => wpAny_bind ((looks_clsIn X₂ hcl) A _ E s k (wpAny_pure q))) rfl X₂ sI (I₂.type.andThen (looks_subIn X₂ vC)) (ks_ne X₂ I₂ hcl) (by decide) ?_
  have k₃ : ∀ b o, h₂.get? b = some o → (h₂.push (kxs_mw ini x)).get? b = some o := fun b o e => Heap.get?_push_of_some _ e
  have hu₃ : (h₂.push (kxs_mw ini x)).get? h₂.objs.size = some (kxs_mw ini x) := Heap.get?_push_at rfl rfl
  refine kxs_callWith (i := ini) (x := x) rfl (evalArgs_plain ?_)
  refine Calls.spliced_cons (@Calls.Constant_str _ _ _ _ _ _ 0 ⟨0, 0, 0, 0⟩ _ (Calls.spliced_nil ⟨hu₃, ?_⟩))

  refine call_mw xb (k₃ _ _ (X₂ _ _ hC)) (k₃ _ _ hx₂) hu₃ (one_size _) fun h₄ t1 k₄ e₄ => ?_
  have old : ∀ b o, b ≠ x → h₁.get? b = some o → h₄.get? b = some o := fun b o hb e => k₄ b o hb (k₃ b o (k₂ b o e))
  have X₄ : K.In h₄ := fun a o e => old a o (fun z => by rw [z, hnx] at e; cases e) (X₁ a o e)
  have hn₄ : h₄.Ns hp.objs.size _ := (let ⟨oL, es, ep, hL, r⟩ := hns; ⟨oL, es, ep, old _ _ hxL hL, r⟩)
  refine wpAt_of_wpAny (wpAny_execs_cons (plainObj_wpAny_Assign_Attribute ?_))
  refine ldK (v := v) hn₄ (by first | rfl | with_unfolding_all rfl | kernel_rfl) (ldK (v := .ref x) hn₄ (by first | rfl | with_unfolding_all rfl | kernel_rfl) ?_)
  refine set_plain X₄ (ox := excO C t1) (od := none) ⟨e₄, rfl, rfl, trivial⟩ T.sa ?_
  refine osa_new X₄ e₄ hcl (fun self => by rw [show refuseLoop self "__setattr__" (.ref C :: tail) = refuseLoop self "__setattr__" tail from refuseLoop_ref ..]; exact xb.pass self) (by rw [List.contains_cons, xb.obj, Bool.or_true]) rfl rfl noN (fun h₅ tk₅ dx k₅ dn dne hx₅ hn₅ => ?_)
  have z : hp.objs.size < h₄.objs.size := hn₄.lt
  exact wpAny_execs_nil (hq h₅ tk₅ dx ⟨fun b o hb e => k₅ b o hb (old b o hb (k b o e)), ⟨_, hx₅⟩, Nat.le_of_lt (Nat.lt_of_lt_of_le z dn), dne, hn₅⟩)

end
abbrev s4 : Stmt := topS 4
section
variable {P : Program} {w : World} {A : Around} {E : Value → Shared → Prop} {R : Result → Shared → Prop} {s : Shared} {K : Frag} {mg : Str → Option Value} {C fI : Addr} 
theorem init_BadPaper (T : EXN.Txt P K mg "BadPaper" "BadPaper.__init__" s4 C fI) {x t0 : Addr} {v : Value} (X : K.In s.heap) (hlim : s.heap.NoLimit) (hg : s.heap.Ns mainGlobals mg) (hb : ∃ mb, s.heap.Ns builtinsNs mb ∧ ∀ x : Str, x ≠ "__name__" → mb x = bootBuiltins x)
    (hx : s.heap.get? x = some (excO C t0)) (hnx : K.lookup x = none) (hroom : A.depth < recursionLimit) (noN : findIn K (.ref C) "part" = some none)
    (hq : ∀ h' tk dx, InitF s.heap h' x C dx "part" v → R (.ok (.ret .none)) { s with heap := h', toks := tk }) :
    codeAny (model P w) A (.call (.ref fI) ⟨[.ref x, v], []⟩) R s := by
  obtain ⟨oc, od, doc, pm, an, ct, osl, cda, cc, ho, hcd, ⟨ccl, cdd, vs, ccs, file, tf, hco, hvs, hfi⟩, cl, cld, csl, hce⟩ := T.fn
  obtain ⟨B, nw, ini, tail, xb, vC, sI, n, q, N, bs, sn, sub, ab, col, dd, k0, k1, k2, k3, k5, hC⟩ := T.cls
  have hcl : clsIn K C = some { name := n, bases := bs, mro := .ref C :: tail, ns := N, qualname := q, hasDict := true, slotNames := sn, subclasses := sub, abstract := ab, collection := col, hasDel := false } := by unfold clsIn; rw [hC] <;> rfl
  obtain ⟨mb, hmb, hbb⟩ := hb
  refine ks_codeAny_call_defAt (binds := [("self", .ref x), ("part", v)]) hroom (X _ _ ho) rfl hlim (codeRec_of X hcd) rfl (BindsTo.of_eq (by first | rfl | with_unfolding_all rfl)) (show ∀ x ∈ (L2.defScope (EXN.cInit s4)).names, x.2 ≠ .cell by decide +kernel) (fun y hy => by simp only [List.mem_cons, List.not_mem_nil, or_false] at hy; rcases hy with rfl | rfl <;> (first | rfl | decide +kernel)) (fun h₁ hns k => ?_)
  have X₁ : K.In h₁ := X.keeps k
  have hx₁ := k _ _ hx
  have hxL : s.heap.objs.size ≠ x := Nat.ne_of_gt (Heap.lt_size hx)
  have I₁ : InstAt h₁ x (excO C t0) C none := ⟨hx₁, rfl, rfl, trivial⟩
  obtain ⟨hp, gg, dr, tk, os⟩ := s
  show _root_.PySem.wpAt _ _ _ (execs (L2.defBody (EXN.cInit s4)) _) _ _ _
  refine ks_wpAt_execs_cons (ks_wpAt_Expr_any (ks_wpAt_MethodCall (ks_wpAt_super_base rfl rfl rfl rfl (X₁ _ _ ho) rfl rfl rfl (X₁ _ _ hco) rfl hvs hfi T.top ?_)))
  refine ks_loadName_global rfl rfl (loadGlobal_builtin (hg.keeps k) T.mS (hmb.keeps k) ((hbb "super" (by decide)).trans (show bootBuiltins "super" = some (.type "super") by first | rfl | kernel_rfl)) ⟨rfl, ?_⟩)
  refine wpAny_loadName_free rfl rfl rfl ⟨_, X₁ _ _ hce, rfl⟩ ?_
  refine wpAny_loadName_local rfl rfl hns (by first | rfl | kernel_rfl) ?_
  refine ks_wpAny_isType_cls (X₁ _ _ hC) rfl ⟨rfl, ?_⟩
  refine ks_wpAny_call_super (X₁ _ _ hC) rfl hx₁ rfl (fun c z => by cases z) (looks_mroIn X₁ T.mC) (fun h₂ e₂ k₂ => ?_)
  have X₂ : K.In h₂ := X₁.keeps k₂
  have hx₂ := k₂ _ _ hx₁
  have I₂ : InstAt h₂ x (excO C t0) C none := ⟨hx₂, rfl, rfl, trivial⟩
  unfold ks_superIn at sI
  rw [hcl] at sI
  refine kxs_getMethod xb.kx e₂ (looks_opaque X₂ T.no3) (l₀ := .ref C :: tail) (fun A Q E s k q => wpAny_bind ((looks_clsIn X₂ hcl) A _ E s k (wpAny_pure q))) rfl X₂ sI (I₂.type.andThen (looks_subIn X₂ vC)) (ks_ne X₂ I₂ hcl) (by decide) ?_
  have k₃ : ∀ b o, h₂.get? b = some o → (h₂.push (kxs_mw ini x)).get? b = some o := fun b o e => Heap.get?_push_of_some _ e
  have hu₃ : (h₂.push (kxs_mw ini x)).get? h₂.objs.size = some (kxs_mw ini x) := Heap.get?_push_at rfl rfl
  refine kxs_callWith (i := ini) (x := x) rfl (evalArgs_plain ?_)
  refine Calls.spliced_cons (@Calls.Constant_str _ _ _ _ _ _ 0 ⟨0, 0, 0, 0⟩ _ (Calls.spliced_nil ⟨hu₃, ?_⟩))

  refine call_mw xb (k₃ _ _ (X₂ _ _ hC)) (k₃ _ _ hx₂) hu₃ (one_size _) fun h₄ t1 k₄ e₄ => ?_
  have old : ∀ b o, b ≠ x → h₁.get? b = some o → h₄.get? b = some o := fun b o hb e => k₄ b o hb (k₃ b o (k₂ b o e))
  have X₄ : K.In h₄ := fun a o e => old a o (fun z => by rw [z, hnx] at e; cases e) (X₁ a o e)
  have hn₄ : h₄.Ns hp.objs.size _ := (let ⟨oL, es, ep, hL, r⟩ := hns; ⟨oL, es, ep, old _ _ hxL hL, r⟩)
  refine wpAt_of_wpAny (wpAny_execs_cons (plainObj_wpAny_Assign_Attribute ?_))
  refine ldK (v := v) hn₄ (by first | rfl | with_unfolding_all rfl | kernel_rfl) (ldK (v := .ref x) hn₄ (by first | rfl | with_unfolding_all rfl | kernel_rfl) ?_)
  refine set_plain X₄ (ox := excO C t1) (od := none) ⟨e₄, rfl, rfl, trivial⟩ T.sa ?_
  refine osa_new X₄ e₄ hcl (fun self => by rw [show refuseLoop self "__setattr__" (.ref C :: tail) = refuseLoop self "__setattr__" tail from refuseLoop_ref ..]; exact xb.pass self) (by rw [List.contains_cons, xb.obj, Bool.or_true]) rfl rfl noN (fun h₅ tk₅ dx k₅ dn dne hx₅ hn₅ => ?_)
  have z : hp.objs.size < h₄.objs.size := hn₄.lt
  exact wpAny_execs_nil (hq h₅ tk₅ dx ⟨fun b o hb e => k₅ b o hb (old b o hb (k b o e)), ⟨_, hx₅⟩, Nat.le_of_lt (Nat.lt_of_lt_of_le z dn), dne, hn₅⟩)

end
section
variable {P : Program} {w : World} {A : Around} {E : Value → Shared → Prop} {R : Result → Shared → Prop} {s : Shared} {K : Frag} {mg : Str → Option Value} {C fI : Addr} 
theorem initK_BadPaper (T : EXN.Txt P K mg "BadPaper" "BadPaper.__init__" s4 C fI) {x t0 : Addr} {v : Value} (X : K.In s.heap) (hlim : s.heap.NoLimit) (hg : s.heap.Ns mainGlobals mg) (hb : ∃ mb, s.heap.Ns builtinsNs mb ∧ ∀ x : Str, x ≠ "__name__" → mb x = bootBuiltins x)
    (hx : s.heap.get? x = some (excO C t0)) (hnx : K.lookup x = none) (hroom : A.depth < recursionLimit) (noN : findIn K (.ref C) "part" = some none)
    (hq : ∀ h' tk dx, InitF s.heap h' x C dx "part" v → R (.ok (.ret .none)) { s with heap := h', toks := tk }) :
    codeAny (model P w) A (.call (.ref fI) ⟨[.ref x], [("part", v)]⟩) R s := by
  obtain ⟨oc, od, doc, pm, an, ct, osl, cda, cc, ho, hcd, ⟨ccl, cdd, vs, ccs, file, tf, hco, hvs, hfi⟩, cl, cld, csl, hce⟩ := T.fn
  obtain ⟨B, nw, ini, tail, xb, vC, sI, n, q, N, bs, sn, sub, ab, col, dd, k0, k1, k2, k3, k5, hC⟩ := T.cls
  have hcl : clsIn K C = some { name := n, bases := bs, mro := .ref C :: tail, ns := N, qualname := q, hasDict := true, slotNames := sn, subclasses := sub, abstract := ab, collection := col, hasDel := false } := by unfold clsIn; rw [hC] <;> rfl
  obtain ⟨mb, hmb, hbb⟩ := hb
  refine ks_codeAny_call_defAt (binds := [("self", .ref x), ("part", v)]) hroom (X _ _ ho) rfl hlim (codeRec_of X hcd) rfl (BindsTo.of_eq (by first | rfl | with_unfolding_all rfl)) (show ∀ x ∈ (L2.defScope (EXN.cInit s4)).names, x.2 ≠ .cell by decide +kernel) (fun y hy => by simp only [List.mem_cons, List.not_mem_nil, or_false] at hy; rcases hy with rfl | rfl <;> (first | rfl | decide +kernel)) (fun h₁ hns k => ?_)
  have X₁ : K.In h₁ := X.keeps k
  have hx₁ := k _ _ hx
  have hxL : s.heap.objs.size ≠ x := Nat.ne_of_gt (Heap.lt_size hx)
  have I₁ : InstAt h₁ x (excO C t0) C none := ⟨hx₁, rfl, rfl, trivial⟩
  obtain ⟨hp, gg, dr, tk, os⟩ := s
  show _root_.PySem.wpAt _ _ _ (execs (L2.defBody (EXN.cInit s4)) _) _ _ _
  refine ks_wpAt_execs_cons (ks_wpAt_Expr_any (ks_wpAt_MethodCall (ks_wpAt_super_base rfl rfl rfl rfl (X₁ _ _ ho) rfl rfl rfl (X₁ _ _ hco) rfl hvs hfi T.top ?_)))
  refine ks_loadName_global rfl rfl (loadGlobal_builtin (hg.keeps k) T.mS (hmb.keeps k) ((hbb "super" (by decide)).trans (show bootBuiltins "super" = some (.type "super") by first | rfl | kernel_rfl)) ⟨rfl, ?_⟩)
  refine wpAny_loadName_free rfl rfl rfl ⟨_, X₁ _ _ hce, rfl⟩ ?_
  refine wpAny_loadName_local rfl rfl hns (by first | rfl | kernel_rfl) ?_
  refine ks_wpAny_isType_cls (X₁ _ _ hC) rfl ⟨rfl, ?_⟩
  refine ks_wpAny_call_super (X₁ _ _ hC) rfl hx₁ rfl (fun c z => by cases z) (looks_mroIn X₁ T.mC) (fun h₂ e₂ k₂ => ?_)
  have X₂ : K.In h₂ := X₁.keeps k₂
  have hx₂ := k₂ _ _ hx₁
  have I₂ : InstAt h₂ x (excO C t0) C none := ⟨hx₂, rfl, rfl, trivial⟩
  unfold ks_superIn at sI
  rw [hcl] at sI
  refine kxs_getMethod xb.kx e₂ (looks_opaque X₂ T.no3) (l₀ := .ref C :: tail) (fun A Q E s k q => wpAny_bind ((looks_clsIn X₂ hcl) A _ E s k (wpAny_pure q))) rfl X₂ sI (I₂.type.andThen (looks_subIn X₂ vC)) (ks_ne X₂ I₂ hcl) (by decide) ?_
  have k₃ : ∀ b o, h₂.get? b = some o → (h₂.push (kxs_mw ini x)).get? b = some o := fun b o e => Heap.get?_push_of_some _ e
  have hu₃ : (h₂.push (kxs_mw ini x)).get? h₂.objs.size = some (kxs_mw ini x) := Heap.get?_push_at rfl rfl
  refine kxs_callWith (i := ini) (x := x) rfl (evalArgs_plain ?_)
  refine Calls.spliced_cons (@Calls.Constant_str _ _ _ _ _ _ 0 ⟨0, 0, 0, 0⟩ _ (Calls.spliced_nil ⟨hu₃, ?_⟩))

  refine call_mw xb (k₃ _ _ (X₂ _ _ hC)) (k₃ _ _ hx₂) hu₃ (one_size _) fun h₄ t1 k₄ e₄ => ?_
  have old : ∀ b o, b ≠ x → h₁.get? b = some o → h₄.get? b = some o := fun b o hb e => k₄ b o hb (k₃ b o (k₂ b o e))
  have X₄ : K.In h₄ := fun a o e => old a o (fun z => by rw [z, hnx] at e; cases e) (X₁ a o e)
  have hn₄ : h₄.Ns hp.objs.size _ := (let ⟨oL, es, ep, hL, r⟩ := hns; ⟨oL, es, ep, old _ _ hxL hL, r⟩)
  refine wpAt_of_wpAny (wpAny_execs_cons (plainObj_wpAny_Assign_Attribute ?_))
  refine ldK (v := v) hn₄ (by first | rfl | with_unfolding_all rfl | kernel_rfl) (ldK (v := .ref x) hn₄ (by first | rfl | with_unfolding_all rfl | kernel_rfl) ?_)
  refine set_plain X₄ (ox := excO C t1) (od := none) ⟨e₄, rfl, rfl, trivial⟩ T.sa ?_
  refine osa_new X₄ e₄ hcl (fun self => by rw [show refuseLoop self "__setattr__" (.ref C :: tail) = refuseLoop self "__setattr__" tail from refuseLoop_ref ..]; exact xb.pass self) (by rw [List.contains_cons, xb.obj, Bool.or_true]) rfl rfl noN (fun h₅ tk₅ dx k₅ dn dne hx₅ hn₅ => ?_)
  have z : hp.objs.size < h₄.objs.size := hn₄.lt
  exact wpAny_execs_nil (hq h₅ tk₅ dx ⟨fun b o hb e => k₅ b o hb (old b o hb (k b o e)), ⟨_, hx₅⟩, Nat.le_of_lt (Nat.lt_of_lt_of_le z dn), dne, hn₅⟩)

end
abbrev s5 : Stmt := topS 5
section
variable {P : Program} {w : World} {A : Around} {E : Value → Shared → Prop} {R : Result → Shared → Prop} {s : Shared} {K : Frag} {mg : Str → Option Value} {C fI : Addr} 
theorem init_BadText (T : EXN.Txt P K mg "BadText" "BadText.__init__" s5 C fI) {x t0 : Addr} {v : Value} (X : K.In s.heap) (hlim : s.heap.NoLimit) (hg : s.heap.Ns mainGlobals mg) (hb : ∃ mb, s.heap.Ns builtinsNs mb ∧ ∀ x : Str, x ≠ "__name__" → mb x = bootBuiltins x)
    (hx : s.heap.get? x = some (excO C t0)) (hnx : K.lookup x = none) (hroom : A.depth < recursionLimit) (noN : findIn K (.ref C) "line" = some none)
    (hq : ∀ h' tk dx, InitF s.heap h' x C dx "line" v → R (.ok (.ret .none)) { s with heap := h', toks := tk }) :
    codeAny (model P w) A (.call (.ref fI) ⟨[.ref x, v], []⟩) R s := by
  obtain ⟨oc, od, doc, pm, an, ct, osl, cda, cc, ho, hcd, ⟨ccl, cdd, vs, ccs, file, tf, hco, hvs, hfi⟩, cl, cld, csl, hce⟩ := T.fn
  obtain ⟨B, nw, ini, tail, xb, vC, sI, n, q, N, bs, sn, sub, ab, col, dd, k0, k1, k2, k3, k5, hC⟩ := T.cls
  have hcl : clsIn K C = some { name := n, bases := bs, mro := .ref C :: tail, ns := N, qualname := q, hasDict := true, slotNames := sn, subclasses := sub, abstract := ab, collection := col, hasDel := false } := by unfold clsIn; rw [hC] <;> rfl
  obtain ⟨mb, hmb, hbb⟩ := hb
  refine ks_codeAny_call_defAt (binds := [("self", .ref x), ("line", v)]) hroom (X _ _ ho) rfl hlim (codeRec_of X hcd) rfl (BindsTo.of_eq (by first | rfl | with_unfolding_all rfl)) (show ∀ x ∈ (L2.defScope (EXN.cInit s5)).names, x.2 ≠ .cell by decide +kernel) (fun y hy => by simp only [List.mem_cons, List.not_mem_nil, or_false] at hy; rcases hy with rfl | rfl <;> (first | rfl | decide +kernel)) (fun h₁ hns k => ?_)
  have X₁ : K.In h₁ := X.keeps k
  have hx₁ := k _ _ hx
  have hxL : s.heap.objs.size ≠ x := Nat.ne_of_gt (Heap.lt_size hx)
  have I₁ : InstAt h₁ x (excO C t0) C none := ⟨hx₁, rfl, rfl, trivial⟩
  obtain ⟨hp, gg, dr, tk, os⟩ := s
  show _root_.PySem.wpAt _ _ _ (execs (L2.defBody (EXN.cInit s5)) _) _ _ _
  refine ks_wpAt_execs_cons (ks_wpAt_Expr_any (ks_wpAt_MethodCall (ks_wpAt_super_base rfl rfl rfl rfl (X₁ _ _ ho) rfl rfl rfl (X₁ _ _ hco) rfl hvs hfi T.top ?_)))
  refine ks_loadName_global rfl rfl (loadGlobal_builtin (hg.keeps k) T.mS (hmb.keeps k) ((hbb "super" (by decide)).trans (show bootBuiltins "super" = some (.type "super") by first | rfl | kernel_rfl)) ⟨rfl, ?_⟩)
  refine wpAny_loadName_free rfl rfl rfl ⟨_, X₁ _ _ hce, rfl⟩ ?_
  refine wpAny_loadName_local rfl rfl hns (by first | rfl | kernel_rfl) ?_
  refine ks_wpAny_isType_cls (X₁ _ _ hC) rfl ⟨rfl, ?_⟩
  refine ks_wpAny_call_super (X₁ _ _ hC) rfl hx₁ rfl (fun c z => by cases z) (looks_mroIn X₁ T.mC) (fun h₂ e₂ k₂ => ?_)
  have X₂ : K.In h₂ := X₁.keeps k₂
  have hx₂ := k₂ _ _ hx₁
  have I₂ : InstAt h₂ x (excO C t0) C none := ⟨hx₂, rfl, rfl, trivial⟩
  unfold ks_superIn at sI
  rw [hcl] at sI
  refine kxs_getMethod xb.kx e₂ (looks_opaque X₂ T.no3) (l₀ := .ref C :: tail) (fun A Q E s k q => wpAny_bind ((looks_clsIn X₂ hcl) A _ E s k (wpAny_pure q))) rfl X₂ sI (I₂.type.andThen (looks_subIn X₂ vC)) (ks_ne X₂ I₂ hcl) (by decide) ?_
  have k₃ : ∀ b o, h₂.get? b = some o → (h₂.push (kxs_mw ini x)).get? b = some o := fun b o e => Heap.get?_push_of_some _ e
  have hu₃ : (h₂.push (kxs_mw ini x)).get? h₂.objs.size = some (kxs_mw ini x) := Heap.get?_push_at rfl rfl
  refine kxs_callWith (i := ini) (x := x) rfl (evalArgs_plain ?_)
  refine Calls.spliced_cons (@Calls.Constant_str _ _ _ _ _ _ 0 ⟨0, 0, 0, 0⟩ _ (Calls.spliced_nil ⟨hu₃, ?_⟩))

  refine call_mw xb (k₃ _ _ (X₂ _ _ hC)) (k₃ _ _ hx₂) hu₃ (one_size _) fun h₄ t1 k₄ e₄ => ?_
  have old : ∀ b o, b ≠ x → h₁.get? b = some o → h₄.get? b = some o := fun b o hb e => k₄ b o hb (k₃ b o (k₂ b o e))
  have X₄ : K.In h₄ := fun a o e => old a o (fun z => by rw [z, hnx] at e; cases e) (X₁ a o e)
  have hn₄ : h₄.Ns hp.objs.size _ := (let ⟨oL, es, ep, hL, r⟩ := hns; ⟨oL, es, ep, old _ _ hxL hL, r⟩)
  refine wpAt_of_wpAny (wpAny_execs_cons (plainObj_wpAny_Assign_Attribute ?_))
  refine ldK (v := v) hn₄ (by first | rfl | with_unfolding_all rfl | kernel_rfl) (ldK (v := .ref x) hn₄ (by first | rfl | with_unfolding_all rfl | kernel_rfl) ?_)
  refine set_plain X₄ (ox := excO C t1) (od := none) ⟨e₄, rfl, rfl, trivial⟩ T.sa ?_
  refine osa_new X₄ e₄ hcl (fun self => by rw [show refuseLoop self "__setattr__" (.ref C :: tail) = refuseLoop self "__setattr__" tail from refuseLoop_ref ..]; exact xb.pass self) (by rw [List.contains_cons, xb.obj, Bool.or_true]) rfl rfl noN (fun h₅ tk₅ dx k₅ dn dne hx₅ hn₅ => ?_)
  have z : hp.objs.size < h₄.objs.size := hn₄.lt
  exact wpAny_execs_nil (hq h₅ tk₅ dx ⟨fun b o hb e => k₅ b o hb (old b o hb (k b o e)), ⟨_, hx₅⟩, Nat.le_of_lt (Nat.lt_of_lt_of_le z dn), dne, hn₅⟩)

end
section
variable {P : Program} {w : World} {A : Around} {E : Value → Shared → Prop} {R : Result → Shared → Prop} {s : Shared} {K : Frag} {mg : Str → Option Value} {C fI : Addr} 
theorem initK_BadText (T : EXN.Txt P K mg "BadText" "BadText.__init__" s5 C fI) {x t0 : Addr} {v : Value} (X : K.In s.heap) (hlim : s.heap.NoLimit) (hg : s.heap.Ns mainGlobals mg) (hb : ∃ mb, s.heap.Ns builtinsNs mb ∧ ∀ x : Str, x ≠ "__name__" → mb x = bootBuiltins x)
    (hx : s.heap.get? x = some (excO C t0)) (hnx : K.lookup x = none) (hroom : A.depth < recursionLimit) (noN : findIn K (.ref C) "line" = some none)
    (hq : ∀ h' tk dx, InitF s.heap h' x C dx "line" v → R (.ok (.ret .none)) { s with heap := h', toks := tk }) :
    codeAny (model P w) A (.call (.ref fI) ⟨[.ref x], [("line", v)]⟩) R s := by
  obtain ⟨oc, od, doc, pm, an, ct, osl, cda, cc, ho, hcd, ⟨ccl, cdd, vs, ccs, file, tf, hco, hvs, hfi⟩, cl, cld, csl, hce⟩ := T.fn
  obtain ⟨B, nw, ini, tail, xb, vC, sI, n, q, N, bs, sn, sub, ab, col, dd, k0, k1, k2, k3, k5, hC⟩ := T.cls
  have hcl : clsIn K C = some { name := n, bases := bs, mro := .ref C :: tail, ns := N, qualname := q, hasDict := true, slotNames := sn, subclasses := sub, abstract := ab, collection := col, hasDel := false } := by unfold clsIn; rw [hC] <;> rfl
  obtain ⟨mb, hmb, hbb⟩ := hb
  refine ks_codeAny_call_defAt (binds := [("self", .ref x), ("line", v)]) hroom (X _ _ ho) rfl hlim (codeRec_of X hcd) rfl (BindsTo.of_eq (by first | rfl | with_unfolding_all rfl)) (show ∀ x ∈ (L2.defScope (EXN.cInit s5)).names, x.2 ≠ .cell by decide +kernel) (fun y hy => by simp only [List.mem_cons, List.not_mem_nil, or_false] at hy; rcases hy with rfl | rfl <;> (first | rfl | decide +kernel)) (fun h₁ hns k => ?_)
  have X₁ : K.In h₁ := X.keeps k
  have hx₁ := k _ _ hx
  have hxL : s.heap.objs.size ≠ x := Nat.ne_of_gt (Heap.lt_size hx)
  have I₁ : InstAt h₁ x (excO C t0) C none := ⟨hx₁, rfl, rfl, trivial⟩
  obtain ⟨hp, gg, dr, tk, os⟩ := s
  show _root_.PySem.wpAt _ _ _ (execs (L2.defBody (EXN.cInit s5)) _) _ _ _
  refine ks_wpAt_execs_cons (ks_wpAt_Expr_any (ks_wpAt_MethodCall (ks_wpAt_super_base rfl rfl rfl rfl (X₁ _ _ ho) rfl rfl rfl (X₁ _ _ hco) rfl hvs hfi T.top ?_)))
  refine ks_loadName_global rfl rfl (loadGlobal_builtin (hg.keeps k) T.mS (hmb.keeps k) ((hbb "super" (by decide)).trans (show bootBuiltins "super" = some (.type "super") by first | rfl | kernel_rfl)) ⟨rfl, ?_⟩)
  refine wpAny_loadName_free rfl rfl rfl ⟨_, X₁ _ _ hce, rfl⟩ ?_
  refine wpAny_loadName_local rfl rfl hns (by first | rfl | kernel_rfl) ?_
  refine ks_wpAny_isType_cls (X₁ _ _ hC) rfl ⟨rfl, ?_⟩
  refine ks_wpAny_call_super (X₁ _ _ hC) rfl hx₁ rfl (fun c z => by cases z) (looks_mroIn X₁ T.mC) (fun h₂ e₂ k₂ => ?_)
  have X₂ : K.In h₂ := X₁.keeps k₂
  have hx₂ := k₂ _ _ hx₁
  have I₂ : InstAt h₂ x (excO C t0) C none := ⟨hx₂, rfl, rfl, trivial⟩
  unfold ks_superIn at sI
  rw [hcl] at sI
  refine kxs_getMethod xb.kx e₂ (looks_opaque X₂ T.no3) (l₀ := .ref C :: tail) (fun A Q E s k q => wpAny_bind ((looks_clsIn X₂ hcl) A _ E s k (wpAny_pure q))) rfl X₂ sI (I₂.type.andThen (looks_subIn X₂ vC)) (ks_ne X₂ I₂ hcl) (by decide) ?_
  have k₃ : ∀ b o, h₂.get? b = some o → (h₂.push (kxs_mw ini x)).get? b = some o := fun b o e => Heap.get?_push_of_some _ e
  have hu₃ : (h₂.push (kxs_mw ini x)).get? h₂.objs.size = some (kxs_mw ini x) := Heap.get?_push_at rfl rfl
  refine kxs_callWith (i := ini) (x := x) rfl (evalArgs_plain ?_)
  refine Calls.spliced_cons (@Calls.Constant_str _ _ _ _ _ _ 0 ⟨0, 0, 0, 0⟩ _ (Calls.spliced_nil ⟨hu₃, ?_⟩))

  refine call_mw xb (k₃ _ _ (X₂ _ _ hC)) (k₃ _ _ hx₂) hu₃ (one_size _) fun h₄ t1 k₄ e₄ => ?_
  have old : ∀ b o, b ≠ x → h₁.get? b = some o → h₄.get? b = some o := fun b o hb e => k₄ b o hb (k₃ b o (k₂ b o e))
  have X₄ : K.In h₄ := fun a o e => old a o (fun z => by rw [z, hnx] at e; cases e) (X₁ a o e)
  have hn₄ : h₄.Ns hp.objs.size _ := (let ⟨oL, es, ep, hL, r⟩ := hns; ⟨oL, es, ep, old _ _ hxL hL, r⟩)
  refine wpAt_of_wpAny (wpAny_execs_cons (plainObj_wpAny_Assign_Attribute ?_))
  refine ldK (v := v) hn₄ (by first | rfl | with_unfolding_all rfl | kernel_rfl) (ldK (v := .ref x) hn₄ (by first | rfl | with_unfolding_all rfl | kernel_rfl) ?_)
  refine set_plain X₄ (ox := excO C t1) (od := none) ⟨e₄, rfl, rfl, trivial⟩ T.sa ?_
  refine osa_new X₄ e₄ hcl (fun self => by rw [show refuseLoop self "__setattr__" (.ref C :: tail) = refuseLoop self "__setattr__" tail from refuseLoop_ref ..]; exact xb.pass self) (by rw [List.contains_cons, xb.obj, Bool.or_true]) rfl rfl noN (fun h₅ tk₅ dx k₅ dn dne hx₅ hn₅ => ?_)
  have z : hp.objs.size < h₄.objs.size := hn₄.lt
  exact wpAny_execs_nil (hq h₅ tk₅ dx ⟨fun b o hb e => k₅ b o hb (old b o hb (k b o e)), ⟨_, hx₅⟩, Nat.le_of_lt (Nat.lt_of_lt_of_le z dn), dne, hn₅⟩)

end
abbrev s6 : Stmt := topS 6
section
variable {P : Program} {w : World} {A : Around} {E : Value → Shared → Prop} {R : Result → Shared → Prop} {s : Shared} {K : Frag} {mg : Str → Option Value} {C fI : Addr} 
theorem init_OutOfPlace (T : EXN.Txt P K mg "OutOfPlace" "OutOfPlace.__init__" s6 C fI) {x t0 : Addr} {v : Value} (X : K.In s.heap) (hlim : s.heap.NoLimit) (hg : s.heap.Ns mainGlobals mg) (hb : ∃ mb, s.heap.Ns builtinsNs mb ∧ ∀ x : Str, x ≠ "__name__" → mb x = bootBuiltins x)
    (hx : s.heap.get? x = some (excO C t0)) (hnx : K.lookup x = none) (hroom : A.depth < recursionLimit)
    (hq : ∀ h' tk, Init0 s.heap h' x C → R (.ok (.ret .none)) { s with heap := h', toks := tk }) :
    codeAny (model P w) A (.call (.ref fI) ⟨[.ref x, v], []⟩) R s := by
  obtain ⟨oc, od, doc, pm, an, ct, osl, cda, cc, ho, hcd, ⟨ccl, cdd, vs, ccs, file, tf, hco, hvs, hfi⟩, cl, cld, csl, hce⟩ := T.fn
  obtain ⟨B, nw, ini, tail, xb, vC, sI, n, q, N, bs, sn, sub, ab, col, dd, k0, k1, k2, k3, k5, hC⟩ := T.cls
  have hcl : clsIn K C = some { name := n, bases := bs, mro := .ref C :: tail, ns := N, qualname := q, hasDict := true, slotNames := sn, subclasses := sub, abstract := ab, collection := col, hasDel := false } := by unfold clsIn; rw [hC] <;> rfl
  obtain ⟨mb, hmb, hbb⟩ := hb
  refine ks_codeAny_call_defAt (binds := [("self", .ref x), ("text", v)]) hroom (X _ _ ho) rfl hlim (codeRec_of X hcd) rfl (BindsTo.of_eq (by first | rfl | with_unfolding_all rfl)) (show ∀ x ∈ (L2.defScope (EXN.cInit s6)).names, x.2 ≠ .cell by decide +kernel) (fun y hy => by simp only [List.mem_cons, List.not_mem_nil, or_false] at hy; rcases hy with rfl | rfl <;> (first | rfl | decide +kernel)) (fun h₁ hns k => ?_)
  have X₁ : K.In h₁ := X.keeps k
  have hx₁ := k _ _ hx
  have hxL : s.heap.objs.size ≠ x := Nat.ne_of_gt (Heap.lt_size hx)
  have I₁ : InstAt h₁ x (excO C t0) C none := ⟨hx₁, rfl, rfl, trivial⟩
  obtain ⟨hp, gg, dr, tk, os⟩ := s
  show _root_.PySem.wpAt _ _ _ (execs (L2.defBody (EXN.cInit s6)) _) _ _ _
  refine ks_wpAt_execs_cons (ks_wpAt_Expr_any (ks_wpAt_MethodCall (ks_wpAt_super_base rfl rfl rfl rfl (X₁ _ _ ho) rfl rfl rfl (X₁ _ _ hco) rfl hvs hfi T.top ?_)))
  refine ks_loadName_global rfl rfl (loadGlobal_builtin (hg.keeps k) T.mS (hmb.keeps k) ((hbb "super" (by decide)).trans (show bootBuiltins "super" = some (.type "super") by first | rfl | kernel_rfl)) ⟨rfl, ?_⟩)
  refine wpAny_loadName_free rfl rfl rfl ⟨_, X₁ _ _ hce, rfl⟩ ?_
  refine wpAny_loadName_local rfl rfl hns (by first | rfl | kernel_rfl) ?_
  refine ks_wpAny_isType_cls (X₁ _ _ hC) rfl ⟨rfl, ?_⟩
  refine ks_wpAny_call_super (X₁ _ _ hC) rfl hx₁ rfl (fun c z => by cases z) (looks_mroIn X₁ T.mC) (fun h₂ e₂ k₂ => ?_)
  have X₂ : K.In h₂ := X₁.keeps k₂
  have hx₂ := k₂ _ _ hx₁
  have I₂ : InstAt h₂ x (excO C t0) C none := ⟨hx₂, rfl, rfl, trivial⟩
  unfold ks_superIn at sI
  rw [hcl] at sI
  refine kxs_getMethod xb.kx e₂ (looks_opaque X₂ T.no3) (l₀ := .ref C :: tail) (fun A Q E s k q => wpAny_bind ((looks_clsIn X₂ hcl) A _ E s k (wpAny_pure q))) rfl X₂ sI (I₂.type.andThen (looks_subIn X₂ vC)) (ks_ne X₂ I₂ hcl) (by decide) ?_
  have k₃ : ∀ b o, h₂.get? b = some o → (h₂.push (kxs_mw ini x)).get? b = some o := fun b o e => Heap.get?_push_of_some _ e
  have hu₃ : (h₂.push (kxs_mw ini x)).get? h₂.objs.size = some (kxs_mw ini x) := Heap.get?_push_at rfl rfl
  refine kxs_callWith (i := ini) (x := x) rfl (evalArgs_plain ?_)
  refine Calls.spliced_cons (ldK (v := v) (ns_keep (ns_keep hns k₂) k₃) (by first | rfl | with_unfolding_all rfl | kernel_rfl) (Calls.spliced_nil ⟨hu₃, ?_⟩))

  refine call_mw xb (k₃ _ _ (X₂ _ _ hC)) (k₃ _ _ hx₂) hu₃ (one_size _) fun h₄ t1 k₄ e₄ => ?_
  have old : ∀ b o, b ≠ x → h₁.get? b = some o → h₄.get? b = some o := fun b o hb e => k₄ b o hb (k₃ b o (k₂ b o e))
  exact wpAt_of_wpAny (wpAny_execs_nil (hq h₄ _ ⟨fun b o hb e => old b o hb (k b o e), ⟨_, e₄⟩⟩))

end
abbrev s7 : Stmt := topS 7
section
variable {P : Program} {w : World} {A : Around} {E : Value → Shared → Prop} {R : Result → Shared → Prop} {s : Shared} {K : Frag} {mg : Str → Option Value} {C fI : Addr} 
theorem init_TooGreat (T : EXN.Txt P K mg "TooGreat" "TooGreat.__init__" s7 C fI) {x t0 : Addr} {v : Value} (X : K.In s.heap) (hlim : s.heap.NoLimit) (hg : s.heap.Ns mainGlobals mg) (hb : ∃ mb, s.heap.Ns builtinsNs mb ∧ ∀ x : Str, x ≠ "__name__" → mb x = bootBuiltins x)
    (hx : s.heap.get? x = some (excO C t0)) (hnx : K.lookup x = none) (hroom : A.depth < recursionLimit) (noN : findIn K (.ref C) "most" = some none)
    (hq : ∀ h' tk dx, InitF s.heap h' x C dx "most" v → R (.ok (.ret .none)) { s with heap := h', toks := tk }) :
    codeAny (model P w) A (.call (.ref fI) ⟨[.ref x, v], []⟩) R s := by
  obtain ⟨oc, od, doc, pm, an, ct, osl, cda, cc, ho, hcd, ⟨ccl, cdd, vs, ccs, file, tf, hco, hvs, hfi⟩, cl, cld, csl, hce⟩ := T.fn
  obtain ⟨B, nw, ini, tail, xb, vC, sI, n, q, N, bs, sn, sub, ab, col, dd, k0, k1, k2, k3, k5, hC⟩ := T.cls
  have hcl : clsIn K C = some { name := n, bases := bs, mro := .ref C :: tail, ns := N, qualname := q, hasDict := true, slotNames := sn, subclasses := sub, abstract := ab, collection := col, hasDel := false } := by unfold clsIn; rw [hC] <;> rfl
  obtain ⟨mb, hmb, hbb⟩ := hb
  refine ks_codeAny_call_defAt (binds := [("self", .ref x), ("most", v)]) hroom (X _ _ ho) rfl hlim (codeRec_of X hcd) rfl (BindsTo.of_eq (by first | rfl | with_unfolding_all rfl)) (show ∀ x ∈ (L2.defScope (EXN.cInit s7)).names, x.2 ≠ .cell by decide +kernel) (fun y hy => by simp only [List.mem_cons, List.not_mem_nil, or_false] at hy; rcases hy with rfl | rfl <;> (first | rfl | decide +kernel)) (fun h₁ hns k => ?_)
  have X₁ : K.In h₁ := X.keeps k
  have hx₁ := k _ _ hx
  have hxL : s.heap.objs.size ≠ x := Nat.ne_of_gt (Heap.lt_size hx)
  have I₁ : InstAt h₁ x (excO C t0) C none := ⟨hx₁, rfl, rfl, trivial⟩
  obtain ⟨hp, gg, dr, tk, os⟩ := s
  show _root_.PySem.wpAt _ _ _ (execs (L2.defBody (EXN.cInit s7)) _) _ _ _
  refine ks_wpAt_execs_cons (ks_wpAt_Expr_any (ks_wpAt_MethodCall (ks_wpAt_super_base rfl rfl rfl rfl (X₁ _ _ ho) rfl rfl rfl (X₁ _ _ hco) rfl hvs hfi T.top ?_)))
  refine ks_loadName_global rfl rfl (loadGlobal_builtin (hg.keeps k) T.mS (hmb.keeps k) ((hbb "super" (by decide)).trans (show bootBuiltins "super" = some (.type "super") by first | rfl | kernel_rfl)) ⟨rfl, ?_⟩)
  refine wpAny_loadName_free rfl rfl rfl ⟨_, X₁ _ _ hce, rfl⟩ ?_
  refine wpAny_loadName_local rfl rfl hns (by first | rfl | kernel_rfl) ?_
  refine ks_wpAny_isType_cls (X₁ _ _ hC) rfl ⟨rfl, ?_⟩
  refine ks_wpAny_call_super (X₁ _ _ hC) rfl hx₁ rfl (fun c z => by cases z) (looks_mroIn X₁ T.mC) (fun h₂ e₂ k₂ => ?_)
  have X₂ : K.In h₂ := X₁.keeps k₂
  have hx₂ := k₂ _ _ hx₁
  have I₂ : InstAt h₂ x (excO C t0) C none := ⟨hx₂, rfl, rfl, trivial⟩
  unfold ks_superIn at sI
  rw [hcl] at sI
  refine kxs_getMethod xb.kx e₂ (looks_opaque X₂ T.no3) (l₀ := .ref C :: tail) (fun A Q E s k q => wpAny_bind ((looks_clsIn X₂ hcl) A _ E s k (wpAny_pure q))) rfl X₂ sI (I₂.type.andThen (looks_subIn X₂ vC)) (ks_ne X₂ I₂ hcl) (by decide) ?_
  have k₃ : ∀ b o, h₂.get? b = some o → (h₂.push (kxs_mw ini x)).get? b = some o := fun b o e => Heap.get?_push_of_some _ e
  have hu₃ : (h₂.push (kxs_mw ini x)).get? h₂.objs.size = some (kxs_mw ini x) := Heap.get?_push_at rfl rfl
  refine kxs_callWith (i := ini) (x := x) rfl (evalArgs_plain ?_)
  refine Calls.spliced_cons (@Calls.Constant_str _ _ _ _ _ _ 0 ⟨0, 0, 0, 0⟩ _ (Calls.spliced_nil ⟨hu₃, ?_⟩))

  refine call_mw xb (k₃ _ _ (X₂ _ _ hC)) (k₃ _ _ hx₂) hu₃ (one_size _) fun h₄ t1 k₄ e₄ => ?_
  have old : ∀ b o, b ≠ x → h₁.get? b = some o → h₄.get? b = some o := fun b o hb e => k₄ b o hb (k₃ b o (k₂ b o e))
  have X₄ : K.In h₄ := fun a o e => old a o (fun z => by rw [z, hnx] at e; cases e) (X₁ a o e)
  have hn₄ : h₄.Ns hp.objs.size _ := (let ⟨oL, es, ep, hL, r⟩ := hns; ⟨oL, es, ep, old _ _ hxL hL, r⟩)
  refine wpAt_of_wpAny (wpAny_execs_cons (plainObj_wpAny_Assign_Attribute ?_))
  refine ldK (v := v) hn₄ (by first | rfl | with_unfolding_all rfl | kernel_rfl) (ldK (v := .ref x) hn₄ (by first | rfl | with_unfolding_all rfl | kernel_rfl) ?_)
  refine set_plain X₄ (ox := excO C t1) (od := none) ⟨e₄, rfl, rfl, trivial⟩ T.sa ?_
  refine osa_new X₄ e₄ hcl (fun self => by rw [show refuseLoop self "__setattr__" (.ref C :: tail) = refuseLoop self "__setattr__" tail from refuseLoop_ref ..]; exact xb.pass self) (by rw [List.contains_cons, xb.obj, Bool.or_true]) rfl rfl noN (fun h₅ tk₅ dx k₅ dn dne hx₅ hn₅ => ?_)
  have z : hp.objs.size < h₄.objs.size := hn₄.lt
  exact wpAny_execs_nil (hq h₅ tk₅ dx ⟨fun b o hb e => k₅ b o hb (old b o hb (k b o e)), ⟨_, hx₅⟩, Nat.le_of_lt (Nat.lt_of_lt_of_le z dn), dne, hn₅⟩)

end
section
variable {P : Program} {w : World} {A : Around} {E : Value → Shared → Prop} {R : Result → Shared → Prop} {s : Shared} {K : Frag} {mg : Str → Option Value} {C fI : Addr} 
theorem initK_TooGreat (T : EXN.Txt P K mg "TooGreat" "TooGreat.__init__" s7 C fI) {x t0 : Addr} {v : Value} (X : K.In s.heap) (hlim : s.heap.NoLimit) (hg : s.heap.Ns mainGlobals mg) (hb : ∃ mb, s.heap.Ns builtinsNs mb ∧ ∀ x : Str, x ≠ "__name__" → mb x = bootBuiltins x)
    (hx : s.heap.get? x = some (excO C t0)) (hnx : K.lookup x = none) (hroom : A.depth < recursionLimit) (noN : findIn K (.ref C) "most" = some none)
    (hq : ∀ h' tk dx, InitF s.heap h' x C dx "most" v → R (.ok (.ret .none)) { s with heap := h', toks := tk }) :
    codeAny (model P w) A (.call (.ref fI) ⟨[.ref x], [("most", v)]⟩) R s := by
  obtain ⟨oc, od, doc, pm, an, ct, osl, cda, cc, ho, hcd, ⟨ccl, cdd, vs, ccs, file, tf, hco, hvs, hfi⟩, cl, cld, csl, hce⟩ := T.fn
  obtain ⟨B, nw, ini, tail, xb, vC, sI, n, q, N, bs, sn, sub, ab, col, dd, k0, k1, k2, k3, k5, hC⟩ := T.cls
  have hcl : clsIn K C = some { name := n, bases := bs, mro := .ref C :: tail, ns := N, qualname := q, hasDict := true, slotNames := sn, subclasses := sub, abstract := ab, collection := col, hasDel := false } := by unfold clsIn; rw [hC] <;> rfl
  obtain ⟨mb, hmb, hbb⟩ := hb
  refine ks_codeAny_call_defAt (binds := [("self", .ref x), ("most", v)]) hroom (X _ _ ho) rfl hlim (codeRec_of X hcd) rfl (BindsTo.of_eq (by first | rfl | with_unfolding_all rfl)) (show ∀ x ∈ (L2.defScope (EXN.cInit s7)).names, x.2 ≠ .cell by decide +kernel) (fun y hy => by simp only [List.mem_cons, List.not_mem_nil, or_false] at hy; rcases hy with rfl | rfl <;> (first | rfl | decide +kernel)) (fun h₁ hns k => ?_)
  have X₁ : K.In h₁ := X.keeps k
  have hx₁ := k _ _ hx
  have hxL : s.heap.objs.size ≠ x := Nat.ne_of_gt (Heap.lt_size hx)
  have I₁ : InstAt h₁ x (excO C t0) C none := ⟨hx₁, rfl, rfl, trivial⟩
  obtain ⟨hp, gg, dr, tk, os⟩ := s
  show _root_.PySem.wpAt _ _ _ (execs (L2.defBody (EXN.cInit s7)) _) _ _ _
  refine ks_wpAt_execs_cons (ks_wpAt_Expr_any (ks_wpAt_MethodCall (ks_wpAt_super_base rfl rfl rfl rfl (X₁ _ _ ho) rfl rfl rfl (X₁ _ _ hco) rfl hvs hfi T.top ?_)))
  refine ks_loadName_global rfl rfl (loadGlobal_builtin (hg.keeps k) T.mS (hmb.keeps k) ((hbb "super" (by decide)).trans (show bootBuiltins "super" = some (.type "super") by first | rfl | kernel_rfl)) ⟨rfl, ?_⟩)
  refine wpAny_loadName_free rfl rfl rfl ⟨_, X₁ _ _ hce, rfl⟩ ?_
  refine wpAny_loadName_local rfl rfl hns (by first | rfl | kernel_rfl) ?_
  refine ks_wpAny_isType_cls (X₁ _ _ hC) rfl ⟨rfl, ?_⟩
  refine ks_wpAny_call_super (X₁ _ _ hC) rfl hx₁ rfl (fun c z => by cases z) (looks_mroIn X₁ T.mC) (fun h₂ e₂ k₂ => ?_)
  have X₂ : K.In h₂ := X₁.keeps k₂
  have hx₂ := k₂ _ _ hx₁
  have I₂ : InstAt h₂ x (excO C t0) C none := ⟨hx₂, rfl, rfl, trivial⟩
  unfold ks_superIn at sI
  rw [hcl] at sI
  refine kxs_getMethod xb.kx e₂ (looks_opaque X₂ T.no3) (l₀ := .ref C :: tail) (fun A Q E s k q => wpAny_bind ((looks_clsIn X₂ hcl) A _ E s k (wpAny_pure q))) rfl X₂ sI (I₂.type.andThen (looks_subIn X₂ vC)) (ks_ne X₂ I₂ hcl) (by decide) ?_
  have k₃ : ∀ b o, h₂.get? b = some o → (h₂.push (kxs_mw ini x)).get? b = some o := fun b o e => Heap.get?_push_of_some _ e
  have hu₃ : (h₂.push (kxs_mw ini x)).get? h₂.objs.size = some (kxs_mw ini x) := Heap.get?_push_at rfl rfl
  refine kxs_callWith (i := ini) (x := x) rfl (evalArgs_plain ?_)
  refine Calls.spliced_cons (@Calls.Constant_str _ _ _ _ _ _ 0 ⟨0, 0, 0, 0⟩ _ (Calls.spliced_nil ⟨hu₃, ?_⟩))

  refine call_mw xb (k₃ _ _ (X₂ _ _ hC)) (k₃ _ _ hx₂) hu₃ (one_size _) fun h₄ t1 k₄ e₄ => ?_
  have old : ∀ b o, b ≠ x → h₁.get? b = some o → h₄.get? b = some o := fun b o hb e => k₄ b o hb (k₃ b o (k₂ b o e))
  have X₄ : K.In h₄ := fun a o e => old a o (fun z => by rw [z, hnx] at e; cases e) (X₁ a o e)
  have hn₄ : h₄.Ns hp.objs.size _ := (let ⟨oL, es, ep, hL, r⟩ := hns; ⟨oL, es, ep, old _ _ hxL hL, r⟩)
  refine wpAt_of_wpAny (wpAny_execs_cons (plainObj_wpAny_Assign_Attribute ?_))
  refine ldK (v := v) hn₄ (by first | rfl | with_unfolding_all rfl | kernel_rfl) (ldK (v := .ref x) hn₄ (by first | rfl | with_unfolding_all rfl | kernel_rfl) ?_)
  refine set_plain X₄ (ox := excO C t1) (od := none) ⟨e₄, rfl, rfl, trivial⟩ T.sa ?_
  refine osa_new X₄ e₄ hcl (fun self => by rw [show refuseLoop self "__setattr__" (.ref C :: tail) = refuseLoop self "__setattr__" tail from refuseLoop_ref ..]; exact xb.pass self) (by rw [List.contains_cons, xb.obj, Bool.or_true]) rfl rfl noN (fun h₅ tk₅ dx k₅ dn dne hx₅ hn₅ => ?_)
  have z : hp.objs.size < h₄.objs.size := hn₄.lt
  exact wpAny_execs_nil (hq h₅ tk₅ dx ⟨fun b o hb e => k₅ b o hb (old b o hb (k b o e)), ⟨_, hx₅⟩, Nat.le_of_lt (Nat.lt_of_lt_of_le z dn), dne, hn₅⟩)

end
abbrev s8 : Stmt := topS 8
section
variable {P : Program} {w : World} {A : Around} {E : Value → Shared → Prop} {R : Result → Shared → Prop} {s : Shared} {K : Frag} {mg : Str → Option Value} {C fI : Addr} 
theorem init_Nothing (T : EXN.Txt P K mg "Nothing" "Nothing.__init__" s8 C fI) {x t0 : Addr} {v : Value} (X : K.In s.heap) (hlim : s.heap.NoLimit) (hg : s.heap.Ns mainGlobals mg) (hb : ∃ mb, s.heap.Ns builtinsNs mb ∧ ∀ x : Str, x ≠ "__name__" → mb x = bootBuiltins x)
    (hx : s.heap.get? x = some (excO C t0)) (hnx : K.lookup x = none) (hroom : A.depth < recursionLimit)
    (hq : ∀ h' tk, Init0 s.heap h' x C → R (.ok (.ret .none)) { s with heap := h', toks := tk }) :
    codeAny (model P w) A (.call (.ref fI) ⟨[.ref x, v], []⟩) R s := by
  obtain ⟨oc, od, doc, pm, an, ct, osl, cda, cc, ho, hcd, ⟨ccl, cdd, vs, ccs, file, tf, hco, hvs, hfi⟩, cl, cld, csl, hce⟩ := T.fn
  obtain ⟨B, nw, ini, tail, xb, vC, sI, n, q, N, bs, sn, sub, ab, col, dd, k0, k1, k2, k3, k5, hC⟩ := T.cls
  have hcl : clsIn K C = some { name := n, bases := bs, mro := .ref C :: tail, ns := N, qualname := q, hasDict := true, slotNames := sn, subclasses := sub, abstract := ab, collection := col, hasDel := false } := by unfold clsIn; rw [hC] <;> rfl
  obtain ⟨mb, hmb, hbb⟩ := hb
  refine ks_codeAny_call_defAt (binds := [("self", .ref x), ("text", v)]) hroom (X _ _ ho) rfl hlim (codeRec_of X hcd) rfl (BindsTo.of_eq (by first | rfl | with_unfolding_all rfl)) (show ∀ x ∈ (L2.defScope (EXN.cInit s8)).names, x.2 ≠ .cell by decide +kernel) (fun y hy => by simp only [List.mem_cons, List.not_mem_nil, or_false] at hy; rcases hy with rfl | rfl <;> (first | rfl | decide +kernel)) (fun h₁ hns k => ?_)
  have X₁ : K.In h₁ := X.keeps k
  have hx₁ := k _ _ hx
  have hxL : s.heap.objs.size ≠ x := Nat.ne_of_gt (Heap.lt_size hx)
  have I₁ : InstAt h₁ x (excO C t0) C none := ⟨hx₁, rfl, rfl, trivial⟩
  obtain ⟨hp, gg, dr, tk, os⟩ := s
  show _root_.PySem.wpAt _ _ _ (execs (L2.defBody (EXN.cInit s8)) _) _ _ _
  refine ks_wpAt_execs_cons (ks_wpAt_Expr_any (ks_wpAt_MethodCall (ks_wpAt_super_base rfl rfl rfl rfl (X₁ _ _ ho) rfl rfl rfl (X₁ _ _ hco) rfl hvs hfi T.top ?_)))
  refine ks_loadName_global rfl rfl (loadGlobal_builtin (hg.keeps k) T.mS (hmb.keeps k) ((hbb "super" (by decide)).trans (show bootBuiltins "super" = some (.type "super") by first | rfl | kernel_rfl)) ⟨rfl, ?_⟩)
  refine wpAny_loadName_free rfl rfl rfl ⟨_, X₁ _ _ hce, rfl⟩ ?_
  refine wpAny_loadName_local rfl rfl hns (by first | rfl | kernel_rfl) ?_
  refine ks_wpAny_isType_cls (X₁ _ _ hC) rfl ⟨rfl, ?_⟩
  refine ks_wpAny_call_super (X₁ _ _ hC) rfl hx₁ rfl (fun c z => by cases z) (looks_mroIn X₁ T.mC) (fun h₂ e₂ k₂ => ?_)
  have X₂ : K.In h₂ := X₁.keeps k₂
  have hx₂ := k₂ _ _ hx₁
  have I₂ : InstAt h₂ x (excO C t0) C none := ⟨hx₂, rfl, rfl, trivial⟩
  unfold ks_superIn at sI
  rw [hcl] at sI
  refine kxs_getMethod xb.kx e₂ (looks_opaque X₂ T.no3) (l₀ := .ref C :: tail) (fun A Q E s k q => wpAny_bind ((looks_clsIn X₂ hcl) A _ E s k (wpAny_pure q))) rfl X₂ sI (I₂.type.andThen (looks_subIn X₂ vC)) (ks_ne X₂ I₂ hcl) (by decide) ?_
  have k₃ : ∀ b o, h₂.get? b = some o → (h₂.push (kxs_mw ini x)).get? b = some o := fun b o e => Heap.get?_push_of_some _ e
  have hu₃ : (h₂.push (kxs_mw ini x)).get? h₂.objs.size = some (kxs_mw ini x) := Heap.get?_push_at rfl rfl
  refine kxs_callWith (i := ini) (x := x) rfl (evalArgs_plain ?_)
  refine Calls.spliced_cons (ldK (v := v) (ns_keep (ns_keep hns k₂) k₃) (by first | rfl | with_unfolding_all rfl | kernel_rfl) (Calls.spliced_nil ⟨hu₃, ?_⟩))

  refine call_mw xb (k₃ _ _ (X₂ _ _ hC)) (k₃ _ _ hx₂) hu₃ (one_size _) fun h₄ t1 k₄ e₄ => ?_
  have old : ∀ b o, b ≠ x → h₁.get? b = some o → h₄.get? b = some o := fun b o hb e => k₄ b o hb (k₃ b o (k₂ b o e))
  exact wpAt_of_wpAny (wpAny_execs_nil (hq h₄ _ ⟨fun b o hb e => old b o hb (k b o e), ⟨_, e₄⟩⟩))

end
end K87
namespace K87
open PySem PySem.Spec PyProof.Rows L2 DL PF 
abbrev s12 : Stmt := topS 12
theorem sc12 : FnScope ["_law_m", "_law_some"] ["_law_m", "_law_some"] (defScope s12) := ⟨rfl, rfl, rfl, by decide +kernel, rfl, by decide +kernel, by decide +kernel⟩
abbrev s13 : Stmt := topS 13
theorem sc13 : FnScope ["_law_m", "_law_some"] ["_law_m"] (defScope s13) := ⟨rfl, rfl, rfl, by decide +kernel, rfl, by decide +kernel, by decide +kernel⟩
abbrev s14 : Stmt := topS 14
theorem sc14 : FnScope ["_law_thing_here", "_law_found"] ["_law_thing_here"] (defScope s14) := ⟨rfl, rfl, rfl, by decide +kernel, rfl, by decide +kernel, by decide +kernel⟩
abbrev s15 : Stmt := topS 15
theorem sc15 : FnScope ["_law_thing_here", "_law_found"] ["_law_thing_here"] (defScope s15) := ⟨rfl, rfl, rfl, by decide +kernel, rfl, by decide +kernel, by decide +kernel⟩
abbrev s16 : Stmt := topS 16
theorem sc16 : FnScope ["_law_some"] ["_law_some"] (defScope s16) := ⟨rfl, rfl, rfl, by decide +kernel, rfl, by decide +kernel, by decide +kernel⟩
abbrev s17 : Stmt := topS 17
theorem sc17 : FnScope ["_law_error", "_law_found"] ["_law_error"] (defScope s17) := ⟨rfl, rfl, rfl, by decide +kernel, rfl, by decide +kernel, by decide +kernel⟩
abbrev s18 : Stmt := topS 18
theorem sc18 : FnScope ["_law_own", "_law_above", "_law_k"] ["_law_own"] (defScope s18) := ⟨rfl, rfl, rfl, by decide +kernel, rfl, by decide +kernel, by decide +kernel⟩
abbrev s19 : Stmt := topS 19
theorem sc19 : FnScope ["_law_own", "_law_thing_here"] ["_law_own", "_law_thing_here"] (defScope s19) := ⟨rfl, rfl, rfl, by decide +kernel, rfl, by decide +kernel, by decide +kernel⟩
abbrev s20 : Stmt := topS 20
theorem sc20 : FnScope ["_law_own", "_law_thing_here", "_law_found", "e"] ["_law_own", "_law_thing_here"] (defScope s20) := ⟨rfl, rfl, rfl, by decide +kernel, rfl, by decide +kernel, by decide +kernel⟩
abbrev s21 : Stmt := topS 21
theorem sc21 : FnScope ["_law_script", "_law_m", "_law_lap", "_law_thing_here", "_law_some", "_law_held", "_law_told", "_law_row", "_law_own", "_law_error"] ["_law_script"] (defScope s21) := ⟨rfl, rfl, rfl, by decide +kernel, rfl, by decide +kernel, by decide +kernel⟩
structure Tx (P : Program) (K : PySem.W.Frag) (mg : Str → Option Value) where
  f__law_of : Addr
  fd__law_of : FuncData
  F__law_of : Fun K "_law_of" "_law_of" s12 f__law_of fd__law_of
  m__law_of : mg "_law_of" = some (.ref f__law_of)
  b__law_of : Binds K fd__law_of ["_law_m", "_law_some"] []
  f__law_thing : Addr
  fd__law_thing : FuncData
  F__law_thing : Fun K "_law_thing" "_law_thing" s13 f__law_thing fd__law_thing
  m__law_thing : mg "_law_thing" = some (.ref f__law_thing)
  b__law_thing : Binds K fd__law_thing ["_law_m"] []
  f__law_all : Addr
  fd__law_all : FuncData
  F__law_all : Fun K "_law_all" "_law_all" s14 f__law_all fd__law_all
  m__law_all : mg "_law_all" = some (.ref f__law_all)
  b__law_all : Binds K fd__law_all ["_law_thing_here"] []
  f__law_named : Addr
  fd__law_named : FuncData
  F__law_named : Fun K "_law_named" "_law_named" s15 f__law_named fd__law_named
  m__law_named : mg "_law_named" = some (.ref f__law_named)
  b__law_named : Binds K fd__law_named ["_law_thing_here"] []
  f__law_fields : Addr
  fd__law_fields : FuncData
  F__law_fields : Fun K "_law_fields" "_law_fields" s16 f__law_fields fd__law_fields
  m__law_fields : mg "_law_fields" = some (.ref f__law_fields)
  b__law_fields : Binds K fd__law_fields ["_law_some"] []
  f__law_marks : Addr
  fd__law_marks : FuncData
  F__law_marks : Fun K "_law_marks" "_law_marks" s17 f__law_marks fd__law_marks
  m__law_marks : mg "_law_marks" = some (.ref f__law_marks)
  b__law_marks : Binds K fd__law_marks ["_law_error"] []
  f__law_due : Addr
  fd__law_due : FuncData
  F__law_due : Fun K "_law_due" "_law_due" s18 f__law_due fd__law_due
  m__law_due : mg "_law_due" = some (.ref f__law_due)
  b__law_due : Binds K fd__law_due ["_law_own"] []
  f__law_raised : Addr
  fd__law_raised : FuncData
  F__law_raised : Fun K "_law_raised" "_law_raised" s19 f__law_raised fd__law_raised
  m__law_raised : mg "_law_raised" = some (.ref f__law_raised)
  b__law_raised : Binds K fd__law_raised ["_law_own", "_law_thing_here"] []
  f__law_caught : Addr
  fd__law_caught : FuncData
  F__law_caught : Fun K "_law_caught" "_law_caught" s20 f__law_caught fd__law_caught
  m__law_caught : mg "_law_caught" = some (.ref f__law_caught)
  b__law_caught : Binds K fd__law_caught ["_law_own", "_law_thing_here"] []
  f_law : Addr
  fd_law : FuncData
  F_law : Fun K "law" "law" s21 f_law fd_law
  m_law : mg "law" = some (.ref f_law)
  b_law : Binds K fd_law ["_law_script"] []
  f__law_start : Addr
  fd__law_start : FuncData
  F__law_start : Fun K "_law_start" "_law_start" s10 f__law_start fd__law_start
  m__law_start : mg "_law_start" = some (.ref f__law_start)
  b__law_start : Binds K fd__law_start ["_law_script"] []
  f__law_next : Addr
  fd__law_next : FuncData
  F__law_next : Fun K "_law_next" "_law_next" s11 f__law_next fd__law_next
  m__law_next : mg "_law_next" = some (.ref f__law_next)
  b__law_next : Binds K fd__law_next ["_law_m", "_law_total"] []
  n_IndexError : mg "IndexError" = none
  n_KeyError : mg "KeyError" = none
  n_LookupError : mg "LookupError" = none
  n_OverflowError : mg "OverflowError" = none
  n_RuntimeError : mg "RuntimeError" = none
  n_ValueError : mg "ValueError" = none
  n_enumerate : mg "enumerate" = none
  n_int : mg "int" = none
  n_isinstance : mg "isinstance" = none
  n_len : mg "len" = none
  n_list : mg "list" = none
  n_min : mg "min" = none
  n_range : mg "range" = none
  n_repr : mg "repr" = none
  C_BadOrder : Addr
  fI_BadOrder : Addr
  x_BadOrder : PySem.EXN.Txt P K mg "BadOrder" "BadOrder.__init__" s1 C_BadOrder fI_BadOrder
  nn_BadOrder : PySem.W.findIn K (.ref C_BadOrder) "part" = some none
  C_BadHeap : Addr
  fI_BadHeap : Addr
  x_BadHeap : PySem.EXN.Txt P K mg "BadHeap" "BadHeap.__init__" s2 C_BadHeap fI_BadHeap
  nn_BadHeap : PySem.W.findIn K (.ref C_BadHeap) "number" = some none
  C_BadBoxes : Addr
  fI_BadBoxes : Addr
  x_BadBoxes : PySem.EXN.Txt P K mg "BadBoxes" "BadBoxes.__init__" s3 C_BadBoxes fI_BadBoxes
  nn_BadBoxes : PySem.W.findIn K (.ref C_BadBoxes) "number" = some none
  C_BadPaper : Addr
  fI_BadPaper : Addr
  x_BadPaper : PySem.EXN.Txt P K mg "BadPaper" "BadPaper.__init__" s4 C_BadPaper fI_BadPaper
  nn_BadPaper : PySem.W.findIn K (.ref C_BadPaper) "part" = some none
  C_BadText : Addr
  fI_BadText : Addr
  x_BadText : PySem.EXN.Txt P K mg "BadText" "BadText.__init__" s5 C_BadText fI_BadText
  nn_BadText : PySem.W.findIn K (.ref C_BadText) "line" = some none
  C_OutOfPlace : Addr
  fI_OutOfPlace : Addr
  x_OutOfPlace : PySem.EXN.Txt P K mg "OutOfPlace" "OutOfPlace.__init__" s6 C_OutOfPlace fI_OutOfPlace
  C_TooGreat : Addr
  fI_TooGreat : Addr
  x_TooGreat : PySem.EXN.Txt P K mg "TooGreat" "TooGreat.__init__" s7 C_TooGreat fI_TooGreat
  nn_TooGreat : PySem.W.findIn K (.ref C_TooGreat) "most" = some none
  C_Nothing : Addr
  fI_Nothing : Addr
  x_Nothing : PySem.EXN.Txt P K mg "Nothing" "Nothing.__init__" s8 C_Nothing fI_Nothing
  e_BadOrder_BadOrder : PySem.W.exmOne K (.ref C_BadOrder) (.ref C_BadOrder) = some true
  e_BadOrder_BadHeap : PySem.W.exmOne K (.ref C_BadOrder) (.ref C_BadHeap) = some false
  e_BadOrder_BadBoxes : PySem.W.exmOne K (.ref C_BadOrder) (.ref C_BadBoxes) = some false
  e_BadOrder_BadPaper : PySem.W.exmOne K (.ref C_BadOrder) (.ref C_BadPaper) = some false
  e_BadOrder_BadText : PySem.W.exmOne K (.ref C_BadOrder) (.ref C_BadText) = some false
  e_BadOrder_OutOfPlace : PySem.W.exmOne K (.ref C_BadOrder) (.ref C_OutOfPlace) = some false
  e_BadOrder_TooGreat : PySem.W.exmOne K (.ref C_BadOrder) (.ref C_TooGreat) = some false
  e_BadOrder_Nothing : PySem.W.exmOne K (.ref C_BadOrder) (.ref C_Nothing) = some false
  e_BadHeap_BadOrder : PySem.W.exmOne K (.ref C_BadHeap) (.ref C_BadOrder) = some false
  e_BadHeap_BadHeap : PySem.W.exmOne K (.ref C_BadHeap) (.ref C_BadHeap) = some true
  e_BadHeap_BadBoxes : PySem.W.exmOne K (.ref C_BadHeap) (.ref C_BadBoxes) = some false
  e_BadHeap_BadPaper : PySem.W.exmOne K (.ref C_BadHeap) (.ref C_BadPaper) = some false
  e_BadHeap_BadText : PySem.W.exmOne K (.ref C_BadHeap) (.ref C_BadText) = some false
  e_BadHeap_OutOfPlace : PySem.W.exmOne K (.ref C_BadHeap) (.ref C_OutOfPlace) = some false
  e_BadHeap_TooGreat : PySem.W.exmOne K (.ref C_BadHeap) (.ref C_TooGreat) = some false
  e_BadHeap_Nothing : PySem.W.exmOne K (.ref C_BadHeap) (.ref C_Nothing) = some false
  e_BadBoxes_BadOrder : PySem.W.exmOne K (.ref C_BadBoxes) (.ref C_BadOrder) = some false
  e_BadBoxes_BadHeap : PySem.W.exmOne K (.ref C_BadBoxes) (.ref C_BadHeap) = some false
  e_BadBoxes_BadBoxes : PySem.W.exmOne K (.ref C_BadBoxes) (.ref C_BadBoxes) = some true
  e_BadBoxes_BadPaper : PySem.W.exmOne K (.ref C_BadBoxes) (.ref C_BadPaper) = some false
  e_BadBoxes_BadText : PySem.W.exmOne K (.ref C_BadBoxes) (.ref C_BadText) = some false
  e_BadBoxes_OutOfPlace : PySem.W.exmOne K (.ref C_BadBoxes) (.ref C_OutOfPlace) = some false
  e_BadBoxes_TooGreat : PySem.W.exmOne K (.ref C_BadBoxes) (.ref C_TooGreat) = some false
  e_BadBoxes_Nothing : PySem.W.exmOne K (.ref C_BadBoxes) (.ref C_Nothing) = some false
  e_BadPaper_BadOrder : PySem.W.exmOne K (.ref C_BadPaper) (.ref C_BadOrder) = some false
  e_BadPaper_BadHeap : PySem.W.exmOne K (.ref C_BadPaper) (.ref C_BadHeap) = some false
  e_BadPaper_BadBoxes : PySem.W.exmOne K (.ref C_BadPaper) (.ref C_BadBoxes) = some false
  e_BadPaper_BadPaper : PySem.W.exmOne K (.ref C_BadPaper) (.ref C_BadPaper) = some true
  e_BadPaper_BadText : PySem.W.exmOne K (.ref C_BadPaper) (.ref C_BadText) = some false
  e_BadPaper_OutOfPlace : PySem.W.exmOne K (.ref C_BadPaper) (.ref C_OutOfPlace) = some false
  e_BadPaper_TooGreat : PySem.W.exmOne K (.ref C_BadPaper) (.ref C_TooGreat) = some false
  e_BadPaper_Nothing : PySem.W.exmOne K (.ref C_BadPaper) (.ref C_Nothing) = some false
  e_BadText_BadOrder : PySem.W.exmOne K (.ref C_BadText) (.ref C_BadOrder) = some false
  e_BadText_BadHeap : PySem.W.exmOne K (.ref C_BadText) (.ref C_BadHeap) = some false
  e_BadText_BadBoxes : PySem.W.exmOne K (.ref C_BadText) (.ref C_BadBoxes) = some false
  e_BadText_BadPaper : PySem.W.exmOne K (.ref C_BadText) (.ref C_BadPaper) = some false
  e_BadText_BadText : PySem.W.exmOne K (.ref C_BadText) (.ref C_BadText) = some true
  e_BadText_OutOfPlace : PySem.W.exmOne K (.ref C_BadText) (.ref C_OutOfPlace) = some false
  e_BadText_TooGreat : PySem.W.exmOne K (.ref C_BadText) (.ref C_TooGreat) = some false
  e_BadText_Nothing : PySem.W.exmOne K (.ref C_BadText) (.ref C_Nothing) = some false
  e_OutOfPlace_BadOrder : PySem.W.exmOne K (.ref C_OutOfPlace) (.ref C_BadOrder) = some false
  e_OutOfPlace_BadHeap : PySem.W.exmOne K (.ref C_OutOfPlace) (.ref C_BadHeap) = some false
  e_OutOfPlace_BadBoxes : PySem.W.exmOne K (.ref C_OutOfPlace) (.ref C_BadBoxes) = some false
  e_OutOfPlace_BadPaper : PySem.W.exmOne K (.ref C_OutOfPlace) (.ref C_BadPaper) = some false
  e_OutOfPlace_BadText : PySem.W.exmOne K (.ref C_OutOfPlace) (.ref C_BadText) = some false
  e_OutOfPlace_OutOfPlace : PySem.W.exmOne K (.ref C_OutOfPlace) (.ref C_OutOfPlace) = some true
  e_OutOfPlace_TooGreat : PySem.W.exmOne K (.ref C_OutOfPlace) (.ref C_TooGreat) = some false
  e_OutOfPlace_Nothing : PySem.W.exmOne K (.ref C_OutOfPlace) (.ref C_Nothing) = some false
  e_TooGreat_BadOrder : PySem.W.exmOne K (.ref C_TooGreat) (.ref C_BadOrder) = some false
  e_TooGreat_BadHeap : PySem.W.exmOne K (.ref C_TooGreat) (.ref C_BadHeap) = some false
  e_TooGreat_BadBoxes : PySem.W.exmOne K (.ref C_TooGreat) (.ref C_BadBoxes) = some false
  e_TooGreat_BadPaper : PySem.W.exmOne K (.ref C_TooGreat) (.ref C_BadPaper) = some false
  e_TooGreat_BadText : PySem.W.exmOne K (.ref C_TooGreat) (.ref C_BadText) = some false
  e_TooGreat_OutOfPlace : PySem.W.exmOne K (.ref C_TooGreat) (.ref C_OutOfPlace) = some false
  e_TooGreat_TooGreat : PySem.W.exmOne K (.ref C_TooGreat) (.ref C_TooGreat) = some true
  e_TooGreat_Nothing : PySem.W.exmOne K (.ref C_TooGreat) (.ref C_Nothing) = some false
  e_Nothing_BadOrder : PySem.W.exmOne K (.ref C_Nothing) (.ref C_BadOrder) = some false
  e_Nothing_BadHeap : PySem.W.exmOne K (.ref C_Nothing) (.ref C_BadHeap) = some false
  e_Nothing_BadBoxes : PySem.W.exmOne K (.ref C_Nothing) (.ref C_BadBoxes) = some false
  e_Nothing_BadPaper : PySem.W.exmOne K (.ref C_Nothing) (.ref C_BadPaper) = some false
  e_Nothing_BadText : PySem.W.exmOne K (.ref C_Nothing) (.ref C_BadText) = some false
  e_Nothing_OutOfPlace : PySem.W.exmOne K (.ref C_Nothing) (.ref C_OutOfPlace) = some false
  e_Nothing_TooGreat : PySem.W.exmOne K (.ref C_Nothing) (.ref C_TooGreat) = some false
  e_Nothing_Nothing : PySem.W.exmOne K (.ref C_Nothing) (.ref C_Nothing) = some true
  xc_BadOrder : L2.ExcC K C_BadOrder
  xc_BadHeap : L2.ExcC K C_BadHeap
  xc_BadBoxes : L2.ExcC K C_BadBoxes
  xc_BadPaper : L2.ExcC K C_BadPaper
  xc_BadText : L2.ExcC K C_BadText
  xc_OutOfPlace : L2.ExcC K C_OutOfPlace
  xc_TooGreat : L2.ExcC K C_TooGreat
  xc_Nothing : L2.ExcC K C_Nothing
  k_BadOrder_BadOrder : PySem.W.kitOne K (.ref C_BadOrder) (.ref C_BadOrder) = some true
  k_BadOrder_BadHeap : PySem.W.kitOne K (.ref C_BadOrder) (.ref C_BadHeap) = some false
  k_BadOrder_BadBoxes : PySem.W.kitOne K (.ref C_BadOrder) (.ref C_BadBoxes) = some false
  k_BadOrder_BadPaper : PySem.W.kitOne K (.ref C_BadOrder) (.ref C_BadPaper) = some false
  k_BadOrder_BadText : PySem.W.kitOne K (.ref C_BadOrder) (.ref C_BadText) = some false
  k_BadOrder_OutOfPlace : PySem.W.kitOne K (.ref C_BadOrder) (.ref C_OutOfPlace) = some false
  k_BadOrder_TooGreat : PySem.W.kitOne K (.ref C_BadOrder) (.ref C_TooGreat) = some false
  k_BadOrder_Nothing : PySem.W.kitOne K (.ref C_BadOrder) (.ref C_Nothing) = some false
  k_BadOrder_ValueError : PySem.W.kitOne K (.ref C_BadOrder) (.type "ValueError") = some true
  k_BadOrder_OverflowError : PySem.W.kitOne K (.ref C_BadOrder) (.type "OverflowError") = some false
  k_BadOrder_LookupError : PySem.W.kitOne K (.ref C_BadOrder) (.type "LookupError") = some false
  k_BadOrder_KeyError : PySem.W.kitOne K (.ref C_BadOrder) (.type "KeyError") = some false
  k_BadOrder_IndexError : PySem.W.kitOne K (.ref C_BadOrder) (.type "IndexError") = some false
  k_BadOrder_RuntimeError : PySem.W.kitOne K (.ref C_BadOrder) (.type "RuntimeError") = some false
  k_BadHeap_BadOrder : PySem.W.kitOne K (.ref C_BadHeap) (.ref C_BadOrder) = some false
  k_BadHeap_BadHeap : PySem.W.kitOne K (.ref C_BadHeap) (.ref C_BadHeap) = some true
  k_BadHeap_BadBoxes : PySem.W.kitOne K (.ref C_BadHeap) (.ref C_BadBoxes) = some false
  k_BadHeap_BadPaper : PySem.W.kitOne K (.ref C_BadHeap) (.ref C_BadPaper) = some false
  k_BadHeap_BadText : PySem.W.kitOne K (.ref C_BadHeap) (.ref C_BadText) = some false
  k_BadHeap_OutOfPlace : PySem.W.kitOne K (.ref C_BadHeap) (.ref C_OutOfPlace) = some false
  k_BadHeap_TooGreat : PySem.W.kitOne K (.ref C_BadHeap) (.ref C_TooGreat) = some false
  k_BadHeap_Nothing : PySem.W.kitOne K (.ref C_BadHeap) (.ref C_Nothing) = some false
  k_BadHeap_ValueError : PySem.W.kitOne K (.ref C_BadHeap) (.type "ValueError") = some true
  k_BadHeap_OverflowError : PySem.W.kitOne K (.ref C_BadHeap) (.type "OverflowError") = some false
  k_BadHeap_LookupError : PySem.W.kitOne K (.ref C_BadHeap) (.type "LookupError") = some false
  k_BadHeap_KeyError : PySem.W.kitOne K (.ref C_BadHeap) (.type "KeyError") = some false
  k_BadHeap_IndexError : PySem.W.kitOne K (.ref C_BadHeap) (.type "IndexError") = some false
  k_BadHeap_RuntimeError : PySem.W.kitOne K (.ref C_BadHeap) (.type "RuntimeError") = some false
  k_BadBoxes_BadOrder : PySem.W.kitOne K (.ref C_BadBoxes) (.ref C_BadOrder) = some false
  k_BadBoxes_BadHeap : PySem.W.kitOne K (.ref C_BadBoxes) (.ref C_BadHeap) = some false
  k_BadBoxes_BadBoxes : PySem.W.kitOne K (.ref C_BadBoxes) (.ref C_BadBoxes) = some true
  k_BadBoxes_BadPaper : PySem.W.kitOne K (.ref C_BadBoxes) (.ref C_BadPaper) = some false
  k_BadBoxes_BadText : PySem.W.kitOne K (.ref C_BadBoxes) (.ref C_BadText) = some false
  k_BadBoxes_OutOfPlace : PySem.W.kitOne K (.ref C_BadBoxes) (.ref C_OutOfPlace) = some false
  k_BadBoxes_TooGreat : PySem.W.kitOne K (.ref C_BadBoxes) (.ref C_TooGreat) = some false
  k_BadBoxes_Nothing : PySem.W.kitOne K (.ref C_BadBoxes) (.ref C_Nothing) = some false
  k_BadBoxes_ValueError : PySem.W.kitOne K (.ref C_BadBoxes) (.type "ValueError") = some true
  k_BadBoxes_OverflowError : PySem.W.kitOne K (.ref C_BadBoxes) (.type "OverflowError") = some false
  k_BadBoxes_LookupError : PySem.W.kitOne K (.ref C_BadBoxes) (.type "LookupError") = some false
  k_BadBoxes_KeyError : PySem.W.kitOne K (.ref C_BadBoxes) (.type "KeyError") = some false
  k_BadBoxes_IndexError : PySem.W.kitOne K (.ref C_BadBoxes) (.type "IndexError") = some false
  k_BadBoxes_RuntimeError : PySem.W.kitOne K (.ref C_BadBoxes) (.type "RuntimeError") = some false
  k_BadPaper_BadOrder : PySem.W.kitOne K (.ref C_BadPaper) (.ref C_BadOrder) = some false
  k_BadPaper_BadHeap : PySem.W.kitOne K (.ref C_BadPaper) (.ref C_BadHeap) = some false
  k_BadPaper_BadBoxes : PySem.W.kitOne K (.ref C_BadPaper) (.ref C_BadBoxes) = some false
  k_BadPaper_BadPaper : PySem.W.kitOne K (.ref C_BadPaper) (.ref C_BadPaper) = some true
  k_BadPaper_BadText : PySem.W.kitOne K (.ref C_BadPaper) (.ref C_BadText) = some false
  k_BadPaper_OutOfPlace : PySem.W.kitOne K (.ref C_BadPaper) (.ref C_OutOfPlace) = some false
  k_BadPaper_TooGreat : PySem.W.kitOne K (.ref C_BadPaper) (.ref C_TooGreat) = some false
  k_BadPaper_Nothing : PySem.W.kitOne K (.ref C_BadPaper) (.ref C_Nothing) = some false
  k_BadPaper_ValueError : PySem.W.kitOne K (.ref C_BadPaper) (.type "ValueError") = some true
  k_BadPaper_OverflowError : PySem.W.kitOne K (.ref C_BadPaper) (.type "OverflowError") = some false
  k_BadPaper_LookupError : PySem.W.kitOne K (.ref C_BadPaper) (.type "LookupError") = some false
  k_BadPaper_KeyError : PySem.W.kitOne K (.ref C_BadPaper) (.type "KeyError") = some false
  k_BadPaper_IndexError : PySem.W.kitOne K (.ref C_BadPaper) (.type "IndexError") = some false
  k_BadPaper_RuntimeError : PySem.W.kitOne K (.ref C_BadPaper) (.type "RuntimeError") = some false
  k_BadText_BadOrder : PySem.W.kitOne K (.ref C_BadText) (.ref C_BadOrder) = some false
  k_BadText_BadHeap : PySem.W.kitOne K (.ref C_BadText) (.ref C_BadHeap) = some false
  k_BadText_BadBoxes : PySem.W.kitOne K (.ref C_BadText) (.ref C_BadBoxes) = some false
  k_BadText_BadPaper : PySem.W.kitOne K (.ref C_BadText) (.ref C_BadPaper) = some false
  k_BadText_BadText : PySem.W.kitOne K (.ref C_BadText) (.ref C_BadText) = some true
  k_BadText_OutOfPlace : PySem.W.kitOne K (.ref C_BadText) (.ref C_OutOfPlace) = some false
  k_BadText_TooGreat : PySem.W.kitOne K (.ref C_BadText) (.ref C_TooGreat) = some false
  k_BadText_Nothing : PySem.W.kitOne K (.ref C_BadText) (.ref C_Nothing) = some false
  k_BadText_ValueError : PySem.W.kitOne K (.ref C_BadText) (.type "ValueError") = some true
  k_BadText_OverflowError : PySem.W.kitOne K (.ref C_BadText) (.type "OverflowError") = some false
  k_BadText_LookupError : PySem.W.kitOne K (.ref C_BadText) (.type "LookupError") = some false
  k_BadText_KeyError : PySem.W.kitOne K (.ref C_BadText) (.type "KeyError") = some false
  k_BadText_IndexError : PySem.W.kitOne K (.ref C_BadText) (.type "IndexError") = some false
  k_BadText_RuntimeError : PySem.W.kitOne K (.ref C_BadText) (.type "RuntimeError") = some false
  k_OutOfPlace_BadOrder : PySem.W.kitOne K (.ref C_OutOfPlace) (.ref C_BadOrder) = some false
  k_OutOfPlace_BadHeap : PySem.W.kitOne K (.ref C_OutOfPlace) (.ref C_BadHeap) = some false
  k_OutOfPlace_BadBoxes : PySem.W.kitOne K (.ref C_OutOfPlace) (.ref C_BadBoxes) = some false
  k_OutOfPlace_BadPaper : PySem.W.kitOne K (.ref C_OutOfPlace) (.ref C_BadPaper) = some false
  k_OutOfPlace_BadText : PySem.W.kitOne K (.ref C_OutOfPlace) (.ref C_BadText) = some false
  k_OutOfPlace_OutOfPlace : PySem.W.kitOne K (.ref C_OutOfPlace) (.ref C_OutOfPlace) = some true
  k_OutOfPlace_TooGreat : PySem.W.kitOne K (.ref C_OutOfPlace) (.ref C_TooGreat) = some false
  k_OutOfPlace_Nothing : PySem.W.kitOne K (.ref C_OutOfPlace) (.ref C_Nothing) = some false
  k_OutOfPlace_ValueError : PySem.W.kitOne K (.ref C_OutOfPlace) (.type "ValueError") = some true
  k_OutOfPlace_OverflowError : PySem.W.kitOne K (.ref C_OutOfPlace) (.type "OverflowError") = some false
  k_OutOfPlace_LookupError : PySem.W.kitOne K (.ref C_OutOfPlace) (.type "LookupError") = some false
  k_OutOfPlace_KeyError : PySem.W.kitOne K (.ref C_OutOfPlace) (.type "KeyError") = some false
  k_OutOfPlace_IndexError : PySem.W.kitOne K (.ref C_OutOfPlace) (.type "IndexError") = some false
  k_OutOfPlace_RuntimeError : PySem.W.kitOne K (.ref C_OutOfPlace) (.type "RuntimeError") = some false
  k_TooGreat_BadOrder : PySem.W.kitOne K (.ref C_TooGreat) (.ref C_BadOrder) = some false
  k_TooGreat_BadHeap : PySem.W.kitOne K (.ref C_TooGreat) (.ref C_BadHeap) = some false
  k_TooGreat_BadBoxes : PySem.W.kitOne K (.ref C_TooGreat) (.ref C_BadBoxes) = some false
  k_TooGreat_BadPaper : PySem.W.kitOne K (.ref C_TooGreat) (.ref C_BadPaper) = some false
  k_TooGreat_BadText : PySem.W.kitOne K (.ref C_TooGreat) (.ref C_BadText) = some false
  k_TooGreat_OutOfPlace : PySem.W.kitOne K (.ref C_TooGreat) (.ref C_OutOfPlace) = some false
  k_TooGreat_TooGreat : PySem.W.kitOne K (.ref C_TooGreat) (.ref C_TooGreat) = some true
  k_TooGreat_Nothing : PySem.W.kitOne K (.ref C_TooGreat) (.ref C_Nothing) = some false
  k_TooGreat_ValueError : PySem.W.kitOne K (.ref C_TooGreat) (.type "ValueError") = some false
  k_TooGreat_OverflowError : PySem.W.kitOne K (.ref C_TooGreat) (.type "OverflowError") = some true
  k_TooGreat_LookupError : PySem.W.kitOne K (.ref C_TooGreat) (.type "LookupError") = some false
  k_TooGreat_KeyError : PySem.W.kitOne K (.ref C_TooGreat) (.type "KeyError") = some false
  k_TooGreat_IndexError : PySem.W.kitOne K (.ref C_TooGreat) (.type "IndexError") = some false
  k_TooGreat_RuntimeError : PySem.W.kitOne K (.ref C_TooGreat) (.type "RuntimeError") = some false
  k_Nothing_BadOrder : PySem.W.kitOne K (.ref C_Nothing) (.ref C_BadOrder) = some false
  k_Nothing_BadHeap : PySem.W.kitOne K (.ref C_Nothing) (.ref C_BadHeap) = some false
  k_Nothing_BadBoxes : PySem.W.kitOne K (.ref C_Nothing) (.ref C_BadBoxes) = some false
  k_Nothing_BadPaper : PySem.W.kitOne K (.ref C_Nothing) (.ref C_BadPaper) = some false
  k_Nothing_BadText : PySem.W.kitOne K (.ref C_Nothing) (.ref C_BadText) = some false
  k_Nothing_OutOfPlace : PySem.W.kitOne K (.ref C_Nothing) (.ref C_OutOfPlace) = some false
  k_Nothing_TooGreat : PySem.W.kitOne K (.ref C_Nothing) (.ref C_TooGreat) = some false
  k_Nothing_Nothing : PySem.W.kitOne K (.ref C_Nothing) (.ref C_Nothing) = some true
  k_Nothing_ValueError : PySem.W.kitOne K (.ref C_Nothing) (.type "ValueError") = some false
  k_Nothing_OverflowError : PySem.W.kitOne K (.ref C_Nothing) (.type "OverflowError") = some false
  k_Nothing_LookupError : PySem.W.kitOne K (.ref C_Nothing) (.type "LookupError") = some true
  k_Nothing_KeyError : PySem.W.kitOne K (.ref C_Nothing) (.type "KeyError") = some false
  k_Nothing_IndexError : PySem.W.kitOne K (.ref C_Nothing) (.type "IndexError") = some false
  k_Nothing_RuntimeError : PySem.W.kitOne K (.ref C_Nothing) (.type "RuntimeError") = some false
section
variable {P : Program} {w : World} {K : PySem.W.Frag} {mg : Str → Option Value}
def cmOf (T : Tx P K mg) : CM := fun y => if y = "BadOrder" then some (T.C_BadOrder, some ("part" : Str)) else if y = "BadHeap" then some (T.C_BadHeap, some ("number" : Str)) else if y = "BadBoxes" then some (T.C_BadBoxes, some ("number" : Str)) else if y = "BadPaper" then some (T.C_BadPaper, some ("part" : Str)) else if y = "BadText" then some (T.C_BadText, some ("line" : Str)) else if y = "OutOfPlace" then some (T.C_OutOfPlace, none) else if y = "TooGreat" then some (T.C_TooGreat, some ("most" : Str)) else if y = "Nothing" then some (T.C_Nothing, none) else none
theorem cm_BadOrder (T : Tx P K mg) : cmOf T "BadOrder" = some (T.C_BadOrder, some ("part" : Str)) := by unfold cmOf; exact if_pos rfl
theorem fi_BadOrder (T : Tx P K mg) : PySem.EXN.FieldInit P w K mg T.C_BadOrder T.fI_BadOrder "part" := fun A R s x t0 v X hlim hg hb hx hnx hroom hq => init_BadOrder T.x_BadOrder X hlim hg hb hx hnx hroom T.nn_BadOrder hq
theorem mt_BadOrder (T : Tx P K mg) : ∀ y C fo, cmOf T y = some (C, fo) → PySem.W.exmOne K (.ref C) (.ref T.C_BadOrder) = some (DL.mt "BadOrder" y) := by
  intro y C fo h
  unfold cmOf at h
  by_cases h_BadOrder : y = "BadOrder"
  · rw [if_pos h_BadOrder] at h; cases h; subst h_BadOrder; exact T.e_BadOrder_BadOrder
  rw [if_neg h_BadOrder] at h
  by_cases h_BadHeap : y = "BadHeap"
  · rw [if_pos h_BadHeap] at h; cases h; subst h_BadHeap; exact T.e_BadHeap_BadOrder
  rw [if_neg h_BadHeap] at h
  by_cases h_BadBoxes : y = "BadBoxes"
  · rw [if_pos h_BadBoxes] at h; cases h; subst h_BadBoxes; exact T.e_BadBoxes_BadOrder
  rw [if_neg h_BadBoxes] at h
  by_cases h_BadPaper : y = "BadPaper"
  · rw [if_pos h_BadPaper] at h; cases h; subst h_BadPaper; exact T.e_BadPaper_BadOrder
  rw [if_neg h_BadPaper] at h
  by_cases h_BadText : y = "BadText"
  · rw [if_pos h_BadText] at h; cases h; subst h_BadText; exact T.e_BadText_BadOrder
  rw [if_neg h_BadText] at h
  by_cases h_OutOfPlace : y = "OutOfPlace"
  · rw [if_pos h_OutOfPlace] at h; cases h; subst h_OutOfPlace; exact T.e_OutOfPlace_BadOrder
  rw [if_neg h_OutOfPlace] at h
  by_cases h_TooGreat : y = "TooGreat"
  · rw [if_pos h_TooGreat] at h; cases h; subst h_TooGreat; exact T.e_TooGreat_BadOrder
  rw [if_neg h_TooGreat] at h
  by_cases h_Nothing : y = "Nothing"
  · rw [if_pos h_Nothing] at h; cases h; subst h_Nothing; exact T.e_Nothing_BadOrder
  rw [if_neg h_Nothing] at h
  cases h
theorem cm_BadHeap (T : Tx P K mg) : cmOf T "BadHeap" = some (T.C_BadHeap, some ("number" : Str)) := by unfold cmOf; rw [if_neg (by decide)]; exact if_pos rfl
theorem fi_BadHeap (T : Tx P K mg) : PySem.EXN.FieldInit P w K mg T.C_BadHeap T.fI_BadHeap "number" := fun A R s x t0 v X hlim hg hb hx hnx hroom hq => init_BadHeap T.x_BadHeap X hlim hg hb hx hnx hroom T.nn_BadHeap hq
theorem mt_BadHeap (T : Tx P K mg) : ∀ y C fo, cmOf T y = some (C, fo) → PySem.W.exmOne K (.ref C) (.ref T.C_BadHeap) = some (DL.mt "BadHeap" y) := by
  intro y C fo h
  unfold cmOf at h
  by_cases h_BadOrder : y = "BadOrder"
  · rw [if_pos h_BadOrder] at h; cases h; subst h_BadOrder; exact T.e_BadOrder_BadHeap
  rw [if_neg h_BadOrder] at h
  by_cases h_BadHeap : y = "BadHeap"
  · rw [if_pos h_BadHeap] at h; cases h; subst h_BadHeap; exact T.e_BadHeap_BadHeap
  rw [if_neg h_BadHeap] at h
  by_cases h_BadBoxes : y = "BadBoxes"
  · rw [if_pos h_BadBoxes] at h; cases h; subst h_BadBoxes; exact T.e_BadBoxes_BadHeap
  rw [if_neg h_BadBoxes] at h
  by_cases h_BadPaper : y = "BadPaper"
  · rw [if_pos h_BadPaper] at h; cases h; subst h_BadPaper; exact T.e_BadPaper_BadHeap
  rw [if_neg h_BadPaper] at h
  by_cases h_BadText : y = "BadText"
  · rw [if_pos h_BadText] at h; cases h; subst h_BadText; exact T.e_BadText_BadHeap
  rw [if_neg h_BadText] at h
  by_cases h_OutOfPlace : y = "OutOfPlace"
  · rw [if_pos h_OutOfPlace] at h; cases h; subst h_OutOfPlace; exact T.e_OutOfPlace_BadHeap
  rw [if_neg h_OutOfPlace] at h
  by_cases h_TooGreat : y = "TooGreat"
  · rw [if_pos h_TooGreat] at h; cases h; subst h_TooGreat; exact T.e_TooGreat_BadHeap
  rw [if_neg h_TooGreat] at h
  by_cases h_Nothing : y = "Nothing"
  · rw [if_pos h_Nothing] at h; cases h; subst h_Nothing; exact T.e_Nothing_BadHeap
  rw [if_neg h_Nothing] at h
  cases h
theorem cm_BadBoxes (T : Tx P K mg) : cmOf T "BadBoxes" = some (T.C_BadBoxes, some ("number" : Str)) := by unfold cmOf; rw [if_neg (by decide)]; rw [if_neg (by decide)]; exact if_pos rfl
theorem fi_BadBoxes (T : Tx P K mg) : PySem.EXN.FieldInit P w K mg T.C_BadBoxes T.fI_BadBoxes "number" := fun A R s x t0 v X hlim hg hb hx hnx hroom hq => init_BadBoxes T.x_BadBoxes X hlim hg hb hx hnx hroom T.nn_BadBoxes hq
theorem mt_BadBoxes (T : Tx P K mg) : ∀ y C fo, cmOf T y = some (C, fo) → PySem.W.exmOne K (.ref C) (.ref T.C_BadBoxes) = some (DL.mt "BadBoxes" y) := by
  intro y C fo h
  unfold cmOf at h
  by_cases h_BadOrder : y = "BadOrder"
  · rw [if_pos h_BadOrder] at h; cases h; subst h_BadOrder; exact T.e_BadOrder_BadBoxes
  rw [if_neg h_BadOrder] at h
  by_cases h_BadHeap : y = "BadHeap"
  · rw [if_pos h_BadHeap] at h; cases h; subst h_BadHeap; exact T.e_BadHeap_BadBoxes
  rw [if_neg h_BadHeap] at h
  by_cases h_BadBoxes : y = "BadBoxes"
  · rw [if_pos h_BadBoxes] at h; cases h; subst h_BadBoxes; exact T.e_BadBoxes_BadBoxes
  rw [if_neg h_BadBoxes] at h
  by_cases h_BadPaper : y = "BadPaper"
  · rw [if_pos h_BadPaper] at h; cases h; subst h_BadPaper; exact T.e_BadPaper_BadBoxes
  rw [if_neg h_BadPaper] at h
  by_cases h_BadText : y = "BadText"
  · rw [if_pos h_BadText] at h; cases h; subst h_BadText; exact T.e_BadText_BadBoxes
  rw [if_neg h_BadText] at h
  by_cases h_OutOfPlace : y = "OutOfPlace"
  · rw [if_pos h_OutOfPlace] at h; cases h; subst h_OutOfPlace; exact T.e_OutOfPlace_BadBoxes
  rw [if_neg h_OutOfPlace] at h
  by_cases h_TooGreat : y = "TooGreat"
  · rw [if_pos h_TooGreat] at h; cases h; subst h_TooGreat; exact T.e_TooGreat_BadBoxes
  rw [if_neg h_TooGreat] at h
  by_cases h_Nothing : y = "Nothing"
  · rw [if_pos h_Nothing] at h; cases h; subst h_Nothing; exact T.e_Nothing_BadBoxes
  rw [if_neg h_Nothing] at h
  cases h
theorem cm_BadPaper (T : Tx P K mg) : cmOf T "BadPaper" = some (T.C_BadPaper, some ("part" : Str)) := by unfold cmOf; rw [if_neg (by decide)]; rw [if_neg (by decide)]; rw [if_neg (by decide)]; exact if_pos rfl
theorem fi_BadPaper (T : Tx P K mg) : PySem.EXN.FieldInit P w K mg T.C_BadPaper T.fI_BadPaper "part" := fun A R s x t0 v X hlim hg hb hx hnx hroom hq => init_BadPaper T.x_BadPaper X hlim hg hb hx hnx hroom T.nn_BadPaper hq
theorem mt_BadPaper (T : Tx P K mg) : ∀ y C fo, cmOf T y = some (C, fo) → PySem.W.exmOne K (.ref C) (.ref T.C_BadPaper) = some (DL.mt "BadPaper" y) := by
  intro y C fo h
  unfold cmOf at h
  by_cases h_BadOrder : y = "BadOrder"
  · rw [if_pos h_BadOrder] at h; cases h; subst h_BadOrder; exact T.e_BadOrder_BadPaper
  rw [if_neg h_BadOrder] at h
  by_cases h_BadHeap : y = "BadHeap"
  · rw [if_pos h_BadHeap] at h; cases h; subst h_BadHeap; exact T.e_BadHeap_BadPaper
  rw [if_neg h_BadHeap] at h
  by_cases h_BadBoxes : y = "BadBoxes"
  · rw [if_pos h_BadBoxes] at h; cases h; subst h_BadBoxes; exact T.e_BadBoxes_BadPaper
  rw [if_neg h_BadBoxes] at h
  by_cases h_BadPaper : y = "BadPaper"
  · rw [if_pos h_BadPaper] at h; cases h; subst h_BadPaper; exact T.e_BadPaper_BadPaper
  rw [if_neg h_BadPaper] at h
  by_cases h_BadText : y = "BadText"
  · rw [if_pos h_BadText] at h; cases h; subst h_BadText; exact T.e_BadText_BadPaper
  rw [if_neg h_BadText] at h
  by_cases h_OutOfPlace : y = "OutOfPlace"
  · rw [if_pos h_OutOfPlace] at h; cases h; subst h_OutOfPlace; exact T.e_OutOfPlace_BadPaper
  rw [if_neg h_OutOfPlace] at h
  by_cases h_TooGreat : y = "TooGreat"
  · rw [if_pos h_TooGreat] at h; cases h; subst h_TooGreat; exact T.e_TooGreat_BadPaper
  rw [if_neg h_TooGreat] at h
  by_cases h_Nothing : y = "Nothing"
  · rw [if_pos h_Nothing] at h; cases h; subst h_Nothing; exact T.e_Nothing_BadPaper
  rw [if_neg h_Nothing] at h
  cases h
theorem cm_BadText (T : Tx P K mg) : cmOf T "BadText" = some (T.C_BadText, some ("line" : Str)) := by unfold cmOf; rw [if_neg (by decide)]; rw [if_neg (by decide)]; rw [if_neg (by decide)]; rw [if_neg (by decide)]; exact if_pos rfl
theorem fi_BadText (T : Tx P K mg) : PySem.EXN.FieldInit P w K mg T.C_BadText T.fI_BadText "line" := fun A R s x t0 v X hlim hg hb hx hnx hroom hq => init_BadText T.x_BadText X hlim hg hb hx hnx hroom T.nn_BadText hq
theorem mt_BadText (T : Tx P K mg) : ∀ y C fo, cmOf T y = some (C, fo) → PySem.W.exmOne K (.ref C) (.ref T.C_BadText) = some (DL.mt "BadText" y) := by
  intro y C fo h
  unfold cmOf at h
  by_cases h_BadOrder : y = "BadOrder"
  · rw [if_pos h_BadOrder] at h; cases h; subst h_BadOrder; exact T.e_BadOrder_BadText
  rw [if_neg h_BadOrder] at h
  by_cases h_BadHeap : y = "BadHeap"
  · rw [if_pos h_BadHeap] at h; cases h; subst h_BadHeap; exact T.e_BadHeap_BadText
  rw [if_neg h_BadHeap] at h
  by_cases h_BadBoxes : y = "BadBoxes"
  · rw [if_pos h_BadBoxes] at h; cases h; subst h_BadBoxes; exact T.e_BadBoxes_BadText
  rw [if_neg h_BadBoxes] at h
  by_cases h_BadPaper : y = "BadPaper"
  · rw [if_pos h_BadPaper] at h; cases h; subst h_BadPaper; exact T.e_BadPaper_BadText
  rw [if_neg h_BadPaper] at h
  by_cases h_BadText : y = "BadText"
  · rw [if_pos h_BadText] at h; cases h; subst h_BadText; exact T.e_BadText_BadText
  rw [if_neg h_BadText] at h
  by_cases h_OutOfPlace : y = "OutOfPlace"
  · rw [if_pos h_OutOfPlace] at h; cases h; subst h_OutOfPlace; exact T.e_OutOfPlace_BadText
  rw [if_neg h_OutOfPlace] at h
  by_cases h_TooGreat : y = "TooGreat"
  · rw [if_pos h_TooGreat] at h; cases h; subst h_TooGreat; exact T.e_TooGreat_BadText
  rw [if_neg h_TooGreat] at h
  by_cases h_Nothing : y = "Nothing"
  · rw [if_pos h_Nothing] at h; cases h; subst h_Nothing; exact T.e_Nothing_BadText
  rw [if_neg h_Nothing] at h
  cases h
theorem cm_OutOfPlace (T : Tx P K mg) : cmOf T "OutOfPlace" = some (T.C_OutOfPlace, none) := by unfold cmOf; rw [if_neg (by decide)]; rw [if_neg (by decide)]; rw [if_neg (by decide)]; rw [if_neg (by decide)]; rw [if_neg (by decide)]; exact if_pos rfl
theorem fi_OutOfPlace (T : Tx P K mg) : PySem.EXN.PlainInit P w K mg T.C_OutOfPlace T.fI_OutOfPlace := fun A R s x t0 v X hlim hg hb hx hnx hroom hq => init_OutOfPlace T.x_OutOfPlace X hlim hg hb hx hnx hroom hq
theorem mt_OutOfPlace (T : Tx P K mg) : ∀ y C fo, cmOf T y = some (C, fo) → PySem.W.exmOne K (.ref C) (.ref T.C_OutOfPlace) = some (DL.mt "OutOfPlace" y) := by
  intro y C fo h
  unfold cmOf at h
  by_cases h_BadOrder : y = "BadOrder"
  · rw [if_pos h_BadOrder] at h; cases h; subst h_BadOrder; exact T.e_BadOrder_OutOfPlace
  rw [if_neg h_BadOrder] at h
  by_cases h_BadHeap : y = "BadHeap"
  · rw [if_pos h_BadHeap] at h; cases h; subst h_BadHeap; exact T.e_BadHeap_OutOfPlace
  rw [if_neg h_BadHeap] at h
  by_cases h_BadBoxes : y = "BadBoxes"
  · rw [if_pos h_BadBoxes] at h; cases h; subst h_BadBoxes; exact T.e_BadBoxes_OutOfPlace
  rw [if_neg h_BadBoxes] at h
  by_cases h_BadPaper : y = "BadPaper"
  · rw [if_pos h_BadPaper] at h; cases h; subst h_BadPaper; exact T.e_BadPaper_OutOfPlace
  rw [if_neg h_BadPaper] at h
  by_cases h_BadText : y = "BadText"
  · rw [if_pos h_BadText] at h; cases h; subst h_BadText; exact T.e_BadText_OutOfPlace
  rw [if_neg h_BadText] at h
  by_cases h_OutOfPlace : y = "OutOfPlace"
  · rw [if_pos h_OutOfPlace] at h; cases h; subst h_OutOfPlace; exact T.e_OutOfPlace_OutOfPlace
  rw [if_neg h_OutOfPlace] at h
  by_cases h_TooGreat : y = "TooGreat"
  · rw [if_pos h_TooGreat] at h; cases h; subst h_TooGreat; exact T.e_TooGreat_OutOfPlace
  rw [if_neg h_TooGreat] at h
  by_cases h_Nothing : y = "Nothing"
  · rw [if_pos h_Nothing] at h; cases h; subst h_Nothing; exact T.e_Nothing_OutOfPlace
  rw [if_neg h_Nothing] at h
  cases h
theorem cm_TooGreat (T : Tx P K mg) : cmOf T "TooGreat" = some (T.C_TooGreat, some ("most" : Str)) := by unfold cmOf; rw [if_neg (by decide)]; rw [if_neg (by decide)]; rw [if_neg (by decide)]; rw [if_neg (by decide)]; rw [if_neg (by decide)]; rw [if_neg (by decide)]; exact if_pos rfl
theorem fi_TooGreat (T : Tx P K mg) : PySem.EXN.FieldInit P w K mg T.C_TooGreat T.fI_TooGreat "most" := fun A R s x t0 v X hlim hg hb hx hnx hroom hq => init_TooGreat T.x_TooGreat X hlim hg hb hx hnx hroom T.nn_TooGreat hq
theorem mt_TooGreat (T : Tx P K mg) : ∀ y C fo, cmOf T y = some (C, fo) → PySem.W.exmOne K (.ref C) (.ref T.C_TooGreat) = some (DL.mt "TooGreat" y) := by
  intro y C fo h
  unfold cmOf at h
  by_cases h_BadOrder : y = "BadOrder"
  · rw [if_pos h_BadOrder] at h; cases h; subst h_BadOrder; exact T.e_BadOrder_TooGreat
  rw [if_neg h_BadOrder] at h
  by_cases h_BadHeap : y = "BadHeap"
  · rw [if_pos h_BadHeap] at h; cases h; subst h_BadHeap; exact T.e_BadHeap_TooGreat
  rw [if_neg h_BadHeap] at h
  by_cases h_BadBoxes : y = "BadBoxes"
  · rw [if_pos h_BadBoxes] at h; cases h; subst h_BadBoxes; exact T.e_BadBoxes_TooGreat
  rw [if_neg h_BadBoxes] at h
  by_cases h_BadPaper : y = "BadPaper"
  · rw [if_pos h_BadPaper] at h; cases h; subst h_BadPaper; exact T.e_BadPaper_TooGreat
  rw [if_neg h_BadPaper] at h
  by_cases h_BadText : y = "BadText"
  · rw [if_pos h_BadText] at h; cases h; subst h_BadText; exact T.e_BadText_TooGreat
  rw [if_neg h_BadText] at h
  by_cases h_OutOfPlace : y = "OutOfPlace"
  · rw [if_pos h_OutOfPlace] at h; cases h; subst h_OutOfPlace; exact T.e_OutOfPlace_TooGreat
  rw [if_neg h_OutOfPlace] at h
  by_cases h_TooGreat : y = "TooGreat"
  · rw [if_pos h_TooGreat] at h; cases h; subst h_TooGreat; exact T.e_TooGreat_TooGreat
  rw [if_neg h_TooGreat] at h
  by_cases h_Nothing : y = "Nothing"
  · rw [if_pos h_Nothing] at h; cases h; subst h_Nothing; exact T.e_Nothing_TooGreat
  rw [if_neg h_Nothing] at h
  cases h
theorem cm_Nothing (T : Tx P K mg) : cmOf T "Nothing" = some (T.C_Nothing, none) := by unfold cmOf; rw [if_neg (by decide)]; rw [if_neg (by decide)]; rw [if_neg (by decide)]; rw [if_neg (by decide)]; rw [if_neg (by decide)]; rw [if_neg (by decide)]; rw [if_neg (by decide)]; exact if_pos rfl
theorem fi_Nothing (T : Tx P K mg) : PySem.EXN.PlainInit P w K mg T.C_Nothing T.fI_Nothing := fun A R s x t0 v X hlim hg hb hx hnx hroom hq => init_Nothing T.x_Nothing X hlim hg hb hx hnx hroom hq
theorem mt_Nothing (T : Tx P K mg) : ∀ y C fo, cmOf T y = some (C, fo) → PySem.W.exmOne K (.ref C) (.ref T.C_Nothing) = some (DL.mt "Nothing" y) := by
  intro y C fo h
  unfold cmOf at h
  by_cases h_BadOrder : y = "BadOrder"
  · rw [if_pos h_BadOrder] at h; cases h; subst h_BadOrder; exact T.e_BadOrder_Nothing
  rw [if_neg h_BadOrder] at h
  by_cases h_BadHeap : y = "BadHeap"
  · rw [if_pos h_BadHeap] at h; cases h; subst h_BadHeap; exact T.e_BadHeap_Nothing
  rw [if_neg h_BadHeap] at h
  by_cases h_BadBoxes : y = "BadBoxes"
  · rw [if_pos h_BadBoxes] at h; cases h; subst h_BadBoxes; exact T.e_BadBoxes_Nothing
  rw [if_neg h_BadBoxes] at h
  by_cases h_BadPaper : y = "BadPaper"
  · rw [if_pos h_BadPaper] at h; cases h; subst h_BadPaper; exact T.e_BadPaper_Nothing
  rw [if_neg h_BadPaper] at h
  by_cases h_BadText : y = "BadText"
  · rw [if_pos h_BadText] at h; cases h; subst h_BadText; exact T.e_BadText_Nothing
  rw [if_neg h_BadText] at h
  by_cases h_OutOfPlace : y = "OutOfPlace"
  · rw [if_pos h_OutOfPlace] at h; cases h; subst h_OutOfPlace; exact T.e_OutOfPlace_Nothing
  rw [if_neg h_OutOfPlace] at h
  by_cases h_TooGreat : y = "TooGreat"
  · rw [if_pos h_TooGreat] at h; cases h; subst h_TooGreat; exact T.e_TooGreat_Nothing
  rw [if_neg h_TooGreat] at h
  by_cases h_Nothing : y = "Nothing"
  · rw [if_pos h_Nothing] at h; cases h; subst h_Nothing; exact T.e_Nothing_Nothing
  rw [if_neg h_Nothing] at h
  cases h
theorem fiK_BadOrder (T : Tx P K mg) : PySem.EXN.FieldInitK P w K mg T.C_BadOrder T.fI_BadOrder "part" "part" := fun A R s x t0 v X hlim hg hb hx hnx hroom hq => initK_BadOrder T.x_BadOrder X hlim hg hb hx hnx hroom T.nn_BadOrder hq
theorem fiK_BadHeap (T : Tx P K mg) : PySem.EXN.FieldInitK P w K mg T.C_BadHeap T.fI_BadHeap "number" "number" := fun A R s x t0 v X hlim hg hb hx hnx hroom hq => initK_BadHeap T.x_BadHeap X hlim hg hb hx hnx hroom T.nn_BadHeap hq
theorem fiK_BadBoxes (T : Tx P K mg) : PySem.EXN.FieldInitK P w K mg T.C_BadBoxes T.fI_BadBoxes "number" "number" := fun A R s x t0 v X hlim hg hb hx hnx hroom hq => initK_BadBoxes T.x_BadBoxes X hlim hg hb hx hnx hroom T.nn_BadBoxes hq
theorem fiK_BadPaper (T : Tx P K mg) : PySem.EXN.FieldInitK P w K mg T.C_BadPaper T.fI_BadPaper "part" "part" := fun A R s x t0 v X hlim hg hb hx hnx hroom hq => initK_BadPaper T.x_BadPaper X hlim hg hb hx hnx hroom T.nn_BadPaper hq
theorem fiK_BadText (T : Tx P K mg) : PySem.EXN.FieldInitK P w K mg T.C_BadText T.fI_BadText "line" "line" := fun A R s x t0 v X hlim hg hb hx hnx hroom hq => initK_BadText T.x_BadText X hlim hg hb hx hnx hroom T.nn_BadText hq
theorem fiK_TooGreat (T : Tx P K mg) : PySem.EXN.FieldInitK P w K mg T.C_TooGreat T.fI_TooGreat "most" "most" := fun A R s x t0 v X hlim hg hb hx hnx hroom hq => initK_TooGreat T.x_TooGreat X hlim hg hb hx hnx hroom T.nn_TooGreat hq
theorem fe_part (T : Tx P K mg) : ∀ y ∈ [("BadOrder" : Str), ("BadPaper" : Str)], ∃ C, cmOf T y = some (C, some ("part" : Str)) ∧ DL.FldC K C "part" := by
  intro y hy
  rcases List.mem_cons.mp hy with rfl | hy
  · exact ⟨T.C_BadOrder, cm_BadOrder T, DL.fldC_of T.x_BadOrder T.nn_BadOrder⟩
  rcases List.mem_cons.mp hy with rfl | hy
  · exact ⟨T.C_BadPaper, cm_BadPaper T, DL.fldC_of T.x_BadPaper T.nn_BadPaper⟩
  cases hy
theorem fe_number (T : Tx P K mg) : ∀ y ∈ [("BadHeap" : Str), ("BadBoxes" : Str)], ∃ C, cmOf T y = some (C, some ("number" : Str)) ∧ DL.FldC K C "number" := by
  intro y hy
  rcases List.mem_cons.mp hy with rfl | hy
  · exact ⟨T.C_BadHeap, cm_BadHeap T, DL.fldC_of T.x_BadHeap T.nn_BadHeap⟩
  rcases List.mem_cons.mp hy with rfl | hy
  · exact ⟨T.C_BadBoxes, cm_BadBoxes T, DL.fldC_of T.x_BadBoxes T.nn_BadBoxes⟩
  cases hy
theorem fe_line (T : Tx P K mg) : ∀ y ∈ [("BadText" : Str)], ∃ C, cmOf T y = some (C, some ("line" : Str)) ∧ DL.FldC K C "line" := by
  intro y hy
  rcases List.mem_cons.mp hy with rfl | hy
  · exact ⟨T.C_BadText, cm_BadText T, DL.fldC_of T.x_BadText T.nn_BadText⟩
  cases hy
theorem fe_most (T : Tx P K mg) : ∀ y ∈ [("TooGreat" : Str)], ∃ C, cmOf T y = some (C, some ("most" : Str)) ∧ DL.FldC K C "most" := by
  intro y hy
  rcases List.mem_cons.mp hy with rfl | hy
  · exact ⟨T.C_TooGreat, cm_TooGreat T, DL.fldC_of T.x_TooGreat T.nn_TooGreat⟩
  cases hy
theorem ie_BadOrder (T : Tx P K mg) : ∀ y ∈ [("BadOrder" : Str), ("BadHeap" : Str), ("BadBoxes" : Str), ("BadPaper" : Str), ("BadText" : Str), ("OutOfPlace" : Str), ("TooGreat" : Str), ("Nothing" : Str)], ∃ C fo, cmOf T y = some (C, fo) ∧ L2.ExcC K C ∧ PySem.W.kitOne K (.ref C) (.ref T.C_BadOrder) = some (DL.isaE y "BadOrder") := by
  intro y hy
  rcases List.mem_cons.mp hy with rfl | hy
  · exact ⟨T.C_BadOrder, _, cm_BadOrder T, T.xc_BadOrder, T.k_BadOrder_BadOrder.trans (by decide +kernel)⟩
  rcases List.mem_cons.mp hy with rfl | hy
  · exact ⟨T.C_BadHeap, _, cm_BadHeap T, T.xc_BadHeap, T.k_BadHeap_BadOrder.trans (by decide +kernel)⟩
  rcases List.mem_cons.mp hy with rfl | hy
  · exact ⟨T.C_BadBoxes, _, cm_BadBoxes T, T.xc_BadBoxes, T.k_BadBoxes_BadOrder.trans (by decide +kernel)⟩
  rcases List.mem_cons.mp hy with rfl | hy
  · exact ⟨T.C_BadPaper, _, cm_BadPaper T, T.xc_BadPaper, T.k_BadPaper_BadOrder.trans (by decide +kernel)⟩
  rcases List.mem_cons.mp hy with rfl | hy
  · exact ⟨T.C_BadText, _, cm_BadText T, T.xc_BadText, T.k_BadText_BadOrder.trans (by decide +kernel)⟩
  rcases List.mem_cons.mp hy with rfl | hy
  · exact ⟨T.C_OutOfPlace, _, cm_OutOfPlace T, T.xc_OutOfPlace, T.k_OutOfPlace_BadOrder.trans (by decide +kernel)⟩
  rcases List.mem_cons.mp hy with rfl | hy
  · exact ⟨T.C_TooGreat, _, cm_TooGreat T, T.xc_TooGreat, T.k_TooGreat_BadOrder.trans (by decide +kernel)⟩
  rcases List.mem_cons.mp hy with rfl | hy
  · exact ⟨T.C_Nothing, _, cm_Nothing T, T.xc_Nothing, T.k_Nothing_BadOrder.trans (by decide +kernel)⟩
  cases hy
theorem ie_BadHeap (T : Tx P K mg) : ∀ y ∈ [("BadOrder" : Str), ("BadHeap" : Str), ("BadBoxes" : Str), ("BadPaper" : Str), ("BadText" : Str), ("OutOfPlace" : Str), ("TooGreat" : Str), ("Nothing" : Str)], ∃ C fo, cmOf T y = some (C, fo) ∧ L2.ExcC K C ∧ PySem.W.kitOne K (.ref C) (.ref T.C_BadHeap) = some (DL.isaE y "BadHeap") := by
  intro y hy
  rcases List.mem_cons.mp hy with rfl | hy
  · exact ⟨T.C_BadOrder, _, cm_BadOrder T, T.xc_BadOrder, T.k_BadOrder_BadHeap.trans (by decide +kernel)⟩
  rcases List.mem_cons.mp hy with rfl | hy
  · exact ⟨T.C_BadHeap, _, cm_BadHeap T, T.xc_BadHeap, T.k_BadHeap_BadHeap.trans (by decide +kernel)⟩
  rcases List.mem_cons.mp hy with rfl | hy
  · exact ⟨T.C_BadBoxes, _, cm_BadBoxes T, T.xc_BadBoxes, T.k_BadBoxes_BadHeap.trans (by decide +kernel)⟩
  rcases List.mem_cons.mp hy with rfl | hy
  · exact ⟨T.C_BadPaper, _, cm_BadPaper T, T.xc_BadPaper, T.k_BadPaper_BadHeap.trans (by decide +kernel)⟩
  rcases List.mem_cons.mp hy with rfl | hy
  · exact ⟨T.C_BadText, _, cm_BadText T, T.xc_BadText, T.k_BadText_BadHeap.trans (by decide +kernel)⟩
  rcases List.mem_cons.mp hy with rfl | hy
  · exact ⟨T.C_OutOfPlace, _, cm_OutOfPlace T, T.xc_OutOfPlace, T.k_OutOfPlace_BadHeap.trans (by decide +kernel)⟩
  rcases List.mem_cons.mp hy with rfl | hy
  · exact ⟨T.C_TooGreat, _, cm_TooGreat T, T.xc_TooGreat, T.k_TooGreat_BadHeap.trans (by decide +kernel)⟩
  rcases List.mem_cons.mp hy with rfl | hy
  · exact ⟨T.C_Nothing, _, cm_Nothing T, T.xc_Nothing, T.k_Nothing_BadHeap.trans (by decide +kernel)⟩
  cases hy
theorem ie_BadBoxes (T : Tx P K mg) : ∀ y ∈ [("BadOrder" : Str), ("BadHeap" : Str), ("BadBoxes" : Str), ("BadPaper" : Str), ("BadText" : Str), ("OutOfPlace" : Str), ("TooGreat" : Str), ("Nothing" : Str)], ∃ C fo, cmOf T y = some (C, fo) ∧ L2.ExcC K C ∧ PySem.W.kitOne K (.ref C) (.ref T.C_BadBoxes) = some (DL.isaE y "BadBoxes") := by
  intro y hy
  rcases List.mem_cons.mp hy with rfl | hy
  · exact ⟨T.C_BadOrder, _, cm_BadOrder T, T.xc_BadOrder, T.k_BadOrder_BadBoxes.trans (by decide +kernel)⟩
  rcases List.mem_cons.mp hy with rfl | hy
  · exact ⟨T.C_BadHeap, _, cm_BadHeap T, T.xc_BadHeap, T.k_BadHeap_BadBoxes.trans (by decide +kernel)⟩
  rcases List.mem_cons.mp hy with rfl | hy
  · exact ⟨T.C_BadBoxes, _, cm_BadBoxes T, T.xc_BadBoxes, T.k_BadBoxes_BadBoxes.trans (by decide +kernel)⟩
  rcases List.mem_cons.mp hy with rfl | hy
  · exact ⟨T.C_BadPaper, _, cm_BadPaper T, T.xc_BadPaper, T.k_BadPaper_BadBoxes.trans (by decide +kernel)⟩
  rcases List.mem_cons.mp hy with rfl | hy
  · exact ⟨T.C_BadText, _, cm_BadText T, T.xc_BadText, T.k_BadText_BadBoxes.trans (by decide +kernel)⟩
  rcases List.mem_cons.mp hy with rfl | hy
  · exact ⟨T.C_OutOfPlace, _, cm_OutOfPlace T, T.xc_OutOfPlace, T.k_OutOfPlace_BadBoxes.trans (by decide +kernel)⟩
  rcases List.mem_cons.mp hy with rfl | hy
  · exact ⟨T.C_TooGreat, _, cm_TooGreat T, T.xc_TooGreat, T.k_TooGreat_BadBoxes.trans (by decide +kernel)⟩
  rcases List.mem_cons.mp hy with rfl | hy
  · exact ⟨T.C_Nothing, _, cm_Nothing T, T.xc_Nothing, T.k_Nothing_BadBoxes.trans (by decide +kernel)⟩
  cases hy
theorem ie_BadPaper (T : Tx P K mg) : ∀ y ∈ [("BadOrder" : Str), ("BadHeap" : Str), ("BadBoxes" : Str), ("BadPaper" : Str), ("BadText" : Str), ("OutOfPlace" : Str), ("TooGreat" : Str), ("Nothing" : Str)], ∃ C fo, cmOf T y = some (C, fo) ∧ L2.ExcC K C ∧ PySem.W.kitOne K (.ref C) (.ref T.C_BadPaper) = some (DL.isaE y "BadPaper") := by
  intro y hy
  rcases List.mem_cons.mp hy with rfl | hy
  · exact ⟨T.C_BadOrder, _, cm_BadOrder T, T.xc_BadOrder, T.k_BadOrder_BadPaper.trans (by decide +kernel)⟩
  rcases List.mem_cons.mp hy with rfl | hy
  · exact ⟨T.C_BadHeap, _, cm_BadHeap T, T.xc_BadHeap, T.k_BadHeap_BadPaper.trans (by decide +kernel)⟩
  rcases List.mem_cons.mp hy with rfl | hy
  · exact ⟨T.C_BadBoxes, _, cm_BadBoxes T, T.xc_BadBoxes, T.k_BadBoxes_BadPaper.trans (by decide +kernel)⟩
  rcases List.mem_cons.mp hy with rfl | hy
  · exact ⟨T.C_BadPaper, _, cm_BadPaper T, T.xc_BadPaper, T.k_BadPaper_BadPaper.trans (by decide +kernel)⟩
  rcases List.mem_cons.mp hy with rfl | hy
  · exact ⟨T.C_BadText, _, cm_BadText T, T.xc_BadText, T.k_BadText_BadPaper.trans (by decide +kernel)⟩
  rcases List.mem_cons.mp hy with rfl | hy
  · exact ⟨T.C_OutOfPlace, _, cm_OutOfPlace T, T.xc_OutOfPlace, T.k_OutOfPlace_BadPaper.trans (by decide +kernel)⟩
  rcases List.mem_cons.mp hy with rfl | hy
  · exact ⟨T.C_TooGreat, _, cm_TooGreat T, T.xc_TooGreat, T.k_TooGreat_BadPaper.trans (by decide +kernel)⟩
  rcases List.mem_cons.mp hy with rfl | hy
  · exact ⟨T.C_Nothing, _, cm_Nothing T, T.xc_Nothing, T.k_Nothing_BadPaper.trans (by decide +kernel)⟩
  cases hy
theorem ie_BadText (T : Tx P K mg) : ∀ y ∈ [("BadOrder" : Str), ("BadHeap" : Str), ("BadBoxes" : Str), ("BadPaper" : Str), ("BadText" : Str), ("OutOfPlace" : Str), ("TooGreat" : Str), ("Nothing" : Str)], ∃ C fo, cmOf T y = some (C, fo) ∧ L2.ExcC K C ∧ PySem.W.kitOne K (.ref C) (.ref T.C_BadText) = some (DL.isaE y "BadText") := by
  intro y hy
  rcases List.mem_cons.mp hy with rfl | hy
  · exact ⟨T.C_BadOrder, _, cm_BadOrder T, T.xc_BadOrder, T.k_BadOrder_BadText.trans (by decide +kernel)⟩
  rcases List.mem_cons.mp hy with rfl | hy
  · exact ⟨T.C_BadHeap, _, cm_BadHeap T, T.xc_BadHeap, T.k_BadHeap_BadText.trans (by decide +kernel)⟩
  rcases List.mem_cons.mp hy with rfl | hy
  · exact ⟨T.C_BadBoxes, _, cm_BadBoxes T, T.xc_BadBoxes, T.k_BadBoxes_BadText.trans (by decide +kernel)⟩
  rcases List.mem_cons.mp hy with rfl | hy
  · exact ⟨T.C_BadPaper, _, cm_BadPaper T, T.xc_BadPaper, T.k_BadPaper_BadText.trans (by decide +kernel)⟩
  rcases List.mem_cons.mp hy with rfl | hy
  · exact ⟨T.C_BadText, _, cm_BadText T, T.xc_BadText, T.k_BadText_BadText.trans (by decide +kernel)⟩
  rcases List.mem_cons.mp hy with rfl | hy
  · exact ⟨T.C_OutOfPlace, _, cm_OutOfPlace T, T.xc_OutOfPlace, T.k_OutOfPlace_BadText.trans (by decide +kernel)⟩
  rcases List.mem_cons.mp hy with rfl | hy
  · exact ⟨T.C_TooGreat, _, cm_TooGreat T, T.xc_TooGreat, T.k_TooGreat_BadText.trans (by decide +kernel)⟩
  rcases List.mem_cons.mp hy with rfl | hy
  · exact ⟨T.C_Nothing, _, cm_Nothing T, T.xc_Nothing, T.k_Nothing_BadText.trans (by decide +kernel)⟩
  cases hy
theorem ie_OutOfPlace (T : Tx P K mg) : ∀ y ∈ [("BadOrder" : Str), ("BadHeap" : Str), ("BadBoxes" : Str), ("BadPaper" : Str), ("BadText" : Str), ("OutOfPlace" : Str), ("TooGreat" : Str), ("Nothing" : Str)], ∃ C fo, cmOf T y = some (C, fo) ∧ L2.ExcC K C ∧ PySem.W.kitOne K (.ref C) (.ref T.C_OutOfPlace) = some (DL.isaE y "OutOfPlace") := by
  intro y hy
  rcases List.mem_cons.mp hy with rfl | hy
  · exact ⟨T.C_BadOrder, _, cm_BadOrder T, T.xc_BadOrder, T.k_BadOrder_OutOfPlace.trans (by decide +kernel)⟩
  rcases List.mem_cons.mp hy with rfl | hy
  · exact ⟨T.C_BadHeap, _, cm_BadHeap T, T.xc_BadHeap, T.k_BadHeap_OutOfPlace.trans (by decide +kernel)⟩
  rcases List.mem_cons.mp hy with rfl | hy
  · exact ⟨T.C_BadBoxes, _, cm_BadBoxes T, T.xc_BadBoxes, T.k_BadBoxes_OutOfPlace.trans (by decide +kernel)⟩
  rcases List.mem_cons.mp hy with rfl | hy
  · exact ⟨T.C_BadPaper, _, cm_BadPaper T, T.xc_BadPaper, T.k_BadPaper_OutOfPlace.trans (by decide +kernel)⟩
  rcases List.mem_cons.mp hy with rfl | hy
  · exact ⟨T.C_BadText, _, cm_BadText T, T.xc_BadText, T.k_BadText_OutOfPlace.trans (by decide +kernel)⟩
  rcases List.mem_cons.mp hy with rfl | hy
  · exact ⟨T.C_OutOfPlace, _, cm_OutOfPlace T, T.xc_OutOfPlace, T.k_OutOfPlace_OutOfPlace.trans (by decide +kernel)⟩
  rcases List.mem_cons.mp hy with rfl | hy
  · exact ⟨T.C_TooGreat, _, cm_TooGreat T, T.xc_TooGreat, T.k_TooGreat_OutOfPlace.trans (by decide +kernel)⟩
  rcases List.mem_cons.mp hy with rfl | hy
  · exact ⟨T.C_Nothing, _, cm_Nothing T, T.xc_Nothing, T.k_Nothing_OutOfPlace.trans (by decide +kernel)⟩
  cases hy
theorem ie_TooGreat (T : Tx P K mg) : ∀ y ∈ [("BadOrder" : Str), ("BadHeap" : Str), ("BadBoxes" : Str), ("BadPaper" : Str), ("BadText" : Str), ("OutOfPlace" : Str), ("TooGreat" : Str), ("Nothing" : Str)], ∃ C fo, cmOf T y = some (C, fo) ∧ L2.ExcC K C ∧ PySem.W.kitOne K (.ref C) (.ref T.C_TooGreat) = some (DL.isaE y "TooGreat") := by
  intro y hy
  rcases List.mem_cons.mp hy with rfl | hy
  · exact ⟨T.C_BadOrder, _, cm_BadOrder T, T.xc_BadOrder, T.k_BadOrder_TooGreat.trans (by decide +kernel)⟩
  rcases List.mem_cons.mp hy with rfl | hy
  · exact ⟨T.C_BadHeap, _, cm_BadHeap T, T.xc_BadHeap, T.k_BadHeap_TooGreat.trans (by decide +kernel)⟩
  rcases List.mem_cons.mp hy with rfl | hy
  · exact ⟨T.C_BadBoxes, _, cm_BadBoxes T, T.xc_BadBoxes, T.k_BadBoxes_TooGreat.trans (by decide +kernel)⟩
  rcases List.mem_cons.mp hy with rfl | hy
  · exact ⟨T.C_BadPaper, _, cm_BadPaper T, T.xc_BadPaper, T.k_BadPaper_TooGreat.trans (by decide +kernel)⟩
  rcases List.mem_cons.mp hy with rfl | hy
  · exact ⟨T.C_BadText, _, cm_BadText T, T.xc_BadText, T.k_BadText_TooGreat.trans (by decide +kernel)⟩
  rcases List.mem_cons.mp hy with rfl | hy
  · exact ⟨T.C_OutOfPlace, _, cm_OutOfPlace T, T.xc_OutOfPlace, T.k_OutOfPlace_TooGreat.trans (by decide +kernel)⟩
  rcases List.mem_cons.mp hy with rfl | hy
  · exact ⟨T.C_TooGreat, _, cm_TooGreat T, T.xc_TooGreat, T.k_TooGreat_TooGreat.trans (by decide +kernel)⟩
  rcases List.mem_cons.mp hy with rfl | hy
  · exact ⟨T.C_Nothing, _, cm_Nothing T, T.xc_Nothing, T.k_Nothing_TooGreat.trans (by decide +kernel)⟩
  cases hy
theorem ie_Nothing (T : Tx P K mg) : ∀ y ∈ [("BadOrder" : Str), ("BadHeap" : Str), ("BadBoxes" : Str), ("BadPaper" : Str), ("BadText" : Str), ("OutOfPlace" : Str), ("TooGreat" : Str), ("Nothing" : Str)], ∃ C fo, cmOf T y = some (C, fo) ∧ L2.ExcC K C ∧ PySem.W.kitOne K (.ref C) (.ref T.C_Nothing) = some (DL.isaE y "Nothing") := by
  intro y hy
  rcases List.mem_cons.mp hy with rfl | hy
  · exact ⟨T.C_BadOrder, _, cm_BadOrder T, T.xc_BadOrder, T.k_BadOrder_Nothing.trans (by decide +kernel)⟩
  rcases List.mem_cons.mp hy with rfl | hy
  · exact ⟨T.C_BadHeap, _, cm_BadHeap T, T.xc_BadHeap, T.k_BadHeap_Nothing.trans (by decide +kernel)⟩
  rcases List.mem_cons.mp hy with rfl | hy
  · exact ⟨T.C_BadBoxes, _, cm_BadBoxes T, T.xc_BadBoxes, T.k_BadBoxes_Nothing.trans (by decide +kernel)⟩
  rcases List.mem_cons.mp hy with rfl | hy
  · exact ⟨T.C_BadPaper, _, cm_BadPaper T, T.xc_BadPaper, T.k_BadPaper_Nothing.trans (by decide +kernel)⟩
  rcases List.mem_cons.mp hy with rfl | hy
  · exact ⟨T.C_BadText, _, cm_BadText T, T.xc_BadText, T.k_BadText_Nothing.trans (by decide +kernel)⟩
  rcases List.mem_cons.mp hy with rfl | hy
  · exact ⟨T.C_OutOfPlace, _, cm_OutOfPlace T, T.xc_OutOfPlace, T.k_OutOfPlace_Nothing.trans (by decide +kernel)⟩
  rcases List.mem_cons.mp hy with rfl | hy
  · exact ⟨T.C_TooGreat, _, cm_TooGreat T, T.xc_TooGreat, T.k_TooGreat_Nothing.trans (by decide +kernel)⟩
  rcases List.mem_cons.mp hy with rfl | hy
  · exact ⟨T.C_Nothing, _, cm_Nothing T, T.xc_Nothing, T.k_Nothing_Nothing.trans (by decide +kernel)⟩
  cases hy
theorem ie_ValueError (T : Tx P K mg) : ∀ y ∈ [("BadOrder" : Str), ("BadHeap" : Str), ("BadBoxes" : Str), ("BadPaper" : Str), ("BadText" : Str), ("OutOfPlace" : Str), ("TooGreat" : Str), ("Nothing" : Str)], ∃ C fo, cmOf T y = some (C, fo) ∧ L2.ExcC K C ∧ PySem.W.kitOne K (.ref C) (.type "ValueError") = some (DL.isaE y "ValueError") := by
  intro y hy
  rcases List.mem_cons.mp hy with rfl | hy
  · exact ⟨T.C_BadOrder, _, cm_BadOrder T, T.xc_BadOrder, T.k_BadOrder_ValueError.trans (by decide +kernel)⟩
  rcases List.mem_cons.mp hy with rfl | hy
  · exact ⟨T.C_BadHeap, _, cm_BadHeap T, T.xc_BadHeap, T.k_BadHeap_ValueError.trans (by decide +kernel)⟩
  rcases List.mem_cons.mp hy with rfl | hy
  · exact ⟨T.C_BadBoxes, _, cm_BadBoxes T, T.xc_BadBoxes, T.k_BadBoxes_ValueError.trans (by decide +kernel)⟩
  rcases List.mem_cons.mp hy with rfl | hy
  · exact ⟨T.C_BadPaper, _, cm_BadPaper T, T.xc_BadPaper, T.k_BadPaper_ValueError.trans (by decide +kernel)⟩
  rcases List.mem_cons.mp hy with rfl | hy
  · exact ⟨T.C_BadText, _, cm_BadText T, T.xc_BadText, T.k_BadText_ValueError.trans (by decide +kernel)⟩
  rcases List.mem_cons.mp hy with rfl | hy
  · exact ⟨T.C_OutOfPlace, _, cm_OutOfPlace T, T.xc_OutOfPlace, T.k_OutOfPlace_ValueError.trans (by decide +kernel)⟩
  rcases List.mem_cons.mp hy with rfl | hy
  · exact ⟨T.C_TooGreat, _, cm_TooGreat T, T.xc_TooGreat, T.k_TooGreat_ValueError.trans (by decide +kernel)⟩
  rcases List.mem_cons.mp hy with rfl | hy
  · exact ⟨T.C_Nothing, _, cm_Nothing T, T.xc_Nothing, T.k_Nothing_ValueError.trans (by decide +kernel)⟩
  cases hy
theorem ie_OverflowError (T : Tx P K mg) : ∀ y ∈ [("BadOrder" : Str), ("BadHeap" : Str), ("BadBoxes" : Str), ("BadPaper" : Str), ("BadText" : Str), ("OutOfPlace" : Str), ("TooGreat" : Str), ("Nothing" : Str)], ∃ C fo, cmOf T y = some (C, fo) ∧ L2.ExcC K C ∧ PySem.W.kitOne K (.ref C) (.type "OverflowError") = some (DL.isaE y "OverflowError") := by
  intro y hy
  rcases List.mem_cons.mp hy with rfl | hy
  · exact ⟨T.C_BadOrder, _, cm_BadOrder T, T.xc_BadOrder, T.k_BadOrder_OverflowError.trans (by decide +kernel)⟩
  rcases List.mem_cons.mp hy with rfl | hy
  · exact ⟨T.C_BadHeap, _, cm_BadHeap T, T.xc_BadHeap, T.k_BadHeap_OverflowError.trans (by decide +kernel)⟩
  rcases List.mem_cons.mp hy with rfl | hy
  · exact ⟨T.C_BadBoxes, _, cm_BadBoxes T, T.xc_BadBoxes, T.k_BadBoxes_OverflowError.trans (by decide +kernel)⟩
  rcases List.mem_cons.mp hy with rfl | hy
  · exact ⟨T.C_BadPaper, _, cm_BadPaper T, T.xc_BadPaper, T.k_BadPaper_OverflowError.trans (by decide +kernel)⟩
  rcases List.mem_cons.mp hy with rfl | hy
  · exact ⟨T.C_BadText, _, cm_BadText T, T.xc_BadText, T.k_BadText_OverflowError.trans (by decide +kernel)⟩
  rcases List.mem_cons.mp hy with rfl | hy
  · exact ⟨T.C_OutOfPlace, _, cm_OutOfPlace T, T.xc_OutOfPlace, T.k_OutOfPlace_OverflowError.trans (by decide +kernel)⟩
  rcases List.mem_cons.mp hy with rfl | hy
  · exact ⟨T.C_TooGreat, _, cm_TooGreat T, T.xc_TooGreat, T.k_TooGreat_OverflowError.trans (by decide +kernel)⟩
  rcases List.mem_cons.mp hy with rfl | hy
  · exact ⟨T.C_Nothing, _, cm_Nothing T, T.xc_Nothing, T.k_Nothing_OverflowError.trans (by decide +kernel)⟩
  cases hy
theorem ie_LookupError (T : Tx P K mg) : ∀ y ∈ [("BadOrder" : Str), ("BadHeap" : Str), ("BadBoxes" : Str), ("BadPaper" : Str), ("BadText" : Str), ("OutOfPlace" : Str), ("TooGreat" : Str), ("Nothing" : Str)], ∃ C fo, cmOf T y = some (C, fo) ∧ L2.ExcC K C ∧ PySem.W.kitOne K (.ref C) (.type "LookupError") = some (DL.isaE y "LookupError") := by
  intro y hy
  rcases List.mem_cons.mp hy with rfl | hy
  · exact ⟨T.C_BadOrder, _, cm_BadOrder T, T.xc_BadOrder, T.k_BadOrder_LookupError.trans (by decide +kernel)⟩
  rcases List.mem_cons.mp hy with rfl | hy
  · exact ⟨T.C_BadHeap, _, cm_BadHeap T, T.xc_BadHeap, T.k_BadHeap_LookupError.trans (by decide +kernel)⟩
  rcases List.mem_cons.mp hy with rfl | hy
  · exact ⟨T.C_BadBoxes, _, cm_BadBoxes T, T.xc_BadBoxes, T.k_BadBoxes_LookupError.trans (by decide +kernel)⟩
  rcases List.mem_cons.mp hy with rfl | hy
  · exact ⟨T.C_BadPaper, _, cm_BadPaper T, T.xc_BadPaper, T.k_BadPaper_LookupError.trans (by decide +kernel)⟩
  rcases List.mem_cons.mp hy with rfl | hy
  · exact ⟨T.C_BadText, _, cm_BadText T, T.xc_BadText, T.k_BadText_LookupError.trans (by decide +kernel)⟩
  rcases List.mem_cons.mp hy with rfl | hy
  · exact ⟨T.C_OutOfPlace, _, cm_OutOfPlace T, T.xc_OutOfPlace, T.k_OutOfPlace_LookupError.trans (by decide +kernel)⟩
  rcases List.mem_cons.mp hy with rfl | hy
  · exact ⟨T.C_TooGreat, _, cm_TooGreat T, T.xc_TooGreat, T.k_TooGreat_LookupError.trans (by decide +kernel)⟩
  rcases List.mem_cons.mp hy with rfl | hy
  · exact ⟨T.C_Nothing, _, cm_Nothing T, T.xc_Nothing, T.k_Nothing_LookupError.trans (by decide +kernel)⟩
  cases hy
theorem ie_KeyError (T : Tx P K mg) : ∀ y ∈ [("BadOrder" : Str), ("BadHeap" : Str), ("BadBoxes" : Str), ("BadPaper" : Str), ("BadText" : Str), ("OutOfPlace" : Str), ("TooGreat" : Str), ("Nothing" : Str)], ∃ C fo, cmOf T y = some (C, fo) ∧ L2.ExcC K C ∧ PySem.W.kitOne K (.ref C) (.type "KeyError") = some (DL.isaE y "KeyError") := by
  intro y hy
  rcases List.mem_cons.mp hy with rfl | hy
  · exact ⟨T.C_BadOrder, _, cm_BadOrder T, T.xc_BadOrder, T.k_BadOrder_KeyError.trans (by decide +kernel)⟩
  rcases List.mem_cons.mp hy with rfl | hy
  · exact ⟨T.C_BadHeap, _, cm_BadHeap T, T.xc_BadHeap, T.k_BadHeap_KeyError.trans (by decide +kernel)⟩
  rcases List.mem_cons.mp hy with rfl | hy
  · exact ⟨T.C_BadBoxes, _, cm_BadBoxes T, T.xc_BadBoxes, T.k_BadBoxes_KeyError.trans (by decide +kernel)⟩
  rcases List.mem_cons.mp hy with rfl | hy
  · exact ⟨T.C_BadPaper, _, cm_BadPaper T, T.xc_BadPaper, T.k_BadPaper_KeyError.trans (by decide +kernel)⟩
  rcases List.mem_cons.mp hy with rfl | hy
  · exact ⟨T.C_BadText, _, cm_BadText T, T.xc_BadText, T.k_BadText_KeyError.trans (by decide +kernel)⟩
  rcases List.mem_cons.mp hy with rfl | hy
  · exact ⟨T.C_OutOfPlace, _, cm_OutOfPlace T, T.xc_OutOfPlace, T.k_OutOfPlace_KeyError.trans (by decide +kernel)⟩
  rcases List.mem_cons.mp hy with rfl | hy
  · exact ⟨T.C_TooGreat, _, cm_TooGreat T, T.xc_TooGreat, T.k_TooGreat_KeyError.trans (by decide +kernel)⟩
  rcases List.mem_cons.mp hy with rfl | hy
  · exact ⟨T.C_Nothing, _, cm_Nothing T, T.xc_Nothing, T.k_Nothing_KeyError.trans (by decide +kernel)⟩
  cases hy
theorem ie_IndexError (T : Tx P K mg) : ∀ y ∈ [("BadOrder" : Str), ("BadHeap" : Str), ("BadBoxes" : Str), ("BadPaper" : Str), ("BadText" : Str), ("OutOfPlace" : Str), ("TooGreat" : Str), ("Nothing" : Str)], ∃ C fo, cmOf T y = some (C, fo) ∧ L2.ExcC K C ∧ PySem.W.kitOne K (.ref C) (.type "IndexError") = some (DL.isaE y "IndexError") := by
  intro y hy
  rcases List.mem_cons.mp hy with rfl | hy
  · exact ⟨T.C_BadOrder, _, cm_BadOrder T, T.xc_BadOrder, T.k_BadOrder_IndexError.trans (by decide +kernel)⟩
  rcases List.mem_cons.mp hy with rfl | hy
  · exact ⟨T.C_BadHeap, _, cm_BadHeap T, T.xc_BadHeap, T.k_BadHeap_IndexError.trans (by decide +kernel)⟩
  rcases List.mem_cons.mp hy with rfl | hy
  · exact ⟨T.C_BadBoxes, _, cm_BadBoxes T, T.xc_BadBoxes, T.k_BadBoxes_IndexError.trans (by decide +kernel)⟩
  rcases List.mem_cons.mp hy with rfl | hy
  · exact ⟨T.C_BadPaper, _, cm_BadPaper T, T.xc_BadPaper, T.k_BadPaper_IndexError.trans (by decide +kernel)⟩
  rcases List.mem_cons.mp hy with rfl | hy
  · exact ⟨T.C_BadText, _, cm_BadText T, T.xc_BadText, T.k_BadText_IndexError.trans (by decide +kernel)⟩
  rcases List.mem_cons.mp hy with rfl | hy
  · exact ⟨T.C_OutOfPlace, _, cm_OutOfPlace T, T.xc_OutOfPlace, T.k_OutOfPlace_IndexError.trans (by decide +kernel)⟩
  rcases List.mem_cons.mp hy with rfl | hy
  · exact ⟨T.C_TooGreat, _, cm_TooGreat T, T.xc_TooGreat, T.k_TooGreat_IndexError.trans (by decide +kernel)⟩
  rcases List.mem_cons.mp hy with rfl | hy
  · exact ⟨T.C_Nothing, _, cm_Nothing T, T.xc_Nothing, T.k_Nothing_IndexError.trans (by decide +kernel)⟩
  cases hy
theorem ie_RuntimeError (T : Tx P K mg) : ∀ y ∈ [("BadOrder" : Str), ("BadHeap" : Str), ("BadBoxes" : Str), ("BadPaper" : Str), ("BadText" : Str), ("OutOfPlace" : Str), ("TooGreat" : Str), ("Nothing" : Str)], ∃ C fo, cmOf T y = some (C, fo) ∧ L2.ExcC K C ∧ PySem.W.kitOne K (.ref C) (.type "RuntimeError") = some (DL.isaE y "RuntimeError") := by
  intro y hy
  rcases List.mem_cons.mp hy with rfl | hy
  · exact ⟨T.C_BadOrder, _, cm_BadOrder T, T.xc_BadOrder, T.k_BadOrder_RuntimeError.trans (by decide +kernel)⟩
  rcases List.mem_cons.mp hy with rfl | hy
  · exact ⟨T.C_BadHeap, _, cm_BadHeap T, T.xc_BadHeap, T.k_BadHeap_RuntimeError.trans (by decide +kernel)⟩
  rcases List.mem_cons.mp hy with rfl | hy
  · exact ⟨T.C_BadBoxes, _, cm_BadBoxes T, T.xc_BadBoxes, T.k_BadBoxes_RuntimeError.trans (by decide +kernel)⟩
  rcases List.mem_cons.mp hy with rfl | hy
  · exact ⟨T.C_BadPaper, _, cm_BadPaper T, T.xc_BadPaper, T.k_BadPaper_RuntimeError.trans (by decide +kernel)⟩
  rcases List.mem_cons.mp hy with rfl | hy
  · exact ⟨T.C_BadText, _, cm_BadText T, T.xc_BadText, T.k_BadText_RuntimeError.trans (by decide +kernel)⟩
  rcases List.mem_cons.mp hy with rfl | hy
  · exact ⟨T.C_OutOfPlace, _, cm_OutOfPlace T, T.xc_OutOfPlace, T.k_OutOfPlace_RuntimeError.trans (by decide +kernel)⟩
  rcases List.mem_cons.mp hy with rfl | hy
  · exact ⟨T.C_TooGreat, _, cm_TooGreat T, T.xc_TooGreat, T.k_TooGreat_RuntimeError.trans (by decide +kernel)⟩
  rcases List.mem_cons.mp hy with rfl | hy
  · exact ⟨T.C_Nothing, _, cm_Nothing T, T.xc_Nothing, T.k_Nothing_RuntimeError.trans (by decide +kernel)⟩
  cases hy
theorem mtw__law_caught_0 (T : Tx P K mg) : ∀ y C fo, cmOf T y = some (C, fo) → PySem.W.exmAny K (.ref C) [.ref T.C_BadOrder, .ref T.C_BadHeap, .ref T.C_BadBoxes, .ref T.C_BadPaper, .ref T.C_BadText] = some (DL.mts ["BadOrder", "BadHeap", "BadBoxes", "BadPaper", "BadText"] y) := by
  intro y C fo h
  unfold cmOf at h
  by_cases h_BadOrder : y = "BadOrder"
  · rw [if_pos h_BadOrder] at h; cases h; subst h_BadOrder; exact (L2.exmAny_of T.e_BadOrder_BadOrder (L2.exmAny_of T.e_BadOrder_BadHeap (L2.exmAny_of T.e_BadOrder_BadBoxes (L2.exmAny_of T.e_BadOrder_BadPaper (L2.exmAny_of T.e_BadOrder_BadText rfl))))).trans (by decide +kernel)
  rw [if_neg h_BadOrder] at h
  by_cases h_BadHeap : y = "BadHeap"
  · rw [if_pos h_BadHeap] at h; cases h; subst h_BadHeap; exact (L2.exmAny_of T.e_BadHeap_BadOrder (L2.exmAny_of T.e_BadHeap_BadHeap (L2.exmAny_of T.e_BadHeap_BadBoxes (L2.exmAny_of T.e_BadHeap_BadPaper (L2.exmAny_of T.e_BadHeap_BadText rfl))))).trans (by decide +kernel)
  rw [if_neg h_BadHeap] at h
  by_cases h_BadBoxes : y = "BadBoxes"
  · rw [if_pos h_BadBoxes] at h; cases h; subst h_BadBoxes; exact (L2.exmAny_of T.e_BadBoxes_BadOrder (L2.exmAny_of T.e_BadBoxes_BadHeap (L2.exmAny_of T.e_BadBoxes_BadBoxes (L2.exmAny_of T.e_BadBoxes_BadPaper (L2.exmAny_of T.e_BadBoxes_BadText rfl))))).trans (by decide +kernel)
  rw [if_neg h_BadBoxes] at h
  by_cases h_BadPaper : y = "BadPaper"
  · rw [if_pos h_BadPaper] at h; cases h; subst h_BadPaper; exact (L2.exmAny_of T.e_BadPaper_BadOrder (L2.exmAny_of T.e_BadPaper_BadHeap (L2.exmAny_of T.e_BadPaper_BadBoxes (L2.exmAny_of T.e_BadPaper_BadPaper (L2.exmAny_of T.e_BadPaper_BadText rfl))))).trans (by decide +kernel)
  rw [if_neg h_BadPaper] at h
  by_cases h_BadText : y = "BadText"
  · rw [if_pos h_BadText] at h; cases h; subst h_BadText; exact (L2.exmAny_of T.e_BadText_BadOrder (L2.exmAny_of T.e_BadText_BadHeap (L2.exmAny_of T.e_BadText_BadBoxes (L2.exmAny_of T.e_BadText_BadPaper (L2.exmAny_of T.e_BadText_BadText rfl))))).trans (by decide +kernel)
  rw [if_neg h_BadText] at h
  by_cases h_OutOfPlace : y = "OutOfPlace"
  · rw [if_pos h_OutOfPlace] at h; cases h; subst h_OutOfPlace; exact (L2.exmAny_of T.e_OutOfPlace_BadOrder (L2.exmAny_of T.e_OutOfPlace_BadHeap (L2.exmAny_of T.e_OutOfPlace_BadBoxes (L2.exmAny_of T.e_OutOfPlace_BadPaper (L2.exmAny_of T.e_OutOfPlace_BadText rfl))))).trans (by decide +kernel)
  rw [if_neg h_OutOfPlace] at h
  by_cases h_TooGreat : y = "TooGreat"
  · rw [if_pos h_TooGreat] at h; cases h; subst h_TooGreat; exact (L2.exmAny_of T.e_TooGreat_BadOrder (L2.exmAny_of T.e_TooGreat_BadHeap (L2.exmAny_of T.e_TooGreat_BadBoxes (L2.exmAny_of T.e_TooGreat_BadPaper (L2.exmAny_of T.e_TooGreat_BadText rfl))))).trans (by decide +kernel)
  rw [if_neg h_TooGreat] at h
  by_cases h_Nothing : y = "Nothing"
  · rw [if_pos h_Nothing] at h; cases h; subst h_Nothing; exact (L2.exmAny_of T.e_Nothing_BadOrder (L2.exmAny_of T.e_Nothing_BadHeap (L2.exmAny_of T.e_Nothing_BadBoxes (L2.exmAny_of T.e_Nothing_BadPaper (L2.exmAny_of T.e_Nothing_BadText rfl))))).trans (by decide +kernel)
  rw [if_neg h_Nothing] at h
  cases h
theorem mtw__law_caught_1 (T : Tx P K mg) : ∀ y C fo, cmOf T y = some (C, fo) → PySem.W.exmAny K (.ref C) [.ref T.C_OutOfPlace, .ref T.C_TooGreat, .ref T.C_Nothing] = some (DL.mts ["OutOfPlace", "TooGreat", "Nothing"] y) := by
  intro y C fo h
  unfold cmOf at h
  by_cases h_BadOrder : y = "BadOrder"
  · rw [if_pos h_BadOrder] at h; cases h; subst h_BadOrder; exact (L2.exmAny_of T.e_BadOrder_OutOfPlace (L2.exmAny_of T.e_BadOrder_TooGreat (L2.exmAny_of T.e_BadOrder_Nothing rfl))).trans (by decide +kernel)
  rw [if_neg h_BadOrder] at h
  by_cases h_BadHeap : y = "BadHeap"
  · rw [if_pos h_BadHeap] at h; cases h; subst h_BadHeap; exact (L2.exmAny_of T.e_BadHeap_OutOfPlace (L2.exmAny_of T.e_BadHeap_TooGreat (L2.exmAny_of T.e_BadHeap_Nothing rfl))).trans (by decide +kernel)
  rw [if_neg h_BadHeap] at h
  by_cases h_BadBoxes : y = "BadBoxes"
  · rw [if_pos h_BadBoxes] at h; cases h; subst h_BadBoxes; exact (L2.exmAny_of T.e_BadBoxes_OutOfPlace (L2.exmAny_of T.e_BadBoxes_TooGreat (L2.exmAny_of T.e_BadBoxes_Nothing rfl))).trans (by decide +kernel)
  rw [if_neg h_BadBoxes] at h
  by_cases h_BadPaper : y = "BadPaper"
  · rw [if_pos h_BadPaper] at h; cases h; subst h_BadPaper; exact (L2.exmAny_of T.e_BadPaper_OutOfPlace (L2.exmAny_of T.e_BadPaper_TooGreat (L2.exmAny_of T.e_BadPaper_Nothing rfl))).trans (by decide +kernel)
  rw [if_neg h_BadPaper] at h
  by_cases h_BadText : y = "BadText"
  · rw [if_pos h_BadText] at h; cases h; subst h_BadText; exact (L2.exmAny_of T.e_BadText_OutOfPlace (L2.exmAny_of T.e_BadText_TooGreat (L2.exmAny_of T.e_BadText_Nothing rfl))).trans (by decide +kernel)
  rw [if_neg h_BadText] at h
  by_cases h_OutOfPlace : y = "OutOfPlace"
  · rw [if_pos h_OutOfPlace] at h; cases h; subst h_OutOfPlace; exact (L2.exmAny_of T.e_OutOfPlace_OutOfPlace (L2.exmAny_of T.e_OutOfPlace_TooGreat (L2.exmAny_of T.e_OutOfPlace_Nothing rfl))).trans (by decide +kernel)
  rw [if_neg h_OutOfPlace] at h
  by_cases h_TooGreat : y = "TooGreat"
  · rw [if_pos h_TooGreat] at h; cases h; subst h_TooGreat; exact (L2.exmAny_of T.e_TooGreat_OutOfPlace (L2.exmAny_of T.e_TooGreat_TooGreat (L2.exmAny_of T.e_TooGreat_Nothing rfl))).trans (by decide +kernel)
  rw [if_neg h_TooGreat] at h
  by_cases h_Nothing : y = "Nothing"
  · rw [if_pos h_Nothing] at h; cases h; subst h_Nothing; exact (L2.exmAny_of T.e_Nothing_OutOfPlace (L2.exmAny_of T.e_Nothing_TooGreat (L2.exmAny_of T.e_Nothing_Nothing rfl))).trans (by decide +kernel)
  rw [if_neg h_Nothing] at h
  cases h
end
section
variable {P : Program} {w : World} {K : PySem.W.Frag} {mg : Str → Option Value} {base : Heap}
theorem ok__law_next (a : Addr) (T : Tx P K mg) : FnG P w K mg base CX0 2 T.f__law_next T.fd__law_next ["_law_m", "_law_total"] (spF (SI a) 1 (sp__law_next a)) := ok_next a T.F__law_next T.n_int T.n_len
theorem ok_begunG (T : Tx P K mg) : FnG P w K mg base CX0 2 T.f__law_start T.fd__law_start ["_law_script"] (spBeg K SI) := (ok_begun T.F__law_start T.n_list T.n_len).sp fun vs H Q E h => by
  obtain ⟨a0, ns, rfl, hS, hl, hq⟩ := h
  refine ⟨a0, ns, rfl, hS, hl, fun a g c gs cs z H' sm h1 h2 h3 h4 h5 h5a h5b h6 h7 => hq a (fun x => x = a ∨ x = g ∨ x = c) H' sm (fun x hx => ?_) ⟨g, c, gs, cs, 0, z, .inl rfl, .inr (.inl rfl), .inr (.inr rfl), h4, h5, h6, h7, Nat.le_refl _, h5a, h5b⟩⟩
  rcases hx with rfl | rfl | rfl
  · exact ⟨h1, by rw [h5]; exact ⟨by simp, fun _ z => nomatch z⟩⟩
  · exact ⟨h2, by rw [h6]; exact ⟨by simp, fun _ z => nomatch z⟩⟩
  · exact ⟨h3, by rw [h7]; exact ⟨by simp, fun _ z => nomatch z⟩⟩
theorem ok__law_of (a : Addr) (T : Tx P K mg) : FnG P w K mg base CX0 3 T.f__law_of T.fd__law_of ["_law_m", "_law_some"] (spF (SI a) (2 ^ 500) (sp__law_of a)) :=
  fn_data (k := 2) (ws := ws__law_of a) (stab4 a) T.F__law_of sc12 (len__law_of a) (fun G cdv A outer s H E hS hgd hr =>
    (dss_one (ds_ret (de_ix (DL.Room.u9 hr) (de_name 1) (de_callE hS (ok__law_next a T) hgd (hr.mono (by decide)) (by rfl) T.m__law_next T.F__law_next.kp T.b__law_next (da_cons (de_name 0) (da_cons (de_callB call_lenDD (by rfl) T.n_len (by decide +kernel) (da_cons (de_name 1) da_nil)) da_nil))))))) (ok_ws__law_of a)
theorem ok__law_thing (a : Addr) (T : Tx P K mg) : FnG P w K mg base CX0 4 T.f__law_thing T.fd__law_thing ["_law_m"] (spF (SI a) (2 ^ 1000) (sp__law_thing a)) :=
  fn_data (k := 3) (ws := ws__law_thing a) (stab4 a) T.F__law_thing sc13 (len__law_thing a) (fun G cdv A outer s H E hS hgd hr =>
    (dss_cons (ds_set .fz 1 sc13.nd (de_lst (da_cons de_non (da_cons de_int (da_cons (de_neg de_int) (da_cons de_bl (da_cons de_bl (da_cons de_str (da_cons de_str (da_cons (de_tup da_nil) (da_cons (de_tup (da_cons de_int (da_cons de_int da_nil))) (da_cons (de_lst da_nil) (da_cons (de_lst (da_cons de_int da_nil)) (da_cons (de_frzE de_dnewK) (da_cons (de_frzE (de_dispS (.cons de_int .nil) (by decide) (by simp) (by decide))) (da_cons (de_op op_powD de_int de_int) da_nil))))))))))))))))
      (dss_one (ds_ret (de_callE hS (ok__law_of a T) hgd (hr.mono (by decide)) (by rfl) T.m__law_of T.F__law_of.kp T.b__law_of (da_cons (de_name 0) (da_cons (de_op op_addD (de_name 1) (de_lst (da_cons (de_callE hS (ok__law_next a T) hgd (hr.mono (by decide)) (by rfl) T.m__law_next T.F__law_next.kp T.b__law_next (da_cons (de_name 0) (da_cons de_int da_nil))) (da_cons (de_op op_mulZ de_str (de_callE hS (ok__law_next a T) hgd (hr.mono (by decide)) (by rfl) T.m__law_next T.F__law_next.kp T.b__law_next (da_cons (de_name 0) (da_cons de_int da_nil)))) da_nil)))) da_nil))))))) (ok_ws__law_thing a)
theorem ok__law_all (T : Tx P K mg) : FnG P w K mg base CX0 1 T.f__law_all T.fd__law_all ["_law_thing_here"] (spF SI0 0 (sp__law_all (erD (cmOf T)))) :=
  fn_pure (k := 0) (ws := (ws__law_all (erD (cmOf T)))) T.F__law_all sc14 len__law_all (fun G cdv A outer s H E hS hgd hr =>
    (dss_cons (ds_set .fz 1 sc14.nd (de_lst (da_cons (de_mkF (cm_BadOrder T) (pmkF T.x_BadOrder (fi_BadOrder T) hr (da_cons (de_name 0) da_nil) (by rfl) (by decide))) (da_cons (de_mkF (cm_BadHeap T) (pmkF T.x_BadHeap (fi_BadHeap T) hr (da_cons (de_name 0) da_nil) (by rfl) (by decide))) (da_cons (de_mkF (cm_BadBoxes T) (pmkF T.x_BadBoxes (fi_BadBoxes T) hr (da_cons (de_name 0) da_nil) (by rfl) (by decide))) (da_cons (de_mkF (cm_BadPaper T) (pmkF T.x_BadPaper (fi_BadPaper T) hr (da_cons (de_name 0) da_nil) (by rfl) (by decide))) (da_cons (de_mkF (cm_BadText T) (pmkF T.x_BadText (fi_BadText T) hr (da_cons (de_name 0) da_nil) (by rfl) (by decide))) da_nil)))))))
      (dss_one (ds_ret (de_op op_addD (de_name 1) (de_lst (da_cons (de_mk0 (cm_OutOfPlace T) (pmk0 T.x_OutOfPlace (fi_OutOfPlace T) hr (da_cons de_str da_nil) (by rfl) (by decide))) (da_cons (de_mkF (cm_TooGreat T) (pmkF T.x_TooGreat (fi_TooGreat T) hr (da_cons (de_name 0) da_nil) (by rfl) (by decide))) (da_cons (de_mk0 (cm_Nothing T) (pmk0 T.x_Nothing (fi_Nothing T) hr (da_cons de_str da_nil) (by rfl) (by decide))) da_nil))))))))) (ok_ws__law_all (erD (cmOf T)))
theorem ok__law_named (T : Tx P K mg) : FnG P w K mg base CX0 1 T.f__law_named T.fd__law_named ["_law_thing_here"] (spF SI0 0 (sp__law_named (erD (cmOf T)))) :=
  fn_pure (k := 0) (ws := (ws__law_named (erD (cmOf T)))) T.F__law_named sc15 len__law_named (fun G cdv A outer s H E hS hgd hr =>
    (dss_cons (ds_set .fz 1 sc15.nd (de_lst (da_cons (de_mkF (cm_BadOrder T) (pmkFK T.x_BadOrder (fiK_BadOrder T) hr (dk_cons (de_name 0) dk_nil) (by rfl) (by decide))) (da_cons (de_mkF (cm_BadHeap T) (pmkFK T.x_BadHeap (fiK_BadHeap T) hr (dk_cons (de_name 0) dk_nil) (by rfl) (by decide))) (da_cons (de_mkF (cm_BadBoxes T) (pmkFK T.x_BadBoxes (fiK_BadBoxes T) hr (dk_cons (de_name 0) dk_nil) (by rfl) (by decide))) (da_cons (de_mkF (cm_BadPaper T) (pmkFK T.x_BadPaper (fiK_BadPaper T) hr (dk_cons (de_name 0) dk_nil) (by rfl) (by decide))) da_nil))))))
      (dss_one (ds_ret (de_op op_addD (de_name 1) (de_lst (da_cons (de_mkF (cm_BadText T) (pmkFK T.x_BadText (fiK_BadText T) hr (dk_cons (de_name 0) dk_nil) (by rfl) (by decide))) (da_cons (de_mkF (cm_TooGreat T) (pmkFK T.x_TooGreat (fiK_TooGreat T) hr (dk_cons (de_name 0) dk_nil) (by rfl) (by decide))) da_nil)))))))) (ok_ws__law_named (erD (cmOf T)))
theorem ok__law_fields (T : Tx P K mg) : FnG P w K mg base CX0 1 T.f__law_fields T.fd__law_fields ["_law_some"] (spF SI0 0 (sp__law_fields (erD (cmOf T)))) :=
  fn_pure (k := 0) (ws := (ws__law_fields (erD (cmOf T)))) T.F__law_fields sc16 len__law_fields (fun G cdv A outer s H E hS hgd hr =>
    (dss_one (ds_ret (de_lst (da_cons (de_fldE (fe_part T) (de_ix (DL.Room.u9 hr) (de_name 0) de_int)) (da_cons (de_fldE (fe_number T) (de_ix (DL.Room.u9 hr) (de_name 0) de_int)) (da_cons (de_fldE (fe_number T) (de_ix (DL.Room.u9 hr) (de_name 0) de_int)) (da_cons (de_fldE (fe_part T) (de_ix (DL.Room.u9 hr) (de_name 0) de_int)) (da_cons (de_fldE (fe_line T) (de_ix (DL.Room.u9 hr) (de_name 0) de_int)) (da_cons (de_fldE (fe_most T) (de_ix (DL.Room.u9 hr) (de_name 0) de_int)) da_nil)))))))))) (ok_ws__law_fields (erD (cmOf T)))
theorem ok__law_marks (T : Tx P K mg) : FnG P w K mg base CX0 1 T.f__law_marks T.fd__law_marks ["_law_error"] (spF SI0 0 (sp__law_marks (erD (cmOf T)))) :=
  fn_pure (k := 0) (ws := (ws__law_marks (erD (cmOf T)))) T.F__law_marks sc17 len__law_marks (fun G cdv A outer s H E hS hgd hr =>
    (dss_cons (ds_set .fz 1 sc17.nd (de_lst (da_cons (de_isE (c := .ref T.C_BadOrder) (cv := .ref T.C_BadOrder) (fun _ r => r) (ie_BadOrder T) (by rfl) T.n_isinstance (de_name 0) (pe_glob (v := .ref T.C_BadOrder) (by rfl) T.x_BadOrder.gC rfl (by decide))) (da_cons (de_isE (c := .ref T.C_BadHeap) (cv := .ref T.C_BadHeap) (fun _ r => r) (ie_BadHeap T) (by rfl) T.n_isinstance (de_name 0) (pe_glob (v := .ref T.C_BadHeap) (by rfl) T.x_BadHeap.gC rfl (by decide))) (da_cons (de_isE (c := .ref T.C_BadBoxes) (cv := .ref T.C_BadBoxes) (fun _ r => r) (ie_BadBoxes T) (by rfl) T.n_isinstance (de_name 0) (pe_glob (v := .ref T.C_BadBoxes) (by rfl) T.x_BadBoxes.gC rfl (by decide))) da_nil)))))
      (dss_cons (ds_set .fz 1 sc17.nd (de_op op_addD (de_name 1) (de_lst (da_cons (de_isE (c := .ref T.C_BadPaper) (cv := .ref T.C_BadPaper) (fun _ r => r) (ie_BadPaper T) (by rfl) T.n_isinstance (de_name 0) (pe_glob (v := .ref T.C_BadPaper) (by rfl) T.x_BadPaper.gC rfl (by decide))) (da_cons (de_isE (c := .ref T.C_BadText) (cv := .ref T.C_BadText) (fun _ r => r) (ie_BadText T) (by rfl) T.n_isinstance (de_name 0) (pe_glob (v := .ref T.C_BadText) (by rfl) T.x_BadText.gC rfl (by decide))) da_nil)))))
      (dss_cons (ds_set .fz 1 sc17.nd (de_op op_addD (de_name 1) (de_lst (da_cons (de_isE (c := .ref T.C_OutOfPlace) (cv := .ref T.C_OutOfPlace) (fun _ r => r) (ie_OutOfPlace T) (by rfl) T.n_isinstance (de_name 0) (pe_glob (v := .ref T.C_OutOfPlace) (by rfl) T.x_OutOfPlace.gC rfl (by decide))) (da_cons (de_isE (c := .ref T.C_TooGreat) (cv := .ref T.C_TooGreat) (fun _ r => r) (ie_TooGreat T) (by rfl) T.n_isinstance (de_name 0) (pe_glob (v := .ref T.C_TooGreat) (by rfl) T.x_TooGreat.gC rfl (by decide))) da_nil)))))
      (dss_cons (ds_set .fz 1 sc17.nd (de_op op_addD (de_name 1) (de_lst (da_cons (de_isE (c := .ref T.C_Nothing) (cv := .ref T.C_Nothing) (fun _ r => r) (ie_Nothing T) (by rfl) T.n_isinstance (de_name 0) (pe_glob (v := .ref T.C_Nothing) (by rfl) T.x_Nothing.gC rfl (by decide))) (da_cons (de_isE (c := .ty "ValueError") (cv := .type "ValueError") (fun _ r => r) (ie_ValueError T) (by rfl) T.n_isinstance (de_name 0) (pe_bltn (v := .ty "ValueError") (by rfl) T.n_ValueError (by decide +kernel) rfl (by decide) (by decide))) da_nil)))))
      (dss_cons (ds_set .fz 1 sc17.nd (de_op op_addD (de_name 1) (de_lst (da_cons (de_isE (c := .ty "OverflowError") (cv := .type "OverflowError") (fun _ r => r) (ie_OverflowError T) (by rfl) T.n_isinstance (de_name 0) (pe_bltn (v := .ty "OverflowError") (by rfl) T.n_OverflowError (by decide +kernel) rfl (by decide) (by decide))) (da_cons (de_isE (c := .ty "LookupError") (cv := .type "LookupError") (fun _ r => r) (ie_LookupError T) (by rfl) T.n_isinstance (de_name 0) (pe_bltn (v := .ty "LookupError") (by rfl) T.n_LookupError (by decide +kernel) rfl (by decide) (by decide))) da_nil)))))
      (dss_one (ds_ret (de_op op_addD (de_name 1) (de_lst (da_cons (de_isE (c := .ty "KeyError") (cv := .type "KeyError") (fun _ r => r) (ie_KeyError T) (by rfl) T.n_isinstance (de_name 0) (pe_bltn (v := .ty "KeyError") (by rfl) T.n_KeyError (by decide +kernel) rfl (by decide) (by decide))) (da_cons (de_isE (c := .ty "IndexError") (cv := .type "IndexError") (fun _ r => r) (ie_IndexError T) (by rfl) T.n_isinstance (de_name 0) (pe_bltn (v := .ty "IndexError") (by rfl) T.n_IndexError (by decide +kernel) rfl (by decide) (by decide))) (da_cons (de_isE (c := .ty "RuntimeError") (cv := .type "RuntimeError") (fun _ r => r) (ie_RuntimeError T) (by rfl) T.n_isinstance (de_name 0) (pe_bltn (v := .ty "RuntimeError") (by rfl) T.n_RuntimeError (by decide +kernel) rfl (by decide) (by decide))) da_nil))))))))))))) (ok_ws__law_marks (erD (cmOf T)))
theorem okw__law_marks (T : Tx P K mg) : FnW P w K mg base CX0 1 T.f__law_marks T.fd__law_marks ["_law_error"] (spF SI0 0 (sp__law_marks (erD (cmOf T)))) :=
  fn_pureW (k := 0) (ws := (ws__law_marks (erD (cmOf T)))) T.F__law_marks sc17 len__law_marks (fun G cdv A outer s H E hS hgd hr =>
    (dss_cons (ds_set .fz 1 sc17.nd (de_lst (da_cons (de_isE (c := .ref T.C_BadOrder) (cv := .ref T.C_BadOrder) (fun _ r => r) (ie_BadOrder T) (by rfl) T.n_isinstance (de_name 0) (pe_glob (v := .ref T.C_BadOrder) (by rfl) T.x_BadOrder.gC rfl (by decide))) (da_cons (de_isE (c := .ref T.C_BadHeap) (cv := .ref T.C_BadHeap) (fun _ r => r) (ie_BadHeap T) (by rfl) T.n_isinstance (de_name 0) (pe_glob (v := .ref T.C_BadHeap) (by rfl) T.x_BadHeap.gC rfl (by decide))) (da_cons (de_isE (c := .ref T.C_BadBoxes) (cv := .ref T.C_BadBoxes) (fun _ r => r) (ie_BadBoxes T) (by rfl) T.n_isinstance (de_name 0) (pe_glob (v := .ref T.C_BadBoxes) (by rfl) T.x_BadBoxes.gC rfl (by decide))) da_nil)))))
      (dss_cons (ds_set .fz 1 sc17.nd (de_op op_addD (de_name 1) (de_lst (da_cons (de_isE (c := .ref T.C_BadPaper) (cv := .ref T.C_BadPaper) (fun _ r => r) (ie_BadPaper T) (by rfl) T.n_isinstance (de_name 0) (pe_glob (v := .ref T.C_BadPaper) (by rfl) T.x_BadPaper.gC rfl (by decide))) (da_cons (de_isE (c := .ref T.C_BadText) (cv := .ref T.C_BadText) (fun _ r => r) (ie_BadText T) (by rfl) T.n_isinstance (de_name 0) (pe_glob (v := .ref T.C_BadText) (by rfl) T.x_BadText.gC rfl (by decide))) da_nil)))))
      (dss_cons (ds_set .fz 1 sc17.nd (de_op op_addD (de_name 1) (de_lst (da_cons (de_isE (c := .ref T.C_OutOfPlace) (cv := .ref T.C_OutOfPlace) (fun _ r => r) (ie_OutOfPlace T) (by rfl) T.n_isinstance (de_name 0) (pe_glob (v := .ref T.C_OutOfPlace) (by rfl) T.x_OutOfPlace.gC rfl (by decide))) (da_cons (de_isE (c := .ref T.C_TooGreat) (cv := .ref T.C_TooGreat) (fun _ r => r) (ie_TooGreat T) (by rfl) T.n_isinstance (de_name 0) (pe_glob (v := .ref T.C_TooGreat) (by rfl) T.x_TooGreat.gC rfl (by decide))) da_nil)))))
      (dss_cons (ds_set .fz 1 sc17.nd (de_op op_addD (de_name 1) (de_lst (da_cons (de_isE (c := .ref T.C_Nothing) (cv := .ref T.C_Nothing) (fun _ r => r) (ie_Nothing T) (by rfl) T.n_isinstance (de_name 0) (pe_glob (v := .ref T.C_Nothing) (by rfl) T.x_Nothing.gC rfl (by decide))) (da_cons (de_isE (c := .ty "ValueError") (cv := .type "ValueError") (fun _ r => r) (ie_ValueError T) (by rfl) T.n_isinstance (de_name 0) (pe_bltn (v := .ty "ValueError") (by rfl) T.n_ValueError (by decide +kernel) rfl (by decide) (by decide))) da_nil)))))
      (dss_cons (ds_set .fz 1 sc17.nd (de_op op_addD (de_name 1) (de_lst (da_cons (de_isE (c := .ty "OverflowError") (cv := .type "OverflowError") (fun _ r => r) (ie_OverflowError T) (by rfl) T.n_isinstance (de_name 0) (pe_bltn (v := .ty "OverflowError") (by rfl) T.n_OverflowError (by decide +kernel) rfl (by decide) (by decide))) (da_cons (de_isE (c := .ty "LookupError") (cv := .type "LookupError") (fun _ r => r) (ie_LookupError T) (by rfl) T.n_isinstance (de_name 0) (pe_bltn (v := .ty "LookupError") (by rfl) T.n_LookupError (by decide +kernel) rfl (by decide) (by decide))) da_nil)))))
      (dss_one (ds_ret (de_op op_addD (de_name 1) (de_lst (da_cons (de_isE (c := .ty "KeyError") (cv := .type "KeyError") (fun _ r => r) (ie_KeyError T) (by rfl) T.n_isinstance (de_name 0) (pe_bltn (v := .ty "KeyError") (by rfl) T.n_KeyError (by decide +kernel) rfl (by decide) (by decide))) (da_cons (de_isE (c := .ty "IndexError") (cv := .type "IndexError") (fun _ r => r) (ie_IndexError T) (by rfl) T.n_isinstance (de_name 0) (pe_bltn (v := .ty "IndexError") (by rfl) T.n_IndexError (by decide +kernel) rfl (by decide) (by decide))) (da_cons (de_isE (c := .ty "RuntimeError") (cv := .type "RuntimeError") (fun _ r => r) (ie_RuntimeError T) (by rfl) T.n_isinstance (de_name 0) (pe_bltn (v := .ty "RuntimeError") (by rfl) T.n_RuntimeError (by decide +kernel) rfl (by decide) (by decide))) da_nil))))))))))))) (ok_ws__law_marks (erD (cmOf T)))
theorem ok__law_due (T : Tx P K mg) : FnG P w K mg base CX0 1 T.f__law_due T.fd__law_due ["_law_own"] (spF SI0 0 sp__law_due) :=
  fn_pure (k := 0) (ws := ws__law_due) T.F__law_due sc18 len__law_due (fun G cdv A outer s H E hS hgd hr =>
    (dss_cons (ds_set .fz 1 sc18.nd (de_if (dt_cmp (op_ltD hr.units0) (de_name 0) de_int (nomark _)) de_int (de_if (dt_cmp (op_eqDD hr.units) (de_name 0) de_int (nomark _)) de_int de_int)))
      (dss_one (ds_ret (de_lc rfl sc18.nd (di_range1 (by rfl) T.n_range (da_cons de_int da_nil)) (blkOk_by (N := ["_law_own", "_law_above", "_law_k"]) (sc := defScope s18) (own := [("_law_k", 2)]) (by decide +kernel)) (fun _ _ _ _ _ _ => (dg_name 2 sc18.nd)) (fun _ _ _ _ _ _ => dts_nil) (fun _ _ _ _ _ _ => (de_cmp (op_inDD (DL.Room.u65 hr)) (de_name 2) (de_tup (da_cons (de_name 0) (da_cons (de_name 1) da_nil))) (by rfl))) (by decide)))))) ok_ws__law_due
theorem okx__law_raised (T : Tx P K mg) : FnG P w K mg base (L2.CX P w) 1 T.f__law_raised T.fd__law_raised ["_law_own", "_law_thing_here"] (spX (cmOf T) spx__law_raised) :=
  fn_raise (k := 0) (ws := wsx__law_raised) T.F__law_raised sc19 lenx__law_raised (fun G cdv A outer s H E W Ex hS hgd hr tk hx hp =>
    (dss_cons (ds_if (dt_cmp (op_eqDD hr.units) (de_name 0) de_int (nomark _)) (dss_one (ds_raiseF tk hx T.x_BadOrder (fi_BadOrder T) (cm_BadOrder T) hr (de_name 1) (by rfl))) dss_nil)
      (dss_cons (ds_if (dt_cmp (op_eqDD hr.units) (de_name 0) de_int (nomark _)) (dss_one (ds_raiseF tk hx T.x_BadHeap (fi_BadHeap T) (cm_BadHeap T) hr (de_name 1) (by rfl))) dss_nil)
      (dss_cons (ds_if (dt_cmp (op_eqDD hr.units) (de_name 0) de_int (nomark _)) (dss_one (ds_raiseF tk hx T.x_BadBoxes (fi_BadBoxes T) (cm_BadBoxes T) hr (de_name 1) (by rfl))) dss_nil)
      (dss_cons (ds_if (dt_cmp (op_eqDD hr.units) (de_name 0) de_int (nomark _)) (dss_one (ds_raiseF tk hx T.x_BadPaper (fi_BadPaper T) (cm_BadPaper T) hr (de_name 1) (by rfl))) dss_nil)
      (dss_cons (ds_if (dt_cmp (op_eqDD hr.units) (de_name 0) de_int (nomark _)) (dss_one (ds_raiseF tk hx T.x_BadText (fi_BadText T) (cm_BadText T) hr (de_name 1) (by rfl))) dss_nil)
      (dss_cons (ds_if (dt_cmp (op_eqDD hr.units) (de_name 0) de_int (nomark _)) (dss_one (ds_raise0 tk hx T.x_OutOfPlace (fi_OutOfPlace T) (cm_OutOfPlace T) hr de_str (by rfl))) dss_nil)
      (dss_cons (ds_if (dt_cmp (op_eqDD hr.units) (de_name 0) de_int (nomark _)) (dss_one (ds_raiseF tk hx T.x_TooGreat (fi_TooGreat T) (cm_TooGreat T) hr (de_name 1) (by rfl))) dss_nil)
      (dss_one (ds_raise0 tk hx T.x_Nothing (fi_Nothing T) (cm_Nothing T) hr de_str (by rfl))))))))))) okx_ws__law_raised
theorem ok__law_caught (T : Tx P K mg) : FnG P w K mg base CX0 2 T.f__law_caught T.fd__law_caught ["_law_own", "_law_thing_here"] (spF SI0 0 (sp__law_caught (erD (cmOf T)))) :=
  fn_pure (k := 1) (ws := (ws__law_caught (erD (cmOf T)))) T.F__law_caught sc20 len__law_caught (fun G cdv A outer s H E hS hgd hr =>
    (dss_allE (fun A x => A = errA (cmOf T) x) (dss_cons (ds_set .fz 2 sc20.nd (de_lst da_nil))
      (dss_cons (ds_tryV hS rfl rfl rfl takes_no xok_no (fun W1 Ex1 pn1 xe1 tk1 hx1 hp1 => (dss_one (ds_expr (de_callX tk1 hx1 (okx__law_raised T) hgd (hr.mono (by decide)) (by rfl) T.m__law_raised T.F__law_raised.kp T.b__law_raised (da_cons (de_name 0) (da_cons (de_name 1) da_nil)))))) (HdsDV.cons (fun _ _ _ => .tup (.cons ⟨by rfl, by decide, .inl T.x_BadOrder.gC⟩ (.cons ⟨by rfl, by decide, .inl T.x_BadHeap.gC⟩ (.cons ⟨by rfl, by decide, .inl T.x_BadBoxes.gC⟩ (.cons ⟨by rfl, by decide, .inl T.x_BadPaper.gC⟩ (.cons ⟨by rfl, by decide, .inl T.x_BadText.gC⟩ .nil))))) (show 5 ≤ sizeLine by decide)) ⟨sc20.nd, rfl, rfl⟩ (mtw__law_caught_0 T) (by decide +kernel) (fun ea eoe ecls eo epn ex eG ez ef eS esx en => (dss_one (ds_set .fz 2 sc20.nd (de_callPin (k := 1) 3 esx ez ef (okw__law_marks T) hgd (roomH_mark (hr.mono (by decide)) _) (by rfl) T.m__law_marks T.F__law_marks.kp T.b__law_marks (List.mem_cons_self ..) en (pv 3))))) (HdsDV.cons (fun _ _ _ => .tup (.cons ⟨by rfl, by decide, .inl T.x_OutOfPlace.gC⟩ (.cons ⟨by rfl, by decide, .inl T.x_TooGreat.gC⟩ (.cons ⟨by rfl, by decide, .inl T.x_Nothing.gC⟩ .nil))) (show 3 ≤ sizeLine by decide)) ⟨sc20.nd, rfl, rfl⟩ (mtw__law_caught_1 T) (by decide +kernel) (fun ea eoe ecls eo epn ex eG ez ef eS esx en => (dss_one (ds_set .fz 2 sc20.nd (de_callPin (k := 1) 3 esx ez ef (okw__law_marks T) hgd (roomH_mark (hr.mono (by decide)) _) (by rfl) T.m__law_marks T.F__law_marks.kp T.b__law_marks (List.mem_cons_self ..) en (pv 3))))) HdsDV.nil)))
      (dss_one (ds_ret (de_name 2))))))) (ok_ws__law_caught (erD (cmOf T)))
theorem ok_law (T : Tx P K mg) : FnG P w K mg base CX0 6 T.f_law T.fd_law ["_law_script"] (spLaw K) :=
  fn_law (k := 5) (SIa := SI) (fun a => stab4 a) (ws := (ws_law (erD (cmOf T)))) T.F_law sc21 rfl rfl (fun cdv A outer s H E hgd hr => ps_set (i := 1) sc21.nd rfl (by first | exact .inl rfl | exact .inr rfl) (pe_callG (ok_begunG T) hgd (hr.mono (by decide)) (by rfl) T.m__law_start T.F__law_start.kp T.b__law_start (pa_cons (pv 0) pa_nil))) (fun a a0 n G cdv A outer s H E hS hs hgd hr =>
    (dss_cons (ds_for PassesOwn.never rfl (di_range1 (by rfl) T.n_range (da_cons (de_op op_addD de_int (de_callB (call_minD rfl) (by rfl) T.n_min (by decide +kernel) (da_cons (de_lenS 0 hs (by rfl) T.n_len) (da_cons de_int da_nil)))) da_nil)) (fun _ => (dg_name 2 sc21.nd)) (fun _ => (dss_cons (ds_set .fz 3 sc21.nd (de_callE hS (ok__law_thing a T) hgd (hr.mono (by decide)) (by rfl) T.m__law_thing T.F__law_thing.kp T.b__law_thing (da_cons (de_name 1) da_nil)))
      (dss_cons (ds_set .fz 4 sc21.nd (de_call (ok__law_all T) hgd (hr.mono (by decide)) (by rfl) T.m__law_all T.F__law_all.kp T.b__law_all (da_cons (de_name 3) da_nil)))
      (dss_cons (ds_set .fz 5 sc21.nd (de_callB (call_reprL hgd (DL.Room.u65 hr)) (by rfl) T.n_repr (by decide +kernel) (da_cons (de_op op_mulD (de_lst (da_cons (de_name 3) da_nil)) de_int) da_nil)))
      (dss_cons (ds_set .fz 6 sc21.nd (de_lst (da_cons (de_call (ok__law_fields T) hgd (hr.mono (by decide)) (by rfl) T.m__law_fields T.F__law_fields.kp T.b__law_fields (da_cons (de_op op_addD (de_slice (de_name 4) do_none (do_some de_int)) (de_lst (da_cons (de_ix (DL.Room.u9 hr) (de_name 4) de_int) da_nil))) da_nil)) (da_cons (de_call (ok__law_fields T) hgd (hr.mono (by decide)) (by rfl) T.m__law_fields T.F__law_fields.kp T.b__law_fields (da_cons (de_call (ok__law_named T) hgd (hr.mono (by decide)) (by rfl) T.m__law_named T.F__law_named.kp T.b__law_named (da_cons (de_name 3) da_nil)) da_nil)) da_nil))))
      (dss_cons (ds_if (dt_cmp (op_neDD hr.units) (de_lc rfl sc21.nd (di_val (de_name 6)) (blkOk_by (N := ["_law_script", "_law_m", "_law_lap", "_law_thing_here", "_law_some", "_law_held", "_law_told", "_law_row", "_law_own", "_law_error"]) (sc := defScope s21) (own := [("_law_row", 7)]) (by decide +kernel)) (fun _ _ _ _ _ _ => (dg_name 7 sc21.nd)) (fun _ _ _ _ _ _ => dts_nil) (fun _ _ _ _ _ _ => (de_callB (call_reprL hgd (DL.Room.u65 hr)) (by rfl) T.n_repr (by decide +kernel) (da_cons (de_name 7) da_nil))) (by decide)) (de_lst (da_cons (de_name 5) (da_cons (de_name 5) da_nil))) (nomark _)) (dss_one (ds_ret de_bl)) dss_nil)
      (dss_one (ds_for PassesOwn.never rfl (di_enum (by rfl) T.n_enumerate (da_cons (de_name 4) da_nil)) (fun _ => (dg_tup rfl (dgs_cons (dg_name 8 sc21.nd) (dgs_cons (dg_name 9 sc21.nd) dgs_nil)))) (fun _ => (dss_cons (ds_set .fz 6 sc21.nd (de_lst (da_cons (de_call (ok__law_marks T) hgd (hr.mono (by decide)) (by rfl) T.m__law_marks T.F__law_marks.kp T.b__law_marks (da_cons (de_name 9) da_nil)) (da_cons (de_call (ok__law_caught T) hgd (hr.mono (by decide)) (by rfl) T.m__law_caught T.F__law_caught.kp T.b__law_caught (da_cons (de_name 8) (da_cons (de_name 3) da_nil))) da_nil))))
      (dss_one (ds_if (dt_cmp (op_neDD hr.units) (de_name 6) (de_op op_mulD (de_lst (da_cons (de_call (ok__law_due T) hgd (hr.mono (by decide)) (by rfl) T.m__law_due T.F__law_due.kp T.b__law_due (da_cons (de_name 8) da_nil)) da_nil)) de_int) (nomark _)) (dss_one (ds_ret de_bl)) dss_nil)))))))))))))
      (dss_one (ds_ret de_bl)))) (ok_ws_law (erD (cmOf T)))

end
theorem all_mk {l : PySem.W.OpenLaw} {w : World} {K : PySem.W.Frag} {h : Heap} {mg : Str → Option Value} {fa : Addr} (X : K.In h) (G : h.Ns mainGlobals mg) (hfa : mg "law" = some (.ref fa))
    {f0 : Addr} {od0 an0 : Option Addr} {sl0 : Array (Option Value)} {oc0 kV0 dc0 pm0 cd0 ct0 : Value} (a0 : PySem.W.nsIn K mainGlobals "_law_of" = some (some (.ref f0))) (l0 : K.lookup f0 = some ⟨oc0, od0, .func (PySem.W.fnOf "_law_of" "_law_of" (defArgs s12) (defBody s12) (defScope s12) .none kV0 dc0 pm0 an0 cd0 ct0), sl0⟩) (c0 : PySem.W.codeIn K cd0 "_law_of" = true) (k0 : PySem.W.keepIn K (.ref f0) = true)
    {f1 : Addr} {od1 an1 : Option Addr} {sl1 : Array (Option Value)} {oc1 kV1 dc1 pm1 cd1 ct1 : Value} (a1 : PySem.W.nsIn K mainGlobals "_law_thing" = some (some (.ref f1))) (l1 : K.lookup f1 = some ⟨oc1, od1, .func (PySem.W.fnOf "_law_thing" "_law_thing" (defArgs s13) (defBody s13) (defScope s13) .none kV1 dc1 pm1 an1 cd1 ct1), sl1⟩) (c1 : PySem.W.codeIn K cd1 "_law_thing" = true) (k1 : PySem.W.keepIn K (.ref f1) = true)
    {f2 : Addr} {od2 an2 : Option Addr} {sl2 : Array (Option Value)} {oc2 kV2 dc2 pm2 cd2 ct2 : Value} (a2 : PySem.W.nsIn K mainGlobals "_law_all" = some (some (.ref f2))) (l2 : K.lookup f2 = some ⟨oc2, od2, .func (PySem.W.fnOf "_law_all" "_law_all" (defArgs s14) (defBody s14) (defScope s14) .none kV2 dc2 pm2 an2 cd2 ct2), sl2⟩) (c2 : PySem.W.codeIn K cd2 "_law_all" = true) (k2 : PySem.W.keepIn K (.ref f2) = true)
    {f3 : Addr} {od3 an3 : Option Addr} {sl3 : Array (Option Value)} {oc3 kV3 dc3 pm3 cd3 ct3 : Value} (a3 : PySem.W.nsIn K mainGlobals "_law_named" = some (some (.ref f3))) (l3 : K.lookup f3 = some ⟨oc3, od3, .func (PySem.W.fnOf "_law_named" "_law_named" (defArgs s15) (defBody s15) (defScope s15) .none kV3 dc3 pm3 an3 cd3 ct3), sl3⟩) (c3 : PySem.W.codeIn K cd3 "_law_named" = true) (k3 : PySem.W.keepIn K (.ref f3) = true)
    {f4 : Addr} {od4 an4 : Option Addr} {sl4 : Array (Option Value)} {oc4 kV4 dc4 pm4 cd4 ct4 : Value} (a4 : PySem.W.nsIn K mainGlobals "_law_fields" = some (some (.ref f4))) (l4 : K.lookup f4 = some ⟨oc4, od4, .func (PySem.W.fnOf "_law_fields" "_law_fields" (defArgs s16) (defBody s16) (defScope s16) .none kV4 dc4 pm4 an4 cd4 ct4), sl4⟩) (c4 : PySem.W.codeIn K cd4 "_law_fields" = true) (k4 : PySem.W.keepIn K (.ref f4) = true)
    {f5 : Addr} {od5 an5 : Option Addr} {sl5 : Array (Option Value)} {oc5 kV5 dc5 pm5 cd5 ct5 : Value} (a5 : PySem.W.nsIn K mainGlobals "_law_marks" = some (some (.ref f5))) (l5 : K.lookup f5 = some ⟨oc5, od5, .func (PySem.W.fnOf "_law_marks" "_law_marks" (defArgs s17) (defBody s17) (defScope s17) .none kV5 dc5 pm5 an5 cd5 ct5), sl5⟩) (c5 : PySem.W.codeIn K cd5 "_law_marks" = true) (k5 : PySem.W.keepIn K (.ref f5) = true)
    {f6 : Addr} {od6 an6 : Option Addr} {sl6 : Array (Option Value)} {oc6 kV6 dc6 pm6 cd6 ct6 : Value} (a6 : PySem.W.nsIn K mainGlobals "_law_due" = some (some (.ref f6))) (l6 : K.lookup f6 = some ⟨oc6, od6, .func (PySem.W.fnOf "_law_due" "_law_due" (defArgs s18) (defBody s18) (defScope s18) .none kV6 dc6 pm6 an6 cd6 ct6), sl6⟩) (c6 : PySem.W.codeIn K cd6 "_law_due" = true) (k6 : PySem.W.keepIn K (.ref f6) = true)
    {f7 : Addr} {od7 an7 : Option Addr} {sl7 : Array (Option Value)} {oc7 kV7 dc7 pm7 cd7 ct7 : Value} (a7 : PySem.W.nsIn K mainGlobals "_law_raised" = some (some (.ref f7))) (l7 : K.lookup f7 = some ⟨oc7, od7, .func (PySem.W.fnOf "_law_raised" "_law_raised" (defArgs s19) (defBody s19) (defScope s19) .none kV7 dc7 pm7 an7 cd7 ct7), sl7⟩) (c7 : PySem.W.codeIn K cd7 "_law_raised" = true) (k7 : PySem.W.keepIn K (.ref f7) = true)
    {f8 : Addr} {od8 an8 : Option Addr} {sl8 : Array (Option Value)} {oc8 kV8 dc8 pm8 cd8 ct8 : Value} (a8 : PySem.W.nsIn K mainGlobals "_law_caught" = some (some (.ref f8))) (l8 : K.lookup f8 = some ⟨oc8, od8, .func (PySem.W.fnOf "_law_caught" "_law_caught" (defArgs s20) (defBody s20) (defScope s20) .none kV8 dc8 pm8 an8 cd8 ct8), sl8⟩) (c8 : PySem.W.codeIn K cd8 "_law_caught" = true) (k8 : PySem.W.keepIn K (.ref f8) = true)
    {f9 : Addr} {od9 an9 : Option Addr} {sl9 : Array (Option Value)} {oc9 kV9 dc9 pm9 cd9 ct9 : Value} (a9 : PySem.W.nsIn K mainGlobals "law" = some (some (.ref f9))) (l9 : K.lookup f9 = some ⟨oc9, od9, .func (PySem.W.fnOf "law" "law" (defArgs s21) (defBody s21) (defScope s21) .none kV9 dc9 pm9 an9 cd9 ct9), sl9⟩) (c9 : PySem.W.codeIn K cd9 "law" = true) (k9 : PySem.W.keepIn K (.ref f9) = true)
    {f10 : Addr} {od10 an10 : Option Addr} {sl10 : Array (Option Value)} {oc10 kV10 dc10 pm10 cd10 ct10 : Value} (a10 : PySem.W.nsIn K mainGlobals "_law_start" = some (some (.ref f10))) (l10 : K.lookup f10 = some ⟨oc10, od10, .func (PySem.W.fnOf "_law_start" "_law_start" (defArgs s10) (defBody s10) (defScope s10) .none kV10 dc10 pm10 an10 cd10 ct10), sl10⟩) (c10 : PySem.W.codeIn K cd10 "_law_start" = true) (k10 : PySem.W.keepIn K (.ref f10) = true)
    {f11 : Addr} {od11 an11 : Option Addr} {sl11 : Array (Option Value)} {oc11 kV11 dc11 pm11 cd11 ct11 : Value} (a11 : PySem.W.nsIn K mainGlobals "_law_next" = some (some (.ref f11))) (l11 : K.lookup f11 = some ⟨oc11, od11, .func (PySem.W.fnOf "_law_next" "_law_next" (defArgs s11) (defBody s11) (defScope s11) .none kV11 dc11 pm11 an11 cd11 ct11), sl11⟩) (c11 : PySem.W.codeIn K cd11 "_law_next" = true) (k11 : PySem.W.keepIn K (.ref f11) = true)
    (z0 : PySem.W.nsIn K mainGlobals "IndexError" = some none)
    (z1 : PySem.W.nsIn K mainGlobals "KeyError" = some none)
    (z2 : PySem.W.nsIn K mainGlobals "LookupError" = some none)
    (z3 : PySem.W.nsIn K mainGlobals "OverflowError" = some none)
    (z4 : PySem.W.nsIn K mainGlobals "RuntimeError" = some none)
    (z5 : PySem.W.nsIn K mainGlobals "ValueError" = some none)
    (z6 : PySem.W.nsIn K mainGlobals "enumerate" = some none)
    (z7 : PySem.W.nsIn K mainGlobals "int" = some none)
    (z8 : PySem.W.nsIn K mainGlobals "isinstance" = some none)
    (z9 : PySem.W.nsIn K mainGlobals "len" = some none)
    (z10 : PySem.W.nsIn K mainGlobals "list" = some none)
    (z11 : PySem.W.nsIn K mainGlobals "min" = some none)
    (z12 : PySem.W.nsIn K mainGlobals "range" = some none)
    (z13 : PySem.W.nsIn K mainGlobals "repr" = some none)
    {C1 fI1 N1 cda1 ccX1 : Addr} {nmX1 qX1 file1 : Str} {bsX1 subX1 : List Value} {snX1 : List Str} {abX1 : Bool} {colX1 : Option Bool} {ddX1 odI1 anX1 cdd1 cld1 : Option Addr} {m0_1 m1_1 m2_1 m3_1 m5_1 : Option Value} {ocI1 dcI1 pmI1 ctI1 ccl1 clX1 : Value} {slI1 ccs1 csl1 : Array (Option Value)} {vsA1 : Array Value} {tfX1 : Tok}
    (xa1 : PySem.W.nsIn K mainGlobals "BadOrder" = some (some (.ref C1)))
    (xl1 : K.lookup C1 = some (PySem.excClassObj nmX1 qX1 C1 N1 bsX1 [.type "ValueError", .type "Exception", .type "BaseException", .type "object"] true snX1 subX1 abX1 colX1 ddX1 m0_1 m1_1 m2_1 m3_1 m5_1 "ValueError.__new__"))
    (xs1 : PySem.W.findIn K (.ref C1) "__setattr__" = some (some (.builtin "object.__setattr__")))
    (xg1 : PySem.W.findIn K (.ref C1) "__getattribute__" = some (some (.builtin "BaseException.__getattribute__")))
    (xh1 : PySem.W.findIn K (.ref C1) "__getattr__" = some none)
    (xi1 : PySem.W.findIn K (.ref C1) "__init__" = some (some (.ref fI1)))
    (xt1 : PySem.W.typeIn K (.ref fI1) = some (.type "function"))
    (xk1 : PySem.W.keepIn K (.ref C1) = true)
    (xe1 : PySem.W.subIn K (.ref C1) (.type "BaseException") = some true)
    (xv1 : PySem.W.subIn K (.ref C1) (.type "ValueError") = some true)
    (xy1 : PySem.W.typeIn K (.ref C1) = some (.type "type"))
    (xd1 : PySem.W.hasDictIn K C1 = true)
    (xb1 : PySem.W.isClsIn K C1 = true)
    (xm1 : PySem.W.mroIn K C1 (.ref C1) = some true)
    (xu1 : PySem.W.ks_superIn K C1 C1 "__init__" = some (some (.builtin "ValueError.__init__")))
    (xn1 : PySem.W.nsIn K cStatics "thirdparty.any" = some none)
    (xz1 : PySem.W.nsIn K mainGlobals "super" = some none)
    (xp1 : (l.prog.main.scope.names.lookup ("super" : Str)).isSome = false)
    (xf1 : K.lookup fI1 = some ⟨ocI1, odI1, .func (PySem.W.ksFn "__init__" "BadOrder.__init__" (L2.defArgs (PySem.EXN.cInit s1)) (L2.defBody (PySem.EXN.cInit s1)) (L2.defScope (PySem.EXN.cInit s1)) .none .none dcI1 pmI1 anX1 (.ref cda1) ctI1 ccX1), slI1⟩)
    (xc1 : PySem.W.codeIn K (.ref cda1) "BadOrder.__init__" = true)
    (xq1 : K.lookup cda1 = some ⟨ccl1, cdd1, .fields vsA1, ccs1⟩)
    (xr1 : vsA1[2]? = some (.str file1 tfX1))
    (xw1 : ((l.prog.main.file : Str) == file1) = true)
    (xj1 : K.lookup ccX1 = some ⟨clX1, cld1, .cell (some (.ref C1)), csl1⟩)
    (xo1 : PySem.W.findIn K (.ref C1) "part" = some none)
    {C2 fI2 N2 cda2 ccX2 : Addr} {nmX2 qX2 file2 : Str} {bsX2 subX2 : List Value} {snX2 : List Str} {abX2 : Bool} {colX2 : Option Bool} {ddX2 odI2 anX2 cdd2 cld2 : Option Addr} {m0_2 m1_2 m2_2 m3_2 m5_2 : Option Value} {ocI2 dcI2 pmI2 ctI2 ccl2 clX2 : Value} {slI2 ccs2 csl2 : Array (Option Value)} {vsA2 : Array Value} {tfX2 : Tok}
    (xa2 : PySem.W.nsIn K mainGlobals "BadHeap" = some (some (.ref C2)))
    (xl2 : K.lookup C2 = some (PySem.excClassObj nmX2 qX2 C2 N2 bsX2 [.type "ValueError", .type "Exception", .type "BaseException", .type "object"] true snX2 subX2 abX2 colX2 ddX2 m0_2 m1_2 m2_2 m3_2 m5_2 "ValueError.__new__"))
    (xs2 : PySem.W.findIn K (.ref C2) "__setattr__" = some (some (.builtin "object.__setattr__")))
    (xg2 : PySem.W.findIn K (.ref C2) "__getattribute__" = some (some (.builtin "BaseException.__getattribute__")))
    (xh2 : PySem.W.findIn K (.ref C2) "__getattr__" = some none)
    (xi2 : PySem.W.findIn K (.ref C2) "__init__" = some (some (.ref fI2)))
    (xt2 : PySem.W.typeIn K (.ref fI2) = some (.type "function"))
    (xk2 : PySem.W.keepIn K (.ref C2) = true)
    (xe2 : PySem.W.subIn K (.ref C2) (.type "BaseException") = some true)
    (xv2 : PySem.W.subIn K (.ref C2) (.type "ValueError") = some true)
    (xy2 : PySem.W.typeIn K (.ref C2) = some (.type "type"))
    (xd2 : PySem.W.hasDictIn K C2 = true)
    (xb2 : PySem.W.isClsIn K C2 = true)
    (xm2 : PySem.W.mroIn K C2 (.ref C2) = some true)
    (xu2 : PySem.W.ks_superIn K C2 C2 "__init__" = some (some (.builtin "ValueError.__init__")))
    (xn2 : PySem.W.nsIn K cStatics "thirdparty.any" = some none)
    (xz2 : PySem.W.nsIn K mainGlobals "super" = some none)
    (xp2 : (l.prog.main.scope.names.lookup ("super" : Str)).isSome = false)
    (xf2 : K.lookup fI2 = some ⟨ocI2, odI2, .func (PySem.W.ksFn "__init__" "BadHeap.__init__" (L2.defArgs (PySem.EXN.cInit s2)) (L2.defBody (PySem.EXN.cInit s2)) (L2.defScope (PySem.EXN.cInit s2)) .none .none dcI2 pmI2 anX2 (.ref cda2) ctI2 ccX2), slI2⟩)
    (xc2 : PySem.W.codeIn K (.ref cda2) "BadHeap.__init__" = true)
    (xq2 : K.lookup cda2 = some ⟨ccl2, cdd2, .fields vsA2, ccs2⟩)
    (xr2 : vsA2[2]? = some (.str file2 tfX2))
    (xw2 : ((l.prog.main.file : Str) == file2) = true)
    (xj2 : K.lookup ccX2 = some ⟨clX2, cld2, .cell (some (.ref C2)), csl2⟩)
    (xo2 : PySem.W.findIn K (.ref C2) "number" = some none)
    {C3 fI3 N3 cda3 ccX3 : Addr} {nmX3 qX3 file3 : Str} {bsX3 subX3 : List Value} {snX3 : List Str} {abX3 : Bool} {colX3 : Option Bool} {ddX3 odI3 anX3 cdd3 cld3 : Option Addr} {m0_3 m1_3 m2_3 m3_3 m5_3 : Option Value} {ocI3 dcI3 pmI3 ctI3 ccl3 clX3 : Value} {slI3 ccs3 csl3 : Array (Option Value)} {vsA3 : Array Value} {tfX3 : Tok}
    (xa3 : PySem.W.nsIn K mainGlobals "BadBoxes" = some (some (.ref C3)))
    (xl3 : K.lookup C3 = some (PySem.excClassObj nmX3 qX3 C3 N3 bsX3 [.type "ValueError", .type "Exception", .type "BaseException", .type "object"] true snX3 subX3 abX3 colX3 ddX3 m0_3 m1_3 m2_3 m3_3 m5_3 "ValueError.__new__"))
    (xs3 : PySem.W.findIn K (.ref C3) "__setattr__" = some (some (.builtin "object.__setattr__")))
    (xg3 : PySem.W.findIn K (.ref C3) "__getattribute__" = some (some (.builtin "BaseException.__getattribute__")))
    (xh3 : PySem.W.findIn K (.ref C3) "__getattr__" = some none)
    (xi3 : PySem.W.findIn K (.ref C3) "__init__" = some (some (.ref fI3)))
    (xt3 : PySem.W.typeIn K (.ref fI3) = some (.type "function"))
    (xk3 : PySem.W.keepIn K (.ref C3) = true)
    (xe3 : PySem.W.subIn K (.ref C3) (.type "BaseException") = some true)
    (xv3 : PySem.W.subIn K (.ref C3) (.type "ValueError") = some true)
    (xy3 : PySem.W.typeIn K (.ref C3) = some (.type "type"))
    (xd3 : PySem.W.hasDictIn K C3 = true)
    (xb3 : PySem.W.isClsIn K C3 = true)
    (xm3 : PySem.W.mroIn K C3 (.ref C3) = some true)
    (xu3 : PySem.W.ks_superIn K C3 C3 "__init__" = some (some (.builtin "ValueError.__init__")))
    (xn3 : PySem.W.nsIn K cStatics "thirdparty.any" = some none)
    (xz3 : PySem.W.nsIn K mainGlobals "super" = some none)
    (xp3 : (l.prog.main.scope.names.lookup ("super" : Str)).isSome = false)
    (xf3 : K.lookup fI3 = some ⟨ocI3, odI3, .func (PySem.W.ksFn "__init__" "BadBoxes.__init__" (L2.defArgs (PySem.EXN.cInit s3)) (L2.defBody (PySem.EXN.cInit s3)) (L2.defScope (PySem.EXN.cInit s3)) .none .none dcI3 pmI3 anX3 (.ref cda3) ctI3 ccX3), slI3⟩)
    (xc3 : PySem.W.codeIn K (.ref cda3) "BadBoxes.__init__" = true)
    (xq3 : K.lookup cda3 = some ⟨ccl3, cdd3, .fields vsA3, ccs3⟩)
    (xr3 : vsA3[2]? = some (.str file3 tfX3))
    (xw3 : ((l.prog.main.file : Str) == file3) = true)
    (xj3 : K.lookup ccX3 = some ⟨clX3, cld3, .cell (some (.ref C3)), csl3⟩)
    (xo3 : PySem.W.findIn K (.ref C3) "number" = some none)
    {C4 fI4 N4 cda4 ccX4 : Addr} {nmX4 qX4 file4 : Str} {bsX4 subX4 : List Value} {snX4 : List Str} {abX4 : Bool} {colX4 : Option Bool} {ddX4 odI4 anX4 cdd4 cld4 : Option Addr} {m0_4 m1_4 m2_4 m3_4 m5_4 : Option Value} {ocI4 dcI4 pmI4 ctI4 ccl4 clX4 : Value} {slI4 ccs4 csl4 : Array (Option Value)} {vsA4 : Array Value} {tfX4 : Tok}
    (xa4 : PySem.W.nsIn K mainGlobals "BadPaper" = some (some (.ref C4)))
    (xl4 : K.lookup C4 = some (PySem.excClassObj nmX4 qX4 C4 N4 bsX4 [.type "ValueError", .type "Exception", .type "BaseException", .type "object"] true snX4 subX4 abX4 colX4 ddX4 m0_4 m1_4 m2_4 m3_4 m5_4 "ValueError.__new__"))
    (xs4 : PySem.W.findIn K (.ref C4) "__setattr__" = some (some (.builtin "object.__setattr__")))
    (xg4 : PySem.W.findIn K (.ref C4) "__getattribute__" = some (some (.builtin "BaseException.__getattribute__")))
    (xh4 : PySem.W.findIn K (.ref C4) "__getattr__" = some none)
    (xi4 : PySem.W.findIn K (.ref C4) "__init__" = some (some (.ref fI4)))
    (xt4 : PySem.W.typeIn K (.ref fI4) = some (.type "function"))
    (xk4 : PySem.W.keepIn K (.ref C4) = true)
    (xe4 : PySem.W.subIn K (.ref C4) (.type "BaseException") = some true)
    (xv4 : PySem.W.subIn K (.ref C4) (.type "ValueError") = some true)
    (xy4 : PySem.W.typeIn K (.ref C4) = some (.type "type"))
    (xd4 : PySem.W.hasDictIn K C4 = true)
    (xb4 : PySem.W.isClsIn K C4 = true)
    (xm4 : PySem.W.mroIn K C4 (.ref C4) = some true)
    (xu4 : PySem.W.ks_superIn K C4 C4 "__init__" = some (some (.builtin "ValueError.__init__")))
    (xn4 : PySem.W.nsIn K cStatics "thirdparty.any" = some none)
    (xz4 : PySem.W.nsIn K mainGlobals "super" = some none)
    (xp4 : (l.prog.main.scope.names.lookup ("super" : Str)).isSome = false)
    (xf4 : K.lookup fI4 = some ⟨ocI4, odI4, .func (PySem.W.ksFn "__init__" "BadPaper.__init__" (L2.defArgs (PySem.EXN.cInit s4)) (L2.defBody (PySem.EXN.cInit s4)) (L2.defScope (PySem.EXN.cInit s4)) .none .none dcI4 pmI4 anX4 (.ref cda4) ctI4 ccX4), slI4⟩)
    (xc4 : PySem.W.codeIn K (.ref cda4) "BadPaper.__init__" = true)
    (xq4 : K.lookup cda4 = some ⟨ccl4, cdd4, .fields vsA4, ccs4⟩)
    (xr4 : vsA4[2]? = some (.str file4 tfX4))
    (xw4 : ((l.prog.main.file : Str) == file4) = true)
    (xj4 : K.lookup ccX4 = some ⟨clX4, cld4, .cell (some (.ref C4)), csl4⟩)
    (xo4 : PySem.W.findIn K (.ref C4) "part" = some none)
    {C5 fI5 N5 cda5 ccX5 : Addr} {nmX5 qX5 file5 : Str} {bsX5 subX5 : List Value} {snX5 : List Str} {abX5 : Bool} {colX5 : Option Bool} {ddX5 odI5 anX5 cdd5 cld5 : Option Addr} {m0_5 m1_5 m2_5 m3_5 m5_5 : Option Value} {ocI5 dcI5 pmI5 ctI5 ccl5 clX5 : Value} {slI5 ccs5 csl5 : Array (Option Value)} {vsA5 : Array Value} {tfX5 : Tok}
    (xa5 : PySem.W.nsIn K mainGlobals "BadText" = some (some (.ref C5)))
    (xl5 : K.lookup C5 = some (PySem.excClassObj nmX5 qX5 C5 N5 bsX5 [.type "ValueError", .type "Exception", .type "BaseException", .type "object"] true snX5 subX5 abX5 colX5 ddX5 m0_5 m1_5 m2_5 m3_5 m5_5 "ValueError.__new__"))
    (xs5 : PySem.W.findIn K (.ref C5) "__setattr__" = some (some (.builtin "object.__setattr__")))
    (xg5 : PySem.W.findIn K (.ref C5) "__getattribute__" = some (some (.builtin "BaseException.__getattribute__")))
    (xh5 : PySem.W.findIn K (.ref C5) "__getattr__" = some none)
    (xi5 : PySem.W.findIn K (.ref C5) "__init__" = some (some (.ref fI5)))
    (xt5 : PySem.W.typeIn K (.ref fI5) = some (.type "function"))
    (xk5 : PySem.W.keepIn K (.ref C5) = true)
    (xe5 : PySem.W.subIn K (.ref C5) (.type "BaseException") = some true)
    (xv5 : PySem.W.subIn K (.ref C5) (.type "ValueError") = some true)
    (xy5 : PySem.W.typeIn K (.ref C5) = some (.type "type"))
    (xd5 : PySem.W.hasDictIn K C5 = true)
    (xb5 : PySem.W.isClsIn K C5 = true)
    (xm5 : PySem.W.mroIn K C5 (.ref C5) = some true)
    (xu5 : PySem.W.ks_superIn K C5 C5 "__init__" = some (some (.builtin "ValueError.__init__")))
    (xn5 : PySem.W.nsIn K cStatics "thirdparty.any" = some none)
    (xz5 : PySem.W.nsIn K mainGlobals "super" = some none)
    (xp5 : (l.prog.main.scope.names.lookup ("super" : Str)).isSome = false)
    (xf5 : K.lookup fI5 = some ⟨ocI5, odI5, .func (PySem.W.ksFn "__init__" "BadText.__init__" (L2.defArgs (PySem.EXN.cInit s5)) (L2.defBody (PySem.EXN.cInit s5)) (L2.defScope (PySem.EXN.cInit s5)) .none .none dcI5 pmI5 anX5 (.ref cda5) ctI5 ccX5), slI5⟩)
    (xc5 : PySem.W.codeIn K (.ref cda5) "BadText.__init__" = true)
    (xq5 : K.lookup cda5 = some ⟨ccl5, cdd5, .fields vsA5, ccs5⟩)
    (xr5 : vsA5[2]? = some (.str file5 tfX5))
    (xw5 : ((l.prog.main.file : Str) == file5) = true)
    (xj5 : K.lookup ccX5 = some ⟨clX5, cld5, .cell (some (.ref C5)), csl5⟩)
    (xo5 : PySem.W.findIn K (.ref C5) "line" = some none)
    {C6 fI6 N6 cda6 ccX6 : Addr} {nmX6 qX6 file6 : Str} {bsX6 subX6 : List Value} {snX6 : List Str} {abX6 : Bool} {colX6 : Option Bool} {ddX6 odI6 anX6 cdd6 cld6 : Option Addr} {m0_6 m1_6 m2_6 m3_6 m5_6 : Option Value} {ocI6 dcI6 pmI6 ctI6 ccl6 clX6 : Value} {slI6 ccs6 csl6 : Array (Option Value)} {vsA6 : Array Value} {tfX6 : Tok}
    (xa6 : PySem.W.nsIn K mainGlobals "OutOfPlace" = some (some (.ref C6)))
    (xl6 : K.lookup C6 = some (PySem.excClassObj nmX6 qX6 C6 N6 bsX6 [.type "ValueError", .type "Exception", .type "BaseException", .type "object"] true snX6 subX6 abX6 colX6 ddX6 m0_6 m1_6 m2_6 m3_6 m5_6 "ValueError.__new__"))
    (xs6 : PySem.W.findIn K (.ref C6) "__setattr__" = some (some (.builtin "object.__setattr__")))
    (xg6 : PySem.W.findIn K (.ref C6) "__getattribute__" = some (some (.builtin "BaseException.__getattribute__")))
    (xh6 : PySem.W.findIn K (.ref C6) "__getattr__" = some none)
    (xi6 : PySem.W.findIn K (.ref C6) "__init__" = some (some (.ref fI6)))
    (xt6 : PySem.W.typeIn K (.ref fI6) = some (.type "function"))
    (xk6 : PySem.W.keepIn K (.ref C6) = true)
    (xe6 : PySem.W.subIn K (.ref C6) (.type "BaseException") = some true)
    (xv6 : PySem.W.subIn K (.ref C6) (.type "ValueError") = some true)
    (xy6 : PySem.W.typeIn K (.ref C6) = some (.type "type"))
    (xd6 : PySem.W.hasDictIn K C6 = true)
    (xb6 : PySem.W.isClsIn K C6 = true)
    (xm6 : PySem.W.mroIn K C6 (.ref C6) = some true)
    (xu6 : PySem.W.ks_superIn K C6 C6 "__init__" = some (some (.builtin "ValueError.__init__")))
    (xn6 : PySem.W.nsIn K cStatics "thirdparty.any" = some none)
    (xz6 : PySem.W.nsIn K mainGlobals "super" = some none)
    (xp6 : (l.prog.main.scope.names.lookup ("super" : Str)).isSome = false)
    (xf6 : K.lookup fI6 = some ⟨ocI6, odI6, .func (PySem.W.ksFn "__init__" "OutOfPlace.__init__" (L2.defArgs (PySem.EXN.cInit s6)) (L2.defBody (PySem.EXN.cInit s6)) (L2.defScope (PySem.EXN.cInit s6)) .none .none dcI6 pmI6 anX6 (.ref cda6) ctI6 ccX6), slI6⟩)
    (xc6 : PySem.W.codeIn K (.ref cda6) "OutOfPlace.__init__" = true)
    (xq6 : K.lookup cda6 = some ⟨ccl6, cdd6, .fields vsA6, ccs6⟩)
    (xr6 : vsA6[2]? = some (.str file6 tfX6))
    (xw6 : ((l.prog.main.file : Str) == file6) = true)
    (xj6 : K.lookup ccX6 = some ⟨clX6, cld6, .cell (some (.ref C6)), csl6⟩)
    {C7 fI7 N7 cda7 ccX7 : Addr} {nmX7 qX7 file7 : Str} {bsX7 subX7 : List Value} {snX7 : List Str} {abX7 : Bool} {colX7 : Option Bool} {ddX7 odI7 anX7 cdd7 cld7 : Option Addr} {m0_7 m1_7 m2_7 m3_7 m5_7 : Option Value} {ocI7 dcI7 pmI7 ctI7 ccl7 clX7 : Value} {slI7 ccs7 csl7 : Array (Option Value)} {vsA7 : Array Value} {tfX7 : Tok}
    (xa7 : PySem.W.nsIn K mainGlobals "TooGreat" = some (some (.ref C7)))
    (xl7 : K.lookup C7 = some (PySem.excClassObj nmX7 qX7 C7 N7 bsX7 [.type "OverflowError", .type "ArithmeticError", .type "Exception", .type "BaseException", .type "object"] true snX7 subX7 abX7 colX7 ddX7 m0_7 m1_7 m2_7 m3_7 m5_7 "OverflowError.__new__"))
    (xs7 : PySem.W.findIn K (.ref C7) "__setattr__" = some (some (.builtin "object.__setattr__")))
    (xg7 : PySem.W.findIn K (.ref C7) "__getattribute__" = some (some (.builtin "BaseException.__getattribute__")))
    (xh7 : PySem.W.findIn K (.ref C7) "__getattr__" = some none)
    (xi7 : PySem.W.findIn K (.ref C7) "__init__" = some (some (.ref fI7)))
    (xt7 : PySem.W.typeIn K (.ref fI7) = some (.type "function"))
    (xk7 : PySem.W.keepIn K (.ref C7) = true)
    (xe7 : PySem.W.subIn K (.ref C7) (.type "BaseException") = some true)
    (xv7 : PySem.W.subIn K (.ref C7) (.type "OverflowError") = some true)
    (xy7 : PySem.W.typeIn K (.ref C7) = some (.type "type"))
    (xd7 : PySem.W.hasDictIn K C7 = true)
    (xb7 : PySem.W.isClsIn K C7 = true)
    (xm7 : PySem.W.mroIn K C7 (.ref C7) = some true)
    (xu7 : PySem.W.ks_superIn K C7 C7 "__init__" = some (some (.builtin "OverflowError.__init__")))
    (xn7 : PySem.W.nsIn K cStatics "thirdparty.any" = some none)
    (xz7 : PySem.W.nsIn K mainGlobals "super" = some none)
    (xp7 : (l.prog.main.scope.names.lookup ("super" : Str)).isSome = false)
    (xf7 : K.lookup fI7 = some ⟨ocI7, odI7, .func (PySem.W.ksFn "__init__" "TooGreat.__init__" (L2.defArgs (PySem.EXN.cInit s7)) (L2.defBody (PySem.EXN.cInit s7)) (L2.defScope (PySem.EXN.cInit s7)) .none .none dcI7 pmI7 anX7 (.ref cda7) ctI7 ccX7), slI7⟩)
    (xc7 : PySem.W.codeIn K (.ref cda7) "TooGreat.__init__" = true)
    (xq7 : K.lookup cda7 = some ⟨ccl7, cdd7, .fields vsA7, ccs7⟩)
    (xr7 : vsA7[2]? = some (.str file7 tfX7))
    (xw7 : ((l.prog.main.file : Str) == file7) = true)
    (xj7 : K.lookup ccX7 = some ⟨clX7, cld7, .cell (some (.ref C7)), csl7⟩)
    (xo7 : PySem.W.findIn K (.ref C7) "most" = some none)
    {C8 fI8 N8 cda8 ccX8 : Addr} {nmX8 qX8 file8 : Str} {bsX8 subX8 : List Value} {snX8 : List Str} {abX8 : Bool} {colX8 : Option Bool} {ddX8 odI8 anX8 cdd8 cld8 : Option Addr} {m0_8 m1_8 m2_8 m3_8 m5_8 : Option Value} {ocI8 dcI8 pmI8 ctI8 ccl8 clX8 : Value} {slI8 ccs8 csl8 : Array (Option Value)} {vsA8 : Array Value} {tfX8 : Tok}
    (xa8 : PySem.W.nsIn K mainGlobals "Nothing" = some (some (.ref C8)))
    (xl8 : K.lookup C8 = some (PySem.excClassObj nmX8 qX8 C8 N8 bsX8 [.type "LookupError", .type "Exception", .type "BaseException", .type "object"] true snX8 subX8 abX8 colX8 ddX8 m0_8 m1_8 m2_8 m3_8 m5_8 "LookupError.__new__"))
    (xs8 : PySem.W.findIn K (.ref C8) "__setattr__" = some (some (.builtin "object.__setattr__")))
    (xg8 : PySem.W.findIn K (.ref C8) "__getattribute__" = some (some (.builtin "BaseException.__getattribute__")))
    (xh8 : PySem.W.findIn K (.ref C8) "__getattr__" = some none)
    (xi8 : PySem.W.findIn K (.ref C8) "__init__" = some (some (.ref fI8)))
    (xt8 : PySem.W.typeIn K (.ref fI8) = some (.type "function"))
    (xk8 : PySem.W.keepIn K (.ref C8) = true)
    (xe8 : PySem.W.subIn K (.ref C8) (.type "BaseException") = some true)
    (xv8 : PySem.W.subIn K (.ref C8) (.type "LookupError") = some true)
    (xy8 : PySem.W.typeIn K (.ref C8) = some (.type "type"))
    (xd8 : PySem.W.hasDictIn K C8 = true)
    (xb8 : PySem.W.isClsIn K C8 = true)
    (xm8 : PySem.W.mroIn K C8 (.ref C8) = some true)
    (xu8 : PySem.W.ks_superIn K C8 C8 "__init__" = some (some (.builtin "LookupError.__init__")))
    (xn8 : PySem.W.nsIn K cStatics "thirdparty.any" = some none)
    (xz8 : PySem.W.nsIn K mainGlobals "super" = some none)
    (xp8 : (l.prog.main.scope.names.lookup ("super" : Str)).isSome = false)
    (xf8 : K.lookup fI8 = some ⟨ocI8, odI8, .func (PySem.W.ksFn "__init__" "Nothing.__init__" (L2.defArgs (PySem.EXN.cInit s8)) (L2.defBody (PySem.EXN.cInit s8)) (L2.defScope (PySem.EXN.cInit s8)) .none .none dcI8 pmI8 anX8 (.ref cda8) ctI8 ccX8), slI8⟩)
    (xc8 : PySem.W.codeIn K (.ref cda8) "Nothing.__init__" = true)
    (xq8 : K.lookup cda8 = some ⟨ccl8, cdd8, .fields vsA8, ccs8⟩)
    (xr8 : vsA8[2]? = some (.str file8 tfX8))
    (xw8 : ((l.prog.main.file : Str) == file8) = true)
    (xj8 : K.lookup ccX8 = some ⟨clX8, cld8, .cell (some (.ref C8)), csl8⟩)
    (ex1_1 : PySem.W.subIn K (.ref C1) (.ref C1) = some true)
    (ex1_2 : PySem.W.subIn K (.ref C1) (.ref C2) = some false)
    (ex1_3 : PySem.W.subIn K (.ref C1) (.ref C3) = some false)
    (ex1_4 : PySem.W.subIn K (.ref C1) (.ref C4) = some false)
    (ex1_5 : PySem.W.subIn K (.ref C1) (.ref C5) = some false)
    (ex1_6 : PySem.W.subIn K (.ref C1) (.ref C6) = some false)
    (ex1_7 : PySem.W.subIn K (.ref C1) (.ref C7) = some false)
    (ex1_8 : PySem.W.subIn K (.ref C1) (.ref C8) = some false)
    (ex2_1 : PySem.W.subIn K (.ref C2) (.ref C1) = some false)
    (ex2_2 : PySem.W.subIn K (.ref C2) (.ref C2) = some true)
    (ex2_3 : PySem.W.subIn K (.ref C2) (.ref C3) = some false)
    (ex2_4 : PySem.W.subIn K (.ref C2) (.ref C4) = some false)
    (ex2_5 : PySem.W.subIn K (.ref C2) (.ref C5) = some false)
    (ex2_6 : PySem.W.subIn K (.ref C2) (.ref C6) = some false)
    (ex2_7 : PySem.W.subIn K (.ref C2) (.ref C7) = some false)
    (ex2_8 : PySem.W.subIn K (.ref C2) (.ref C8) = some false)
    (ex3_1 : PySem.W.subIn K (.ref C3) (.ref C1) = some false)
    (ex3_2 : PySem.W.subIn K (.ref C3) (.ref C2) = some false)
    (ex3_3 : PySem.W.subIn K (.ref C3) (.ref C3) = some true)
    (ex3_4 : PySem.W.subIn K (.ref C3) (.ref C4) = some false)
    (ex3_5 : PySem.W.subIn K (.ref C3) (.ref C5) = some false)
    (ex3_6 : PySem.W.subIn K (.ref C3) (.ref C6) = some false)
    (ex3_7 : PySem.W.subIn K (.ref C3) (.ref C7) = some false)
    (ex3_8 : PySem.W.subIn K (.ref C3) (.ref C8) = some false)
    (ex4_1 : PySem.W.subIn K (.ref C4) (.ref C1) = some false)
    (ex4_2 : PySem.W.subIn K (.ref C4) (.ref C2) = some false)
    (ex4_3 : PySem.W.subIn K (.ref C4) (.ref C3) = some false)
    (ex4_4 : PySem.W.subIn K (.ref C4) (.ref C4) = some true)
    (ex4_5 : PySem.W.subIn K (.ref C4) (.ref C5) = some false)
    (ex4_6 : PySem.W.subIn K (.ref C4) (.ref C6) = some false)
    (ex4_7 : PySem.W.subIn K (.ref C4) (.ref C7) = some false)
    (ex4_8 : PySem.W.subIn K (.ref C4) (.ref C8) = some false)
    (ex5_1 : PySem.W.subIn K (.ref C5) (.ref C1) = some false)
    (ex5_2 : PySem.W.subIn K (.ref C5) (.ref C2) = some false)
    (ex5_3 : PySem.W.subIn K (.ref C5) (.ref C3) = some false)
    (ex5_4 : PySem.W.subIn K (.ref C5) (.ref C4) = some false)
    (ex5_5 : PySem.W.subIn K (.ref C5) (.ref C5) = some true)
    (ex5_6 : PySem.W.subIn K (.ref C5) (.ref C6) = some false)
    (ex5_7 : PySem.W.subIn K (.ref C5) (.ref C7) = some false)
    (ex5_8 : PySem.W.subIn K (.ref C5) (.ref C8) = some false)
    (ex6_1 : PySem.W.subIn K (.ref C6) (.ref C1) = some false)
    (ex6_2 : PySem.W.subIn K (.ref C6) (.ref C2) = some false)
    (ex6_3 : PySem.W.subIn K (.ref C6) (.ref C3) = some false)
    (ex6_4 : PySem.W.subIn K (.ref C6) (.ref C4) = some false)
    (ex6_5 : PySem.W.subIn K (.ref C6) (.ref C5) = some false)
    (ex6_6 : PySem.W.subIn K (.ref C6) (.ref C6) = some true)
    (ex6_7 : PySem.W.subIn K (.ref C6) (.ref C7) = some false)
    (ex6_8 : PySem.W.subIn K (.ref C6) (.ref C8) = some false)
    (ex7_1 : PySem.W.subIn K (.ref C7) (.ref C1) = some false)
    (ex7_2 : PySem.W.subIn K (.ref C7) (.ref C2) = some false)
    (ex7_3 : PySem.W.subIn K (.ref C7) (.ref C3) = some false)
    (ex7_4 : PySem.W.subIn K (.ref C7) (.ref C4) = some false)
    (ex7_5 : PySem.W.subIn K (.ref C7) (.ref C5) = some false)
    (ex7_6 : PySem.W.subIn K (.ref C7) (.ref C6) = some false)
    (ex7_7 : PySem.W.subIn K (.ref C7) (.ref C7) = some true)
    (ex7_8 : PySem.W.subIn K (.ref C7) (.ref C8) = some false)
    (ex8_1 : PySem.W.subIn K (.ref C8) (.ref C1) = some false)
    (ex8_2 : PySem.W.subIn K (.ref C8) (.ref C2) = some false)
    (ex8_3 : PySem.W.subIn K (.ref C8) (.ref C3) = some false)
    (ex8_4 : PySem.W.subIn K (.ref C8) (.ref C4) = some false)
    (ex8_5 : PySem.W.subIn K (.ref C8) (.ref C5) = some false)
    (ex8_6 : PySem.W.subIn K (.ref C8) (.ref C6) = some false)
    (ex8_7 : PySem.W.subIn K (.ref C8) (.ref C7) = some false)
    (ex8_8 : PySem.W.subIn K (.ref C8) (.ref C8) = some true)
    (hnE : PySem.W.specialIn K (.builtin "object.__class__") "__get__" = some (some (.builtin "getset_descriptor.__get__"))) (htE : PySem.W.takesIn K (.builtin "object.__class__") = some true)
    (xha1 : PySem.W.findIn K (.ref C1) "__class__" = some (some (.builtin "object.__class__"))) (xhm1 : PySem.W.mroIn K C1 (.type "object") = some true)
    (xha2 : PySem.W.findIn K (.ref C2) "__class__" = some (some (.builtin "object.__class__"))) (xhm2 : PySem.W.mroIn K C2 (.type "object") = some true)
    (xha3 : PySem.W.findIn K (.ref C3) "__class__" = some (some (.builtin "object.__class__"))) (xhm3 : PySem.W.mroIn K C3 (.type "object") = some true)
    (xha4 : PySem.W.findIn K (.ref C4) "__class__" = some (some (.builtin "object.__class__"))) (xhm4 : PySem.W.mroIn K C4 (.type "object") = some true)
    (xha5 : PySem.W.findIn K (.ref C5) "__class__" = some (some (.builtin "object.__class__"))) (xhm5 : PySem.W.mroIn K C5 (.type "object") = some true)
    (xha6 : PySem.W.findIn K (.ref C6) "__class__" = some (some (.builtin "object.__class__"))) (xhm6 : PySem.W.mroIn K C6 (.type "object") = some true)
    (xha7 : PySem.W.findIn K (.ref C7) "__class__" = some (some (.builtin "object.__class__"))) (xhm7 : PySem.W.mroIn K C7 (.type "object") = some true)
    (xha8 : PySem.W.findIn K (.ref C8) "__class__" = some (some (.builtin "object.__class__"))) (xhm8 : PySem.W.mroIn K C8 (.type "object") = some true)
    (kb1_ValueError : PySem.W.subIn K (.ref C1) (.type "ValueError") = some true)
    (kb1_OverflowError : PySem.W.subIn K (.ref C1) (.type "OverflowError") = some false)
    (kb1_LookupError : PySem.W.subIn K (.ref C1) (.type "LookupError") = some false)
    (kb1_KeyError : PySem.W.subIn K (.ref C1) (.type "KeyError") = some false)
    (kb1_IndexError : PySem.W.subIn K (.ref C1) (.type "IndexError") = some false)
    (kb1_RuntimeError : PySem.W.subIn K (.ref C1) (.type "RuntimeError") = some false)
    (kb2_ValueError : PySem.W.subIn K (.ref C2) (.type "ValueError") = some true)
    (kb2_OverflowError : PySem.W.subIn K (.ref C2) (.type "OverflowError") = some false)
    (kb2_LookupError : PySem.W.subIn K (.ref C2) (.type "LookupError") = some false)
    (kb2_KeyError : PySem.W.subIn K (.ref C2) (.type "KeyError") = some false)
    (kb2_IndexError : PySem.W.subIn K (.ref C2) (.type "IndexError") = some false)
    (kb2_RuntimeError : PySem.W.subIn K (.ref C2) (.type "RuntimeError") = some false)
    (kb3_ValueError : PySem.W.subIn K (.ref C3) (.type "ValueError") = some true)
    (kb3_OverflowError : PySem.W.subIn K (.ref C3) (.type "OverflowError") = some false)
    (kb3_LookupError : PySem.W.subIn K (.ref C3) (.type "LookupError") = some false)
    (kb3_KeyError : PySem.W.subIn K (.ref C3) (.type "KeyError") = some false)
    (kb3_IndexError : PySem.W.subIn K (.ref C3) (.type "IndexError") = some false)
    (kb3_RuntimeError : PySem.W.subIn K (.ref C3) (.type "RuntimeError") = some false)
    (kb4_ValueError : PySem.W.subIn K (.ref C4) (.type "ValueError") = some true)
    (kb4_OverflowError : PySem.W.subIn K (.ref C4) (.type "OverflowError") = some false)
    (kb4_LookupError : PySem.W.subIn K (.ref C4) (.type "LookupError") = some false)
    (kb4_KeyError : PySem.W.subIn K (.ref C4) (.type "KeyError") = some false)
    (kb4_IndexError : PySem.W.subIn K (.ref C4) (.type "IndexError") = some false)
    (kb4_RuntimeError : PySem.W.subIn K (.ref C4) (.type "RuntimeError") = some false)
    (kb5_ValueError : PySem.W.subIn K (.ref C5) (.type "ValueError") = some true)
    (kb5_OverflowError : PySem.W.subIn K (.ref C5) (.type "OverflowError") = some false)
    (kb5_LookupError : PySem.W.subIn K (.ref C5) (.type "LookupError") = some false)
    (kb5_KeyError : PySem.W.subIn K (.ref C5) (.type "KeyError") = some false)
    (kb5_IndexError : PySem.W.subIn K (.ref C5) (.type "IndexError") = some false)
    (kb5_RuntimeError : PySem.W.subIn K (.ref C5) (.type "RuntimeError") = some false)
    (kb6_ValueError : PySem.W.subIn K (.ref C6) (.type "ValueError") = some true)
    (kb6_OverflowError : PySem.W.subIn K (.ref C6) (.type "OverflowError") = some false)
    (kb6_LookupError : PySem.W.subIn K (.ref C6) (.type "LookupError") = some false)
    (kb6_KeyError : PySem.W.subIn K (.ref C6) (.type "KeyError") = some false)
    (kb6_IndexError : PySem.W.subIn K (.ref C6) (.type "IndexError") = some false)
    (kb6_RuntimeError : PySem.W.subIn K (.ref C6) (.type "RuntimeError") = some false)
    (kb7_ValueError : PySem.W.subIn K (.ref C7) (.type "ValueError") = some false)
    (kb7_OverflowError : PySem.W.subIn K (.ref C7) (.type "OverflowError") = some true)
    (kb7_LookupError : PySem.W.subIn K (.ref C7) (.type "LookupError") = some false)
    (kb7_KeyError : PySem.W.subIn K (.ref C7) (.type "KeyError") = some false)
    (kb7_IndexError : PySem.W.subIn K (.ref C7) (.type "IndexError") = some false)
    (kb7_RuntimeError : PySem.W.subIn K (.ref C7) (.type "RuntimeError") = some false)
    (kb8_ValueError : PySem.W.subIn K (.ref C8) (.type "ValueError") = some false)
    (kb8_OverflowError : PySem.W.subIn K (.ref C8) (.type "OverflowError") = some false)
    (kb8_LookupError : PySem.W.subIn K (.ref C8) (.type "LookupError") = some true)
    (kb8_KeyError : PySem.W.subIn K (.ref C8) (.type "KeyError") = some false)
    (kb8_IndexError : PySem.W.subIn K (.ref C8) (.type "IndexError") = some false)
    (kb8_RuntimeError : PySem.W.subIn K (.ref C8) (.type "RuntimeError") = some false) :
    ∃ fd : FuncData, (∀ (s : Shared) (v : Value), BindsTo s fd ⟨[v], []⟩ [("_law_script", v)]) ∧ ∀ base : Heap, K.In base → base.Ns mainGlobals mg → FnG l.prog w K mg base CX0 6 fa fd ["_law_script"] (spLaw K) := by
  have e := hfa.symm.trans (PySem.W.mg_of X G a9)
  cases e
  have F0 := fun_mk (st := s12) l0 c0 k0
  have F1 := fun_mk (st := s13) l1 c1 k1
  have F2 := fun_mk (st := s14) l2 c2 k2
  have F3 := fun_mk (st := s15) l3 c3 k3
  have F4 := fun_mk (st := s16) l4 c4 k4
  have F5 := fun_mk (st := s17) l5 c5 k5
  have F6 := fun_mk (st := s18) l6 c6 k6
  have F7 := fun_mk (st := s19) l7 c7 k7
  have F8 := fun_mk (st := s20) l8 c8 k8
  have F9 := fun_mk (st := s21) l9 c9 k9
  have F10 := fun_mk (st := s10) l10 c10 k10
  have F11 := fun_mk (st := s11) l11 c11 k11
  let T : Tx l.prog K mg := ⟨f0,
    _,
    F0,
    PySem.W.mg_of X G a0,
    F0.binds fun _ _ _ _ _ _ us hl => match us, hl with | [_, _], _ => rfl,
    f1,
    _,
    F1,
    PySem.W.mg_of X G a1,
    F1.binds fun _ _ _ _ _ _ us hl => match us, hl with | [_], _ => rfl,
    f2,
    _,
    F2,
    PySem.W.mg_of X G a2,
    F2.binds fun _ _ _ _ _ _ us hl => match us, hl with | [_], _ => rfl,
    f3,
    _,
    F3,
    PySem.W.mg_of X G a3,
    F3.binds fun _ _ _ _ _ _ us hl => match us, hl with | [_], _ => rfl,
    f4,
    _,
    F4,
    PySem.W.mg_of X G a4,
    F4.binds fun _ _ _ _ _ _ us hl => match us, hl with | [_], _ => rfl,
    f5,
    _,
    F5,
    PySem.W.mg_of X G a5,
    F5.binds fun _ _ _ _ _ _ us hl => match us, hl with | [_], _ => rfl,
    f6,
    _,
    F6,
    PySem.W.mg_of X G a6,
    F6.binds fun _ _ _ _ _ _ us hl => match us, hl with | [_], _ => rfl,
    f7,
    _,
    F7,
    PySem.W.mg_of X G a7,
    F7.binds fun _ _ _ _ _ _ us hl => match us, hl with | [_, _], _ => rfl,
    f8,
    _,
    F8,
    PySem.W.mg_of X G a8,
    F8.binds fun _ _ _ _ _ _ us hl => match us, hl with | [_, _], _ => rfl,
    fa,
    _,
    F9,
    PySem.W.mg_of X G a9,
    F9.binds fun _ _ _ _ _ _ us hl => match us, hl with | [_], _ => rfl,
    f10,
    _,
    F10,
    PySem.W.mg_of X G a10,
    F10.binds fun _ _ _ _ _ _ us hl => match us, hl with | [_], _ => rfl,
    f11,
    _,
    F11,
    PySem.W.mg_of X G a11,
    F11.binds fun _ _ _ _ _ _ us hl => match us, hl with | [_, _], _ => rfl,
    PySem.W.mg_none_of X G z0,
    PySem.W.mg_none_of X G z1,
    PySem.W.mg_none_of X G z2,
    PySem.W.mg_none_of X G z3,
    PySem.W.mg_none_of X G z4,
    PySem.W.mg_none_of X G z5,
    PySem.W.mg_none_of X G z6,
    PySem.W.mg_none_of X G z7,
    PySem.W.mg_none_of X G z8,
    PySem.W.mg_none_of X G z9,
    PySem.W.mg_none_of X G z10,
    PySem.W.mg_none_of X G z11,
    PySem.W.mg_none_of X G z12,
    PySem.W.mg_none_of X G z13,
    C1,
    fI1,
    ⟨PySem.W.mg_of X G xa1, ⟨_, _, _, _, PySem.EXN.xb_ValueError, xv1, xu1, _, _, _, _, _, _, _, _, _, _, _, _, _, _, xl1⟩, xs1, xg1, xh1, xi1, xt1, xk1, xe1, xy1, xd1, xm1, xn1, PySem.W.mg_none_of X G xz1, xp1, ⟨_, _, _, _, _, _, _, _, _, xf1, xc1, ⟨_, _, _, _, _, _, xq1, xr1, xw1⟩, _, _, _, xj1⟩⟩,
    xo1,
    C2,
    fI2,
    ⟨PySem.W.mg_of X G xa2, ⟨_, _, _, _, PySem.EXN.xb_ValueError, xv2, xu2, _, _, _, _, _, _, _, _, _, _, _, _, _, _, xl2⟩, xs2, xg2, xh2, xi2, xt2, xk2, xe2, xy2, xd2, xm2, xn2, PySem.W.mg_none_of X G xz2, xp2, ⟨_, _, _, _, _, _, _, _, _, xf2, xc2, ⟨_, _, _, _, _, _, xq2, xr2, xw2⟩, _, _, _, xj2⟩⟩,
    xo2,
    C3,
    fI3,
    ⟨PySem.W.mg_of X G xa3, ⟨_, _, _, _, PySem.EXN.xb_ValueError, xv3, xu3, _, _, _, _, _, _, _, _, _, _, _, _, _, _, xl3⟩, xs3, xg3, xh3, xi3, xt3, xk3, xe3, xy3, xd3, xm3, xn3, PySem.W.mg_none_of X G xz3, xp3, ⟨_, _, _, _, _, _, _, _, _, xf3, xc3, ⟨_, _, _, _, _, _, xq3, xr3, xw3⟩, _, _, _, xj3⟩⟩,
    xo3,
    C4,
    fI4,
    ⟨PySem.W.mg_of X G xa4, ⟨_, _, _, _, PySem.EXN.xb_ValueError, xv4, xu4, _, _, _, _, _, _, _, _, _, _, _, _, _, _, xl4⟩, xs4, xg4, xh4, xi4, xt4, xk4, xe4, xy4, xd4, xm4, xn4, PySem.W.mg_none_of X G xz4, xp4, ⟨_, _, _, _, _, _, _, _, _, xf4, xc4, ⟨_, _, _, _, _, _, xq4, xr4, xw4⟩, _, _, _, xj4⟩⟩,
    xo4,
    C5,
    fI5,
    ⟨PySem.W.mg_of X G xa5, ⟨_, _, _, _, PySem.EXN.xb_ValueError, xv5, xu5, _, _, _, _, _, _, _, _, _, _, _, _, _, _, xl5⟩, xs5, xg5, xh5, xi5, xt5, xk5, xe5, xy5, xd5, xm5, xn5, PySem.W.mg_none_of X G xz5, xp5, ⟨_, _, _, _, _, _, _, _, _, xf5, xc5, ⟨_, _, _, _, _, _, xq5, xr5, xw5⟩, _, _, _, xj5⟩⟩,
    xo5,
    C6,
    fI6,
    ⟨PySem.W.mg_of X G xa6, ⟨_, _, _, _, PySem.EXN.xb_ValueError, xv6, xu6, _, _, _, _, _, _, _, _, _, _, _, _, _, _, xl6⟩, xs6, xg6, xh6, xi6, xt6, xk6, xe6, xy6, xd6, xm6, xn6, PySem.W.mg_none_of X G xz6, xp6, ⟨_, _, _, _, _, _, _, _, _, xf6, xc6, ⟨_, _, _, _, _, _, xq6, xr6, xw6⟩, _, _, _, xj6⟩⟩,
    C7,
    fI7,
    ⟨PySem.W.mg_of X G xa7, ⟨_, _, _, _, PySem.EXN.xb_OverflowError, xv7, xu7, _, _, _, _, _, _, _, _, _, _, _, _, _, _, xl7⟩, xs7, xg7, xh7, xi7, xt7, xk7, xe7, xy7, xd7, xm7, xn7, PySem.W.mg_none_of X G xz7, xp7, ⟨_, _, _, _, _, _, _, _, _, xf7, xc7, ⟨_, _, _, _, _, _, xq7, xr7, xw7⟩, _, _, _, xj7⟩⟩,
    xo7,
    C8,
    fI8,
    ⟨PySem.W.mg_of X G xa8, ⟨_, _, _, _, PySem.EXN.xb_LookupError, xv8, xu8, _, _, _, _, _, _, _, _, _, _, _, _, _, _, xl8⟩, xs8, xg8, xh8, xi8, xt8, xk8, xe8, xy8, xd8, xm8, xn8, PySem.W.mg_none_of X G xz8, xp8, ⟨_, _, _, _, _, _, _, _, _, xf8, xc8, ⟨_, _, _, _, _, _, xq8, xr8, xw8⟩, _, _, _, xj8⟩⟩,
    DL.exm_of xe1 xb1 xy1 ex1_1,
    DL.exm_of xe2 xb2 xy2 ex1_2,
    DL.exm_of xe3 xb3 xy3 ex1_3,
    DL.exm_of xe4 xb4 xy4 ex1_4,
    DL.exm_of xe5 xb5 xy5 ex1_5,
    DL.exm_of xe6 xb6 xy6 ex1_6,
    DL.exm_of xe7 xb7 xy7 ex1_7,
    DL.exm_of xe8 xb8 xy8 ex1_8,
    DL.exm_of xe1 xb1 xy1 ex2_1,
    DL.exm_of xe2 xb2 xy2 ex2_2,
    DL.exm_of xe3 xb3 xy3 ex2_3,
    DL.exm_of xe4 xb4 xy4 ex2_4,
    DL.exm_of xe5 xb5 xy5 ex2_5,
    DL.exm_of xe6 xb6 xy6 ex2_6,
    DL.exm_of xe7 xb7 xy7 ex2_7,
    DL.exm_of xe8 xb8 xy8 ex2_8,
    DL.exm_of xe1 xb1 xy1 ex3_1,
    DL.exm_of xe2 xb2 xy2 ex3_2,
    DL.exm_of xe3 xb3 xy3 ex3_3,
    DL.exm_of xe4 xb4 xy4 ex3_4,
    DL.exm_of xe5 xb5 xy5 ex3_5,
    DL.exm_of xe6 xb6 xy6 ex3_6,
    DL.exm_of xe7 xb7 xy7 ex3_7,
    DL.exm_of xe8 xb8 xy8 ex3_8,
    DL.exm_of xe1 xb1 xy1 ex4_1,
    DL.exm_of xe2 xb2 xy2 ex4_2,
    DL.exm_of xe3 xb3 xy3 ex4_3,
    DL.exm_of xe4 xb4 xy4 ex4_4,
    DL.exm_of xe5 xb5 xy5 ex4_5,
    DL.exm_of xe6 xb6 xy6 ex4_6,
    DL.exm_of xe7 xb7 xy7 ex4_7,
    DL.exm_of xe8 xb8 xy8 ex4_8,
    DL.exm_of xe1 xb1 xy1 ex5_1,
    DL.exm_of xe2 xb2 xy2 ex5_2,
    DL.exm_of xe3 xb3 xy3 ex5_3,
    DL.exm_of xe4 xb4 xy4 ex5_4,
    DL.exm_of xe5 xb5 xy5 ex5_5,
    DL.exm_of xe6 xb6 xy6 ex5_6,
    DL.exm_of xe7 xb7 xy7 ex5_7,
    DL.exm_of xe8 xb8 xy8 ex5_8,
    DL.exm_of xe1 xb1 xy1 ex6_1,
    DL.exm_of xe2 xb2 xy2 ex6_2,
    DL.exm_of xe3 xb3 xy3 ex6_3,
    DL.exm_of xe4 xb4 xy4 ex6_4,
    DL.exm_of xe5 xb5 xy5 ex6_5,
    DL.exm_of xe6 xb6 xy6 ex6_6,
    DL.exm_of xe7 xb7 xy7 ex6_7,
    DL.exm_of xe8 xb8 xy8 ex6_8,
    DL.exm_of xe1 xb1 xy1 ex7_1,
    DL.exm_of xe2 xb2 xy2 ex7_2,
    DL.exm_of xe3 xb3 xy3 ex7_3,
    DL.exm_of xe4 xb4 xy4 ex7_4,
    DL.exm_of xe5 xb5 xy5 ex7_5,
    DL.exm_of xe6 xb6 xy6 ex7_6,
    DL.exm_of xe7 xb7 xy7 ex7_7,
    DL.exm_of xe8 xb8 xy8 ex7_8,
    DL.exm_of xe1 xb1 xy1 ex8_1,
    DL.exm_of xe2 xb2 xy2 ex8_2,
    DL.exm_of xe3 xb3 xy3 ex8_3,
    DL.exm_of xe4 xb4 xy4 ex8_4,
    DL.exm_of xe5 xb5 xy5 ex8_5,
    DL.exm_of xe6 xb6 xy6 ex8_6,
    DL.exm_of xe7 xb7 xy7 ex8_7,
    DL.exm_of xe8 xb8 xy8 ex8_8,
    ⟨xg1, xh1, xe1, xd1, xha1, hnE, htE, xhm1⟩,
    ⟨xg2, xh2, xe2, xd2, xha2, hnE, htE, xhm2⟩,
    ⟨xg3, xh3, xe3, xd3, xha3, hnE, htE, xhm3⟩,
    ⟨xg4, xh4, xe4, xd4, xha4, hnE, htE, xhm4⟩,
    ⟨xg5, xh5, xe5, xd5, xha5, hnE, htE, xhm5⟩,
    ⟨xg6, xh6, xe6, xd6, xha6, hnE, htE, xhm6⟩,
    ⟨xg7, xh7, xe7, xd7, xha7, hnE, htE, xhm7⟩,
    ⟨xg8, xh8, xe8, xd8, xha8, hnE, htE, xhm8⟩,
    DL.kit_clsOf xb1 xy1 ex1_1 ex1_1,
    DL.kit_clsOf xb2 xy2 ex1_2 ex1_1,
    DL.kit_clsOf xb3 xy3 ex1_3 ex1_1,
    DL.kit_clsOf xb4 xy4 ex1_4 ex1_1,
    DL.kit_clsOf xb5 xy5 ex1_5 ex1_1,
    DL.kit_clsOf xb6 xy6 ex1_6 ex1_1,
    DL.kit_clsOf xb7 xy7 ex1_7 ex1_1,
    DL.kit_clsOf xb8 xy8 ex1_8 ex1_1,
    DL.kit_bltOf (by decide +kernel) kb1_ValueError,
    DL.kit_bltOf (by decide +kernel) kb1_OverflowError,
    DL.kit_bltOf (by decide +kernel) kb1_LookupError,
    DL.kit_bltOf (by decide +kernel) kb1_KeyError,
    DL.kit_bltOf (by decide +kernel) kb1_IndexError,
    DL.kit_bltOf (by decide +kernel) kb1_RuntimeError,
    DL.kit_clsOf xb1 xy1 ex2_1 ex2_2,
    DL.kit_clsOf xb2 xy2 ex2_2 ex2_2,
    DL.kit_clsOf xb3 xy3 ex2_3 ex2_2,
    DL.kit_clsOf xb4 xy4 ex2_4 ex2_2,
    DL.kit_clsOf xb5 xy5 ex2_5 ex2_2,
    DL.kit_clsOf xb6 xy6 ex2_6 ex2_2,
    DL.kit_clsOf xb7 xy7 ex2_7 ex2_2,
    DL.kit_clsOf xb8 xy8 ex2_8 ex2_2,
    DL.kit_bltOf (by decide +kernel) kb2_ValueError,
    DL.kit_bltOf (by decide +kernel) kb2_OverflowError,
    DL.kit_bltOf (by decide +kernel) kb2_LookupError,
    DL.kit_bltOf (by decide +kernel) kb2_KeyError,
    DL.kit_bltOf (by decide +kernel) kb2_IndexError,
    DL.kit_bltOf (by decide +kernel) kb2_RuntimeError,
    DL.kit_clsOf xb1 xy1 ex3_1 ex3_3,
    DL.kit_clsOf xb2 xy2 ex3_2 ex3_3,
    DL.kit_clsOf xb3 xy3 ex3_3 ex3_3,
    DL.kit_clsOf xb4 xy4 ex3_4 ex3_3,
    DL.kit_clsOf xb5 xy5 ex3_5 ex3_3,
    DL.kit_clsOf xb6 xy6 ex3_6 ex3_3,
    DL.kit_clsOf xb7 xy7 ex3_7 ex3_3,
    DL.kit_clsOf xb8 xy8 ex3_8 ex3_3,
    DL.kit_bltOf (by decide +kernel) kb3_ValueError,
    DL.kit_bltOf (by decide +kernel) kb3_OverflowError,
    DL.kit_bltOf (by decide +kernel) kb3_LookupError,
    DL.kit_bltOf (by decide +kernel) kb3_KeyError,
    DL.kit_bltOf (by decide +kernel) kb3_IndexError,
    DL.kit_bltOf (by decide +kernel) kb3_RuntimeError,
    DL.kit_clsOf xb1 xy1 ex4_1 ex4_4,
    DL.kit_clsOf xb2 xy2 ex4_2 ex4_4,
    DL.kit_clsOf xb3 xy3 ex4_3 ex4_4,
    DL.kit_clsOf xb4 xy4 ex4_4 ex4_4,
    DL.kit_clsOf xb5 xy5 ex4_5 ex4_4,
    DL.kit_clsOf xb6 xy6 ex4_6 ex4_4,
    DL.kit_clsOf xb7 xy7 ex4_7 ex4_4,
    DL.kit_clsOf xb8 xy8 ex4_8 ex4_4,
    DL.kit_bltOf (by decide +kernel) kb4_ValueError,
    DL.kit_bltOf (by decide +kernel) kb4_OverflowError,
    DL.kit_bltOf (by decide +kernel) kb4_LookupError,
    DL.kit_bltOf (by decide +kernel) kb4_KeyError,
    DL.kit_bltOf (by decide +kernel) kb4_IndexError,
    DL.kit_bltOf (by decide +kernel) kb4_RuntimeError,
    DL.kit_clsOf xb1 xy1 ex5_1 ex5_5,
    DL.kit_clsOf xb2 xy2 ex5_2 ex5_5,
    DL.kit_clsOf xb3 xy3 ex5_3 ex5_5,
    DL.kit_clsOf xb4 xy4 ex5_4 ex5_5,
    DL.kit_clsOf xb5 xy5 ex5_5 ex5_5,
    DL.kit_clsOf xb6 xy6 ex5_6 ex5_5,
    DL.kit_clsOf xb7 xy7 ex5_7 ex5_5,
    DL.kit_clsOf xb8 xy8 ex5_8 ex5_5,
    DL.kit_bltOf (by decide +kernel) kb5_ValueError,
    DL.kit_bltOf (by decide +kernel) kb5_OverflowError,
    DL.kit_bltOf (by decide +kernel) kb5_LookupError,
    DL.kit_bltOf (by decide +kernel) kb5_KeyError,
    DL.kit_bltOf (by decide +kernel) kb5_IndexError,
    DL.kit_bltOf (by decide +kernel) kb5_RuntimeError,
    DL.kit_clsOf xb1 xy1 ex6_1 ex6_6,
    DL.kit_clsOf xb2 xy2 ex6_2 ex6_6,
    DL.kit_clsOf xb3 xy3 ex6_3 ex6_6,
    DL.kit_clsOf xb4 xy4 ex6_4 ex6_6,
    DL.kit_clsOf xb5 xy5 ex6_5 ex6_6,
    DL.kit_clsOf xb6 xy6 ex6_6 ex6_6,
    DL.kit_clsOf xb7 xy7 ex6_7 ex6_6,
    DL.kit_clsOf xb8 xy8 ex6_8 ex6_6,
    DL.kit_bltOf (by decide +kernel) kb6_ValueError,
    DL.kit_bltOf (by decide +kernel) kb6_OverflowError,
    DL.kit_bltOf (by decide +kernel) kb6_LookupError,
    DL.kit_bltOf (by decide +kernel) kb6_KeyError,
    DL.kit_bltOf (by decide +kernel) kb6_IndexError,
    DL.kit_bltOf (by decide +kernel) kb6_RuntimeError,
    DL.kit_clsOf xb1 xy1 ex7_1 ex7_7,
    DL.kit_clsOf xb2 xy2 ex7_2 ex7_7,
    DL.kit_clsOf xb3 xy3 ex7_3 ex7_7,
    DL.kit_clsOf xb4 xy4 ex7_4 ex7_7,
    DL.kit_clsOf xb5 xy5 ex7_5 ex7_7,
    DL.kit_clsOf xb6 xy6 ex7_6 ex7_7,
    DL.kit_clsOf xb7 xy7 ex7_7 ex7_7,
    DL.kit_clsOf xb8 xy8 ex7_8 ex7_7,
    DL.kit_bltOf (by decide +kernel) kb7_ValueError,
    DL.kit_bltOf (by decide +kernel) kb7_OverflowError,
    DL.kit_bltOf (by decide +kernel) kb7_LookupError,
    DL.kit_bltOf (by decide +kernel) kb7_KeyError,
    DL.kit_bltOf (by decide +kernel) kb7_IndexError,
    DL.kit_bltOf (by decide +kernel) kb7_RuntimeError,
    DL.kit_clsOf xb1 xy1 ex8_1 ex8_8,
    DL.kit_clsOf xb2 xy2 ex8_2 ex8_8,
    DL.kit_clsOf xb3 xy3 ex8_3 ex8_8,
    DL.kit_clsOf xb4 xy4 ex8_4 ex8_8,
    DL.kit_clsOf xb5 xy5 ex8_5 ex8_8,
    DL.kit_clsOf xb6 xy6 ex8_6 ex8_8,
    DL.kit_clsOf xb7 xy7 ex8_7 ex8_8,
    DL.kit_clsOf xb8 xy8 ex8_8 ex8_8,
    DL.kit_bltOf (by decide +kernel) kb8_ValueError,
    DL.kit_bltOf (by decide +kernel) kb8_OverflowError,
    DL.kit_bltOf (by decide +kernel) kb8_LookupError,
    DL.kit_bltOf (by decide +kernel) kb8_KeyError,
    DL.kit_bltOf (by decide +kernel) kb8_IndexError,
    DL.kit_bltOf (by decide +kernel) kb8_RuntimeError⟩
  exact ⟨PySem.W.fnOf "law" "law" (defArgs s21) (defBody s21) (defScope s21) .none kV9 dc9 pm9 an9 cd9 ct9, fun s v => .of_eq rfl, fun base _ _ => ok_law T⟩
theorem walk {l : PySem.W.OpenLaw} {q : Program} {loose : List Str} {XP : (Str → Option Value) → Heap → Prop} {YP : World → Heap → Prop} {d : DefRec} {K : Params → PySem.W.Frag} (hn : l.most = some 63) (hdf : d.params.defaults = [])
    (hY : ∀ (w : World) (h : Heap), YP w h → (K w.params).In h)
    (F : ∀ (w : World) (mg : Str → Option Value) (fa : Addr) (h : Heap), (K w.params).In h → h.Ns mainGlobals mg → mg d.name = some (.ref fa) →
      ∃ fd : FuncData, (∀ (s : Shared) (u : Value), BindsTo s fd ⟨[u], []⟩ [("_law_script", u)]) ∧ ∀ base : Heap, (K w.params).In base → base.Ns mainGlobals mg → FnG l.prog w (K w.params) mg base CX0 6 fa fd ["_law_script"] (spLaw (K w.params))) :
    PySem.W.WalkO q loose XP YP l.row.toRowW d [] (fun f vs => PySem.call f vs) :=
  walkG (n := 63) (k := 6) (x := "_law_script") (sp := fun w => spLaw (K w.params)) hn (by decide) hdf ⟨rfl, by decide, by decide⟩ hY F fun _ _ a ns hl hO hS => ⟨a, ns, rfl, hl, hO, hS, fun _ => rfl⟩
end K87
open PySem PySem.W PyProof.Rows
set_option maxRecDepth 100000 in
set_option maxHeartbeats 0 in
theorem PySem.Challenge.cw_nestcrates_k87_errors_holds : PySem.Challenge.rw_nestcrates_k87_errors.Holds := by
  w_on; o_law; k_head; (case hw => w_witness2)
  k_fill
  refine K87.walk (l := PySem.Challenge.rw_nestcrates_k87_errors) rfl rfl (fun w h Y => PySem.W.kIn_of Y) ?F
  case F =>
    intro w mg fa h KX G hmg
    refine' K87.all_mk KX G hmg ?a0 ?l0 ?c0 ?k0 ?a1 ?l1 ?c1 ?k1 ?a2 ?l2 ?c2 ?k2 ?a3 ?l3 ?c3 ?k3 ?a4 ?l4 ?c4 ?k4 ?a5 ?l5 ?c5 ?k5 ?a6 ?l6 ?c6 ?k6 ?a7 ?l7 ?c7 ?k7 ?a8 ?l8 ?c8 ?k8 ?a9 ?l9 ?c9 ?k9 ?a10 ?l10 ?c10 ?k10 ?a11 ?l11 ?c11 ?k11 ?z0 ?z1 ?z2 ?z3 ?z4 ?z5 ?z6 ?z7 ?z8 ?z9 ?z10 ?z11 ?z12 ?z13 ?xa1 ?xl1 ?xs1 ?xg1 ?xh1 ?xi1 ?xt1 ?xk1 ?xe1 ?xv1 ?xy1 ?xd1 ?xb1 ?xm1 ?xu1 ?xn1 ?xz1 ?xp1 ?xf1 ?xc1 ?xq1 ?xr1 ?xw1 ?xj1 ?xo1 ?xa2 ?xl2 ?xs2 ?xg2 ?xh2 ?xi2 ?xt2 ?xk2 ?xe2 ?xv2 ?xy2 ?xd2 ?xb2 ?xm2 ?xu2 ?xn2 ?xz2 ?xp2 ?xf2 ?xc2 ?xq2 ?xr2 ?xw2 ?xj2 ?xo2 ?xa3 ?xl3 ?xs3 ?xg3 ?xh3 ?xi3 ?xt3 ?xk3 ?xe3 ?xv3 ?xy3 ?xd3 ?xb3 ?xm3 ?xu3 ?xn3 ?xz3 ?xp3 ?xf3 ?xc3 ?xq3 ?xr3 ?xw3 ?xj3 ?xo3 ?xa4 ?xl4 ?xs4 ?xg4 ?xh4 ?xi4 ?xt4 ?xk4 ?xe4 ?xv4 ?xy4 ?xd4 ?xb4 ?xm4 ?xu4 ?xn4 ?xz4 ?xp4 ?xf4 ?xc4 ?xq4 ?xr4 ?xw4 ?xj4 ?xo4 ?xa5 ?xl5 ?xs5 ?xg5 ?xh5 ?xi5 ?xt5 ?xk5 ?xe5 ?xv5 ?xy5 ?xd5 ?xb5 ?xm5 ?xu5 ?xn5 ?xz5 ?xp5 ?xf5 ?xc5 ?xq5 ?xr5 ?xw5 ?xj5 ?xo5 ?xa6 ?xl6 ?xs6 ?xg6 ?xh6 ?xi6 ?xt6 ?xk6 ?xe6 ?xv6 ?xy6 ?xd6 ?xb6 ?xm6 ?xu6 ?xn6 ?xz6 ?xp6 ?xf6 ?xc6 ?xq6 ?xr6 ?xw6 ?xj6 ?xa7 ?xl7 ?xs7 ?xg7 ?xh7 ?xi7 ?xt7 ?xk7 ?xe7 ?xv7 ?xy7 ?xd7 ?xb7 ?xm7 ?xu7 ?xn7 ?xz7 ?xp7 ?xf7 ?xc7 ?xq7 ?xr7 ?xw7 ?xj7 ?xo7 ?xa8 ?xl8 ?xs8 ?xg8 ?xh8 ?xi8 ?xt8 ?xk8 ?xe8 ?xv8 ?xy8 ?xd8 ?xb8 ?xm8 ?xu8 ?xn8 ?xz8 ?xp8 ?xf8 ?xc8 ?xq8 ?xr8 ?xw8 ?xj8 ?ex1_1 ?ex1_2 ?ex1_3 ?ex1_4 ?ex1_5 ?ex1_6 ?ex1_7 ?ex1_8 ?ex2_1 ?ex2_2 ?ex2_3 ?ex2_4 ?ex2_5 ?ex2_6 ?ex2_7 ?ex2_8 ?ex3_1 ?ex3_2 ?ex3_3 ?ex3_4 ?ex3_5 ?ex3_6 ?ex3_7 ?ex3_8 ?ex4_1 ?ex4_2 ?ex4_3 ?ex4_4 ?ex4_5 ?ex4_6 ?ex4_7 ?ex4_8 ?ex5_1 ?ex5_2 ?ex5_3 ?ex5_4 ?ex5_5 ?ex5_6 ?ex5_7 ?ex5_8 ?ex6_1 ?ex6_2 ?ex6_3 ?ex6_4 ?ex6_5 ?ex6_6 ?ex6_7 ?ex6_8 ?ex7_1 ?ex7_2 ?ex7_3 ?ex7_4 ?ex7_5 ?ex7_6 ?ex7_7 ?ex7_8 ?ex8_1 ?ex8_2 ?ex8_3 ?ex8_4 ?ex8_5 ?ex8_6 ?ex8_7 ?ex8_8 ?hnE ?htE ?xha1 ?xhm1 ?xha2 ?xhm2 ?xha3 ?xhm3 ?xha4 ?xhm4 ?xha5 ?xhm5 ?xha6 ?xhm6 ?xha7 ?xhm7 ?xha8 ?xhm8 ?kb1_ValueError ?kb1_OverflowError ?kb1_LookupError ?kb1_KeyError ?kb1_IndexError ?kb1_RuntimeError ?kb2_ValueError ?kb2_OverflowError ?kb2_LookupError ?kb2_KeyError ?kb2_IndexError ?kb2_RuntimeError ?kb3_ValueError ?kb3_OverflowError ?kb3_LookupError ?kb3_KeyError ?kb3_IndexError ?kb3_RuntimeError ?kb4_ValueError ?kb4_OverflowError ?kb4_LookupError ?kb4_KeyError ?kb4_IndexError ?kb4_RuntimeError ?kb5_ValueError ?kb5_OverflowError ?kb5_LookupError ?kb5_KeyError ?kb5_IndexError ?kb5_RuntimeError ?kb6_ValueError ?kb6_OverflowError ?kb6_LookupError ?kb6_KeyError ?kb6_IndexError ?kb6_RuntimeError ?kb7_ValueError ?kb7_OverflowError ?kb7_LookupError ?kb7_KeyError ?kb7_IndexError ?kb7_RuntimeError ?kb8_ValueError ?kb8_OverflowError ?kb8_LookupError ?kb8_KeyError ?kb8_IndexError ?kb8_RuntimeError
    (case a0 => k_is); (case l0 => k_is); (case c0 => k_is); (case k0 => k_is)
    (case a1 => k_is); (case l1 => k_is); (case c1 => k_is); (case k1 => k_is)
    (case a2 => k_is); (case l2 => k_is); (case c2 => k_is); (case k2 => k_is)
    (case a3 => k_is); (case l3 => k_is); (case c3 => k_is); (case k3 => k_is)
    (case a4 => k_is); (case l4 => k_is); (case c4 => k_is); (case k4 => k_is)
    (case a5 => k_is); (case l5 => k_is); (case c5 => k_is); (case k5 => k_is)
    (case a6 => k_is); (case l6 => k_is); (case c6 => k_is); (case k6 => k_is)
    (case a7 => k_is); (case l7 => k_is); (case c7 => k_is); (case k7 => k_is)
    (case a8 => k_is); (case l8 => k_is); (case c8 => k_is); (case k8 => k_is)
    (case a9 => k_is); (case l9 => k_is); (case c9 => k_is); (case k9 => k_is)
    (case a10 => k_is); (case l10 => k_is); (case c10 => k_is); (case k10 => k_is)
    (case a11 => k_is); (case l11 => k_is); (case c11 => k_is); (case k11 => k_is)
    (case z0 => k_is); (case z1 => k_is); (case z2 => k_is); (case z3 => k_is)
    (case z4 => k_is); (case z5 => k_is); (case z6 => k_is); (case z7 => k_is)
    (case z8 => k_is); (case z9 => k_is); (case z10 => k_is); (case z11 => k_is)
    (case z12 => k_is); (case z13 => k_is); (case xa1 => k_is); (case xl1 => k_is)
    (case xs1 => k_is); (case xg1 => k_is); (case xh1 => k_is); (case xi1 => k_is)
    (case xt1 => k_is); (case xk1 => k_is); (case xe1 => k_is); (case xv1 => k_is)
    (case xy1 => k_is); (case xd1 => k_is); (case xb1 => k_is); (case xm1 => k_is)
    (case xu1 => ks_is); (case xn1 => k_is); (case xz1 => k_is); (case xp1 => first | rfl | decide +kernel)
    (case xf1 => k_is); (case xc1 => k_is); (case xq1 => k_is); (case xr1 => rfl)
    (case xw1 => first | rfl | decide +kernel); (case xj1 => k_is); (case xo1 => k_is); (case xa2 => k_is)
    (case xl2 => k_is); (case xs2 => k_is); (case xg2 => k_is); (case xh2 => k_is)
    (case xi2 => k_is); (case xt2 => k_is); (case xk2 => k_is); (case xe2 => k_is)
    (case xv2 => k_is); (case xy2 => k_is); (case xd2 => k_is); (case xb2 => k_is)
    (case xm2 => k_is); (case xu2 => ks_is); (case xn2 => k_is); (case xz2 => k_is)
    (case xp2 => first | rfl | decide +kernel); (case xf2 => k_is); (case xc2 => k_is); (case xq2 => k_is)
    (case xr2 => rfl); (case xw2 => first | rfl | decide +kernel); (case xj2 => k_is); (case xo2 => k_is)
    (case xa3 => k_is); (case xl3 => k_is); (case xs3 => k_is); (case xg3 => k_is)
    (case xh3 => k_is); (case xi3 => k_is); (case xt3 => k_is); (case xk3 => k_is)
    (case xe3 => k_is); (case xv3 => k_is); (case xy3 => k_is); (case xd3 => k_is)
    (case xb3 => k_is); (case xm3 => k_is); (case xu3 => ks_is); (case xn3 => k_is)
    (case xz3 => k_is); (case xp3 => first | rfl | decide +kernel); (case xf3 => k_is); (case xc3 => k_is)
    (case xq3 => k_is); (case xr3 => rfl); (case xw3 => first | rfl | decide +kernel); (case xj3 => k_is)
    (case xo3 => k_is); (case xa4 => k_is); (case xl4 => k_is); (case xs4 => k_is)
    (case xg4 => k_is); (case xh4 => k_is); (case xi4 => k_is); (case xt4 => k_is)
    (case xk4 => k_is); (case xe4 => k_is); (case xv4 => k_is); (case xy4 => k_is)
    (case xd4 => k_is); (case xb4 => k_is); (case xm4 => k_is); (case xu4 => ks_is)
    (case xn4 => k_is); (case xz4 => k_is); (case xp4 => first | rfl | decide +kernel); (case xf4 => k_is)
    (case xc4 => k_is); (case xq4 => k_is); (case xr4 => rfl); (case xw4 => first | rfl | decide +kernel)
    (case xj4 => k_is); (case xo4 => k_is); (case xa5 => k_is); (case xl5 => k_is)
    (case xs5 => k_is); (case xg5 => k_is); (case xh5 => k_is); (case xi5 => k_is)
    (case xt5 => k_is); (case xk5 => k_is); (case xe5 => k_is); (case xv5 => k_is)
    (case xy5 => k_is); (case xd5 => k_is); (case xb5 => k_is); (case xm5 => k_is)
    (case xu5 => ks_is); (case xn5 => k_is); (case xz5 => k_is); (case xp5 => first | rfl | decide +kernel)
    (case xf5 => k_is); (case xc5 => k_is); (case xq5 => k_is); (case xr5 => rfl)
    (case xw5 => first | rfl | decide +kernel); (case xj5 => k_is); (case xo5 => k_is); (case xa6 => k_is)
    (case xl6 => k_is); (case xs6 => k_is); (case xg6 => k_is); (case xh6 => k_is)
    (case xi6 => k_is); (case xt6 => k_is); (case xk6 => k_is); (case xe6 => k_is)
    (case xv6 => k_is); (case xy6 => k_is); (case xd6 => k_is); (case xb6 => k_is)
    (case xm6 => k_is); (case xu6 => ks_is); (case xn6 => k_is); (case xz6 => k_is)
    (case xp6 => first | rfl | decide +kernel); (case xf6 => k_is); (case xc6 => k_is); (case xq6 => k_is)
    (case xr6 => rfl); (case xw6 => first | rfl | decide +kernel); (case xj6 => k_is); (case xa7 => k_is)
    (case xl7 => k_is); (case xs7 => k_is); (case xg7 => k_is); (case xh7 => k_is)
    (case xi7 => k_is); (case xt7 => k_is); (case xk7 => k_is); (case xe7 => k_is)
    (case xv7 => k_is); (case xy7 => k_is); (case xd7 => k_is); (case xb7 => k_is)
    (case xm7 => k_is); (case xu7 => ks_is); (case xn7 => k_is); (case xz7 => k_is)
    (case xp7 => first | rfl | decide +kernel); (case xf7 => k_is); (case xc7 => k_is); (case xq7 => k_is)
    (case xr7 => rfl); (case xw7 => first | rfl | decide +kernel); (case xj7 => k_is); (case xo7 => k_is)
    (case xa8 => k_is); (case xl8 => k_is); (case xs8 => k_is); (case xg8 => k_is)
    (case xh8 => k_is); (case xi8 => k_is); (case xt8 => k_is); (case xk8 => k_is)
    (case xe8 => k_is); (case xv8 => k_is); (case xy8 => k_is); (case xd8 => k_is)
    (case xb8 => k_is); (case xm8 => k_is); (case xu8 => ks_is); (case xn8 => k_is)
    (case xz8 => k_is); (case xp8 => first | rfl | decide +kernel); (case xf8 => k_is); (case xc8 => k_is)
    (case xq8 => k_is); (case xr8 => rfl); (case xw8 => first | rfl | decide +kernel); (case xj8 => k_is)
    (case ex1_1 => first | rfl | k_is); (case ex1_2 => first | rfl | k_is); (case ex1_3 => first | rfl | k_is); (case ex1_4 => first | rfl | k_is)
    (case ex1_5 => first | rfl | k_is); (case ex1_6 => first | rfl | k_is); (case ex1_7 => first | rfl | k_is); (case ex1_8 => first | rfl | k_is)
    (case ex2_1 => first | rfl | k_is); (case ex2_2 => first | rfl | k_is); (case ex2_3 => first | rfl | k_is); (case ex2_4 => first | rfl | k_is)
    (case ex2_5 => first | rfl | k_is); (case ex2_6 => first | rfl | k_is); (case ex2_7 => first | rfl | k_is); (case ex2_8 => first | rfl | k_is)
    (case ex3_1 => first | rfl | k_is); (case ex3_2 => first | rfl | k_is); (case ex3_3 => first | rfl | k_is); (case ex3_4 => first | rfl | k_is)
    (case ex3_5 => first | rfl | k_is); (case ex3_6 => first | rfl | k_is); (case ex3_7 => first | rfl | k_is); (case ex3_8 => first | rfl | k_is)
    (case ex4_1 => first | rfl | k_is); (case ex4_2 => first | rfl | k_is); (case ex4_3 => first | rfl | k_is); (case ex4_4 => first | rfl | k_is)
    (case ex4_5 => first | rfl | k_is); (case ex4_6 => first | rfl | k_is); (case ex4_7 => first | rfl | k_is); (case ex4_8 => first | rfl | k_is)
    (case ex5_1 => first | rfl | k_is); (case ex5_2 => first | rfl | k_is); (case ex5_3 => first | rfl | k_is); (case ex5_4 => first | rfl | k_is)
    (case ex5_5 => first | rfl | k_is); (case ex5_6 => first | rfl | k_is); (case ex5_7 => first | rfl | k_is); (case ex5_8 => first | rfl | k_is)
    (case ex6_1 => first | rfl | k_is); (case ex6_2 => first | rfl | k_is); (case ex6_3 => first | rfl | k_is); (case ex6_4 => first | rfl | k_is)
    (case ex6_5 => first | rfl | k_is); (case ex6_6 => first | rfl | k_is); (case ex6_7 => first | rfl | k_is); (case ex6_8 => first | rfl | k_is)
    (case ex7_1 => first | rfl | k_is); (case ex7_2 => first | rfl | k_is); (case ex7_3 => first | rfl | k_is); (case ex7_4 => first | rfl | k_is)
    (case ex7_5 => first | rfl | k_is); (case ex7_6 => first | rfl | k_is); (case ex7_7 => first | rfl | k_is); (case ex7_8 => first | rfl | k_is)
    (case ex8_1 => first | rfl | k_is); (case ex8_2 => first | rfl | k_is); (case ex8_3 => first | rfl | k_is); (case ex8_4 => first | rfl | k_is)
    (case ex8_5 => first | rfl | k_is); (case ex8_6 => first | rfl | k_is); (case ex8_7 => first | rfl | k_is); (case ex8_8 => first | rfl | k_is)
    (case hnE => k_is); (case htE => k_is); (case xha1 => k_is); (case xhm1 => k_is)
    (case xha2 => k_is); (case xhm2 => k_is); (case xha3 => k_is); (case xhm3 => k_is)
    (case xha4 => k_is); (case xhm4 => k_is); (case xha5 => k_is); (case xhm5 => k_is)
    (case xha6 => k_is); (case xhm6 => k_is); (case xha7 => k_is); (case xhm7 => k_is)
    (case xha8 => k_is); (case xhm8 => k_is); (case kb1_ValueError => k_is); (case kb1_OverflowError => k_is)
    (case kb1_LookupError => k_is); (case kb1_KeyError => k_is); (case kb1_IndexError => k_is); (case kb1_RuntimeError => k_is)
    (case kb2_ValueError => k_is); (case kb2_OverflowError => k_is); (case kb2_LookupError => k_is); (case kb2_KeyError => k_is)
    (case kb2_IndexError => k_is); (case kb2_RuntimeError => k_is); (case kb3_ValueError => k_is); (case kb3_OverflowError => k_is)
    (case kb3_LookupError => k_is); (case kb3_KeyError => k_is); (case kb3_IndexError => k_is); (case kb3_RuntimeError => k_is)
    (case kb4_ValueError => k_is); (case kb4_OverflowError => k_is); (case kb4_LookupError => k_is); (case kb4_KeyError => k_is)
    (case kb4_IndexError => k_is); (case kb4_RuntimeError => k_is); (case kb5_ValueError => k_is); (case kb5_OverflowError => k_is)
    (case kb5_LookupError => k_is); (case kb5_KeyError => k_is); (case kb5_IndexError => k_is); (case kb5_RuntimeError => k_is)
    (case kb6_ValueError => k_is); (case kb6_OverflowError => k_is); (case kb6_LookupError => k_is); (case kb6_KeyError => k_is)
    (case kb6_IndexError => k_is); (case kb6_RuntimeError => k_is); (case kb7_ValueError => k_is); (case kb7_OverflowError => k_is)
    (case kb7_LookupError => k_is); (case kb7_KeyError => k_is); (case kb7_IndexError => k_is); (case kb7_RuntimeError => k_is)
    (case kb8_ValueError => k_is); (case kb8_OverflowError => k_is); (case kb8_LookupError => k_is); (case kb8_KeyError => k_is)
    (case kb8_IndexError => k_is); (case kb8_RuntimeError => k_is)
