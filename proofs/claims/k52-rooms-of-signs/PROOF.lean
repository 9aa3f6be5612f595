import PyProof.Rows.All
import Wide.All
import OpenK.AllK
import Wide.FinOn
import HandS.ForMost
import HandS.ForExc
import HandS.Flow
import HandS.TupAny
import HandS.TupMul
import HandS.Wide
import HandS.Walk
import HandS.CallSlots
import HandS.TryOnly
import HandS.TryMany
import HandS.Deep
import HandS.IsInst
import HandS.Zip
import HandS.Rev
import HandS.Iter
import KE.GoesMore
import KE.GoesEnum
import KE.GoesZip
import HandS.Text
import PySem.Challenge.RW_ordergrove_k52_rooms_of_signs
set_option Elab.async false
set_option linter.all false
set_option maxRecDepth 100000
namespace Mir
open PySem PySem.Spec PyProof.Rows L2

/-- pure data; `loc n` is the n-th cell of the store, `scr` the law's script -/
inductive D where
  | non | bl (b : Bool) | int (i : Int) | str (s : Str) | tup (ds : List D) | lst (ds : List D)
  | dic (ks vs : List D) | scr (ns : List Int) | loc (n : Nat)
deriving Inhabited

/-- a cell of the store -/
inductive MO where
  | lst (ds : List D) | dic (ks vs : List D) | ins (c : Str) (fs : List (Str × D))
deriving Inhabited
abbrev Sto := List MO
abbrev Env := List (Option D)
structure Exn where
  cls : Str
  fs : List (Str × D)

inductive R (α : Type) where
  | ok (a : α) (S : Sto) | exc (x : Exn) (S : Sto) | bad
def R.bind {α β : Type} (r : R α) (f : α → Sto → R β) : R β := match r with
  | .ok a S => f a S
  | .exc x S => .exc x S
  | .bad => .bad
section
variable {α β : Type} {f : α → Sto → R β} {a : α} {S : Sto} {x : Exn}
@[simp] theorem bind_ok : (R.ok a S).bind f = f a S := rfl
@[simp] theorem bind_exc : (R.exc x S).bind f = .exc x S := rfl
@[simp] theorem bind_bad : (R.bad).bind f = .bad := rfl
end
inductive Fl where
  | nx (ρ : Env) (S : Sto) | rt (d : D) (S : Sto) | bk (ρ : Env) (S : Sto) | ct (ρ : Env) (S : Sto) | exc (x : Exn) (ρ : Env) (S : Sto) | bad

/-- the static context -/
structure Cs where
  K : PySem.W.Frag
  mg : Str → Option Value

/-- the cells' addresses, and hidden ones (lists that comprehensions are filling) -/
structure Mu where
  cells : List Addr
  hid : List Addr
/-- neither a cell nor hidden -/
def Mu.no (μ : Mu) (a : Addr) : Prop := a ∉ μ.cells ∧ a ∉ μ.hid
abbrev Mu.add (μ : Mu) (p : Addr) : Mu := ⟨μ.cells ++ [p], μ.hid⟩
section
variable (c : Cs) (μ : Mu) (H : Hp)
def KL (a : Addr) (xs : List V) : Prop := ∃ (o : Obj) (its : Array Value) (n : Nat), c.K.lookup a = some o ∧ o.cls = .type "list" ∧ o.dict = none ∧ o.data = .seq its n ∧ its.size ≤ sizeLine ∧ Vals xs its.toList
def keyD : D → Option Key
  | .int i => some (.inl i)
  | .str s => some (.inr s)
  | _ => none
mutual
def Rep : D → V → Prop
  | .non, v => v = .non
  | .bl b, v => v = .bl b
  | .int i, v => v = .int i
  | .str s, v => v = .str s
  | .tup ds, v => ∃ a vs, v = .ref a ∧ H a = some (.tup vs) ∧ μ.no a ∧ Reps ds vs
  | .lst ds, v => ∃ a vs, v = .ref a ∧ H a = some (.lst vs) ∧ μ.no a ∧ Reps ds vs
  | .dic ks ds, v => ∃ a kvs, v = .ref a ∧ H a = some (.dK kvs) ∧ μ.no a ∧ ks.map keyD = kvs.map (fun p => some p.1) ∧ Reps ds (kvs.map (·.2))
  | .scr ns, v => ∃ a, v = .ref a ∧ (((∃ o, H a = some (.frz o (.lst (ns.map V.int)))) ∧ μ.no a) ∨ KL c a (ns.map V.int))
  | .loc n, v => ∃ a, v = .ref a ∧ μ.cells[n]? = some a
def Reps : List D → List V → Prop
  | [], vs => vs = []
  | d :: ds, vs => ∃ v r, vs = v :: r ∧ Rep d v ∧ Reps ds r
end
def RepF : List (Str × D) → List (Str × V) → Prop
  | [], vs => vs = []
  | (n, d) :: ds, vs => ∃ v r, vs = (n, v) :: r ∧ Rep c μ H d v ∧ RepF ds r
def RepO : MO → Addr → Prop
  | .lst ds, a => ∃ vs, H a = some (.lst vs) ∧ Reps c μ H ds vs
  | .dic ks ds, a => ∃ kvs, H a = some (.dK kvs) ∧ ks.map keyD = kvs.map (fun p => some p.1) ∧ Reps c μ H ds (kvs.map (·.2))
  | .ins cl fs, a => ∃ C dx fvs, c.mg cl = some (.ref C) ∧ H a = some (.ins C dx fvs) ∧ RepF c μ H fs fvs
def RepX (x : Exn) (cls : Value) (d : Option Addr) : Prop := ∃ C dx fvs, cls = .ref C ∧ c.mg x.cls = some (.ref C) ∧ d = some dx ∧ H dx = some (.xd fvs) ∧ μ.no dx ∧ RepF c μ H x.fs fvs
structure RS (S : Sto) : Prop where
  nd : μ.cells.Nodup
  len : S.length = μ.cells.length
  ob : ∀ (n : Nat) (o : MO) (a : Addr), S[n]? = some o → μ.cells[n]? = some a → RepO c μ H o a
  hid : ∀ a, a ∈ μ.hid → (∃ u, H a = some u) ∧ a ∉ μ.cells
structure REnv (σ : L2.St) (ρ : Env) : Prop where
  len : ρ.length = σ.length
  at_ : ∀ (i : Nat) (d : D), ρ[i]? = some (some d) → ∃ v, σ[i]? = some (some v) ∧ Rep c μ H d v
end
def Ext (μ : Mu) (H : Hp) (μ' : Mu) (H' : Hp) : Prop := (μ'.hid = μ.hid ∧ ∃ t, μ'.cells = μ.cells ++ t) ∧ ∀ a o, H a = some o → a ∉ μ.cells → H' a = some o ∧ a ∉ μ'.cells

section
variable {c : Cs} {μ μ' μ'' : Mu} {H H' H'' : Hp} {S : Sto}
theorem Ext.refl : Ext μ H μ H := ⟨⟨rfl, [], by simp⟩, fun a o h n => ⟨h, n⟩⟩
theorem Ext.trans (a : Ext μ H μ' H') (b : Ext μ' H' μ'' H'') : Ext μ H μ'' H'' := by
  obtain ⟨⟨z, t, e⟩, h⟩ := a
  obtain ⟨⟨z', t', e'⟩, h'⟩ := b
  refine ⟨⟨z'.trans z, t ++ t', by rw [e', e, List.append_assoc]⟩, fun x o e n => ?_⟩
  obtain ⟨e1, n1⟩ := h x o e n
  exact h' x o e1 n1
theorem Ext.same (h : Same H H') : Ext μ H μ H' := ⟨⟨rfl, [], by simp⟩, fun a o e n => ⟨h a o e, n⟩⟩
theorem Ext.no (x : Ext μ H μ' H') {a : Addr} {o : HO} (h : H a = some o) (n : μ.no a) : H' a = some o ∧ μ'.no a :=
  let q := x.2 a o h n.1
  ⟨q.1, q.2, by rw [x.1.1]; exact n.2⟩
theorem Ext.ix (x : Ext μ H μ' H') {n : Nat} {a : Addr} (h : μ.cells[n]? = some a) : μ'.cells[n]? = some a := by
  obtain ⟨⟨_, t, e⟩, _⟩ := x
  rw [e, List.getElem?_append_left (List.getElem?_eq_some_iff.mp h).1]; exact h
/-- what pure data lean on stays -/
structure Mo (μ : Mu) (H : Hp) (μ' : Mu) (H' : Hp) : Prop where
  no : ∀ a o, H a = some o → μ.no a → H' a = some o ∧ μ'.no a
  ix : ∀ (n : Nat) (a : Addr), μ.cells[n]? = some a → μ'.cells[n]? = some a
theorem Ext.mo (x : Ext μ H μ' H') : Mo μ H μ' H' := ⟨fun a o h n => x.no h n, fun n a h => x.ix h⟩
theorem Mo.refl : Mo μ H μ H := ⟨fun a o h n => ⟨h, n⟩, fun n a h => h⟩
theorem Mo.trans (x : Mo μ H μ' H') (y : Mo μ' H' μ'' H'') : Mo μ H μ'' H'' := ⟨fun a o h n => let q := x.no a o h n; y.no a o q.1 q.2, fun n a h => y.ix n a (x.ix n a h)⟩
mutual
theorem Rep.mo (x : Mo μ H μ' H') : ∀ (d : D) (v : V), Rep c μ H d v → Rep c μ' H' d v
  | .non, _, h => h
  | .bl _, _, h => h
  | .int _, _, h => h
  | .str _, _, h => h
  | .tup ds, _, ⟨a, vs, e, h, n, r⟩ => ⟨a, vs, e, (x.no _ _ h n).1, (x.no _ _ h n).2, Reps.mo x ds vs r⟩
  | .lst ds, _, ⟨a, vs, e, h, n, r⟩ => ⟨a, vs, e, (x.no _ _ h n).1, (x.no _ _ h n).2, Reps.mo x ds vs r⟩
  | .dic ks ds, _, ⟨a, kvs, e, h, n, k, r⟩ => ⟨a, kvs, e, (x.no _ _ h n).1, (x.no _ _ h n).2, k, Reps.mo x ds _ r⟩
  | .scr ns, _, ⟨a, e, .inl ⟨⟨o, h⟩, n⟩⟩ => ⟨a, e, .inl ⟨⟨o, (x.no _ _ h n).1⟩, (x.no _ _ h n).2⟩⟩
  | .scr ns, _, ⟨a, e, .inr h⟩ => ⟨a, e, .inr h⟩
  | .loc n, _, ⟨a, e, h⟩ => ⟨a, e, x.ix _ _ h⟩
theorem Reps.mo (x : Mo μ H μ' H') : ∀ (ds : List D) (vs : List V), Reps c μ H ds vs → Reps c μ' H' ds vs
  | [], _, h => h
  | d :: ds, _, ⟨v, r, e, h, hs⟩ => ⟨v, r, e, Rep.mo x d v h, Reps.mo x ds r hs⟩
end
theorem RepF.mo (x : Mo μ H μ' H') : ∀ {fs : List (Str × D)} {vs : List (Str × V)}, RepF c μ H fs vs → RepF c μ' H' fs vs
  | [], _, h => h
  | (n, d) :: ds, _, ⟨v, r, e, h, hs⟩ => ⟨v, r, e, Rep.mo x d v h, RepF.mo x hs⟩
theorem REnv.mo (x : Mo μ H μ' H') {σ : L2.St} {ρ : Env} (h : REnv c μ H σ ρ) : REnv c μ' H' σ ρ :=
  ⟨h.len, fun i d e => let ⟨v, e1, r⟩ := h.at_ i d e; ⟨v, e1, Rep.mo x _ _ r⟩⟩
theorem Rep.mono (x : Ext μ H μ' H') (d : D) (v : V) (h : Rep c μ H d v) : Rep c μ' H' d v := Rep.mo x.mo d v h
theorem Reps.mono (x : Ext μ H μ' H') (d : List D) (v : List V) (h : Reps c μ H d v) : Reps c μ' H' d v := Reps.mo x.mo d v h
theorem RepF.mono (x : Ext μ H μ' H') {d : List (Str × D)} {v : List (Str × V)} (h : RepF c μ H d v) : RepF c μ' H' d v := RepF.mo x.mo h
theorem REnv.mono (x : Ext μ H μ' H') {σ : L2.St} {ρ : Env} (h : REnv c μ H σ ρ) : REnv c μ' H' σ ρ := REnv.mo x.mo h
theorem RepX.mono (x : Ext μ H μ' H') {e : Exn} {cls : Value} {d : Option Addr} (h : RepX c μ H e cls d) : RepX c μ' H' e cls d := by
  obtain ⟨C, dx, fvs, e1, e2, e3, e4, e5, e6⟩ := h
  exact ⟨C, dx, fvs, e1, e2, e3, (x.no e4 e5).1, (x.no e4 e5).2, e6.mono x⟩
theorem RepO.there {o : MO} {a : Addr} (h : RepO c μ H o a) : ∃ u, H a = some u := by
  cases o with
  | lst ds => obtain ⟨vs, e, _⟩ := h; exact ⟨_, e⟩
  | dic ks ds => obtain ⟨vs, e, _⟩ := h; exact ⟨_, e⟩
  | ins cl fs => obtain ⟨C, dx, fvs, _, e, _⟩ := h; exact ⟨_, e⟩
theorem RS.there (r : RS c μ H S) {a : Addr} (h : a ∈ μ.cells) : ∃ u, H a = some u := by
  obtain ⟨n, hn, e⟩ := List.mem_iff_getElem.mp h
  have hs : n < S.length := by rw [r.len]; exact hn
  exact (r.ob n S[n] a (List.getElem?_eq_getElem hs) (by rw [List.getElem?_eq_getElem hn, e])).there
theorem RS.new (r : RS c μ H S) {p : Addr} (h : H p = none) : μ.no p := by
  refine ⟨fun m => ?_, fun m => ?_⟩
  · obtain ⟨u, e⟩ := r.there m
    rw [h] at e; cases e
  · obtain ⟨⟨u, e⟩, _⟩ := r.hid p m
    rw [h] at e; cases e
/-- all tracked objects stay -/
theorem RS.same (r : RS c μ H S) (h : Same H H') : RS c μ H' S :=
  ⟨r.nd, r.len, fun n o a e1 e2 => by
    have x : Ext μ H μ H' := Ext.same h
    have q := r.ob n o a e1 e2
    cases o with
    | lst ds => obtain ⟨vs, e, q⟩ := q; exact ⟨vs, h _ _ e, Reps.mono x _ _ q⟩
    | dic ks ds => obtain ⟨kvs, e, k, q⟩ := q; exact ⟨kvs, h _ _ e, k, Reps.mono x _ _ q⟩
    | ins cl fs => obtain ⟨C, dx, fvs, m, e, q⟩ := q; exact ⟨C, dx, fvs, m, h _ _ e, q.mono x⟩,
   fun a ha => let ⟨⟨u, e⟩, n⟩ := r.hid a ha; ⟨⟨u, h _ _ e⟩, n⟩⟩
theorem same_upd {p : Addr} {o : HO} (h : H p = none) : Same H (upd H p o) := fun b u q => by rw [upd_ne (ne_of_none q h)]; exact q
theorem RepO.mono (x : Ext μ H μ' H') {o : MO} {a : Addr} (h : RepO c μ H o a) (ha : ∀ u, H a = some u → H' a = some u) : RepO c μ' H' o a := by
  cases o with
  | lst ds => obtain ⟨vs, e, q⟩ := h; exact ⟨vs, ha _ e, Reps.mono x _ _ q⟩
  | dic ks ds => obtain ⟨kvs, e, k, q⟩ := h; exact ⟨kvs, ha _ e, k, Reps.mono x _ _ q⟩
  | ins cl fs => obtain ⟨C, dx, fvs, m, e, q⟩ := h; exact ⟨C, dx, fvs, m, ha _ e, q.mono x⟩
/-- a new cell -/
theorem Ext.cell (r : RS c μ H S) {p : Addr} {u : HO} (h : H p = none) : Ext μ H (μ.add p) (upd H p u) :=
  ⟨⟨rfl, [p], rfl⟩, fun a o e n => ⟨by rw [upd_ne (ne_of_none e h)]; exact e, by simp [n, ne_of_none e h]⟩⟩
theorem RS.cell (r : RS c μ H S) {p : Addr} {u : HO} {o : MO} (h : H p = none) (new : RepO c (μ.add p) (upd H p u) o p) : RS c (μ.add p) (upd H p u) (S ++ [o]) := by
  have x : Ext μ H (μ.add p) (upd H p u) := Ext.cell r h
  refine ⟨?_, by simp [r.len], fun n o' a e1 e2 => ?_, fun a ha => ?_⟩
  · show (μ.cells ++ [p]).Nodup
    rw [List.nodup_append]
    refine ⟨r.nd, by simp, fun a ha b hb => ?_⟩
    have : b = p := by simpa using hb
    subst this
    exact fun e => (r.new h).1 (e ▸ ha)
  · have e2 : (μ.cells ++ [p])[n]? = some a := e2
    by_cases hn : n < μ.cells.length
    · rw [List.getElem?_append_left hn] at e2
      rw [List.getElem?_append_left (by rw [r.len]; exact hn)] at e1
      refine (r.ob n o' a e1 e2).mono x fun u' e => ?_
      rw [upd_ne (ne_of_none e h)]; exact e
    · have hn2 : n = μ.cells.length := by
        have := (List.getElem?_eq_some_iff.mp e2).1
        simp at this; omega
      subst hn2
      rw [List.getElem?_append_right (Nat.le_refl _)] at e2
      rw [List.getElem?_append_right (by rw [r.len]; exact Nat.le_refl _), r.len] at e1
      simp at e1 e2
      subst e1; subst e2
      exact new
  · obtain ⟨⟨u', e⟩, n⟩ := r.hid a ha
    have np : a ≠ p := ne_of_none e h
    exact ⟨⟨u', by rw [upd_ne np]; exact e⟩, by simp [n, np]⟩
theorem nodup_ixA {μ : List Addr} (hN : μ.Nodup) {i j : Nat} {x : Addr} (a : μ[i]? = some x) (b : μ[j]? = some x) : i = j := by
  obtain ⟨h1, e1⟩ := List.getElem?_eq_some_iff.mp a
  obtain ⟨h2, e2⟩ := List.getElem?_eq_some_iff.mp b
  exact (List.getElem_inj hN).mp (e1.trans e2.symm)
/-- a cell written -/
theorem Ext.put {a : Addr} {u : HO} (h : a ∈ μ.cells) : Ext μ H μ (upd H a u) :=
  ⟨⟨rfl, [], by simp⟩, fun b o e n => ⟨by rw [upd_ne (fun z : b = a => n (by rw [z]; exact h))]; exact e, n⟩⟩
theorem RS.put (r : RS c μ H S) {n : Nat} {a : Addr} {u : HO} {o : MO} (h : μ.cells[n]? = some a) (new : RepO c μ (upd H a u) o a) : RS c μ (upd H a u) (S.set n o) := by
  have ha : a ∈ μ.cells := List.mem_of_getElem? h
  have x : Ext μ H μ (upd H a u) := Ext.put ha
  refine ⟨r.nd, by simp [r.len], fun m o' b e1 e2 => ?_, fun b hb => by
    obtain ⟨⟨u', e⟩, nb⟩ := r.hid b hb
    exact ⟨⟨u', by rw [upd_ne (fun z : b = a => nb (by rw [z]; exact ha))]; exact e⟩, nb⟩⟩
  by_cases hm : n = m
  · subst hm
    have hl : n < S.length := by rw [r.len]; exact (List.getElem?_eq_some_iff.mp h).1
    rw [List.getElem?_set_self hl] at e1
    rw [h] at e2
    cases e1; cases e2
    exact new
  · rw [List.getElem?_set_ne hm] at e1
    refine (r.ob m o' b e1 e2).mono x fun u' e => ?_
    have hb : b ≠ a := fun z => by
      subst z
      exact hm (nodup_ixA r.nd h e2)
    rw [upd_ne hb]; exact e
theorem RS.at (r : RS c μ H S) {n : Nat} {o : MO} {v : V} (e : S[n]? = some o) (h : Rep c μ H (.loc n) v) : ∃ a, v = .ref a ∧ μ.cells[n]? = some a ∧ RepO c μ H o a := by
  obtain ⟨a, e1, e2⟩ := h
  exact ⟨a, e1, e2, r.ob n o a e e2⟩
/-- a hidden list is written -/
theorem Mu.no.ne {a p : Addr} (n : μ.no a) (h : p ∈ μ.hid) : a ≠ p := fun e => n.2 (by rw [e]; exact h)
theorem Mo.hidp {p : Addr} {u : HO} (hp : p ∈ μ.hid) : Mo μ H μ (upd H p u) := ⟨fun a o h n => ⟨by rw [upd_ne (n.ne hp)]; exact h, n⟩, fun n a h => h⟩
theorem RepO.mo (x : Mo μ H μ' H') {o : MO} {a : Addr} (h : RepO c μ H o a) (ha : ∀ u, H a = some u → H' a = some u) : RepO c μ' H' o a := by
  cases o with
  | lst ds => obtain ⟨vs, e, q⟩ := h; exact ⟨vs, ha _ e, Reps.mo x _ _ q⟩
  | dic ks ds => obtain ⟨kvs, e, k, q⟩ := h; exact ⟨kvs, ha _ e, k, Reps.mo x _ _ q⟩
  | ins cl fs => obtain ⟨C, dx, fvs, m, e, q⟩ := h; exact ⟨C, dx, fvs, m, ha _ e, q.mo x⟩
theorem RS.hidp {p : Addr} {u : HO} (r : RS c μ H S) (hp : p ∈ μ.hid) : RS c μ (upd H p u) S :=
  ⟨r.nd, r.len, fun n o a e1 e2 => by
    have na : a ≠ p := fun e => (r.hid p hp).2 (by rw [← e]; exact List.mem_of_getElem? e2)
    exact (r.ob n o a e1 e2).mo (Mo.hidp hp) fun w e => by rw [upd_ne na]; exact e,
   fun a ha => by
    obtain ⟨⟨w, e⟩, n⟩ := r.hid a ha
    by_cases h : a = p
    · subst h; exact ⟨⟨_, upd_same⟩, n⟩
    · exact ⟨⟨w, by rw [upd_ne h]; exact e⟩, n⟩⟩
/-- a new list is hidden -/
abbrev Mu.hide (μ : Mu) (p : Addr) : Mu := ⟨μ.cells, p :: μ.hid⟩
theorem Mo.hide {p : Addr} (hn : H p = none) : Mo μ H (μ.hide p) H := ⟨fun a o h n => ⟨h, n.1, by simp [n.2, ne_of_none h hn]⟩, fun n a h => h⟩
theorem Mo.unhide {p : Addr} : Mo (μ.hide p) H μ H := ⟨fun a o h n => ⟨h, n.1, fun z => n.2 (List.mem_cons_of_mem _ z)⟩, fun n a h => h⟩
theorem RS.hide {p : Addr} {u : HO} (r : RS c μ H S) (hn : H p = none) : RS c (μ.hide p) (upd H p u) S := by
  have x : Mo μ H (μ.hide p) (upd H p u) := (Mo.hide hn).trans (Ext.same (same_upd hn)).mo
  refine ⟨r.nd, r.len, fun n o a e1 e2 => (r.ob n o a e1 e2).mo x fun w e => same_upd hn _ _ e, fun a ha => ?_⟩
  rcases List.mem_cons.mp ha with e | ha
  · subst e; exact ⟨⟨_, upd_same⟩, (r.new hn).1⟩
  · obtain ⟨⟨w, e⟩, n⟩ := r.hid a ha
    exact ⟨⟨w, same_upd hn _ _ e⟩, n⟩
theorem RS.unhide {p : Addr} (r : RS c (μ.hide p) H S) : RS c μ H S :=
  ⟨r.nd, r.len, fun n o a e1 e2 => (r.ob n o a e1 e2).mo Mo.unhide fun w e => e, fun a ha => r.hid a (List.mem_cons_of_mem _ ha)⟩
theorem REnv.set {σ : L2.St} {ρ : Env} {i : Nat} {d : D} {v : V} (r : REnv c μ H σ ρ) (h : Rep c μ H d v) : REnv c μ H (σ.set i (some v)) (ρ.set i (some d)) :=
  ⟨by simp [r.len], fun j e he => by
    by_cases hj : i = j
    · subst hj
      have hl : i < ρ.length := by
        by_cases z : i < ρ.length
        · exact z
        · rw [List.getElem?_eq_none (by simpa using z)] at he; cases he
      rw [List.getElem?_set_self hl] at he
      cases he
      exact ⟨v, List.getElem?_set_self (by rw [← r.len]; exact hl), h⟩
    · rw [List.getElem?_set_ne hj] at he ⊢
      exact r.at_ j e he⟩
theorem Reps.length : ∀ {ds : List D} {vs : List V}, Reps c μ H ds vs → ds.length = vs.length
  | [], _, h => by rw [show _ = [] from h]; rfl
  | d :: ds, _, ⟨v, r, e, h, hs⟩ => by rw [e]; simp [Reps.length hs]
theorem Reps.get : ∀ {ds : List D} {vs : List V} {i : Nat} {d : D}, Reps c μ H ds vs → ds[i]? = some d → ∃ v, vs[i]? = some v ∧ Rep c μ H d v
  | [], _, _, _, _, e => by simp at e
  | d' :: ds, _, 0, d, ⟨v, r, e, h, hs⟩, e' => by
    simp at e'; subst e' e; exact ⟨v, by simp, h⟩
  | d' :: ds, _, i + 1, d, ⟨v, r, e, h, hs⟩, e' => by
    subst e
    simpa using Reps.get (i := i) hs (by simpa using e')
theorem Reps.append : ∀ {ds es : List D} {vs ws : List V}, Reps c μ H ds vs → Reps c μ H es ws → Reps c μ H (ds ++ es) (vs ++ ws)
  | [], _, _, _, h, h2 => by rw [show _ = [] from h]; exact h2
  | d :: ds, _, _, _, ⟨v, r, e, h, hs⟩, h2 => by subst e; exact ⟨v, _, rfl, h, Reps.append hs h2⟩
theorem Reps.nil : Reps c μ H [] [] := rfl
theorem Reps.cons {d : D} {ds : List D} {v : V} {vs : List V} (h : Rep c μ H d v) (hs : Reps c μ H ds vs) : Reps c μ H (d :: ds) (v :: vs) := ⟨v, vs, rfl, h, hs⟩
theorem Reps.one {d : D} {v : V} (h : Rep c μ H d v) : Reps c μ H [d] [v] := .cons h .nil
theorem Reps.set : ∀ {ds : List D} {vs : List V} {d : D} {v : V} (i : Nat), Reps c μ H ds vs → Rep c μ H d v → Reps c μ H (ds.set i d) (vs.set i v)
  | [], _, _, _, _, h, _ => by rw [show _ = [] from h]; rfl
  | d :: ds, _, _, _, 0, ⟨v, r, e, h, hs⟩, h2 => by subst e; exact ⟨_, _, rfl, h2, hs⟩
  | d :: ds, _, _, _, i + 1, ⟨v, r, e, h, hs⟩, h2 => by subst e; exact ⟨_, _, rfl, h, Reps.set i hs h2⟩
theorem Reps.take : ∀ {ds : List D} {vs : List V} (i : Nat), Reps c μ H ds vs → Reps c μ H (ds.take i) (vs.take i)
  | _, _, 0, _ => by simp [Reps]
  | [], _, i + 1, h => by rw [show _ = [] from h]; rfl
  | d :: ds, _, i + 1, ⟨v, r, e, h, hs⟩ => by subst e; exact ⟨_, _, rfl, h, Reps.take i hs⟩
theorem Reps.drop : ∀ {ds : List D} {vs : List V} (i : Nat), Reps c μ H ds vs → Reps c μ H (ds.drop i) (vs.drop i)
  | _, _, 0, h => by simpa using h
  | [], _, i + 1, h => by rw [show _ = [] from h]; rfl
  | d :: ds, _, i + 1, ⟨v, r, e, h, hs⟩ => by subst e; exact Reps.drop i hs
theorem Reps.reverse : ∀ {ds : List D} {vs : List V}, Reps c μ H ds vs → Reps c μ H ds.reverse vs.reverse
  | [], _, h => by rw [show _ = [] from h]; rfl
  | d :: ds, _, ⟨v, r, e, h, hs⟩ => by
    subst e
    rw [List.reverse_cons, List.reverse_cons]
    exact Reps.append (Reps.reverse hs) (Reps.one h)
end
end Mir

set_option maxRecDepth 100000
namespace Mir
open PySem PySem.Spec PyProof.Rows L2

abbrev EM := Env → Sto → R D
abbrev TM := Env → Sto → R Bool
abbrev AM := Env → Sto → R (List D)
abbrev SM := Env → Sto → Fl
abbrev cs (X : L2.Cx) : Cs := ⟨X.K, X.mg⟩
/-- what a pure step gives -/
def ofO {α : Type} (o : Option α) (S : Sto) : R α := match o with
  | some a => .ok a S
  | none => .bad

@[simp] theorem ofO_some {α : Type} {a : α} {S : Sto} : ofO (some a) S = .ok a S := rfl
@[simp] theorem ofO_none {α : Type} {S : Sto} : ofO (none : Option α) S = .bad := rfl

section
variable (c : Cs) (W : WX) (σ : L2.St)
def Post {α β : Type} (rp : Mu → Hp → α → β → Prop) (μ : Mu) (H : Hp) (r : R α) (Q : β → Hp → Prop) : Prop := match r with
  | .ok a S => ∀ (b : β) (μ' : Mu) (H' : Hp), Ext μ H μ' H' → RS c μ' H' S → rp μ' H' a b → Q b H'
  | .exc x S => ∀ (cls : Value) (dd : Option Addr) (μ' : Mu) (H' : Hp), Ext μ H μ' H' → RS c μ' H' S → RepX c μ' H' x cls dd → W cls dd σ H'
  | .bad => False
def tG {α β : Type} (rp : Mu → Hp → α → β → Prop) (m : Env → Sto → R α) : L2.St → Hp → (β → Hp → Prop) → Prop := fun σ H Q =>
  ∃ (μ : Mu) (ρ : Env) (S : Sto), RS c μ H S ∧ REnv c μ H σ ρ ∧ Post c W σ rp μ H (m ρ S) Q
end
abbrev rpB : Mu → Hp → Bool → Bool → Prop := fun _ _ a b => a = b
abbrev PD (X : L2.Cx) (W : WX) (e : Expr) (m : EM) : Prop := PE X e (tG (cs X) W (Rep (cs X)) m)
abbrev PDT (X : L2.Cx) (W : WX) (e : Expr) (m : TM) : Prop := PT X e (tG (cs X) W rpB m)
abbrev PDW (X : L2.Cx) (W : WX) (e : Expr) (m : TM) : Prop := PW X e (tG (cs X) W rpB m)
abbrev PDA (X : L2.Cx) (W : WX) (es : List Expr) (m : AM) : Prop := PA X es (tG (cs X) W (Reps (cs X)) m)

section
variable {c : Cs} {W : WX} {σ : L2.St} {μ μ' : Mu} {H H' : Hp} {S : Sto} {α β α' β' : Type} {rp : Mu → Hp → α → β → Prop} {rp' : Mu → Hp → α' → β' → Prop}
theorem Post.anti {r : R α} {Q : β → Hp → Prop} (x : Ext μ H μ' H') (h : Post c W σ rp μ H r Q) : Post c W σ rp μ' H' r Q := by
  cases r with
  | ok a S => exact fun b μ2 H2 x2 => h b μ2 H2 (x.trans x2)
  | exc e S => exact fun cl dd μ2 H2 x2 => h cl dd μ2 H2 (x.trans x2)
  | bad => exact h
theorem Post.imp {r : R α} {Q Q' : β → Hp → Prop} (h : Post c W σ rp μ H r Q) (f : ∀ b H', Q b H' → Q' b H') : Post c W σ rp μ H r Q' := by
  cases r with
  | ok a S => exact fun b μ2 H2 x2 rs rb => f _ _ (h b μ2 H2 x2 rs rb)
  | exc e S => exact h
  | bad => exact h
theorem Post.bind {r : R α} {k : α → Sto → R α'} {Q : β' → Hp → Prop} (h : Post c W σ rp' μ H (r.bind k) Q) :
    Post c W σ rp μ H r (fun b H' => ∃ μ' a S', Ext μ H μ' H' ∧ RS c μ' H' S' ∧ rp μ' H' a b ∧ Post c W σ rp' μ' H' (k a S') Q) := by
  cases r with
  | ok a S => exact fun b μ2 H2 x2 rs rb => ⟨μ2, a, S, x2, rs, rb, Post.anti x2 h⟩
  | exc e S => exact h
  | bad => exact h
theorem Post.ok {a : α} {b : β} {Q : β → Hp → Prop} (h : Post c W σ rp μ H (.ok a S) Q) (rs : RS c μ H S) (r : rp μ H a b) : Q b H := h b μ H Ext.refl rs r
theorem Post.ok' {a : α} {b : β} {Q : β → Hp → Prop} (h : Post c W σ rp μ H (.ok a S) Q) (x : Ext μ H μ' H') (rs : RS c μ' H' S) (r : rp μ' H' a b) : Q b H' := h b μ' H' x rs r
/-- a pure step's end -/
theorem Post.ofO {o : Option α} {Q : β → Hp → Prop} (rs : RS c μ H S) (h : Post c W σ rp μ H (ofO o S) Q) : ∃ a, o = some a ∧ ∀ b H', Same H H' → rp μ H' a b → Q b H' := by
  cases o with
  | none => exact False.elim h
  | some a => exact ⟨a, rfl, fun b H' s r => h b μ H' (Ext.same s) (rs.same s) r⟩
/-- one after another -/
theorem tG.seq {m : Env → Sto → R α} {k : Env → α → Sto → R α'} {Q : β' → Hp → Prop} {Q1 : β → Hp → Prop} (h : tG c W rp' (fun ρ S => (m ρ S).bind (k ρ)) σ H Q)
    (f : ∀ (μ : Mu) (ρ : Env) (a : α) (S : Sto) (b : β) (H' : Hp), RS c μ H' S → REnv c μ H' σ ρ → rp μ H' a b → Post c W σ rp' μ H' (k ρ a S) Q → Q1 b H') : tG c W rp m σ H Q1 := by
  obtain ⟨μ, ρ, S, rs, re, p⟩ := h
  exact ⟨μ, ρ, S, rs, re, p.bind.imp fun b H' ⟨μ', a, S', x, rs', rb, p'⟩ => f μ' ρ a S' b H' rs' (re.mono x) rb p'⟩
end

section
variable {X : L2.Cx}
theorem PE.con {e : Expr} {t t' : TE} (h : PE X e t) (f : ∀ σ H Q, t' σ H Q → t σ H Q) : PE X e t' := ⟨fun pins s σ H Q I q => h.run pins s σ H Q I (f σ H Q q)⟩
theorem PT.con {e : Expr} {t t' : TT} (h : PT X e t) (f : ∀ σ H Q, t' σ H Q → t σ H Q) : PT X e t' := ⟨fun pins s σ H Q I q => h.run pins s σ H Q I (f σ H Q q)⟩
theorem PW.con {e : Expr} {t t' : TT} (h : PW X e t) (f : ∀ σ H Q, t' σ H Q → t σ H Q) : PW X e t' := ⟨fun wh pins s σ H Q I q => h.run wh pins s σ H Q I (f σ H Q q)⟩
theorem PA.con {es : List Expr} {t t' : TA} (h : PA X es t) (f : ∀ σ H Q, t' σ H Q → t σ H Q) : PA X es t' := ⟨fun pos pins s σ H Q I q => h.run pos pins s σ H Q I (f σ H Q q)⟩
theorem PS.con {st : Stmt} {t t' : TS} (h : PS X st t) (f : ∀ D σ H, t' D σ H → t D σ H) : PS X st t' := ⟨fun pins s σ H D I q => h.run pins s σ H D I (f D σ H q)⟩
theorem PSs.con {st : List Stmt} {t t' : TS} (h : PSs X st t) (f : ∀ D σ H, t' D σ H → t D σ H) : PSs X st t' := ⟨fun pins s σ H D I q => h.run pins s σ H D I (f D σ H q)⟩
end

/-! ### names, constants -/
def eVar (i : Nat) : EM := fun ρ S => match ρ[i]? with
  | some (some d) => .ok d S
  | _ => .bad
def eC (d : D) : EM := fun _ S => .ok d S
section
variable {X : L2.Cx} {W : WX}
theorem pd_var (i : Nat) {x : Str} {pos : Pos} (hN : X.N[i]? = some x := by rfl) (hv : Vis X.env.scope x := by first | exact Or.inl rfl | exact Or.inr (Or.inl rfl) | exact Or.inr (Or.inr rfl)) (hd : (x == ("__debug__" : Str)) = false := by decide)
    (hcd : (x == ("__classdict__" : Str)) = false := by decide) : PD X W (.Name x pos) (eVar i) := by
  refine PE.con (pe_var hN hv hd hcd) fun σ H Q h => ?_
  obtain ⟨μ, ρ, S, rs, re, p⟩ := h
  unfold eVar at p
  split at p
  · rename_i d e
    obtain ⟨v, e1, r⟩ := re.at_ i d e
    exact ⟨v, e1, p.ok rs r⟩
  · exact False.elim p
theorem pd_const {e : Expr} {v : V} {d : D} (h : PE X e (tC v)) (hd : ∀ μ H, Rep (cs X) μ H d v) : PD X W e (eC d) := by
  refine PE.con h fun σ H Q h => ?_
  obtain ⟨μ, ρ, S, rs, re, p⟩ := h
  exact p.ok rs (hd _ _)
theorem pd_int {i j pos} : PD X W (.Constant (.int i) j pos) (eC (.int i)) := pd_const pe_int fun _ _ => rfl
theorem pd_str {i j pos} : PD X W (.Constant (.str i) j pos) (eC (.str i)) := pd_const pe_str fun _ _ => rfl
theorem pd_bl {i j pos} : PD X W (.Constant (.bool i) j pos) (eC (.bl i)) := pd_const pe_bl fun _ _ => rfl
theorem pd_non {j pos} : PD X W (.Constant .none j pos) (eC .non) := pd_const pe_non fun _ _ => rfl
theorem pd_gint {x : Str} {i : Int} {t : Tok} {pos : Pos} (hm : X.mg x = some (.int i t)) (hg : Gl X x := by rfl) (hd : (x == ("__debug__" : Str)) = false := by decide) : PD X W (.Name x pos) (eC (.int i)) := pd_const (v := .int i) (pe_glob hg hm ⟨t, rfl⟩ hd) fun _ _ => rfl
theorem pd_gstr {x : Str} {i : Str} {t : Tok} {pos : Pos} (hm : X.mg x = some (.str i t)) (hg : Gl X x := by rfl) (hd : (x == ("__debug__" : Str)) = false := by decide) : PD X W (.Name x pos) (eC (.str i)) := pd_const (v := .str i) (pe_glob hg hm ⟨t, rfl⟩ hd) fun _ _ => rfl
end

/-! ### two-place operations -/
/-- a pure two-place step -/
abbrev G2 := Sto → D → D → Option D
def rOp (c : Cs) (g : G2) : R2 := fun x y H Q => ∃ (μ : Mu) (S : Sto) (dx dy d : D), RS c μ H S ∧ Rep c μ H dx x ∧ Rep c μ H dy y ∧ g S dx dy = some d ∧ ∀ v H', Same H H' → Rep c μ H' d v → Q v H'
def OpM (X : L2.Cx) (f : Value → Value → Sem Value) (g : G2) : Prop := OpR X f (rOp (cs X) g)
theorem OpM.of {X : L2.Cx} {f : Value → Value → Sem Value} {g : G2} {r : R2} (h : OpR X f r)
    (i : ∀ (μ : Mu) (S : Sto) (dx dy d : D) (x y : V) (H : Hp) (Q : VK), RS (cs X) μ H S → Rep (cs X) μ H dx x → Rep (cs X) μ H dy y → g S dx dy = some d → (∀ v H', Same H H' → Rep (cs X) μ H' d v → Q v H') → r x y H Q) : OpM X f g :=
  fun pins s σ H x y v u Q I rx ry ⟨μ, S, dx, dy, d, rs, r1, r2, e, q⟩ => h pins s σ H x y v u Q I rx ry (i μ S dx dy d x y H Q rs r1 r2 e q)
/-- where the one doesn't know, the other -/
def orG (g g' : G2) : G2 := fun S x y => match g S x y with
  | some d => some d
  | none => g' S x y
theorem OpM.or {X : L2.Cx} {f : Value → Value → Sem Value} {g g' : G2} (h : OpM X f g) (h' : OpM X f g') : OpM X f (orG g g') :=
  fun pins s σ H x y v u Q I rx ry ⟨μ, S, dx, dy, d, rs, r1, r2, e, q⟩ => by
    unfold orG at e
    split at e
    · rename_i d' e'
      cases e
      exact h pins s σ H x y v u Q I rx ry ⟨μ, S, dx, dy, _, rs, r1, r2, e', q⟩
    · exact h' pins s σ H x y v u Q I rx ry ⟨μ, S, dx, dy, d, rs, r1, r2, e, q⟩
def mBin (g : G2) (a b : EM) : EM := fun ρ S => (a ρ S).bind fun x S => (b ρ S).bind fun y S => ofO (g S x y) S
section
variable {X : L2.Cx} {W : WX} {a b e : Expr} {ma mb m : EM} {pos : Pos}
theorem tOp_of {g : G2} {σ : L2.St} {H : Hp} {Q : VK} (h : tG (cs X) W (Rep (cs X)) (mBin g ma mb) σ H Q) : tOp (rOp (cs X) g) (tG (cs X) W (Rep (cs X)) ma) (tG (cs X) W (Rep (cs X)) mb) σ H Q := by
  refine tG.seq (k := fun ρ x S => (mb ρ S).bind fun y S => ofO (g S x y) S) h fun μ ρ dx S x H1 rs re rx p => ?_
  refine ⟨μ, ρ, S, rs, re, p.bind.imp fun y H2 ⟨μ2, dy, S2, x2, rs2, ry, p2⟩ => ?_⟩
  obtain ⟨d, e, q⟩ := p2.ofO rs2
  exact ⟨μ2, S2, dx, dy, d, rs2, Rep.mono x2 _ _ rx, ry, e, q⟩
theorem pd_bin {op : Operator} {g : G2} (ho : OpM X (binaryOp op) g) (ha : PD X W a ma) (hb : PD X W b mb) : PD X W (.BinOp a op b pos) (mBin g ma mb) :=
  PE.con (pe_op ho ha hb) fun _ _ _ h => tOp_of h
theorem pd_cmp {op : CmpOp} {g : G2} (ho : OpM X (compareOp op) g) (ha : PD X W a ma) (hb : PD X W b mb) (hm : behindInMarks op b = false := by first | exact nomark _ | rfl | (with_unfolding_all rfl)) : PD X W (.Compare a [op] [b] pos) (mBin g ma mb) :=
  PE.con (pe_cmpR ho ha hb hm) fun _ _ _ h => tOp_of h
theorem pd_ix {g : G2} (ho : IxR X (rOp (cs X) g)) (ha : PD X W a ma) (hb : PD X W b mb) (hs : PlainIx b := by exact fun _ _ => rfl) : PD X W (.Subscript a b pos) (mBin g ma mb) :=
  PE.con (pe_ix ho ha hb hs) fun _ _ _ h => tOp_of h

/-! ### one-place operations -/
abbrev G1 := Sto → D → Option D
def mUn (g : G1) (a : EM) : EM := fun ρ S => (a ρ S).bind fun x S => ofO (g S x) S
def rUn (c : Cs) (g : G1) : V → Hp → VK → Prop := fun x H Q => ∃ (μ : Mu) (S : Sto) (dx d : D), RS c μ H S ∧ Rep c μ H dx x ∧ g S dx = some d ∧ ∀ v H', Same H H' → Rep c μ H' d v → Q v H'
theorem tUn_of {g : G1} {σ : L2.St} {H : Hp} {Q : VK} (h : tG (cs X) W (Rep (cs X)) (mUn g ma) σ H Q) : tUn (rUn (cs X) g) (tG (cs X) W (Rep (cs X)) ma) σ H Q := by
  refine tG.seq (k := fun ρ x S => ofO (g S x) S) h fun μ ρ dx S x H1 rs re rx p => ?_
  obtain ⟨d, e, q⟩ := p.ofO rs
  exact ⟨μ, S, dx, d, rs, rx, e, q⟩
theorem pd_un {op : UnaryOp} {g : G1} (ho : UnR X (unaryOp op) (rUn (cs X) g)) (ha : PD X W a ma) : PD X W (.UnaryOp op a pos) (mUn g ma) :=
  PE.con (pe_un ho ha) fun _ _ _ h => tUn_of h

/-! ### truth -/
def seqD (S : Sto) : D → Option (List D)
  | .tup ds => some ds
  | .lst ds => some ds
  | .scr ns => some (ns.map D.int)
  | .loc n => match S[n]? with
    | some (.lst ds) => some ds
    | _ => none
  | _ => none
def truD (S : Sto) : D → Option Bool
  | .non => some false
  | .bl b => some b
  | .int i => some (i != 0)
  | .str x => if x.length ≤ sizeLine then some ((x.length : Int) != 0) else none
  | d => (seqD S d).map fun ds => !ds.isEmpty
theorem reps_ints {c : Cs} {μ : Mu} {H : Hp} : ∀ ns : List Int, Reps c μ H (ns.map D.int) (ns.map V.int)
  | [] => rfl
  | n :: ns => ⟨_, _, rfl, rfl, reps_ints ns⟩
theorem KL.seq {c : Cs} {H : Hp} {a : Addr} {xs : List V} (h : KL c a xs) : SqL c.K H a xs := .inr h
/-- a list or a tuple -/
theorem seq_of {c : Cs} {μ : Mu} {H : Hp} {S : Sto} {d : D} {ds : List D} {v : V} (rs : RS c μ H S) (h : seqD S d = some ds) (r : Rep c μ H d v) :
    ∃ a vs, v = .ref a ∧ Reps c μ H ds vs ∧ (SqL c.K H a vs ∨ SqT c.K H a vs) := by
  cases d with
  | tup es => cases h; obtain ⟨a, vs, e, h1, _, h2⟩ := r; exact ⟨a, vs, e, h2, .inr (SqT.of h1)⟩
  | lst es => cases h; obtain ⟨a, vs, e, h1, _, h2⟩ := r; exact ⟨a, vs, e, h2, .inl (SqL.of h1)⟩
  | scr ns =>
    cases h
    obtain ⟨a, e, h⟩ := r
    refine ⟨a, _, e, reps_ints ns, .inl ?_⟩
    rcases h with ⟨⟨o, h⟩, _⟩ | h
    · exact .inl (.inr ⟨o, h⟩)
    · exact h.seq
  | loc n =>
    simp only [seqD] at h
    split at h
    · rename_i es e
      cases h
      obtain ⟨a, e1, _, vs, e2, e3⟩ := rs.at e r
      exact ⟨a, vs, e1, e3, .inl (SqL.of e2)⟩
    · cases h
  | _ => cases h
theorem tru_of {c : Cs} {μ : Mu} {H : Hp} {S : Sto} {d : D} {k : Bool} {v : V} (rs : RS c μ H S) (h : truD S d = some k) (r : Rep c μ H d v) : TruV c.K v H k := by
  have go : ∀ ds, seqD S d = some ds → k = !ds.isEmpty → TruV c.K v H k := fun ds e ek => by
    obtain ⟨a, vs, rfl, h1, h2⟩ := seq_of rs e r
    have el : ds.isEmpty = vs.isEmpty := by
      have := h1.length
      cases ds <;> cases vs <;> simp_all
    rw [el] at ek
    rcases h2 with h2 | h2
    · exact .inl ⟨vs, h2, ek⟩
    · exact .inr (.inl ⟨vs, h2, ek⟩)
  cases d with
  | non => cases h; rw [show v = _ from r]; rfl
  | bl b => cases h; rw [show v = _ from r]; rfl
  | int i => cases h; rw [show v = _ from r]; rfl
  | str x =>
    simp only [truD] at h
    split at h
    · cases h; rw [show v = _ from r]; exact ⟨by assumption, rfl⟩
    · cases h
  | _ =>
    simp only [truD] at h
    obtain ⟨ds, e, e2⟩ := Option.map_eq_some_iff.mp h
    exact go ds e e2.symm
/-- a value as a test -/
def mTru (m : EM) : TM := fun ρ S => (m ρ S).bind fun x S => ofO (truD S x) S
theorem pd_truth (ha : PD X W e m) (he : ∀ whole, isTrue e X.env whole = (do let v ← whole; standAt e.pos; holding [v] (truthy v)) := by intro _; rfl) : PDT X W e (mTru m) := by
  refine PT.con (pt_truth ha he) fun σ H Q h => ?_
  refine tG.seq (k := fun ρ x S => ofO (truD S x) S) h fun μ ρ dx S x H1 rs re rx p => ?_
  obtain ⟨k, e, q⟩ := p.ofO rs
  exact ⟨k, tru_of rs e rx, q k H1 (Same.refl _) rfl⟩
/-- a comparison as a test: its value is a bool -/
def mBl (m : EM) : TM := fun ρ S => (m ρ S).bind fun x S => match x with
  | .bl k => .ok k S
  | _ => .bad
theorem tTest_of {σ : L2.St} {H : Hp} {Q : Bool → Hp → Prop} {t : TE} (f : ∀ Q', tG (cs X) W (Rep (cs X)) m σ H Q' → t σ H Q') (h : tG (cs X) W rpB (mBl m) σ H Q) : tTest t σ H Q := by
  refine f _ (tG.seq (k := fun ρ x S => match x with | .bl k => .ok k S | _ => .bad) h fun μ ρ dx S x H1 rs re rx p => ?_)
  cases dx with
  | bl k => exact ⟨k, rx, p.ok rs rfl⟩
  | _ => exact False.elim p
theorem pd_cmpT {op : CmpOp} {g : G2} (ho : OpM X (compareOp op) g) (ha : PD X W a ma) (hb : PD X W b mb) (hm : behindInMarks op b = false := by first | exact nomark _ | rfl | (with_unfolding_all rfl)) : PDT X W (.Compare a [op] [b] pos) (mBl (mBin g ma mb)) :=
  PT.con (pt_cmpR ho ha hb hm) fun σ H Q h => tTest_of (t := tOp _ _ _) (fun _ h => tOp_of h) h
/-- a op1 b op2 c -/
def mChain (g g' : G2) (ma mb mc : EM) : EM := fun ρ S => (ma ρ S).bind fun x S => (mb ρ S).bind fun y S => (ofO (g S x y) S).bind fun z S => match z with
  | .bl true => (mc ρ S).bind fun w S => ofO (g' S y w) S
  | .bl false => .ok (.bl false) S
  | _ => .bad
theorem tChain_of {g g' : G2} {mc : EM} {σ : L2.St} {H : Hp} {Q : VK} (h : tG (cs X) W (Rep (cs X)) (mChain g g' ma mb mc) σ H Q) :
    tChain (rOp (cs X) g) (rOp (cs X) g') (tG (cs X) W (Rep (cs X)) ma) (tG (cs X) W (Rep (cs X)) mb) (tG (cs X) W (Rep (cs X)) mc) σ H Q := by
  refine tG.seq (k := fun ρ x S => (mb ρ S).bind fun y S => (ofO (g S x y) S).bind fun z S => match z with
    | .bl true => (mc ρ S).bind fun w S => ofO (g' S y w) S
    | .bl false => .ok (.bl false) S
    | _ => .bad) h fun μ ρ dx S x H1 rs re rx p => ?_
  refine ⟨μ, ρ, S, rs, re, p.bind.imp fun y H2 ⟨μ2, dy, S2, x2, rs2, ry, p2⟩ => ?_⟩
  cases e : g S2 dx dy with
  | none => rw [e] at p2; exact False.elim p2
  | some z =>
    rw [e] at p2
    refine ⟨μ2, S2, dx, dy, z, rs2, Rep.mono x2 _ _ rx, ry, e, fun v H' sm rz => ?_⟩
    have re2 := re.mono (x2.trans (Ext.same sm))
    have rs3 := rs2.same sm
    have p3 := Post.anti (Ext.same sm) p2
    cases z with
    | bl k =>
      cases k with
      | true =>
        refine ⟨true, rz, ?_⟩
        rw [if_pos rfl]
        have p3 : Post (cs X) W σ (Rep (cs X)) μ2 H' ((mc ρ S2).bind fun w S => ofO (g' S dy w) S) Q := p3
        refine ⟨μ2, ρ, S2, rs3, re2, p3.bind.imp fun w H3 ⟨μ3, dw, S3, x3, rs4, rw', p4⟩ => ?_⟩
        obtain ⟨d, e, q⟩ := p4.ofO rs4
        exact ⟨μ3, S3, dy, dw, d, rs4, Rep.mono ((Ext.same sm).trans x3) _ _ ry, rw', e, q⟩
      | false =>
        refine ⟨false, rz, ?_⟩
        rw [if_neg Bool.false_ne_true]
        exact p3.ok rs3 rfl
    | _ => exact False.elim p3
theorem pd_chain {op op' : CmpOp} {g g' : G2} {cc : Expr} {mc : EM} (ho : OpM X (compareOp op) g) (ho' : OpM X (compareOp op') g') (ha : PD X W a ma) (hb : PD X W b mb) (hc : PD X W cc mc) (hm : lastMarks [op, op'] [b, cc] = false := by with_unfolding_all rfl) :
    PD X W (.Compare a [op, op'] [b, cc] pos) (mChain g g' ma mb mc) := PE.con (pe_chain ho ho' ha hb hc hm) fun _ _ _ h => tChain_of h
theorem pd_chainT {op op' : CmpOp} {g g' : G2} {cc : Expr} {mc : EM} (ho : OpM X (compareOp op) g) (ho' : OpM X (compareOp op') g') (ha : PD X W a ma) (hb : PD X W b mb) (hc : PD X W cc mc) (hm : lastMarks [op, op'] [b, cc] = false := by with_unfolding_all rfl) :
    PDT X W (.Compare a [op, op'] [b, cc] pos) (mBl (mChain g g' ma mb mc)) := PT.con (pt_chain ho ho' ha hb hc hm) fun σ H Q h => tTest_of (t := tChain _ _ _ _ _) (fun _ h => tChain_of h) h

/-! ### and, or, not -/
variable {rest : List Expr} {t t' : TM}
def mAndT (t u : TM) : TM := fun ρ S => (t ρ S).bind fun k S => if k then u ρ S else .ok false S
def mOrT (t u : TM) : TM := fun ρ S => (t ρ S).bind fun k S => if k then .ok true S else u ρ S
def mNotT (t : TM) : TM := fun ρ S => (t ρ S).bind fun k S => .ok (!k) S
theorem pdw_and1 (h : PDT X W a t) : PDW X W (.BoolOp .And [a] pos) t := pw_and1 h
theorem pdw_or1 (h : PDT X W a t) : PDW X W (.BoolOp .Or [a] pos) t := pw_or1 h
theorem pdw_and (h : PDT X W a t) (h' : PDW X W (.BoolOp .And (b :: rest) pos) t') : PDW X W (.BoolOp .And (a :: b :: rest) pos) (mAndT t t') := by
  refine PW.con (pw_and h h') fun σ H Q h => ?_
  refine tG.seq (k := fun ρ k S => if k then t' ρ S else .ok false S) h fun μ ρ k S b H1 rs re rx p => ?_
  have rx : k = b := rx
  subst rx
  cases k with
  | true => exact ⟨μ, ρ, S, rs, re, p⟩
  | false => exact p.ok rs rfl
theorem pdw_or (h : PDT X W a t) (h' : PDW X W (.BoolOp .Or (b :: rest) pos) t') : PDW X W (.BoolOp .Or (a :: b :: rest) pos) (mOrT t t') := by
  refine PW.con (pw_or h h') fun σ H Q h => ?_
  refine tG.seq (k := fun ρ k S => if k then .ok true S else t' ρ S) h fun μ ρ k S b H1 rs re rx p => ?_
  have rx : k = b := rx
  subst rx
  cases k with
  | false => exact ⟨μ, ρ, S, rs, re, p⟩
  | true => exact p.ok rs rfl
theorem pdt_not (h : PDT X W a t) : PDT X W (.UnaryOp .Not a pos) (mNotT t) := by
  refine PT.con (pt_not h) fun σ H Q h => ?_
  refine tG.seq (k := fun ρ k S => .ok (!k) S) h fun μ ρ k S b H1 rs re rx p => ?_
  have rx : k = b := rx
  subst rx
  exact p.ok rs rfl
/-- as values, by truth -/
def mAnd (a b : EM) : EM := fun ρ S => (a ρ S).bind fun x S => match truD S x with
  | some k => if k then b ρ S else .ok x S
  | none => .bad
def mOr (a b : EM) : EM := fun ρ S => (a ρ S).bind fun x S => match truD S x with
  | some k => if k then .ok x S else b ρ S
  | none => .bad
def mNot (a : EM) : EM := mUn (fun S x => (truD S x).map fun k => .bl (!k)) a
theorem pd_one {op} (h : PD X W a ma) : PD X W (.BoolOp op [a] pos) ma := pe_one h
theorem pd_and (h : PD X W a ma) (h' : PD X W (.BoolOp .And (b :: rest) pos) mb) : PD X W (.BoolOp .And (a :: b :: rest) pos) (mAnd ma mb) := by
  refine PE.con (pe_andT h h') fun σ H Q h => ?_
  refine tG.seq (k := fun ρ x S => match truD S x with | some k => if k then mb ρ S else .ok x S | none => .bad) h fun μ ρ dx S x H1 rs re rx p => ?_
  split at p
  · rename_i k e
    refine ⟨k, tru_of rs e rx, ?_⟩
    cases k with
    | true => rw [if_pos rfl]; rw [if_pos rfl] at p; exact ⟨μ, ρ, S, rs, re, p⟩
    | false => rw [if_neg Bool.false_ne_true]; rw [if_neg Bool.false_ne_true] at p; exact p.ok rs rx
  · exact False.elim p
theorem pd_or (h : PD X W a ma) (h' : PD X W (.BoolOp .Or (b :: rest) pos) mb) : PD X W (.BoolOp .Or (a :: b :: rest) pos) (mOr ma mb) := by
  refine PE.con (pe_orT h h') fun σ H Q h => ?_
  refine tG.seq (k := fun ρ x S => match truD S x with | some k => if k then .ok x S else mb ρ S | none => .bad) h fun μ ρ dx S x H1 rs re rx p => ?_
  split at p
  · rename_i k e
    refine ⟨k, tru_of rs e rx, ?_⟩
    cases k with
    | false => rw [if_neg Bool.false_ne_true]; rw [if_neg Bool.false_ne_true] at p; exact ⟨μ, ρ, S, rs, re, p⟩
    | true => rw [if_pos rfl]; rw [if_pos rfl] at p; exact p.ok rs rx
  · exact False.elim p
theorem pd_not (h : PD X W a ma) : PD X W (.UnaryOp .Not a pos) (mNot ma) := by
  refine PE.con (pe_notT h) fun σ H Q h => ?_
  refine tG.seq (k := fun ρ x S => ofO ((truD S x).map fun k => D.bl (!k)) S) h fun μ ρ dx S x H1 rs re rx p => ?_
  obtain ⟨d, e, q⟩ := p.ofO rs
  obtain ⟨k, e1, e2⟩ := Option.map_eq_some_iff.mp e
  subst e2
  exact ⟨k, tru_of rs e1 rx, q _ _ (Same.refl _) rfl⟩

/-! ### argument lists, tuples, lists -/
variable {es : List Expr} {me : AM}
def aNil : AM := fun _ S => .ok [] S
def aCons (m : EM) (r : AM) : AM := fun ρ S => (m ρ S).bind fun x S => (r ρ S).bind fun xs S => .ok (x :: xs) S
theorem pda_nil : PDA X W [] aNil := PA.con pa_nil fun σ H Q ⟨μ, ρ, S, rs, re, p⟩ => p.ok rs .nil
theorem pda_cons (ha : PD X W e m) (hr : PDA X W es me) (hs : starEach (e :: es) X.env = (false, eval e X.env) :: starEach es X.env := by rfl) : PDA X W (e :: es) (aCons m me) := by
  refine PA.con (pa_cons ha hr hs) fun σ H Q h => ?_
  refine tG.seq (k := fun ρ x S => (me ρ S).bind fun xs S => .ok (x :: xs) S) h fun μ ρ dx S x H1 rs re rx p => ?_
  refine ⟨μ, ρ, S, rs, re, p.bind.imp fun y H2 ⟨μ2, dy, S2, x2, rs2, ry, p2⟩ => ?_⟩
  exact p2.ok rs2 (.cons (Rep.mono x2 _ _ rx) ry)
def mTup (me : AM) : EM := fun ρ S => (me ρ S).bind fun xs S => ofO (if xs.length ≤ sizeLine then some (D.tup xs) else none) S
def mLst (me : AM) : EM := fun ρ S => (me ρ S).bind fun xs S => ofO (if xs.length ≤ sizeLine then some (D.lst xs) else none) S
/-- a list that may be changed: a new cell -/
def mNewL (me : AM) : EM := fun ρ S => (me ρ S).bind fun xs S => if xs.length ≤ sizeLine then .ok (.loc S.length) (S ++ [.lst xs]) else .bad
theorem new_tup {c : Cs} {μ : Mu} {H : Hp} {S : Sto} {ds : List D} {vs : List V} {p : Addr} (rs : RS c μ H S) (r : Reps c μ H ds vs) (hp : H p = none) : Rep c μ (upd H p (.tup vs)) (.tup ds) (.ref p) :=
  ⟨p, vs, rfl, upd_same, rs.new hp, Reps.mono (Ext.same (same_upd hp)) _ _ r⟩
theorem new_lst {c : Cs} {μ : Mu} {H : Hp} {S : Sto} {ds : List D} {vs : List V} {p : Addr} (rs : RS c μ H S) (r : Reps c μ H ds vs) (hp : H p = none) : Rep c μ (upd H p (.lst vs)) (.lst ds) (.ref p) :=
  ⟨p, vs, rfl, upd_same, rs.new hp, Reps.mono (Ext.same (same_upd hp)) _ _ r⟩
theorem Post.newL {c : Cs} {W : WX} {σ : L2.St} {μ : Mu} {H : Hp} {S : Sto} {ds : List D} {vs : List V} {p : Addr} {Q : VK} (h : Post c W σ (Rep c) μ H (.ok (.loc S.length) (S ++ [.lst ds])) Q) (rs : RS c μ H S) (r : Reps c μ H ds vs) (hp : H p = none) : Q (.ref p) (upd H p (.lst vs)) := by
  have x : Ext μ H (μ.add p) (upd H p (.lst vs)) := Ext.cell rs hp
  refine h _ (μ.add p) _ x (rs.cell hp ⟨vs, upd_same, Reps.mono x _ _ r⟩) ⟨p, rfl, ?_⟩
  rw [rs.len]
  simp
theorem pd_tup {x1} (h : PDA X W es me) : PD X W (.Tuple es x1 pos) (mTup me) := by
  refine PE.con (pe_tup h) fun σ H Q h => ?_
  refine tG.seq (k := fun ρ xs S => ofO (if xs.length ≤ sizeLine then some (D.tup xs) else none) S) h fun μ ρ dx S x H1 rs re rx p => ?_
  obtain ⟨d, e, q⟩ := p.ofO rs
  split at e
  · cases e
    refine ⟨by rw [← Reps.length rx]; assumption, fun p hp => q _ _ (same_upd hp) (new_tup rs rx hp)⟩
  · cases e
theorem pd_lst (h : PDA X W es me) : PD X W (.List es pos) (mLst me) := by
  refine PE.con (pe_lst h) fun σ H Q h => ?_
  refine tG.seq (k := fun ρ xs S => ofO (if xs.length ≤ sizeLine then some (D.lst xs) else none) S) h fun μ ρ dx S x H1 rs re rx p => ?_
  obtain ⟨d, e, q⟩ := p.ofO rs
  split at e
  · cases e
    refine ⟨by rw [← Reps.length rx]; assumption, fun p hp => q _ _ (same_upd hp) (new_lst rs rx hp)⟩
  · cases e
theorem pd_newL (h : PDA X W es me) : PD X W (.List es pos) (mNewL me) := by
  refine PE.con (pe_lst h) fun σ H Q h => ?_
  refine tG.seq (k := fun ρ xs S => if xs.length ≤ sizeLine then .ok (D.loc S.length) (S ++ [.lst xs]) else .bad) h fun μ ρ dx S x H1 rs re rx p => ?_
  split at p
  · exact ⟨by rw [← Reps.length rx]; assumption, fun q hq => p.newL rs rx hq⟩
  · exact False.elim p

/-! ### built-ins by their names -/
abbrev GN := Sto → List D → Option D
def rCall (c : Cs) (g : GN) : List V → Hp → VK → Prop := fun xs H Q => ∃ (μ : Mu) (S : Sto) (ds : List D) (d : D), RS c μ H S ∧ Reps c μ H ds xs ∧ g S ds = some d ∧ ∀ v H', Same H H' → Rep c μ H' d v → Q v H'
def CallM (X : L2.Cx) (f : Value) (g : GN) : Prop := CallR X f (rCall (cs X) g)
theorem CallM.of {f : Value} {g : GN} {r : List V → Hp → VK → Prop} (h : CallR X f r)
    (i : ∀ (μ : Mu) (S : Sto) (ds : List D) (d : D) (xs : List V) (H : Hp) (Q : VK), RS (cs X) μ H S → Reps (cs X) μ H ds xs → g S ds = some d → (∀ v H', Same H H' → Rep (cs X) μ H' d v → Q v H') → r xs H Q) : CallM X f g :=
  fun pins s σ H xs us Q I rx ⟨μ, S, ds, d, rs, r1, e, q⟩ => h pins s σ H xs us Q I rx (i μ S ds d xs H Q rs r1 e q)
def orN (g g' : GN) : GN := fun S xs => match g S xs with
  | some d => some d
  | none => g' S xs
theorem CallM.or {f : Value} {g g' : GN} (h : CallM X f g) (h' : CallM X f g') : CallM X f (orN g g') :=
  fun pins s σ H xs us Q I rx ⟨μ, S, ds, d, rs, r1, e, q⟩ => by
    unfold orN at e
    split at e
    · rename_i d' e'
      cases e
      exact h pins s σ H xs us Q I rx ⟨μ, S, ds, _, rs, r1, e', q⟩
    · exact h' pins s σ H xs us Q I rx ⟨μ, S, ds, d, rs, r1, e, q⟩
def mCall (g : GN) (me : AM) : EM := fun ρ S => (me ρ S).bind fun xs S => ofO (g S xs) S
theorem tCB_of {g : GN} {σ : L2.St} {H : Hp} {Q : VK} (h : tG (cs X) W (Rep (cs X)) (mCall g me) σ H Q) : tCB (rCall (cs X) g) (tG (cs X) W (Reps (cs X)) me) σ H Q := by
  refine tG.seq (k := fun ρ xs S => ofO (g S xs) S) h fun μ ρ ds S xs H1 rs re rx p => ?_
  obtain ⟨d, e, q⟩ := p.ofO rs
  exact ⟨μ, S, ds, d, rs, rx, e, q⟩
variable {x : Str} {p : Pos} {id T : String}
theorem pd_callB {g : GN} (hc : CallM X (.builtin id) g) (hm : X.mg x = none) (hv : bootBuiltins x = some (.builtin id)) (ha : PDA X W (e :: es) me) (hg : Gl X x := by rfl) (hn : x ≠ "__name__" := by decide) (hdb : (x == ("__debug__" : Str)) = false := by decide)
    (he : starEach (e :: es) X.env = (false, eval e X.env) :: starEach es X.env := by rfl) (hpl : (backTo pos (starEach es X.env)).any (·.1) = false := by rfl) : PD X W (.Call (.Name x p) (e :: es) [] pos) (mCall g me) :=
  PE.con (pe_callB hc hg hm hv ha hn hdb he hpl) fun _ _ _ h => tCB_of h
theorem pd_callTy {g : GN} (hc : CallM X (.type T) g) (hm : X.mg x = none) (hv : bootBuiltins x = some (.type T)) (ha : PDA X W (e :: es) me) (hg : Gl X x := by rfl) (hn : x ≠ "__name__" := by decide) (hdb : (x == ("__debug__" : Str)) = false := by decide)
    (he : starEach (e :: es) X.env = (false, eval e X.env) :: starEach es X.env := by rfl) (hpl : (backTo pos (starEach es X.env)).any (·.1) = false := by rfl) : PD X W (.Call (.Name x p) (e :: es) [] pos) (mCall g me) :=
  PE.con (pe_callTy hc hg hm hv ha hn hdb he hpl) fun _ _ _ h => tCB_of h
end
end Mir

set_option maxRecDepth 100000
namespace Mir
open PySem PySem.Spec PyProof.Rows L2

/-! ### statements -/
section
variable (c : Cs) (W : WX)
def PostS (D : Ends) (μ : Mu) (H : Hp) (f : Fl) : Prop := match f with
  | .nx ρ S => ∀ (σ : L2.St) (μ' : Mu) (H' : Hp), Ext μ H μ' H' → RS c μ' H' S → REnv c μ' H' σ ρ → D.nx σ H'
  | .rt d S => ∀ (v : V) (μ' : Mu) (H' : Hp), Ext μ H μ' H' → RS c μ' H' S → Rep c μ' H' d v → D.rt v H'
  | .bk ρ S => ∀ (σ : L2.St) (μ' : Mu) (H' : Hp), Ext μ H μ' H' → RS c μ' H' S → REnv c μ' H' σ ρ → D.bk σ H'
  | .ct ρ S => ∀ (σ : L2.St) (μ' : Mu) (H' : Hp), Ext μ H μ' H' → RS c μ' H' S → REnv c μ' H' σ ρ → D.ct σ H'
  | .exc x ρ S => ∀ (cls : Value) (dd : Option Addr) (σ : L2.St) (μ' : Mu) (H' : Hp), Ext μ H μ' H' → RS c μ' H' S → REnv c μ' H' σ ρ → RepX c μ' H' x cls dd → W cls dd σ H'
  | .bad => False
def tS (m : SM) : TS := fun D σ H => ∃ (μ : Mu) (ρ : Env) (S : Sto), RS c μ H S ∧ REnv c μ H σ ρ ∧ PostS c W D μ H (m ρ S)
end
abbrev PDS (X : L2.Cx) (W : WX) (st : Stmt) (m : SM) : Prop := PS X st (tS (cs X) W m)
abbrev PDSs (X : L2.Cx) (W : WX) (st : List Stmt) (m : SM) : Prop := PSs X st (tS (cs X) W m)
/-- an expression's run ahead of what follows -/
def Fl.of {α : Type} (r : R α) (ρ : Env) (k : α → Sto → Fl) : Fl := match r with
  | .ok a S => k a S
  | .exc x S => .exc x ρ S
  | .bad => .bad
section
variable {c : Cs} {W : WX} {σ : L2.St} {μ μ' : Mu} {H H' : Hp} {S : Sto} {ρ : Env} {α β : Type} {rp : Mu → Hp → α → β → Prop} {D : Ends}
theorem PostS.anti {f : Fl} (x : Ext μ H μ' H') (h : PostS c W D μ H f) : PostS c W D μ' H' f := by
  cases f with
  | nx ρ S => exact fun σ μ2 H2 x2 => h σ μ2 H2 (x.trans x2)
  | rt ρ S => exact fun σ μ2 H2 x2 => h σ μ2 H2 (x.trans x2)
  | bk ρ S => exact fun σ μ2 H2 x2 => h σ μ2 H2 (x.trans x2)
  | ct ρ S => exact fun σ μ2 H2 x2 => h σ μ2 H2 (x.trans x2)
  | exc e ρ S => exact fun cl dd σ μ2 H2 x2 => h cl dd σ μ2 H2 (x.trans x2)
  | bad => exact h
/-- first an expression -/
theorem PostS.of {r : R α} {k : α → Sto → Fl} (re : REnv c μ H σ ρ) (h : PostS c W D μ H (Fl.of r ρ k)) : Post c W σ rp μ H r (fun b H' => ∃ μ' a S', Ext μ H μ' H' ∧ RS c μ' H' S' ∧ REnv c μ' H' σ ρ ∧ rp μ' H' a b ∧ PostS c W D μ' H' (k a S')) := by
  cases r with
  | ok a S => exact fun b μ2 H2 x2 rs rb => ⟨μ2, a, S, x2, rs, re.mono x2, rb, PostS.anti x2 h⟩
  | exc e S => exact fun cls dd μ2 H2 x2 rs rx => h cls dd σ μ2 H2 x2 rs (re.mono x2) rx
  | bad => exact h
theorem tG.seqS {m : Env → Sto → R α} {k : Env → α → Sto → Fl} {Q1 : β → Hp → Prop} (h : tS c W (fun ρ S => Fl.of (m ρ S) ρ (k ρ)) D σ H)
    (f : ∀ (μ : Mu) (ρ : Env) (a : α) (S : Sto) (b : β) (H' : Hp), RS c μ H' S → REnv c μ H' σ ρ → rp μ H' a b → PostS c W D μ H' (k ρ a S) → Q1 b H') : tG c W rp m σ H Q1 := by
  obtain ⟨μ, ρ, S, rs, re, p⟩ := h
  exact ⟨μ, ρ, S, rs, re, (PostS.of re p).imp fun b H' ⟨μ', a, S', x, rs', re', rb, p'⟩ => f μ' ρ a S' b H' rs' re' rb p'⟩
theorem PostS.next {ρ : Env} (h : PostS c W D μ H (.nx ρ S)) (rs : RS c μ H S) (re : REnv c μ H σ ρ) : D.nx σ H := h σ μ H Ext.refl rs re
end
section
variable {X : L2.Cx} {W : WX} {st : Stmt} {rest : List Stmt} {e : Expr} {m : EM} {u u' : SM} {t : TM} {pos : Pos}
def sNil : SM := fun ρ S => .nx ρ S
def sSeq (a b : SM) : SM := fun ρ S => match a ρ S with
  | .nx ρ' S' => b ρ' S'
  | f => f
theorem PostS.seq {c : Cs} {μ : Mu} {H : Hp} {ρ : Env} {S : Sto} {D : Ends} (h : PostS c W D μ H (sSeq u u' ρ S)) : PostS c W { D with nx := tS c W u' D } μ H (u ρ S) := by
  unfold sSeq at h
  cases e : u ρ S with
  | nx ρ' S' => rw [e] at h; exact fun σ μ2 H2 x2 rs re => ⟨μ2, ρ', S', rs, re, PostS.anti x2 h⟩
  | rt d S' => rw [e] at h; exact h
  | bk d S' => rw [e] at h; exact h
  | ct d S' => rw [e] at h; exact h
  | exc x d S' => rw [e] at h; exact h
  | bad => rw [e] at h; exact h
theorem pds_nil : PDSs X W [] sNil := PSs.con pss_nil fun D σ H ⟨μ, ρ, S, rs, re, p⟩ => p.next rs re
theorem pds_cons (h1 : PDS X W st u) (h2 : PDSs X W rest u') : PDSs X W (st :: rest) (sSeq u u') := PSs.con (pss_cons h1 h2) fun D σ H ⟨μ, ρ, S, rs, re, p⟩ => ⟨μ, ρ, S, rs, re, p.seq⟩
theorem pds_one (h1 : PDS X W st u) : PDSs X W [st] u := pss_one h1
theorem pd_pass : PDS X W (.Pass pos) sNil := PS.con ps_pass fun D σ H ⟨μ, ρ, S, rs, re, p⟩ => p.next rs re
def sBreak : SM := fun ρ S => .bk ρ S
def sCont : SM := fun ρ S => .ct ρ S
theorem pd_break : PDS X W (.Break pos) sBreak := PS.con ps_break fun D σ H ⟨μ, ρ, S, rs, re, p⟩ => p σ μ H Ext.refl rs re
theorem pd_continue : PDS X W (.Continue pos) sCont := PS.con ps_continue fun D σ H ⟨μ, ρ, S, rs, re, p⟩ => p σ μ H Ext.refl rs re
def sExpr (m : EM) : SM := fun ρ S => Fl.of (m ρ S) ρ fun _ S => .nx ρ S
theorem pd_expr (he : PD X W e m) (hs : swapsWith e none pos.line X.env = pure false := by rfl) : PDS X W (.Expr e pos) (sExpr m) :=
  PS.con (ps_expr he hs) fun D σ H h => tG.seqS (k := fun ρ _ S => .nx ρ S) h fun μ ρ a S b H' rs re rb p => p.next rs re
def sRet (m : EM) : SM := fun ρ S => Fl.of (m ρ S) ρ fun d S => .rt d S
theorem pd_ret (he : PD X W e m) : PDS X W (.Return (some e) pos) (sRet m) :=
  PS.con (ps_ret he) fun D σ H h => tG.seqS (k := fun ρ d S => .rt d S) h fun μ ρ a S b H' rs re rb p => p b μ H' Ext.refl rs rb
def sRetN : SM := fun _ S => .rt .non S
theorem pd_retN : PDS X W (.Return none pos) sRetN := PS.con ps_retN fun D σ H ⟨μ, ρ, S, rs, re, p⟩ => p .non μ H Ext.refl rs rfl
def sSet (i : Nat) (m : EM) : SM := fun ρ S => Fl.of (m ρ S) ρ fun d S => .nx (ρ.set i (some d)) S
theorem set_of {i : Nat} {D : Ends} {σ : L2.St} {H : Hp} (h : tS (cs X) W (sSet i m) D σ H) : tAsg (tG (cs X) W (Rep (cs X)) m) (gName i) D σ H :=
  tG.seqS (k := fun ρ d S => .nx (ρ.set i (some d)) S) h fun μ ρ a S b H' rs re rb p => p.next rs (re.set rb)
theorem pd_set (i : Nat) {x : Str} {pos' : Pos} (he : PD X W e m) (hN : X.N.Nodup) (hi : X.N[i]? = some x := by rfl) (hx : Loc X.env.scope x := by first | exact Or.inl rfl | exact Or.inr rfl) (hs : swapsWith e (some (.Name x pos')) pos.line X.env = pure false := by rfl)
    (hf : X.fn x = true ∨ X.env.scope.names.lookup x = some .local := by first | exact .inl rfl | exact .inr rfl | assumption) : PDS X W (.Assign [.Name x pos'] e pos) (sSet i m) :=
  PS.con (ps_set hN hi hx he hs hf) fun D σ H h => set_of h
def sIf (t : TM) (a b : SM) : SM := fun ρ S => Fl.of (t ρ S) ρ fun k S => if k then a ρ S else b ρ S
theorem pd_if {c : Expr} {a b : List Stmt} (hc : PDT X W c t) (ha : PDSs X W a u) (hb : PDSs X W b u') : PDS X W (.If c a b pos) (sIf t u u') := by
  refine PS.con (ps_if hc ha hb) fun D σ H h => tG.seqS (k := fun ρ (k : Bool) S => if k = true then u ρ S else u' ρ S) h fun μ ρ a S b H' rs re rb p => ?_
  have rb : a = b := rb
  subst rb
  cases a with
  | true => rw [if_pos rfl]; exact ⟨μ, ρ, S, rs, re, p⟩
  | false => rw [if_neg Bool.false_ne_true]; exact ⟨μ, ρ, S, rs, re, p⟩

/-! ### while -/
def sWhile (t : TM) (b : SM) : Nat → SM
  | 0 => fun _ _ => .bad
  | n + 1 => fun ρ S => Fl.of (t ρ S) ρ fun k S => if k then (match b ρ S with
    | .nx ρ' S' => sWhile t b n ρ' S'
    | .ct ρ' S' => sWhile t b n ρ' S'
    | .bk ρ' S' => .nx ρ' S'
    | f => f) else .nx ρ S
theorem pd_while (n : Nat) {c : Expr} {body : List Stmt} (hp : PassesOwn (model X.prog X.w) X.A X.env X.xe) (hc : PDT X W c t) (hb : PDSs X W body u) : PDS X W (.While c body [] pos) (sWhile t u n) := by
  refine PS.con (ps_while hp hc hb) fun D σ H ⟨μ, ρ, S, rs, re, p⟩ => ?_
  refine ⟨fun n σ H => ∃ μ ρ S, RS (cs X) μ H S ∧ REnv (cs X) μ H σ ρ ∧ PostS (cs X) W D μ H (sWhile t u n ρ S), ⟨n, μ, ρ, S, rs, re, p⟩, ?_⟩
  rintro n σ H ⟨μ, ρ, S, rs, re, p⟩
  cases n with
  | zero => exact False.elim p
  | succ n =>
    refine ⟨μ, ρ, S, rs, re, (PostS.of re p).imp ?_⟩
    rintro b H1 ⟨μ1, a, S1, x1, rs1, re1, rb, p1⟩
    have rb : a = b := rb
    subst rb
    cases a with
    | false => rw [if_neg Bool.false_ne_true]; exact p1.next rs1 re1
    | true =>
      rw [if_pos rfl]
      rw [if_pos rfl] at p1
      refine ⟨fun σ H => ∃ μ ρ S, RS (cs X) μ H S ∧ REnv (cs X) μ H σ ρ ∧ PostS (cs X) W D μ H (sWhile t u n ρ S), fun σ' H' w => ⟨n, Nat.lt_succ_self n, w⟩, μ1, ρ, S1, rs1, re1, ?_⟩
      cases e : u ρ S1 with
      | nx ρ' S' => rw [e] at p1; exact fun σ μ2 H2 x2 rs re => ⟨μ2, ρ', S', rs, re, PostS.anti x2 p1⟩
      | ct ρ' S' => rw [e] at p1; exact fun σ μ2 H2 x2 rs re => ⟨μ2, ρ', S', rs, re, PostS.anti x2 p1⟩
      | bk ρ' S' => rw [e] at p1; exact fun σ μ2 H2 x2 rs re => PostS.anti x2 p1 σ μ2 H2 Ext.refl rs re
      | rt d S' => rw [e] at p1; exact p1
      | exc x d S' => rw [e] at p1; exact p1
      | bad => rw [e] at p1; exact p1
end

/-! ### targets -/
/-- a target: the slots that it stores, what it does -/
abbrev GM := D → Env → Option Env
/-- outside of ss as it was -/
def Out (ss : List Nat) (σ σ' : L2.St) : Prop := σ'.length = σ.length ∧ ∀ i, i ∉ ss → σ'[i]? = σ[i]?
theorem Out.refl {ss : List Nat} {σ : L2.St} : Out ss σ σ := ⟨rfl, fun _ _ => rfl⟩
theorem Out.trans {ss : List Nat} {σ σ' σ'' : L2.St} (a : Out ss σ σ') (b : Out ss σ' σ'') : Out ss σ σ'' := ⟨b.1.trans a.1, fun i h => (b.2 i h).trans (a.2 i h)⟩
theorem Out.mono {ss tt : List Nat} {σ σ' : L2.St} (a : Out ss σ σ') (h : ∀ i ∈ ss, i ∈ tt) : Out tt σ σ' := ⟨a.1, fun i n => a.2 i fun z => n (h i z)⟩
section
variable (c : Cs)
def tTg (ss : List Nat) (g : GM) : TG := fun v σ H Q => ∃ (μ : Mu) (ρ ρ' : Env) (d : D), REnv c μ H σ ρ ∧ Rep c μ H d v ∧ g d ρ = some ρ' ∧ ∀ σ', REnv c μ H σ' ρ' → Out ss σ σ' → Q σ' H
def tTgs (ss : List Nat) (g : List D → Env → Option Env) : TGs := fun vs σ H Q => ∃ (μ : Mu) (ρ ρ' : Env) (ds : List D), REnv c μ H σ ρ ∧ Reps c μ H ds vs ∧ g ds ρ = some ρ' ∧ ∀ σ', REnv c μ H σ' ρ' → Out ss σ σ' → Q σ' H
end
abbrev PDG (X : L2.Cx) (tg : Expr) (ss : List Nat) (g : GM) : Prop := PG X tg (tTg (cs X) ss g)
abbrev PDGs (X : L2.Cx) (tg : List Expr) (ss : List Nat) (g : List D → Env → Option Env) : Prop := PGs X tg (tTgs (cs X) ss g)
theorem PG.con {X : L2.Cx} {e : Expr} {t t' : TG} (h : PG X e t) (f : ∀ v σ H Q, t' v σ H Q → t v σ H Q) : PG X e t' := ⟨fun pins s σ H v u Q I r q => h.run pins s σ H v u Q I r (f v σ H Q q)⟩
theorem PGs.con {X : L2.Cx} {e : List Expr} {t t' : TGs} (h : PGs X e t) (f : ∀ v σ H Q, t' v σ H Q → t v σ H Q) : PGs X e t' := ⟨fun pins s σ H v u Q I r q => h.run pins s σ H v u Q I r (f v σ H Q q)⟩
section
variable {X : L2.Cx} {pos : Pos} {e : Expr} {es : List Expr} {ss tt : List Nat} {g : GM} {gs : List D → Env → Option Env}
def gN (i : Nat) : GM := fun d ρ => some (ρ.set i (some d))
theorem pdg_name (i : Nat) {x : Str} (hN : X.N.Nodup) (hi : X.N[i]? = some x := by rfl) (hx : Loc X.env.scope x := by first | exact Or.inl rfl | exact Or.inr rfl) (hf : X.fn x = true ∨ X.env.scope.names.lookup x = some .local := by first | exact .inl rfl | exact .inr rfl | assumption) : PDG X (.Name x pos) [i] (gN i) :=
  PG.con (pg_name hN hi hx hf) fun v σ H Q ⟨μ, ρ, ρ', d, re, r, e, q⟩ => by
    cases e
    exact q _ (re.set r) ⟨by simp, fun j hj => List.getElem?_set_ne fun z => hj (by simp [z])⟩
def gNilM : List D → Env → Option Env := fun ds ρ => match ds with
  | [] => some ρ
  | _ => none
def gConsM (g : GM) (gs : List D → Env → Option Env) : List D → Env → Option Env := fun ds ρ => match ds with
  | d :: r => match g d ρ with
    | some ρ' => gs r ρ'
    | none => none
  | [] => none
theorem pdgs_nil : PDGs X [] [] gNilM := PGs.con pgs_nil fun v σ H Q ⟨μ, ρ, ρ', ds, re, r, e, q⟩ => by
  cases ds with
  | nil => cases e; exact ⟨r, q _ re Out.refl⟩
  | cons d ds => cases e
theorem pdgs_cons (h1 : PDG X e ss g) (h2 : PDGs X es tt gs) (hs : (assignEach (e :: es) X.env).map (·.2) = assign e X.env :: (assignEach es X.env).map (·.2) := by rfl) : PDGs X (e :: es) (ss ++ tt) (gConsM g gs) :=
  PGs.con (pgs_cons h1 h2 hs) fun vs σ H Q ⟨μ, ρ, ρ', ds, re, r, e, q⟩ => by
    cases ds with
    | nil => cases e
    | cons d ds =>
      obtain ⟨v, w, rfl, r1, r2⟩ := r
      unfold gConsM at e
      cases e1 : g d ρ with
      | none => simp only [e1] at e; cases e
      | some ρ1 =>
        simp only [e1] at e
        exact ⟨v, w, rfl, μ, ρ, ρ1, d, re, r1, e1, fun σ1 re1 o1 => ⟨μ, ρ1, ρ', ds, re1, r2, e, fun σ2 re2 o2 => q σ2 re2 ((o1.mono fun i h => List.mem_append_left _ h).trans (o2.mono fun i h => List.mem_append_right _ h))⟩⟩
/-- (a, b, ..) = a tuple -/
def gTupM (n : Nat) (gs : List D → Env → Option Env) : GM := fun d ρ => match d with
  | .tup ds => if ds.length = n then gs ds ρ else none
  | _ => none
theorem pdg_tup {k : Nat} {n : Nat} (hc : X.calm = true) (h : PDGs X es ss gs) (hn : (assignEach es X.env).length = n := by rfl) (hst : (assignEach es X.env).findIdx? (·.1) = none := by rfl) : PDG X (.Tuple es k pos) ss (gTupM n gs) :=
  PG.con (pg_tup hc h hn hst) fun v σ H Q ⟨μ, ρ, ρ', d, re, r, e, q⟩ => by
    cases d with
    | tup ds =>
      obtain ⟨a, vs, rfl, h1, _, h2⟩ := r
      simp only [gTupM] at e
      split at e
      · rename_i hl
        exact ⟨a, vs, rfl, SqT.of h1, by rw [← h2.length]; exact hl, μ, ρ, ρ', ds, re, h2, e, q⟩
      · cases e
    | _ => cases e
/-- a, b = .. -/
def sAsg (g : GM) (m : EM) : SM := fun ρ S => Fl.of (m ρ S) ρ fun d S => match g d ρ with
  | some ρ' => .nx ρ' S
  | none => .bad
theorem pd_asg {W : WX} {tg : Expr} {m : EM} (he : PD X W e m) (hg : PDG X tg ss g) (hs : swapsWithSole [tg] e pos.line X.env = pure false := by rfl) (hw : swappedStores [tg] e X.env = pure none := by rfl)
    (h1 : (assignEach [tg] X.env).map (·.2) = [assign tg X.env] := by rfl) : PDS X W (.Assign [tg] e pos) (sAsg g m) :=
  PS.con (ps_asg he hg hs hw h1) fun D σ H h => tG.seqS (k := fun ρ d S => match g d ρ with | some ρ' => .nx ρ' S | none => .bad) h fun μ ρ d S v H' rs re rb p => by
    cases e1 : g d ρ with
    | none => rw [e1] at p; exact False.elim p
    | some ρ1 =>
      rw [e1] at p
      exact ⟨μ, ρ, ρ1, d, re, rb, e1, fun σ' re' o => p.next rs re'⟩
end

/-! ### what is walked -/
/-- items, and the cell that must stay while they are walked -/
abbrev IM := Env → Sto → R (List D × List (Nat × List D))
def Keeps (it : List D × List (Nat × List D)) (S : Sto) : Prop := ∀ p ∈ it.2, S[p.1]? = some (.lst p.2)
structure DWalk (c : Cs) (μ0 : Mu) (H0 : Hp) (it : List D × List (Nat × List D)) (J : It) : Prop where
  ex : ∃ (G : Hp → Prop) (Y : Nat → Hp → V → Hp → Prop), Walk J it.1.length G Y ∧ (∀ μ H S, Mo μ0 H0 μ H → RS c μ H S → Keeps it S → G H) ∧
    ∀ i μ H S v H', i < it.1.length → Mo μ0 H0 μ H → RS c μ H S → Keeps it S → Y i H v H' → Same H H' ∧ ∃ d, it.1[i]? = some d ∧ Rep c μ H' d v
abbrev PDI (X : L2.Cx) (W : WX) (tg iter : Expr) (m : IM) : Prop := PI X tg iter (tG (cs X) W (DWalk (cs X)) m)
theorem PI.con {X : L2.Cx} {tg e : Expr} {t t' : TI} (h : PI X tg e t) (f : ∀ σ H R, t' σ H R → t σ H R) : PI X tg e t' := ⟨fun pins s σ H R I q => h.run pins s σ H R I (f σ H R q)⟩
/-- from items that stand still -/
theorem DWalk.still {c : Cs} {μ : Mu} {H : Hp} {ds : List D} {J : It} {G : Hp → Prop} {vs : List V} {Y : Nat → Hp → V → Hp → Prop} (w : Walk J vs.length G Y) (r : Reps c μ H ds vs) (hG : ∀ μ' H', Mo μ H μ' H' → G H')
    (hY : ∀ i H v H', i < vs.length → Y i H v H' → H' = H ∧ vs[i]? = some v) : DWalk c μ H (ds, []) J := by
  have hl := r.length
  refine ⟨G, Y, by rw [hl]; exact w, fun μ' H' S x _ _ => hG μ' H' x, fun i μ' H1 S v H2 hi x rs _ y => ?_⟩
  obtain ⟨rfl, e⟩ := hY i _ _ _ (by rw [← hl]; exact hi) y
  refine ⟨Same.refl _, ds[i], List.getElem?_eq_getElem hi, ?_⟩
  obtain ⟨w', e1, r1⟩ := r.get (i := i) (List.getElem?_eq_getElem hi)
  rw [e] at e1; cases e1
  exact Rep.mo x _ _ r1

/-! ### for -/
open Classical in
noncomputable def sForL (it : List D × List (Nat × List D)) (g : GM) (b : SM) : List D → Env → Sto → Fl
  | [], ρ, S => if Keeps it S then .nx ρ S else .bad
  | d :: ds, ρ, S => if Keeps it S then (match g d ρ with
    | none => .bad
    | some ρ1 => match b ρ1 S with
      | .nx ρ2 S2 => sForL it g b ds ρ2 S2
      | .ct ρ2 S2 => sForL it g b ds ρ2 S2
      | .bk ρ2 S2 => .nx ρ2 S2
      | f => f) else .bad
noncomputable def sFor (mi : IM) (g : GM) (b : SM) : SM := fun ρ S => Fl.of (mi ρ S) ρ fun it S => sForL it g b it.1 ρ S
section
variable {X : L2.Cx} {W : WX} {tg iter : Expr} {body : List Stmt} {mi : IM} {ss : List Nat} {g : GM} {u : SM} {pos : Pos}
theorem pd_for (hp : PassesOwn (model X.prog X.w) X.A X.env X.xe) (hc : X.calm = true) (hi : PDI X W tg iter mi) (hg : PDG X tg ss g) (hb : PDSs X W body u) (hs : ∀ x, foldedSetIterable iter X.env x = pure x := by intro _; rfl) : PDS X W (.For tg iter body [] pos) (sFor mi g u) := by
  refine PS.con (ps_for hp hc hi hg hb hs) fun D σ H h => tG.seqS (k := fun ρ it S => sForL it g u it.1 ρ S) h fun μ0 ρ it S J H0 rs re dw p => ?_
  obtain ⟨G, Y, w, hG, hY⟩ := dw.ex
  -- at turn i
  let Pv : Nat → L2.St → Hp → Prop := fun i σ H => ∃ μ ρ S, Ext μ0 H0 μ H ∧ RS (cs X) μ H S ∧ REnv (cs X) μ H σ ρ ∧ PostS (cs X) W D μ H (sForL it g u (it.1.drop i) ρ S)
  have keeps : ∀ {ds ρ S μ H}, PostS (cs X) W D μ H (sForL it g u ds ρ S) → Keeps it S := fun {ds ρ S μ H} p => by
    by_cases k : Keeps it S
    · exact k
    · cases ds with
      | nil => unfold sForL at p; rw [if_neg k] at p; exact False.elim p
      | cons d ds => unfold sForL at p; rw [if_neg k] at p; exact False.elim p
  refine for_it w Pv ⟨μ0, ρ, S, Ext.refl, rs, re, by rw [List.drop_zero]; exact p⟩ (fun i σ H _ ⟨μ, ρ, S, x, rs, re, p⟩ => hG μ H S x.mo rs (keeps p)) (fun i v σ H H' hi ⟨μ, ρ, S, x, rs, re, p⟩ y => ?_) (fun σ H ⟨μ, ρ, S, x, rs, re, p⟩ => ?_)
  · have k := keeps p
    obtain ⟨sm, d, hd, rd⟩ := hY i μ H S v H' hi x.mo rs k y
    have ed : it.1.drop i = d :: it.1.drop (i + 1) := by
      rw [List.drop_eq_getElem_cons hi]
      rw [List.getElem?_eq_getElem hi] at hd
      rw [Option.some.inj hd]
    rw [ed] at p
    unfold sForL at p
    rw [if_pos k] at p
    have rs' := rs.same sm
    have re' := re.mono (Ext.same sm)
    cases eg : g d ρ with
    | none => rw [eg] at p; exact False.elim p
    | some ρ1 =>
      rw [eg] at p
      have p : PostS (cs X) W D μ H (match u ρ1 S with
        | .nx ρ2 S2 => sForL it g u (it.1.drop (i + 1)) ρ2 S2
        | .ct ρ2 S2 => sForL it g u (it.1.drop (i + 1)) ρ2 S2
        | .bk ρ2 S2 => .nx ρ2 S2
        | f => f) := p
      refine ⟨μ, ρ, ρ1, d, re', rd, eg, fun σ1 re1 o1 => ⟨μ, ρ1, S, rs', re1, ?_⟩⟩
      have p' := PostS.anti (Ext.same sm) p
      have xx := x.trans (Ext.same sm)
      cases e : u ρ1 S with
      | nx ρ2 S2 => rw [e] at p'; exact fun σ μ2 H2 x2 rs2 re2 => ⟨μ2, ρ2, S2, xx.trans x2, rs2, re2, PostS.anti x2 p'⟩
      | ct ρ2 S2 => rw [e] at p'; exact fun σ μ2 H2 x2 rs2 re2 => ⟨μ2, ρ2, S2, xx.trans x2, rs2, re2, PostS.anti x2 p'⟩
      | bk ρ2 S2 => rw [e] at p'; exact fun σ μ2 H2 x2 rs2 re2 => p' σ μ2 H2 x2 rs2 re2
      | rt d' S2 => rw [e] at p'; exact p'
      | exc x' ρ2 S2 => rw [e] at p'; exact p'
      | bad => rw [e] at p'; exact p'
  · rw [List.drop_length] at p
    have k := keeps p
    unfold sForL at p
    rw [if_pos k] at p
    exact p.next rs re
end
end Mir

set_option maxRecDepth 100000
namespace Mir
open PySem PySem.Spec PyProof.Rows L2

/-! ### comprehensions -/
def wipeE (ρ : Env) : List Nat → Env
  | [] => ρ
  | v :: vs => (wipeE ρ vs).set v none
theorem wipe_out {σ : L2.St} {i : Nat} : ∀ {vs : List Nat}, i ∉ vs → (wipe σ vs)[i]? = σ[i]?
  | [], _ => rfl
  | v :: vs, h => by
    simp only [List.mem_cons, not_or] at h
    unfold wipe
    rw [List.getElem?_set_ne (Ne.symm h.1)]
    exact wipe_out h.2
theorem wipe_in {σ : L2.St} {i : Nat} (hi : i < σ.length) : ∀ {vs : List Nat}, i ∈ vs → (wipe σ vs)[i]? = some none
  | v :: vs, h => by
    unfold wipe
    by_cases e : v = i
    · subst e; exact List.getElem?_set_self (by rw [wipe_length]; exact hi)
    · rw [List.getElem?_set_ne e]
      exact wipe_in hi (by simpa [Ne.symm e] using h)
theorem wipe_eq {σ σ' : L2.St} {vs : List Nat} (o : Out vs σ σ') : wipe σ' vs = wipe σ vs := by
  refine List.ext_getElem? fun i => ?_
  by_cases h : i ∈ vs
  · by_cases hi : i < σ.length
    · rw [wipe_in hi h, wipe_in (by rw [o.1]; exact hi) h]
    · rw [List.getElem?_eq_none (by rw [wipe_length, o.1]; omega), List.getElem?_eq_none (by rw [wipe_length]; omega)]
  · rw [wipe_out h, wipe_out h, o.2 i h]
theorem out_wipe {σ : L2.St} {vs : List Nat} : Out vs σ (wipe σ vs) := ⟨wipe_length _ _, fun i h => wipe_out h⟩
theorem REnv.forget {c : Cs} {μ : Mu} {H : Hp} {σ : L2.St} {ρ : Env} {i : Nat} (r : REnv c μ H σ ρ) : REnv c μ H (σ.set i none) (ρ.set i none) :=
  ⟨by simp [r.len], fun j e he => by
    by_cases hj : i = j
    · subst hj
      by_cases z : i < ρ.length
      · rw [List.getElem?_set_self z] at he; cases he
      · rw [List.getElem?_eq_none (by simpa using z)] at he; cases he
    · rw [List.getElem?_set_ne hj] at he ⊢
      exact r.at_ j e he⟩
theorem REnv.wipe {c : Cs} {μ : Mu} {H : Hp} {σ : L2.St} {ρ : Env} (r : REnv c μ H σ ρ) : ∀ vs : List Nat, REnv c μ H (wipe σ vs) (wipeE ρ vs)
  | [] => r
  | v :: vs => (REnv.wipe r vs).forget
/-- nothing is raised -/
def R.nox {α : Type} (r : R α) : R α := match r with
  | .exc _ _ => .bad
  | r => r
abbrev Wf : WX := fun _ _ _ _ => False
open Classical in
noncomputable def compL (it : List D × List (Nat × List D)) (g : GM) (tm : TM) (me : EM) (ρ : Env) : List D → Sto → R (List D)
  | [], S => if Keeps it S then .ok [] S else .bad
  | d :: ds, S => if Keeps it S then (match g d ρ with
    | none => .bad
    | some ρ1 => (tm ρ1 S).nox.bind fun k S2 => if k = true then (me ρ1 S2).nox.bind fun y S3 => (compL it g tm me ρ ds S3).bind fun ys S4 => .ok (y :: ys) S4 else compL it g tm me ρ ds S2) else .bad
/-- what becomes of the list that was made: it stands as it is, or it is a new cell -/
def finF (ds : List D) (S : Sto) : R D := .ok (.lst ds) S
def finC (ds : List D) (S : Sto) : R D := .ok (.loc S.length) (S ++ [.lst ds])
noncomputable def mComp (fin : List D → Sto → R D) (mi : IM) (g : GM) (tm : TM) (me : EM) (vs : List Nat) : EM := fun ρ S => (mi ρ S).bind fun it S1 => if it.1.length ≤ sizeLine then (compL it g tm me (wipeE ρ vs) it.1 S1).bind fin else .bad
def FinOk (c : Cs) (fin : List D → Sto → R D) : Prop := ∀ (W : WX) (σ : L2.St) (μ0 : Mu) (H1 H : Hp) (cells : List Addr) (S : Sto) (acc : List D) (accV : List V) (Da : Addr) (Q : VK), H1 Da = none → Da ∉ μ0.hid → Ext μ0 H1 ⟨cells, μ0.hid⟩ H →
  RS c ⟨cells, Da :: μ0.hid⟩ H S → H Da = some (.lst accV) → Reps c ⟨cells, Da :: μ0.hid⟩ H acc accV → Post c W σ (Rep c) μ0 H1 (fin acc S) Q → Q (.ref Da) H
theorem finF_ok {c : Cs} : FinOk c finF := fun W σ μ0 H1 H cells S acc accV Da Q hD noD x rs hd ra p =>
  p _ ⟨cells, μ0.hid⟩ H x (RS.unhide (p := Da) rs) ⟨Da, accV, rfl, hd, ⟨(rs.hid Da List.mem_cons_self).2, noD⟩, Reps.mo (Mo.unhide (p := Da)) _ _ ra⟩
theorem finC_ok {c : Cs} : FinOk c finC := fun W σ μ0 H1 H cells S acc accV Da Q hD noD x rs hd ra p => by
  have nD : Da ∉ cells := (rs.hid Da List.mem_cons_self).2
  have mo : Mo ⟨cells, Da :: μ0.hid⟩ H ⟨cells ++ [Da], μ0.hid⟩ H := ⟨fun a o h n => ⟨h, by
    obtain ⟨n1, n2⟩ := n
    simp only [List.mem_cons, not_or] at n2
    exact ⟨by simp [n1, n2.1], n2.2⟩⟩, fun n a h => by
    show (cells ++ [Da])[n]? = some a
    rw [List.getElem?_append_left (List.getElem?_eq_some_iff.mp h).1]; exact h⟩
  refine p _ ⟨cells ++ [Da], μ0.hid⟩ H ?_ ?_ ⟨Da, rfl, ?_⟩
  · obtain ⟨⟨_, t, et⟩, q⟩ := x
    refine ⟨⟨rfl, t ++ [Da], ?_⟩, fun a o e n => ?_⟩
    · have et : cells = μ0.cells ++ t := et
      show cells ++ [Da] = _
      rw [et, List.append_assoc]
    · obtain ⟨z1, z2⟩ := q a o e n
      have z2 : a ∉ cells := z2
      exact ⟨z1, by simp [z2, ne_of_none e hD]⟩
  · refine ⟨?_, by simp [rs.len], fun n o a e1 e2 => ?_, fun a ha => ?_⟩
    · show (cells ++ [Da]).Nodup
      rw [List.nodup_append]
      refine ⟨rs.nd, by simp, fun a ha b hb => ?_⟩
      have : b = Da := by simpa using hb
      subst this
      exact fun e => nD (e ▸ ha)
    · have e2 : (cells ++ [Da])[n]? = some a := e2
      have hlen : S.length = cells.length := rs.len
      by_cases hn : n < cells.length
      · rw [List.getElem?_append_left hn] at e2
        rw [List.getElem?_append_left (by omega)] at e1
        exact (rs.ob n o a e1 e2).mo mo fun u e => e
      · have hn2 : n = cells.length := by
          have := (List.getElem?_eq_some_iff.mp e2).1
          simp at this; omega
        subst hn2
        rw [List.getElem?_append_right (Nat.le_refl _)] at e2
        rw [List.getElem?_append_right (by omega), hlen] at e1
        simp at e1 e2
        subst e1; subst e2
        exact ⟨accV, hd, Reps.mo mo _ _ ra⟩
    · obtain ⟨u, n⟩ := rs.hid a (List.mem_cons_of_mem _ ha)
      have n : a ∉ cells := n
      have na : a ≠ Da := fun e => noD (by rw [← e]; exact ha)
      exact ⟨u, by simp [n, na]⟩
  · show (cells ++ [Da])[S.length]? = some Da
    have hlen : S.length = cells.length := rs.len
    rw [hlen]; simp
theorem Post.nox {c : Cs} {W W' : WX} {σ σ' : L2.St} {μ : Mu} {H : Hp} {α β : Type} {rp : Mu → Hp → α → β → Prop} {r : R α} {Q : β → Hp → Prop} (h : Post c W σ rp μ H r.nox Q) : Post c W' σ' rp μ H r Q := by
  cases r with
  | ok a S => exact h
  | exc e S => exact False.elim h
  | bad => exact h
theorem Post.wish {c : Cs} {W W' : WX} {σ σ' : L2.St} {μ : Mu} {H : Hp} {α β : Type} {rp : Mu → Hp → α → β → Prop} {r : R α} {Q : β → Hp → Prop} (h : Post c W σ rp μ H r.nox Q) : Post c W' σ' rp μ H r.nox Q := by
  cases r with
  | ok a S => exact h
  | exc e S => exact False.elim h
  | bad => exact h
def tmYes : TM := fun _ S => .ok true S
abbrev PDTs (X : L2.Cx) (W : WX) (ifs : List Expr) (m : TM) : Prop := PTs X ifs (tG (cs X) W rpB m)
theorem PTs.con {X : L2.Cx} {e : List Expr} {t t' : TT} (h : PTs X e t) (f : ∀ σ H R, t' σ H R → t σ H R) : PTs X e t' := ⟨fun pins s σ H R I q => h.run pins s σ H R I (f σ H R q)⟩
section
variable {X : L2.Cx} {W : WX}
theorem pdts_nil : PDTs X W [] tmYes := PTs.con pts_nil fun σ H Q ⟨μ, ρ, S, rs, re, p⟩ => p.ok rs rfl
theorem pdts_one {c : Expr} {t : TM} (h : PDT X W c t) : PDTs X W [c] t := pts_one h
variable {elt tg iter : Expr} {ifs : List Expr} {scope : Scope} {own : List (Str × Nat)} {pos : Pos} {mi : IM} {g : GM} {tm : TM} {me : EM} {ss : List Nat} {fin : List D → Sto → R D}
theorem lc_of {σ : L2.St} {H : Hp} {Q : VK} {vs : List Nat} (hfin : FinOk (cs X) fin) (hss : ∀ i ∈ ss, i ∈ vs) (h : tG (cs X) W (Rep (cs X)) (mComp fin mi g tm me vs) σ H Q) :
    tLc (tG (cs X) W (DWalk (cs X)) mi) (tTg (cs X) ss g) (tG (cs X) Wf rpB tm) (tG (cs X) Wf (Rep (cs X)) me) vs σ H Q := by
  refine tG.seq (k := fun ρ (it : List D × List (Nat × List D)) S1 => if it.1.length ≤ sizeLine then (compL it g tm me (wipeE ρ vs) it.1 S1).bind fin else .bad) h fun μ0 ρ it S J H1 rs re dw p => ?_
  intro Da hD
  split at p
  case isFalse => exact False.elim p
  rename_i hsz
  obtain ⟨G, Y, w, hG, hY⟩ := dw.ex
  let Pv : Nat → Hp → Prop := fun i H => ∃ (cells : List Addr) (S : Sto) (acc : List D) (accV : List V), Ext μ0 H1 ⟨cells, μ0.hid⟩ H ∧ RS (cs X) ⟨cells, Da :: μ0.hid⟩ H S ∧ H Da = some (.lst accV) ∧ Reps (cs X) ⟨cells, Da :: μ0.hid⟩ H acc accV ∧ acc.length ≤ i ∧
    Post (cs X) W σ (Rep (cs X)) μ0 H1 ((compL it g tm me (wipeE ρ vs) (it.1.drop i) S).bind fun ys S2 => fin (acc ++ ys) S2) Q
  have keeps : ∀ {ds S α} {k : List D → Sto → R α} {β : Type} {rp : Mu → Hp → α → β → Prop} {μ H Q}, Post (cs X) W σ rp μ H ((compL it g tm me (wipeE ρ vs) ds S).bind k) Q → Keeps it S := fun {ds S α k β rp μ H Q} p => by
    by_cases kk : Keeps it S
    · exact kk
    · cases ds with
      | nil => unfold compL at p; rw [if_neg kk] at p; exact False.elim p
      | cons d ds => unfold compL at p; rw [if_neg kk] at p; exact False.elim p
  -- the walk's ground, from the start to here
  have moH : ∀ {cells H}, Ext μ0 H1 ⟨cells, μ0.hid⟩ H → Mo μ0 H1 ⟨cells, Da :: μ0.hid⟩ H := fun {cells H} x =>
    ⟨fun a o h n => let q := x.2 a o h n.1; ⟨q.1, q.2, by simp [n.2, ne_of_none h hD]⟩, fun n a h => x.ix h⟩
  have noD : Da ∉ μ0.hid := (rs.new hD).2
  refine lc_it w Pv ⟨μ0.cells, S, [], [], Ext.same (same_upd hD), rs.hide hD, upd_same, rfl, Nat.le_refl _, by rw [List.drop_zero]; exact p⟩ (fun i H _ ⟨cells, S, acc, accV, x, rs, hd, ra, hl, p⟩ => hG _ H S (moH x) rs (keeps p))
    (fun i v H H' hi ⟨cells, S, acc, accV, x, rs, hd, ra, hl, p⟩ y => ?_) (fun H ⟨cells, S, acc, accV, x, rs, hd, ra, hl, p⟩ => ?_)
  · have kk := keeps p
    obtain ⟨sm, d, hdd, rd⟩ := hY i _ H S v H' hi (moH x) rs kk y
    have ed : it.1.drop i = d :: it.1.drop (i + 1) := by
      rw [List.drop_eq_getElem_cons hi]
      rw [List.getElem?_eq_getElem hi] at hdd
      rw [Option.some.inj hdd]
    rw [ed] at p
    unfold compL at p
    rw [if_pos kk] at p
    have rs' := rs.same sm
    have x' := x.trans (Ext.same sm)
    have re' : REnv (cs X) ⟨cells, Da :: μ0.hid⟩ H' (wipe σ vs) (wipeE ρ vs) := (re.mo (moH x')).wipe vs
    have ra' := Reps.mono (Ext.same sm) _ _ ra
    have hd' := sm _ _ hd
    cases eg : g d (wipeE ρ vs) with
    | none => rw [eg] at p; exact False.elim p
    | some ρ1 =>
      rw [eg] at p
      dsimp only at p
      refine ⟨_, _, ρ1, d, re', rd, eg, fun σ1 re1 o1 => ⟨(wipe_eq (o1.mono hss)).trans (wipe_eq out_wipe), ?_⟩⟩
      -- the test
      have p1 : Post (cs X) W σ (Rep (cs X)) μ0 H1 ((tm ρ1 S).nox.bind fun k S2 => ((if k = true then (me ρ1 S2).nox.bind fun y S3 => (compL it g tm me (wipeE ρ vs) (it.1.drop (i + 1)) S3).bind fun ys S4 => .ok (y :: ys) S4
        else compL it g tm me (wipeE ρ vs) (it.1.drop (i + 1)) S2).bind fun ys S2 => fin (acc ++ ys) S2)) Q := by
        cases hk : (tm ρ1 S).nox with
        | ok k S2 => rw [hk] at p; exact p
        | exc x S2 => rw [hk] at p; exact p
        | bad => rw [hk] at p; exact p
      refine ⟨_, ρ1, S, rs', re1, Post.nox (W := Wf) (σ := σ1) ?_⟩
      cases hk : (tm ρ1 S).nox with
      | exc x S2 => unfold R.nox at hk; split at hk <;> first | cases hk | (rename_i h1; exact absurd hk (h1 _ _))
      | bad => rw [hk] at p1; exact p1
      | ok k S2 =>
        rw [hk] at p1
        rintro b μ2 H2 x2 rs2 rb
        have rb : k = b := rb
        subst rb
        obtain ⟨c2, h2⟩ := μ2
        obtain rfl : h2 = Da :: μ0.hid := x2.1.1
        have e2 : Ext μ0 H1 ⟨c2, μ0.hid⟩ H2 := by
          obtain ⟨⟨_, t, et⟩, q⟩ := x2
          obtain ⟨⟨_, t', et'⟩, q'⟩ := x'
          refine ⟨⟨rfl, t' ++ t, ?_⟩, fun a o ha na => ?_⟩
          · have et : c2 = cells ++ t := et
            have et' : cells = μ0.cells ++ t' := et'
            show c2 = _
            rw [et, et', List.append_assoc]
          · obtain ⟨z1, z2⟩ := q' a o ha na
            exact q a o z1 z2
        have hd2 : H2 Da = some (.lst accV) := (x2.2 _ _ hd' (rs'.hid Da List.mem_cons_self).2).1
        have ra2 := Reps.mono x2 _ _ ra'
        have re2 := re1.mono x2
        cases k with
        | false =>
          rw [if_neg Bool.false_ne_true]
          exact ⟨c2, S2, acc, accV, e2, rs2, hd2, ra2, Nat.le_succ_of_le hl, p1⟩
        | true =>
          rw [if_pos rfl]
          have p2 : Post (cs X) W σ (Rep (cs X)) μ0 H1 ((me ρ1 S2).nox.bind fun y S3 => (compL it g tm me (wipeE ρ vs) (it.1.drop (i + 1)) S3).bind fun ys S4 => fin (acc ++ (y :: ys)) S4) Q := by
            have p1 : Post (cs X) W σ (Rep (cs X)) μ0 H1 (((me ρ1 S2).nox.bind fun y S3 => (compL it g tm me (wipeE ρ vs) (it.1.drop (i + 1)) S3).bind fun ys S4 => .ok (y :: ys) S4).bind fun ys S2 => fin (acc ++ ys) S2) Q := p1
            cases hm : (me ρ1 S2).nox with
            | ok y S3 =>
              rw [hm] at p1
              show Post (cs X) W σ (Rep (cs X)) μ0 H1 ((compL it g tm me (wipeE ρ vs) (it.1.drop (i + 1)) S3).bind fun ys S4 => fin (acc ++ (y :: ys)) S4) Q
              have p1 : Post (cs X) W σ (Rep (cs X)) μ0 H1 (((compL it g tm me (wipeE ρ vs) (it.1.drop (i + 1)) S3).bind fun ys S4 => .ok (y :: ys) S4).bind fun ys S2 => fin (acc ++ ys) S2) Q := p1
              cases hc : compL it g tm me (wipeE ρ vs) (it.1.drop (i + 1)) S3 with
              | ok ys S4 => rw [hc] at p1; exact p1
              | exc x S4 => rw [hc] at p1; exact p1
              | bad => rw [hc] at p1; exact p1
            | exc x S3 => rw [hm] at p1; exact p1
            | bad => rw [hm] at p1; exact p1
          refine ⟨_, ρ1, S2, rs2, re2, Post.nox (W := Wf) (σ := σ1) ?_⟩
          cases hm : (me ρ1 S2).nox with
          | exc x S3 => unfold R.nox at hm; split at hm <;> first | cases hm | (rename_i h1; exact absurd hm (h1 _ _))
          | bad => rw [hm] at p2; exact p2
          | ok y S3 =>
            rw [hm] at p2
            rintro yv μ3 H3 x3 rs3 ry
            obtain ⟨c3, h3⟩ := μ3
            obtain rfl : h3 = Da :: μ0.hid := x3.1.1
            have hD3 : Da ∈ (⟨c3, Da :: μ0.hid⟩ : Mu).hid := List.mem_cons_self
            have hd3 : H3 Da = some (.lst accV) := (x3.2 _ _ hd2 (rs2.hid Da List.mem_cons_self).2).1
            have ra3 := Reps.mono x3 _ _ ra2
            have hle : accV.length ≤ i := by rw [← ra3.length]; exact hl
            refine ⟨accV, hd3, by omega, c3, S3, acc ++ [y], accV ++ [yv], ?_, rs3.hidp hD3, upd_same, ?_, by simp; exact hl, ?_⟩
            · obtain ⟨⟨_, t, et⟩, q⟩ := x3
              obtain ⟨⟨_, t', et'⟩, q'⟩ := e2
              refine ⟨⟨rfl, t' ++ t, ?_⟩, fun a o ha na => ?_⟩
              · have et : c3 = c2 ++ t := et
                have et' : c2 = μ0.cells ++ t' := et'
                show c3 = _
                rw [et, et', List.append_assoc]
              · obtain ⟨z1, z2⟩ := q' a o ha na
                obtain ⟨z3, z4⟩ := q a o z1 z2
                exact ⟨by rw [upd_ne (ne_of_none ha hD)]; exact z3, z4⟩
            · exact Reps.mo (Mo.hidp hD3) _ _ (Reps.append ra3 (Reps.one ry))
            · have e : (fun ys S2 => fin (acc ++ [y] ++ ys) S2) = (fun ys S2 => fin (acc ++ (y :: ys)) S2) := by
                funext ys S2; simp
              rw [e]
              exact p2
  · rw [List.drop_length] at p
    have kk := keeps p
    unfold compL at p
    rw [if_pos kk] at p
    have p : Post (cs X) W σ (Rep (cs X)) μ0 H1 (fin (acc ++ []) S) Q := p
    rw [List.append_nil] at p
    exact hfin W σ μ0 H1 H cells S acc accV Da Q hD noD x rs hd ra p

theorem pd_lc (own : List (Str × Nat)) (hfin : FinOk (cs X) fin) (hc : X.calm = true) (hN : X.N.Nodup) (ss : List Nat) (hi : PDI X W tg iter mi) (ok : blkC X.N X.env.scope scope own = true) (hss : ∀ i ∈ ss, i ∈ own.map (·.2))
    (hg : ∀ (s : Shared) (H : Hp) (C : Addr) (cl : List (Str × Addr)) (fp : List Addr), PDG (X.blk s H scope (compEnvC scope cl C X.env) fp) tg ss g) (ht : ∀ (s : Shared) (H : Hp) (C : Addr) (cl : List (Str × Addr)) (fp : List Addr), PDTs (X.blk s H scope (compEnvC scope cl C X.env) fp) Wf ifs tm)
    (he : ∀ (s : Shared) (H : Hp) (C : Addr) (cl : List (Str × Addr)) (fp : List Addr), PD (X.blk s H scope (compEnvC scope cl C X.env) fp) Wf elt me) (hs : ∀ x, foldedSetIterable iter X.env x = pure x := by intro _; rfl) :
    PD X W (.ListComp elt [⟨tg, iter, ifs, 0⟩] scope pos) (mComp fin mi g tm me (own.map (·.2))) :=
  PE.con (pe_lc hc hN hi (blkOk_by ok) hg ht he hs) fun _ _ _ h => lc_of hfin hss h
theorem pd_setLc (i : Nat) (own : List (Str × Nat)) (hfin : FinOk (cs X) fin) {y : Str} {py spos : Pos} (hc : X.calm = true) (hN : X.N.Nodup) (ss : List Nat) (hyl : X.env.scope.names.lookup y = some .local) (hsw : swapsWith (.ListComp elt [⟨tg, iter, ifs, 0⟩] scope pos) (some (.Name y py)) spos.line X.env = pure true)
    (hi : PDI X W tg iter mi) (ok : blkC X.N X.env.scope scope own = true) (hss : ∀ i ∈ ss, i ∈ own.map (·.2))
    (hg : ∀ (s : Shared) (H : Hp) (C : Addr) (cl : List (Str × Addr)) (fp : List Addr), PDG (X.blk s H scope (compEnvC scope cl C X.env) fp) tg ss g) (ht : ∀ (s : Shared) (H : Hp) (C : Addr) (cl : List (Str × Addr)) (fp : List Addr), PDTs (X.blk s H scope (compEnvC scope cl C X.env) fp) Wf ifs tm)
    (he : ∀ (s : Shared) (H : Hp) (C : Addr) (cl : List (Str × Addr)) (fp : List Addr), PD (X.blk s H scope (compEnvC scope cl C X.env) fp) Wf elt me) (hy : X.N[i]? = some y := by rfl) (hs : ∀ x, foldedSetIterable iter X.env x = pure x := by intro _; rfl) :
    PDS X W (.Assign [.Name y py] (.ListComp elt [⟨tg, iter, ifs, 0⟩] scope pos) spos) (sSet i (mComp fin mi g tm me (own.map (·.2)))) :=
  PS.con (ps_setLc hc hN hy hyl hsw hi (blkOk_by ok) hg ht he hs) fun D σ H h => by
    obtain ⟨μ, ρ, S, rs, re, p⟩ := h
    exact lc_of (W := W) (Q := fun x H1 => gName i x σ H1 D.nx) hfin hss (tG.seqS (m := mComp fin mi g tm me (own.map (·.2))) (k := fun ρ d S => .nx (ρ.set i (some d)) S) ⟨μ, ρ, S, rs, re, p⟩ fun μ ρ a S b H' rs re rb p => p.next rs (re.set rb))
end

/-! ### defs -/
abbrev FM := List D → Sto → R D
/-- the promise of a def: it does what F does -/
def spD (c : Cs) (ar : Nat) (F : FM) : Sp := fun vs H Q E => ∃ (μ : Mu) (S : Sto) (ds : List D), RS c μ H S ∧ Reps c μ H ds vs ∧ ds.length = ar ∧ Post c (fun cls dd _ H' => E cls dd H') [] (Rep c) μ H (F ds S) Q
structure G0 (P : Program) (w : World) where
  K : PySem.W.Frag
  mg : Str → Option Value
  base : Heap
/-- a def that may be called by its name -/
structure Cal (P : Program) (w : World) (c : Cs) (base : Heap) (x : Str) (ar k : Nat) (F : FM) : Prop where
  ex : ∃ (f : Addr) (fd : FuncData) (ps : List Str), c.mg x = some (.ref f) ∧ PySem.W.keepIn c.K (.ref f) = true ∧ Binds c.K fd ps [] ∧ FnOk P w c.K c.mg base (L2.CX P w) k f fd ps (spD c ar F)
theorem Cal.mono {P : Program} {w : World} {c : Cs} {base : Heap} {x : Str} {ar j k : Nat} {F : FM} (h : Cal P w c base x ar j F) (l : j ≤ k) : Cal P w c base x ar k F := by
  obtain ⟨f, fd, ps, a, b, d, e⟩ := h
  exact ⟨f, fd, ps, a, b, d, e.mono l⟩
def mApp (F : FM) (me : AM) : EM := fun ρ S => (me ρ S).bind fun xs S => F xs S
section
variable {X : L2.Cx} {W : WX} {e : Expr} {es : List Expr} {me : AM} {x : Str} {p pos : Pos} {F : FM} {ar k : Nat}
theorem pd_call (h : Cal X.prog X.w (cs X) X.base x ar k F) (hr : Room k X.A) (tk : Takes X W) (ha : PDA X W (e :: es) me) (hl : (e :: es).length = ar := by rfl) (har : ∀ ρ S xs S', me ρ S = .ok xs S' → xs.length = ar) (hg : Gl X x := by rfl) (hdb : (x == ("__debug__" : Str)) = false := by decide)
    (he : starEach (e :: es) X.env = (false, eval e X.env) :: starEach es X.env := by rfl) (hpl : (backTo pos (starEach es X.env)).any (·.1) = false := by rfl) : PD X W (.Call (.Name x p) (e :: es) [] pos) (mApp F me) := by
  obtain ⟨f, fd, ps, hm, hk, hb, ok⟩ := h
  refine PE.con (pe_callS ok hr hg hm hk hb (passAt tk) ha hdb he hpl) fun σ H Q h => ?_
  obtain ⟨μ, ρ, S, rs, re, p⟩ := h
  refine ⟨μ, ρ, S, rs, re, ?_⟩
  cases hme : me ρ S with
  | bad => unfold mApp at p; rw [hme] at p; exact p
  | exc x S => unfold mApp at p; rw [hme] at p; exact p
  | ok xs S1 =>
    unfold mApp at p; rw [hme] at p
    rintro vs μ1 H1 x1 rs1 r1
    refine ⟨μ1, S1, xs, rs1, r1, har ρ S xs S1 hme, ?_⟩
    have p1 : Post (cs X) W σ (Rep (cs X)) μ1 H1 (F xs S1) Q := Post.anti x1 p
    cases hf : F xs S1 with
    | ok d S2 => rw [hf] at p1; exact p1
    | exc x S2 => rw [hf] at p1; exact p1
    | bad => rw [hf] at p1; exact p1
end
end Mir

set_option maxRecDepth 100000
namespace Mir
open PySem PySem.Spec PyProof.Rows L2

/-- an argument list's length -/
def Ar (me : AM) (n : Nat) : Prop := ∀ ρ S xs S', me ρ S = .ok xs S' → xs.length = n
theorem ar_nil : Ar aNil 0 := fun ρ S xs S' h => by cases h; rfl
theorem ar_cons {m : EM} {me : AM} {n : Nat} (h : Ar me n) : Ar (aCons m me) (n + 1) := fun ρ S xs S' e => by
  unfold aCons at e
  cases h1 : m ρ S with
  | ok x S1 =>
    rw [h1] at e
    have e : ((me ρ S1).bind fun xs S => R.ok (x :: xs) S) = .ok xs S' := e
    cases h2 : me ρ S1 with
    | ok ys S2 =>
      rw [h2] at e
      cases e
      rw [List.length_cons, h ρ S1 ys _ h2]
    | exc x S => rw [h2] at e; cases e
    | bad => rw [h2] at e; cases e
  | exc x S => rw [h1] at e; cases e
  | bad => rw [h1] at e; cases e

/-! ### a def's body -/
def startE (n : Nat) (ds : List D) : Env := ds.map some ++ List.replicate (n - ds.length) none
def endF (f : Fl) : R D := match f with
  | .rt d S => .ok d S
  | .nx _ S => .ok .non S
  | .exc x _ S => .exc x S
  | _ => .bad
def mDef (n : Nat) (m : SM) : FM := fun ds S => endF (m (startE n ds) S)
theorem renv_start {c : Cs} {μ : Mu} {H : Hp} {N : List Str} {ds : List D} {vs : List V} (r : Reps c μ H ds vs) : REnv c μ H (L2.start N vs) (startE N.length ds) := by
  have hl := r.length
  refine ⟨by simp [L2.start, startE, hl], fun i d e => ?_⟩
  unfold startE at e
  unfold L2.start
  by_cases h : i < ds.length
  · rw [List.getElem?_append_left (by simpa using h)] at e
    rw [List.getElem?_append_left (by simpa [← hl] using h)]
    rw [List.getElem?_map] at e ⊢
    cases e1 : ds[i]? with
    | none => rw [e1] at e; cases e
    | some d' =>
      rw [e1] at e
      cases e
      obtain ⟨v, e2, r2⟩ := r.get e1
      exact ⟨v, by rw [e2]; rfl, r2⟩
  · rw [List.getElem?_append_right (by simpa using h)] at e
    exfalso
    have z := List.mem_of_getElem? e
    have := List.eq_of_mem_replicate z
    cases this
/-- a def's wish -/
abbrev We (E : XK) : WX := fun cls d _ H => E cls d H
abbrev cxD (P : Program) (w : World) (c : Cs) (base : Heap) (N : List Str) (qual : Str) (st : Stmt) (f : Addr) (cdv : Value) (A : Around) (outer : List PySem.Env) (s : Shared) (H : Hp) (E : XK) : L2.Cx := cxOf (L2.CX P w) P w c.K c.mg base N qual (defScope st) f cdv A outer s H E
theorem takesD {P : Program} {w : World} {c : Cs} {base : Heap} {N : List Str} {qual : Str} {st : Stmt} {f : Addr} {cdv : Value} {A : Around} {outer : List PySem.Env} {s : Shared} {H : Hp} {E : XK} : Takes (cxD P w c base N qual st f cdv A outer s H E) (We E) := takes_of rfl rfl rfl rfl
theorem ownD {P : Program} {w : World} {c : Cs} {base : Heap} {N : List Str} {qual : Str} {st : Stmt} {f : Addr} {cdv : Value} {A : Around} {outer : List PySem.Env} {s : Shared} {H : Hp} {E : XK} :
    PassesOwn (model (cxD P w c base N qual st f cdv A outer s H E).prog (cxD P w c base N qual st f cdv A outer s H E).w) (cxD P w c base N qual st f cdv A outer s H E).A (cxD P w c base N qual st f cdv A outer s H E).env (cxD P w c base N qual st f cdv A outer s H E).xe := passes_of rfl

section
variable {P : Program} {w : World} {c : Cs} {base : Heap} {x qual : Str} {st : Stmt} {f : Addr} {fd : FuncData} {N ps : List Str} {k ar : Nat} {m : SM}
theorem fn_ok (F : Fun c.K x qual st f fd) (sc : FnScope N ps (defScope st)) (har : ps.length = ar)
    (body : ∀ (cdv : Value) (A : Around) (outer : List PySem.Env) (s : Shared) (H : Hp) (E : XK), Room k (cxD P w c base N qual st f cdv A outer s H E).A → PDSs (cxD P w c base N qual st f cdv A outer s H E) (We E) (defBody st) m) : FnOk P w c.K c.mg base (L2.CX P w) (k + 1) f fd ps (spD c ar (mDef N.length m)) := by
  refine F.okX sc (fun vs H Q E h => ?_) (fun cdv A outer s H vs Q E hr h => ?_)
  · obtain ⟨μ, S, ds, rs, r, hl, _⟩ := h
    rw [← r.length, hl, har]
  · obtain ⟨μ, S, ds, rs, r, hl, p⟩ := h
    refine ⟨_, body cdv A outer s H E hr, μ, startE N.length ds, S, rs, renv_start r, ?_⟩
    unfold mDef at p
    have e : cs (cxD P w c base N qual st f cdv A outer s H E) = c := rfl
    rw [e]
    cases hm : m (startE N.length ds) S with
    | nx ρ S1 => rw [hm] at p; exact fun σ μ1 H1 x1 rs1 re1 => p .non μ1 H1 x1 rs1 rfl
    | rt d S1 => rw [hm] at p; exact fun v μ1 H1 x1 rs1 r1 => p v μ1 H1 x1 rs1 r1
    | exc e ρ S1 => rw [hm] at p; exact fun cls dd σ μ1 H1 x1 rs1 re1 rx => p cls dd μ1 H1 x1 rs1 rx
    | bk ρ S1 => rw [hm] at p; exact False.elim p
    | ct ρ S1 => rw [hm] at p; exact False.elim p
    | bad => rw [hm] at p; exact False.elim p
/-- nothing is promised where F gives nothing -/
theorem fn_bad (F : Fun c.K x qual st f fd) : FnOk P w c.K c.mg base (L2.CX P w) k f fd ps (spD c ar (fun _ _ => .bad)) :=
  ⟨fun vs H Q E ⟨μ, S, ds, rs, r, hl, p⟩ => False.elim p, fun A outer s H args us vs Q E _ _ _ _ ⟨μ, S, ds, rs, r, hl, p⟩ => False.elim p⟩
theorem FnOk.eqF {F F' : FM} {j : Nat} (h : FnOk P w c.K c.mg base (L2.CX P w) j f fd ps (spD c ar F)) (e : ∀ ds S, ds.length = ar → F ds S = F' ds S) : FnOk P w c.K c.mg base (L2.CX P w) j f fd ps (spD c ar F') :=
  h.imp fun vs H Q E ⟨μ, S, ds, rs, r, hl, p⟩ => ⟨μ, S, ds, rs, r, hl, by rw [e ds S hl]; exact p⟩
theorem cal_of {F : FM} (G : Fun c.K x qual st f fd) (hm : c.mg x = some (.ref f)) (hb : Binds c.K fd ps []) (ok : FnOk P w c.K c.mg base (L2.CX P w) k f fd ps (spD c ar F)) : Cal P w c base x ar k F := ⟨f, fd, ps, hm, G.kp, hb, ok⟩
end

/-! ### what a def made for itself is forgotten -/
mutual
def D.clean (n : Nat) : D → Bool
  | .tup ds => D.cleans n ds
  | .lst ds => D.cleans n ds
  | .dic _ ds => D.cleans n ds
  | .loc k => decide (k < n)
  | _ => true
def D.cleans (n : Nat) : List D → Bool
  | [] => true
  | d :: ds => d.clean n && D.cleans n ds
end
def cleanF (n : Nat) : List (Str × D) → Bool
  | [] => true
  | (_, d) :: ds => d.clean n && cleanF n ds
def MO.clean (n : Nat) : MO → Bool
  | .lst ds => D.cleans n ds
  | .dic _ ds => D.cleans n ds
  | .ins _ fs => cleanF n fs
def cutS (n : Nat) (S : Sto) : Option Sto := if (S.take n).all (MO.clean n) then some (S.take n) else none
def fixRet (n : Nat) (S : Sto) (d : D) : Option D := match d with
  | .loc k => if k < n then some (.loc k) else match S[k]? with
    | some (.lst ds) => if D.cleans n ds then some (.lst ds) else none
    | _ => none
  | d => if d.clean n then some d else none
def cutR (n : Nat) (r : R D) : R D := match r with
  | .ok d S => match cutS n S, fixRet n S d with
    | some S', some d' => .ok d' S'
    | _, _ => .bad
  | .exc x S => match cutS n S with
    | some S' => if cleanF n x.fs then .exc x S' else .bad
    | none => .bad
  | .bad => .bad
def mDefT (n : Nat) (m : SM) : FM := fun ds S => cutR S.length (mDef n m ds S)
section
variable {c : Cs} {μ : Mu} {H : Hp}
abbrev Mu.cut (μ : Mu) (n : Nat) : Mu := ⟨μ.cells.take n, μ.hid⟩
theorem Mu.no.cut {n : Nat} {a : Addr} (h : μ.no a) : (μ.cut n).no a := ⟨fun z => h.1 (List.mem_of_mem_take z), h.2⟩
mutual
theorem Rep.cut {n : Nat} : ∀ (d : D) (v : V), d.clean n = true → Rep c μ H d v → Rep c (μ.cut n) H d v
  | .non, _, _, h => h
  | .bl _, _, _, h => h
  | .int _, _, _, h => h
  | .str _, _, _, h => h
  | .tup ds, _, k, ⟨a, vs, e, h, no, r⟩ => ⟨a, vs, e, h, no.cut, Reps.cut ds vs k r⟩
  | .lst ds, _, k, ⟨a, vs, e, h, no, r⟩ => ⟨a, vs, e, h, no.cut, Reps.cut ds vs k r⟩
  | .dic ks ds, _, k, ⟨a, kvs, e, h, no, q, r⟩ => ⟨a, kvs, e, h, no.cut, q, Reps.cut ds _ k r⟩
  | .scr ns, _, _, ⟨a, e, .inl ⟨h, no⟩⟩ => ⟨a, e, .inl ⟨h, no.cut⟩⟩
  | .scr ns, _, _, ⟨a, e, .inr h⟩ => ⟨a, e, .inr h⟩
  | .loc j, _, k, ⟨a, e, h⟩ => ⟨a, e, by
    have k : j < n := of_decide_eq_true k
    show (μ.cells.take n)[j]? = some a
    rw [List.getElem?_take_of_lt k]; exact h⟩
theorem Reps.cut {n : Nat} : ∀ (ds : List D) (vs : List V), D.cleans n ds = true → Reps c μ H ds vs → Reps c (μ.cut n) H ds vs
  | [], _, _, h => h
  | d :: ds, _, k, ⟨v, r, e, h, hs⟩ => by
    have k : (d.clean n && D.cleans n ds) = true := k
    rw [Bool.and_eq_true] at k
    exact ⟨v, r, e, Rep.cut d v k.1 h, Reps.cut ds r k.2 hs⟩
end
theorem RepF.cut {n : Nat} : ∀ (fs : List (Str × D)) (vs : List (Str × V)), cleanF n fs = true → RepF c μ H fs vs → RepF c (μ.cut n) H fs vs
  | [], _, _, h => h
  | (x, d) :: ds, _, k, ⟨v, r, e, h, hs⟩ => by
    have k : (d.clean n && cleanF n ds) = true := k
    rw [Bool.and_eq_true] at k
    exact ⟨v, r, e, Rep.cut d v k.1 h, RepF.cut ds r k.2 hs⟩
theorem RepO.cut {n : Nat} {o : MO} {a : Addr} (k : o.clean n = true) (h : RepO c μ H o a) : RepO c (μ.cut n) H o a := by
  cases o with
  | lst ds => obtain ⟨vs, e, q⟩ := h; exact ⟨vs, e, Reps.cut _ _ k q⟩
  | dic ks ds => obtain ⟨kvs, e, k', q⟩ := h; exact ⟨kvs, e, k', Reps.cut _ _ k q⟩
  | ins cl fs => obtain ⟨C, dx, fvs, m, e, q⟩ := h; exact ⟨C, dx, fvs, m, e, RepF.cut _ _ k q⟩
theorem RS.cut {S S' : Sto} {n : Nat} (r : RS c μ H S) (k : cutS n S = some S') : RS c (μ.cut n) H S' := by
  unfold cutS at k
  split at k
  · rename_i h
    cases k
    refine ⟨r.nd.sublist (List.take_sublist _ _), by simp [r.len], fun j o a e1 e2 => ?_, fun a ha => ⟨(r.hid a ha).1, fun z => (r.hid a ha).2 (List.mem_of_mem_take z)⟩⟩
    have hj : j < n := by
      by_cases z : j < n
      · exact z
      · rw [List.getElem?_eq_none (by simp; omega)] at e1; cases e1
    have hc := List.all_eq_true.mp h o (List.mem_of_getElem? e1)
    rw [List.getElem?_take_of_lt hj] at e1
    have e2 : (μ.cells.take n)[j]? = some a := e2
    rw [List.getElem?_take_of_lt hj] at e2
    exact (r.ob j o a e1 e2).cut hc
  · cases k
theorem Ext.cut {μ' : Mu} {H' : Hp} {n : Nat} (hn : n = μ.cells.length) (x : Ext μ H μ' H') : Ext μ H (μ'.cut n) H' := by
  obtain ⟨⟨h1, t, h2⟩, q⟩ := x
  refine ⟨⟨h1, [], ?_⟩, fun a o e na => ⟨(q a o e na).1, fun z => (q a o e na).2 (List.mem_of_mem_take z)⟩⟩
  show μ'.cells.take n = _
  rw [h2, hn, List.take_left', List.append_nil]
  rfl
theorem Rep.fix {S : Sto} {n : Nat} {d d' : D} {v : V} (rs : RS c μ H S) (k : fixRet n S d = some d') (h : Rep c μ H d v) : Rep c (μ.cut n) H d' v := by
  cases d with
  | loc j =>
    simp only [fixRet] at k
    split at k
    · cases k
      exact Rep.cut _ _ (by simpa [D.clean]) h
    · rename_i hj
      split at k
      · rename_i ds e
        split at k
        · rename_i hc
          cases k
          obtain ⟨a, rfl, e2, vs, e3, e4⟩ := rs.at e h
          refine ⟨a, vs, rfl, e3, ⟨fun z => ?_, fun z => (rs.hid a z).2 (List.mem_of_getElem? e2)⟩, Reps.cut _ _ hc e4⟩
          obtain ⟨i, hi, ei⟩ := List.mem_iff_getElem.mp z
          have hi0 : i < (μ.cells.take n).length := hi
          have hi' : i < n ∧ i < μ.cells.length := by rw [List.length_take] at hi0; omega
          have e5 : μ.cells[i]? = some a := by
            rw [List.getElem?_eq_getElem hi'.2]
            rw [List.getElem_take] at ei
            rw [ei]
          have := nodup_ixA rs.nd e5 e2
          omega
        · cases k
      · cases k
  | _ =>
    simp only [fixRet] at k
    split at k
    · cases k; exact Rep.cut _ _ (by assumption) h
    · cases k
theorem Post.cut {W : WX} {σ : L2.St} {S : Sto} {r : R D} {Q : VK} (rs : RS c μ H S) (p : Post c W σ (Rep c) μ H (cutR S.length r) Q) : Post c W σ (Rep c) μ H r Q := by
  cases r with
  | bad => exact p
  | ok d S1 =>
    unfold cutR at p
    dsimp only at p
    rintro v μ1 H1 x1 rs1 r1
    split at p
    · rename_i S' d' e1 e2
      exact p v (μ1.cut S.length) H1 (x1.cut rs.len) (rs1.cut e1) (Rep.fix rs1 e2 r1)
    · exact False.elim p
  | exc x S1 =>
    unfold cutR at p
    dsimp only at p
    rintro cls dd μ1 H1 x1 rs1 ⟨C, dx, fvs, a1, a2, a3, a4, a5, a6⟩
    split at p
    · rename_i S' e1
      split at p
      · rename_i hc
        exact p cls dd (μ1.cut S.length) H1 (x1.cut rs.len) (rs1.cut e1) ⟨C, dx, fvs, a1, a2, a3, a4, a5.cut, RepF.cut _ _ hc a6⟩
      · exact False.elim p
    · exact False.elim p
end
theorem fn_okT {P : Program} {w : World} {c : Cs} {base : Heap} {f : Addr} {fd : FuncData} {ps : List Str} {k ar : Nat} {n : Nat} {m : SM} (h : FnOk P w c.K c.mg base (L2.CX P w) k f fd ps (spD c ar (mDef n m))) : FnOk P w c.K c.mg base (L2.CX P w) k f fd ps (spD c ar (mDefT n m)) :=
  h.imp fun vs H Q E ⟨μ, S, ds, rs, r, hl, p⟩ => ⟨μ, S, ds, rs, r, hl, Post.cut rs p⟩
end Mir

set_option maxRecDepth 100000
namespace Mir
open PySem PySem.Spec PyProof.Rows L2

/-- a list that is tracked -/
def listT (S : Sto) : D → Option (List D)
  | .lst ds => some ds
  | .loc n => match S[n]? with
    | some (.lst ds) => some ds
    | _ => none
  | _ => none
theorem listT_of {c : Cs} {μ : Mu} {H : Hp} {S : Sto} {d : D} {ds : List D} {v : V} (rs : RS c μ H S) (h : listT S d = some ds) (r : Rep c μ H d v) :
    ∃ a vs, v = .ref a ∧ Reps c μ H ds vs ∧ H a = some (.lst vs) := by
  cases d with
  | lst es => cases h; obtain ⟨a, vs, e, h1, _, h2⟩ := r; exact ⟨a, vs, e, h2, h1⟩
  | loc n =>
    simp only [listT] at h
    split at h
    · rename_i es e
      cases h
      obtain ⟨a, e1, _, vs, e2, e3⟩ := rs.at e r
      exact ⟨a, vs, e1, e3, e2⟩
    · cases h
  | _ => cases h
def gAdd : G2 := fun S x y => match x, y with
  | .int i, .int j => some (.int (i + j))
  | .str a, .str b => if a.length + b.length ≤ sizeLine then some (.str (a ++ b)) else none
  | .tup xs, .tup ys => if xs.length + ys.length ≤ sizeLine then some (.tup (xs ++ ys)) else none
  | x, y => match listT S x, listT S y with
    | some xs, some ys => if xs.length + ys.length ≤ sizeLine then some (.lst (xs ++ ys)) else none
    | _, _ => none
def gI2 (f : Int → Int → Int) : G2 := fun _ x y => match x, y with
  | .int i, .int j => some (.int (f i j))
  | _, _ => none
def gI2c (C : Int → Int → Bool) (f : Int → Int → Int) : G2 := fun _ x y => match x, y with
  | .int i, .int j => if C i j then some (.int (f i j)) else none
  | _, _ => none
def gC2 (f : Int → Int → Bool) : G2 := fun _ x y => match x, y with
  | .int i, .int j => some (.bl (f i j))
  | _, _ => none
section
variable {X : L2.Cx}
theorem om_I2 {f : Value → Value → Sem Value} {g : Int → Int → Int} (h : OpR X f (rI0 fun i j => .int (g i j))) : OpM X f (gI2 g) := OpM.of h fun μ S dx dy d x y H Q rs rx ry e q => by
  cases dx <;> first | (cases e; done) | skip
  cases dy <;> first | (cases e; done) | skip
  cases e
  exact ⟨_, _, rx, ry, q _ _ (Same.refl _) rfl⟩
theorem om_C2 {f : Value → Value → Sem Value} {g : Int → Int → Bool} (h : OpR X f (rI0 fun i j => .bl (g i j))) : OpM X f (gC2 g) := OpM.of h fun μ S dx dy d x y H Q rs rx ry e q => by
  cases dx <;> first | (cases e; done) | skip
  cases dy <;> first | (cases e; done) | skip
  cases e
  exact ⟨_, _, rx, ry, q _ _ (Same.refl _) rfl⟩
theorem om_I2c {f : Value → Value → Sem Value} {C : Int → Int → Bool} {P : Int → Int → Prop} {g : Int → Int → Int} (h : OpR X f (rI P fun i j => .int (g i j))) (hC : ∀ i j, C i j = true → P i j) : OpM X f (gI2c C g) := OpM.of h fun μ S dx dy d x y H Q rs rx ry e q => by
  cases dx <;> first | (cases e; done) | skip
  cases dy <;> first | (cases e; done) | skip
  simp only [gI2c] at e
  split at e
  · cases e
    exact ⟨_, _, rx, ry, hC _ _ (by assumption), q _ _ (Same.refl _) rfl⟩
  · cases e
theorem om_add : OpM X (binaryOp .Add) gAdd := OpM.of (op_add.or (op_add_str.or (op_catA.or op_cat))) fun μ S dx dy d x y H Q rs rx ry e q => by
  have go : (match listT S dx, listT S dy with
    | some xs, some ys => if xs.length + ys.length ≤ sizeLine then some (D.lst (xs ++ ys)) else none
    | _, _ => none) = some d → rCat x y H Q := fun e => by
    cases e1 : listT S dx with
    | none => rw [e1] at e; cases e
    | some xs =>
      cases e2 : listT S dy with
      | none => rw [e1, e2] at e; cases e
      | some ys =>
        rw [e1, e2] at e
        dsimp only at e
        split at e
        · rename_i hz
          cases e
          obtain ⟨a, vs, rfl, r1, h1⟩ := listT_of rs e1 rx
          obtain ⟨b, ws, rfl, r2, h2⟩ := listT_of rs e2 ry
          exact ⟨a, b, vs, ws, rfl, rfl, h1, h2, by rw [← r1.length, ← r2.length]; exact hz, fun p hp => q _ _ (same_upd hp) (new_lst rs (r1.append r2) hp)⟩
        · cases e
  cases dx with
  | int i =>
    cases dy with
    | int j => cases e; exact .inl ⟨_, _, rx, ry, q _ _ (Same.refl _) rfl⟩
    | _ => cases e
  | str i =>
    cases dy with
    | str j =>
      simp only [gAdd] at e
      split at e
      · cases e; exact .inr (.inl ⟨_, _, rx, ry, by assumption, q _ _ (Same.refl _) rfl⟩)
      · cases e
    | _ => cases e
  | tup xs =>
    cases dy with
    | tup ys =>
      simp only [gAdd] at e
      split at e
      · rename_i hz
        cases e
        obtain ⟨a, vs, rfl, h1, n1, r1⟩ := rx
        obtain ⟨b, ws, rfl, h2, n2, r2⟩ := ry
        refine .inr (.inr (.inl ⟨a, b, vs, ws, rfl, rfl, SqT.of h1, SqT.of h2, by rw [← r1.length, ← r2.length]; exact hz, fun z => ?_, fun _ z => ?_, fun _ _ p hp => q _ _ (same_upd hp) (new_tup rs (r1.append r2) hp)⟩))
        · subst z
          have : xs = [] := List.eq_nil_of_length_eq_zero (by rw [r1.length]; rfl)
          subst this
          exact q _ _ (Same.refl _) ⟨b, ws, rfl, h2, n2, r2⟩
        · subst z
          have : ys = [] := List.eq_nil_of_length_eq_zero (by rw [r2.length]; rfl)
          subst this
          rw [List.append_nil] at q
          exact q _ _ (Same.refl _) ⟨a, vs, rfl, h1, n1, r1⟩
      · cases e
    | _ => cases e
  | lst xs => exact .inr (.inr (.inr (go (by cases dy <;> exact e))))
  | loc xs => exact .inr (.inr (.inr (go (by cases dy <;> exact e))))
  | _ => cases dy <;> cases e
def gSub : G2 := gI2 fun i j => i - j
theorem om_sub : OpM X (binaryOp .Sub) gSub := om_I2 op_sub
def cDiv (i j : Int) : Bool := decide (0 < j) && decide (j.natAbs.log2 < 9000)
def gFdiv : G2 := gI2c cDiv fun i j => i / j
theorem om_fdiv : OpM X (binaryOp .FloorDiv) gFdiv := om_I2c op_fdivW fun i j h => by
  simp only [cDiv, Bool.and_eq_true, decide_eq_true_eq] at h
  exact h
def gMod : G2 := gI2c (fun _ j => decide (0 < j)) fun i j => i % j
theorem om_mod : OpM X (binaryOp .Mod) gMod := om_I2c op_mod fun i j h => of_decide_eq_true h
def cPow (i j : Int) : Bool := decide (0 ≤ j) && decide (j ≤ 1000000) && decide (i.natAbs < 2 ^ 64)
def gPow : G2 := gI2c cPow fun i j => i ^ j.toNat
theorem cPow_of {i j : Int} (h : cPow i j = true) : CPow i j := by
  simp only [cPow, Bool.and_eq_true, decide_eq_true_eq] at h
  exact ⟨h.1.1, h.1.2, h.2⟩
theorem om_pow : OpM X (binaryOp .Pow) gPow := om_I2c op_pow fun i j => cPow_of
def gShl : G2 := gI2c cPow fun i j => i * 2 ^ j.toNat
theorem om_shl : OpM X (binaryOp .LShift) gShl := om_I2c op_shl fun i j => cPow_of
def gShr : G2 := gI2c (fun _ j => decide (0 ≤ j)) fun i j => i / 2 ^ j.toNat
theorem om_shr : OpM X (binaryOp .RShift) gShr := om_I2c op_shr fun i j h => of_decide_eq_true h
def gAnd : G2 := gI2 Builtin.bitAnd
theorem om_and : OpM X (binaryOp .BitAnd) gAnd := om_I2 op_and
def gOr : G2 := gI2 Builtin.bitOr
theorem om_or : OpM X (binaryOp .BitOr) gOr := om_I2 op_or
def gXor : G2 := gI2 Builtin.bitXor
theorem om_xor : OpM X (binaryOp .BitXor) gXor := om_I2 op_xor
def gLt : G2 := gC2 fun i j => decide (i < j)
theorem om_lt : OpM X (compareOp .Lt) gLt := om_C2 op_lt
def gLe : G2 := gC2 fun i j => decide (i ≤ j)
theorem om_le : OpM X (compareOp .LtE) gLe := om_C2 op_le
def gGt : G2 := gC2 fun i j => decide (j < i)
theorem om_gt : OpM X (compareOp .Gt) gGt := om_C2 op_gt
def gGe : G2 := gC2 fun i j => decide (j ≤ i)
theorem om_ge : OpM X (compareOp .GtE) gGe := om_C2 op_ge
/-- -a -/
def gNeg : G1 := fun _ x => match x with
  | .int i => some (.int (-i))
  | _ => none
theorem om_neg : UnR X (unaryOp .USub) (rUn (cs X) gNeg) := fun pins s σ H x v Q I rx ⟨μ, S, dx, d, rs, r, e, q⟩ => by
  cases dx with
  | int i => cases e; exact un_neg pins s σ H x v Q I rx ⟨_, r, q _ _ (Same.refl _) rfl⟩
  | _ => cases e

/-! ### is None -/
def isNonD : D → Bool
  | .non => true
  | _ => false
def gIsN : G2 := fun _ x y => match y with
  | .non => some (.bl (isNonD x))
  | _ => none
def gNotN : G2 := fun _ x y => match y with
  | .non => some (.bl (!isNonD x))
  | _ => none
theorem rep_non {c : Cs} {μ : Mu} {H : Hp} {d : D} {v : V} (r : Rep c μ H d v) : decide (v = .non) = isNonD d := by
  have z : ∀ {w : V}, v = w → decide (w = .non) = isNonD d → decide (v = .non) = isNonD d := fun {w} e h => by rw [e]; exact h
  cases d with
  | non => exact z r rfl
  | bl b => exact z r rfl
  | int b => exact z r rfl
  | str b => exact z r rfl
  | tup ds => obtain ⟨a, vs, e, _⟩ := r; exact z e rfl
  | lst ds => obtain ⟨a, vs, e, _⟩ := r; exact z e rfl
  | dic ks ds => obtain ⟨a, vs, e, _⟩ := r; exact z e rfl
  | scr ds => obtain ⟨a, e, _⟩ := r; exact z e rfl
  | loc ds => obtain ⟨a, e, _⟩ := r; exact z e rfl
theorem om_isN : OpM X (compareOp .Is) gIsN := OpM.of op_isN fun μ S dx dy d x y H Q rs rx ry e q => by
  cases dy with
  | non => cases e; exact ⟨ry, by rw [rep_non rx]; exact q _ _ (Same.refl _) rfl⟩
  | _ => cases e
theorem om_notN : OpM X (compareOp .IsNot) gNotN := OpM.of op_notN fun μ S dx dy d x y H Q rs rx ry e q => by
  cases dy with
  | non => cases e; exact ⟨ry, by rw [rep_non rx]; exact q _ _ (Same.refl _) rfl⟩
  | _ => cases e

/-! ### == -/
mutual
/-- as data -/
def pyD (S : Sto) : D → Option PyData
  | .non => some .none
  | .bl b => some (.bool b)
  | .int i => some (.int i)
  | .str x => some (.str x)
  | .tup ds => match pyDs S ds with
    | some xs => some (.tuple xs)
    | none => none
  | .lst ds => match pyDs S ds with
    | some xs => some (.list xs)
    | none => none
  | _ => none
def pyDs (S : Sto) : List D → Option (List PyData)
  | [] => some []
  | d :: ds => match pyD S d with
    | some x => match pyDs S ds with
      | some xs => some (x :: xs)
      | none => none
    | none => none
end
/-- .. where the whole may be a cell -/
def pyC (S : Sto) : D → Option PyData
  | .loc n => match S[n]? with
    | some (.lst ds) => match pyDs S ds with
      | some xs => some (.list xs)
      | none => none
    | _ => none
  | d => pyD S d
mutual
theorem dp_of {c : Cs} {μ : Mu} {H : Hp} {S : Sto} : ∀ (d : D) (v : V) (p : PyData), pyD S d = some p → Rep c μ H d v → Dp c.K H v p
  | .non, v, p, h, r => by cases h; rw [show v = _ from r]; exact .non
  | .bl b, v, p, h, r => by cases h; rw [show v = _ from r]; exact .bl b
  | .int b, v, p, h, r => by cases h; rw [show v = _ from r]; exact .int b
  | .str b, v, p, h, r => by cases h; rw [show v = _ from r]; exact .str b
  | .tup ds, v, p, h, ⟨a, vs, e, h1, _, h2⟩ => by
    simp only [pyD] at h
    split at h
    · rename_i xs e1
      cases h
      subst e
      exact .tup (SqT.of h1) (dps_of ds vs xs e1 h2)
    · cases h
  | .lst ds, v, p, h, ⟨a, vs, e, h1, _, h2⟩ => by
    simp only [pyD] at h
    split at h
    · rename_i xs e1
      cases h
      subst e
      exact .lst (SqL.of h1) (dps_of ds vs xs e1 h2)
    · cases h
  | .dic _ _, _, _, h, _ => by cases h
  | .scr _, _, _, h, _ => by cases h
  | .loc _, _, _, h, _ => by cases h
theorem dps_of {c : Cs} {μ : Mu} {H : Hp} {S : Sto} : ∀ (ds : List D) (vs : List V) (ps : List PyData), pyDs S ds = some ps → Reps c μ H ds vs → DpAll c.K H vs ps
  | [], vs, ps, h, r => by cases h; rw [show vs = _ from r]; exact .nil
  | d :: ds, vs, ps, h, ⟨v, w, e, r1, r2⟩ => by
    simp only [pyDs] at h
    split at h
    · rename_i x e1
      split at h
      · rename_i xs e2
        cases h
        subst e
        exact .cons (dp_of d v x e1 r1) (dps_of ds w xs e2 r2)
      · cases h
    · cases h
end
theorem dpc_of {c : Cs} {μ : Mu} {H : Hp} {S : Sto} {d : D} {v : V} {p : PyData} (rs : RS c μ H S) (h : pyC S d = some p) (r : Rep c μ H d v) : Dp c.K H v p := by
  cases d with
  | loc n =>
    simp only [pyC] at h
    split at h
    · rename_i ds e
      split at h
      · rename_i xs e1
        cases h
        obtain ⟨a, rfl, _, vs, e2, e3⟩ := rs.at e r
        exact .lst (SqL.of e2) (dps_of ds vs xs e1 e3)
      · cases h
    · cases h
  | _ => exact dp_of _ v p h r
/-- data that may be compared -/
def okPy (p : PyData) : Bool := p.canLay0 && decide (p.depth ≤ 200)
def gEq : G2 := fun S x y => match pyC S x, pyC S y with
  | some p, some q => if okPy p && okPy q then some (.bl (PyData.eqv p q)) else none
  | _, _ => none
def gNe : G2 := fun S x y => match pyC S x, pyC S y with
  | some p, some q => if okPy p && okPy q then some (.bl (!PyData.eqv p q)) else none
  | _, _ => none
def rEqB (K : PySem.W.Frag) : R2 := fun x y H Q => ∃ d e, Dp K H x d ∧ Dp K H y e ∧ okPy d = true ∧ okPy e = true ∧ Q (.bl (PyData.eqv d e)) H
def rNeB (K : PySem.W.Frag) : R2 := fun x y H Q => ∃ d e, Dp K H x d ∧ Dp K H y e ∧ okPy d = true ∧ okPy e = true ∧ Q (.bl (!PyData.eqv d e)) H
theorem okPy_of {p : PyData} (h : okPy p = true) : p.canLay0 = true ∧ p.depth ≤ 200 := by
  simp only [okPy, Bool.and_eq_true, decide_eq_true_eq] at h; exact h
theorem op_eqB (hu : X.A.units + 200 < cLine) : OpR X (compareOp .Eq) (rEqB X.K) := by
  intro pins s σ H x y v u Q I rx ry h
  obtain ⟨d, e, hd, he, sd, se, q⟩ := h
  obtain ⟨as, r1⟩ := Dp.reads I d x v hd rx
  obtain ⟨bs, r2⟩ := Dp.reads I e y u he ry
  have h1 := okPy_of sd
  have h2 := okPy_of se
  exact SeqAt.compareEq_reads r1 r2 h1.1 h2.1 (by have := Nat.min_le_left d.depth e.depth; omega) ⟨.bl _, H, I, rfl, q⟩
theorem op_neB (hu : X.A.units + 200 < cLine) : OpR X (compareOp .NotEq) (rNeB X.K) := by
  intro pins s σ H x y v u Q I rx ry h
  obtain ⟨d, e, hd, he, sd, se, q⟩ := h
  obtain ⟨as, r1⟩ := Dp.reads I d x v hd rx
  obtain ⟨bs, r2⟩ := Dp.reads I e y u he ry
  have h1 := okPy_of sd
  have h2 := okPy_of se
  exact SeqAt.compareNe_reads r1 r2 h1.1 h2.1 (by have := Nat.min_le_left d.depth e.depth; omega) ⟨.bl _, H, I, rfl, q⟩
theorem om_eq (hu : X.A.units + 200 < cLine) : OpM X (compareOp .Eq) gEq := OpM.of (op_eqB hu) fun μ S dx dy d x y H Q rs rx ry e q => by
  simp only [gEq] at e
  split at e
  · rename_i p p' e1 e2
    split at e
    · rename_i hk
      rw [Bool.and_eq_true] at hk
      cases e
      exact ⟨p, p', dpc_of rs e1 rx, dpc_of rs e2 ry, hk.1, hk.2, q _ _ (Same.refl _) rfl⟩
    · cases e
  · cases e
theorem om_ne (hu : X.A.units + 200 < cLine) : OpM X (compareOp .NotEq) gNe := OpM.of (op_neB hu) fun μ S dx dy d x y H Q rs rx ry e q => by
  simp only [gNe] at e
  split at e
  · rename_i p p' e1 e2
    split at e
    · rename_i hk
      rw [Bool.and_eq_true] at hk
      cases e
      exact ⟨p, p', dpc_of rs e1 rx, dpc_of rs e2 ry, hk.1, hk.2, q _ _ (Same.refl _) rfl⟩
    · cases e
  · cases e

/-! ### in -/
def subS (i j : Str) : Bool := !(Builtin.Str.occurrences j i 0 j.length 1).isEmpty
def rInB (K : PySem.W.Frag) (n : Bool) : R2 := fun x y H Q => (∃ d ds, Dp K H x d ∧ (Dp K H y (.list ds) ∨ Dp K H y (.tuple ds)) ∧ okPy d = true ∧ okPy (.list ds) = true ∧ Q (.bl ((ds.any fun z => PyData.eqv z d) != n)) H)
theorem okPy_items {ds : List PyData} (h : okPy (.list ds) = true) : PyData.canLayAll0 ds = true := by
  have := (okPy_of h).1
  simpa [PyData.canLay0] using this
theorem okPy_tup {ds : List PyData} (h : okPy (.tuple ds) = true) : okPy (.list ds) = true := by
  simpa [okPy, PyData.canLay0, PyData.depth] using h
theorem op_inB (hu : X.A.units + 201 < cLine) : OpR X (compareOp .In) (rInB X.K false) := by
  intro pins s σ H x y v u Q I rx ry h
  obtain ⟨d, ds, hd, he, sd, se, q⟩ := h
  obtain ⟨as, r1⟩ := Dp.reads I d x v hd rx
  have h1 := okPy_of sd
  have hr : X.A.units + 1 + min (PyData.depthAll ds) d.depth < cLine := by have := Nat.min_le_right (PyData.depthAll ds) d.depth; omega
  rw [Bool.bne_false] at q
  rcases he with he | he
  · obtain ⟨bs, r2⟩ := Dp.reads I (.list ds) y u he ry
    exact SeqAt.in_list_reads r2 r1 (okPy_items se) h1.1 hr ⟨.bl _, H, I, rfl, q⟩
  · obtain ⟨bs, r2⟩ := Dp.reads I (.tuple ds) y u he ry
    exact SeqAt.in_tuple_reads r2 r1 (okPy_items se) h1.1 hr ⟨.bl _, H, I, rfl, q⟩
theorem op_notInB (hu : X.A.units + 201 < cLine) : OpR X (compareOp .NotIn) (rInB X.K true) := by
  intro pins s σ H x y v u Q I rx ry h
  obtain ⟨d, ds, hd, he, sd, se, q⟩ := h
  obtain ⟨as, r1⟩ := Dp.reads I d x v hd rx
  have h1 := okPy_of sd
  have hr : X.A.units + 1 + min (PyData.depthAll ds) d.depth < cLine := by have := Nat.min_le_right (PyData.depthAll ds) d.depth; omega
  rw [Bool.bne_true] at q
  rcases he with he | he
  · obtain ⟨bs, r2⟩ := Dp.reads I (.list ds) y u he ry
    exact SeqAt.notIn_list_reads r2 r1 (okPy_items se) h1.1 hr ⟨.bl _, H, I, rfl, q⟩
  · obtain ⟨bs, r2⟩ := Dp.reads I (.tuple ds) y u he ry
    exact SeqAt.notIn_tuple_reads r2 r1 (okPy_items se) h1.1 hr ⟨.bl _, H, I, rfl, q⟩
end
end Mir

set_option maxRecDepth 100000
namespace Mir
open PySem PySem.Spec PyProof.Rows L2

/-! ### dicts (keys ints and texts) -/
def dictT (S : Sto) : D → Option (List D × List D)
  | .dic ks ds => some (ks, ds)
  | .loc n => match S[n]? with
    | some (.dic ks ds) => some (ks, ds)
    | _ => none
  | _ => none
theorem dictT_of {c : Cs} {μ : Mu} {H : Hp} {S : Sto} {d : D} {ks ds : List D} {v : V} (rs : RS c μ H S) (h : dictT S d = some (ks, ds)) (r : Rep c μ H d v) :
    ∃ a kvs, v = .ref a ∧ H a = some (.dK kvs) ∧ ks.map keyD = kvs.map (fun p => some p.1) ∧ Reps c μ H ds (kvs.map (·.2)) := by
  cases d with
  | dic ks' ds' => cases h; obtain ⟨a, kvs, e, h1, _, h2, h3⟩ := r; exact ⟨a, kvs, e, h1, h2, h3⟩
  | loc n =>
    simp only [dictT] at h
    split at h
    · rename_i ks' ds' e
      cases h
      obtain ⟨a, e1, _, kvs, e2, e3, e4⟩ := rs.at e r
      exact ⟨a, kvs, e1, e2, e3, e4⟩
    · cases h
  | _ => cases h
def dLook : List D → List D → Key → Option D
  | k' :: ks, d :: ds, k => if keyD k' = some k then some d else dLook ks ds k
  | _, _, _ => none
theorem keyD_rep {c : Cs} {μ : Mu} {H : Hp} {d : D} {v : V} {k : Key} (h : keyD d = some k) (r : Rep c μ H d v) : v = kV k := by
  cases d with
  | int i => cases h; exact r
  | str i => cases h; exact r
  | _ => cases h
theorem dLook_val {c : Cs} {μ : Mu} {H : Hp} {k : Key} : ∀ {ks ds : List D} {kvs : List (Key × V)}, ks.map keyD = kvs.map (fun p => some p.1) → Reps c μ H ds (kvs.map (·.2)) →
    (dLook ks ds k = none ∧ valV kvs k = none) ∨ ∃ d v, dLook ks ds k = some d ∧ valV kvs k = some v ∧ Rep c μ H d v
  | [], [], [], _, _ => .inl ⟨rfl, rfl⟩
  | [], ds, p :: kvs, e, _ => by simp at e
  | k' :: ks, ds, [], e, _ => by simp at e
  | [], d :: ds, [], _, r => .inl ⟨rfl, rfl⟩
  | k' :: ks, [], p :: kvs, _, r => by obtain ⟨v, w, e, _⟩ : Reps c μ H [] _ := r <;> exact absurd (show p.2 :: kvs.map (·.2) = [] from r) (by simp)
  | k' :: ks, d :: ds, p :: kvs, e, ⟨v, w, e2, r1, r2⟩ => by
    simp only [List.map_cons, List.cons.injEq] at e e2
    obtain ⟨e3, e4⟩ := e2
    unfold dLook
    by_cases hk : p.1 = k
    · rw [if_pos (by rw [e.1, hk]), valV_pos hk]
      exact .inr ⟨d, p.2, rfl, rfl, by rw [e3]; exact r1⟩
    · rw [if_neg (by rw [e.1]; exact fun z => hk (Option.some.inj z)), valV_neg hk]
      exact dLook_val e.2 (by rw [e4]; exact r2)
/-- x in y -/
def gIn0 (S : Sto) (x y : D) : Option Bool := match x, y with
  | .str i, .str j => some (subS i j)
  | x, y => match dictT S y with
    | some (ks, ds) => (keyD x).map fun k => (dLook ks ds k).isSome
    | none => match pyD S x, pyC S y with
      | some p, some (.list ps) => if okPy p && okPy (.list ps) then some (ps.any fun z => PyData.eqv z p) else none
      | some p, some (.tuple ps) => if okPy p && okPy (.tuple ps) then some (ps.any fun z => PyData.eqv z p) else none
      | _, _ => none
def gIn : G2 := fun S x y => (gIn0 S x y).map D.bl
def gNotIn : G2 := fun S x y => (gIn0 S x y).map fun b => .bl (!b)
section
variable {X : L2.Cx}
def rDIn (n : Bool) : R2 := fun x y H Q => ∃ a o, y = .ref a ∧ DGet H a x o ∧ Q (.bl (o.isSome != n)) H
theorem op_dIn (hu : X.A.units + 1 < cLine) : OpR X (compareOp .In) (rDIn false) := by
  intro pins s σ H x y v u Q I rx ry ⟨a, o, e, g, q⟩
  subst e
  obtain rfl : u = Value.ref a := ry
  rw [Bool.bne_false] at q
  exact d_in hu I g rx fun s3 I3 => ⟨.bl o.isSome, H, I3, rfl, q⟩
theorem op_dNotIn (hu : X.A.units + 1 < cLine) : OpR X (compareOp .NotIn) (rDIn true) := by
  intro pins s σ H x y v u Q I rx ry ⟨a, o, e, g, q⟩
  subst e
  obtain rfl : u = Value.ref a := ry
  rw [Bool.bne_true] at q
  exact d_notIn hu I g rx fun s3 I3 => ⟨.bl (!o.isSome), H, I3, rfl, q⟩
theorem in_split {c : Cs} {μ : Mu} {H : Hp} {S : Sto} {dx dy : D} {x y : V} {b n : Bool} {Q : VK} (rs : RS c μ H S) (rx : Rep c μ H dx x) (ry : Rep c μ H dy y) (e : gIn0 S dx dy = some b) (q : Q (.bl (b != n)) H) :
    (∃ i j, x = .str i ∧ y = .str j ∧ Q (.bl (subS i j != n)) H) ∨ rDIn n x y H Q ∨ rInB c.K n x y H Q := by
  have go : (match dictT S dy with
    | some (ks, ds) => (keyD dx).map fun k => (dLook ks ds k).isSome
    | none => match pyD S dx, pyC S dy with
      | some p, some (.list ps) => if okPy p && okPy (.list ps) then some (ps.any fun z => PyData.eqv z p) else none
      | some p, some (.tuple ps) => if okPy p && okPy (.tuple ps) then some (ps.any fun z => PyData.eqv z p) else none
      | _, _ => none) = some b → rDIn n x y H Q ∨ rInB c.K n x y H Q := fun e => by
    cases ed : dictT S dy with
    | some p =>
      obtain ⟨ks, ds⟩ := p
      rw [ed] at e
      obtain ⟨k, e1, e2⟩ := Option.map_eq_some_iff.mp e
      obtain ⟨a, kvs, rfl, h1, h2, h3⟩ := dictT_of rs ed ry
      obtain rfl := keyD_rep e1 rx
      subst e2
      refine .inl ⟨a, valV kvs k, rfl, DGet.k h1, ?_⟩
      rcases dLook_val (k := k) h2 h3 with ⟨z1, z2⟩ | ⟨d, v, z1, z2, _⟩
      · rw [z2]; rw [z1] at q; exact q
      · rw [z2]; rw [z1] at q; exact q
    | none =>
      rw [ed] at e
      dsimp only at e
      cases e1 : pyD S dx with
      | none => rw [e1] at e; cases e
      | some p =>
        cases e2 : pyC S dy with
        | none => rw [e1, e2] at e; cases e
        | some p2 =>
          rw [e1, e2] at e
          have dp := dp_of _ _ _ e1 rx
          have dq := dpc_of rs e2 ry
          cases p2 with
          | list ps =>
            dsimp only at e
            split at e
            · rename_i hk
              rw [Bool.and_eq_true] at hk
              cases e
              exact .inr ⟨p, ps, dp, .inl dq, hk.1, hk.2, q⟩
            · cases e
          | tuple ps =>
            dsimp only at e
            split at e
            · rename_i hk
              rw [Bool.and_eq_true] at hk
              cases e
              exact .inr ⟨p, ps, dp, .inr dq, hk.1, okPy_tup hk.2, q⟩
            · cases e
          | _ => cases e
  cases dx with
  | str i =>
    cases dy with
    | str j => cases e; exact .inl ⟨i, j, rx, ry, q⟩
    | _ => exact .inr (go e)
  | _ => exact .inr (go (by cases dy <;> exact e))
theorem om_in (hu : X.A.units + 201 < cLine) : OpM X (compareOp .In) gIn := OpM.of (op_in_str.or ((op_dIn (by omega)).or (op_inB hu))) fun μ S dx dy d x y H Q rs rx ry e q => by
  obtain ⟨b, e1, e2⟩ := Option.map_eq_some_iff.mp e
  subst e2
  refine (in_split (n := false) (Q := Q) rs rx ry e1 (by rw [Bool.bne_false]; exact q _ _ (Same.refl _) rfl)).imp (fun ⟨i, j, a, b, z⟩ => ⟨i, j, a, b, ?_⟩) id
  rw [Bool.bne_false] at z
  exact z
theorem om_notIn (hu : X.A.units + 201 < cLine) : OpM X (compareOp .NotIn) gNotIn := OpM.of (op_notIn_str.or ((op_dNotIn (by omega)).or (op_notInB hu))) fun μ S dx dy d x y H Q rs rx ry e q => by
  obtain ⟨b, e1, e2⟩ := Option.map_eq_some_iff.mp e
  subst e2
  refine (in_split (n := true) (Q := Q) rs rx ry e1 (by rw [Bool.bne_true]; exact q _ _ (Same.refl _) rfl)).imp (fun ⟨i, j, a, b, z⟩ => ⟨i, j, a, b, ?_⟩) id
  rw [Bool.bne_true] at z
  exact z

/-! ### a[i] -/
def ixD (o : Option (List D)) (y : D) : Option D := match o, y with
  | some ds, .int i => atI ds i
  | _, _ => none
def gIx1 (S : Sto) (x y : D) : Option D := match dictT S x with
  | some (ks, ds) => match keyD y with
    | some k => dLook ks ds k
    | none => none
  | none => ixD (seqD S x) y
def gIx : G2 := fun S x y => match x, y with
  | .str z, .int i => if z.length ≤ sizeLine then (atI z.cps.toList i).map fun c => .str ⟨#[c]⟩ else none
  | x, y => gIx1 S x y
def rDGet : R2 := fun x y H Q => ∃ a v, x = .ref a ∧ DGet H a y (some v) ∧ Q v H
theorem ix_dict (hu : X.A.units + 1 < cLine) : IxR X rDGet := by
  intro value slice pins s σ H x y v u Q I rx ry ⟨a, w, ex, g, q⟩ hs
  subst ex
  obtain rfl : v = Value.ref a := rx
  exact tail_any (dict_typeIs I g) PySem.F.slot_dict_getitem.lookup (d_getItem hu I g ry fun w' s3 I3 rw' => ⟨w, H, I3, rw', q⟩) hs
theorem atI_rep {c : Cs} {μ : Mu} {H : Hp} {ds : List D} {vs : List V} {i : Int} {d : D} (r : Reps c μ H ds vs) (h : atI ds i = some d) : ∃ v, atI vs i = some v ∧ Rep c μ H d v := by
  unfold atI at h ⊢
  rw [← r.length]
  cases e : ixN ds.length i with
  | none => rw [e] at h; cases h
  | some j =>
    rw [e] at h
    exact r.get h
theorem ix_of {c : Cs} {μ : Mu} {H : Hp} {S : Sto} {dx dy d : D} {x y : V} {Q : VK} (rs : RS c μ H S) (rx : Rep c μ H dx x) (ry : Rep c μ H dy y) (e : gIx S dx dy = some d) (q : ∀ v H', Same H H' → Rep c μ H' d v → Q v H') :
    rIx c.K x y H Q ∨ rDGet x y H Q := by
  have go : gIx1 S dx dy = some d → rIx c.K x y H Q ∨ rDGet x y H Q := fun e => by
    unfold gIx1 at e
    cases ed : dictT S dx with
    | some p =>
      obtain ⟨ks, ds⟩ := p
      rw [ed] at e
      dsimp only at e
      cases ek : keyD dy with
      | none => rw [ek] at e; cases e
      | some k =>
        rw [ek] at e
        dsimp only at e
        obtain ⟨a, kvs, rfl, h1, h2, h3⟩ := dictT_of rs ed rx
        obtain rfl := keyD_rep ek ry
        rcases dLook_val (k := k) h2 h3 with ⟨z1, z2⟩ | ⟨d', v, z1, z2, r⟩
        · rw [z1] at e; cases e
        · rw [z1] at e
          cases e
          exact .inr ⟨a, v, rfl, by rw [← z2]; exact DGet.k h1, q _ _ (Same.refl _) r⟩
    | none =>
      rw [ed] at e
      dsimp only at e
      cases es : seqD S dx with
      | none => rw [es] at e; cases e
      | some ds =>
        rw [es] at e
        cases dy with
        | int i =>
          have e : atI ds i = some d := e
          obtain ⟨a, vs, rfl, r, h⟩ := seq_of rs es rx
          obtain ⟨v, e1, r1⟩ := atI_rep r e
          rcases h with h | h
          · exact .inl (.inl ⟨a, vs, i, v, rfl, ry, h, e1, q _ _ (Same.refl _) r1⟩)
          · exact .inl (.inr (.inl ⟨a, vs, i, v, rfl, ry, h, e1, q _ _ (Same.refl _) r1⟩))
        | _ => cases e
  cases dx with
  | str z =>
    cases dy with
    | int i =>
      simp only [gIx] at e
      split at e
      · obtain ⟨c', e1, e2⟩ := Option.map_eq_some_iff.mp e
        subst e2
        exact .inl (.inr (.inr ⟨z, i, c', rx, ry, by assumption, e1, q _ _ (Same.refl _) rfl⟩))
      · cases e
    | _ => exact go e
  | _ => exact go (by cases dy <;> exact e)
theorem ixm (hu : X.A.units + 1 < cLine) : IxR X (rOp (cs X) gIx) := fun value slice pins s σ H x y v u Q I rx ry ⟨μ, S, dx, dy, d, rs, r1, r2, e, q⟩ hs =>
  (ix_seq.or (ix_dict hu)) value slice pins s σ H x y v u Q I rx ry (ix_of rs r1 r2 e q) hs

/-! ### a[i:j] -/
abbrev OM := Env → Sto → R (Option Int)
abbrev rpO : Mu → Hp → Option Int → Option Int → Prop := fun _ _ a b => a = b
abbrev PDO (X : L2.Cx) (W : WX) (e : Option Expr) (m : OM) : Prop := PO X e (tG (cs X) W rpO m)
theorem PO.con {X : L2.Cx} {e : Option Expr} {t t' : TO} (h : PO X e t) (f : ∀ σ H R, t' σ H R → t σ H R) : PO X e t' := ⟨fun pins s σ H R I q => h.run pins s σ H R I (f σ H R q)⟩
variable {W : WX} {e : Expr} {lo hi : Option Expr} {m : EM} {ml mh : OM} {pos p2 : Pos}
def oNone : OM := fun _ S => .ok none S
def oSome (m : EM) : OM := fun ρ S => (m ρ S).bind fun x S => match x with
  | .int i => .ok (some i) S
  | _ => .bad
theorem pdo_none : PDO X W none oNone := PO.con po_none fun σ H Q ⟨μ, ρ, S, rs, re, p⟩ => p.ok rs rfl
theorem pdo_some (h : PD X W e m) : PDO X W (some e) (oSome m) := PO.con (po_some h) fun σ H Q h => by
  refine tG.seq (k := fun ρ x S => match x with | .int i => .ok (some i) S | _ => .bad) h fun μ ρ dx S x H1 rs re rx p => ?_
  cases dx with
  | int i => exact ⟨i, rx, p.ok rs rfl⟩
  | _ => exact False.elim p
def cutD (xs : List D) (lo hi : Option Int) : List D := (xs.drop (HT.sIx xs.length 0 lo)).take (HT.sIx xs.length xs.length hi - HT.sIx xs.length 0 lo)
theorem cut_rep {c : Cs} {μ : Mu} {H : Hp} {ds : List D} {vs : List V} {lo hi : Option Int} (r : Reps c μ H ds vs) : Reps c μ H (cutD ds lo hi) (cutV vs lo hi) := by
  unfold cutD cutV
  rw [← r.length]
  exact (r.drop _).take _
def gSl (S : Sto) (x : D) (lo hi : Option Int) : Option D := match x with
  | .str z => if z.length ≤ sizeLine then some (.str (L2.cutS z lo hi)) else none
  | .tup ds => some (.tup (cutD ds lo hi))
  | x => (seqD S x).map fun ds => .lst (cutD ds lo hi)
def rSlD (c : Cs) : V → Option Int → Option Int → Hp → VK → Prop := fun x lo hi H Q => ∃ (μ : Mu) (S : Sto) (dx d : D), RS c μ H S ∧ Rep c μ H dx x ∧ gSl S dx lo hi = some d ∧ ∀ v H', Same H H' → Rep c μ H' d v → Q v H'
theorem slm : SlR X (rSlD (cs X)) := fun pins s σ H x v vl vu lo hi sl Q I rx hs pl pu ⟨μ, S, dx, d, rs, r, e, q⟩ => by
  have go : ∀ ds, seqD S dx = some ds → (∀ es, dx ≠ .tup es) → d = .lst (cutD ds lo hi) → rSlL X.K x lo hi H Q := fun ds es nt ed => by
    subst ed
    obtain ⟨a, vs, rfl, r1, h⟩ := seq_of rs es r
    have hl : SqL X.K H a vs := by
      rcases h with h | h
      · exact h
      · exfalso
        cases dx with
        | tup es => exact nt _ rfl
        | lst es' =>
          obtain ⟨a', vs', e1, e2, _⟩ := r
          cases e1
          rcases h with h | ⟨o, its, n, hk, hc, _⟩
          · rcases h with h | ⟨o, h⟩
            · rw [e2] at h; cases h
            · rw [e2] at h; cases h
          · obtain ⟨z, its', n', _, e3⟩ := I.hok a _ e2
            have := I.kIn a o hk
            rw [e3] at this; cases this
            simp at hc
        | scr ns =>
          obtain ⟨a', e1, e2⟩ := r
          cases e1
          have hsl : SqL X.K H a (ns.map V.int) := by
            rcases e2 with ⟨⟨o, z⟩, _⟩ | z
            · exact .inl (.inr ⟨o, z⟩)
            · exact KL.seq (c := cs X) z
          obtain ⟨its, _, ⟨o, n, h1, h2, _, _⟩, _⟩ := I.list hsl
          obtain ⟨its', _, ⟨o', h1', h2', _⟩, _⟩ := I.tuple h
          rw [h1] at h1'; cases h1'
          rw [h2] at h2'; simp at h2'
        | loc n =>
          simp only [seqD] at es
          split at es
          · rename_i es' e0
            obtain ⟨a', e1, _, vs', e2, _⟩ := rs.at e0 r
            cases e1
            have hsl : SqL X.K H a vs' := SqL.of e2
            obtain ⟨its, _, ⟨o, n, h1, h2, _, _⟩, _⟩ := I.list hsl
            obtain ⟨its', _, ⟨o', h1', h2', _⟩, _⟩ := I.tuple h
            rw [h1] at h1'; cases h1'
            rw [h2] at h2'; simp at h2'
          · cases es
        | _ => cases es
    exact ⟨a, vs, rfl, hl, fun p hp => q _ _ (same_upd hp) (new_lst rs (cut_rep r1) hp)⟩
  have fin : rSlS x lo hi H Q ∨ rSlA X.K x lo hi H Q ∨ rSlL X.K x lo hi H Q := by
    cases dx with
    | str z =>
      simp only [gSl] at e
      split at e
      · cases e; exact .inl ⟨z, r, by assumption, q _ _ (Same.refl _) rfl⟩
      · cases e
    | tup ds =>
      cases e
      obtain ⟨a, vs, rfl, h1, h2, r1⟩ := r
      refine .inr (.inl ⟨a, vs, rfl, SqT.of h1, fun ⟨w1, w2⟩ => q _ _ (Same.refl _) ⟨a, vs, rfl, h1, h2, ?_⟩, fun _ p hp => q _ _ (same_upd hp) (new_tup rs (cut_rep r1) hp)⟩)
      have : cutD ds lo hi = ds := by
        unfold cutD
        rw [r1.length, w1, w2]
        simp [← r1.length]
      rw [this]
      exact r1
    | lst es => simp only [gSl, seqD, Option.map_some, Option.some.injEq] at e; exact .inr (.inr (go es rfl (fun _ z => nomatch z) e.symm))
    | scr es => simp only [gSl, seqD, Option.map_some, Option.some.injEq] at e; exact .inr (.inr (go _ rfl (fun _ z => nomatch z) e.symm))
    | loc n =>
      simp only [gSl] at e
      obtain ⟨ds, e1, e2⟩ := Option.map_eq_some_iff.mp e
      exact .inr (.inr (go ds e1 (fun _ z => nomatch z) e2.symm))
    | _ => cases e
  exact (sl_str.or (sl_tupA.or sl_list)) pins s σ H x v vl vu lo hi sl Q I rx hs pl pu fin
def mSl (m : EM) (ml mh : OM) : EM := fun ρ S => (m ρ S).bind fun x S => (ml ρ S).bind fun l S => (mh ρ S).bind fun h S => ofO (gSl S x l h) S
theorem pd_sl (he : PD X W e m) (hl : PDO X W lo ml) (hh : PDO X W hi mh) : PD X W (.Subscript e (.Slice lo hi none p2) pos) (mSl m ml mh) :=
  PE.con (pe_slice slm he hl hh) fun σ H Q h => by
    refine tG.seq (k := fun ρ x S => (ml ρ S).bind fun l S => (mh ρ S).bind fun h S => ofO (gSl S x l h) S) h fun μ ρ dx S x H1 rs re rx p => ?_
    refine ⟨μ, ρ, S, rs, re, p.bind.imp fun l H2 ⟨μ2, l', S2, x2, rs2, rl, p2⟩ => ?_⟩
    have rl : l' = l := rl
    subst rl
    refine ⟨μ2, ρ, S2, rs2, re.mono x2, p2.bind.imp fun u H3 ⟨μ3, u', S3, x3, rs3, ru, p3⟩ => ?_⟩
    have ru : u' = u := ru
    subst ru
    obtain ⟨d, e, q⟩ := p3.ofO rs3
    exact ⟨μ3, S3, dx, d, rs3, Rep.mono x3 _ _ (Rep.mono x2 _ _ rx), e, q⟩
end
end Mir

set_option maxRecDepth 100000
namespace Mir
open PySem PySem.Spec PyProof.Rows L2

/-! ### zip and enumerate over lists and tuples alike -/
inductive Kd where | l | t
def SqK (K : PySem.W.Frag) (kd : Kd) (H : Hp) (a : Addr) (xs : List V) : Prop := match kd with
  | .l => SqL K H a xs
  | .t => SqT K H a xs
def IsItK (kd : Kd) (h : Heap) (it a : Addr) (i : Nat) : Prop := match kd with
  | .l => h.IsListIter it a i
  | .t => h.IsTupleIter it a i
def IsSqK (kd : Kd) (h : Heap) (a : Addr) (items : Array Value) : Prop := match kd with
  | .l => h.IsList a items
  | .t => h.IsTuple a items
def itObj (kd : Kd) (a : Addr) : Obj := match kd with
  | .l => { cls := .type "list_iterator", data := .fields #[.ref a, .int 0 0] }
  | .t => { cls := .type "tuple_iterator", data := .fields #[.ref a, .int 0 0] }
theorem drawsK {prog : Program} {w : World} {A : Around} (kd : Kd) (hh : A.handled = none) (it a : Addr) (hne : a ≠ it) (items : Array Value) :
    Draws prog w A it [it, a] items.size (fun i v => items[i]? = some v) (fun i h => IsItK kd h it a i ∧ IsSqK kd h a items) := by
  cases kd with
  | l => exact Draws.list hh it a hne items
  | t => exact Draws.tuple hh it a hne items
theorem beginsK (kd : Kd) (a : Addr) (items : Array Value) : Begins (.ref a) (itObj kd a) fun h => IsSqK kd h a items := by
  cases kd with
  | l => exact begins_list a items
  | t => exact begins_tuple a items
theorem isItK_new {kd : Kd} {h : Heap} {it a : Addr} (e : h.get? it = some (itObj kd a)) : IsItK kd h it a 0 := by
  cases kd with
  | l => exact ⟨_, e, rfl, rfl⟩
  | t => exact ⟨_, e, rfl, rfl⟩
theorem IsItK.at {kd : Kd} {h h' : Heap} {it a : Addr} {i : Nat} (x : IsItK kd h it a i) (k : ∀ o, h.get? it = some o → h'.get? it = some o) : IsItK kd h' it a i := by
  cases kd with
  | l => exact Heap.IsListIter.at x k
  | t => exact Heap.IsTupleIter.at x k
theorem IsItK.obj {kd : Kd} {h : Heap} {it a : Addr} {i : Nat} (x : IsItK kd h it a i) : ∃ o, h.get? it = some o ∧ ∀ v, o.data ≠ .cell v := by
  cases kd with
  | l => obtain ⟨o, e, _, d⟩ := x; exact ⟨o, e, fun v z => by rw [d] at z; cases z⟩
  | t => obtain ⟨o, e, _, d⟩ := x; exact ⟨o, e, fun v z => by rw [d] at z; cases z⟩
section
variable {X : L2.Cx} {pins : List (Addr × Obj)} {σ : L2.St} {H : Hp} {s : Shared} {a : Addr} {xs ys : List V} {kd : Kd}
theorem sqK_of (I : Inv X pins σ H s) (h : SqK X.K kd H a xs) : ∃ its : List Value, Vals xs its ∧ IsSqK kd s.heap a its.toArray ∧ xs.length ≤ sizeLine ∧ a < s.heap.objs.size := by
  cases kd with
  | l =>
    obtain ⟨its, r, p, z⟩ := I.list h
    exact ⟨its, r, p.isList, z, p.lt⟩
  | t =>
    obtain ⟨its, r, p, z⟩ := I.tuple h
    exact ⟨its, r, p, z, p.lt⟩
theorem sqK_inj (I : Inv X pins σ H s) (h : SqK X.K kd H a xs) (h' : SqK X.K kd H a ys) : xs = ys := by
  cases kd with
  | l => exact I.list_inj h h'
  | t => exact I.tuple_inj h h'
end
/-- pairs of the items of a and b -/
def ItzK (K : PySem.W.Frag) (k1 k2 : Kd) (a b : Addr) : It :=
  ⟨fun i H => ∃ (xs ys : List V) (x y : V), SqK K k1 H a xs ∧ SqK K k2 H b ys ∧ xs[i]? = some x ∧ ys[i]? = some y,
    fun i H v H' => ∃ T x y, v = .ref T ∧ H T = none ∧ H' = upd H T (.tup [x, y]) ∧ (∀ xs, SqK K k1 H a xs → xs[i]? = some x) ∧ ∀ ys, SqK K k2 H b ys → ys[i]? = some y,
    fun i H => ∃ xs ys : List V, SqK K k1 H a xs ∧ SqK K k2 H b ys ∧ i = min xs.length ys.length⟩
theorem turn_zipK {P : Program} {w : World} {K : PySem.W.Frag} {elts : List Expr} {kk : Nat} {tpos : Pos} {k1 k2 : Kd} {a b z TI TO i1 i2 : Addr} (D : ZipSep2 z TI TO i1 i2 [i1, a] [i2, b]) (na : a ≠ i1) (nb : b ≠ i2) :
    Turn P w K (.Tuple elts kk tpos) (ItzK K k1 k2 a b) [z, TI, TO, i1, i2] z (fun i h => IsZip h z TI TO .none ∧ IsTupOf2 h TI (.ref i1) (.ref i2) ∧ (∃ x y, IsTupOf2 h TO x y) ∧ IsItK k1 h i1 a i ∧ IsItK k2 h i2 b i) where
  mem := by simp
  obj := fun i h st c hc => by
    obtain ⟨hz, hTI, ⟨x, y, hTO⟩, h1, h2⟩ := st
    have e' : c = z ∨ c = TI ∨ c = TO ∨ c = i1 ∨ c = i2 := by simpa using hc
    rcases e' with q | q | q | q | q
    · rw [q]; exact ⟨_, hz, fun v q => nomatch q⟩
    · rw [q]; exact ⟨_, hTI, fun v q => nomatch q⟩
    · rw [q]; exact ⟨_, hTO, fun v q => nomatch q⟩
    · rw [q]; exact h1.obj
    · rw [q]; exact h2.obj
  keep := fun i h h' st k => by
    obtain ⟨hz, hTI, ⟨x, y, hTO⟩, h1, h2⟩ := st
    exact ⟨k z (by simp) _ hz, k TI (by simp) _ hTI, ⟨x, y, k TO (by simp) _ hTO⟩, h1.at fun o q => k i1 (by simp) o q, h2.at fun o q => k i2 (by simp) o q⟩
  item := by
    intro X hP hw hK hc i pins s σ H E I hf st hg
    subst hP hw hK
    obtain ⟨hz, hTI, ⟨x0, y0, hTO⟩, h1, h2⟩ := st
    obtain ⟨xs, ys, x, y, hqx, hqy, hx, hy⟩ := hg
    obtain ⟨its, rv, p, _, la⟩ := sqK_of I hqx
    obtain ⟨its2, rv2, p2, _, lb⟩ := sqK_of I hqy
    obtain ⟨u, hu, ru⟩ := rv.get hx
    obtain ⟨u2, hu2, ru2⟩ := rv2.get hy
    have hzl : z < s.heap.objs.size := Heap.lt_size hz
    have hh : X.A.in1.handled = none := I.ok.hd hc
    have D1 := drawsK (prog := X.prog) (w := X.w) k1 hh i1 a na its.toArray
    have D2 := drawsK (prog := X.prog) (w := X.w) k2 hh i2 b nb its2.toArray
    have l1 : i < its.toArray.size := by simpa using (List.getElem?_eq_some_iff.mp hu).1
    have l2 : i < its2.toArray.size := by simpa using (List.getElem?_eq_some_iff.mp hu2).1
    refine wpAny_pyNext_zipD2_item D D1 D2 hz hTI hTO ⟨h1, p⟩ ⟨h2, p2⟩ l1 l2 fun x1 x2 h' tk y1 y2 b1 b2 d1 d2 b5 b6 hk => ?_
    have e1 : x1 = u := by
      have y1 : its.toArray[i]? = some x1 := y1
      rw [List.getElem?_toArray, hu] at y1
      exact (Option.some.inj y1).symm
    have e2 : x2 = u2 := by
      have y2 : its2.toArray[i]? = some x2 := y2
      rw [List.getElem?_toArray, hu2] at y2
      exact (Option.some.inj y2).symm
    subst e1 e2
    refine ⟨_, rfl, wpAny_letOwnedTupleGo_zip (s := { s with heap := h', toks := tk }) b1 fun h'' z'' sb => ?_⟩
    have hT2 : h''.get? s.heap.objs.size = some { cls := .type "tuple", data := .seq #[x1, x2] } := (sb.2 _ (Nat.ne_of_gt hzl)).trans b5
    have new : ObjOk X.prog X.w (upd H s.heap.objs.size (.tup [x, y])) h'' s.heap.objs.size (.tup [x, y]) :=
      ⟨by show 2 ≤ sizeLine; decide, [x1, x2], .cons ru (.cons ru2 .nil), ⟨_, hT2, rfl, _, rfl⟩⟩
    have I1 : Inv X pins σ (upd H s.heap.objs.size (.tup [x, y])) { s with heap := h'', toks := tk } :=
      I.turnedNew (t' := tk) (ch := [z, TI, TO, i1, i2]) (fun c o hb q => (sb.2 c (fun q' => hb (by simp [q']))).trans (hk c o (fun q' => hb (by simp [q'])) (fun q' => hb (by simp [q'])) (fun q' => hb (by simp [q'])) (fun q' => hb (by simp [q'])) q)) hf (Nat.le_refl _) new
    have zz : i1 ≠ z := fun e => D.zf1 (by simp [e])
    have zz2 : i2 ≠ z := fun e => D.zf2 (by simp [e])
    refine ⟨.ref s.heap.objs.size, _, I1, rfl, ⟨_, x, y, rfl, I.hok.fresh (Nat.le_refl _), rfl, fun l hl => by rw [sqK_inj I hl hqx]; exact hx, fun l hl => by rw [sqK_inj I hl hqy]; exact hy⟩, ⟨z'', ?_, ⟨x1, x2, ?_⟩, ?_, ?_⟩, fun c hcm => ?_⟩
    · exact (sb.2 _ D.TIz).trans (hk _ _ D.TIz D.TITO D.TIi1 D.TIi2 hTI)
    · exact (sb.2 _ D.TOz).trans b2
    · exact d1.1.at fun o q => (sb.2 _ zz).trans q
    · exact d2.1.at fun o q => (sb.2 _ zz2).trans q
    · have hlt : c < s.heap.objs.size := by
        have e' : c = z ∨ c = TI ∨ c = TO ∨ c = i1 ∨ c = i2 := by simpa using hcm
        rcases e' with q | q | q | q | q
        · rw [q]; exact hzl
        · rw [q]; exact Heap.lt_size hTI
        · rw [q]; exact Heap.lt_size hTO
        · rw [q]; obtain ⟨_, e1, _⟩ := h1.obj; exact Heap.lt_size e1
        · rw [q]; obtain ⟨_, e2, _⟩ := h2.obj; exact Heap.lt_size e2
      rw [upd_ne (Nat.ne_of_lt hlt)]
      exact (hf c hcm).1
  done := by
    intro X hP hw hK hc i pins s σ H E I hf st hg
    subst hP hw hK
    obtain ⟨hz, hTI, ⟨x0, y0, hTO⟩, h1, h2⟩ := st
    obtain ⟨xs, ys, hqx, hqy, hend⟩ := hg
    obtain ⟨its, rv, p, _, la⟩ := sqK_of I hqx
    obtain ⟨its2, rv2, p2, _, lb⟩ := sqK_of I hqy
    have hh : X.A.in1.handled = none := I.ok.hd hc
    have D1 := drawsK (prog := X.prog) (w := X.w) k1 hh i1 a na its.toArray
    have D2 := drawsK (prog := X.prog) (w := X.w) k2 hh i2 b nb its2.toArray
    have z1 : its.toArray.size = xs.length := by simpa using rv.length.symm
    have z2 : its2.toArray.size = ys.length := by simpa using rv2.length.symm
    exact wpAny_pyNext_zipD2_end D D1 D2 hz hTI hTO ⟨h1, p⟩ ⟨h2, p2⟩ (by omega) (by omega) (by omega) fun h' tk hk => ⟨rfl, I.turnedL (t' := tk) (ch := [z, TI, TO, i1, i2]) (fun c o hb q =>
      hk c o (fun q' => hb (by simp [q'])) (fun q' => hb (by simp [q'])) (fun q' => hb (by simp [q'])) (fun q' => hb (by simp [q'])) q) hf⟩
  self := fun A i s Q E st h => wpAny_pyIter_zip st.1 h
/-- enumerate from k₀ -/
def IteK (K : PySem.W.Frag) (k : Kd) (k₀ : Int) (a : Addr) : It :=
  ⟨fun i H => ∃ (xs : List V) (x : V), SqK K k H a xs ∧ xs[i]? = some x, fun i H v H' => ∃ T x, v = .ref T ∧ H T = none ∧ H' = upd H T (.tup [.int (k₀ + (i : Nat)), x]) ∧ ∀ xs, SqK K k H a xs → xs[i]? = some x,
    fun i H => ∃ xs : List V, SqK K k H a xs ∧ i = xs.length⟩
theorem turn_enumK {P : Program} {w : World} {K : PySem.W.Frag} {elts : List Expr} {kk : Nat} {tpos : Pos} {k : Kd} {k₀ : Int} (a e it : Addr) (na : a ≠ it) (nae : e ≠ a) :
    Turn P w K (.Tuple elts kk tpos) (IteK K k k₀ a) [e, it] e (fun i h => (∃ old, IsEnum h e it (k₀ + ((i : Nat) : Int)) old) ∧ IsItK k h it a i ∧ e ≠ it) where
  mem := by simp
  obj := fun i h st b hb => by
    obtain ⟨⟨old, he⟩, hi, _⟩ := st
    have e' : b = e ∨ b = it := by simpa using hb
    rcases e' with z | z
    · rw [z]; exact ⟨_, he, fun v q => nomatch q⟩
    · rw [z]; exact hi.obj
  keep := fun i h h' st k => let ⟨⟨old, he⟩, hi, hne⟩ := st; ⟨⟨old, k e (by simp) _ he⟩, hi.at fun o q => k it (by simp) o q, hne⟩
  item := by
    intro X hP hw hK hc i pins s σ H E I hf st hg
    subst hP hw hK
    obtain ⟨⟨old, he⟩, hit, hne⟩ := st
    obtain ⟨xs, x, hq, hx⟩ := hg
    obtain ⟨its, rv, p, hz, la⟩ := sqK_of I hq
    obtain ⟨u, hu, ru⟩ := rv.get hx
    have hel : e < s.heap.objs.size := Heap.lt_size he
    have hil : it < s.heap.objs.size := by obtain ⟨_, q, _⟩ := hit.obj; exact Heap.lt_size q
    have hh : X.A.in1.handled = none := I.ok.hd hc
    have D := drawsK (prog := X.prog) (w := X.w) k hh it a na its.toArray
    have l1 : i < its.toArray.size := by simpa using (List.getElem?_eq_some_iff.mp hu).1
    refine wpAny_pyNext_enum_itemC D he ⟨hit, p⟩ l1 hne (by simp [hne, nae]) fun x' h' tk hP ho st' hT hsz hk => ?_
    have e1 : x' = u := by
      have y1 : its.toArray[i]? = some x' := hP
      rw [List.getElem?_toArray, hu] at y1
      exact (Option.some.inj y1).symm
    subst e1
    refine ⟨_, rfl, wpAny_letOwnedTupleGo_enum (s := { s with heap := h', toks := tk + 1 }) ho fun h'' he' sb => ?_⟩
    have hT2 : h''.get? s.heap.objs.size = some { cls := .type "tuple", data := .seq #[.int (k₀ + (i : Nat)) tk, x'] } := (sb.2 _ (Nat.ne_of_gt hel)).trans hT
    have new : ObjOk X.prog X.w (upd H s.heap.objs.size (.tup [.int (k₀ + (i : Nat)), x])) h'' s.heap.objs.size (.tup [.int (k₀ + (i : Nat)), x]) :=
      ⟨by show 2 ≤ sizeLine; decide, [.int (k₀ + (i : Nat)) tk, x'], .cons ⟨_, rfl⟩ (.cons ru .nil), ⟨_, hT2, rfl, _, rfl⟩⟩
    have I1 : Inv X pins σ (upd H s.heap.objs.size (.tup [.int (k₀ + (i : Nat)), x])) { s with heap := h'', toks := tk + 1 } :=
      I.turnedNew (ch := [e, it]) (fun b ob hb q => (sb.2 b (fun z => hb (by simp [z]))).trans (hk b ob (fun z => hb (by simp [z])) (fun z => hb (by simp [z])) q)) hf (Nat.le_refl _) new
    refine ⟨.ref s.heap.objs.size, _, I1, rfl, ⟨_, x, rfl, I.hok.fresh (Nat.le_refl _), rfl, fun ys hy => by rw [sqK_inj I hy hq]; exact hx⟩, ⟨⟨x', ?_⟩, st'.1.at fun o q => (sb.2 it (Ne.symm hne)).trans q, hne⟩, fun b hb => ?_⟩
    · have e1 : k₀ + ((i + 1 : Nat) : Int) = k₀ + (i : Int) + 1 := by omega
      rw [e1]; exact he'
    · have hb' : b < s.heap.objs.size := by
        have e' : b = e ∨ b = it := by simpa using hb
        rcases e' with z | z
        · rw [z]; exact hel
        · rw [z]; exact hil
      rw [upd_ne (Nat.ne_of_lt hb')]
      exact (hf b hb).1
  done := by
    intro X hP hw hK hc i pins s σ H E I hf st hg
    subst hP hw hK
    obtain ⟨⟨old, he⟩, hit, hne⟩ := st
    obtain ⟨xs, hq, hx⟩ := hg
    obtain ⟨its, rv, p, hz, la⟩ := sqK_of I hq
    have hh : X.A.in1.handled = none := I.ok.hd hc
    have D := drawsK (prog := X.prog) (w := X.w) k hh it a na its.toArray
    obtain ⟨f0, f1, f2, f3, f4, f5⟩ := hf it (by simp)
    have z1 : its.toArray.size = xs.length := by simpa using rv.length.symm
    have ei : i = its.toArray.size := by omega
    subst ei
    exact wpAny_pyNext_enum_endD D he ⟨hit, p⟩ fun h' eb => ⟨rfl, I.turned (t' := s.toks) (fun b o hb q => eb b o hb q) f0 f1 f3 f4 f5⟩
  self := fun A i s Q E st h => let ⟨⟨_, he⟩, _⟩ := st; wpAny_pyIter_enum he h
section
variable {X : L2.Cx}
def iZipK (K : PySem.W.Frag) (ta : TA) : TI := fun σ H R => ta σ H fun vs H1 => ∃ k1 k2 a b xs ys, vs = [.ref a, .ref b] ∧ SqK K k1 H1 a xs ∧ SqK K k2 H1 b ys ∧ R (ItzK K k1 k2 a b) H1
theorem pi_zipK {e e2 : Expr} {ta : TA} {p pos tpos : Pos} {elts : List Expr} {kk : Nat} (hg : Gl X "zip") (hm : X.mg "zip" = none) (ha : PA X [e, e2] ta)
    (hs : starEach [e, e2] X.env = (false, eval e X.env) :: starEach [e2] X.env := by rfl) (hpl : (backTo pos (starEach [e2] X.env)).any (·.1) = false := by rfl) :
    PI X (.Tuple elts kk tpos) (.Call (.Name "zip" p) [e, e2] [] pos) (iZipK X.K ta) := by
  refine ⟨fun pins s σ H R I h => ?_⟩
  refine Call_ (ld_blt I hg hm PyProof.Rows.boot_zip (PyProof.Rows.callWith_type1 (thn (ha.run pos pins s σ H _ I h) fun us s1 ⟨vs, H1, I1, r1, q1⟩ => ?_) hs hpl))
  obtain ⟨k1, k2, a, b, xs, ys, ex, hqx, hqy, q⟩ := q1
  subst ex
  cases r1 with
  | cons r rr =>
    cases rr with
    | cons r' rr =>
      cases rr
      cases r
      cases r'
      obtain ⟨its, rv, p1, _, la⟩ := sqK_of I1 hqx
      obtain ⟨its2, rv2, p2, _, lb⟩ := sqK_of I1 hqy
      refine zip_begins2 (beginsK k1 a its.toArray) (beginsK k2 b its2.toArray) p1 p2 fun h' hz hTI hTO h1 h2 hsz hk => wpAny_pyIter_zip hz ?_
      have I2 : Inv X pins σ H1 { s1 with heap := h' } := I1.kept (t' := s1.toks) hk
      have D : ZipSep2 (s1.heap.objs.size + 4) (s1.heap.objs.size + 2) (s1.heap.objs.size + 3) s1.heap.objs.size (s1.heap.objs.size + 1) [s1.heap.objs.size, a] [s1.heap.objs.size + 1, b] :=
        zip_sep2 (fp1 := [a]) (fp2 := [b]) (by simpa using la) (by simpa using lb)
      refine ⟨s1.heap.objs.size + 4, [s1.heap.objs.size + 4, s1.heap.objs.size + 2, s1.heap.objs.size + 3, s1.heap.objs.size, s1.heap.objs.size + 1], _, _, H1, rfl, I2,
        turn_zipK D (Nat.ne_of_lt la) (Nat.ne_of_lt (Nat.lt_succ_of_lt lb)), ⟨hz, hTI, ⟨_, _, hTO⟩, isItK_new h1, isItK_new h2⟩, fun c hcm => ?_, q⟩
      have e' : c = s1.heap.objs.size + 4 ∨ c = s1.heap.objs.size + 2 ∨ c = s1.heap.objs.size + 3 ∨ c = s1.heap.objs.size ∨ c = s1.heap.objs.size + 1 := by simpa using hcm
      have hle : s1.heap.objs.size ≤ c := by
        rcases e' with z | z | z | z | z
        · rw [z]; exact Nat.le_add_right _ _
        · rw [z]; exact Nat.le_add_right _ _
        · rw [z]; exact Nat.le_add_right _ _
        · rw [z]; exact Nat.le_refl _
        · rw [z]; exact Nat.le_add_right _ _
      exact I1.fpOk hle (I1.hok.fresh hle)
end
end Mir

set_option maxRecDepth 100000
namespace Mir
open PySem PySem.Spec PyProof.Rows L2

set_option maxHeartbeats 1000000 in
theorem meets_enumerate_new1 {v : Value} {o : Obj} {H : Heap → Prop} (B : Begins v o H) :
    Meets (Builtin.«enumerate.__new__» ⟨[.type "enumerate", v], []⟩) (fun _ R s => H s.heap ∧
      R (.ok (.ret (.ref (s.heap.push o).objs.size))) { s with heap := (s.heap.push o).push { cls := .type "enumerate", data := .fields #[.none, .bool false, .ref s.heap.objs.size, rawInt 0, .none, .none] } }) :=
  .of_wp fun prog w A R s h => by
    obtain ⟨hp, g, d, tk, os⟩ := s; obtain ⟨h1, h⟩ := h
    have hsub := sub_enumerate
    have q1 : ∀ {A' : Around} {E : Value → Shared → Prop} {Q : Value → Shared → Prop}, Q (.ref hp.objs.size) ⟨hp.push o, g, d, tk, os⟩ → wpAny (model prog w) A' (pyIter v) Q E ⟨hp, g, d, tk, os⟩ :=
      fun q => B.iter prog w _ _ ⟨hp, g, d, tk, os⟩ _ h1 q
    wp_walk using q1
    refine wpAny_stack_any fun st => wpAny_pure ?_
    split
    · rename_i c _ _ _ _ _
      cases (c == Value.type "enumerate")
      · wp_walk using q1
        exact ⟨_, rfl, h⟩
      · wp_walk using q1
        exact ⟨_, rfl, h⟩
    · wp_walk using q1
      exact ⟨_, rfl, h⟩
theorem enum_begins1 {prog : Program} {w : World} {A : Around} {E : Value → Shared → Prop} {s : Shared} {v : Value} {o : Obj} {H : Heap → Prop} {Q : Value → Shared → Prop} (B : Begins v o H) (h1 : H s.heap)
    (h : ∀ h', IsEnum h' (s.heap.objs.size + 1) s.heap.objs.size 0 .none → h'.get? s.heap.objs.size = some o → h'.objs.size = s.heap.objs.size + 2 →
      (∀ b o, s.heap.get? b = some o → h'.get? b = some o) → Q (.ref (s.heap.objs.size + 1)) { s with heap := h' }) :
    wpAny (model prog w) A (call (.type "enumerate") [v]) Q E s := by
  refine callType_new F.called_enumerate (by decide) (F.typeCall_enumerate_1 _) (F.newCall_enumerate_1 _) (fun obj => F.args_object_init_2 obj _) F.entry_enumerate_new
    (meets_enumerate_new1 B) ⟨h1, ?_⟩
  have hz : (s.heap.push o).objs.size = s.heap.objs.size + 1 := Heap.size_push ..
  show _ ∧ _
  rw [hz]
  have he : IsEnum ((s.heap.push o).push { cls := .type "enumerate", data := .fields #[.none, .bool false, .ref s.heap.objs.size, rawInt 0, .none, .none] }) (s.heap.objs.size + 1) s.heap.objs.size 0 .none := by
    have := Heap.get?_push_size (s.heap.push o) (o := { cls := .type "enumerate", data := .fields #[.none, .bool false, .ref s.heap.objs.size, rawInt 0, .none, .none] }) rfl
    rw [hz] at this; exact this
  refine ⟨⟨_, he, rfl⟩, h _ he (Heap.get?_push_of_some _ (Heap.get?_push_size _ B.free)) (by rw [Heap.size_push, hz]) fun b o x => Heap.get?_push_of_some _ (Heap.get?_push_of_some _ x)⟩

section
variable {X : L2.Cx}
def iEnumK (K : PySem.W.Frag) (ta : TA) : TI := fun σ H R => ta σ H fun vs H1 => ∃ k a xs, vs = [.ref a] ∧ SqK K k H1 a xs ∧ R (IteK K k 0 a) H1
theorem pi_enumK {e : Expr} {ta : TA} {p pos tpos : Pos} {elts : List Expr} {kk : Nat} (hg : Gl X "enumerate") (hm : X.mg "enumerate" = none) (ha : PA X [e] ta) (hs : starEach [e] X.env = [(false, eval e X.env)] := by rfl) :
    PI X (.Tuple elts kk tpos) (.Call (.Name "enumerate" p) [e] [] pos) (iEnumK X.K ta) := by
  refine ⟨fun pins s σ H R I h => ?_⟩
  refine Call_ (ld_blt I hg hm boot_enumerate (PyProof.Rows.callWith_type1 (thn (ha.run pos pins s σ H _ I h) fun us s1 ⟨vs, H1, I1, r1, q1⟩ => ?_) hs rfl))
  obtain ⟨k, a, xs, ex, hq, q⟩ := q1
  subst ex
  cases r1 with
  | cons r rr =>
    cases rr
    cases r
    obtain ⟨its, rv, p', hz, la⟩ := sqK_of I1 hq
    refine enum_begins1 (beginsK k a its.toArray) p' fun h' he hit hsz hk => wpAny_pyIter_enum he ?_
    have I2 : Inv X pins σ H1 { s1 with heap := h' } := I1.kept (t' := s1.toks) hk
    refine ⟨s1.heap.objs.size + 1, [s1.heap.objs.size + 1, s1.heap.objs.size], _, _, H1, rfl, I2, turn_enumK a (s1.heap.objs.size + 1) s1.heap.objs.size (Nat.ne_of_lt la) (Nat.ne_of_gt (Nat.lt_succ_of_lt la)), ⟨⟨.none, he⟩, isItK_new hit, Nat.succ_ne_self _⟩, fun b hb => ?_, q⟩
    have e' : b = s1.heap.objs.size + 1 ∨ b = s1.heap.objs.size := by simpa using hb
    have hle : s1.heap.objs.size ≤ b := by
      rcases e' with z | z
      · rw [z]; exact Nat.le_add_right _ _
      · rw [z]; exact Nat.le_refl _
    exact I1.fpOk hle (I1.hok.fresh hle)
/-- anything that is a list, a tuple or a text -/
def iAny (K : PySem.W.Frag) (tl : TE) : TI := fun σ H R => tl σ H fun x H1 => (∃ a, x = .ref a ∧ (∃ xs, SqL K H1 a xs) ∧ R (Itl K a) H1) ∨ (∃ a, x = .ref a ∧ (∃ xs, SqT K H1 a xs) ∧ R (Itt K a) H1) ∨ ∃ z, x = .str z ∧ R (Its z) H1
theorem pi_any {tg l : Expr} {tl : TE} (hl : PE X l tl) : PI X tg l (iAny X.K tl) := by
  refine ⟨fun pins s σ H R I h => ?_⟩
  refine thn (hl.run pins s σ H _ I h) fun v s1 ⟨x, H1, I1, r1, q1⟩ => ?_
  have pe : ∀ x', x' = x → PE { X with } l tl := fun _ _ => hl
  rcases q1 with ⟨a, rfl, ⟨xs, hq⟩, q⟩ | ⟨a, rfl, ⟨xs, hq⟩, q⟩ | ⟨z, rfl, q⟩
  · cases r1
    obtain ⟨its, rv, p, hz⟩ := I1.list hq
    refine wpAny_pyIter_list p.isList ?_
    refine ⟨s1.heap.objs.size, [s1.heap.objs.size], _, _, H1, rfl, I1.kept (t' := s1.toks) fun b o e => Heap.get?_push_of_some _ e, turn_list a _, ⟨_, Heap.get?_push_size _ rfl, rfl, rfl⟩, fun b hb => ?_, q⟩
    have e : b = s1.heap.objs.size := by simpa using hb
    subst e
    exact I1.fpOk (Nat.le_refl _) (I1.hok.fresh (Nat.le_refl _))
  · cases r1
    obtain ⟨its, rv, p, hz⟩ := I1.tuple hq
    refine wpAny_pyIter_tuple (show s1.heap.IsTuple a its.toArray from p) ?_
    refine ⟨s1.heap.objs.size, [s1.heap.objs.size], _, _, H1, rfl, I1.kept (t' := s1.toks) fun b o e => Heap.get?_push_of_some _ e, turn_tuple a _, ⟨_, Heap.get?_push_size _ rfl, rfl, rfl⟩, fun b hb => ?_, q⟩
    have e : b = s1.heap.objs.size := by simpa using hb
    subst e
    exact I1.fpOk (Nat.le_refl _) (I1.hok.fresh (Nat.le_refl _))
  · obtain ⟨t, rfl⟩ := r1
    cases ha : z.cps.all (· < 128)
    · refine wpAny_pyIter_wide ha ?_
      exact pi_one (tk := s1.toks) I1 _ (turn_str _ z t "str_iterator" (.inr rfl)) ⟨_, Heap.get?_push_size _ rfl, rfl, rfl⟩ q
    · refine wpAny_pyIter_ascii ha ?_
      exact pi_one (tk := s1.toks) I1 _ (turn_str _ z t "str_ascii_iterator" (.inl rfl)) ⟨_, Heap.get?_push_size _ rfl, rfl, rfl⟩ q
end

/-! ### the sources -/
abbrev Its' := List D × List (Nat × List D)
/-- items of a value: those of a cell must stand while they are walked -/
def itemsD (S : Sto) : D → Option (List D × List (Nat × List D))
  | .tup ds => some (ds, [])
  | .lst ds => some (ds, [])
  | .scr ns => some (ns.map D.int, [])
  | .str z => some (z.cps.toList.map fun c => .str ⟨#[c]⟩, [])
  | .loc n => match S[n]? with
    | some (.lst ds) => some (ds, [(n, ds)])
    | _ => none
  | _ => none
def mIter (m : EM) : IM := fun ρ S => (m ρ S).bind fun x S => ofO (itemsD S x) S
/-- a value that is a list or tuple, as the layer's kinds -/
theorem sq_of {c : Cs} {μ : Mu} {H : Hp} {S : Sto} {d : D} {ds : List D} {g : List (Nat × List D)} {v : V} (rs : RS c μ H S) (h : itemsD S d = some (ds, g)) (hn : ∀ z, d ≠ .str z) (r : Rep c μ H d v) :
    ∃ k a vs, v = .ref a ∧ Reps c μ H ds vs ∧ SqK c.K k H a vs ∧
      ∀ μ' H' S', Mo μ H μ' H' → RS c μ' H' S' → (∀ p ∈ g, S'[p.1]? = some (.lst p.2)) → ∃ ws, Reps c μ' H' ds ws ∧ SqK c.K k H' a ws := by
  cases d with
  | tup es =>
    cases h
    obtain ⟨a, vs, e, h1, n1, h2⟩ := r
    exact ⟨.t, a, vs, e, h2, SqT.of h1, fun μ' H' S' x _ _ => ⟨vs, Reps.mo x _ _ h2, SqT.of (x.no _ _ h1 n1).1⟩⟩
  | lst es =>
    cases h
    obtain ⟨a, vs, e, h1, n1, h2⟩ := r
    exact ⟨.l, a, vs, e, h2, SqL.of h1, fun μ' H' S' x _ _ => ⟨vs, Reps.mo x _ _ h2, SqL.of (x.no _ _ h1 n1).1⟩⟩
  | scr ns =>
    cases h
    obtain ⟨a, e, h1⟩ := r
    rcases h1 with ⟨⟨ob, h1⟩, n1⟩ | h1
    · exact ⟨.l, a, _, e, reps_ints ns, .inl (.inr ⟨ob, h1⟩), fun μ' H' S' x _ _ => ⟨_, reps_ints ns, .inl (.inr ⟨ob, (x.no _ _ h1 n1).1⟩)⟩⟩
    · exact ⟨.l, a, _, e, reps_ints ns, .inr h1, fun μ' H' S' x _ _ => ⟨_, reps_ints ns, .inr h1⟩⟩
  | str z => exact absurd rfl (hn z)
  | loc n =>
    simp only [itemsD] at h
    split at h
    · rename_i es e
      cases h
      obtain ⟨a, e1, e0, vs, e2, e3⟩ := rs.at e r
      refine ⟨.l, a, vs, e1, e3, SqL.of e2, fun μ' H' S' x rs' k => ?_⟩
      have e4 := x.ix n a e0
      obtain ⟨ws, e5, e6⟩ := rs'.ob n _ a (k (n, ds) (by simp)) e4
      exact ⟨ws, e6, SqL.of e5⟩
    · cases h
  | _ => cases h
theorem walk_of_sq {c : Cs} {μ : Mu} {H : Hp} {ds : List D} {o : List (Nat × List D)} {a : Addr} {k : Kd} {J : It} (hJ : J = match k with | .l => Itl c.K a | .t => Itt c.K a)
    (q : ∀ μ' H' S', Mo μ H μ' H' → RS c μ' H' S' → (∀ p ∈ o, S'[p.1]? = some (.lst p.2)) → ∃ ws, Reps c μ' H' ds ws ∧ SqK c.K k H' a ws) : DWalk c μ H (ds, o) J := by
  refine ⟨fun H' => ∃ ws, ws.length = ds.length ∧ SqK c.K k H' a ws, fun i H v H' => H' = H ∧ ∀ ws, SqK c.K k H a ws → ws[i]? = some v, ⟨fun i H hi ⟨ws, hl, h⟩ => ?_, fun H ⟨ws, hl, h⟩ => ?_, fun i H v H' hi ⟨ws, hl, h⟩ y => ?_⟩, fun μ' H' S' x rs ke => ?_, fun i μ' H1 S' v H2 hi x rs ke ⟨e, y⟩ => ?_⟩
  · have hi : i < ds.length := hi
    subst hJ
    cases k with
    | l => exact ⟨ws, ws[i]'(by omega), h, by simp⟩
    | t => exact ⟨ws, ws[i]'(by omega), h, by simp⟩
  · subst hJ
    cases k with
    | l => exact ⟨ws, h, by show ws.length ≤ ds.length; omega⟩
    | t => exact ⟨ws, h, by show ws.length ≤ ds.length; omega⟩
  · subst hJ
    cases k with
    | l => exact y
    | t => exact y
  · obtain ⟨ws, r, s⟩ := q μ' H' S' x rs ke
    exact ⟨ws, r.length.symm, s⟩
  · subst e
    obtain ⟨ws, r, s⟩ := q μ' _ S' x rs ke
    have hi : i < ds.length := hi
    refine ⟨Same.refl _, ds[i], List.getElem?_eq_getElem hi, ?_⟩
    obtain ⟨w', e1, r1⟩ := r.get (i := i) (List.getElem?_eq_getElem hi)
    rw [y ws s] at e1
    cases e1
    exact r1
section
variable {X : L2.Cx} {W : WX} {tg e e2 : Expr} {m m2 : EM} {pos p : Pos}
theorem pdi_any (he : PD X W e m) : PDI X W tg e (mIter m) := PI.con (pi_any he) fun σ H R h => by
  refine tG.seq (k := fun ρ x S => ofO (itemsD S x) S) h fun μ ρ dx S x H1 rs re rx p => ?_
  obtain ⟨⟨ds, o⟩, e, q⟩ := p.ofO rs
  by_cases hz : ∃ z, dx = .str z
  · obtain ⟨z, rfl⟩ := hz
    cases e
    refine .inr (.inr ⟨z, rx, q _ _ (Same.refl _) ?_⟩)
    show DWalk (cs X) μ H1 (z.cps.toList.map fun c => D.str ⟨#[c]⟩, []) (Its z)
    have hl : (z.cps.toList.map fun c => D.str ⟨#[c]⟩).length = z.cps.size := by simp
    refine ⟨fun _ => True, fun i H v H' => H' = H ∧ ∃ c, z.cps[i]? = some c ∧ v = .str ⟨#[c]⟩, by rw [show (_ : Its').1 = z.cps.toList.map fun c => D.str ⟨#[c]⟩ from rfl, hl]; exact walk_str, fun _ _ _ _ _ _ => True.intro, fun i μ' H2 S' v H3 hi x rs ke y => ?_⟩
    obtain ⟨e, c, e1, e2⟩ := y
    subst e e2
    refine ⟨Same.refl _, .str ⟨#[c]⟩, ?_, rfl⟩
    show (z.cps.toList.map fun c => D.str ⟨#[c]⟩)[i]? = _
    rw [List.getElem?_map]
    have : z.cps.toList[i]? = some c := by simpa using e1
    rw [this]
    rfl
  · obtain ⟨k, a, vs, rfl, r1, s1, st⟩ := sq_of rs e (fun z hz' => hz ⟨z, hz'⟩) rx
    cases k with
    | l => exact .inl ⟨a, rfl, ⟨vs, s1⟩, q _ _ (Same.refl _) (walk_of_sq (k := .l) rfl st)⟩
    | t => exact .inr (.inl ⟨a, rfl, ⟨vs, s1⟩, q _ _ (Same.refl _) (walk_of_sq (k := .t) rfl st)⟩)
/-- range -/
def rngD (lo : Int) (n : Nat) : List D := (List.range n).map fun i => D.int (lo + (i : Nat))
def okR (i : Int) : Bool := decide (-(2 ^ 62) ≤ i) && decide (i < 2 ^ 62)
def rng1 (xs : List D) : Option (List D × List (Nat × List D)) := match xs with
  | [.int j] => if okR j then some (rngD 0 j.toNat, []) else none
  | _ => none
def rng2 (xs : List D) : Option (List D × List (Nat × List D)) := match xs with
  | [.int i, .int j] => if okR i && okR j then some (rngD i (j - i).toNat, []) else none
  | _ => none
def mIt (f : List D → Option (List D × List (Nat × List D))) (me : AM) : IM := fun ρ S => (me ρ S).bind fun xs S => ofO (f xs) S
theorem walk_rng {c : Cs} {μ : Mu} {H : Hp} {lo : Int} {n : Nat} : DWalk c μ H (rngD lo n, []) (Itr lo n) := by
  have hl : (rngD lo n).length = n := by simp [rngD]
  refine ⟨fun _ => True, YFn fun i => .int (lo + i), by show Walk _ (rngD lo n).length _ _; rw [hl]; exact walk_range, fun _ _ _ _ _ _ => True.intro, fun i μ' H2 S' v H3 hi x rs ke ⟨e, e2⟩ => ?_⟩
  subst e e2
  have hi : i < (rngD lo n).length := hi
  rw [hl] at hi
  refine ⟨Same.refl _, .int (lo + i), ?_, rfl⟩
  show (rngD lo n)[i]? = _
  unfold rngD
  rw [List.getElem?_map, List.getElem?_range hi]
  rfl
theorem reps1 {c : Cs} {μ : Mu} {H : Hp} {d : D} {vs : List V} (r : Reps c μ H [d] vs) : ∃ v, vs = [v] ∧ Rep c μ H d v := by
  obtain ⟨v, w, e, r1, r2⟩ := r
  exact ⟨v, by rw [e, show w = [] from r2], r1⟩
theorem reps2 {c : Cs} {μ : Mu} {H : Hp} {d d2 : D} {vs : List V} (r : Reps c μ H [d, d2] vs) : ∃ v w, vs = [v, w] ∧ Rep c μ H d v ∧ Rep c μ H d2 w := by
  obtain ⟨v, w, e, r1, r2⟩ := r
  obtain ⟨u, rfl, r3⟩ := reps1 r2
  exact ⟨v, u, e, r1, r3⟩
variable {a b c' : Expr} {me : AM}
theorem pdi_range1 (hm : X.mg "range" = none) (ha : PDA X W [a] me) (hg : Gl X "range" := by rfl) (hs : starEach [a] X.env = [(false, eval a X.env)] := by rfl) : PDI X W tg (.Call (.Name "range" p) [a] [] pos) (mIt rng1 me) :=
  PI.con (pi_range1 hg hm ha hs) fun σ H R h => by
    refine tG.seq (k := fun ρ xs S => ofO (rng1 xs) S) h fun μ ρ ds S vs H1 rs re rx p => ?_
    obtain ⟨⟨is, o⟩, e, q⟩ := p.ofO rs
    unfold rng1 at e
    split at e
    · rename_i j
      split at e
      · rename_i hj
        cases e
        simp only [okR, Bool.and_eq_true, decide_eq_true_eq] at hj
        obtain ⟨v, rfl, r⟩ := reps1 rx
        exact ⟨j, by rw [show v = _ from r], hj.1, hj.2, q _ _ (Same.refl _) walk_rng⟩
      · cases e
    · cases e
theorem pdi_range2 (hm : X.mg "range" = none) (ha : PDA X W [a, b] me) (hg : Gl X "range" := by rfl) (hs : starEach [a, b] X.env = [(false, eval a X.env), (false, eval b X.env)] := by rfl) (hs2 : starEach [b] X.env = [(false, eval b X.env)] := by rfl) :
    PDI X W tg (.Call (.Name "range" p) [a, b] [] pos) (mIt rng2 me) :=
  PI.con (pi_range2 hg hm ha hs hs2) fun σ H R h => by
    refine tG.seq (k := fun ρ xs S => ofO (rng2 xs) S) h fun μ ρ ds S vs H1 rs re rx p => ?_
    obtain ⟨⟨is, o⟩, e, q⟩ := p.ofO rs
    unfold rng2 at e
    split at e
    · rename_i i j
      split at e
      · rename_i hj
        cases e
        simp only [okR, Bool.and_eq_true, decide_eq_true_eq] at hj
        obtain ⟨v, w, rfl, r, r'⟩ := reps2 rx
        exact ⟨i, j, by rw [show v = _ from r, show w = _ from r'], ⟨hj.1.1, hj.1.2, hj.2.1, hj.2.2⟩, q _ _ (Same.refl _) walk_rng⟩
      · cases e
    · cases e
/-- range(i, j, c), c written and not 0 -/
def rngC (lo c : Int) (n : Nat) : List D := (List.range n).map fun i => D.int (lo + (i : Nat) * c)
def rng3 (xs : List D) : Option (List D × List (Nat × List D)) := match xs with
  | [.int i, .int j, .int c] => if c = -1 ∧ okR i && okR j then some (rngC i c (i - j).toNat, []) else none
  | _ => none
theorem walk_rngC {c : Cs} {μ : Mu} {H : Hp} {lo k : Int} {n : Nat} : DWalk c μ H (rngC lo k n, []) (Itc lo k n) := by
  have hl : (rngC lo k n).length = n := by simp [rngC]
  refine ⟨fun _ => True, YFn fun i => .int (lo + (i : Nat) * k), by show Walk _ (rngC lo k n).length _ _; rw [hl]; exact walk_rangeC, fun _ _ _ _ _ _ => True.intro, fun i μ' H2 S' v H3 hi x rs ke ⟨e, e2⟩ => ?_⟩
  subst e e2
  have hi : i < (rngC lo k n).length := hi
  rw [hl] at hi
  refine ⟨Same.refl _, .int (lo + (i : Nat) * k), ?_, rfl⟩
  show (rngC lo k n)[i]? = _
  unfold rngC
  rw [List.getElem?_map, List.getElem?_range hi]
  rfl
theorem reps3 {c : Cs} {μ : Mu} {H : Hp} {d d2 d3 : D} {vs : List V} (r : Reps c μ H [d, d2, d3] vs) : ∃ v w u, vs = [v, w, u] ∧ Rep c μ H d v ∧ Rep c μ H d2 w ∧ Rep c μ H d3 u := by
  obtain ⟨v, w, e, r1, r2⟩ := r
  obtain ⟨u, u', rfl, r3, r4⟩ := reps2 r2
  exact ⟨v, u, u', e, r1, r3, r4⟩
theorem pdi_range3 (hm : X.mg "range" = none) (ha : PDA X W [a, b, c'] me) (hg : Gl X "range" := by rfl)
    (hs : starEach [a, b, c'] X.env = (false, eval a X.env) :: starEach [b, c'] X.env := by rfl) (hpl : (backTo pos (starEach [b, c'] X.env)).any (·.1) = false := by rfl) : PDI X W tg (.Call (.Name "range" p) [a, b, c'] [] pos) (mIt rng3 me) :=
  PI.con (pi_range3 hg hm ha hs hpl) fun σ H R h => by
    refine tG.seq (k := fun ρ xs S => ofO (rng3 xs) S) h fun μ ρ ds S vs H1 rs re rx p => ?_
    obtain ⟨⟨is, o⟩, e, q⟩ := p.ofO rs
    unfold rng3 at e
    split at e
    · rename_i i j c
      split at e
      · rename_i hj
        cases e
        simp only [okR, Bool.and_eq_true, decide_eq_true_eq] at hj
        obtain ⟨v, w, u, rfl, r, r', r''⟩ := reps3 rx
        obtain ⟨hc, hj1, hj2⟩ := hj
        subst hc
        exact ⟨i, j, -1, (i - j).toNat, by rw [show v = _ from r, show w = _ from r', show u = _ from r''], RgC.neg hj1.1 hj1.2 hj2.1 hj2.2, q _ _ (Same.refl _) walk_rngC⟩
      · cases e
    · cases e
/-- zip -/
def zipD (xs ys : List D) : List D := (xs.zip ys).map fun p => .tup [p.1, p.2]
def zip2 (S : Sto) (xs : List D) : Option (List D × List (Nat × List D)) := match xs with
  | [.str _, _] => none
  | [_, .str _] => none
  | [x, y] => match itemsD S x, itemsD S y with
    | some (ds, g), some (es, h) => some (zipD ds es, g ++ h)
    | _, _ => none
  | _ => none
def enumD (k : Int) (xs : List D) : List D := (List.range xs.length).map fun i => .tup [.int (k + (i : Nat)), xs.getD i .non]
def enum1 (S : Sto) (xs : List D) : Option (List D × List (Nat × List D)) := match xs with
  | [.str _] => none
  | [x] => (itemsD S x).map fun p => (enumD 0 p.1, p.2)
  | _ => none
def mItS (f : Sto → List D → Option (List D × List (Nat × List D))) (me : AM) : IM := fun ρ S => (me ρ S).bind fun xs S => ofO (f S xs) S
theorem walk_zipD {c : Cs} {μ : Mu} {H : Hp} {ds es : List D} {g h : List (Nat × List D)} {a b : Addr} {k1 k2 : Kd}
    (q : ∀ μ' H' S', Mo μ H μ' H' → RS c μ' H' S' → (∀ p ∈ g, S'[p.1]? = some (.lst p.2)) → ∃ ws, Reps c μ' H' ds ws ∧ SqK c.K k1 H' a ws)
    (q' : ∀ μ' H' S', Mo μ H μ' H' → RS c μ' H' S' → (∀ p ∈ h, S'[p.1]? = some (.lst p.2)) → ∃ ws, Reps c μ' H' es ws ∧ SqK c.K k2 H' b ws) : DWalk c μ H (zipD ds es, g ++ h) (ItzK c.K k1 k2 a b) := by
  have hl : (zipD ds es).length = min ds.length es.length := by simp [zipD]
  refine ⟨fun H' => ∃ ws us, ws.length = ds.length ∧ us.length = es.length ∧ SqK c.K k1 H' a ws ∧ SqK c.K k2 H' b us,
    fun i H v H' => (ItzK c.K k1 k2 a b).yld i H v H', ⟨fun i H hi ⟨ws, us, h1, h2, s1, s2⟩ => ?_, fun H ⟨ws, us, h1, h2, s1, s2⟩ => ?_, fun i H v H' hi ⟨ws, us, h1, h2, s1, s2⟩ y => y⟩, fun μ' H' S' x rs ke => ?_, fun i μ' H1 S' v H2 hi x rs ke y => ?_⟩
  · have hi : i < (zipD ds es).length := hi
    rw [hl] at hi
    exact ⟨ws, us, ws[i]'(by omega), us[i]'(by omega), s1, s2, by simp, by simp⟩
  · exact ⟨ws, us, s1, s2, by rw [h1, h2]; exact hl⟩
  · obtain ⟨ws, r1, s1⟩ := q μ' H' S' x rs fun p hp => ke p (List.mem_append_left _ hp)
    obtain ⟨us, r2, s2⟩ := q' μ' H' S' x rs fun p hp => ke p (List.mem_append_right _ hp)
    exact ⟨ws, us, r1.length.symm, r2.length.symm, s1, s2⟩
  · obtain ⟨ws, r1, s1⟩ := q μ' H1 S' x rs fun p hp => ke p (List.mem_append_left _ hp)
    obtain ⟨us, r2, s2⟩ := q' μ' H1 S' x rs fun p hp => ke p (List.mem_append_right _ hp)
    obtain ⟨T, x', y', rfl, hT, rfl, g1, g2⟩ := y
    have hi : i < (zipD ds es).length := hi
    have hi2 := hi
    rw [hl] at hi2
    refine ⟨same_upd hT, .tup [ds[i]'(by omega), es[i]'(by omega)], ?_, ?_⟩
    · show (zipD ds es)[i]? = _
      rw [List.getElem?_eq_getElem hi]
      simp [zipD]
    · obtain ⟨w1, e1, p1⟩ := r1.get (i := i) (List.getElem?_eq_getElem (by omega))
      obtain ⟨w2, e2, p2⟩ := r2.get (i := i) (List.getElem?_eq_getElem (by omega))
      rw [g1 ws s1] at e1
      rw [g2 us s2] at e2
      cases e1; cases e2
      exact new_tup rs (.cons p1 (.one p2)) hT
theorem pdi_zip {elts : List Expr} {kk : Nat} {tpos : Pos} (hm : X.mg "zip" = none) (ha : PDA X W [e, e2] me) (hg : Gl X "zip" := by rfl)
    (hs : starEach [e, e2] X.env = (false, eval e X.env) :: starEach [e2] X.env := by rfl) (hpl : (backTo pos (starEach [e2] X.env)).any (·.1) = false := by rfl) : PDI X W (.Tuple elts kk tpos) (.Call (.Name "zip" p) [e, e2] [] pos) (mItS zip2 me) :=
  PI.con (pi_zipK hg hm ha hs hpl) fun σ H R h => by
    refine tG.seq (k := fun ρ xs S => ofO (zip2 S xs) S) h fun μ ρ ds S vs H1 rs re rx p => ?_
    obtain ⟨⟨is, o⟩, e, q⟩ := p.ofO rs
    unfold zip2 at e
    split at e
    · cases e
    · cases e
    · rename_i x y hx hy
      split at e
      · rename_i ds g es h e1 e2
        cases e
        obtain ⟨v, w, rfl, r, r'⟩ := reps2 rx
        obtain ⟨k1, a, us, rfl, u1, u2, u3⟩ := sq_of rs e1 (fun z hz => hx z hz) r
        obtain ⟨k2, b, ws, rfl, w1, w2, w3⟩ := sq_of rs e2 (fun z hz => hy z hz) r'
        exact ⟨k1, k2, a, b, us, ws, rfl, u2, w2, q _ _ (Same.refl _) (walk_zipD u3 w3)⟩
      · cases e
    · cases e
theorem walk_enumD {c : Cs} {μ : Mu} {H : Hp} {ds : List D} {g : List (Nat × List D)} {a : Addr} {k : Kd} {k₀ : Int}
    (q : ∀ μ' H' S', Mo μ H μ' H' → RS c μ' H' S' → (∀ p ∈ g, S'[p.1]? = some (.lst p.2)) → ∃ ws, Reps c μ' H' ds ws ∧ SqK c.K k H' a ws) : DWalk c μ H (enumD k₀ ds, g) (IteK c.K k k₀ a) := by
  have hl : (enumD k₀ ds).length = ds.length := by simp [enumD]
  refine ⟨fun H' => ∃ ws, ws.length = ds.length ∧ SqK c.K k H' a ws, fun i H v H' => (IteK c.K k k₀ a).yld i H v H', ⟨fun i H hi ⟨ws, h1, s1⟩ => ?_, fun H ⟨ws, h1, s1⟩ => ?_, fun i H v H' hi _ y => y⟩, fun μ' H' S' x rs ke => ?_, fun i μ' H1 S' v H2 hi x rs ke y => ?_⟩
  · have hi : i < (enumD k₀ ds).length := hi
    rw [hl] at hi
    exact ⟨ws, ws[i]'(by omega), s1, by simp⟩
  · exact ⟨ws, s1, by rw [h1]; exact hl⟩
  · obtain ⟨ws, r1, s1⟩ := q μ' H' S' x rs ke
    exact ⟨ws, r1.length.symm, s1⟩
  · obtain ⟨ws, r1, s1⟩ := q μ' H1 S' x rs ke
    obtain ⟨T, x', rfl, hT, rfl, g1⟩ := y
    have hi : i < (enumD k₀ ds).length := hi
    have hi2 := hi
    rw [hl] at hi2
    refine ⟨same_upd hT, .tup [.int (k₀ + (i : Nat)), ds[i]], ?_, ?_⟩
    · show (enumD k₀ ds)[i]? = _
      rw [List.getElem?_eq_getElem hi]
      simp [enumD, hi2]
    · obtain ⟨w1, e1, p1⟩ := r1.get (i := i) (List.getElem?_eq_getElem hi2)
      rw [g1 ws s1] at e1
      cases e1
      exact new_tup rs (.cons rfl (.one p1)) hT
theorem pdi_enum {elts : List Expr} {kk : Nat} {tpos : Pos} (hm : X.mg "enumerate" = none) (ha : PDA X W [e] me) (hg : Gl X "enumerate" := by rfl) (hs : starEach [e] X.env = [(false, eval e X.env)] := by rfl) : PDI X W (.Tuple elts kk tpos) (.Call (.Name "enumerate" p) [e] [] pos) (mItS enum1 me) :=
  PI.con (pi_enumK hg hm ha hs) fun σ H R h => by
    refine tG.seq (k := fun ρ xs S => ofO (enum1 S xs) S) h fun μ ρ ds S vs H1 rs re rx p => ?_
    obtain ⟨⟨is, o⟩, e, q⟩ := p.ofO rs
    unfold enum1 at e
    split at e
    · cases e
    · rename_i x hx
      obtain ⟨⟨ds, g⟩, e1, e2⟩ := Option.map_eq_some_iff.mp e
      cases e2
      obtain ⟨v, rfl, r⟩ := reps1 rx
      obtain ⟨k1, a, us, rfl, u1, u2, u3⟩ := sq_of rs e1 (fun z hz => hx z (by rw [hz])) r
      exact ⟨k1, a, us, rfl, u2, q _ _ (Same.refl _) (walk_enumD u3)⟩
    · cases e
end
end Mir

set_option maxRecDepth 100000
namespace Mir
open PySem PySem.Spec PyProof.Rows L2

section
variable {X : L2.Cx}
def gLen : GN := fun S xs => match xs with
  | [.str z] => if z.length ≤ sizeLine then some (.int z.length) else none
  | [x] => match dictT S x with
    | some (ks, ds) => if ks.length = ds.length then some (.int ds.length) else none
    | none => (seqD S x).map fun ds => .int ds.length
  | _ => none
theorem cm_len : CallM X (.builtin "len") gLen := CallM.of (call_len.or call_lenD) fun μ S ds d xs H Q rs rr e q => by
  unfold gLen at e
  split at e
  · rename_i z
    split at e
    · cases e
      obtain ⟨v, rfl, r⟩ := reps1 rr
      exact .inl ⟨v, z.length, rfl, by rw [show v = _ from r]; exact ⟨by assumption, rfl⟩, q _ _ (Same.refl _) rfl⟩
    · cases e
  · rename_i x hx
    obtain ⟨v, rfl, r⟩ := reps1 rr
    split at e
    · rename_i ks es e1
      split at e
      · cases e
        obtain ⟨a, kvs, rfl, h1, h2, h3⟩ := dictT_of rs e1 r
        refine .inr ⟨a, kvs, rfl, h1, ?_⟩
        have := h3.length
        rw [List.length_map] at this
        rw [← this]
        exact q _ _ (Same.refl _) rfl
      · cases e
    · obtain ⟨es, e1, e2⟩ := Option.map_eq_some_iff.mp e
      cases e2
      obtain ⟨a, vs, rfl, r1, h⟩ := seq_of rs e1 r
      refine .inl ⟨_, vs.length, rfl, ?_, ?_⟩
      · exact h.imp (fun h => ⟨vs, h, rfl⟩) fun h => ⟨vs, h, rfl⟩
      · rw [← r1.length]; exact q _ _ (Same.refl _) rfl
  · cases e
def gInt : GN := fun _ xs => match xs with
  | [.int i] => some (.int i)
  | [.bl k] => some (.int (if k then 1 else 0))
  | [.str a] => if a.length ≤ 640 then (PySem.intText? a).map D.int else none
  | _ => none
theorem cm_int : CallM X (.type "int") gInt := CallM.of (call_int1.or call_int_str) fun μ S ds d xs H Q rs rr e q => by
  unfold gInt at e
  split at e
  · cases e
    obtain ⟨v, rfl, r⟩ := reps1 rr
    exact .inl (.inl ⟨_, by rw [show v = _ from r], q _ _ (Same.refl _) rfl⟩)
  · cases e
    obtain ⟨v, rfl, r⟩ := reps1 rr
    exact .inl (.inr ⟨_, by rw [show v = _ from r], q _ _ (Same.refl _) rfl⟩)
  · split at e
    · obtain ⟨n, e1, e2⟩ := Option.map_eq_some_iff.mp e
      cases e2
      obtain ⟨v, rfl, r⟩ := reps1 rr
      exact .inr ⟨_, n, by rw [show v = _ from r], e1, by assumption, q _ _ (Same.refl _) rfl⟩
    · cases e
  · cases e
def gStr : GN := fun _ xs => match xs with
  | [.int i] => if i.natAbs.log2 < 1920 then some (.str (toString i)) else none
  | _ => none
theorem cm_str : CallM X (.type "str") gStr := CallM.of call_str_int fun μ S ds d xs H Q rs rr e q => by
  unfold gStr at e
  split at e
  · split at e
    · cases e
      obtain ⟨v, rfl, r⟩ := reps1 rr
      exact ⟨_, by rw [show v = _ from r], by assumption, q _ _ (Same.refl _) rfl⟩
    · cases e
  · cases e
def gAbs : GN := fun _ xs => match xs with
  | [.int i] => some (.int (if i < 0 then -i else i))
  | _ => none
theorem cm_abs : CallM X (.builtin "abs") gAbs := CallM.of call_abs fun μ S ds d xs H Q rs rr e q => by
  unfold gAbs at e
  split at e
  · cases e
    obtain ⟨v, rfl, r⟩ := reps1 rr
    exact ⟨_, by rw [show v = _ from r], q _ _ (Same.refl _) rfl⟩
  · cases e
/-- the ints of a list -/
def intsD : List D → Option (List Int)
  | [] => some []
  | .int i :: ds => (intsD ds).map (i :: ·)
  | _ => none
theorem intsD_rep {c : Cs} {μ : Mu} {H : Hp} : ∀ {ds : List D} {vs : List V} {ns : List Int}, intsD ds = some ns → Reps c μ H ds vs → vs = ns.map V.int
  | [], vs, ns, h, r => by cases h; exact r
  | d :: ds, vs, ns, h, ⟨v, w, e, r1, r2⟩ => by
    cases d with
    | int i =>
      obtain ⟨ms, h1, h2⟩ := Option.map_eq_some_iff.mp h
      subst h2
      rw [e, intsD_rep h1 r2, show v = _ from r1]
      rfl
    | _ => cases h
/-- the truths of a list -/
def blsD : List D → Option (List Bool)
  | [] => some []
  | .bl i :: ds => (blsD ds).map (i :: ·)
  | _ => none
theorem blsD_rep {c : Cs} {μ : Mu} {H : Hp} : ∀ {ds : List D} {vs : List V} {ns : List Bool}, blsD ds = some ns → Reps c μ H ds vs → vs = ns.map V.bl
  | [], vs, ns, h, r => by cases h; exact r
  | d :: ds, vs, ns, h, ⟨v, w, e, r1, r2⟩ => by
    cases d with
    | bl i =>
      obtain ⟨ms, h1, h2⟩ := Option.map_eq_some_iff.mp h
      subst h2
      rw [e, blsD_rep h1 r2, show v = _ from r1]
      rfl
    | _ => cases h
/-- the texts of a list -/
def strsD : List D → Option (List Str)
  | [] => some []
  | .str i :: ds => (strsD ds).map (i :: ·)
  | _ => none
theorem strsD_rep {c : Cs} {μ : Mu} {H : Hp} : ∀ {ds : List D} {vs : List V} {ns : List Str}, strsD ds = some ns → Reps c μ H ds vs → vs = ns.map V.str
  | [], vs, ns, h, r => by cases h; exact r
  | d :: ds, vs, ns, h, ⟨v, w, e, r1, r2⟩ => by
    cases d with
    | str i =>
      obtain ⟨ms, h1, h2⟩ := Option.map_eq_some_iff.mp h
      subst h2
      rw [e, strsD_rep h1 r2, show v = _ from r1]
      rfl
    | _ => cases h
def gSum : GN := fun S xs => match xs with
  | [x] => match listT S x with
    | some ds => (intsD ds).map fun ns => .int ns.sum
    | none => none
  | _ => none
theorem cm_sum (hc : X.calm = true) : CallM X (.builtin "sum") gSum := CallM.of (cr_sum hc) fun μ S ds d xs H Q rs rr e q => by
  unfold gSum at e
  split at e
  · split at e
    · rename_i es e1
      obtain ⟨ns, e2, e3⟩ := Option.map_eq_some_iff.mp e
      cases e3
      obtain ⟨v, rfl, r⟩ := reps1 rr
      obtain ⟨a, vs, rfl, r1, h⟩ := listT_of rs e1 r
      have := intsD_rep e2 r1
      subst this
      exact ⟨a, ns, rfl, SqL.of h, q _ _ (Same.refl _) rfl⟩
    · cases e
  · cases e
def gAll : GN := fun S xs => match xs with
  | [x] => match listT S x with
    | some ds => (blsD ds).map fun ns => .bl (ns.all id)
    | none => none
  | _ => none
theorem cm_all (hc : X.calm = true) : CallM X (.builtin "all") gAll := CallM.of (cr_all hc) fun μ S ds d xs H Q rs rr e q => by
  unfold gAll at e
  split at e
  · split at e
    · rename_i es e1
      obtain ⟨ns, e2, e3⟩ := Option.map_eq_some_iff.mp e
      cases e3
      obtain ⟨v, rfl, r⟩ := reps1 rr
      obtain ⟨a, vs, rfl, r1, h⟩ := listT_of rs e1 r
      have := blsD_rep e2 r1
      subst this
      exact ⟨a, ns, rfl, SqL.of h, q _ _ (Same.refl _) rfl⟩
    · cases e
  · cases e
def gAny : GN := fun S xs => match xs with
  | [x] => match listT S x with
    | some ds => (blsD ds).map fun ns => .bl (ns.any id)
    | none => none
  | _ => none
theorem cm_any (hc : X.calm = true) : CallM X (.builtin "any") gAny := CallM.of (cr_any hc) fun μ S ds d xs H Q rs rr e q => by
  unfold gAny at e
  split at e
  · split at e
    · rename_i es e1
      obtain ⟨ns, e2, e3⟩ := Option.map_eq_some_iff.mp e
      cases e3
      obtain ⟨v, rfl, r⟩ := reps1 rr
      obtain ⟨a, vs, rfl, r1, h⟩ := listT_of rs e1 r
      have := blsD_rep e2 r1
      subst this
      exact ⟨a, ns, rfl, SqL.of h, q _ _ (Same.refl _) rfl⟩
    · cases e
  · cases e
/-- the greatest, the least -/
def maxL : List Int → Int
  | [] => 0
  | i :: is => is.foldl max i
def minL : List Int → Int
  | [] => 0
  | i :: is => is.foldl min i
theorem maxL_spec : ∀ (i : Int) (is : List Int), is.foldl max i ∈ i :: is ∧ ∀ y ∈ i :: is, y ≤ is.foldl max i
  | i, [] => by simp
  | i, j :: is => by
    obtain ⟨h1, h2⟩ := maxL_spec (max i j) is
    rw [List.foldl_cons]
    refine ⟨?_, fun y hy => ?_⟩
    · rcases List.mem_cons.mp h1 with h | h
      · rw [h]
        rcases Int.le_total i j with z | z
        · rw [Int.max_eq_right z]; simp
        · rw [Int.max_eq_left z]; simp
      · simp [h]
    · have h0 := h2 (max i j) (List.mem_cons_self)
      rcases List.mem_cons.mp hy with e | hy
      · subst e; omega
      · rcases List.mem_cons.mp hy with e | hy
        · subst e; omega
        · exact h2 y (List.mem_cons_of_mem _ hy)
theorem minL_spec : ∀ (i : Int) (is : List Int), is.foldl min i ∈ i :: is ∧ ∀ y ∈ i :: is, is.foldl min i ≤ y
  | i, [] => by simp
  | i, j :: is => by
    obtain ⟨h1, h2⟩ := minL_spec (min i j) is
    rw [List.foldl_cons]
    refine ⟨?_, fun y hy => ?_⟩
    · rcases List.mem_cons.mp h1 with h | h
      · rw [h]
        rcases Int.le_total i j with z | z
        · rw [Int.min_eq_left z]; simp
        · rw [Int.min_eq_right z]; simp
      · simp [h]
    · have h0 := h2 (min i j) (List.mem_cons_self)
      rcases List.mem_cons.mp hy with e | hy
      · subst e; omega
      · rcases List.mem_cons.mp hy with e | hy
        · subst e; omega
        · exact h2 y (List.mem_cons_of_mem _ hy)
def gMax : GN := fun S xs => match xs with
  | [.int i, .int j] => some (.int (if j > i then j else i))
  | [x] => match listT S x with
    | some ds => match intsD ds with
      | some (n :: ns) => some (.int (maxL (n :: ns)))
      | _ => none
    | none => none
  | _ => none
theorem cm_max (hc : X.calm = true) : CallM X (.builtin "max") gMax := CallM.of ((call_max2 hc).or (cr_max hc)) fun μ S ds d xs H Q rs rr e q => by
  unfold gMax at e
  split at e
  · cases e
    obtain ⟨v, w, rfl, r, r'⟩ := reps2 rr
    exact .inl ⟨_, _, by rw [show v = _ from r, show w = _ from r'], q _ _ (Same.refl _) rfl⟩
  · split at e
    · rename_i es e1
      split at e
      · rename_i n ns e2
        cases e
        obtain ⟨v, rfl, r⟩ := reps1 rr
        obtain ⟨a, vs, rfl, r1, h⟩ := listT_of rs e1 r
        have := intsD_rep e2 r1
        subst this
        refine .inr ⟨a, n :: ns, rfl, SqL.of h, by simp, fun m hm hle => ?_⟩
        obtain ⟨z1, z2⟩ := maxL_spec n ns
        have : m = maxL (n :: ns) := Int.le_antisymm (z2 m hm) (hle _ z1)
        rw [this]
        exact q _ _ (Same.refl _) rfl
      · cases e
    · cases e
  · cases e
def gMin : GN := fun S xs => match xs with
  | [.int i, .int j] => some (.int (if j < i then j else i))
  | [x] => match listT S x with
    | some ds => match intsD ds with
      | some (n :: ns) => some (.int (minL (n :: ns)))
      | _ => none
    | none => none
  | _ => none
theorem cm_min (hc : X.calm = true) : CallM X (.builtin "min") gMin := CallM.of ((call_min2 hc).or (cr_min hc)) fun μ S ds d xs H Q rs rr e q => by
  unfold gMin at e
  split at e
  · cases e
    obtain ⟨v, w, rfl, r, r'⟩ := reps2 rr
    exact .inl ⟨_, _, by rw [show v = _ from r, show w = _ from r'], q _ _ (Same.refl _) rfl⟩
  · split at e
    · rename_i es e1
      split at e
      · rename_i n ns e2
        cases e
        obtain ⟨v, rfl, r⟩ := reps1 rr
        obtain ⟨a, vs, rfl, r1, h⟩ := listT_of rs e1 r
        have := intsD_rep e2 r1
        subst this
        refine .inr ⟨a, n :: ns, rfl, SqL.of h, by simp, fun m hm hle => ?_⟩
        obtain ⟨z1, z2⟩ := minL_spec n ns
        have : m = minL (n :: ns) := Int.le_antisymm (hle _ z1) (z2 m hm)
        rw [this]
        exact q _ _ (Same.refl _) rfl
      · cases e
    · cases e
  · cases e
def gTuple : GN := fun S xs => match xs with
  | [.tup ds] => some (.tup ds)
  | [x] => (listT S x).map D.tup
  | _ => none
theorem cm_tuple : CallM X (.type "tuple") gTuple := CallM.of call_tuple_of fun μ S ds d xs H Q rs rr e q => by
  unfold gTuple at e
  split at e
  · cases e
    obtain ⟨v, rfl, r⟩ := reps1 rr
    obtain ⟨a, vs, rfl, h1, n1, h2⟩ := r
    exact ⟨a, vs, rfl, .inr ⟨SqT.of h1, q _ _ (Same.refl _) ⟨a, vs, rfl, h1, n1, h2⟩⟩⟩
  · obtain ⟨es, e1, e2⟩ := Option.map_eq_some_iff.mp e
    cases e2
    obtain ⟨v, rfl, r⟩ := reps1 rr
    obtain ⟨a, vs, rfl, r1, h⟩ := listT_of rs e1 r
    exact ⟨a, vs, rfl, .inl ⟨SqL.of h, fun l hl => q _ _ (same_upd hl) (new_tup rs r1 hl)⟩⟩
  · cases e
def gList : GN := fun S xs => match xs with
  | [.tup ds] => some (.lst ds)
  | [x] => (listT S x).map D.lst
  | _ => none
theorem list_of {c : Cs} {μ : Mu} {H : Hp} {S : Sto} {ds : List D} {d : D} {xs : List V} (rs : RS c μ H S) (rr : Reps c μ H ds xs) (e : gList S ds = some d) : ∃ es p ys, d = .lst es ∧ xs = [.ref p] ∧ Reps c μ H es ys ∧ (SqL c.K H p ys ∨ SqT c.K H p ys) := by
  unfold gList at e
  split at e
  · rename_i es
    cases e
    obtain ⟨v, rfl, r⟩ := reps1 rr
    obtain ⟨a, vs, rfl, h1, n1, h2⟩ := r
    exact ⟨es, a, vs, rfl, rfl, h2, .inr (SqT.of h1)⟩
  · obtain ⟨es, e1, e2⟩ := Option.map_eq_some_iff.mp e
    cases e2
    obtain ⟨v, rfl, r⟩ := reps1 rr
    obtain ⟨a, vs, rfl, r1, h⟩ := listT_of rs e1 r
    exact ⟨es, a, vs, rfl, rfl, r1, .inl (SqL.of h)⟩
  · cases e
theorem cm_list : CallM X (.type "list") gList := CallM.of call_list_of fun μ S ds d xs H Q rs rr e q => by
  obtain ⟨es, p, ys, rfl, rfl, r1, h⟩ := list_of rs rr e
  exact ⟨p, ys, rfl, h, fun l hl => q _ _ (same_upd hl) (new_lst rs r1 hl)⟩
end
end Mir

set_option maxRecDepth 100000
namespace Mir
open PySem PySem.Spec PyProof.Rows L2
section
variable {X : L2.Cx} {W : WX} {e : Expr} {es : List Expr} {me : AM} {m mo mi : EM} {x : Str} {p pos : Pos}
/-- list(x) that may be changed -/
def mListN (me : AM) : EM := fun ρ S => (me ρ S).bind fun xs S => match gList S xs with
  | some (.lst ds) => .ok (.loc S.length) (S ++ [.lst ds])
  | _ => .bad
theorem pd_listN (hv : bootBuiltins "list" = some (.type "list")) (hm : X.mg "list" = none) (ha : PDA X W [e] me) (hg : Gl X "list" := by rfl)
    (he : starEach [e] X.env = (false, eval e X.env) :: starEach [] X.env := by rfl) (hpl : (backTo pos (starEach [] X.env)).any (·.1) = false := by rfl) : PD X W (.Call (.Name "list" p) [e] [] pos) (mListN me) :=
  PE.con (pe_callTy call_list_of hg hm hv ha (by decide) (by decide) he hpl) fun σ H Q h => by
    refine tG.seq (k := fun ρ xs S => match gList S xs with | some (.lst ds) => .ok (D.loc S.length) (S ++ [.lst ds]) | _ => .bad) h fun μ ρ ds S vs H1 rs re rx p => ?_
    split at p
    · rename_i es' e1
      obtain ⟨es2, a, ys, e2, rfl, r1, h1⟩ := list_of rs rx e1
      cases e2
      exact ⟨a, ys, rfl, h1, fun l hl => p.newL rs r1 hl⟩
    · exact False.elim p

/-! ### methods of texts -/
abbrev GS1 := Sto → Str → D → Option D
def mStr1 (g : GS1) (mo me : EM) : EM := fun ρ S => (mo ρ S).bind fun x S => match x with
  | .str a => (me ρ S).bind fun y S => ofO (g S a y) S
  | _ => .bad
def mStr0 (g : Str → Option D) (mo : EM) : EM := fun ρ S => (mo ρ S).bind fun x S => match x with
  | .str a => ofO (g a) S
  | _ => .bad
variable {o : Expr} {apos : Pos}
theorem pd_str1 {name : Str} {id : String} {g : GS1} {r : V → List V → Hp → VK → Prop} (slot : Slot "str" name id) (ty : typeOf (.builtin id) = pure (.type "method_descriptor")) (rule : MtR X id r)
    (i : ∀ (μ : Mu) (S : Sto) (a : Str) (dy d : D) (y : V) (H : Hp) (Q : VK), RS (cs X) μ H S → Rep (cs X) μ H dy y → g S a dy = some d → (∀ v H', Same H H' → Rep (cs X) μ H' d v → Q v H') → r (.str a) [y] H Q) (ho : PD X W o mo) (he : PD X W e m)
    (hs : starEach [e] X.env = [(false, eval e X.env)] := by rfl) (hbase : attributeBase o name X.env (eval o X.env) = eval o X.env := by rfl) (hline : (apos.endLine == pos.line) = true := by rfl) :
    PD X W (.Call (.Attribute o name apos) [e] [] pos) (mStr1 g mo m) :=
  PE.con (pe_m1 slot ty rule ho he hs hbase hline) fun σ H Q h => by
    refine tG.seq (k := fun ρ x S => match x with | .str a => (m ρ S).bind fun y S => ofO (g S a y) S | _ => .bad) h fun μ ρ dx S x H1 rs re rx p => ?_
    cases dx with
    | str a =>
      refine ⟨⟨a, rx⟩, μ, ρ, S, rs, re, p.bind.imp fun y H2 ⟨μ2, dy, S2, x2, rs2, ry, p2⟩ => ?_⟩
      obtain ⟨d, e, q⟩ := p2.ofO rs2
      rw [show x = _ from rx]
      exact i μ2 S2 a dy d y H2 Q rs2 ry e q
    | _ => exact False.elim p
theorem pd_str0 {name : Str} {id : String} {g : Str → Option D} {r : V → List V → Hp → VK → Prop} (slot : Slot "str" name id) (ty : typeOf (.builtin id) = pure (.type "method_descriptor")) (rule : MtR X id r)
    (i : ∀ (μ : Mu) (S : Sto) (a : Str) (d : D) (H : Hp) (Q : VK), RS (cs X) μ H S → g a = some d → (∀ v H', Same H H' → Rep (cs X) μ H' d v → Q v H') → r (.str a) [] H Q) (ho : PD X W o mo)
    (hbase : attributeBase o name X.env (eval o X.env) = eval o X.env := by rfl) (hline : (apos.endLine == pos.line) = true := by rfl) :
    PD X W (.Call (.Attribute o name apos) [] [] pos) (mStr0 g mo) :=
  PE.con (pe_m0 slot ty rule ho hbase hline) fun σ H Q h => by
    refine tG.seq (k := fun ρ x S => match x with | .str a => ofO (g a) S | _ => .bad) h fun μ ρ dx S x H1 rs re rx p => ?_
    cases dx with
    | str a =>
      obtain ⟨d, e, q⟩ := p.ofO rs
      rw [show x = _ from rx]
      exact ⟨⟨a, rfl⟩, i μ S a d H1 Q rs e q⟩
    | _ => exact False.elim p
def gJoin : GS1 := fun S a y => match seqD S y with
  | some ds => match strsD ds with
    | some ys => if (ys.map (·.length)).sum + ys.length * a.length ≤ 16777216 then some (.str (Txt.join a ys)) else none
    | none => none
  | none => none
theorem pd_join (ho : PD X W o mo) (he : PD X W e m) (hs : starEach [e] X.env = [(false, eval e X.env)] := by rfl) (hbase : attributeBase o "join" X.env (eval o X.env) = eval o X.env := by rfl) (hline : (apos.endLine == pos.line) = true := by rfl) :
    PD X W (.Call (.Attribute o "join" apos) [e] [] pos) (mStr1 gJoin mo m) :=
  pd_str1 (name := "join") PySem.F.slot_str_join PySem.F.type_str_join mt_join (fun μ S a dy d y H Q rs ry e q => by
    unfold gJoin at e
    split at e
    · rename_i ds e1
      split at e
      · rename_i ys e2
        split at e
        · rename_i hz
          cases e
          obtain ⟨b, vs, rfl, r1, h⟩ := seq_of rs e1 ry
          have := strsD_rep e2 r1
          subst this
          exact ⟨a, b, ys, rfl, rfl, h, hz, q _ _ (Same.refl _) rfl⟩
        · cases e
      · cases e
    · cases e) ho he hs hbase hline

/-! ### methods of lists -/
/-- the store behind it, where a cell is a list -/
def cellL (S : Sto) : D → Option (Nat × List D)
  | .loc n => match S[n]? with
    | some (.lst ds) => some (n, ds)
    | _ => none
  | _ => none
theorem cellL_of {c : Cs} {μ : Mu} {H : Hp} {S : Sto} {d : D} {ds : List D} {n : Nat} {v : V} (rs : RS c μ H S) (h : cellL S d = some (n, ds)) (r : Rep c μ H d v) :
    d = .loc n ∧ S[n]? = some (.lst ds) ∧ ∃ a vs, v = .ref a ∧ μ.cells[n]? = some a ∧ H a = some (.lst vs) ∧ Reps c μ H ds vs := by
  cases d with
  | loc k =>
    simp only [cellL] at h
    split at h
    · rename_i es e
      cases h
      obtain ⟨a, e1, e0, vs, e2, e3⟩ := rs.at e r
      exact ⟨rfl, e, a, vs, e1, e0, e2, e3⟩
    · cases h
  | _ => cases h
/-- a list's method with one argument: the answer, the items behind it -/
def mLst1 (g : Sto → List D → D → Option (D × List D)) (mo me : EM) : EM := fun ρ S => (mo ρ S).bind fun x S => match cellL S x with
  | some _ => (me ρ S).bind fun y S => match cellL S x with
    | some (n, ds) => match g S ds y with
      | some (d, ds') => .ok d (S.set n (.lst ds'))
      | none => .bad
    | none => .bad
  | none => .bad
def mLst0 (g : List D → Option (D × List D)) (mo : EM) : EM := fun ρ S => (mo ρ S).bind fun x S => match cellL S x with
  | some (n, ds) => match g ds with
    | some (d, ds') => .ok d (S.set n (.lst ds'))
    | none => .bad
  | none => .bad
theorem tyV_lst {K : PySem.W.Frag} {H : Hp} {a : Addr} {vs : List V} (h : H a = some (.lst vs)) : tyV K "list" (.ref a) H := .inl ⟨rfl, _, SqL.of h⟩
theorem Post.put {c : Cs} {σ : L2.St} {μ : Mu} {H : Hp} {S : Sto} {n : Nat} {a : Addr} {d : D} {ds' : List D} {vs' : List V} {v : V} {Q : VK} (p : Post c W σ (Rep c) μ H (.ok d (S.set n (.lst ds'))) Q) (rs : RS c μ H S)
    (h : μ.cells[n]? = some a) (r : Reps c μ H ds' vs') (rv : Rep c μ H d v) : Q v (upd H a (.lst vs')) := by
  have x : Ext μ H μ (upd H a (.lst vs')) := Ext.put (List.mem_of_getElem? h)
  exact p v μ _ x (rs.put h ⟨vs', upd_same, Reps.mono x _ _ r⟩) (Rep.mono x _ _ rv)
variable {hfew : ((backTo pos (starEach (e :: []) X.env)).all (fun x => !x.1) && (backToKw pos (keywordEach [] X.env)).all (fun x => x.1.isSome) && decide ((e :: []).length + ([] : List Keyword).length + (if ([] : List Keyword).isEmpty then 0 else 1) < 30)) = true}
theorem pd_lst1 {name : Str} {id : String} {g : Sto → List D → D → Option (D × List D)} {r : V → List V → Hp → VK → Prop} (slot : Slot "list" name id) (ty : typeOf (.builtin id) = pure (.type "method_descriptor")) (rule : MtR X id r)
    (i : ∀ (μ : Mu) (S : Sto) (a : Addr) (vs : List V) (ds ds' : List D) (dy d : D) (y : V) (H : Hp) (Q : VK), RS (cs X) μ H S → H a = some (.lst vs) → Reps (cs X) μ H ds vs → Rep (cs X) μ H dy y → g S ds dy = some (d, ds') →
      (∀ v vs', Rep (cs X) μ H d v → Reps (cs X) μ H ds' vs' → Q v (upd H a (.lst vs'))) → r (.ref a) [y] H Q) (ho : PD X W o mo) (he : PD X W e m)
    (hbase : attributeBase o name X.env (eval o X.env) = eval o X.env := by rfl)
    (hfew : ((backTo pos (starEach (e :: []) X.env)).all (fun x => !x.1) && (backToKw pos (keywordEach [] X.env)).all (fun x => x.1.isSome) && decide ((e :: []).length + ([] : List Keyword).length + (if ([] : List Keyword).isEmpty then 0 else 1) < 30)) = true := by rfl)
    (hline : (apos.endLine == pos.line) = true := by rfl) (hs : starEach (e :: []) X.env = (false, eval e X.env) :: starEach [] X.env := by rfl) (hplain : (backTo pos (starEach [] X.env)).any (·.1) = false := by rfl) :
    PD X W (.Call (.Attribute o name apos) [e] [] pos) (mLst1 g mo m) :=
  PE.con (pe_bm PySem.F.plainAttrs_list slot ty rule ho (pa_cons he pa_nil hs) hbase hfew hline hs hplain) fun σ H Q h => by
    refine tG.seq (k := fun ρ x S => match cellL S x with
      | some _ => (m ρ S).bind fun y S => match cellL S x with
        | some (n, ds) => match g S ds y with
          | some (d, ds') => .ok d (S.set n (.lst ds'))
          | none => .bad
        | none => .bad
      | none => .bad) h fun μ ρ dx S x H1 rs re rx p => ?_
    split at p
    · rename_i nd e1
      obtain ⟨n, ds⟩ := nd
      obtain ⟨rfl, e2, a, vs, rfl, e3, e4, e5⟩ := cellL_of rs e1 rx
      refine ⟨tyV_lst e4, μ, ρ, S, rs, re, p.bind.imp fun y H2 ⟨μ2, dy, S2, x2, rs2, ry, p2⟩ => ?_⟩
      split at p2
      · rename_i n' ds' e6
        obtain ⟨e7, e8, a', vs', e9, e10, e11, e12⟩ := cellL_of rs2 e6 (Rep.mono x2 _ _ rx)
        cases e7; cases e9
        split at p2
        · rename_i d ds2 e13
          exact i μ2 S2 _ vs' ds' ds2 dy d y H2 Q rs2 e11 e12 ry e13 fun v vs2 rv rvs => p2.put rs2 e10 rvs rv
        · exact False.elim p2
      · exact False.elim p2
    · exact False.elim p
theorem pd_lst0 {name : Str} {id : String} {g : List D → Option (D × List D)} {r : V → List V → Hp → VK → Prop} (slot : Slot "list" name id) (ty : typeOf (.builtin id) = pure (.type "method_descriptor")) (rule : MtR X id r)
    (i : ∀ (μ : Mu) (a : Addr) (vs : List V) (ds ds' : List D) (d : D) (H : Hp) (Q : VK), H a = some (.lst vs) → Reps (cs X) μ H ds vs → g ds = some (d, ds') →
      (∀ v vs', Rep (cs X) μ H d v → Reps (cs X) μ H ds' vs' → Q v (upd H a (.lst vs'))) → r (.ref a) [] H Q) (ho : PD X W o mo)
    (hbase : attributeBase o name X.env (eval o X.env) = eval o X.env := by rfl) (hline : (apos.endLine == pos.line) = true := by rfl) : PD X W (.Call (.Attribute o name apos) [] [] pos) (mLst0 g mo) :=
  PE.con (pe_bm0 PySem.F.plainAttrs_list slot ty rule ho hbase hline) fun σ H Q h => by
    refine tG.seq (k := fun ρ x S => match cellL S x with
      | some (n, ds) => match g ds with
        | some (d, ds') => .ok d (S.set n (.lst ds'))
        | none => .bad
      | none => .bad) h fun μ ρ dx S x H1 rs re rx p => ?_
    split at p
    · rename_i n ds e1
      obtain ⟨rfl, e2, a, vs, rfl, e3, e4, e5⟩ := cellL_of rs e1 rx
      refine ⟨tyV_lst e4, ?_⟩
      split at p
      · rename_i d ds2 e13
        exact i μ a vs ds ds2 d H1 Q e4 e5 e13 fun v vs2 rv rvs => p.put rs e3 rvs rv
      · exact False.elim p
    · exact False.elim p
def gAppend (_ : Sto) (ds : List D) (y : D) : Option (D × List D) := if ds.length < sizeLine then some (.non, ds ++ [y]) else none
theorem append_i (μ : Mu) (S : Sto) (a : Addr) (vs : List V) (ds ds' : List D) (dy d : D) (y : V) (H : Hp) (Q : VK) (rs : RS (cs X) μ H S) (h : H a = some (.lst vs)) (r : Reps (cs X) μ H ds vs) (ry : Rep (cs X) μ H dy y) (e : gAppend S ds dy = some (d, ds'))
    (q : ∀ v vs', Rep (cs X) μ H d v → Reps (cs X) μ H ds' vs' → Q v (upd H a (.lst vs'))) : rAppend (.ref a) [y] H Q := by
  unfold gAppend at e
  split at e
  · cases e
    exact ⟨a, vs, y, rfl, rfl, h, by rw [← r.length]; assumption, q _ _ rfl (r.append (.one ry))⟩
  · cases e
def gPop (ds : List D) : Option (D × List D) := (ds[ds.length - 1]?).map fun d => (d, ds.dropLast)
theorem Reps.dropLast {c : Cs} {μ : Mu} {H : Hp} {ds : List D} {vs : List V} (r : Reps c μ H ds vs) : Reps c μ H ds.dropLast vs.dropLast := by
  rw [List.dropLast_eq_take, List.dropLast_eq_take, r.length]
  exact r.take _
theorem pop_i (μ : Mu) (a : Addr) (vs : List V) (ds ds' : List D) (d : D) (H : Hp) (Q : VK) (h : H a = some (.lst vs)) (r : Reps (cs X) μ H ds vs) (e : gPop ds = some (d, ds'))
    (q : ∀ v vs', Rep (cs X) μ H d v → Reps (cs X) μ H ds' vs' → Q v (upd H a (.lst vs'))) : rPop (.ref a) [] H Q := by
  obtain ⟨d', e1, e2⟩ := Option.map_eq_some_iff.mp e
  cases e2
  obtain ⟨v, e3, r3⟩ := r.get e1
  rw [r.length] at e3
  exact ⟨a, vs, v, rfl, rfl, h, e3, q _ _ r3 r.dropLast⟩
def gExtend (S : Sto) (ds : List D) (y : D) : Option (D × List D) := match listT S y with
  | some es => if ds.length + es.length ≤ sizeLine then some (.non, ds ++ es) else none
  | none => none
theorem extend_i (μ : Mu) (S : Sto) (a : Addr) (vs : List V) (ds ds' : List D) (dy d : D) (y : V) (H : Hp) (Q : VK) (rs : RS (cs X) μ H S) (h : H a = some (.lst vs)) (r : Reps (cs X) μ H ds vs) (ry : Rep (cs X) μ H dy y) (e : gExtend S ds dy = some (d, ds'))
    (q : ∀ v vs', Rep (cs X) μ H d v → Reps (cs X) μ H ds' vs' → Q v (upd H a (.lst vs'))) : rExtend (.ref a) [y] H Q := by
  unfold gExtend at e
  split at e
  · rename_i es e1
    split at e
    · cases e
      obtain ⟨b, ws, rfl, r1, h1⟩ := listT_of rs e1 ry
      exact ⟨a, b, vs, ws, rfl, rfl, h, h1, by rw [← r.length, ← r1.length]; assumption, q _ _ rfl (r.append r1)⟩
    · cases e
  · cases e
/-- xs[i] = e -/
def sPutIx (mo mi me : EM) : SM := fun ρ S => Fl.of (me ρ S) ρ fun d S => Fl.of (mo ρ S) ρ fun x S => Fl.of (mi ρ S) ρ fun i S => match cellL S x, i with
  | some (n, ds), .int k => match ixN ds.length k with
    | some j => .nx ρ (S.set n (.lst (ds.set j d)))
    | none => .bad
  | _, _ => .bad
theorem pd_putIx {i o' : Expr} {tpos : Pos} (he : PD X W e m) (ho : PD X W o mo) (hi : PD X W i mi) (hs : swapsWithSole [.Subscript o i tpos] e pos.line X.env = pure false := by rfl) (hw : swappedStores [.Subscript o i tpos] e X.env = pure none := by rfl)
    (h1 : (assignEach [.Subscript o i tpos] X.env).map (·.2) = [assign (.Subscript o i tpos) X.env] := by rfl)
    (ha : ∀ v, assign (.Subscript o i tpos) X.env v = (do
      let ov ← holding [v] (eval o X.env)
      let iv ← holding [v, ov] (eval i X.env)
      standAt tpos
      holding [v, ov, iv] (setItem ov iv v)
      release [v, ov, iv] []) := by intro _; rfl) : PDS X W (.Assign [.Subscript o i tpos] e pos) (sPutIx mo mi m) :=
  PS.con (ps_asg he (pg_sub ho hi set_list ha) hs hw h1) fun D σ H h => by
    refine tG.seqS (k := fun ρ d S => Fl.of (mo ρ S) ρ fun x S => Fl.of (mi ρ S) ρ fun i S => match cellL S x, i with
      | some (n, ds), .int k => match ixN ds.length k with
        | some j => .nx ρ (S.set n (.lst (ds.set j d)))
        | none => .bad
      | _, _ => .bad) h fun μ ρ d S v H1 rs re rd p => ?_
    refine ⟨μ, ρ, S, rs, re, (PostS.of re p).imp fun x H2 ⟨μ2, dx, S2, x2, rs2, re2, rx, p2⟩ => ?_⟩
    refine ⟨μ2, ρ, S2, rs2, re2, (PostS.of re2 p2).imp fun y H3 ⟨μ3, dy, S3, x3, rs3, re3, ry, p3⟩ => ?_⟩
    have rx3 := Rep.mono x3 _ _ rx
    have rd3 := Rep.mono x3 _ _ (Rep.mono x2 _ _ rd)
    split at p3
    · rename_i n ds k e1
      split at p3
      · rename_i j e2
        obtain ⟨rfl, e4, a, vs, rfl, e5, e6, e7⟩ := cellL_of rs3 e1 rx3
        refine ⟨a, vs, k, j, rfl, ry, e6, by rw [← e7.length]; exact e2, ?_⟩
        have x4 : Ext μ3 H3 μ3 (upd H3 a (.lst (vs.set j v))) := Ext.put (List.mem_of_getElem? e5)
        exact p3 σ μ3 _ x4 (rs3.put e5 ⟨_, upd_same, Reps.mono x4 _ _ (e7.set j rd3)⟩) (re3.mono x4)
      · exact False.elim p3
    · exact False.elim p3
end
end Mir

set_option maxRecDepth 100000
namespace Mir
open PySem PySem.Spec PyProof.Rows L2

theorem h1 {k : Nat} {A : Around} (hr : Room k A) : A.units + 1 < cLine := hu_of hr
theorem h200 {k : Nat} {A : Around} (hr : Room k A) : A.units + 200 < cLine := by have := hr.un; omega
theorem h201 {k : Nat} {A : Around} (hr : Room (k + 1) A) : A.units + 201 < cLine := by have := hr.un; omega

/-! ### tuple * int -/
theorem tuple_mul1 (l : Addr) (items : Array Value) (n : Nat) (dd : Option Addr) (sl : Array (Option Value)) (u : Tok) :
    Meets (Builtin.«tuple.__mul__» ⟨[.ref l, .int 1 u], []⟩) (fun _ R s => s.heap.get? l = some { cls := .type "tuple", dict := dd, data := .seq items n, slots := sl } ∧ R (.ok (.ret (Value.ref l))) s) :=
  .of_wp fun prog w A R s h => by
    obtain ⟨hp, g, d, tk, os⟩ := s
    obtain ⟨hl, h⟩ := h
    have f1 := AutoSeq1.idx_int
    wp_walk using AutoSeq1.wpAny_loadPart' hl
    exact ⟨_, rfl, h⟩
theorem tuple_mul0 (l : Addr) (items : Array Value) (n : Nat) (dd : Option Addr) (sl : Array (Option Value)) (x : Int) (u : Tok) (hx : x ≤ 0) (h0 : -(2 ^ 63) ≤ x) (hi : items.isEmpty = false) :
    Meets (Builtin.«tuple.__mul__» ⟨[.ref l, .int x u], []⟩) (fun _ R s => s.heap.get? l = some { cls := .type "tuple", dict := dd, data := .seq items n, slots := sl } ∧
      R (.ok (.ret (Value.ref s.heap.objs.size))) { s with heap := s.heap.push { cls := Value.type "tuple", data := Data.seq #[] } }) :=
  .of_wp fun prog w A R s h => by
    obtain ⟨hp, g, d, tk, os⟩ := s
    obtain ⟨hl, h⟩ := h
    have f1 := AutoSeq1.idx_int
    have c0 : (decide (x < -(2 ^ 63)) || decide (x ≥ 2 ^ 63)) = false := by
      rw [decide_eq_false (by omega), decide_eq_false (by omega)] <;> rfl
    have c1 : (items.isEmpty || x == 1) = false := by
      rw [hi, Bool.false_or]; exact beq_eq_false_iff_ne.mpr (by omega)
    have c2 : (decide (x ≤ 0) || items.isEmpty) = true := by rw [decide_eq_true hx]; rfl
    wp_walk using AutoSeq1.wpAny_loadPart' hl
    repeat (first
      | (refine wpAny_ite_false (decide_eq_false (by rw [c0]; exact Bool.false_ne_true)) ?_; wp_walk using AutoSeq1.wpAny_loadPart' hl)
      | (refine wpAny_ite_false (decide_eq_false (by rw [c1]; exact Bool.false_ne_true)) ?_; wp_walk using AutoSeq1.wpAny_loadPart' hl))
    exact ⟨_, rfl, h⟩
/-- a tuple k times -/
def rRepU (K : PySem.W.Frag) : R2 := fun x y H Q => ∃ l k xs, x = .ref l ∧ y = .int k ∧ SqT K H l xs ∧ xs ≠ [] ∧ -(2 ^ 63) ≤ k ∧ k ≤ 1000 ∧ xs.length ≤ 1000 ∧
  (k = 1 → Q (.ref l) H) ∧ (k ≠ 1 → ∀ p, H p = none → Q (.ref p) (upd H p (.tup (List.replicate k.toNat xs).flatten)))
section
variable {X : L2.Cx}
theorem op_repU : OpR X (binaryOp .Mult) (rRepU X.K) := by
  intro pins s σ H x y v u Q I rx ry h
  obtain ⟨l, k, xs, rfl, rfl, hT, hne, h0, hk, hz, q1, q2⟩ := h
  by_cases h2 : 2 ≤ k
  · exact op_repT pins s σ H _ _ v u Q I rx ry ⟨l, k, xs, rfl, rfl, hT, hne, h2, hk, hz, q2 (by omega)⟩
  cases rx
  obtain ⟨t, rfl⟩ := ry
  obtain ⟨its, r, ⟨⟨cls, dd, data, sl⟩, ho, hc, n, hd⟩, hs⟩ := I.tuple hT
  simp only at hc hd
  subst hc hd
  have hle : its.length = xs.length := r.length.symm
  have hn : its ≠ [] := fun e => hne (by
    rw [e] at hle
    exact List.eq_nil_of_length_eq_zero hle.symm)
  have hi : its.toArray.isEmpty = false := by
    cases its with
    | nil => exact absurd rfl hn
    | cons a b => rfl
  by_cases h1 : k = 1
  · subst h1
    refine wpAny_binaryOp_repeat_ref (T := "tuple") (U := "int") (by decide) ⟨_, ho, rfl⟩ (fun s' => typeIs_int s' 1 t) noFill_tuple_mul F.fills_int_mul F.slot_int_rmul repeat_tuple F.slot_int_index.lookup
      (call_meets F.slot_int_rmul (typeIs_int s 1 t) F.entry_int_rmul (F.args_int_rmul_2 _ _) (int_rmul_tuple 1 t l its.toArray n dd sl)
        ⟨ho, rfl, ⟨_, ho, rfl⟩, call_meets F.slot_tuple_mul ⟨_, ho, rfl⟩ F.entry_tuple_mul (F.args_tuple_mul_2 _ _) (tuple_mul1 l its.toArray n dd sl t) ⟨ho, ?_⟩⟩)
    exact ⟨.ref l, H, I, rfl, q1 rfl⟩
  · have hk0 : k ≤ 0 := by omega
    refine wpAny_binaryOp_repeat_ref (T := "tuple") (U := "int") (by decide) ⟨_, ho, rfl⟩ (fun s' => typeIs_int s' k t) noFill_tuple_mul F.fills_int_mul F.slot_int_rmul repeat_tuple F.slot_int_index.lookup
      (call_meets F.slot_int_rmul (typeIs_int s k t) F.entry_int_rmul (F.args_int_rmul_2 _ _) (int_rmul_tuple k t l its.toArray n dd sl)
        ⟨ho, rfl, ⟨_, ho, rfl⟩, call_meets F.slot_tuple_mul ⟨_, ho, rfl⟩ F.entry_tuple_mul (F.args_tuple_mul_2 _ _) (tuple_mul0 l its.toArray n dd sl k t hk0 h0 hi) ⟨ho, ?_⟩⟩)
    have hf : H s.heap.objs.size = none := I.hok.fresh (Nat.le_refl _)
    have e : (List.replicate k.toNat xs).flatten = [] := by
      have : k.toNat = 0 := by omega
      rw [this]; rfl
    have q3 := q2 h1 _ hf
    rw [e] at q3
    exact ⟨.ref s.heap.objs.size, upd H s.heap.objs.size (.tup []), I.laid (o := .tup []) (t' := s.toks) (fun b o e => Heap.get?_push_of_some _ e) (Nat.le_refl _) ⟨Nat.zero_le _, [], .nil, ⟨_, Heap.get?_push_size _ rfl, rfl, _, rfl⟩⟩, rfl, q3⟩
theorem op_repS : OpR X (binaryOp .Mult) (fun x y H Q => ∃ z k, x = .str z ∧ y = .int k ∧ 0 ≤ k ∧ k ≤ 1 ∧ z.length ≤ sizeLine ∧ Q (.str (if k = 1 then z else Str.empty)) H) := by
  intro pins s σ H x y v u Q I rx ry h
  obtain ⟨z, k, rfl, rfl, h0, h1, hz, q⟩ := h
  obtain ⟨t, rfl⟩ := rx
  obtain ⟨t', rfl⟩ := ry
  by_cases hk : k = 1
  · subst hk
    rw [if_pos rfl] at q
    refine PySem.P.mul_str rfl (fun _ h => by simp at h) (fun _ h => by simp at h) ?_
    rw [if_neg (by omega), if_pos (by simp)]
    exact ⟨.str z, H, I, ⟨_, rfl⟩, q⟩
  · have hk0 : k = 0 := by omega
    subst hk0
    rw [if_neg (by decide)] at q
    exact PySem.P.mul_str_none (by decide) (by decide) ⟨.str Str.empty, H, I.tok _, ⟨_, rfl⟩, q⟩
def cMul (i j : Int) : Bool := decide (-(2 ^ 64) < i ∧ i < 2 ^ 64) || decide (-(2 ^ 64) < j ∧ j < 2 ^ 64) || decide (i.natAbs.log2 + j.natAbs.log2 < 1000000)
def gMul : G2 := fun S x y => match x, y with
  | .int i, .int j => if cMul i j then some (.int (i * j)) else none
  | .str z, .int k => if 0 ≤ k ∧ k ≤ 1 ∧ z.length ≤ sizeLine then some (.str (if k = 1 then z else Str.empty)) else none
  | .tup xs, .int k => if xs ≠ [] ∧ -(2 ^ 63) ≤ k ∧ k ≤ 1000 ∧ xs.length ≤ 1000 then some (.tup (List.replicate k.toNat xs).flatten) else none
  | x, .int k => match listT S x with
    | some xs => if -(2 ^ 63) ≤ k ∧ k < 2 ^ 63 ∧ xs.length * k.toNat ≤ sizeLine then some (.lst (List.replicate k.toNat xs).flatten) else none
    | none => none
  | _, _ => none
theorem Reps.rep {c : Cs} {μ : Mu} {H : Hp} {ds : List D} {vs : List V} (r : Reps c μ H ds vs) : ∀ k : Nat, Reps c μ H (List.replicate k ds).flatten (List.replicate k vs).flatten
  | 0 => rfl
  | k + 1 => by
    rw [List.replicate_succ, List.replicate_succ, List.flatten_cons, List.flatten_cons]
    exact r.append (Reps.rep r k)
theorem om_mul : OpM X (binaryOp .Mult) gMul := OpM.of (op_mul.or (op_mulW.or (op_repS.or (op_repU.or op_rep)))) fun μ S dx dy d x y H Q rs rx ry e q => by
  cases dy with
  | int k =>
    have hy : y = .int k := ry
    have go : (match listT S dx with
      | some xs => if -(2 ^ 63) ≤ k ∧ k < 2 ^ 63 ∧ xs.length * k.toNat ≤ sizeLine then some (D.lst (List.replicate k.toNat xs).flatten) else none
      | none => none) = some d → rRep x y H Q := fun e => by
      cases e1 : listT S dx with
      | none => rw [e1] at e; cases e
      | some xs =>
        rw [e1] at e
        dsimp only at e
        split at e
        · rename_i hz
          cases e
          obtain ⟨a, vs, rfl, r1, h1⟩ := listT_of rs e1 rx
          exact ⟨a, k, vs, rfl, hy, h1, hz.1, hz.2.1, by rw [← r1.length]; exact hz.2.2, fun p hp => q _ _ (same_upd hp) (new_lst rs (r1.rep _) hp)⟩
        · cases e
    cases dx with
    | int i =>
      simp only [gMul] at e
      split at e
      · rename_i hc
        cases e
        simp only [cMul, Bool.or_eq_true, decide_eq_true_eq] at hc
        rcases hc with (hc | hc) | hc
        · exact .inl ⟨i, k, rx, hy, .inl hc, q _ _ (Same.refl _) rfl⟩
        · exact .inl ⟨i, k, rx, hy, .inr hc, q _ _ (Same.refl _) rfl⟩
        · exact .inr (.inl ⟨i, k, rx, hy, hc, q _ _ (Same.refl _) rfl⟩)
      · cases e
    | str z =>
      simp only [gMul] at e
      split at e
      · rename_i hc
        cases e
        exact .inr (.inr (.inl ⟨z, k, rx, hy, hc.1, hc.2.1, hc.2.2, q _ _ (Same.refl _) rfl⟩))
      · cases e
    | tup xs =>
      simp only [gMul] at e
      split at e
      · rename_i hc
        cases e
        obtain ⟨a, vs, rfl, h1, n1, r1⟩ := rx
        refine .inr (.inr (.inr (.inl ⟨a, k, vs, rfl, hy, SqT.of h1, fun z => hc.1 (List.eq_nil_of_length_eq_zero (by rw [r1.length, z]; rfl)), hc.2.1, hc.2.2.1, by rw [← r1.length]; exact hc.2.2.2, fun z => ?_, fun _ p hp => q _ _ (same_upd hp) (new_tup rs (r1.rep _) hp)⟩)))
        subst z
        have e1 : (List.replicate (Int.toNat 1) xs).flatten = xs := by simp
        rw [e1] at q
        exact q _ _ (Same.refl _) ⟨a, vs, rfl, h1, n1, r1⟩
      · cases e
    | lst xs => exact .inr (.inr (.inr (.inr (go e))))
    | loc n => exact .inr (.inr (.inr (.inr (go e))))
    | _ => cases e
  | _ => cases dx <;> cases e
/-! ### isinstance(x, T), T a built-in type -/
def tyD (S : Sto) : D → Option String
  | .non => some "NoneType"
  | .bl _ => some "bool"
  | .int _ => some "int"
  | .str _ => some "str"
  | .tup _ => some "tuple"
  | .lst _ => some "list"
  | .dic _ _ => some "dict"
  | .loc n => match S[n]? with
    | some (.lst _) => some "list"
    | some (.dic _ _) => some "dict"
    | _ => none
  | _ => none
def gIsT (T : String) : G1 := fun S x => match tyD S x with
  | some t => (kitB t T).map D.bl
  | none => none
theorem tyD_of {c : Cs} {μ : Mu} {H : Hp} {S : Sto} {d : D} {t : String} {v : V} (rs : RS c μ H S) (h : tyD S d = some t) (r : Rep c μ H d v) : TyX c.K H v (.type t) := by
  cases d with
  | non => cases h; rw [show v = _ from r]; exact .base .non
  | bl b => cases h; rw [show v = _ from r]; exact .base (.bl b)
  | int b => cases h; rw [show v = _ from r]; exact .base (.int b)
  | str b => cases h; rw [show v = _ from r]; exact .base (.str b)
  | tup ds => cases h; obtain ⟨a, vs, rfl, h1, _⟩ := r; exact .base (.tup h1)
  | lst ds => cases h; obtain ⟨a, vs, rfl, h1, _⟩ := r; exact .base (.lst h1)
  | dic ks ds => cases h; obtain ⟨a, vs, rfl, h1, _⟩ := r; exact .base (.dK h1)
  | scr ns => cases h
  | loc n =>
    simp only [tyD] at h
    split at h
    · rename_i es e
      cases h
      obtain ⟨a, rfl, _, vs, e2, _⟩ := rs.at e r
      exact .base (.lst e2)
    · rename_i es e
      cases h
      obtain ⟨a, rfl, _, vs, e2, _⟩ := rs.at e r
      exact .base (.dK e2)
    · cases h
variable {W : WX} {e : Expr} {m : EM} {p pos p2 : Pos} {x2 : Str}
theorem pd_isT (T : String) (hm : X.mg "isinstance" = none) (hm2 : X.mg x2 = none) (hv2 : bootBuiltins x2 = some (.type T)) (he : PD X W e m) (hg : Gl X "isinstance" := by rfl) (hg2 : Gl X x2 := by rfl) (hn2 : x2 ≠ "__name__" := by decide) (hd2 : (x2 == ("__debug__" : Str)) = false := by decide)
    (hs : starEach [e, .Name x2 p2] X.env = (false, eval e X.env) :: starEach [.Name x2 p2] X.env := by rfl) (hs1 : starEach [.Name x2 p2] X.env = (false, eval (.Name x2 p2) X.env) :: starEach [] X.env := by rfl) (hpl : (backTo pos (starEach [.Name x2 p2] X.env)).any (·.1) = false := by rfl) :
    PD X W (.Call (.Name "isinstance" p) [e, .Name x2 p2] [] pos) (mUn (gIsT T) m) :=
  PE.con (pe_callB call_isi hg hm boot_isinstance (pa_cons he (pa_cons (pe_bltn (v := .ty T) hg2 hm2 hv2 rfl hn2 hd2) pa_nil hs1) hs) (by decide) (by decide) hs hpl) fun σ H Q h => by
    refine tG.seq (k := fun ρ x S => ofO (gIsT T S x) S) h fun μ ρ dx S x H1 rs re rx p => ?_
    obtain ⟨d, e, q⟩ := p.ofO rs
    unfold gIsT at e
    split at e
    · rename_i t et
      obtain ⟨b, e1, e2⟩ := Option.map_eq_some_iff.mp e
      subst e2
      exact ⟨x, .ty T, .type t, .type T, b, rfl, .ty T, tyD_of rs et rx, kit_ty e1, q _ _ (Same.refl _) rfl⟩
    · cases e
end
end Mir

set_option maxRecDepth 100000
namespace Mir
open PySem PySem.Spec PyProof.Rows L2
/-! ### new cells out of list * int, list + list -/
def nMul (S : Sto) (x y : D) : Option (List D) := match listT S x, y with
  | some xs, .int k => if -(2 ^ 63) ≤ k ∧ k < 2 ^ 63 ∧ xs.length * k.toNat ≤ sizeLine then some (List.replicate k.toNat xs).flatten else none
  | _, _ => none
def nCat (S : Sto) (x y : D) : Option (List D) := match listT S x, listT S y with
  | some xs, some ys => if xs.length + ys.length ≤ sizeLine then some (xs ++ ys) else none
  | _, _ => none
def newO (o : Option (List D)) (S : Sto) : R D := match o with
  | some zs => .ok (.loc S.length) (S ++ [.lst zs])
  | none => .bad
def mNew2 (g : Sto → D → D → Option (List D)) (a b : EM) : EM := fun ρ S => (a ρ S).bind fun x S => (b ρ S).bind fun y S => newO (g S x y) S
section
variable {X : L2.Cx} {W : WX} {a b : Expr} {ma mb : EM} {pos : Pos}
theorem tOp_new {g : Sto → D → D → Option (List D)} {r : R2} {σ : L2.St} {H : Hp} {Q : VK} (h : tG (cs X) W (Rep (cs X)) (mNew2 g ma mb) σ H Q)
    (i : ∀ (μ : Mu) (S : Sto) (dx dy : D) (zs : List D) (x y : V) (H : Hp) (Q : VK), RS (cs X) μ H S → Rep (cs X) μ H dx x → Rep (cs X) μ H dy y → g S dx dy = some zs → (∀ vs p, Reps (cs X) μ H zs vs → H p = none → Q (.ref p) (upd H p (.lst vs))) → r x y H Q) :
    tOp r (tG (cs X) W (Rep (cs X)) ma) (tG (cs X) W (Rep (cs X)) mb) σ H Q := by
  refine tG.seq (k := fun ρ x S => (mb ρ S).bind fun y S => newO (g S x y) S) h fun μ ρ dx S x H1 rs re rx p => ?_
  refine ⟨μ, ρ, S, rs, re, p.bind.imp fun y H2 ⟨μ2, dy, S2, x2, rs2, ry, p2⟩ => ?_⟩
  unfold newO at p2
  split at p2
  · rename_i zs e
    exact i μ2 S2 dx dy zs _ _ _ _ rs2 (Rep.mono x2 _ _ rx) ry e fun vs q rv hq => p2.newL rs2 rv hq
  · exact False.elim p2
theorem pd_newMul (ha : PD X W a ma) (hb : PD X W b mb) : PD X W (.BinOp a .Mult b pos) (mNew2 nMul ma mb) :=
  PE.con (pe_op op_rep ha hb) fun _ _ _ h => tOp_new h fun μ S dx dy zs x y H Q rs rx ry e q => by
    unfold nMul at e
    split at e
    · rename_i xs k e1
      split at e
      · rename_i hz
        cases e
        obtain ⟨a, vs, rfl, r1, h1⟩ := listT_of rs e1 rx
        exact ⟨a, k, vs, rfl, ry, h1, hz.1, hz.2.1, by rw [← r1.length]; exact hz.2.2, fun p hp => q _ _ (r1.rep _) hp⟩
      · cases e
    · cases e
theorem pd_newCat (ha : PD X W a ma) (hb : PD X W b mb) : PD X W (.BinOp a .Add b pos) (mNew2 nCat ma mb) :=
  PE.con (pe_op op_cat ha hb) fun _ _ _ h => tOp_new h fun μ S dx dy zs x y H Q rs rx ry e q => by
    unfold nCat at e
    split at e
    · rename_i xs ys e1 e2
      split at e
      · rename_i hz
        cases e
        obtain ⟨a, vs, rfl, r1, h1⟩ := listT_of rs e1 rx
        obtain ⟨b, ws, rfl, r2, h2⟩ := listT_of rs e2 ry
        exact ⟨a, b, vs, ws, rfl, rfl, h1, h2, by rw [← r1.length, ← r2.length]; exact hz, fun p hp => q _ _ (r1.append r2) hp⟩
      · cases e
    · cases e
end
end Mir

set_option maxRecDepth 100000
namespace Mir
open PySem PySem.Spec PyProof.Rows L2

theorem bo_int : bootBuiltins "int" = some (.type "int") := by decide +kernel
theorem bo_str : bootBuiltins "str" = some (.type "str") := by decide +kernel
theorem bo_tuple : bootBuiltins "tuple" = some (.type "tuple") := by decide +kernel
theorem bo_list : bootBuiltins "list" = some (.type "list") := by decide +kernel
theorem bo_dict : bootBuiltins "dict" = some (.type "dict") := by decide +kernel
theorem bo_bool : bootBuiltins "bool" = some (.type "bool") := by decide +kernel
theorem bo_range : bootBuiltins "range" = some (.type "range") := by decide +kernel
theorem bo_zip : bootBuiltins "zip" = some (.type "zip") := by decide +kernel
theorem bo_enumerate : bootBuiltins "enumerate" = some (.type "enumerate") := by decide +kernel
theorem bo_reversed : bootBuiltins "reversed" = some (.type "reversed") := by decide +kernel
theorem bo_set : bootBuiltins "set" = some (.type "set") := by decide +kernel
theorem bo_bytes : bootBuiltins "bytes" = some (.type "bytes") := by decide +kernel
theorem bo_float : bootBuiltins "float" = some (.type "float") := by decide +kernel
theorem bo_frozenset : bootBuiltins "frozenset" = some (.type "frozenset") := by decide +kernel
theorem bo_len : bootBuiltins "len" = some (.builtin "len") := by decide +kernel
theorem bo_abs : bootBuiltins "abs" = some (.builtin "abs") := by decide +kernel
theorem bo_sum : bootBuiltins "sum" = some (.builtin "sum") := by decide +kernel
theorem bo_all : bootBuiltins "all" = some (.builtin "all") := by decide +kernel
theorem bo_any : bootBuiltins "any" = some (.builtin "any") := by decide +kernel
theorem bo_max : bootBuiltins "max" = some (.builtin "max") := by decide +kernel
theorem bo_min : bootBuiltins "min" = some (.builtin "min") := by decide +kernel
theorem bo_isinstance : bootBuiltins "isinstance" = some (.builtin "isinstance") := by decide +kernel
theorem bo_sorted : bootBuiltins "sorted" = some (.builtin "sorted") := by decide +kernel
theorem bo_divmod : bootBuiltins "divmod" = some (.builtin "divmod") := by decide +kernel
theorem bo_repr : bootBuiltins "repr" = some (.builtin "repr") := by decide +kernel
theorem bo_ord : bootBuiltins "ord" = some (.builtin "ord") := by decide +kernel
theorem bo_chr : bootBuiltins "chr" = some (.builtin "chr") := by decide +kernel
theorem bo_getattr : bootBuiltins "getattr" = some (.builtin "getattr") := by decide +kernel
theorem bo_issubclass : bootBuiltins "issubclass" = some (.builtin "issubclass") := by decide +kernel
/-! ### the top -/
def Has (K : PySem.W.Frag) (x : Str) (st : Stmt) : Prop := ∃ (f : Addr) (oc kV dc pm cd ct : Value) (od an : Option Addr) (sl : Array (Option Value)),
  PySem.W.nsIn K mainGlobals x = some (some (.ref f)) ∧ K.lookup f = some ⟨oc, od, .func (PySem.W.fnOf x x (defArgs st) (defBody st) (defScope st) .none kV dc pm an cd ct), sl⟩ ∧ PySem.W.codeIn K cd x = true ∧ PySem.W.keepIn K (.ref f) = true
theorem has_mk {K : PySem.W.Frag} {x : Str} {st : Stmt} {f : Addr} {oc kV dc pm cd ct : Value} {od an : Option Addr} {sl : Array (Option Value)}
  (a : PySem.W.nsIn K mainGlobals x = some (some (.ref f))) (l : K.lookup f = some ⟨oc, od, .func (PySem.W.fnOf x x (defArgs st) (defBody st) (defScope st) .none kV dc pm an cd ct), sl⟩) (c : PySem.W.codeIn K cd x = true) (k : PySem.W.keepIn K (.ref f) = true) : Has K x st :=
  ⟨f, oc, kV, dc, pm, cd, ct, od, an, sl, a, l, c, k⟩
def Df (c : Cs) (x : Str) (st : Stmt) (ps : List Str) : Prop := ∃ f fd, Fun c.K x x st f fd ∧ c.mg x = some (.ref f) ∧ Binds c.K fd ps []
section
variable {K : PySem.W.Frag} {h : Heap} {mg : Str → Option Value} {x : Str} {st : Stmt} {ps : List Str}
theorem Has.df (H : Has K x st) (X : K.In h) (G : h.Ns mainGlobals mg)
    (hb : ∀ (kV doc pm : Value) (an : Option Addr) (cdv ct : Value) (us : List Value), us.length = ps.length → bindArgs (PySem.W.fnOf x x (defArgs st) (defBody st) (defScope st) .none kV doc pm an cdv ct) ⟨us, []⟩ = pure (ps.zip us)) : Df ⟨K, mg⟩ x st ps := by
  obtain ⟨f, oc, kV, dc, pm, cd, ct, od, an, sl, a, l, c, k⟩ := H
  have F := fun_mk (st := st) l c k
  exact ⟨f, _, F, PySem.W.mg_of X G a, F.binds (ps := ps) hb⟩
theorem law_mk {P : Program} {w : World} {k : Nat} {y : Str} {F : FM} {fa : Addr} (H : Has K x st) (X : K.In h) (G : h.Ns mainGlobals mg) (hfa : mg x = some (.ref fa))
    (hb : ∀ (kV doc pm : Value) (an : Option Addr) (cdv ct : Value) (u : Value), bindArgs (PySem.W.fnOf x x (defArgs st) (defBody st) (defScope st) .none kV doc pm an cdv ct) ⟨[u], []⟩ = pure [(y, u)])
    (ok : ∀ (base : Heap) (f : Addr) (fd : FuncData), Fun K x x st f fd → FnOk P w K mg base (L2.CX P w) k f fd [y] (spD ⟨K, mg⟩ 1 F))
    (hF : ∀ ns : List Int, ns.length ≤ 63 → ∃ S, F [.scr ns] [] = .ok (.bl true) S) :
    ∃ fd : FuncData, (∀ (s : Shared) (v : Value), BindsTo s fd ⟨[v], []⟩ [(y, v)]) ∧ ∀ base : Heap, K.In base → base.Ns mainGlobals mg → FnOk P w K mg base (L2.CX P w) k fa fd [y]
      (fun vs H Q E => ∃ (a : Addr) (ns : List Int), vs = [.ref a] ∧ ns.length ≤ 63 ∧ Only H ∧ SqL K H a (ns.map V.int) ∧ ∀ H', Q (.bl true) H') := by
  obtain ⟨f, oc, kV, dc, pm, cd, ct, od, an, sl, a, l, c, k1⟩ := H
  have FF := fun_mk (st := st) l c k1
  have e := hfa.symm.trans (PySem.W.mg_of X G a)
  cases e
  refine ⟨_, fun s v => .of_eq (hb _ _ _ _ _ _ v), fun base _ _ => (ok base _ _ FF).imp fun vs H Q E h => ?_⟩
  obtain ⟨a, ns, rfl, hl, hO, hS, q⟩ := h
  refine ⟨⟨[], []⟩, [], [.scr ns], ⟨List.nodup_nil, rfl, fun n o a e q => (by cases e), fun a z => (by cases z)⟩, ⟨_, _, rfl, ⟨a, rfl, ?_⟩, rfl⟩, rfl, ?_⟩
  · rcases hS with (hS | ⟨o, hS⟩) | hS
    · rcases hO a with z | ⟨o, xs, z⟩
      · rw [z] at hS; cases hS
      · rw [z] at hS; cases hS
    · exact .inl ⟨⟨o, hS⟩, by constructor <;> intro z <;> cases z⟩
    · exact .inr hS
  · obtain ⟨S, e⟩ := hF ns hl
    rw [e]
    intro v μ1 H1 x1 rs1 r1
    rw [show v = _ from r1]
    exact q H1
end
theorem walkM {l : PySem.W.OpenLaw} {q : Program} {loose : List Str} {XP : (Str → Option Value) → Heap → Prop} {YP : World → Heap → Prop} {d : DefRec} {K : Params → PySem.W.Frag} {k : Nat} {y : Str} (hn : l.most = some 63) (hdf : d.params.defaults = []) (hr : Room k callerA)
    (hY : ∀ (w : World) (h : Heap), YP w h → (K w.params).In h)
    (F : ∀ (w : World) (mg : Str → Option Value) (fa : Addr) (h : Heap), (K w.params).In h → h.Ns mainGlobals mg → mg d.name = some (.ref fa) →
      ∃ fd : FuncData, (∀ (s : Shared) (u : Value), BindsTo s fd ⟨[u], []⟩ [(y, u)]) ∧ ∀ base : Heap, (K w.params).In base → base.Ns mainGlobals mg → FnOk l.prog w (K w.params) mg base (L2.CX l.prog w) k fa fd [y]
        (fun vs H Q E => ∃ (a : Addr) (ns : List Int), vs = [.ref a] ∧ ns.length ≤ 63 ∧ Only H ∧ SqL (K w.params) H a (ns.map V.int) ∧ ∀ H', Q (.bl true) H')) :
    PySem.W.WalkO q loose XP YP l.row.toRowW d [] (fun f vs => PySem.call f vs) :=
  L2.walk_of (n := 63) (k := k) (x := y) (CX := fun w => L2.CX l.prog w) (sp := fun w => fun vs H Q E => ∃ (a : Addr) (ns : List Int), vs = [.ref a] ∧ ns.length ≤ 63 ∧ Only H ∧ SqL (K w.params) H a (ns.map V.int) ∧ ∀ H', Q (.bl true) H') hn (by decide) hdf hr hY F
    (fun _ H a ns hl hO hS => ⟨a, ns, rfl, hl, hO, hS, fun _ => rfl⟩) fun w H s e s' z => by
      obtain ⟨_, _, _, _, _, _, _, _, _, _, _, _, z⟩ := z
      exact z
end Mir

set_option maxRecDepth 100000
namespace Mir
open PySem PySem.Spec PyProof.Rows L2

/-- an equation that simp must not take for a definitional one -/
theorem eqr {α : Sort _} {a b : α} (h : a = b) : a = b := h
/-! ### what a mirror promises -/
inductive R.P {α : Type} : R α → (α → Sto → Prop) → Prop where
  | ok {a : α} {S : Sto} {Q : α → Sto → Prop} (h : Q a S) : R.P (.ok a S) Q
abbrev no2 : Env → Sto → Prop := fun _ _ => False
inductive Fl.P : Fl → (Env → Sto → Prop) → (D → Sto → Prop) → (Env → Sto → Prop) → (Env → Sto → Prop) → Prop where
  | nx {ρ : Env} {S : Sto} {nx bk ct : Env → Sto → Prop} {rt : D → Sto → Prop} (h : nx ρ S) : Fl.P (.nx ρ S) nx rt bk ct
  | rt {d : D} {S : Sto} {nx bk ct : Env → Sto → Prop} {rt : D → Sto → Prop} (h : rt d S) : Fl.P (.rt d S) nx rt bk ct
  | bk {ρ : Env} {S : Sto} {nx bk ct : Env → Sto → Prop} {rt : D → Sto → Prop} (h : bk ρ S) : Fl.P (.bk ρ S) nx rt bk ct
  | ct {ρ : Env} {S : Sto} {nx bk ct : Env → Sto → Prop} {rt : D → Sto → Prop} (h : ct ρ S) : Fl.P (.ct ρ S) nx rt bk ct
/-- an answer that must be there -/
inductive Op {α : Type} : Option α → (α → Prop) → Prop where
  | of {d : α} {Q : α → Prop} (h : Q d) : Op (some d) Q
@[simp] theorem Op_some {α : Type} {d : α} {Q : α → Prop} : Op (some d) Q = Q d := propext ⟨fun h => by cases h; assumption, .of⟩
@[simp] theorem Op_none {α : Type} {Q : α → Prop} : Op none Q = False := propext ⟨fun h => (by cases h), False.elim⟩
@[simp] theorem Op_ite {α : Type} {Q : α → Prop} {c : Prop} [Decidable c] {a b : Option α} : Op (if c then a else b) Q = if c then Op a Q else Op b Q := by split <;> rfl
@[simp] theorem Op_map {α β : Type} {Q : β → Prop} {f : α → β} {a : Option α} : Op (a.map f) Q = Op a fun x => Q (f x) := by
  cases a with
  | none => rw [Option.map_none, Op_none, Op_none]
  | some a => rw [Option.map_some, Op_some, Op_some]
theorem Op.mk {α : Type} {Q : α → Prop} {o : Option α} {d : α} (e : o = some d) (h : Q d) : Op o Q := by rw [e, Op_some]; exact h
theorem Op.eq {α : Type} {Q : α → Prop} {o : Option α} (h : Op o Q) : ∃ d, o = some d ∧ Q d := by
  cases h with
  | of h => exact ⟨_, rfl, h⟩
inductive OB : D → (Bool → Prop) → Prop where
  | of {b : Bool} {Q : Bool → Prop} (h : Q b) : OB (.bl b) Q
@[simp] theorem OB_bl {b : Bool} {Q : Bool → Prop} : OB (.bl b) Q = Q b := propext ⟨fun h => by cases h; assumption, .of⟩
theorem OB_no {x : D} {Q : Bool → Prop} (h : ∀ b, x ≠ .bl b) : OB x Q = False := propext ⟨fun q => by cases q; exact h _ rfl, False.elim⟩
inductive OI : D → (Int → Prop) → Prop where
  | of {b : Int} {Q : Int → Prop} (h : Q b) : OI (.int b) Q
@[simp] theorem OI_int {b : Int} {Q : Int → Prop} : OI (.int b) Q = Q b := propext ⟨fun h => by cases h; assumption, .of⟩
theorem OI_no {x : D} {Q : Int → Prop} (h : ∀ b, x ≠ .int b) : OI x Q = False := propext ⟨fun q => by cases q; exact h _ rfl, False.elim⟩
inductive OZ : D → (Str → Prop) → Prop where
  | of {b : Str} {Q : Str → Prop} (h : Q b) : OZ (.str b) Q
@[simp] theorem OZ_str {b : Str} {Q : Str → Prop} : OZ (.str b) Q = Q b := propext ⟨fun h => by cases h; assumption, .of⟩
theorem OZ_no {x : D} {Q : Str → Prop} (h : ∀ b, x ≠ .str b) : OZ x Q = False := propext ⟨fun q => by cases q; exact h _ rfl, False.elim⟩
section
variable {α β : Type} {r : R α} {Q Q' : α → Sto → Prop} {S : Sto} {a : α}
@[simp] theorem P_ok : (R.ok a S).P Q = Q a S := propext ⟨fun h => by cases h; assumption, .ok⟩
@[simp] theorem P_bad : (R.bad : R α).P Q = False := propext ⟨fun h => (by cases h), False.elim⟩
@[simp] theorem P_exc {x : Exn} : (R.exc x S : R α).P Q = False := propext ⟨fun h => (by cases h), False.elim⟩
@[simp] theorem P_bind {f : α → Sto → R β} {Q : β → Sto → Prop} : (r.bind f).P Q = r.P fun a S => (f a S).P Q := by cases r <;> simp
@[simp] theorem P_ofO {o : Option α} : (ofO o S).P Q = Op o fun d => Q d S := by cases o <;> simp
@[simp] theorem P_nox : r.nox.P Q = r.P Q := by cases r <;> simp [R.nox]
@[simp] theorem P_ite {c : Prop} [Decidable c] {r r' : R α} : (if c then r else r').P Q = if c then r.P Q else r'.P Q := by split <;> rfl
theorem R.P.imp (h : r.P Q) (f : ∀ a S, Q a S → Q' a S) : r.P Q' := by
  cases h with
  | ok h => exact .ok (f _ _ h)
theorem R.P.eq (h : r.P Q) : ∃ a S, r = .ok a S ∧ Q a S := by
  cases h with
  | ok h => exact ⟨_, _, rfl, h⟩
theorem P_of_eq {S' : Sto} (e : r = .ok a S') (h : Q a S') : r.P Q := by rw [e]; exact .ok h
end
section
variable {nx nx' bk bk' ct ct' : Env → Sto → Prop} {rt rt' : D → Sto → Prop} {f : Fl} {ρ : Env} {S : Sto}
@[simp] theorem F_nx : (Fl.nx ρ S).P nx rt bk ct = nx ρ S := propext ⟨fun h => by cases h; assumption, .nx⟩
@[simp] theorem F_rt {d : D} : (Fl.rt d S).P nx rt bk ct = rt d S := propext ⟨fun h => by cases h; assumption, .rt⟩
@[simp] theorem F_bk : (Fl.bk ρ S).P nx rt bk ct = bk ρ S := propext ⟨fun h => by cases h; assumption, .bk⟩
@[simp] theorem F_ct : (Fl.ct ρ S).P nx rt bk ct = ct ρ S := propext ⟨fun h => by cases h; assumption, .ct⟩
@[simp] theorem F_bad : Fl.bad.P nx rt bk ct = False := propext ⟨fun h => (by cases h), False.elim⟩
@[simp] theorem F_exc {x : Exn} : (Fl.exc x ρ S).P nx rt bk ct = False := propext ⟨fun h => (by cases h), False.elim⟩
@[simp] theorem F_of {α : Type} {r : R α} {k : α → Sto → Fl} : (Fl.of r ρ k).P nx rt bk ct = r.P fun a S => (k a S).P nx rt bk ct := by cases r <;> simp [Fl.of]
theorem Fl.P.imp (h : f.P nx rt bk ct) (h1 : ∀ ρ S, nx ρ S → nx' ρ S) (h2 : ∀ d S, rt d S → rt' d S) (h3 : ∀ ρ S, bk ρ S → bk' ρ S) (h4 : ∀ ρ S, ct ρ S → ct' ρ S) : f.P nx' rt' bk' ct' := by
  cases h with
  | nx h => exact .nx (h1 _ _ h)
  | rt h => exact .rt (h2 _ _ h)
  | bk h => exact .bk (h3 _ _ h)
  | ct h => exact .ct (h4 _ _ h)
@[simp] theorem F_ite {c : Prop} [Decidable c] {r r' : Fl} : (if c then r else r').P nx rt bk ct = if c then r.P nx rt bk ct else r'.P nx rt bk ct := by split <;> rfl
@[simp] theorem F_nil : (sNil ρ S).P nx rt bk ct = nx ρ S := by unfold sNil; simp
@[simp] theorem F_break : (sBreak ρ S).P nx rt bk ct = bk ρ S := by unfold sBreak; simp
@[simp] theorem F_cont : (sCont ρ S).P nx rt bk ct = ct ρ S := by unfold sCont; simp
@[simp] theorem F_retN : (sRetN ρ S).P nx rt bk ct = rt .non S := by unfold sRetN; simp
@[simp] theorem F_seq {a b : SM} : (sSeq a b ρ S).P nx rt bk ct = (a ρ S).P (fun ρ S => (b ρ S).P nx rt bk ct) rt bk ct := by
  unfold sSeq
  cases a ρ S <;> simp
theorem F_mid {a b : SM} (mid : Env → Sto → Prop) (h1 : (a ρ S).P mid rt bk ct) (h2 : ∀ ρ S, mid ρ S → (b ρ S).P nx rt bk ct) : (sSeq a b ρ S).P nx rt bk ct := by
  rw [F_seq]
  exact h1.imp h2 (fun _ _ h => h) (fun _ _ h => h) fun _ _ h => h
@[simp] theorem F_set {i : Nat} {m : EM} : (sSet i m ρ S).P nx rt bk ct = (m ρ S).P fun d S => nx (ρ.set i (some d)) S := by simp [sSet]
@[simp] theorem F_expr {m : EM} : (sExpr m ρ S).P nx rt bk ct = (m ρ S).P fun _ S => nx ρ S := by simp [sExpr]
@[simp] theorem F_ret {m : EM} : (sRet m ρ S).P nx rt bk ct = (m ρ S).P rt := by simp [sRet]
@[simp] theorem F_if {t : TM} {a b : SM} : (sIf t a b ρ S).P nx rt bk ct = (t ρ S).P fun k S => if k then (a ρ S).P nx rt bk ct else (b ρ S).P nx rt bk ct := by simp [sIf]
@[simp] theorem F_asg {g : GM} {m : EM} : (sAsg g m ρ S).P nx rt bk ct = (m ρ S).P fun d S => Op (g d ρ) fun ρ' => nx ρ' S := by
  unfold sAsg
  rw [F_of]
  congr 1
  funext d S
  cases g d ρ <;> simp
end
section
variable {Q : D → Sto → Prop} {QB : Bool → Sto → Prop} {QA : List D → Sto → Prop} {S : Sto} {ρ : Env} {g g' : G2} {a b m mo me : EM} {t u : TM} {ma r : AM}
@[simp] theorem P_var {i : Nat} : (eVar i ρ S).P Q = Op (ρ[i]?) fun o => Op o fun d => Q d S := by
  unfold eVar
  rcases ρ[i]? with _ | _ | d <;> simp
@[simp] theorem P_c {d : D} : (eC d ρ S).P Q = Q d S := by unfold eC; simp
@[simp] theorem P_bin : (mBin g a b ρ S).P Q = (a ρ S).P fun x S => (b ρ S).P fun y S => Op (g S x y) fun d => Q d S := by simp [mBin]
@[simp] theorem P_un {g : G1} : (mUn g a ρ S).P Q = (a ρ S).P fun x S => Op (g S x) fun d => Q d S := by simp [mUn]
@[simp] theorem P_tru : (mTru m ρ S).P QB = (m ρ S).P fun x S => Op (truD S x) fun d => QB d S := by simp [mTru]
@[simp] theorem P_bl : (mBl m ρ S).P QB = (m ρ S).P fun x S => OB x fun b => QB b S := by
  unfold mBl
  rw [P_bind]
  congr 1
  funext x S
  cases x <;> simp [OB_no, OI_no, OZ_no]
@[simp] theorem P_andT : (mAndT t u ρ S).P QB = (t ρ S).P fun k S => if k then (u ρ S).P QB else QB false S := by simp [mAndT]
@[simp] theorem P_orT : (mOrT t u ρ S).P QB = (t ρ S).P fun k S => if k then QB true S else (u ρ S).P QB := by simp [mOrT]
@[simp] theorem P_notT : (mNotT t ρ S).P QB = (t ρ S).P fun k S => QB (!k) S := by simp [mNotT]
@[simp] theorem P_yes : (tmYes ρ S).P QB = QB true S := by unfold tmYes; simp
@[simp] theorem P_and : (mAnd a b ρ S).P Q = (a ρ S).P fun x S => Op (truD S x) fun k => if k then (b ρ S).P Q else Q x S := by
  unfold mAnd
  rw [P_bind]
  congr 1
  funext x S
  cases truD S x <;> simp
@[simp] theorem P_or : (mOr a b ρ S).P Q = (a ρ S).P fun x S => Op (truD S x) fun k => if k then Q x S else (b ρ S).P Q := by
  unfold mOr
  rw [P_bind]
  congr 1
  funext x S
  cases truD S x <;> simp
@[simp] theorem P_not : (mNot a ρ S).P Q = (a ρ S).P fun x S => Op (truD S x) fun k => Q (.bl (!k)) S := by
  unfold mNot
  rw [P_un]
  congr 1
  funext x S
  cases truD S x <;> simp
@[simp] theorem P_chain {c : EM} : (mChain g g' a b c ρ S).P Q = (a ρ S).P fun x S => (b ρ S).P fun y S => Op (g S x y) fun d => OB d fun z => if z then (c ρ S).P fun w S => Op (g' S y w) fun d => Q d S else Q (.bl false) S := by
  unfold mChain
  simp only [P_bind, P_ofO]
  congr 1
  funext x S
  congr 1
  funext y S
  cases g S x y with
  | none => simp
  | some d =>
    cases d with
    | bl z => cases z <;> simp
    | _ => simp [OB_no]
@[simp] theorem P_nilA : (aNil ρ S).P QA = QA [] S := by unfold aNil; simp
@[simp] theorem P_consA : (aCons m r ρ S).P QA = (m ρ S).P fun x S => (r ρ S).P fun xs S => QA (x :: xs) S := by simp [aCons]
@[simp] theorem P_tup : (mTup ma ρ S).P Q = (ma ρ S).P fun xs S => xs.length ≤ sizeLine ∧ Q (.tup xs) S := by simp [mTup, and_assoc]
@[simp] theorem P_lst : (mLst ma ρ S).P Q = (ma ρ S).P fun xs S => xs.length ≤ sizeLine ∧ Q (.lst xs) S := by simp [mLst, and_assoc]
@[simp] theorem P_newL : (mNewL ma ρ S).P Q = (ma ρ S).P fun xs S => xs.length ≤ sizeLine ∧ Q (.loc S.length) (S ++ [.lst xs]) := by
  unfold mNewL
  simp only [P_bind, P_ite, P_ok, P_bad]
  congr 1
  funext x S
  split <;> simp [*]
@[simp] theorem P_new2 {g : Sto → D → D → Option (List D)} : (mNew2 g a b ρ S).P Q = (a ρ S).P fun x S => (b ρ S).P fun y S => Op (g S x y) fun zs => Q (.loc S.length) (S ++ [.lst zs]) := by
  unfold mNew2
  simp only [P_bind]
  congr 1; funext x S
  congr 1; funext y S
  cases g S x y <;> simp [newO]
@[simp] theorem P_call {g : GN} : (mCall g ma ρ S).P Q = (ma ρ S).P fun xs S => Op (g S xs) fun d => Q d S := by simp [mCall]
@[simp] theorem P_app {F : FM} : (mApp F ma ρ S).P Q = (ma ρ S).P fun xs S => (F xs S).P Q := by simp [mApp]
@[simp] theorem P_str1 {g : GS1} : (mStr1 g mo me ρ S).P Q = (mo ρ S).P fun x S => OZ x fun z => (me ρ S).P fun y S => Op (g S z y) fun d => Q d S := by
  unfold mStr1
  rw [P_bind]
  congr 1
  funext x S
  cases x <;> simp [OB_no, OI_no, OZ_no]
@[simp] theorem P_str0 {g : Str → Option D} : (mStr0 g mo ρ S).P Q = (mo ρ S).P fun x S => OZ x fun z => Op (g z) fun d => Q d S := by
  unfold mStr0
  rw [P_bind]
  congr 1
  funext x S
  cases x <;> simp [OB_no, OI_no, OZ_no]
@[simp] theorem P_lst1 {g : Sto → List D → D → Option (D × List D)} : (mLst1 g mo me ρ S).P Q = (mo ρ S).P fun x S => Op (cellL S x) fun _ => (me ρ S).P fun y S => Op (cellL S x) fun p => Op (g S p.2 y) fun q => Q q.1 (S.set p.1 (.lst q.2)) := by
  unfold mLst1
  rw [P_bind]
  congr 1
  funext x S
  cases cellL S x with
  | none => simp
  | some p =>
    simp only [P_bind, Op_some]
    congr 1
    funext y S
    cases cellL S x with
    | none => simp
    | some p =>
      obtain ⟨n, ds⟩ := p
      simp only [Op_some]
      cases g S ds y with
      | none => simp
      | some q => obtain ⟨d, ds'⟩ := q; simp
@[simp] theorem P_lst0 {g : List D → Option (D × List D)} : (mLst0 g mo ρ S).P Q = (mo ρ S).P fun x S => Op (cellL S x) fun p => Op (g p.2) fun q => Q q.1 (S.set p.1 (.lst q.2)) := by
  unfold mLst0
  rw [P_bind]
  congr 1
  funext x S
  cases cellL S x with
  | none => simp
  | some p =>
    obtain ⟨n, ds⟩ := p
    simp only [Op_some]
    cases g ds with
    | none => simp
    | some q => obtain ⟨d, ds'⟩ := q; simp
@[simp] theorem P_sl {ml mh : OM} : (mSl m ml mh ρ S).P Q = (m ρ S).P fun x S => (ml ρ S).P fun l S => (mh ρ S).P fun h S => Op (gSl S x l h) fun d => Q d S := by simp [mSl]
@[simp] theorem P_oNone {QO : Option Int → Sto → Prop} : (oNone ρ S).P QO = QO none S := by unfold oNone; simp
@[simp] theorem P_oSome {QO : Option Int → Sto → Prop} : (oSome m ρ S).P QO = (m ρ S).P fun x S => OI x fun i => QO (some i) S := by
  unfold oSome
  rw [P_bind]
  congr 1
  funext x S
  cases x <;> simp [OB_no, OI_no, OZ_no]
@[simp] theorem F_putIx {mi : EM} {nx bk ct : Env → Sto → Prop} {rt : D → Sto → Prop} : (sPutIx mo mi me ρ S).P nx rt bk ct = (me ρ S).P fun d S => (mo ρ S).P fun x S => (mi ρ S).P fun i S => Op (cellL S x) fun p => OI i fun k => Op (ixN p.2.length k) fun j => nx ρ (S.set p.1 (.lst (p.2.set j d))) := by
  unfold sPutIx
  simp only [F_of]
  congr 1; funext d S
  congr 1; funext x S
  congr 1; funext i S
  cases cellL S x with
  | none => simp
  | some p =>
    obtain ⟨n, ds⟩ := p
    cases i with
    | int k =>
      simp only [Op_some, OI_int]
      cases ixN ds.length k with
      | none => simp
      | some j => simp
    | _ => simp [OI_no]
@[simp] theorem P_mItS {f : Sto → List D → Option (List D × List (Nat × List D))} {QI : List D × List (Nat × List D) → Sto → Prop} : (mItS f ma ρ S).P QI = (ma ρ S).P fun xs S => Op (f S xs) fun it => QI it S := by simp [mItS]
@[simp] theorem P_mIt {f : List D → Option (List D × List (Nat × List D))} {QI : List D × List (Nat × List D) → Sto → Prop} : (mIt f ma ρ S).P QI = (ma ρ S).P fun xs S => Op (f xs) fun it => QI it S := by simp [mIt]
@[simp] theorem P_mIter {QI : List D × List (Nat × List D) → Sto → Prop} : (mIter m ρ S).P QI = (m ρ S).P fun x S => Op (itemsD S x) fun it => QI it S := by simp [mIter]
theorem P_def {n : Nat} {m : SM} {ds : List D} : (mDef n m ds S).P Q = (m (startE n ds) S).P (fun _ S => Q .non S) Q no2 no2 := by
  unfold mDef
  cases m (startE n ds) S <;> simp [endF]
/-! loops -/
theorem F_for {mi : IM} {g : GM} {b : SM} {nx bk ct : Env → Sto → Prop} {rt : D → Sto → Prop} (inv : List D → Env → Sto → Prop)
    (h : (mi ρ S).P fun it S1 => inv it.1 ρ S1 ∧ (∀ r ρ S, inv r ρ S → Keeps it S) ∧ (∀ d r ρ S, inv (d :: r) ρ S → ∃ ρ1, g d ρ = some ρ1 ∧ (b ρ1 S).P (inv r) rt nx (inv r)) ∧ ∀ ρ S, inv [] ρ S → nx ρ S) :
    (sFor mi g b ρ S).P nx rt bk ct := by
  unfold sFor
  rw [F_of]
  refine h.imp ?_
  clear h
  rintro it S1 ⟨h1, h2, h3, h4⟩
  generalize hl : it.1 = l at h1
  clear hl
  induction l generalizing ρ S1 with
  | nil =>
    unfold sForL
    rw [if_pos (h2 _ _ _ h1)]
    rw [F_nx]
    exact h4 _ _ h1
  | cons d r ih =>
    unfold sForL
    rw [if_pos (h2 _ _ _ h1)]
    obtain ⟨ρ1, e, hb⟩ := h3 _ _ _ _ h1
    rw [e]
    dsimp only
    cases hbe : b ρ1 S1 with
    | nx ρ2 S2 => rw [hbe, F_nx] at hb; exact ih _ hb
    | ct ρ2 S2 => rw [hbe, F_ct] at hb; exact ih _ hb
    | bk ρ2 S2 => rw [hbe, F_bk] at hb; exact .nx hb
    | rt d S2 => rw [hbe, F_rt] at hb; exact .rt hb
    | exc x ρ S => rw [hbe, F_exc] at hb; exact hb.elim
    | bad => rw [hbe, F_bad] at hb; exact hb.elim
theorem compL_P {it : List D × List (Nat × List D)} {g : GM} {tm : TM} {me : EM} {ρ : Env} (inv : List D → List D → Sto → Prop) (h2 : ∀ r acc S, inv r acc S → Keeps it S)
    (h3 : ∀ d r acc S, inv (d :: r) acc S → ∃ ρ1, g d ρ = some ρ1 ∧ (tm ρ1 S).P fun k S2 => if k then (me ρ1 S2).P fun y S3 => inv r (acc ++ [y]) S3 else inv r acc S2) :
    ∀ (l acc : List D) (S : Sto), inv l acc S → (compL it g tm me ρ l S).P fun ys S' => inv [] (acc ++ ys) S'
  | [], acc, S, h => by
    unfold compL
    rw [if_pos (h2 _ _ _ h)]
    simpa using h
  | d :: r, acc, S, h => by
    unfold compL
    rw [if_pos (h2 _ _ _ h)]
    obtain ⟨ρ1, e, hb⟩ := h3 _ _ _ _ h
    rw [e]
    dsimp only
    simp only [P_bind, P_nox]
    refine hb.imp fun k S2 hk => ?_
    cases k with
    | false =>
      simp only [Bool.false_eq_true, if_false] at hk ⊢
      exact compL_P inv h2 h3 r acc S2 hk
    | true =>
      simp only [if_true, P_bind, P_nox, P_ok] at hk ⊢
      refine hk.imp fun y S3 hy => ?_
      refine (compL_P inv h2 h3 r (acc ++ [y]) S3 hy).imp fun ys S4 h4 => ?_
      rw [List.append_assoc] at h4
      exact h4
theorem P_comp {fin : List D → Sto → R D} {mi : IM} {g : GM} {tm : TM} {vs : List Nat} (inv : List D → List D → Sto → Prop)
    (h : (mi ρ S).P fun it S1 => it.1.length ≤ sizeLine ∧ inv it.1 [] S1 ∧ (∀ r acc S, inv r acc S → Keeps it S) ∧
      (∀ d r acc S, inv (d :: r) acc S → ∃ ρ1, g d (wipeE ρ vs) = some ρ1 ∧ (tm ρ1 S).P fun k S2 => if k then (me ρ1 S2).P fun y S3 => inv r (acc ++ [y]) S3 else inv r acc S2) ∧
      ∀ ys S2, inv [] ys S2 → (fin ys S2).P Q) : (mComp fin mi g tm me vs ρ S).P Q := by
  unfold mComp
  rw [P_bind]
  refine h.imp ?_
  rintro it S1 ⟨hl, h1, h2, h3, h4⟩
  rw [if_pos hl, P_bind]
  exact (compL_P inv h2 h3 it.1 [] S1 h1).imp fun ys S2 h5 => h4 _ _ h5
@[simp] theorem P_finF {ds : List D} : (finF ds S).P Q = Q (.lst ds) S := by unfold finF; simp
@[simp] theorem P_finC {ds : List D} : (finC ds S).P Q = Q (.loc S.length) (S ++ [.lst ds]) := by unfold finC; simp
theorem F_while {t : TM} {b : SM} {nx bk ct : Env → Sto → Prop} {rt : D → Sto → Prop} (inv : Nat → Env → Sto → Prop) (N n : Nat) (hn : n < N) (h : inv n ρ S)
    (hs : ∀ n ρ S, inv n ρ S → (t ρ S).P fun k S => if k then 0 < n ∧ (b ρ S).P (inv (n - 1)) rt nx (inv (n - 1)) else nx ρ S) : (sWhile t b N ρ S).P nx rt bk ct := by
  induction N generalizing n ρ S with
  | zero => omega
  | succ N ih =>
    unfold sWhile
    rw [F_of]
    refine (hs n ρ S h).imp fun k S1 hk => ?_
    cases k with
    | false => simpa using hk
    | true =>
      simp only [if_true] at hk ⊢
      obtain ⟨h0, hb⟩ := hk
      cases hbe : b ρ S1 with
      | nx ρ2 S2 => rw [hbe, F_nx] at hb; exact ih (n - 1) (by omega) hb
      | ct ρ2 S2 => rw [hbe, F_ct] at hb; exact ih (n - 1) (by omega) hb
      | bk ρ2 S2 => rw [hbe, F_bk] at hb; exact .nx hb
      | rt d S2 => rw [hbe, F_rt] at hb; exact .rt hb
      | exc x ρ S => rw [hbe, F_exc] at hb; exact hb.elim
      | bad => rw [hbe, F_bad] at hb; exact hb.elim
end
end Mir

set_option maxRecDepth 100000
namespace Mir
open PySem PySem.Spec PyProof.Rows L2
section
variable {S : Sto} {i j : Int} {a b : Bool} {ds es : List D} {n : Nat} {ns : List Int} {x y : D}
@[simp] theorem ev_add : gAdd S (.int i) (.int j) = some (.int (i + j)) := eqr rfl
@[simp] theorem ev_sub : gSub S (.int i) (.int j) = some (.int (i - j)) := eqr rfl
@[simp] theorem ev_and : gAnd S (.int i) (.int j) = some (.int (Builtin.bitAnd i j)) := eqr rfl
@[simp] theorem ev_or : gOr S (.int i) (.int j) = some (.int (Builtin.bitOr i j)) := eqr rfl
@[simp] theorem ev_xor : gXor S (.int i) (.int j) = some (.int (Builtin.bitXor i j)) := eqr rfl
@[simp] theorem ev_lt : gLt S (.int i) (.int j) = some (.bl (decide (i < j))) := eqr rfl
@[simp] theorem ev_le : gLe S (.int i) (.int j) = some (.bl (decide (i ≤ j))) := eqr rfl
@[simp] theorem ev_gt : gGt S (.int i) (.int j) = some (.bl (decide (j < i))) := eqr rfl
@[simp] theorem ev_ge : gGe S (.int i) (.int j) = some (.bl (decide (j ≤ i))) := eqr rfl
@[simp] theorem ev_neg : gNeg S (.int i) = some (.int (-i)) := eqr rfl
theorem cDiv_lt (h0 : 0 < j) (h1 : j < 18446744073709551616) : cDiv i j = true := by
  unfold cDiv
  rw [decide_eq_true h0, Bool.true_and, decide_eq_true_eq]
  have : j.natAbs.log2 < 64 := by
    rw [Nat.log2_lt (by omega)]
    omega
  omega
theorem ev_fdiv (h0 : 0 < j) (h1 : j < 18446744073709551616) : gFdiv S (.int i) (.int j) = some (.int (i / j)) := by
  show (if cDiv i j = true then _ else _) = _
  rw [if_pos (cDiv_lt h0 h1)]
theorem ev_mod (h0 : 0 < j) : gMod S (.int i) (.int j) = some (.int (i % j)) := by
  show (if decide (0 < j) = true then _ else _) = _
  rw [if_pos (decide_eq_true h0)]
theorem ev_mul (h : (-18446744073709551616 < i ∧ i < 18446744073709551616) ∨ (-18446744073709551616 < j ∧ j < 18446744073709551616)) : gMul S (.int i) (.int j) = some (.int (i * j)) := by
  show (if cMul i j = true then _ else _) = _
  rw [if_pos]
  unfold cMul
  rcases h with h | h
  · rw [decide_eq_true (show -(2 ^ 64) < i ∧ i < 2 ^ 64 from h)]; rfl
  · rw [decide_eq_true (show -(2 ^ 64) < j ∧ j < 2 ^ 64 from h), Bool.or_true, Bool.true_or]
theorem ev_pow (h : 0 ≤ j ∧ j ≤ 1000000 ∧ i.natAbs < 18446744073709551616) : gPow S (.int i) (.int j) = some (.int (i ^ j.toNat)) := by
  show (if cPow i j = true then _ else _) = _
  rw [if_pos]
  unfold cPow
  rw [decide_eq_true h.1, decide_eq_true h.2.1, decide_eq_true (show i.natAbs < 2 ^ 64 from h.2.2)]; rfl
theorem ev_shl (h : 0 ≤ j ∧ j ≤ 1000000 ∧ i.natAbs < 18446744073709551616) : gShl S (.int i) (.int j) = some (.int (i * 2 ^ j.toNat)) := by
  show (if cPow i j = true then _ else _) = _
  rw [if_pos]
  unfold cPow
  rw [decide_eq_true h.1, decide_eq_true h.2.1, decide_eq_true (show i.natAbs < 2 ^ 64 from h.2.2)]; rfl
theorem ev_shr (h : 0 ≤ j) : gShr S (.int i) (.int j) = some (.int (i / 2 ^ j.toNat)) := by
  show (if decide (0 ≤ j) = true then _ else _) = _
  rw [if_pos (decide_eq_true h)]
@[simp] theorem ev_eqi : gEq S (.int i) (.int j) = some (.bl (decide (i = j))) := by
  show some (D.bl (PyData.eqv _ _)) = _
  congr 2
theorem beq_eq_decide' (s t : Str) : (s == t) = decide (s = t) := by
  by_cases h : s = t
  · subst h; simp
  · simp [h]
def okS (s : Str) : Prop := okPy (.str s) = true
theorem ev_eqs {s t : Str} (hs : okS s) (ht : okS t) : gEq S (.str s) (.str t) = some (.bl (decide (s = t))) := by
  show (if (okPy (.str s) && okPy (.str t)) = true then some (D.bl (s == t)) else none) = _
  rw [if_pos]
  · rw [beq_eq_decide']
  · rw [show okPy (.str s) = true from hs, show okPy (.str t) = true from ht]; rfl
@[simp] theorem ev_eqb : gEq S (.bl a) (.bl b) = some (.bl (decide (a = b))) := by cases a <;> cases b <;> rfl
@[simp] theorem ev_gint : gInt S [.int i] = some (.int i) := eqr rfl
@[simp] theorem ev_gintb : gInt S [.bl a] = some (.int (if a then 1 else 0)) := eqr rfl
@[simp] theorem ev_lenL : gLen S [.lst ds] = some (.int (ds.length : Nat)) := eqr rfl
@[simp] theorem ev_lenT : gLen S [.tup ds] = some (.int ds.length) := eqr rfl
@[simp] theorem ev_lenS : gLen S [.scr ns] = some (.int ns.length) := by
  show ((some (ns.map D.int)).map fun ds => D.int (ds.length : Nat)) = _
  simp
theorem ev_lenC (h : S[n]? = some (.lst ds)) : gLen S [.loc n] = some (.int (ds.length : Nat)) := by
  unfold gLen
  simp [dictT, seqD, h]
@[simp] theorem ev_ixL : gIx S (.lst ds) (.int i) = atI ds i := eqr rfl
@[simp] theorem ev_ixT : gIx S (.tup ds) (.int i) = atI ds i := eqr rfl
@[simp] theorem ev_ixS : gIx S (.scr ns) (.int i) = atI (ns.map D.int) i := eqr rfl
theorem ev_ixC (h : S[n]? = some (.lst ds)) : gIx S (.loc n) (.int i) = atI ds i := by
  show gIx1 S (.loc n) (.int i) = _
  simp [gIx1, dictT, seqD, h, ixD]
theorem ev_cell (h : S[n]? = some (.lst ds)) : cellL S (.loc n) = some (n, ds) := by simp [cellL, h]
@[simp] theorem ev_truB : truD S (.bl a) = some a := eqr rfl
@[simp] theorem ev_truI : truD S (.int i) = some (i != 0) := eqr rfl
@[simp] theorem ev_truN : truD S .non = some false := eqr rfl
@[simp] theorem ev_truT : truD S (.tup ds) = some (!ds.isEmpty) := eqr rfl
@[simp] theorem ev_truL : truD S (.lst ds) = some (!ds.isEmpty) := eqr rfl
@[simp] theorem ev_itT : itemsD S (.tup ds) = some (ds, []) := eqr rfl
@[simp] theorem ev_itL : itemsD S (.lst ds) = some (ds, []) := eqr rfl
theorem ev_itC (h : S[n]? = some (.lst ds)) : itemsD S (.loc n) = some (ds, [(n, ds)]) := by simp [itemsD, h]
@[simp] theorem ev_tupL : gTuple S [.lst ds] = some (.tup ds) := eqr rfl
@[simp] theorem ev_tupT : gTuple S [.tup ds] = some (.tup ds) := eqr rfl
theorem ev_tupC (h : S[n]? = some (.lst ds)) : gTuple S [.loc n] = some (.tup ds) := by simp [gTuple, listT, h]
@[simp] theorem ev_listL : gList S [.lst ds] = some (.lst ds) := eqr rfl
theorem okR_of (h : -4611686018427387904 ≤ j ∧ j < 4611686018427387904) : okR j = true := by
  unfold okR
  simp only [Bool.and_eq_true, decide_eq_true_eq]
  omega
theorem ev_rng1 (h : -4611686018427387904 ≤ j ∧ j < 4611686018427387904) : rng1 [.int j] = some (rngD 0 j.toNat, []) := by
  show (if okR j = true then _ else _) = _
  rw [if_pos (okR_of h)]
theorem ev_rng1n {n : Nat} (h : n < 4611686018427387904) : rng1 [.int n] = some (rngD 0 n, []) := by
  rw [ev_rng1 (by omega), Int.toNat_natCast]
theorem ev_rng2 (h : -4611686018427387904 ≤ i ∧ i < 4611686018427387904) (h2 : -4611686018427387904 ≤ j ∧ j < 4611686018427387904) : rng2 [.int i, .int j] = some (rngD i (j - i).toNat, []) := by
  show (if (okR i && okR j) = true then _ else _) = _
  rw [if_pos (by rw [okR_of h, okR_of h2]; rfl)]
@[simp] theorem ev_max : gMax S [.int i, .int j] = some (.int (if j > i then j else i)) := eqr rfl
@[simp] theorem ev_min : gMin S [.int i, .int j] = some (.int (if j < i then j else i)) := eqr rfl
@[simp] theorem ev_zipTT : zip2 S [.tup ds, .tup es] = some (zipD ds es, []) := eqr rfl
@[simp] theorem ev_zipLL : zip2 S [.lst ds, .lst es] = some (zipD ds es, []) := eqr rfl
@[simp] theorem ev_zipTL : zip2 S [.tup ds, .lst es] = some (zipD ds es, []) := eqr rfl
@[simp] theorem ev_zipLT : zip2 S [.lst ds, .tup es] = some (zipD ds es, []) := eqr rfl
@[simp] theorem ev_enumT : enum1 S [.tup ds] = some (enumD 0 ds, []) := eqr rfl
@[simp] theorem ev_enumL : enum1 S [.lst ds] = some (enumD 0 ds, []) := eqr rfl
@[simp] theorem ev_ap : gAppend S ds y = if ds.length < sizeLine then some (.non, ds ++ [y]) else none := eqr rfl
@[simp] theorem keeps_nil {l : List D} : Keeps (l, []) S := fun p h => by cases h
theorem small (h : n ≤ 1000000) : n ≤ sizeLine := Nat.le_trans h (by decide)
end

section
variable {S : Sto} {i : Int} {a : Bool} {s : Str} {ds : List D}
theorem isT_of {T t : String} {d : D} {b : Bool} (h : tyD S d = some t) (k : kitB t T = some b) : gIsT T S d = some (.bl b) := by
  unfold gIsT
  rw [h]
  simp [k]
@[simp] theorem ev_is_int_int : gIsT "int" S (.int i) = some (.bl true) := isT_of rfl (by decide +kernel)
@[simp] theorem ev_is_int_bl : gIsT "int" S (.bl a) = some (.bl true) := isT_of rfl (by decide +kernel)
@[simp] theorem ev_is_int_str : gIsT "int" S (.str s) = some (.bl false) := isT_of rfl (by decide +kernel)
@[simp] theorem ev_is_int_tup : gIsT "int" S (.tup ds) = some (.bl false) := isT_of rfl (by decide +kernel)
@[simp] theorem ev_is_int_lst : gIsT "int" S (.lst ds) = some (.bl false) := isT_of rfl (by decide +kernel)
@[simp] theorem ev_is_int_non : gIsT "int" S (.non) = some (.bl false) := isT_of rfl (by decide +kernel)
theorem ev_is_int_loc {n : Nat} (h : S[n]? = some (.lst ds)) : gIsT "int" S (.loc n) = some (.bl false) := isT_of (by simp [tyD, h]; rfl) (by decide +kernel)
@[simp] theorem ev_is_bool_int : gIsT "bool" S (.int i) = some (.bl false) := isT_of rfl (by decide +kernel)
@[simp] theorem ev_is_bool_bl : gIsT "bool" S (.bl a) = some (.bl true) := isT_of rfl (by decide +kernel)
@[simp] theorem ev_is_bool_str : gIsT "bool" S (.str s) = some (.bl false) := isT_of rfl (by decide +kernel)
@[simp] theorem ev_is_bool_tup : gIsT "bool" S (.tup ds) = some (.bl false) := isT_of rfl (by decide +kernel)
@[simp] theorem ev_is_bool_lst : gIsT "bool" S (.lst ds) = some (.bl false) := isT_of rfl (by decide +kernel)
@[simp] theorem ev_is_bool_non : gIsT "bool" S (.non) = some (.bl false) := isT_of rfl (by decide +kernel)
theorem ev_is_bool_loc {n : Nat} (h : S[n]? = some (.lst ds)) : gIsT "bool" S (.loc n) = some (.bl false) := isT_of (by simp [tyD, h]; rfl) (by decide +kernel)
@[simp] theorem ev_is_str_int : gIsT "str" S (.int i) = some (.bl false) := isT_of rfl (by decide +kernel)
@[simp] theorem ev_is_str_bl : gIsT "str" S (.bl a) = some (.bl false) := isT_of rfl (by decide +kernel)
@[simp] theorem ev_is_str_str : gIsT "str" S (.str s) = some (.bl true) := isT_of rfl (by decide +kernel)
@[simp] theorem ev_is_str_tup : gIsT "str" S (.tup ds) = some (.bl false) := isT_of rfl (by decide +kernel)
@[simp] theorem ev_is_str_lst : gIsT "str" S (.lst ds) = some (.bl false) := isT_of rfl (by decide +kernel)
@[simp] theorem ev_is_str_non : gIsT "str" S (.non) = some (.bl false) := isT_of rfl (by decide +kernel)
theorem ev_is_str_loc {n : Nat} (h : S[n]? = some (.lst ds)) : gIsT "str" S (.loc n) = some (.bl false) := isT_of (by simp [tyD, h]; rfl) (by decide +kernel)
@[simp] theorem ev_is_tuple_int : gIsT "tuple" S (.int i) = some (.bl false) := isT_of rfl (by decide +kernel)
@[simp] theorem ev_is_tuple_bl : gIsT "tuple" S (.bl a) = some (.bl false) := isT_of rfl (by decide +kernel)
@[simp] theorem ev_is_tuple_str : gIsT "tuple" S (.str s) = some (.bl false) := isT_of rfl (by decide +kernel)
@[simp] theorem ev_is_tuple_tup : gIsT "tuple" S (.tup ds) = some (.bl true) := isT_of rfl (by decide +kernel)
@[simp] theorem ev_is_tuple_lst : gIsT "tuple" S (.lst ds) = some (.bl false) := isT_of rfl (by decide +kernel)
@[simp] theorem ev_is_tuple_non : gIsT "tuple" S (.non) = some (.bl false) := isT_of rfl (by decide +kernel)
theorem ev_is_tuple_loc {n : Nat} (h : S[n]? = some (.lst ds)) : gIsT "tuple" S (.loc n) = some (.bl false) := isT_of (by simp [tyD, h]; rfl) (by decide +kernel)
@[simp] theorem ev_is_list_int : gIsT "list" S (.int i) = some (.bl false) := isT_of rfl (by decide +kernel)
@[simp] theorem ev_is_list_bl : gIsT "list" S (.bl a) = some (.bl false) := isT_of rfl (by decide +kernel)
@[simp] theorem ev_is_list_str : gIsT "list" S (.str s) = some (.bl false) := isT_of rfl (by decide +kernel)
@[simp] theorem ev_is_list_tup : gIsT "list" S (.tup ds) = some (.bl false) := isT_of rfl (by decide +kernel)
@[simp] theorem ev_is_list_lst : gIsT "list" S (.lst ds) = some (.bl true) := isT_of rfl (by decide +kernel)
@[simp] theorem ev_is_list_non : gIsT "list" S (.non) = some (.bl false) := isT_of rfl (by decide +kernel)
theorem ev_is_list_loc {n : Nat} (h : S[n]? = some (.lst ds)) : gIsT "list" S (.loc n) = some (.bl true) := isT_of (by simp [tyD, h]; rfl) (by decide +kernel)
end
section
variable {ρ : Env} {S : Sto} {α : Type}
theorem F_forM {mi : IM} {g : GM} {b : SM} {nx bk ct : Env → Sto → Prop} {rt : D → Sto → Prop} (L : List α) (f : α → D) (inv : List α → List α → Env → Sto → Prop)
    (h : (mi ρ S).P fun it S1 => it.2 = [] ∧ it.1 = L.map f ∧ inv [] L ρ S1) (hs : ∀ a q r ρ S, L = q ++ a :: r → inv q (a :: r) ρ S → ∃ ρ1, g (f a) ρ = some ρ1 ∧ (b ρ1 S).P (inv (q ++ [a]) r) rt nx (inv (q ++ [a]) r)) (he : ∀ ρ S, inv L [] ρ S → nx ρ S) :
    (sFor mi g b ρ S).P nx rt bk ct := by
  refine F_for (fun l ρ S => ∃ q r, L = q ++ r ∧ l = r.map f ∧ inv q r ρ S) (h.imp ?_)
  rintro ⟨it, gd⟩ S1 ⟨h1, h2, h3⟩
  have h1 : gd = [] := h1
  subst h1
  refine ⟨⟨[], L, rfl, h2, h3⟩, fun _ _ _ _ => keeps_nil, ?_, ?_⟩
  · rintro d l ρ S ⟨q, r, e1, e2, hi⟩
    cases r with
    | nil => cases e2
    | cons a r =>
      rw [List.map_cons] at e2
      cases e2
      obtain ⟨ρ1, e3, hb⟩ := hs a q r ρ S e1 hi
      exact ⟨ρ1, e3, hb.imp (fun ρ S h => ⟨q ++ [a], r, by rw [e1]; simp, rfl, h⟩) (fun _ _ h => h) (fun _ _ h => h) (fun ρ S h => ⟨q ++ [a], r, by rw [e1]; simp, rfl, h⟩)⟩
  · rintro ρ S ⟨q, r, e1, e2, hi⟩
    cases r with
    | nil =>
      rw [List.append_nil] at e1
      subst e1
      exact he _ _ hi
    | cons a r => cases e2
theorem P_compM {fin : List D → Sto → R D} {mi : IM} {g : GM} {me : EM} {vs : List Nat} {Q : D → Sto → Prop} (L : List α) (f : α → D) (inv : List α → List α → List D → Sto → Prop)
    (h : (mi ρ S).P fun it S1 => it.2 = [] ∧ it.1 = L.map f ∧ L.length ≤ sizeLine ∧ inv [] L [] S1) (hs : ∀ a q r acc S, L = q ++ a :: r → inv q (a :: r) acc S → ∃ ρ1, g (f a) (wipeE ρ vs) = some ρ1 ∧ (me ρ1 S).P fun y S => inv (q ++ [a]) r (acc ++ [y]) S)
    (he : ∀ ys S2, inv L [] ys S2 → (fin ys S2).P Q) : (mComp fin mi g tmYes me vs ρ S).P Q := by
  refine P_comp (fun l acc S => ∃ q r, L = q ++ r ∧ l = r.map f ∧ inv q r acc S) (h.imp ?_)
  rintro ⟨it, gd⟩ S1 ⟨h1, h2, h4, h3⟩
  have h1 : gd = [] := h1
  subst h1
  have h2 : it = _ := h2
  refine ⟨by rw [h2]; simpa using h4, ⟨[], L, rfl, h2, h3⟩, fun _ _ _ _ => keeps_nil, ?_, ?_⟩
  · rintro d l acc S ⟨q, r, e1, e2, hi⟩
    cases r with
    | nil => cases e2
    | cons a r =>
      rw [List.map_cons] at e2
      cases e2
      obtain ⟨ρ1, e3, hb⟩ := hs a q r acc S e1 hi
      exact ⟨ρ1, e3, by simpa using hb.imp fun y S h => ⟨q ++ [a], r, by rw [e1]; simp, rfl, h⟩⟩
  · rintro ys S ⟨q, r, e1, e2, hi⟩
    cases r with
    | nil =>
      rw [List.append_nil] at e1
      subst e1
      exact he _ _ hi
    | cons a r => cases e2
/-- a comprehension whose items are made without a trace -/
theorem P_compF {fin : List D → Sto → R D} {mi : IM} {g : GM} {me : EM} {vs : List Nat} {Q : D → Sto → Prop} (L : List α) (f : α → D) (v : α → D)
    (h : (mi ρ S).P fun it S1 => S1 = S ∧ it.2 = [] ∧ it.1 = L.map f ∧ L.length ≤ sizeLine) (hs : ∀ a ∈ L, ∃ ρ1, g (f a) (wipeE ρ vs) = some ρ1 ∧ (me ρ1 S).P fun y S' => S = S' ∧ y = v a)
    (he : (fin (L.map v) S).P Q) : (mComp fin mi g tmYes me vs ρ S).P Q := by
  refine P_compM L f (fun q r acc S' => S = S' ∧ acc = q.map v) (h.imp ?_) ?_ ?_
  · rintro it S1 ⟨rfl, h1, h2, h3⟩
    exact ⟨h1, h2, h3, rfl, rfl⟩
  · rintro a q r acc S' e ⟨rfl, rfl⟩
    obtain ⟨ρ1, e1, hb⟩ := hs a (by rw [e]; simp)
    refine ⟨ρ1, e1, hb.imp ?_⟩
    rintro y S1 ⟨rfl, rfl⟩
    exact ⟨rfl, by simp⟩
  · rintro ys S2 ⟨rfl, rfl⟩
    exact he
theorem get_last {A : Sto} {x : MO} : (A ++ [x])[A.length]? = some x := by simp
theorem set_last {A : Sto} {x y : MO} : (A ++ [x]).set A.length y = A ++ [y] := by simp
end
theorem P_rng1 {ρ : Env} {S : Sto} {me : EM} {n : Nat} {Q : List D × List (Nat × List D) → Sto → Prop} (hn : n < 4611686018427387904) (h : (me ρ S).P fun d S => d = .int n ∧ Q ((List.range n).map fun i => D.int (0 + (i : Nat)), []) S) : (mIt rng1 (aCons me aNil) ρ S).P Q := by
  rw [P_mIt, P_consA]
  refine h.imp ?_
  rintro d S ⟨rfl, q⟩
  rw [P_nilA, ev_rng1n hn, Op_some]
  exact q
/-! ### truncation -/
def Pu (S : Sto) : Prop := ∀ o ∈ S, MO.clean 0 o = true
mutual
theorem clean_mono {n : Nat} : ∀ d : D, d.clean 0 = true → d.clean n = true
  | .non, _ | .bl _, _ | .int _, _ | .str _, _ | .scr _, _ => rfl
  | .tup ds, h => cleans_mono ds h
  | .lst ds, h => cleans_mono ds h
  | .dic _ ds, h => cleans_mono ds h
  | .loc _, h => by simp [D.clean] at h
theorem cleans_mono {n : Nat} : ∀ ds : List D, D.cleans 0 ds = true → D.cleans n ds = true
  | [], _ => rfl
  | d :: ds, h => by
    have h : (d.clean 0 && D.cleans 0 ds) = true := h
    rw [Bool.and_eq_true] at h
    show (d.clean n && D.cleans n ds) = true
    rw [clean_mono d h.1, cleans_mono ds h.2]; rfl
end
theorem cleanF_mono {n : Nat} : ∀ fs : List (Str × D), cleanF 0 fs = true → cleanF n fs = true
  | [], _ => rfl
  | (x, d) :: ds, h => by
    have h : (d.clean 0 && cleanF 0 ds) = true := h
    rw [Bool.and_eq_true] at h
    show (d.clean n && cleanF n ds) = true
    rw [clean_mono d h.1, cleanF_mono ds h.2]; rfl
theorem mo_mono {n : Nat} (o : MO) (h : o.clean 0 = true) : o.clean n = true := by
  cases o with
  | lst ds => exact cleans_mono _ h
  | dic ks ds => exact cleans_mono _ h
  | ins c fs => exact cleanF_mono _ h
theorem cutS_pu {S : Sto} {n : Nat} (h : Pu S) : cutS n S = some (S.take n) := by
  unfold cutS
  rw [if_pos]
  rw [List.all_eq_true]
  exact fun o ho => mo_mono o (h o (List.mem_of_mem_take ho))
theorem P_cut {S : Sto} {n : Nat} {m : SM} {ds : List D} {Q : D → Sto → Prop} (h : (mDef n m ds S).P fun d S' => Pu S' ∧ ((d.clean 0 = true ∧ Q d (S'.take S.length)) ∨ ∃ k es, d = .loc k ∧ S.length ≤ k ∧ S'[k]? = some (.lst es) ∧ D.cleans 0 es = true ∧ Q (.lst es) (S'.take S.length))) : (mDefT n m ds S).P Q := by
  unfold mDefT
  obtain ⟨d, S', e, pu, h⟩ := h.eq
  rw [e]
  unfold cutR
  dsimp only
  rw [cutS_pu pu]
  rcases h with ⟨h, q⟩ | ⟨k, es, rfl, hk, e1, h, q⟩
  · have : fixRet S.length S' d = some d := by
      cases d with
      | loc k => simp [D.clean] at h
      | _ =>
        simp only [fixRet]
        rw [if_pos (clean_mono _ h)]
    rw [this]
    simpa using q
  · have : fixRet S.length S' (.loc k) = some (.lst es) := by
      simp only [fixRet]
      rw [if_neg (by omega), e1]
      simp only
      rw [if_pos (cleans_mono _ h)]
    rw [this]
    simpa using q
theorem pu_nil : Pu [] := fun o h => by cases h
theorem Pu.add {S : Sto} {o : MO} (h : Pu S) (ho : o.clean 0 = true) : Pu (S ++ [o]) := fun x hx => by
  rcases List.mem_append.mp hx with hx | hx
  · exact h x hx
  · rw [List.mem_singleton] at hx; subst hx; exact ho
theorem Pu.set {S : Sto} {o : MO} {n : Nat} (h : Pu S) (ho : o.clean 0 = true) : Pu (S.set n o) := fun x hx => by
  rcases List.mem_or_eq_of_mem_set hx with hx | hx
  · exact h x hx
  · subst hx; exact ho

/-! ### the draws -/
abbrev bx (o s : Int) : MO := .lst [.int o, .int s]
theorem bx_clean {o s : Int} : (bx o s).clean 0 = true := rfl
noncomputable def mBox : FM := mDef 4
  (sSeq (sSet 2 (mBin gAdd (mBin gMul (eC (.int 7919)) (eVar 1)) (eC (.int 11))))
    (sSeq (sIf (mBl (mBin gLt (eVar 1) (mCall gLen (aCons (eVar 0) aNil)))) (sSet 2 (mBin gIx (eVar 0) (eVar 1))) (sIf (mBl (mBin gGt (mCall gLen (aCons (eVar 0) aNil)) (eC (.int 0)))) (sSet 2 (mBin gAdd (eVar 2) (mBin gMul (mBin gMod (mBin gIx (eVar 0) (mBin gMod (eVar 1) (mCall gLen (aCons (eVar 0) aNil)))) (eC (.int 2147483629))) (eC (.int 69621))))) sNil))
    (sSeq (sSet 3 (mBin gAdd (mBin gMod (mBin gAdd (mBin gMul (mBin gMod (eVar 2) (eC (.int 2147483629))) (eC (.int 48271))) (mBin gMul (eC (.int 40692)) (eVar 1))) (eC (.int 2147483646))) (eC (.int 1))))
    (sRet (mNewL (aCons (mBin gMul (eVar 2) (mCall gInt (aCons (mBin gGe (eVar 2) (mBin gPow (eC (.int 10)) (eC (.int 18)))) aNil))) (aCons (eVar 3) aNil)))))))
noncomputable def mTake : FM := mDef 4
  (sSeq (sIf (mBl (mBin gGt (mBin gIx (eVar 0) (eC (.int 0))) (eC (.int 0)))) (sSeq (sSet 2 (mBin gMod (mBin gIx (eVar 0) (eC (.int 0))) (eVar 1)))
    (sSeq (sPutIx (eVar 0) (eC (.int 0)) (mBin gFdiv (mBin gIx (eVar 0) (eC (.int 0))) (eVar 1)))
    (sRet (eVar 2)))) sNil)
    (sSeq (sSet 3 (mBin gMod (mBin gMul (mBin gIx (eVar 0) (eC (.int 1))) (eC (.int 69621))) (eC (.int 2147483647))))
    (sSeq (sPutIx (eVar 0) (eC (.int 1)) (mBin gAdd (mBin gMod (mBin gAdd (mBin gMul (eVar 3) (eC (.int 48271))) (eC (.int 30103))) (eC (.int 2147483646))) (eC (.int 1))))
    (sRet (mBin gMod (mBin gFdiv (mBin gAdd (mBin gMul (eVar 3) (eC (.int 2147483647))) (mBin gIx (eVar 0) (eC (.int 1)))) (eC (.int 8191))) (eVar 1))))))
theorem atI_ok {α : Type} {xs : List α} {i : Int} (h0 : 0 ≤ i) (h1 : i < xs.length) : ∃ x, atI xs i = some x ∧ xs[i.toNat]? = some x := by
  have hk : i.toNat < xs.length := by omega
  have e : i = ((i.toNat : Nat) : Int) := by omega
  refine ⟨xs[i.toNat], ?_, List.getElem?_eq_getElem hk⟩
  have q := atI_nat (List.getElem?_eq_getElem hk)
  rw [← e] at q
  exact q
theorem take_P {S : Sto} {n : Nat} {o s m : Int} (h : S[n]? = some (bx o s)) (h0 : 0 < m) (h1 : m < 18446744073709551616) : (mTake [.loc n, .int m] S).P fun d S' => ∃ r o' s', d = .int r ∧ 0 ≤ r ∧ r < m ∧ S' = S.set n (bx o' s') := by
  have hn : n < S.length := (List.getElem?_eq_some_iff.mp h).1
  have a0 : atI [D.int o, .int s] 0 = some (.int o) := rfl
  have a1 : ∀ x y : D, atI [x, y] 1 = some y := fun _ _ => rfl
  have i0 : ∀ xs : List D, xs.length = 2 → ixN xs.length 0 = some 0 := fun xs h => by rw [h]; rfl
  have i1 : ixN 2 1 = some 1 := rfl
  have i0 : ixN 2 0 = some 0 := rfl
  unfold mTake
  rw [P_def]
  simp [startE, h, ev_ixC h, ev_cell h, ev_fdiv, ev_mod, ev_mul, a0, a1, h0, h1, i0, i1, ev_ixC, List.getElem?_set, hn]
  by_cases c : 0 < o
  · simp [c]
    refine ⟨Int.emod_nonneg _ (by omega), Int.emod_lt_of_pos _ h0, ?_⟩
    exact ⟨_, _, rfl⟩
  · simp [c]
    refine ⟨Int.emod_nonneg _ (by omega), Int.emod_lt_of_pos _ h0, ?_⟩
    exact ⟨_, _, rfl⟩
theorem box_P {S : Sto} {ns : List Int} {k : Int} (h0 : 0 ≤ k) : (mBox [.scr ns, .int k] S).P fun d S' => ∃ o s, d = .loc S.length ∧ S' = S ++ [bx o s] := by
  unfold mBox
  rw [P_def]
  have sl : 2 ≤ sizeLine := by decide
  have e : (10 : Int) ^ Int.toNat 18 = 1000000000000000000 := by decide
  have m1 : ∀ (i : Int) (c : Prop) [Decidable c], gMul S (.int i) (.int (if c then 1 else 0)) = some (.int (i * if c then 1 else 0)) := fun i c _ => ev_mul (.inr (by split <;> omega))
  simp [startE, ev_mod, ev_mul, ev_pow, sl, e]
  by_cases c : k < ns.length
  · obtain ⟨x, e1, e2⟩ := atI_ok (xs := ns.map D.int) h0 (by simpa using c)
    rw [List.getElem?_map] at e2
    obtain ⟨v, _, rfl⟩ := Option.map_eq_some_iff.mp e2
    simp [c, e1, ev_mod, ev_mul, ev_pow, sl, e, m1]
  · simp [c]
    by_cases c2 : 0 < ns.length
    · have c3 : (0 : Int) < ns.length := by omega
      have z0 := Int.emod_nonneg k (show (ns.length : Int) ≠ 0 by omega)
      have z1 := Int.emod_lt_of_pos k c3
      obtain ⟨x, e1, e2⟩ := atI_ok (xs := ns.map D.int) z0 (by simpa using z1)
      rw [List.getElem?_map] at e2
      obtain ⟨v, _, rfl⟩ := Option.map_eq_some_iff.mp e2
      simp [c2, ev_mod, c3, e1, ev_mul, ev_pow, sl, e, m1]
    · simp [c2, ev_mod, ev_mul, ev_pow, sl, e, m1]
end Mir

set_option maxRecDepth 100000
namespace Mir
open PySem PySem.Spec PyProof.Rows L2

/-! ### texts of small letters -/
abbrev sL (l : List Nat) : Str := ⟨l.toArray⟩
theorem sL_len (l : List Nat) : (sL l).length = l.length := by simp [Str.length]
theorem sL_app (l m : List Nat) : sL l ++ sL m = sL (l ++ m) := by
  show Str.mk (l.toArray ++ m.toArray) = _
  simp [sL]
theorem sL_ok {l : List Nat} (h : ∀ c ∈ l, c < 1000) : okS (sL l) := by
  unfold okS okPy
  have : PyData.strOk (sL l) = true := by
    unfold PyData.strOk
    rw [Array.all_eq_true']
    intro x hx
    have := h x (by simpa using hx)
    simp; omega
  show (PyData.strOk (sL l) && decide (0 ≤ 200)) = true
  rw [this]; rfl
theorem sL_inj {l m : List Nat} (h : sL l = sL m) : l = m := by
  have := congrArg (fun s : Str => s.cps.toList) h
  simpa [sL] using this
theorem ix_str {S : Sto} {l : List Nat} {i : Int} (hl : l.length ≤ 1000) (h0 : 0 ≤ i) (h1 : i < l.length) : ∃ c, l[i.toNat]? = some c ∧ gIx S (.str (sL l)) (.int i) = some (.str (sL [c])) := by
  obtain ⟨c, e1, e2⟩ := atI_ok (xs := l) h0 h1
  refine ⟨c, e2, ?_⟩
  show (if (sL l).length ≤ sizeLine then (atI l i).map fun c => D.str ⟨#[c]⟩ else none) = _
  rw [if_pos (by rw [sL_len]; exact small (by omega)), e1]
  rfl
theorem ev_cat {S : Sto} {l m : List Nat} (h : l.length + m.length ≤ 1000000) : gAdd S (.str (sL l)) (.str (sL m)) = some (.str (sL (l ++ m))) := by
  show (if (sL l).length + (sL m).length ≤ sizeLine then some (D.str (sL l ++ sL m)) else none) = _
  rw [if_pos (by rw [sL_len, sL_len]; exact small h), sL_app]
theorem ev_rep {S : Sto} {l : List Nat} {k : Int} (hl : l.length ≤ 1000000) (h0 : 0 ≤ k) (h1 : k ≤ 1) : gMul S (.str (sL l)) (.int k) = some (.str (sL (if k = 1 then l else []))) := by
  show (if 0 ≤ k ∧ k ≤ 1 ∧ (sL l).length ≤ sizeLine then some (D.str (if k = 1 then sL l else Str.empty)) else none) = _
  rw [if_pos ⟨h0, h1, by rw [sL_len]; exact small hl⟩]
  by_cases c : k = 1 <;> simp [c] <;> rfl
theorem ev_cutS {S : Sto} {l : List Nat} {k : Int} (hl : l.length ≤ 1000000) (h0 : 0 ≤ k) : gSl S (.str (sL l)) none (some k) = some (.str (sL (l.take k.toNat))) := by
  show (if (sL l).length ≤ sizeLine then some (D.str (L2.cutS (sL l) none (some k))) else none) = _
  rw [if_pos (by rw [sL_len]; exact small hl)]
  congr 2
  unfold L2.cutS
  have e : HT.sIx (sL l).length (sL l).length (some k) = min k.toNat l.length := by
    show (if k < 0 then (k + ((sL l).length : Int)).toNat else min k.toNat (sL l).length) = _
    rw [if_neg (by omega), sL_len]
  rw [e, HT.sIx_none]
  simp [sL, List.take_eq_take_iff]
def small36 : List Nat := [97, 98, 99, 100, 101, 102, 103, 104, 105, 106, 107, 108, 109, 110, 111, 112, 113, 114, 115, 116, 117, 118, 119, 120, 121, 122, 48, 49, 50, 51, 52, 53, 54, 55, 56, 57]
theorem small36_eq : ("abcdefghijklmnopqrstuvwxyz0123456789" : Str) = sL small36 := by decide +kernel
def small26 : List Nat := [97, 98, 99, 100, 101, 102, 103, 104, 105, 106, 107, 108, 109, 110, 111, 112, 113, 114, 115, 116, 117, 118, 119, 120, 121, 122]
theorem small26_eq : ("abcdefghijklmnopqrstuvwxyz" : Str) = sL small26 := by decide +kernel
theorem strsD_map (L : List (List Nat)) : strsD (L.map fun l => D.str (sL l)) = some (L.map sL) := by
  induction L with
  | nil => rfl
  | cons a L ih => simp [strsD, ih]
theorem joinL_nil : ∀ L : List (List Nat), TL.joinL [] L = L.flatten
  | [] => rfl
  | [p] => by simp [TL.joinL]
  | p :: q :: r => by
    have := joinL_nil (q :: r)
    simp only [TL.joinL, List.nil_append, this, List.flatten_cons]
theorem tl_sL (l : List Nat) : TL.tl (sL l) = l := by simp [TL.tl, sL]
theorem join_nil (L : List (List Nat)) : Txt.join (sL []) (L.map sL) = sL L.flatten := by
  have e := TL.tl_join (sL []) (L.map sL)
  have e2 : (L.map sL).map TL.tl = L := by
    simp only [List.map_map, Function.comp_def, tl_sL, List.map_id']
  rw [e2, tl_sL, joinL_nil] at e
  exact TL.ext_tl ((congrArg TL.tl (TL.join_eq (sL []) (L.map sL))).trans (e.trans (tl_sL _).symm))
theorem ev_join {S : Sto} {L : List (List Nat)} (hl : L.length ≤ 1000) (h1 : ∀ l ∈ L, l.length ≤ 1000) : gJoin S (sL []) (.lst (L.map fun l => D.str (sL l))) = some (.str (sL L.flatten)) := by
  unfold gJoin
  simp only [seqD, strsD_map]
  have : ∀ L : List (List Nat), (∀ l ∈ L, l.length ≤ 1000) → ((L.map sL).map (·.length)).sum ≤ L.length * 1000 := by
    intro L
    induction L with
    | nil => intro _; simp
    | cons a L ih =>
      intro h
      have h2 := ih fun l hl => h l (by simp [hl])
      have h3 := h a (by simp)
      simp only [List.map_cons, List.sum_cons, List.length_cons, sL_len] at h2 ⊢
      omega
  have h2 := this L h1
  rw [if_pos, join_nil]
  have e0 : (sL []).length = 0 := rfl
  rw [e0]
  omega

/-! ### the drawn words -/
/-- the k-th word by first letter f, form t and common letters cm -/
def wordL (t f : Nat) (cm : List Nat) (k : Nat) : List Nat :=
  let a := (f + 5 * k) % 26
  if t = 3 then (97 + a) :: cm.take (k % 3)
  else if t = 2 then (97 + f) :: (cm ++ [97 + a])
  else if t = 1 then (97 + a) :: (cm ++ if k % 2 = 1 then [113] else [])
  else (97 + a) :: cm
theorem wordL_inj {t f : Nat} {cm : List Nat} {i j : Nat} (hi : i < 9) (hj : j < 9) (h : wordL t f cm i = wordL t f cm j) : i = j := by
  have key : (f + 5 * i) % 26 = (f + 5 * j) % 26 → i = j := by omega
  unfold wordL at h
  simp only at h
  split at h
  · rw [List.cons.injEq] at h; exact key (by omega)
  · split at h
    · rw [List.cons.injEq] at h
      have := List.append_inj_right' h.2 rfl
      rw [List.cons.injEq] at this
      exact key (by omega)
    · split at h
      · rw [List.cons.injEq] at h; exact key (by omega)
      · rw [List.cons.injEq] at h; exact key (by omega)
theorem wordL_len {t f : Nat} {cm : List Nat} {k : Nat} (h : cm.length ≤ 5) : (wordL t f cm k).length ≤ 7 := by
  unfold wordL
  simp only
  split
  · simp; omega
  · split
    · simp; omega
    · split
      · simp; split <;> simp <;> omega
      · simp; omega
theorem wordL_lt {t f : Nat} {cm : List Nat} {k : Nat} (hf : f < 26) (h : ∀ c ∈ cm, c < 1000) : ∀ c ∈ wordL t f cm k, c < 1000 := by
  unfold wordL
  simp only
  have ha : (f + 5 * k) % 26 < 26 := Nat.mod_lt _ (by omega)
  intro c hc
  split at hc
  · rcases List.mem_cons.mp hc with rfl | hc
    · omega
    · exact h c (List.mem_of_mem_take hc)
  · split at hc
    · rcases List.mem_cons.mp hc with rfl | hc
      · omega
      · rcases List.mem_append.mp hc with hc | hc
        · exact h c hc
        · rw [List.mem_singleton] at hc; omega
    · split at hc
      · rcases List.mem_cons.mp hc with rfl | hc
        · omega
        · rcases List.mem_append.mp hc with hc | hc
          · exact h c hc
          · split at hc
            · rw [List.mem_singleton] at hc; omega
            · cases hc
      · rcases List.mem_cons.mp hc with rfl | hc
        · omega
        · exact h c hc
end Mir

set_option maxRecDepth 100000
namespace Mir
open PySem PySem.Spec PyProof.Rows L2
noncomputable def mWords : FM := mDefT 11
  (sSeq (sSet 3 (eC (.str "abcdefghijklmnopqrstuvwxyz0123456789")))
    (sSeq (sSet 4 (mStr1 gJoin (eC (.str "")) (mComp finF (mIt rng1 (aCons (mApp mTake (aCons (eVar 0) (aCons (eC (.int 6)) aNil))) aNil)) (gN 8) tmYes (mBin gIx (eVar 3) (mApp mTake (aCons (eVar 0) (aCons (eC (.int 36)) aNil)))) [8])))
    (sSeq (sSet 5 (mApp mTake (aCons (eVar 0) (aCons (eC (.int 26)) aNil))))
    (sSeq (sSet 6 (mApp mTake (aCons (eVar 0) (aCons (eC (.int 4)) aNil))))
    (sSeq (sSet 7 (mNewL aNil))
    (sSeq (sFor (mIt rng1 (aCons (eVar 1) aNil)) (gN 8) (sSeq (sSet 9 (mBin gMod (mBin gAdd (eVar 5) (mBin gMul (eC (.int 5)) (eVar 8))) (eC (.int 26))))
    (sSeq (sSet 10 (mBin gAdd (mBin gIx (eVar 2) (eVar 9)) (eVar 4)))
    (sSeq (sIf (mBl (mBin gEq (eVar 6) (eC (.int 1)))) (sSet 10 (mBin gAdd (eVar 10) (mBin gMul (eC (.str "q")) (mBin gMod (eVar 8) (eC (.int 2)))))) sNil)
    (sSeq (sIf (mBl (mBin gEq (eVar 6) (eC (.int 2)))) (sSet 10 (mBin gAdd (mBin gAdd (mBin gIx (eVar 2) (eVar 5)) (eVar 4)) (mBin gIx (eVar 3) (eVar 9)))) sNil)
    (sSeq (sIf (mBl (mBin gEq (eVar 6) (eC (.int 3)))) (sSet 10 (mBin gAdd (mBin gIx (eVar 2) (eVar 9)) (mSl (eVar 4) oNone (oSome (mBin gMod (eVar 8) (eC (.int 3))))))) sNil)
    (sExpr (mLst1 gAppend (eVar 7) (eVar 10)))))))))
    (sRet (eVar 7))))))))
theorem get26 : ∀ i : Fin 26, small26[i.val]? = some (97 + i.val) ∧ small36[i.val]? = some (97 + i.val) := by decide
theorem ix26 {S : Sto} {i : Nat} (h : i < 26) : gIx S (.str (sL small26)) (.int i) = some (.str (sL [97 + i])) := by
  obtain ⟨c, e, q⟩ := ix_str (S := S) (l := small26) (i := i) (by decide) (by omega) (by show (i : Int) < 26; omega)
  rw [Int.toNat_natCast, (get26 ⟨i, h⟩).1] at e
  cases e
  exact q
theorem ix36 {S : Sto} {i : Nat} (h : i < 26) : gIx S (.str (sL small36)) (.int i) = some (.str (sL [97 + i])) := by
  obtain ⟨c, e, q⟩ := ix_str (S := S) (l := small36) (i := i) (by decide) (by omega) (by show (i : Int) < 36; omega)
  rw [Int.toNat_natCast, (get26 ⟨i, h⟩).2] at e
  cases e
  exact q
theorem small36_lt : ∀ c ∈ small36, c < 1000 := by decide
theorem q_eq : ("q" : Str) = sL [113] := by decide +kernel
theorem emp_eq : ("" : Str) = sL [] := by decide +kernel
theorem taken {S : Sto} {n m : Nat} {o s : Int} (h : S[n]? = some (bx o s)) (h0 : 0 < m) (h1 : m < 1000000) : (mTake [.loc n, .int m] S).P fun d S' => ∃ (r : Nat) (o' s' : Int), d = .int r ∧ r < m ∧ S' = S.set n (bx o' s') := by
  refine (take_P h (by omega) (by omega)).imp ?_
  rintro d S' ⟨r, o', s', rfl, h2, h3, rfl⟩
  exact ⟨r.toNat, o', s', by rw [Int.toNat_of_nonneg h2], by omega, rfl⟩
theorem set_self {S : Sto} {n : Nat} {x : MO} (h : S[n]? = some x) : S.set n x = S := by
  obtain ⟨h1, h2⟩ := List.getElem?_eq_some_iff.mp h
  rw [← h2, List.set_getElem_self]
theorem take_set {S : Sto} {n : Nat} {o : MO} {x : MO} : (S.set n o ++ [x]).take S.length = S.set n o := by
  rw [List.take_append_of_le_length (by simp), List.take_of_length_le (by simp)]
theorem get_set {S : Sto} {n : Nat} {o : MO} (hn : n < S.length) : (S.set n o)[n]? = some o := by simp [hn]
theorem strs_clean {α : Type} (l : List α) (f : α → Str) : D.cleans 0 (l.map fun a => D.str (f a)) = true := by
  induction l with
  | nil => rfl
  | cons a l ih => exact ih
theorem words_P {S : Sto} {n M : Nat} {o s : Int} (h : S[n]? = some (bx o s)) (pu : Pu S) (hM : M ≤ 100) : (mWords [.loc n, .int M, .str "abcdefghijklmnopqrstuvwxyz"] S).P fun d S' => ∃ (t f : Nat) (cm : List Nat), f < 26 ∧ cm.length ≤ 5 ∧ (∀ c ∈ cm, c < 1000) ∧ d = .lst ((List.range M).map fun k => D.str (sL (wordL t f cm k))) ∧ ∃ o s, S' = S.set n (bx o s) := by
  have hn : n < S.length := (List.getElem?_eq_some_iff.mp h).1
  unfold mWords
  refine P_cut ?_
  rw [P_def, small26_eq, small36_eq, emp_eq, q_eq]
  have sl0 : 0 ≤ sizeLine := by decide
  rw [F_seq]
  simp only [startE, F_set, P_c, List.map, List.length, List.replicate, List.cons_append, List.nil_append, List.set_cons_succ, List.set_cons_zero]
  refine F_mid (fun ρ S' => ∃ (cm : List Nat) (o s : Int), cm.length ≤ 5 ∧ (∀ c ∈ cm, c < 1000) ∧ ρ = [some (.loc n), some (.int M), some (.str (sL small26)), some (.str (sL small36)), some (.str (sL cm)), none, none, none, none, none, none] ∧ S' = S.set n (bx o s)) ?_ ?_
  · rw [F_set, P_str1, P_c, OZ_str]
    refine P_comp (fun r acc S' => ∃ (cs : List Nat) (o s : Int), S' = S.set n (bx o s) ∧ acc = cs.map (fun c => D.str (sL [c])) ∧ cs.length + r.length ≤ 5 ∧ ∀ c ∈ cs, c < 1000) ?_
    rw [P_mIt, P_consA, P_app]
    simp only [P_app, P_consA, P_nilA, P_c, P_var, List.getElem?_cons_succ, List.getElem?_cons_zero, Op_some]
    refine (taken (m := 6) h (by omega) (by omega)).imp ?_
    rintro d S1 ⟨m, o1, s1, rfl, hm, rfl⟩
    rw [ev_rng1n (by omega), Op_some]
    have hrl : (rngD 0 m).length = m := by simp [rngD]
    refine ⟨by rw [hrl]; exact small (by omega), ⟨[], o1, s1, rfl, rfl, by rw [hrl]; simp; omega, by simp⟩, fun _ _ _ _ => keeps_nil, ?_, ?_⟩
    · rintro d r acc S1 ⟨cs, o2, s2, rfl, rfl, hcl, hcx⟩
      refine ⟨[some (.loc n), some (.int M), some (.str (sL small26)), some (.str (sL small36)), none, none, none, none, some d, none, none], rfl, ?_⟩
      simp only [P_yes, if_true, P_bin, P_app, P_consA, P_nilA, P_c, P_var, List.getElem?_cons_succ, List.getElem?_cons_zero, Op_some]
      refine (taken (m := 36) (get_set hn) (by omega) (by omega)).imp ?_
      rintro d2 S1 ⟨i, o3, s3, rfl, hi, rfl⟩
      obtain ⟨c, e1, e2⟩ := ix_str (S := (S.set n (bx o2 s2)).set n (bx o3 s3)) (l := small36) (i := i) (by decide) (by omega) (by show (i : Int) < 36; omega)
      rw [e2, Op_some, List.set_set]
      refine ⟨cs ++ [c], o3, s3, rfl, by simp, by simp at hcl ⊢; omega, ?_⟩
      intro x hx
      rcases List.mem_append.mp hx with hx | hx
      · exact hcx x hx
      · rw [List.mem_singleton] at hx; subst hx
        exact small36_lt _ (List.mem_of_getElem? e1)
    · rintro ys S2 ⟨cs, o2, s2, rfl, rfl, hcl, hcx⟩
      have e1 : (cs.map (fun c => D.str (sL [c]))) = (cs.map fun c => [c]).map fun l => D.str (sL l) := by rw [List.map_map]; rfl
      have e2 : (cs.map fun c => [c]).flatten = cs := by
        clear hcl hcx e1
        induction cs with
        | nil => rfl
        | cons a l ih => simpa using ih
      rw [P_finF, e1, ev_join (by simp at hcl ⊢; omega) (by simp), Op_some, e2]
      exact ⟨cs, o2, s2, by simp at hcl; omega, hcx, rfl, rfl⟩
  rintro ρ S1 ⟨cm, o1, s1, hc1, hc2, rfl, rfl⟩
  rw [F_seq]
  simp only [F_set, P_app, P_consA, P_nilA, P_c, P_var, List.getElem?_cons_succ, List.getElem?_cons_zero, Op_some]
  refine (taken (m := 26) (get_set hn) (by omega) (by omega)).imp ?_
  rintro d S1 ⟨f, o2, s2, rfl, hf, rfl⟩
  rw [List.set_set, F_seq]
  simp only [F_set, P_app, P_consA, P_nilA, P_c, P_var, List.set_cons_succ, List.set_cons_zero, List.getElem?_cons_succ, List.getElem?_cons_zero, Op_some]
  refine (taken (m := 4) (get_set hn) (by omega) (by omega)).imp ?_
  rintro d S1 ⟨t, o3, s3, rfl, ht, rfl⟩
  rw [List.set_set, F_seq]
  simp only [F_set, P_newL, P_nilA, List.set_cons_succ, List.set_cons_zero, List.length, List.length_set]
  refine ⟨sl0, ?_⟩
  have hlen : (S.set n (bx o3 s3)).length = S.length := by simp
  have gl : ∀ l : List D, (S.set n (bx o3 s3) ++ [MO.lst l])[S.length]? = some (MO.lst l) := fun l => by
    rw [← hlen]; exact get_last
  have sl2 : ∀ l m : List D, (S.set n (bx o3 s3) ++ [MO.lst l]).set S.length (MO.lst m) = S.set n (bx o3 s3) ++ [MO.lst m] := fun l m => by
    rw [← hlen]; exact set_last
  refine F_mid (fun ρ S' => ∃ (u v w : Option D), ρ = [some (.loc n), some (.int M), some (.str (sL small26)), some (.str (sL small36)), some (.str (sL cm)), some (.int f), some (.int t), some (.loc S.length), u, v, w] ∧ S' = S.set n (bx o3 s3) ++ [.lst ((List.range M).map fun k => D.str (sL (wordL t f cm k)))]) ?_ ?_
  · obtain ⟨L, hL⟩ : ∃ L, L = List.range M := ⟨_, rfl⟩
    rw [← hL]
    refine F_forM L (fun i => D.int (0 + (i : Nat))) (fun q r ρ S' => ∃ (u v w : Option D), ρ = [some (.loc n), some (.int M), some (.str (sL small26)), some (.str (sL small36)), some (.str (sL cm)), some (.int f), some (.int t), some (.loc S.length), u, v, w] ∧ S' = S.set n (bx o3 s3) ++ [.lst (q.map fun k => D.str (sL (wordL t f cm k)))]) ?_ ?_ ?_
    · refine P_rng1 (n := M) (by omega) ?_
      simp only [P_var, List.getElem?_cons_succ, List.getElem?_cons_zero, Op_some]
      subst hL
      exact ⟨trivial, by trivial, by trivial, _, _, _, rfl, rfl⟩
    · rintro i q r ρ S1 e ⟨u, v, w, rfl, rfl⟩
      have hi : i < M := List.mem_range.mp (by rw [← hL, e]; simp)
      have hq : q.length < 100 := by
        have h1 : L.length = M := by rw [hL]; simp
        have h2 : L.length = q.length + (r.length + 1) := by rw [e]; simp
        omega
      refine ⟨[some (.loc n), some (.int M), some (.str (sL small26)), some (.str (sL small36)), some (.str (sL cm)), some (.int f), some (.int t), some (.loc S.length), some (.int (i : Nat)), v, w], by rw [Int.zero_add]; rfl, ?_⟩
      obtain ⟨a, ha⟩ : ∃ a, a = (f + 5 * i) % 26 := ⟨_, rfl⟩
      have ha26 : a < 26 := by omega
      have ea : ((f : Int) + 5 * (i : Int)) % 26 = (a : Nat) := by omega
      rw [F_seq]
      simp only [F_set, P_bin, P_c, P_var, List.getElem?_cons_succ, List.getElem?_cons_zero, Op_some, ev_add, ev_mul (show (-18446744073709551616 < (5 : Int) ∧ (5 : Int) < 18446744073709551616) ∨ (-18446744073709551616 < (i : Int) ∧ (i : Int) < 18446744073709551616) from .inl (by omega)), ev_mod (show (0 : Int) < 26 by omega), ea, List.set_cons_succ, List.set_cons_zero]
      rw [F_seq]
      simp only [F_set, P_bin, P_c, P_var, List.getElem?_cons_succ, List.getElem?_cons_zero, Op_some, ix26 ha26, ev_cat (show [97 + a].length + cm.length ≤ 1000000 by simp; omega), List.set_cons_succ, List.set_cons_zero]
      refine F_mid (fun ρ S' => S' = S.set n (bx o3 s3) ++ [.lst (q.map fun k => D.str (sL (wordL t f cm k)))] ∧ ρ = [some (.loc n), some (.int M), some (.str (sL small26)), some (.str (sL small36)), some (.str (sL cm)), some (.int f), some (.int t), some (.loc S.length), some (.int (i : Nat)), some (.int a), some (.str (sL (if t = 1 then [97 + a] ++ cm ++ (if i % 2 = 1 then [113] else []) else [97 + a] ++ cm)))]) ?_ ?_
      · have e2 : (i : Int) % 2 = ((i % 2 : Nat) : Int) := by omega
        by_cases c : t = 1
        · have c' : ((t : Nat) : Int) = 1 := by omega
          have e3 : (if ((i % 2 : Nat) : Int) = 1 then [113] else ([] : List Nat)) = if i % 2 = 1 then [113] else [] := by
            by_cases c3 : i % 2 = 1
            · rw [if_pos c3, if_pos (by omega)]
            · rw [if_neg c3, if_neg (by omega)]
          have e4 : ([97 + a] ++ cm).length + (if i % 2 = 1 then [113] else ([] : List Nat)).length ≤ 1000000 := by
            split <;> simp <;> omega
          simp only [F_if, P_bl, P_bin, P_c, P_var, List.getElem?_cons_succ, List.getElem?_cons_zero, Op_some, ev_eqi, OB_bl, c', decide_true, if_true, F_set, ev_mod (show (0 : Int) < 2 by omega), e2, ev_rep (show [113].length ≤ 1000000 by decide) (show (0 : Int) ≤ ((i % 2 : Nat) : Int) by omega) (show ((i % 2 : Nat) : Int) ≤ 1 by omega), e3, ev_cat e4, List.set_cons_succ, List.set_cons_zero, c]
          exact ⟨trivial, by trivial⟩
        · have c' : ¬ ((t : Nat) : Int) = 1 := by omega
          simp only [F_if, P_bl, P_bin, P_c, P_var, List.getElem?_cons_succ, List.getElem?_cons_zero, Op_some, ev_eqi, OB_bl, c', decide_false, Bool.false_eq_true, if_false, F_nil, c]
          exact ⟨trivial, by trivial⟩
      rintro ρ S1 ⟨rfl, rfl⟩
      refine F_mid (fun ρ S' => S' = S.set n (bx o3 s3) ++ [.lst (q.map fun k => D.str (sL (wordL t f cm k)))] ∧ ρ = [some (.loc n), some (.int M), some (.str (sL small26)), some (.str (sL small36)), some (.str (sL cm)), some (.int f), some (.int t), some (.loc S.length), some (.int (i : Nat)), some (.int a), some (.str (sL (if t = 2 then (97 + f) :: (cm ++ [97 + a]) else if t = 1 then [97 + a] ++ cm ++ (if i % 2 = 1 then [113] else []) else [97 + a] ++ cm)))]) ?_ ?_
      · by_cases c : t = 2
        · have c' : ((t : Nat) : Int) = 2 := by omega
          simp only [F_if, P_bl, P_bin, P_c, P_var, List.getElem?_cons_succ, List.getElem?_cons_zero, Op_some, ev_eqi, OB_bl, c', decide_true, if_true, F_set, ix26 hf, ix36 ha26, ev_cat (show [97 + f].length + cm.length ≤ 1000000 by simp; omega), ev_cat (show ([97 + f] ++ cm).length + [97 + a].length ≤ 1000000 by simp; omega), List.set_cons_succ, List.set_cons_zero, c]
          exact ⟨trivial, by simp⟩
        · have c' : ¬ ((t : Nat) : Int) = 2 := by omega
          simp only [F_if, P_bl, P_bin, P_c, P_var, List.getElem?_cons_succ, List.getElem?_cons_zero, Op_some, ev_eqi, OB_bl, c', decide_false, Bool.false_eq_true, if_false, F_nil, c]
          exact ⟨trivial, by trivial⟩
      rintro ρ S1 ⟨rfl, rfl⟩
      refine F_mid (fun ρ S' => S' = S.set n (bx o3 s3) ++ [.lst (q.map fun k => D.str (sL (wordL t f cm k)))] ∧ ρ = [some (.loc n), some (.int M), some (.str (sL small26)), some (.str (sL small36)), some (.str (sL cm)), some (.int f), some (.int t), some (.loc S.length), some (.int (i : Nat)), some (.int a), some (.str (sL (wordL t f cm i)))]) ?_ ?_
      · have ew : wordL t f cm i = if t = 3 then (97 + a) :: cm.take (i % 3) else if t = 2 then (97 + f) :: (cm ++ [97 + a]) else if t = 1 then [97 + a] ++ cm ++ (if i % 2 = 1 then [113] else []) else [97 + a] ++ cm := by
          unfold wordL
          simp only [← ha]
          rfl
        rw [ew]
        by_cases c : t = 3
        · have c' : ((t : Nat) : Int) = 3 := by omega
          have e2 : (i : Int) % 3 = ((i % 3 : Nat) : Int) := by omega
          have e4 : [97 + a].length + (cm.take (i % 3)).length ≤ 1000000 := by simp; omega
          simp only [F_if, P_bl, P_bin, P_c, P_var, P_sl, P_oNone, P_oSome, List.getElem?_cons_succ, List.getElem?_cons_zero, Op_some, ev_eqi, OB_bl, OI_int, c', decide_true, if_true, F_set, ix26 ha26, ev_mod (show (0 : Int) < 3 by omega), e2, ev_cutS (show cm.length ≤ 1000000 by omega) (show (0 : Int) ≤ ((i % 3 : Nat) : Int) by omega), Int.toNat_natCast, ev_cat e4, List.set_cons_succ, List.set_cons_zero, c]
          exact ⟨trivial, by simp⟩
        · have c' : ¬ ((t : Nat) : Int) = 3 := by omega
          simp only [F_if, P_bl, P_bin, P_c, P_var, List.getElem?_cons_succ, List.getElem?_cons_zero, Op_some, ev_eqi, OB_bl, c', decide_false, Bool.false_eq_true, if_false, F_nil, c]
          exact ⟨trivial, by trivial⟩
      rintro ρ S1 ⟨rfl, rfl⟩
      have sq : (q.map fun k => D.str (sL (wordL t f cm k))).length < sizeLine := Nat.lt_of_lt_of_le (show _ < 1000 by rw [List.length_map]; omega) (by decide)
      simp only [F_expr, P_lst1, P_var, List.getElem?_cons_succ, List.getElem?_cons_zero, Op_some, ev_cell (gl _), ev_ap, sq, if_true, sl2]
      exact ⟨_, _, _, rfl, by simp⟩
    · rintro ρ S1 ⟨u, v, w, rfl, rfl⟩
      exact ⟨_, _, _, rfl, rfl⟩
  rintro ρ S1 ⟨u, v, w, rfl, rfl⟩
  simp only [F_ret, P_var, List.getElem?_cons_succ, List.getElem?_cons_zero, Op_some]
  exact ⟨(pu.set bx_clean).add (strs_clean _ _), .inr ⟨_, _, rfl, Nat.le_refl _, gl _, strs_clean _ _, t, f, cm, hf, hc1, hc2, rfl, o3, s3, take_set⟩⟩
end Mir

set_option maxRecDepth 100000
set_option maxHeartbeats 4000000
namespace K52
open PySem PySem.Spec PyProof.Rows L2 Mir
def topS (i : Nat) : Stmt := PySem.Challenge.pw_ordergrove_k52_rooms_of_signs.main.body.getD i (.Pass ⟨0, 0, 0, 0⟩)
theorem sc_goes_well : FnScope ["goes", "row", "room", "bits"] ["goes", "row"] (defScope (topS 1)) := ⟨rfl, rfl, rfl, by decide +kernel, rfl, by decide +kernel, by decide +kernel⟩
theorem sc_sign_rooms : FnScope ["reader", "s", "row", "found", "room", "sign", "goes"] ["reader", "s", "row"] (defScope (topS 2)) := ⟨rfl, rfl, rfl, by decide +kernel, rfl, by decide +kernel, by decide +kernel⟩
theorem sc__law_box : FnScope ["_law_script", "_law_k", "_law_cell", "_law_seed"] ["_law_script", "_law_k"] (defScope (topS 4)) := ⟨rfl, rfl, rfl, by decide +kernel, rfl, by decide +kernel, by decide +kernel⟩
theorem sc__law_take : FnScope ["_law_box_here", "_law_many", "_law_digit", "_law_one"] ["_law_box_here", "_law_many"] (defScope (topS 5)) := ⟨rfl, rfl, rfl, by decide +kernel, rfl, by decide +kernel, by decide +kernel⟩
theorem sc__law_words : FnScope ["_law_box_here", "_law_many", "_law_letters", "_law_small", "_law_common", "_law_first", "_law_form", "_law_found", "_law_k", "_law_at", "_law_word"] ["_law_box_here", "_law_many", "_law_letters"] (defScope (topS 6)) := ⟨rfl, rfl, rfl, by decide +kernel, rfl, by decide +kernel, by decide +kernel⟩
theorem sc__law_reader : FnScope ["_law_box_here", "_law_signs", "_law_rooms", "_law_many", "_law_count", "_law_rows", "_law_k", "_law_s", "_law_branches", "_law_row", "_law_j"] ["_law_box_here", "_law_signs", "_law_rooms", "_law_many"] (defScope (topS 7)) := ⟨rfl, rfl, rfl, by decide +kernel, rfl, by decide +kernel, by decide +kernel⟩
theorem sc__law_due : FnScope ["_law_reader_here", "_law_s", "_law_row", "_law_due_here", "_law_room", "_law_sign", "_law_goes", "_law_good", "_law_place"] ["_law_reader_here", "_law_s", "_law_row"] (defScope (topS 8)) := ⟨rfl, rfl, rfl, by decide +kernel, rfl, by decide +kernel, by decide +kernel⟩
theorem sc__law_bits : FnScope ["_law_box_here", "_law_rooms", "_law_way"] ["_law_box_here", "_law_rooms"] (defScope (topS 9)) := ⟨rfl, rfl, rfl, by decide +kernel, rfl, by decide +kernel, by decide +kernel⟩
theorem sc_law : FnScope ["_law_script", "_law_box_here", "_law_words_here", "_law_signs", "_law_reader_here", "_law_questions", "_law_k", "_law_s", "_law_branches", "_law_row", "_law_found", "_law_word", "_law_place"] ["_law_script"] (defScope (topS 10)) := ⟨rfl, rfl, rfl, by decide +kernel, rfl, by decide +kernel, by decide +kernel⟩
structure Top (c : Cs) : Prop where
  d_goes_well : Df c "goes_well" (topS 1) ["goes", "row"]
  d_sign_rooms : Df c "sign_rooms" (topS 2) ["reader", "s", "row"]
  d__law_box : Df c "_law_box" (topS 4) ["_law_script", "_law_k"]
  d__law_take : Df c "_law_take" (topS 5) ["_law_box_here", "_law_many"]
  d__law_words : Df c "_law_words" (topS 6) ["_law_box_here", "_law_many", "_law_letters"]
  d__law_reader : Df c "_law_reader" (topS 7) ["_law_box_here", "_law_signs", "_law_rooms", "_law_many"]
  d__law_due : Df c "_law_due" (topS 8) ["_law_reader_here", "_law_s", "_law_row"]
  d__law_bits : Df c "_law_bits" (topS 9) ["_law_box_here", "_law_rooms"]
  d_law : Df c "law" (topS 10) ["_law_script"]
  b_all : c.mg "all" = none
  b_bool : c.mg "bool" = none
  b_int : c.mg "int" = none
  b_isinstance : c.mg "isinstance" = none
  b_len : c.mg "len" = none
  b_max : c.mg "max" = none
  b_min : c.mg "min" = none
  b_range : c.mg "range" = none
  b_sum : c.mg "sum" = none
  b_tuple : c.mg "tuple" = none
  b_zip : c.mg "zip" = none
noncomputable def m_goes_well : FM := mDef 4
  (sRet (mCall gAll (aCons (mComp finF (mItS zip2 (aCons (eVar 0) (aCons (eVar 1) aNil))) (gTupM 2 (gConsM (gN 2) (gConsM (gN 3) gNilM))) tmYes (mBin gEq (mBin gAnd (mBin gShr (eVar 3) (eVar 2)) (eC (.int 1))) (eC (.int 1))) [2, 3]) aNil)))
theorem fok_goes_well {P : Program} {w : World} {c : Cs} {base : Heap} (T : Top c) {f : Addr} {fd : FuncData} (F : Fun c.K "goes_well" "goes_well" (topS 1) f fd) : FnOk P w c.K c.mg base (L2.CX P w) 3 f fd ["goes", "row"] (spD c 2 m_goes_well) :=
  fn_ok (N := ["goes", "row", "room", "bits"]) F sc_goes_well rfl fun cdv A outer s H E hr =>
    (pds_one (pd_ret (pd_callB (cm_all rfl) T.b_all bo_all (pda_cons (pd_lc [("room", 2), ("bits", 3)] finF_ok rfl sc_goes_well.nd ([2] ++ ([3] ++ [])) (pdi_zip T.b_zip (pda_cons (pd_var 0) (pda_cons (pd_var 1) pda_nil))) (show blkC ["goes", "row", "room", "bits"] (defScope (topS 1)) _ [("room", 2), ("bits", 3)] = true from by decide +kernel) (by decide) (fun _ _ _ _ _ => (pdg_tup rfl (pdgs_cons (pdg_name 2 sc_goes_well.nd) (pdgs_cons (pdg_name 3 sc_goes_well.nd) pdgs_nil)))) (fun _ _ _ _ _ => pdts_nil) (fun _ _ _ _ _ => (pd_cmp (om_eq (h200 hr)) (pd_bin om_and (pd_bin om_shr (pd_var 3) (pd_var 2)) pd_int) pd_int))) pda_nil))))
theorem ok_goes_well {P : Program} {w : World} {c : Cs} {base : Heap} (T : Top c) : Cal P w c base "goes_well" 2 3 m_goes_well := by
  obtain ⟨f, fd, F, hm, hb⟩ := T.d_goes_well
  exact cal_of F hm hb (fok_goes_well T F)
noncomputable def m_sign_rooms : FM := mDef 7
  (sSeq (sSet 3 (eC (.int 0)))
    (sSeq (sFor (mIter (mBin gIx (eVar 0) (eC (.int 1)))) (gTupM 3 (gConsM (gN 4) (gConsM (gN 5) (gConsM (gN 6) gNilM)))) (sIf (mAndT (mBl (mBin gEq (eVar 5) (eVar 1))) (mTru (mApp m_goes_well (aCons (eVar 6) (aCons (eVar 2) aNil))))) (sSet 3 (mBin gOr (eVar 3) (mBin gShl (eC (.int 1)) (eVar 4)))) sNil))
    (sRet (eVar 3))))
theorem fok_sign_rooms {P : Program} {w : World} {c : Cs} {base : Heap} (T : Top c) {f : Addr} {fd : FuncData} (F : Fun c.K "sign_rooms" "sign_rooms" (topS 2) f fd) : FnOk P w c.K c.mg base (L2.CX P w) 4 f fd ["reader", "s", "row"] (spD c 3 m_sign_rooms) :=
  fn_ok (N := ["reader", "s", "row", "found", "room", "sign", "goes"]) F sc_sign_rooms rfl fun cdv A outer s H E hr =>
    (pds_cons (pd_set 3 pd_int sc_sign_rooms.nd)
    (pds_cons (pd_for ownD rfl (pdi_any (pd_ix (ixm (h1 hr)) (pd_var 0) pd_int)) (ss := ([4] ++ ([5] ++ ([6] ++ [])))) (pdg_tup rfl (pdgs_cons (pdg_name 4 sc_sign_rooms.nd) (pdgs_cons (pdg_name 5 sc_sign_rooms.nd) (pdgs_cons (pdg_name 6 sc_sign_rooms.nd) pdgs_nil)))) (pds_one (pd_if (PW.pt (pdw_and (pd_cmpT (om_eq (h200 hr)) (pd_var 5) (pd_var 1)) (pdw_and1 (pd_truth (pd_call ((ok_goes_well T).mono (by decide)) hr takesD (pda_cons (pd_var 6) (pda_cons (pd_var 2) pda_nil)) rfl (ar_cons (ar_cons ar_nil))))))) (pds_one (pd_set 3 (pd_bin om_or (pd_var 3) (pd_bin om_shl pd_int (pd_var 4))) sc_sign_rooms.nd)) pds_nil)))
    (pds_one (pd_ret (pd_var 3)))))
theorem ok_sign_rooms {P : Program} {w : World} {c : Cs} {base : Heap} (T : Top c) : Cal P w c base "sign_rooms" 3 4 m_sign_rooms := by
  obtain ⟨f, fd, F, hm, hb⟩ := T.d_sign_rooms
  exact cal_of F hm hb (fok_sign_rooms T F)
noncomputable def m__law_box : FM := mDef 4
  (sSeq (sSet 2 (mBin gAdd (mBin gMul (eC (.int 7919)) (eVar 1)) (eC (.int 11))))
    (sSeq (sIf (mBl (mBin gLt (eVar 1) (mCall gLen (aCons (eVar 0) aNil)))) (sSet 2 (mBin gIx (eVar 0) (eVar 1))) (sIf (mBl (mBin gGt (mCall gLen (aCons (eVar 0) aNil)) (eC (.int 0)))) (sSet 2 (mBin gAdd (eVar 2) (mBin gMul (mBin gMod (mBin gIx (eVar 0) (mBin gMod (eVar 1) (mCall gLen (aCons (eVar 0) aNil)))) (eC (.int 2147483629))) (eC (.int 69621))))) sNil))
    (sSeq (sSet 3 (mBin gAdd (mBin gMod (mBin gAdd (mBin gMul (mBin gMod (eVar 2) (eC (.int 2147483629))) (eC (.int 48271))) (mBin gMul (eC (.int 40692)) (eVar 1))) (eC (.int 2147483646))) (eC (.int 1))))
    (sRet (mNewL (aCons (mBin gMul (eVar 2) (mCall gInt (aCons (mBin gGe (eVar 2) (mBin gPow (eC (.int 10)) (eC (.int 18)))) aNil))) (aCons (eVar 3) aNil)))))))
theorem fok__law_box {P : Program} {w : World} {c : Cs} {base : Heap} (T : Top c) {f : Addr} {fd : FuncData} (F : Fun c.K "_law_box" "_law_box" (topS 4) f fd) : FnOk P w c.K c.mg base (L2.CX P w) 3 f fd ["_law_script", "_law_k"] (spD c 2 m__law_box) :=
  fn_ok (N := ["_law_script", "_law_k", "_law_cell", "_law_seed"]) F sc__law_box rfl fun cdv A outer s H E hr =>
    (pds_cons (pd_set 2 (pd_bin om_add (pd_bin om_mul pd_int (pd_var 1)) pd_int) sc__law_box.nd)
    (pds_cons (pd_if (pd_cmpT om_lt (pd_var 1) (pd_callB cm_len T.b_len bo_len (pda_cons (pd_var 0) pda_nil))) (pds_one (pd_set 2 (pd_ix (ixm (h1 hr)) (pd_var 0) (pd_var 1)) sc__law_box.nd)) (pds_one (pd_if (pd_cmpT om_gt (pd_callB cm_len T.b_len bo_len (pda_cons (pd_var 0) pda_nil)) pd_int) (pds_one (pd_set 2 (pd_bin om_add (pd_var 2) (pd_bin om_mul (pd_bin om_mod (pd_ix (ixm (h1 hr)) (pd_var 0) (pd_bin om_mod (pd_var 1) (pd_callB cm_len T.b_len bo_len (pda_cons (pd_var 0) pda_nil)))) pd_int) pd_int)) sc__law_box.nd)) pds_nil)))
    (pds_cons (pd_set 3 (pd_bin om_add (pd_bin om_mod (pd_bin om_add (pd_bin om_mul (pd_bin om_mod (pd_var 2) pd_int) pd_int) (pd_bin om_mul pd_int (pd_var 1))) pd_int) pd_int) sc__law_box.nd)
    (pds_one (pd_ret (pd_newL (pda_cons (pd_bin om_mul (pd_var 2) (pd_callTy cm_int T.b_int bo_int (pda_cons (pd_cmp om_ge (pd_var 2) (pd_bin om_pow pd_int pd_int)) pda_nil))) (pda_cons (pd_var 3) pda_nil))))))))
theorem ok__law_box {P : Program} {w : World} {c : Cs} {base : Heap} (T : Top c) : Cal P w c base "_law_box" 2 3 m__law_box := by
  obtain ⟨f, fd, F, hm, hb⟩ := T.d__law_box
  exact cal_of F hm hb (fok__law_box T F)
noncomputable def m__law_take : FM := mDef 4
  (sSeq (sIf (mBl (mBin gGt (mBin gIx (eVar 0) (eC (.int 0))) (eC (.int 0)))) (sSeq (sSet 2 (mBin gMod (mBin gIx (eVar 0) (eC (.int 0))) (eVar 1)))
    (sSeq (sPutIx (eVar 0) (eC (.int 0)) (mBin gFdiv (mBin gIx (eVar 0) (eC (.int 0))) (eVar 1)))
    (sRet (eVar 2)))) sNil)
    (sSeq (sSet 3 (mBin gMod (mBin gMul (mBin gIx (eVar 0) (eC (.int 1))) (eC (.int 69621))) (eC (.int 2147483647))))
    (sSeq (sPutIx (eVar 0) (eC (.int 1)) (mBin gAdd (mBin gMod (mBin gAdd (mBin gMul (eVar 3) (eC (.int 48271))) (eC (.int 30103))) (eC (.int 2147483646))) (eC (.int 1))))
    (sRet (mBin gMod (mBin gFdiv (mBin gAdd (mBin gMul (eVar 3) (eC (.int 2147483647))) (mBin gIx (eVar 0) (eC (.int 1)))) (eC (.int 8191))) (eVar 1))))))
theorem fok__law_take {P : Program} {w : World} {c : Cs} {base : Heap} (T : Top c) {f : Addr} {fd : FuncData} (F : Fun c.K "_law_take" "_law_take" (topS 5) f fd) : FnOk P w c.K c.mg base (L2.CX P w) 3 f fd ["_law_box_here", "_law_many"] (spD c 2 m__law_take) :=
  fn_ok (N := ["_law_box_here", "_law_many", "_law_digit", "_law_one"]) F sc__law_take rfl fun cdv A outer s H E hr =>
    (pds_cons (pd_if (pd_cmpT om_gt (pd_ix (ixm (h1 hr)) (pd_var 0) pd_int) pd_int) (pds_cons (pd_set 2 (pd_bin om_mod (pd_ix (ixm (h1 hr)) (pd_var 0) pd_int) (pd_var 1)) sc__law_take.nd)
    (pds_cons (pd_putIx (o' := Expr.Constant .none 0 ⟨0,0,0,0⟩) (pd_bin om_fdiv (pd_ix (ixm (h1 hr)) (pd_var 0) pd_int) (pd_var 1)) (pd_var 0) pd_int)
    (pds_one (pd_ret (pd_var 2))))) pds_nil)
    (pds_cons (pd_set 3 (pd_bin om_mod (pd_bin om_mul (pd_ix (ixm (h1 hr)) (pd_var 0) pd_int) pd_int) pd_int) sc__law_take.nd)
    (pds_cons (pd_putIx (o' := Expr.Constant .none 0 ⟨0,0,0,0⟩) (pd_bin om_add (pd_bin om_mod (pd_bin om_add (pd_bin om_mul (pd_var 3) pd_int) pd_int) pd_int) pd_int) (pd_var 0) pd_int)
    (pds_one (pd_ret (pd_bin om_mod (pd_bin om_fdiv (pd_bin om_add (pd_bin om_mul (pd_var 3) pd_int) (pd_ix (ixm (h1 hr)) (pd_var 0) pd_int)) pd_int) (pd_var 1)))))))
theorem ok__law_take {P : Program} {w : World} {c : Cs} {base : Heap} (T : Top c) : Cal P w c base "_law_take" 2 3 m__law_take := by
  obtain ⟨f, fd, F, hm, hb⟩ := T.d__law_take
  exact cal_of F hm hb (fok__law_take T F)
noncomputable def m__law_words : FM := mDefT 11
  (sSeq (sSet 3 (eC (.str "abcdefghijklmnopqrstuvwxyz0123456789")))
    (sSeq (sSet 4 (mStr1 gJoin (eC (.str "")) (mComp finF (mIt rng1 (aCons (mApp m__law_take (aCons (eVar 0) (aCons (eC (.int 6)) aNil))) aNil)) (gN 8) tmYes (mBin gIx (eVar 3) (mApp m__law_take (aCons (eVar 0) (aCons (eC (.int 36)) aNil)))) [8])))
    (sSeq (sSet 5 (mApp m__law_take (aCons (eVar 0) (aCons (eC (.int 26)) aNil))))
    (sSeq (sSet 6 (mApp m__law_take (aCons (eVar 0) (aCons (eC (.int 4)) aNil))))
    (sSeq (sSet 7 (mNewL aNil))
    (sSeq (sFor (mIt rng1 (aCons (eVar 1) aNil)) (gN 8) (sSeq (sSet 9 (mBin gMod (mBin gAdd (eVar 5) (mBin gMul (eC (.int 5)) (eVar 8))) (eC (.int 26))))
    (sSeq (sSet 10 (mBin gAdd (mBin gIx (eVar 2) (eVar 9)) (eVar 4)))
    (sSeq (sIf (mBl (mBin gEq (eVar 6) (eC (.int 1)))) (sSet 10 (mBin gAdd (eVar 10) (mBin gMul (eC (.str "q")) (mBin gMod (eVar 8) (eC (.int 2)))))) sNil)
    (sSeq (sIf (mBl (mBin gEq (eVar 6) (eC (.int 2)))) (sSet 10 (mBin gAdd (mBin gAdd (mBin gIx (eVar 2) (eVar 5)) (eVar 4)) (mBin gIx (eVar 3) (eVar 9)))) sNil)
    (sSeq (sIf (mBl (mBin gEq (eVar 6) (eC (.int 3)))) (sSet 10 (mBin gAdd (mBin gIx (eVar 2) (eVar 9)) (mSl (eVar 4) oNone (oSome (mBin gMod (eVar 8) (eC (.int 3))))))) sNil)
    (sExpr (mLst1 gAppend (eVar 7) (eVar 10)))))))))
    (sRet (eVar 7))))))))
theorem fok__law_words {P : Program} {w : World} {c : Cs} {base : Heap} (T : Top c) {f : Addr} {fd : FuncData} (F : Fun c.K "_law_words" "_law_words" (topS 6) f fd) : FnOk P w c.K c.mg base (L2.CX P w) 4 f fd ["_law_box_here", "_law_many", "_law_letters"] (spD c 3 m__law_words) :=
  fn_okT (fn_ok (N := ["_law_box_here", "_law_many", "_law_letters", "_law_small", "_law_common", "_law_first", "_law_form", "_law_found", "_law_k", "_law_at", "_law_word"]) F sc__law_words rfl fun cdv A outer s H E hr =>
    (pds_cons (pd_set 3 pd_str sc__law_words.nd)
    (pds_cons (pd_set 4 (pd_join pd_str (pd_lc [("_law_k", 8)] finF_ok rfl sc__law_words.nd [8] (pdi_range1 T.b_range (pda_cons (pd_call ((ok__law_take T).mono (by decide)) hr takesD (pda_cons (pd_var 0) (pda_cons pd_int pda_nil)) rfl (ar_cons (ar_cons ar_nil))) pda_nil)) (show blkC ["_law_box_here", "_law_many", "_law_letters", "_law_small", "_law_common", "_law_first", "_law_form", "_law_found", "_law_k", "_law_at", "_law_word"] (defScope (topS 6)) _ [("_law_k", 8)] = true from by decide +kernel) (by decide) (fun _ _ _ _ _ => (pdg_name 8 sc__law_words.nd)) (fun _ _ _ _ _ => pdts_nil) (fun _ _ _ _ _ => (pd_ix (ixm (h1 hr)) (pd_var 3) (pd_call ((ok__law_take T).mono (by decide)) hr takes0 (pda_cons (pd_var 0) (pda_cons pd_int pda_nil)) rfl (ar_cons (ar_cons ar_nil))))))) sc__law_words.nd)
    (pds_cons (pd_set 5 (pd_call ((ok__law_take T).mono (by decide)) hr takesD (pda_cons (pd_var 0) (pda_cons pd_int pda_nil)) rfl (ar_cons (ar_cons ar_nil))) sc__law_words.nd)
    (pds_cons (pd_set 6 (pd_call ((ok__law_take T).mono (by decide)) hr takesD (pda_cons (pd_var 0) (pda_cons pd_int pda_nil)) rfl (ar_cons (ar_cons ar_nil))) sc__law_words.nd)
    (pds_cons (pd_set 7 (pd_newL pda_nil) sc__law_words.nd)
    (pds_cons (pd_for ownD rfl (pdi_range1 T.b_range (pda_cons (pd_var 1) pda_nil)) (ss := [8]) (pdg_name 8 sc__law_words.nd) (pds_cons (pd_set 9 (pd_bin om_mod (pd_bin om_add (pd_var 5) (pd_bin om_mul pd_int (pd_var 8))) pd_int) sc__law_words.nd)
    (pds_cons (pd_set 10 (pd_bin om_add (pd_ix (ixm (h1 hr)) (pd_var 2) (pd_var 9)) (pd_var 4)) sc__law_words.nd)
    (pds_cons (pd_if (pd_cmpT (om_eq (h200 hr)) (pd_var 6) pd_int) (pds_one (pd_set 10 (pd_bin om_add (pd_var 10) (pd_bin om_mul pd_str (pd_bin om_mod (pd_var 8) pd_int))) sc__law_words.nd)) pds_nil)
    (pds_cons (pd_if (pd_cmpT (om_eq (h200 hr)) (pd_var 6) pd_int) (pds_one (pd_set 10 (pd_bin om_add (pd_bin om_add (pd_ix (ixm (h1 hr)) (pd_var 2) (pd_var 5)) (pd_var 4)) (pd_ix (ixm (h1 hr)) (pd_var 3) (pd_var 9))) sc__law_words.nd)) pds_nil)
    (pds_cons (pd_if (pd_cmpT (om_eq (h200 hr)) (pd_var 6) pd_int) (pds_one (pd_set 10 (pd_bin om_add (pd_ix (ixm (h1 hr)) (pd_var 2) (pd_var 9)) (pd_sl (pd_var 4) pdo_none (pdo_some (pd_bin om_mod (pd_var 8) pd_int)))) sc__law_words.nd)) pds_nil)
    (pds_one (pd_expr (pd_lst1 PySem.F.slot_list_append PySem.F.type_list_append mt_append append_i (pd_var 7) (pd_var 10))))))))))
    (pds_one (pd_ret (pd_var 7))))))))))
theorem ok__law_words {P : Program} {w : World} {c : Cs} {base : Heap} (T : Top c) : Cal P w c base "_law_words" 3 4 m__law_words := by
  obtain ⟨f, fd, F, hm, hb⟩ := T.d__law_words
  exact cal_of F hm hb (fok__law_words T F)
noncomputable def m__law_reader : FM := mDefT 11
  (sSeq (sSet 4 (mBin gAdd (eC (.int 1)) (mApp m__law_take (aCons (eVar 0) (aCons (eVar 2) aNil)))))
    (sSeq (sSet 5 (mNewL aNil))
    (sSeq (sFor (mIt rng1 (aCons (mApp m__law_take (aCons (eVar 0) (aCons (mBin gAdd (eVar 3) (eC (.int 1))) aNil))) aNil)) (gN 6) (sSeq (sAsg (gTupM 2 (gConsM (gN 7) (gConsM (gN 8) gNilM))) (mBin gIx (eVar 1) (mApp m__law_take (aCons (eVar 0) (aCons (mCall gLen (aCons (eVar 1) aNil)) aNil)))))
    (sSeq (sSet 9 (mTup (aCons (mApp m__law_take (aCons (eVar 0) (aCons (eVar 4) aNil))) (aCons (eVar 7) (aCons (mCall gTuple (aCons (mComp finF (mIt rng1 (aCons (eVar 8) aNil)) (gN 10) tmYes (mApp m__law_take (aCons (eVar 0) (aCons (eVar 4) aNil))) [10]) aNil)) aNil)))))
    (sIf (mBl (mBin gNotIn (eVar 9) (eVar 5))) (sExpr (mLst1 gAppend (eVar 5) (eVar 9))) sNil))))
    (sRet (mTup (aCons (eVar 4) (aCons (mCall gTuple (aCons (eVar 5) aNil)) aNil)))))))
theorem fok__law_reader {P : Program} {w : World} {c : Cs} {base : Heap} (T : Top c) {f : Addr} {fd : FuncData} (F : Fun c.K "_law_reader" "_law_reader" (topS 7) f fd) : FnOk P w c.K c.mg base (L2.CX P w) 4 f fd ["_law_box_here", "_law_signs", "_law_rooms", "_law_many"] (spD c 4 m__law_reader) :=
  fn_okT (fn_ok (N := ["_law_box_here", "_law_signs", "_law_rooms", "_law_many", "_law_count", "_law_rows", "_law_k", "_law_s", "_law_branches", "_law_row", "_law_j"]) F sc__law_reader rfl fun cdv A outer s H E hr =>
    (pds_cons (pd_set 4 (pd_bin om_add pd_int (pd_call ((ok__law_take T).mono (by decide)) hr takesD (pda_cons (pd_var 0) (pda_cons (pd_var 2) pda_nil)) rfl (ar_cons (ar_cons ar_nil)))) sc__law_reader.nd)
    (pds_cons (pd_set 5 (pd_newL pda_nil) sc__law_reader.nd)
    (pds_cons (pd_for ownD rfl (pdi_range1 T.b_range (pda_cons (pd_call ((ok__law_take T).mono (by decide)) hr takesD (pda_cons (pd_var 0) (pda_cons (pd_bin om_add (pd_var 3) pd_int) pda_nil)) rfl (ar_cons (ar_cons ar_nil))) pda_nil)) (ss := [6]) (pdg_name 6 sc__law_reader.nd) (pds_cons (pd_asg (pd_ix (ixm (h1 hr)) (pd_var 1) (pd_call ((ok__law_take T).mono (by decide)) hr takesD (pda_cons (pd_var 0) (pda_cons (pd_callB cm_len T.b_len bo_len (pda_cons (pd_var 1) pda_nil)) pda_nil)) rfl (ar_cons (ar_cons ar_nil)))) (pdg_tup rfl (pdgs_cons (pdg_name 7 sc__law_reader.nd) (pdgs_cons (pdg_name 8 sc__law_reader.nd) pdgs_nil))))
    (pds_cons (pd_set 9 (pd_tup (pda_cons (pd_call ((ok__law_take T).mono (by decide)) hr takesD (pda_cons (pd_var 0) (pda_cons (pd_var 4) pda_nil)) rfl (ar_cons (ar_cons ar_nil))) (pda_cons (pd_var 7) (pda_cons (pd_callTy cm_tuple T.b_tuple bo_tuple (pda_cons (pd_lc [("_law_j", 10)] finF_ok rfl sc__law_reader.nd [10] (pdi_range1 T.b_range (pda_cons (pd_var 8) pda_nil)) (show blkC ["_law_box_here", "_law_signs", "_law_rooms", "_law_many", "_law_count", "_law_rows", "_law_k", "_law_s", "_law_branches", "_law_row", "_law_j"] (defScope (topS 7)) _ [("_law_j", 10)] = true from by decide +kernel) (by decide) (fun _ _ _ _ _ => (pdg_name 10 sc__law_reader.nd)) (fun _ _ _ _ _ => pdts_nil) (fun _ _ _ _ _ => (pd_call ((ok__law_take T).mono (by decide)) hr takes0 (pda_cons (pd_var 0) (pda_cons (pd_var 4) pda_nil)) rfl (ar_cons (ar_cons ar_nil))))) pda_nil)) pda_nil)))) sc__law_reader.nd)
    (pds_one (pd_if (pd_cmpT (om_notIn (h201 hr)) (pd_var 9) (pd_var 5)) (pds_one (pd_expr (pd_lst1 PySem.F.slot_list_append PySem.F.type_list_append mt_append append_i (pd_var 5) (pd_var 9)))) pds_nil)))))
    (pds_one (pd_ret (pd_tup (pda_cons (pd_var 4) (pda_cons (pd_callTy cm_tuple T.b_tuple bo_tuple (pda_cons (pd_var 5) pda_nil)) pda_nil)))))))))
theorem ok__law_reader {P : Program} {w : World} {c : Cs} {base : Heap} (T : Top c) : Cal P w c base "_law_reader" 4 4 m__law_reader := by
  obtain ⟨f, fd, F, hm, hb⟩ := T.d__law_reader
  exact cal_of F hm hb (fok__law_reader T F)
noncomputable def m__law_due : FM := mDefT 9
  (sSeq (sSet 3 (mNew2 nMul (mLst (aCons (eC (.int 0)) aNil)) (mBin gIx (eVar 0) (eC (.int 0)))))
    (sSeq (sFor (mIter (mBin gIx (eVar 0) (eC (.int 1)))) (gTupM 3 (gConsM (gN 4) (gConsM (gN 5) (gConsM (gN 6) gNilM)))) (sSeq (sSet 7 (mBin gEq (eVar 5) (eVar 1)))
    (sSeq (sFor (mIt rng1 (aCons (mCall gLen (aCons (eVar 6) aNil)) aNil)) (gN 8) (sIf (mAndT (mTru (eVar 7)) (mBl (mBin gEq (mBin gMod (mBin gFdiv (mBin gIx (eVar 2) (eVar 8)) (mBin gShl (eC (.int 1)) (mBin gIx (eVar 6) (eVar 8)))) (eC (.int 2))) (eC (.int 0))))) (sSet 7 (eC (.bl false))) sNil))
    (sIf (mTru (eVar 7)) (sPutIx (eVar 3) (eVar 4) (mBin gShl (eC (.int 1)) (eVar 4))) sNil))))
    (sRet (mCall gSum (aCons (eVar 3) aNil)))))
theorem fok__law_due {P : Program} {w : World} {c : Cs} {base : Heap} (T : Top c) {f : Addr} {fd : FuncData} (F : Fun c.K "_law_due" "_law_due" (topS 8) f fd) : FnOk P w c.K c.mg base (L2.CX P w) 3 f fd ["_law_reader_here", "_law_s", "_law_row"] (spD c 3 m__law_due) :=
  fn_okT (fn_ok (N := ["_law_reader_here", "_law_s", "_law_row", "_law_due_here", "_law_room", "_law_sign", "_law_goes", "_law_good", "_law_place"]) F sc__law_due rfl fun cdv A outer s H E hr =>
    (pds_cons (pd_set 3 (pd_newMul (pd_lst (pda_cons pd_int pda_nil)) (pd_ix (ixm (h1 hr)) (pd_var 0) pd_int)) sc__law_due.nd)
    (pds_cons (pd_for ownD rfl (pdi_any (pd_ix (ixm (h1 hr)) (pd_var 0) pd_int)) (ss := ([4] ++ ([5] ++ ([6] ++ [])))) (pdg_tup rfl (pdgs_cons (pdg_name 4 sc__law_due.nd) (pdgs_cons (pdg_name 5 sc__law_due.nd) (pdgs_cons (pdg_name 6 sc__law_due.nd) pdgs_nil)))) (pds_cons (pd_set 7 (pd_cmp (om_eq (h200 hr)) (pd_var 5) (pd_var 1)) sc__law_due.nd)
    (pds_cons (pd_for ownD rfl (pdi_range1 T.b_range (pda_cons (pd_callB cm_len T.b_len bo_len (pda_cons (pd_var 6) pda_nil)) pda_nil)) (ss := [8]) (pdg_name 8 sc__law_due.nd) (pds_one (pd_if (PW.pt (pdw_and (pd_truth (pd_var 7)) (pdw_and1 (pd_cmpT (om_eq (h200 hr)) (pd_bin om_mod (pd_bin om_fdiv (pd_ix (ixm (h1 hr)) (pd_var 2) (pd_var 8)) (pd_bin om_shl pd_int (pd_ix (ixm (h1 hr)) (pd_var 6) (pd_var 8)))) pd_int) pd_int)))) (pds_one (pd_set 7 pd_bl sc__law_due.nd)) pds_nil)))
    (pds_one (pd_if (pd_truth (pd_var 7)) (pds_one (pd_putIx (o' := Expr.Constant .none 0 ⟨0,0,0,0⟩) (pd_bin om_shl pd_int (pd_var 4)) (pd_var 3) (pd_var 4))) pds_nil)))))
    (pds_one (pd_ret (pd_callB (cm_sum rfl) T.b_sum bo_sum (pda_cons (pd_var 3) pda_nil)))))))
theorem ok__law_due {P : Program} {w : World} {c : Cs} {base : Heap} (T : Top c) : Cal P w c base "_law_due" 3 3 m__law_due := by
  obtain ⟨f, fd, F, hm, hb⟩ := T.d__law_due
  exact cal_of F hm hb (fok__law_due T F)
noncomputable def m__law_bits : FM := mDef 3
  (sSeq (sSet 2 (mApp m__law_take (aCons (eVar 0) (aCons (eC (.int 4)) aNil))))
    (sRet (mBin gIx (mLst (aCons (eC (.int 0)) (aCons (mBin gSub (mBin gShl (eC (.int 1)) (eVar 1)) (eC (.int 1))) (aCons (mApp m__law_take (aCons (eVar 0) (aCons (mBin gShl (eC (.int 1)) (eVar 1)) aNil))) (aCons (mBin gShl (eC (.int 1)) (mApp m__law_take (aCons (eVar 0) (aCons (eVar 1) aNil)))) aNil))))) (eVar 2))))
theorem fok__law_bits {P : Program} {w : World} {c : Cs} {base : Heap} (T : Top c) {f : Addr} {fd : FuncData} (F : Fun c.K "_law_bits" "_law_bits" (topS 9) f fd) : FnOk P w c.K c.mg base (L2.CX P w) 4 f fd ["_law_box_here", "_law_rooms"] (spD c 2 m__law_bits) :=
  fn_ok (N := ["_law_box_here", "_law_rooms", "_law_way"]) F sc__law_bits rfl fun cdv A outer s H E hr =>
    (pds_cons (pd_set 2 (pd_call ((ok__law_take T).mono (by decide)) hr takesD (pda_cons (pd_var 0) (pda_cons pd_int pda_nil)) rfl (ar_cons (ar_cons ar_nil))) sc__law_bits.nd)
    (pds_one (pd_ret (pd_ix (ixm (h1 hr)) (pd_lst (pda_cons pd_int (pda_cons (pd_bin om_sub (pd_bin om_shl pd_int (pd_var 1)) pd_int) (pda_cons (pd_call ((ok__law_take T).mono (by decide)) hr takesD (pda_cons (pd_var 0) (pda_cons (pd_bin om_shl pd_int (pd_var 1)) pda_nil)) rfl (ar_cons (ar_cons ar_nil))) (pda_cons (pd_bin om_shl pd_int (pd_call ((ok__law_take T).mono (by decide)) hr takesD (pda_cons (pd_var 0) (pda_cons (pd_var 1) pda_nil)) rfl (ar_cons (ar_cons ar_nil)))) pda_nil))))) (pd_var 2)))))
theorem ok__law_bits {P : Program} {w : World} {c : Cs} {base : Heap} (T : Top c) : Cal P w c base "_law_bits" 2 4 m__law_bits := by
  obtain ⟨f, fd, F, hm, hb⟩ := T.d__law_bits
  exact cal_of F hm hb (fok__law_bits T F)
noncomputable def m_law : FM := mDefT 13
  (sSeq (sSet 1 (mApp m__law_box (aCons (eVar 0) (aCons (eC (.int 0)) aNil))))
    (sSeq (sSet 2 (mApp m__law_words (aCons (eVar 1) (aCons (eC (.int 9)) (aCons (eC (.str "abcdefghijklmnopqrstuvwxyz")) aNil)))))
    (sSeq (sSet 3 (mCall gTuple (aCons (mComp finF (mIter (mSl (eVar 2) oNone (oSome (mBin gAdd (eC (.int 1)) (mApp m__law_take (aCons (eVar 1) (aCons (eC (.int 8)) aNil))))))) (gN 11) tmYes (mTup (aCons (eVar 11) (aCons (mApp m__law_take (aCons (eVar 1) (aCons (eC (.int 4)) aNil))) aNil))) [11]) aNil)))
    (sSeq (sSet 4 (mApp m__law_reader (aCons (mApp m__law_box (aCons (eVar 0) (aCons (eC (.int 1)) aNil))) (aCons (eVar 3) (aCons (eC (.int 5)) (aCons (eC (.int 60)) aNil))))))
    (sSeq (sSet 5 (mNewL aNil))
    (sSeq (sFor (mIt rng2 (aCons (eC (.int 2)) (aCons (mCall gMax (aCons (eC (.int 5)) (aCons (mCall gMin (aCons (eC (.int 63)) (aCons (mCall gLen (aCons (eVar 0) aNil)) aNil))) aNil))) aNil))) (gN 6) (sSeq (sSet 1 (mApp m__law_box (aCons (eVar 0) (aCons (eVar 6) aNil))))
    (sSeq (sAsg (gTupM 2 (gConsM (gN 7) (gConsM (gN 8) gNilM))) (mBin gIx (eVar 3) (mApp m__law_take (aCons (eVar 1) (aCons (mCall gLen (aCons (eVar 3) aNil)) aNil)))))
    (sExpr (mLst1 gAppend (eVar 5) (mTup (aCons (eVar 7) (aCons (mCall gTuple (aCons (mComp finF (mIt rng1 (aCons (eVar 8) aNil)) (gN 12) tmYes (mApp m__law_bits (aCons (eVar 1) (aCons (mBin gIx (eVar 4) (eC (.int 0))) aNil))) [12]) aNil)) aNil))))))))
    (sSeq (sFor (mIter (mBin gAdd (eVar 5) (mSl (eVar 5) oNone (oSome (eC (.int 2)))))) (gTupM 2 (gConsM (gN 7) (gConsM (gN 9) gNilM))) (sSeq (sSet 10 (mApp m_sign_rooms (aCons (eVar 4) (aCons (eVar 7) (aCons (eVar 9) aNil)))))
    (sIf (mOrT (mNotT (mTru (mUn (gIsT "int") (eVar 10)))) (mOrT (mTru (mUn (gIsT "bool") (eVar 10))) (mBl (mBin gNe (eVar 10) (mApp m__law_due (aCons (eVar 4) (aCons (eVar 7) (aCons (eVar 9) aNil)))))))) (sRet (eC (.bl false))) sNil)))
    (sRet (eC (.bl true))))))))))
theorem fok_law {P : Program} {w : World} {c : Cs} {base : Heap} (T : Top c) {f : Addr} {fd : FuncData} (F : Fun c.K "law" "law" (topS 10) f fd) : FnOk P w c.K c.mg base (L2.CX P w) 5 f fd ["_law_script"] (spD c 1 m_law) :=
  fn_okT (fn_ok (N := ["_law_script", "_law_box_here", "_law_words_here", "_law_signs", "_law_reader_here", "_law_questions", "_law_k", "_law_s", "_law_branches", "_law_row", "_law_found", "_law_word", "_law_place"]) F sc_law rfl fun cdv A outer s H E hr =>
    (pds_cons (pd_set 1 (pd_call ((ok__law_box T).mono (by decide)) hr takesD (pda_cons (pd_var 0) (pda_cons pd_int pda_nil)) rfl (ar_cons (ar_cons ar_nil))) sc_law.nd)
    (pds_cons (pd_set 2 (pd_call ((ok__law_words T).mono (by decide)) hr takesD (pda_cons (pd_var 1) (pda_cons pd_int (pda_cons pd_str pda_nil))) rfl (ar_cons (ar_cons (ar_cons ar_nil)))) sc_law.nd)
    (pds_cons (pd_set 3 (pd_callTy cm_tuple T.b_tuple bo_tuple (pda_cons (pd_lc [("_law_word", 11)] finF_ok rfl sc_law.nd [11] (pdi_any (pd_sl (pd_var 2) pdo_none (pdo_some (pd_bin om_add pd_int (pd_call ((ok__law_take T).mono (by decide)) hr takesD (pda_cons (pd_var 1) (pda_cons pd_int pda_nil)) rfl (ar_cons (ar_cons ar_nil))))))) (show blkC ["_law_script", "_law_box_here", "_law_words_here", "_law_signs", "_law_reader_here", "_law_questions", "_law_k", "_law_s", "_law_branches", "_law_row", "_law_found", "_law_word", "_law_place"] (defScope (topS 10)) _ [("_law_word", 11)] = true from by decide +kernel) (by decide) (fun _ _ _ _ _ => (pdg_name 11 sc_law.nd)) (fun _ _ _ _ _ => pdts_nil) (fun _ _ _ _ _ => (pd_tup (pda_cons (pd_var 11) (pda_cons (pd_call ((ok__law_take T).mono (by decide)) hr takes0 (pda_cons (pd_var 1) (pda_cons pd_int pda_nil)) rfl (ar_cons (ar_cons ar_nil))) pda_nil))))) pda_nil)) sc_law.nd)
    (pds_cons (pd_set 4 (pd_call ((ok__law_reader T).mono (by decide)) hr takesD (pda_cons (pd_call ((ok__law_box T).mono (by decide)) hr takesD (pda_cons (pd_var 0) (pda_cons pd_int pda_nil)) rfl (ar_cons (ar_cons ar_nil))) (pda_cons (pd_var 3) (pda_cons pd_int (pda_cons pd_int pda_nil)))) rfl (ar_cons (ar_cons (ar_cons (ar_cons ar_nil))))) sc_law.nd)
    (pds_cons (pd_set 5 (pd_newL pda_nil) sc_law.nd)
    (pds_cons (pd_for ownD rfl (pdi_range2 T.b_range (pda_cons pd_int (pda_cons (pd_callB (cm_max rfl) T.b_max bo_max (pda_cons pd_int (pda_cons (pd_callB (cm_min rfl) T.b_min bo_min (pda_cons pd_int (pda_cons (pd_callB cm_len T.b_len bo_len (pda_cons (pd_var 0) pda_nil)) pda_nil))) pda_nil))) pda_nil))) (ss := [6]) (pdg_name 6 sc_law.nd) (pds_cons (pd_set 1 (pd_call ((ok__law_box T).mono (by decide)) hr takesD (pda_cons (pd_var 0) (pda_cons (pd_var 6) pda_nil)) rfl (ar_cons (ar_cons ar_nil))) sc_law.nd)
    (pds_cons (pd_asg (pd_ix (ixm (h1 hr)) (pd_var 3) (pd_call ((ok__law_take T).mono (by decide)) hr takesD (pda_cons (pd_var 1) (pda_cons (pd_callB cm_len T.b_len bo_len (pda_cons (pd_var 3) pda_nil)) pda_nil)) rfl (ar_cons (ar_cons ar_nil)))) (pdg_tup rfl (pdgs_cons (pdg_name 7 sc_law.nd) (pdgs_cons (pdg_name 8 sc_law.nd) pdgs_nil))))
    (pds_one (pd_expr (pd_lst1 PySem.F.slot_list_append PySem.F.type_list_append mt_append append_i (pd_var 5) (pd_tup (pda_cons (pd_var 7) (pda_cons (pd_callTy cm_tuple T.b_tuple bo_tuple (pda_cons (pd_lc [("_law_place", 12)] finF_ok rfl sc_law.nd [12] (pdi_range1 T.b_range (pda_cons (pd_var 8) pda_nil)) (show blkC ["_law_script", "_law_box_here", "_law_words_here", "_law_signs", "_law_reader_here", "_law_questions", "_law_k", "_law_s", "_law_branches", "_law_row", "_law_found", "_law_word", "_law_place"] (defScope (topS 10)) _ [("_law_place", 12)] = true from by decide +kernel) (by decide) (fun _ _ _ _ _ => (pdg_name 12 sc_law.nd)) (fun _ _ _ _ _ => pdts_nil) (fun _ _ _ _ _ => (pd_call ((ok__law_bits T).mono (by decide)) hr takes0 (pda_cons (pd_var 1) (pda_cons (pd_ix (ixm (h1 hr)) (pd_var 4) pd_int) pda_nil)) rfl (ar_cons (ar_cons ar_nil))))) pda_nil)) pda_nil)))))))))
    (pds_cons (pd_for ownD rfl (pdi_any (pd_bin om_add (pd_var 5) (pd_sl (pd_var 5) pdo_none (pdo_some pd_int)))) (ss := ([7] ++ ([9] ++ []))) (pdg_tup rfl (pdgs_cons (pdg_name 7 sc_law.nd) (pdgs_cons (pdg_name 9 sc_law.nd) pdgs_nil))) (pds_cons (pd_set 10 (pd_call ((ok_sign_rooms T).mono (by decide)) hr takesD (pda_cons (pd_var 4) (pda_cons (pd_var 7) (pda_cons (pd_var 9) pda_nil))) rfl (ar_cons (ar_cons (ar_cons ar_nil)))) sc_law.nd)
    (pds_one (pd_if (PW.pt (pdw_or (pdt_not (pd_truth (pd_isT "int" T.b_isinstance T.b_int bo_int (pd_var 10)))) (pdw_or (pd_truth (pd_isT "bool" T.b_isinstance T.b_bool bo_bool (pd_var 10))) (pdw_or1 (pd_cmpT (om_ne (h200 hr)) (pd_var 10) (pd_call ((ok__law_due T).mono (by decide)) hr takesD (pda_cons (pd_var 4) (pda_cons (pd_var 7) (pda_cons (pd_var 9) pda_nil))) rfl (ar_cons (ar_cons (ar_cons ar_nil))))))))) (pds_one (pd_ret pd_bl)) pds_nil))))
    (pds_one (pd_ret pd_bl))))))))))
theorem ok_law {P : Program} {w : World} {c : Cs} {base : Heap} (T : Top c) : Cal P w c base "law" 1 5 m_law := by
  obtain ⟨f, fd, F, hm, hb⟩ := T.d_law
  exact cal_of F hm hb (fok_law T F)
end K52

set_option maxRecDepth 100000
namespace K52
open PySem PySem.Spec PyProof.Rows L2 Mir
theorem take_eq : m__law_take = mTake := rfl
theorem box_eq : m__law_box = mBox := rfl
theorem words_eq : m__law_words = mWords := rfl
def goodB (g row : List Nat) : Bool := (g.zip row).all fun p => decide (p.2 / 2 ^ p.1 % 2 = 1)
theorem and1 : ∀ x : Fin 32, ∀ r : Fin 5, Builtin.bitAnd ((x.val : Int) / 2 ^ r.val) 1 = ((x.val / 2 ^ r.val % 2 : Nat) : Int) := by decide +kernel
theorem or1 : ∀ x : Fin 32, ∀ r : Fin 5, ∃ y : Fin 32, Builtin.bitOr (x.val : Int) ((2 ^ r.val : Nat) : Int) = (y.val : Int) ∧ ∀ i : Fin 5, (y.val / 2 ^ i.val % 2 = 1 ↔ i = r ∨ x.val / 2 ^ i.val % 2 = 1) := by decide +kernel
theorem sum1 : ∀ C : Fin 6, ∀ x : Fin 32, x.val < 2 ^ C.val → ((List.range C.val).map fun i => if x.val / 2 ^ i % 2 = 1 then ((2 ^ i : Nat) : Int) else 0).sum = (x.val : Int) := by decide +kernel
abbrev nI (l : List Nat) : List D := l.map fun (x : Nat) => D.int (x : Int)
theorem zip_nI (l m : List Nat) : zipD (nI l) (nI m) = (l.zip m).map fun p => D.tup [.int (p.1 : Nat), .int (p.2 : Nat)] := by
  unfold zipD nI
  rw [List.zip_map, List.map_map]
  rfl
theorem blsD_map {α : Type} (l : List α) (f : α → Bool) : blsD (l.map fun p => D.bl (f p)) = some (l.map f) := by
  induction l with
  | nil => rfl
  | cons a l ih => simp [blsD, ih]
theorem goes_P {S : Sto} {g row : List Nat} (hg : ∀ r ∈ g, r < 5) (hr : ∀ x ∈ row, x < 32) (hl : g.length ≤ 100) : (m_goes_well [.tup (nI g), .tup (nI row)] S).P fun d S' => S = S' ∧ d = .bl (goodB g row) := by
  unfold m_goes_well
  rw [P_def, F_ret, P_call, P_consA]
  refine P_compF (g.zip row) (fun p => D.tup [.int (p.1 : Nat), .int (p.2 : Nat)]) (fun p => D.bl (decide (p.2 / 2 ^ p.1 % 2 = 1))) ?_ ?_ ?_
  · simp only [startE, List.map, List.length, List.replicate, List.cons_append, List.nil_append, P_mItS, P_consA, P_nilA, P_var, List.getElem?_cons_succ, List.getElem?_cons_zero, Op_some, ev_zipTT, zip_nI]
    exact ⟨by trivial, by trivial, by trivial, small (by rw [List.length_zip]; omega)⟩
  · rintro ⟨r, x⟩ hp
    have h1 := hg r (List.of_mem_zip hp).1
    have h2 := hr x (List.of_mem_zip hp).2
    refine ⟨[some (.tup (nI g)), some (.tup (nI row)), some (.int (r : Nat)), some (.int (x : Nat))], rfl, ?_⟩
    have e := and1 ⟨x, h2⟩ ⟨r, h1⟩
    simp only at e
    simp only [P_bin, P_c, P_var, List.getElem?_cons_succ, List.getElem?_cons_zero, Op_some, ev_shr (show (0 : Int) ≤ (r : Int) by omega), Int.toNat_natCast, ev_and, e, ev_eqi]
    refine ⟨trivial, ?_⟩
    congr 1
    rw [Bool.eq_iff_iff, decide_eq_true_eq, decide_eq_true_eq]
    omega
  · rw [P_finF, P_nilA]
    simp [gAll, listT, blsD_map, goodB, List.all_map, Function.comp_def]
/-- a row of the reader: room, the sign's number, rooms beneath -/
abbrev Row := Nat × Nat × List Nat
def rowD (W : Nat → List Nat) (r : Row) : D := .tup [.int (r.1 : Nat), .str (sL (W r.2.1)), .tup (nI r.2.2)]
def hit (k : Nat) (row : List Nat) (r : Row) : Bool := decide (r.2.1 = k) && goodB r.2.2 row
structure Rd (W : Nat → List Nat) (B : Nat → Nat) (C : Nat) (rows : List Row) : Prop where
  rm : ∀ r ∈ rows, r.1 < C
  sg : ∀ r ∈ rows, r.2.1 < 9
  ln : ∀ r ∈ rows, r.2.2.length = B r.2.1
  go : ∀ r ∈ rows, ∀ x ∈ r.2.2, x < C
structure Wd (W : Nat → List Nat) : Prop where
  ok : ∀ k, okS (sL (W k))
  inj : ∀ i j, i < 9 → j < 9 → W i = W j → i = j
theorem Wd.eq {W : Nat → List Nat} (h : Wd W) {S : Sto} {i j : Nat} (hi : i < 9) (hj : j < 9) : gEq S (.str (sL (W i))) (.str (sL (W j))) = some (.bl (decide (i = j))) := by
  rw [ev_eqs (h.ok i) (h.ok j)]
  congr 2
  rw [Bool.eq_iff_iff, decide_eq_true_eq, decide_eq_true_eq]
  exact ⟨fun e => h.inj i j hi hj (sL_inj e), fun e => by rw [e]⟩
/-- the rooms found, as a number -/
def fnd (k : Nat) (row : List Nat) : List Row → Nat → Nat
  | [], a => a
  | r :: rs, a => fnd k row rs (if hit k row r then (Builtin.bitOr (a : Int) ((2 ^ r.1 : Nat) : Int)).toNat else a)
theorem or_nat {x r : Nat} (hx : x < 32) (hr : r < 5) : ∃ y : Nat, y < 32 ∧ Builtin.bitOr (x : Int) ((2 ^ r : Nat) : Int) = (y : Int) ∧ ∀ i, i < 5 → (y / 2 ^ i % 2 = 1 ↔ i = r ∨ x / 2 ^ i % 2 = 1) := by
  obtain ⟨y, h1, h2⟩ := or1 ⟨x, hx⟩ ⟨r, hr⟩
  refine ⟨y.val, y.isLt, h1, fun i hi => ?_⟩
  have := h2 ⟨i, hi⟩
  simpa using this
theorem shl1 {S : Sto} {R : Nat} (hR : R ≤ 5) : gShl S (.int 1) (.int R) = some (.int ((2 ^ R : Nat) : Int)) := by
  rw [ev_shl (by omega)]; simp
theorem rooms_P {S : Sto} {W : Nat → List Nat} {B : Nat → Nat} {C k : Nat} {rows : List Row} {row : List Nat} (hW : Wd W) (hR : Rd W B C rows) (hC : C ≤ 5) (hk : k < 9) (hB : ∀ i, B i ≤ 10) (hr : ∀ x ∈ row, x < 32) :
    (m_sign_rooms [.tup [.int C, .tup (rows.map (rowD W))], .str (sL (W k)), .tup (nI row)] S).P fun d S' => S = S' ∧ d = .int (fnd k row rows 0) := by
  unfold m_sign_rooms
  rw [P_def, F_seq]
  simp only [startE, F_set, P_c, List.map, List.length, List.replicate, List.cons_append, List.nil_append, List.set_cons_succ, List.set_cons_zero]
  rw [F_seq]
  refine F_forM rows (rowD W) (fun q r ρ S' => S = S' ∧ ∃ (a : Nat) (u v w : Option D), a < 32 ∧ ρ = [some (.tup [.int C, .tup (rows.map (rowD W))]), some (.str (sL (W k))), some (.tup (nI row)), some (.int a), u, v, w] ∧ fnd k row rows 0 = fnd k row r a) ?_ ?_ ?_
  · have e : ∀ xs : List D, atI [D.int C, .tup xs] 1 = some (.tup xs) := fun _ => rfl
    simp only [P_mIter, P_bin, P_c, P_var, List.getElem?_cons_succ, List.getElem?_cons_zero, Op_some, ev_ixT, e, ev_itT]
    exact ⟨by trivial, by trivial, by trivial, 0, _, _, _, by omega, rfl, rfl⟩
  · rintro ⟨r, j, g⟩ q rs ρ S1 e ⟨rfl, a, u, v, w, ha, rfl, hf⟩
    have hm : ((r, j, g) : Row) ∈ rows := by rw [e]; simp
    have h1 : r < C := hR.rm _ hm
    have h2 : j < 9 := hR.sg _ hm
    have h3 : ∀ x ∈ g, x < C := hR.go _ hm
    have h4 : g.length = B j := hR.ln _ hm
    refine ⟨[some (.tup [.int C, .tup (rows.map (rowD W))]), some (.str (sL (W k))), some (.tup (nI row)), some (.int a), some (.int (r : Nat)), some (.str (sL (W j))), some (.tup (nI g))], rfl, ?_⟩
    rw [F_if, P_andT]
    simp only [P_bl, P_bin, P_var, List.getElem?_cons_succ, List.getElem?_cons_zero, Op_some, hW.eq h2 hk, OB_bl]
    have hh : hit k row (r, j, g) = (decide (j = k) && goodB g row) := rfl
    by_cases c : j = k
    · simp only [c, decide_true, if_true, P_tru, P_app, P_consA, P_nilA, P_var, List.getElem?_cons_succ, List.getElem?_cons_zero, Op_some]
      refine (goes_P (fun x hx => by have := h3 x hx; omega) hr (by have := hB j; omega)).imp ?_
      rintro d S2 ⟨rfl, rfl⟩
      rw [ev_truB, Op_some]
      cases hg : goodB g row with
      | true =>
        obtain ⟨y, hy, e1, e2⟩ := or_nat ha (show r < 5 by omega)
        simp only [if_true, F_set, P_bin, P_c, P_var, List.getElem?_cons_succ, List.getElem?_cons_zero, Op_some, shl1 (show r ≤ 5 by omega), ev_or, e1, List.set_cons_succ, List.set_cons_zero]
        refine ⟨trivial, y, _, _, _, hy, rfl, ?_⟩
        rw [hf]
        show fnd k row rs (if hit k row (r, j, g) = true then _ else _) = _
        rw [hh, hg, c, decide_eq_true rfl]
        simp only [Bool.and_self, if_true]
        rw [e1, Int.toNat_natCast]
      | false =>
        simp only [Bool.false_eq_true, if_false, F_nil]
        refine ⟨trivial, a, _, _, _, ha, rfl, ?_⟩
        rw [hf]
        show fnd k row rs (if hit k row (r, j, g) = true then _ else _) = _
        rw [hh, hg, Bool.and_false]; rfl
    · simp only [c, decide_false, Bool.false_eq_true, if_false, F_nil]
      refine ⟨trivial, a, _, _, _, ha, rfl, ?_⟩
      rw [hf]
      show fnd k row rs (if hit k row (r, j, g) = true then _ else _) = _
      rw [hh, decide_eq_false c, Bool.false_and]; rfl
  · rintro ρ S1 ⟨rfl, a, u, v, w, ha, rfl, hf⟩
    simp only [F_ret, P_var, List.getElem?_cons_succ, List.getElem?_cons_zero, Op_some]
    exact ⟨trivial, by rw [hf]; rfl⟩
end K52

set_option maxRecDepth 100000
namespace K52
open PySem PySem.Spec PyProof.Rows L2 Mir
def dl (C a : Nat) : List Int := (List.range C).map fun i => if a / 2 ^ i % 2 = 1 then ((2 ^ i : Nat) : Int) else 0
theorem or2 : ∀ C : Fin 6, ∀ x : Fin 32, ∀ r : Fin 5, x.val < 2 ^ C.val → r.val < C.val → Builtin.bitOr (x.val : Int) ((2 ^ r.val : Nat) : Int) < ((2 ^ C.val : Nat) : Int) := by decide +kernel
theorem dl_set {C a y r : Nat} (hC : C ≤ 5) (hr : r < C) (h : ∀ i, i < 5 → (y / 2 ^ i % 2 = 1 ↔ i = r ∨ a / 2 ^ i % 2 = 1)) : (dl C a).set r ((2 ^ r : Nat) : Int) = dl C y := by
  refine List.ext_getElem (by simp [dl]) fun i h1 h2 => ?_
  have hi : i < C := by simpa [dl] using h2
  have q := h i (by omega)
  rw [List.getElem_set]
  simp only [dl, List.getElem_map, List.getElem_range]
  by_cases c : r = i
  · subst c
    rw [if_pos rfl, if_pos (q.mpr (.inl rfl))]
  · rw [if_neg c]
    by_cases c2 : a / 2 ^ i % 2 = 1
    · rw [if_pos c2, if_pos (q.mpr (.inr c2))]
    · rw [if_neg c2, if_neg (fun z => by rcases q.mp z with z | z; exact c z.symm; exact c2 z)]
theorem good_range {g row : List Nat} (h : g.length = row.length) : goodB g row = (List.range g.length).all fun i => decide (row.getD i 0 / 2 ^ g.getD i 0 % 2 = 1) := by
  unfold goodB
  rw [Bool.eq_iff_iff, List.all_eq_true, List.all_eq_true]
  constructor
  · intro q i hi
    have hi : i < g.length := List.mem_range.mp hi
    have := q (g[i], row[i]) (by
      rw [List.mem_iff_getElem]
      exact ⟨i, by rw [List.length_zip]; omega, by simp⟩)
    rw [List.getD_eq_getElem?_getD, List.getD_eq_getElem?_getD, List.getElem?_eq_getElem hi, List.getElem?_eq_getElem (by omega)]
    exact this
  · intro q p hp
    obtain ⟨i, hi, rfl⟩ := List.mem_iff_getElem.mp hp
    have hi2 : i < g.length ∧ i < row.length := by rw [List.length_zip] at hi; omega
    have := q i (List.mem_range.mpr hi2.1)
    rw [List.getD_eq_getElem?_getD, List.getD_eq_getElem?_getD, List.getElem?_eq_getElem hi2.1, List.getElem?_eq_getElem hi2.2] at this
    simpa using this
theorem ints_clean (l : List Int) : D.cleans 0 (l.map D.int) = true := by
  induction l with
  | nil => rfl
  | cons a l ih => exact ih
theorem intsD_map (l : List Int) : intsD (l.map D.int) = some l := by
  induction l with
  | nil => rfl
  | cons a l ih => simp [intsD, ih]
theorem pw {R : Nat} (hR : R ≤ 5) : (0 : Int) < 2 ^ R ∧ (2 : Int) ^ R ≤ 32 ∧ ((2 ^ R : Nat) : Int) = (2 : Int) ^ R := by
  have p1 : (2 : Nat) ^ R ≤ 2 ^ 5 := Nat.pow_le_pow_right (by omega) (by omega)
  have h3 : ((2 ^ R : Nat) : Int) = (2 : Int) ^ R := by simp
  have p0 : (0 : Int) < 2 ^ R := Int.pow_pos (by omega)
  refine ⟨p0, by omega, h3⟩
theorem nI_at {l : List Nat} {i : Nat} (h : i < l.length) : atI (nI l) (i : Int) = some (.int (l.getD i 0 : Nat)) := by
  refine atI_nat ?_
  rw [List.getD_eq_getElem?_getD]
  simp [nI, h]
theorem due_P {S : Sto} {W : Nat → List Nat} {B : Nat → Nat} {C k : Nat} {rows : List Row} {row : List Nat} (pu : Pu S) (hW : Wd W) (hR : Rd W B C rows) (hC : C ≤ 5) (hk : k < 9) (hB : ∀ i, B i ≤ 10) (hr : ∀ x ∈ row, x < 2 ^ C) (hlr : row.length = B k) :
    (m__law_due [.tup [.int C, .tup (rows.map (rowD W))], .str (sL (W k)), .tup (nI row)] S).P fun d S' => S = S' ∧ d = .int (fnd k row rows 0) := by
  unfold m__law_due
  refine P_cut ?_
  rw [P_def, F_seq]
  have sl1 : 1 ≤ sizeLine := by decide
  have sl5 : C ≤ sizeLine := small (by omega)
  have e0 : ∀ xs : List D, atI [D.int C, .tup xs] 0 = some (.int C) := fun _ => rfl
  have e1 : ∀ xs : List D, atI [D.int C, .tup xs] 1 = some (.tup xs) := fun _ => rfl
  have en : ∀ S, nMul S (.lst [.int 0]) (.int C) = some ((dl C 0).map D.int) := fun S => by
    unfold nMul
    simp only [listT]
    rw [if_pos ⟨by omega, by omega, by simp; exact sl5⟩]
    congr 1
    rw [Int.toNat_natCast]
    have : ∀ C : Nat, (List.replicate C [D.int 0]).flatten = ((List.range C).map fun _ => (0 : Int)).map D.int := by
      intro C
      rw [List.map_map]
      induction C with
      | zero => rfl
      | succ n ih => rw [List.replicate_succ', List.flatten_append, ih, List.range_succ, List.map_append]; rfl
    rw [this]
    unfold dl
    simp
  simp only [startE, F_set, P_new2, P_lst, P_bin, P_consA, P_nilA, P_c, P_var, List.map, List.length, List.replicate, List.cons_append, List.nil_append, List.getElem?_cons_succ, List.getElem?_cons_zero, Op_some, ev_ixT, e0, en, List.set_cons_succ, List.set_cons_zero]
  refine ⟨sl1, ?_⟩
  rw [F_seq]
  have gl : ∀ l : List D, (S ++ [MO.lst l])[S.length]? = some (MO.lst l) := fun l => get_last
  have sl2 : ∀ l m : List D, (S ++ [MO.lst l]).set S.length (MO.lst m) = S ++ [MO.lst m] := fun l m => set_last
  obtain ⟨rd, hrd⟩ : ∃ rd, rd = D.tup [.int C, .tup (rows.map (rowD W))] := ⟨_, rfl⟩
  rw [← hrd]
  refine F_forM rows (rowD W) (fun q r ρ S' => ∃ (a : Nat) (u v w x y : Option D), a < 2 ^ C ∧ a < 32 ∧ ρ = [some rd, some (.str (sL (W k))), some (.tup (nI row)), some (.loc S.length), u, v, w, x, y] ∧ S' = S ++ [.lst ((dl C a).map D.int)] ∧ fnd k row rows 0 = fnd k row r a) ?_ ?_ ?_
  · simp only [P_mIter, P_bin, P_c, P_var, List.getElem?_cons_succ, List.getElem?_cons_zero, Op_some, hrd, ev_ixT, e1, ev_itT]
    exact ⟨by trivial, by trivial, 0, _, _, _, _, _, Nat.pow_pos (by omega), by omega, rfl, rfl, rfl⟩
  · rintro ⟨r, j, g⟩ q rs ρ S1 e ⟨a, u, v, w, x, y, ha, ha2, rfl, rfl, hf⟩
    have hm : ((r, j, g) : Row) ∈ rows := by rw [e]; simp
    have h1 : r < C := hR.rm _ hm
    have h2 : j < 9 := hR.sg _ hm
    have h3 : ∀ x ∈ g, x < C := hR.go _ hm
    have h4 : g.length = B j := hR.ln _ hm
    refine ⟨[some rd, some (.str (sL (W k))), some (.tup (nI row)), some (.loc S.length), some (.int (r : Nat)), some (.str (sL (W j))), some (.tup (nI g)), x, y], rfl, ?_⟩
    have hh : hit k row (r, j, g) = (decide (j = k) && goodB g row) := rfl
    rw [F_seq]
    simp only [F_set, P_bin, P_var, List.getElem?_cons_succ, List.getElem?_cons_zero, Op_some, hW.eq h2 hk, List.set_cons_succ, List.set_cons_zero]
    refine F_mid (fun ρ S' => S' = S ++ [.lst ((dl C a).map D.int)] ∧ ∃ y : Option D, ρ = [some rd, some (.str (sL (W k))), some (.tup (nI row)), some (.loc S.length), some (.int (r : Nat)), some (.str (sL (W j))), some (.tup (nI g)), some (.bl (hit k row (r, j, g))), y]) ?_ ?_
    · obtain ⟨L, hL⟩ : ∃ L, L = List.range g.length := ⟨_, rfl⟩
      refine F_forM L (fun i => D.int (0 + (i : Nat))) (fun q2 r2 ρ S' => S' = S ++ [.lst ((dl C a).map D.int)] ∧ ∃ y : Option D, ρ = [some rd, some (.str (sL (W k))), some (.tup (nI row)), some (.loc S.length), some (.int (r : Nat)), some (.str (sL (W j))), some (.tup (nI g)), some (.bl (decide (j = k) && q2.all fun i => decide (row.getD i 0 / 2 ^ g.getD i 0 % 2 = 1))), y]) ?_ ?_ ?_
      · refine P_rng1 (n := g.length) (by have := hB j; omega) ?_
        simp only [P_call, P_consA, P_nilA, P_var, List.getElem?_cons_succ, List.getElem?_cons_zero, Op_some, ev_lenT]
        subst hL
        refine ⟨by simp, by trivial, by trivial, by trivial, y, by simp⟩
      · rintro i q2 r2 ρ S2 e2 ⟨rfl, y, rfl⟩
        have hi : i < g.length := List.mem_range.mp (by rw [← hL, e2]; simp)
        refine ⟨[some rd, some (.str (sL (W k))), some (.tup (nI row)), some (.loc S.length), some (.int (r : Nat)), some (.str (sL (W j))), some (.tup (nI g)), some (.bl (decide (j = k) && q2.all fun i => decide (row.getD i 0 / 2 ^ g.getD i 0 % 2 = 1))), some (.int (i : Nat))], by rw [Int.zero_add]; rfl, ?_⟩
        rw [F_if, P_andT]
        simp only [P_tru, P_var, List.getElem?_cons_succ, List.getElem?_cons_zero, Op_some, ev_truB]
        rw [List.all_append, ← Bool.and_assoc]
        cases hc : (decide (j = k) && q2.all fun i => decide (row.getD i 0 / 2 ^ g.getD i 0 % 2 = 1)) with
        | false =>
          simp only [Bool.false_eq_true, if_false, F_nil]
          exact ⟨trivial, _, by rw [Bool.false_and]⟩
        | true =>
          have hjk : j = k := by
            rw [Bool.and_eq_true, decide_eq_true_eq] at hc
            exact hc.1
          have hi2 : i < row.length := by rw [hlr, ← hjk, ← h4]; exact hi
          have hgi : g.getD i 0 < 5 := by
            have : g.getD i 0 ∈ g := by
              rw [List.getD_eq_getElem?_getD, List.getElem?_eq_getElem hi]
              exact List.getElem_mem hi
            have := h3 _ this
            omega
          obtain ⟨z0, z1, z2⟩ := pw (R := g.getD i 0) (by omega)
          have ed : ((row.getD i 0 : Nat) : Int) / 2 ^ (g.getD i 0) % 2 = ((row.getD i 0 / 2 ^ (g.getD i 0) % 2 : Nat) : Int) := by
            rw [← z2]; simp
          simp only [if_true, P_bl, P_bin, P_c, P_var, List.getElem?_cons_succ, List.getElem?_cons_zero, Op_some, ev_ixT, nI_at hi, nI_at hi2, shl1 (show g.getD i 0 ≤ 5 by omega), z2, ev_fdiv z0 (by omega), ev_mod (show (0 : Int) < 2 by omega), ed, ev_eqi, OB_bl]
          by_cases c : row.getD i 0 / 2 ^ (g.getD i 0) % 2 = 0
          · have c' : ((row.getD i 0 / 2 ^ (g.getD i 0) % 2 : Nat) : Int) = 0 := by omega
            simp only [c', decide_true, if_true, F_set, P_c, List.set_cons_succ, List.set_cons_zero]
            have hz : decide (row.getD i 0 / 2 ^ g.getD i 0 % 2 = 1) = false := decide_eq_false (by omega)
            exact ⟨trivial, some (.int (i : Nat)), by simp only [List.all_cons, List.all_nil, hz]; rfl⟩
          · have c' : ¬ ((row.getD i 0 / 2 ^ (g.getD i 0) % 2 : Nat) : Int) = 0 := by omega
            have c2 : row.getD i 0 / 2 ^ (g.getD i 0) % 2 = 1 := by omega
            simp only [c', decide_false, Bool.false_eq_true, if_false, F_nil]
            have hz : decide (row.getD i 0 / 2 ^ g.getD i 0 % 2 = 1) = true := decide_eq_true c2
            exact ⟨trivial, some (.int (i : Nat)), by simp only [List.all_cons, List.all_nil, hz]; rfl⟩
      · rintro ρ S2 ⟨rfl, y, rfl⟩
        refine ⟨rfl, y, ?_⟩
        rw [hL, hh]
        by_cases c : j = k
        · rw [good_range (by rw [h4, hlr, c])]
        · rw [decide_eq_false c, Bool.false_and, Bool.false_and]
    rintro ρ S2 ⟨rfl, y, rfl⟩
    rw [F_if]
    simp only [P_tru, P_var, List.getElem?_cons_succ, List.getElem?_cons_zero, Op_some, ev_truB]
    have hs : fnd k row ((r, j, g) :: rs) a = fnd k row rs (if hit k row (r, j, g) then (Builtin.bitOr (a : Int) ((2 ^ r : Nat) : Int)).toNat else a) := rfl
    cases hg : hit k row (r, j, g) with
    | false =>
      simp only [Bool.false_eq_true, if_false, F_nil]
      refine ⟨a, _, _, _, _, _, ha, ha2, rfl, rfl, ?_⟩
      rw [hf, hs, hg]; rfl
    | true =>
      obtain ⟨y2, hy, e3, e4⟩ := or_nat ha2 (show r < 5 by omega)
      have a3 : ixN ((dl C a).map D.int).length (r : Int) = some r := by
        unfold ixN
        rw [if_pos (by omega), if_pos (by simp [dl]; omega), Int.toNat_natCast]
      have a4 : ((dl C a).map D.int).set r (.int ((2 ^ r : Nat) : Int)) = (dl C y2).map D.int := by
        rw [← dl_set hC h1 e4, List.map_set]
      simp only [if_true, F_putIx, P_bin, P_c, P_var, List.getElem?_cons_succ, List.getElem?_cons_zero, Op_some, shl1 (show r ≤ 5 by omega), ev_cell (gl _), OI_int, a3, a4, sl2]
      refine ⟨y2, _, _, _, _, _, ?_, hy, rfl, rfl, ?_⟩
      · have := or2 ⟨C, by omega⟩ ⟨a, ha2⟩ ⟨r, by omega⟩ ha h1
        simp only at this
        rw [e3] at this
        omega
      · rw [hf, hs, hg]
        simp only [if_true]
        rw [e3, Int.toNat_natCast]
  · rintro ρ S2 ⟨a, u, v, w, x, y, ha, ha2, rfl, rfl, hf⟩
    have es : gSum (S ++ [MO.lst ((dl C a).map D.int)]) [.loc S.length] = some (.int (a : Nat)) := by
      have := sum1 ⟨C, by omega⟩ ⟨a, ha2⟩ ha
      unfold gSum
      simp only [listT, gl, intsD_map, Option.map_some]
      rw [← this]
      rfl
    simp only [F_ret, P_call, P_consA, P_nilA, P_var, List.getElem?_cons_succ, List.getElem?_cons_zero, Op_some, es]
    refine ⟨pu.add (ints_clean _), .inl ⟨rfl, ?_, ?_⟩⟩
    · simp
    · rw [hf]; rfl
end K52

set_option maxRecDepth 100000
namespace K52
open PySem PySem.Spec PyProof.Rows L2 Mir
theorem bits_P {S : Sto} {n C : Nat} {o s : Int} (h : S[n]? = some (bx o s)) (hC : C ≤ 5) (hC1 : 1 ≤ C) : (m__law_bits [.loc n, .int C] S).P fun d S' => ∃ (x : Nat) (o s : Int), d = .int x ∧ x < 2 ^ C ∧ S' = S.set n (bx o s) := by
  have hn : n < S.length := (List.getElem?_eq_some_iff.mp h).1
  obtain ⟨p0, p1, p2⟩ := pw hC
  have p3 : 1 ≤ 2 ^ C ∧ 2 ^ C ≤ 32 := by omega
  have sl : 4 ≤ sizeLine := by decide
  unfold m__law_bits
  rw [P_def, take_eq, F_seq]
  simp only [startE, F_set, P_app, P_consA, P_nilA, P_c, P_var, List.map, List.length, List.replicate, List.cons_append, List.nil_append, List.getElem?_cons_succ, List.getElem?_cons_zero, Op_some]
  refine (taken (m := 4) h (by omega) (by omega)).imp ?_
  rintro d S1 ⟨w, o1, s1, rfl, hw, rfl⟩
  simp only [F_ret, P_bin, P_lst, P_app, P_consA, P_nilA, P_c, P_var, List.set_cons_succ, List.set_cons_zero, List.getElem?_cons_succ, List.getElem?_cons_zero, Op_some, shl1 hC, ev_sub]
  refine (taken (m := 2 ^ C) (get_set hn) (by omega) (by omega)).imp ?_
  rintro d S1 ⟨x, o2, s2, rfl, hx, rfl⟩
  rw [List.set_set]
  refine (taken (m := C) (get_set hn) (by omega) (by omega)).imp ?_
  rintro d S1 ⟨y, o3, s3, rfl, hy, rfl⟩
  rw [List.set_set, shl1 (by omega), Op_some]
  have hy2 : 2 ^ y < 2 ^ C := Nat.pow_lt_pow_right (by omega) hy
  refine ⟨sl, ?_⟩
  have hz : ∃ z : Nat, z < 2 ^ C ∧ atI [D.int 0, .int (((2 ^ C : Nat) : Int) - 1), .int (x : Nat), .int ((2 ^ y : Nat) : Int)] (w : Int) = some (.int z) := by
    have : w = 0 ∨ w = 1 ∨ w = 2 ∨ w = 3 := by omega
    rcases this with rfl | rfl | rfl | rfl
    · exact ⟨0, by omega, rfl⟩
    · exact ⟨2 ^ C - 1, by omega, by rw [show ((2 ^ C - 1 : Nat) : Int) = ((2 ^ C : Nat) : Int) - 1 by omega]; rfl⟩
    · exact ⟨x, hx, rfl⟩
    · exact ⟨2 ^ y, hy2, rfl⟩
  obtain ⟨z, hz1, hz2⟩ := hz
  rw [ev_ixL, hz2, Op_some]
  exact ⟨z, o3, s3, rfl, hz1, rfl⟩
/-- the signs' tuple -/
def sgD (W : Nat → List Nat) (B : Nat → Nat) (m : Nat) : List D := (List.range m).map fun k => .tup [.str (sL (W k)), .int (B k : Nat)]
theorem sg_at {W : Nat → List Nat} {B : Nat → Nat} {m k : Nat} (h : k < m) : atI (sgD W B m) (k : Int) = some (.tup [.str (sL (W k)), .int (B k : Nat)]) := atI_nat (by simp [sgD, h])
/-- rows compared -/
def pyRow (W : Nat → List Nat) (r : Row) : PyData := .tuple [.int (r.1 : Nat), .str (sL (W r.2.1)), .tuple (r.2.2.map fun (x : Nat) => PyData.int (x : Int))]
theorem pyDs_nI {S : Sto} (l : List Nat) : pyDs S (nI l) = some (l.map fun (x : Nat) => PyData.int (x : Int)) := by
  induction l with
  | nil => rfl
  | cons a l ih =>
    show (match pyD S (.int (a : Nat)) with | some x => (match pyDs S (nI l) with | some xs => some (x :: xs) | none => none) | none => none) = _
    rw [ih]; rfl
theorem pyD_row {S : Sto} {W : Nat → List Nat} (r : Row) : pyD S (rowD W r) = some (pyRow W r) := by
  unfold rowD pyRow
  simp only [pyD, pyDs, pyDs_nI]
theorem pyDs_rows {S : Sto} {W : Nat → List Nat} (rs : List Row) : pyDs S (rs.map (rowD W)) = some (rs.map (pyRow W)) := by
  induction rs with
  | nil => rfl
  | cons a l ih => simp only [List.map_cons, pyDs, pyD_row, ih]
theorem lay_ints (l : List Nat) : PyData.canLayAll0 (l.map fun (x : Nat) => PyData.int (x : Int)) = true ∧ PyData.depthAll (l.map fun (x : Nat) => PyData.int (x : Int)) = 0 := by
  induction l with
  | nil => exact ⟨rfl, rfl⟩
  | cons a l ih =>
    constructor
    · simp only [List.map_cons, PyData.canLayAll0, PyData.canLay0, ih.1]; rfl
    · simp only [List.map_cons, PyData.depthAll, PyData.depth, ih.2]; rfl
theorem lay_row {W : Nat → List Nat} (hW : Wd W) (r : Row) : PyData.canLay0 (pyRow W r) = true ∧ PyData.depth (pyRow W r) = 2 := by
  have h1 : PyData.canLay0 (.str (sL (W r.2.1))) = true := by
    have := hW.ok r.2.1
    unfold okS okPy at this
    rw [Bool.and_eq_true] at this
    exact this.1
  obtain ⟨h2, h3⟩ := lay_ints r.2.2
  constructor
  · unfold pyRow
    simp only [PyData.canLay0, PyData.canLayAll0] at h1 ⊢
    rw [h1, h2]; rfl
  · unfold pyRow
    simp only [PyData.depth, PyData.depthAll, h3]
    rfl
theorem lay_rows {W : Nat → List Nat} (hW : Wd W) (rs : List Row) : PyData.canLayAll0 (rs.map (pyRow W)) = true ∧ PyData.depthAll (rs.map (pyRow W)) ≤ 2 := by
  induction rs with
  | nil => exact ⟨rfl, Nat.zero_le _⟩
  | cons a l ih =>
    obtain ⟨h1, h2⟩ := lay_row hW a
    constructor
    · simp only [List.map_cons, PyData.canLayAll0, h1, ih.1]; rfl
    · simp only [List.map_cons, PyData.depthAll, h2]
      have := ih.2
      omega
theorem notIn_row {S : Sto} {W : Nat → List Nat} (hW : Wd W) {n : Nat} {r : Row} {rs : List Row} (h : S[n]? = some (.lst (rs.map (rowD W)))) : ∃ b, gNotIn S (rowD W r) (.loc n) = some (.bl b) := by
  obtain ⟨h1, h2⟩ := lay_row hW r
  obtain ⟨h3, h4⟩ := lay_rows hW rs
  have e1 : pyC S (.loc n) = some (.list (rs.map (pyRow W))) := by simp [pyC, h, pyDs_rows]
  have o1 : okPy (pyRow W r) = true := by
    unfold okPy
    rw [h1, h2]; rfl
  have o2 : okPy (.list (rs.map (pyRow W))) = true := by
    unfold okPy
    rw [Bool.and_eq_true, decide_eq_true_eq]
    exact ⟨h3, by show PyData.depthAll _ + 1 ≤ 200; omega⟩
  have : gIn0 S (rowD W r) (.loc n) = some ((rs.map (pyRow W)).any fun z => PyData.eqv z (pyRow W r)) := by
    have e2 := pyD_row (S := S) (W := W) r
    unfold rowD at e2 ⊢
    unfold gIn0
    simp only [dictT, h, e2, e1]
    rw [if_pos (by rw [o1, o2]; rfl)]
  exact ⟨_, by unfold gNotIn; rw [this]; rfl⟩
end K52

set_option maxRecDepth 100000
namespace K52
open PySem PySem.Spec PyProof.Rows L2 Mir
theorem nI_clean (l : List Nat) : D.cleans 0 (nI l) = true := by
  induction l with
  | nil => rfl
  | cons a l ih => exact ih
theorem rows_clean {W : Nat → List Nat} (rs : List Row) : D.cleans 0 (rs.map (rowD W)) = true := by
  induction rs with
  | nil => rfl
  | cons a l ih =>
    show ((true && (true && (D.cleans 0 (nI a.2.2) && true))) && D.cleans 0 (l.map (rowD W))) = true
    rw [nI_clean, ih]; rfl
theorem Rd.add {W : Nat → List Nat} {B : Nat → Nat} {C : Nat} {rows : List Row} {r : Row} (h : Rd W B C rows) (h1 : r.1 < C) (h2 : r.2.1 < 9) (h3 : r.2.2.length = B r.2.1) (h4 : ∀ x ∈ r.2.2, x < C) : Rd W B C (rows ++ [r]) := by
  have key : ∀ {p : Row → Prop}, (∀ r ∈ rows, p r) → p r → ∀ q ∈ rows ++ [r], p q := fun a b q hq => by
    rcases List.mem_append.mp hq with hq | hq
    · exact a q hq
    · rw [List.mem_singleton] at hq; subst hq; exact b
  exact ⟨key h.rm h1, key h.sg h2, key h.ln h3, key h.go h4⟩
theorem reader_P {S : Sto} {W : Nat → List Nat} {B : Nat → Nat} {n m : Nat} {o s : Int} (h : S[n]? = some (bx o s)) (pu : Pu S) (hW : Wd W) (hB : ∀ k, B k ≤ 10) (hm : 1 ≤ m) (hm9 : m ≤ 9) :
    (m__law_reader [.loc n, .tup (sgD W B m), .int 5, .int 60] S).P fun d S' => ∃ (C : Nat) (rows : List Row) (o s : Int), 1 ≤ C ∧ C ≤ 5 ∧ Rd W B C rows ∧ d = .tup [.int C, .tup (rows.map (rowD W))] ∧ S' = S.set n (bx o s) := by
  have hn : n < S.length := (List.getElem?_eq_some_iff.mp h).1
  have sl0 : 0 ≤ sizeLine := by decide
  have sl2 : 2 ≤ sizeLine := by decide
  have sl3 : 3 ≤ sizeLine := by decide
  unfold m__law_reader
  refine P_cut ?_
  rw [P_def, take_eq, F_seq]
  obtain ⟨sg, hsg⟩ : ∃ sg, sg = sgD W B m := ⟨_, rfl⟩
  have hsl : sg.length = m := by rw [hsg]; simp [sgD]
  rw [← hsg]
  simp only [startE, F_set, P_bin, P_app, P_consA, P_nilA, P_c, P_var, List.map, List.length, List.replicate, List.cons_append, List.nil_append, List.getElem?_cons_succ, List.getElem?_cons_zero, Op_some]
  refine (taken (m := 5) h (by omega) (by omega)).imp ?_
  rintro d S1 ⟨c0, o1, s1, rfl, hc0, rfl⟩
  obtain ⟨C, hC⟩ : ∃ C, C = 1 + c0 := ⟨_, rfl⟩
  have eC' : (1 : Int) + (c0 : Int) = (C : Nat) := by omega
  rw [ev_add, Op_some, F_seq, eC']
  simp only [F_set, P_newL, P_nilA, List.length, List.set_cons_succ, List.set_cons_zero, List.length_set]
  refine ⟨sl0, ?_⟩
  rw [F_seq]
  have gl : ∀ (o s : Int) (l : List D), (S.set n (bx o s) ++ [MO.lst l])[S.length]? = some (MO.lst l) := fun o s l => by
    have : (S.set n (bx o s)).length = S.length := by simp
    rw [← this]; exact get_last
  have sl' : ∀ (o s : Int) (l m : List D), (S.set n (bx o s) ++ [MO.lst l]).set S.length (MO.lst m) = S.set n (bx o s) ++ [MO.lst m] := fun o s l m => by
    have : (S.set n (bx o s)).length = S.length := by simp
    rw [← this]; exact set_last
  have gb : ∀ (o s : Int) (l : List D), (S.set n (bx o s) ++ [MO.lst l])[n]? = some (bx o s) := fun o s l => by
    rw [List.getElem?_append_left (by simpa using hn)]; simp [hn]
  have sb : ∀ (o s o' s' : Int) (l : List D), (S.set n (bx o s) ++ [MO.lst l]).set n (bx o' s') = S.set n (bx o' s') ++ [MO.lst l] := fun o s o' s' l => by
    rw [List.set_append_left _ _ (by simpa using hn), List.set_set]
  refine F_for (fun r ρ S' => ∃ (rows : List Row) (o s : Int) (u v w x y : Option D), rows.length + r.length ≤ 60 ∧ Rd W B C rows ∧ ρ = [some (.loc n), some (.tup sg), some (.int 5), some (.int 60), some (.int C), some (.loc S.length), u, v, w, x, y] ∧ S' = S.set n (bx o s) ++ [.lst (rows.map (rowD W))]) ?_
  simp only [P_mIt, P_app, P_bin, P_consA, P_nilA, P_c, P_var, List.getElem?_cons_succ, List.getElem?_cons_zero, Op_some, ev_add]
  refine (taken (m := 61) (gb o1 s1 []) (by omega) (by omega)).imp ?_
  rintro d S1 ⟨N, o2, s2, rfl, hN, rfl⟩
  rw [sb, ev_rng1n (by omega), Op_some]
  refine ⟨⟨[], o2, s2, _, _, _, _, _, by simp [rngD]; omega, ⟨by simp, by simp, by simp, by simp⟩, rfl, rfl⟩, fun _ _ _ _ => keeps_nil, ?_, ?_⟩
  · rintro d r ρ S1 ⟨rows, o3, s3, u, v, w, x, y, hl, hR, rfl, rfl⟩
    refine ⟨[some (.loc n), some (.tup sg), some (.int 5), some (.int 60), some (.int C), some (.loc S.length), some d, v, w, x, y], rfl, ?_⟩
    rw [F_seq]
    simp only [F_asg, P_bin, P_app, P_call, P_consA, P_nilA, P_c, P_var, List.getElem?_cons_succ, List.getElem?_cons_zero, Op_some, ev_lenT, hsl]
    refine (taken (m := m) (gb o3 s3 _) (by omega) (by omega)).imp ?_
    rintro d1 S1 ⟨k, o4, s4, rfl, hk, rfl⟩
    rw [sb, ev_ixT, hsg, sg_at hk, Op_some, ← hsg]
    refine Op.mk (d := [some (.loc n), some (.tup sg), some (.int 5), some (.int 60), some (.int C), some (.loc S.length), some d, some (.str (sL (W k))), some (.int (B k : Nat)), x, y]) rfl ?_
    rw [F_seq]
    simp only [F_set, P_tup, P_app, P_call, P_consA, P_nilA, P_c, P_var, List.getElem?_cons_succ, List.getElem?_cons_zero, Op_some]
    refine (taken (m := C) (gb o4 s4 _) (by omega) (by omega)).imp ?_
    rintro d1 S1 ⟨rm, o5, s5, rfl, hrm, rfl⟩
    rw [sb]
    obtain ⟨L, hL⟩ : ∃ L, L = List.range (B k) := ⟨_, rfl⟩
    refine P_compM L (fun i => D.int (0 + (i : Nat))) (fun q r acc S' => ∃ (g : List Nat) (o s : Int), g.length = q.length ∧ (∀ x ∈ g, x < C) ∧ acc = nI g ∧ S' = S.set n (bx o s) ++ [.lst (rows.map (rowD W))]) ?_ ?_ ?_
    · refine P_rng1 (n := B k) (by have := hB k; omega) ?_
      simp only [P_var, List.getElem?_cons_succ, List.getElem?_cons_zero, Op_some]
      subst hL
      exact ⟨trivial, by trivial, by trivial, small (by have := hB k; simp; omega), [], o5, s5, rfl, by simp, rfl, rfl⟩
    · rintro i q r acc S1 e ⟨g, o6, s6, hg1, hg2, rfl, rfl⟩
      refine ⟨[some (.loc n), some (.tup sg), some (.int 5), some (.int 60), some (.int C), some (.loc S.length), some d, some (.str (sL (W k))), some (.int (B k : Nat)), x, some (.int (0 + (i : Nat)))], rfl, ?_⟩
      simp only [P_app, P_consA, P_nilA, P_var, List.getElem?_cons_succ, List.getElem?_cons_zero, Op_some]
      refine (taken (m := C) (gb o6 s6 _) (by omega) (by omega)).imp ?_
      rintro d1 S1 ⟨z, o7, s7, rfl, hz, rfl⟩
      rw [sb]
      refine ⟨g ++ [z], o7, s7, by simp [hg1], ?_, by simp [nI], rfl⟩
      intro x hx
      rcases List.mem_append.mp hx with hx | hx
      · exact hg2 x hx
      · rw [List.mem_singleton] at hx; subst hx; exact hz
    · rintro ys S1 ⟨g, o6, s6, hg1, hg2, rfl, rfl⟩
      rw [P_finF, ev_tupL, Op_some]
      refine ⟨sl3, ?_⟩
      simp only [List.set_cons_succ, List.set_cons_zero]
      have hrow : D.tup [.int (rm : Nat), .str (sL (W k)), .tup (nI g)] = rowD W (rm, k, g) := rfl
      rw [hrow]
      obtain ⟨b, hb⟩ := notIn_row (r := (rm, k, g)) hW (gl o6 s6 (rows.map (rowD W)))
      rw [F_if]
      simp only [P_bl, P_bin, P_var, List.getElem?_cons_succ, List.getElem?_cons_zero, Op_some, hb, OB_bl]
      have hll : rows.length + (r.length + 1) ≤ 60 := hl
      cases b with
      | false =>
        simp only [Bool.false_eq_true, if_false, F_nil]
        exact ⟨rows, o6, s6, _, _, _, _, _, by omega, hR, rfl, rfl⟩
      | true =>
        have sq : (rows.map (rowD W)).length < sizeLine := Nat.lt_of_lt_of_le (show _ < 1000 by rw [List.length_map]; omega) (by decide)
        simp only [if_true, F_expr, P_lst1, P_var, List.getElem?_cons_succ, List.getElem?_cons_zero, Op_some, ev_cell (gl o6 s6 _), ev_ap, sq, sl']
        exact ⟨rows ++ [(rm, k, g)], o6, s6, _, _, _, _, _, by simp; omega, hR.add hrm (by show k < 9; omega) (by show g.length = B k; rw [hg1, hL]; simp) hg2, rfl, by simp⟩
  · rintro ρ S1 ⟨rows, o3, s3, u, v, w, x, y, hl, hR, rfl, rfl⟩
    simp only [F_ret, P_tup, P_call, P_consA, P_nilA, P_var, List.getElem?_cons_succ, List.getElem?_cons_zero, Op_some, ev_tupC (gl o3 s3 _)]
    refine ⟨sl2, (pu.set bx_clean).add (rows_clean _), .inl ⟨?_, C, rows, o3, s3, by omega, by omega, hR, rfl, take_set⟩⟩
    show (true && ((D.cleans 0 (rows.map (rowD W))) && true)) = true
    rw [rows_clean]; rfl
end K52

set_option maxRecDepth 100000
namespace K52
open PySem PySem.Spec PyProof.Rows L2 Mir
theorem cut_take {xs : List D} {k : Int} (h : 0 ≤ k) : Mir.cutD xs none (some k) = xs.take k.toNat := by
  unfold Mir.cutD
  have e : HT.sIx xs.length xs.length (some k) = min k.toNat xs.length := by
    show (if k < 0 then (k + (xs.length : Int)).toNat else min k.toNat xs.length) = _
    rw [if_neg (by omega)]
  rw [e, HT.sIx_none]
  simp [List.take_eq_take_iff]
theorem sg_clean {W : Nat → List Nat} {B : Nat → Nat} (l : List Nat) : D.cleans 0 (l.map fun k => D.tup [.str (sL (W k)), .int (B k : Nat)]) = true := by
  induction l with
  | nil => rfl
  | cons a l ih => exact ih
/-- a question: sign's number and its bits -/
abbrev Qn := Nat × List Nat
def qD (W : Nat → List Nat) (q : Qn) : D := .tup [.str (sL (W q.1)), .tup (nI q.2)]
theorem q_clean {W : Nat → List Nat} (l : List Qn) : D.cleans 0 (l.map (qD W)) = true := by
  induction l with
  | nil => rfl
  | cons a l ih =>
    show ((true && (D.cleans 0 (nI a.2) && true)) && D.cleans 0 (l.map (qD W))) = true
    rw [nI_clean, ih]; rfl
structure Qs (B : Nat → Nat) (C : Nat) (q : Qn) : Prop where
  sg : q.1 < 9
  ln : q.2.length = B q.1
  bt : ∀ x ∈ q.2, x < 2 ^ C
theorem law_true (ns : List Int) (hns : ns.length ≤ 63) : ∃ S, m_law [.scr ns] [] = .ok (.bl true) S := by
  suffices h : (m_law [.scr ns] []).P fun d S => d = .bl true by
    obtain ⟨d, S, e, rfl⟩ := h.eq
    exact ⟨S, e⟩
  unfold m_law
  refine P_cut ?_
  rw [P_def, take_eq, box_eq, words_eq, F_seq]
  have sl0 : 0 ≤ sizeLine := by decide
  have sl2 : 2 ≤ sizeLine := by decide
  simp only [startE, F_set, P_app, P_consA, P_nilA, P_c, P_var, List.map, List.length, List.replicate, List.cons_append, List.nil_append, List.getElem?_cons_succ, List.getElem?_cons_zero, Op_some]
  refine (box_P (Int.le_refl 0)).imp ?_
  rintro d1 S1 ⟨o, s, rfl, rfl⟩
  rw [show (([] : Sto) ++ [bx o s]) = [bx o s] from rfl, F_seq]
  simp only [F_set, P_app, P_consA, P_nilA, P_c, P_var, List.set_cons_succ, List.set_cons_zero, List.getElem?_cons_succ, List.getElem?_cons_zero, Op_some, List.length]
  refine (words_P (M := 9) (n := 0) (o := o) (s := s) rfl (pu_nil.add (o := bx o s) rfl) (by omega)).imp ?_
  rintro d2 S2 ⟨t, f, cm, hf, hcl, hcm, rfl, o1, s1, rfl⟩
  obtain ⟨W, hWdef⟩ : ∃ W, W = wordL t f cm := ⟨_, rfl⟩
  rw [← hWdef]
  have hW : Wd W := ⟨fun k => by rw [hWdef]; exact sL_ok (wordL_lt hf hcm), fun i j hi hj e => by rw [hWdef] at e; exact wordL_inj hi hj e⟩
  generalize hSS : ([bx o s] : List MO).set 0 (bx o1 s1) = SS
  rw [show ([bx o s] : List MO).set 0 (bx o1 s1) = [bx o1 s1] from rfl] at hSS
  subst hSS
  -- the signs
  refine F_mid (fun ρ S' => ∃ (bs : List Nat) (o s : Int), 1 ≤ bs.length ∧ bs.length ≤ 9 ∧ (∀ b ∈ bs, b < 4) ∧ S' = [bx o s] ∧ ρ = [some (.scr ns), some (.loc 0), some (.lst ((List.range 9).map fun k => D.str (sL (W k)))), some (.tup (sgD W (fun k => bs.getD k 0) bs.length)), none, none, none, none, none, none, none, none, none]) ?_ ?_
  · rw [F_set, P_call, P_consA]
    refine P_comp (fun r acc S' => ∃ (bs : List Nat) (m : Nat) (o s : Int), 1 ≤ m ∧ m ≤ 9 ∧ bs.length + r.length = m ∧ r = ((List.range m).drop bs.length).map (fun k => D.str (sL (W k))) ∧ (∀ b ∈ bs, b < 4) ∧ S' = [bx o s] ∧ acc = (List.range bs.length).map fun k => .tup [.str (sL (W k)), .int (bs.getD k 0 : Nat)]) ?_
    simp only [P_mIter, P_sl, P_oNone, P_oSome, P_bin, P_app, P_consA, P_nilA, P_c, P_var, List.set_cons_succ, List.set_cons_zero, List.getElem?_cons_succ, List.getElem?_cons_zero, Op_some]
    refine (taken (m := 8) (n := 0) (o := o1) (s := s1) rfl (by omega) (by omega)).imp ?_
    rintro d3 S3 ⟨r, o2, s2, rfl, hr, rfl⟩
    rw [ev_add, Op_some, OI_int]
    have e1 : ∀ S : Sto, gSl S (.lst ((List.range 9).map fun k => D.str (sL (W k)))) none (some (1 + (r : Int))) = some (.lst ((List.range (min (1 + r) 9)).map fun k => D.str (sL (W k)))) := fun S => by
      show some (D.lst (Mir.cutD _ none (some (1 + (r : Int))))) = _
      rw [cut_take (by omega), ← List.map_take, List.take_range, show (1 + (r : Int)).toNat = 1 + r by omega]
    rw [e1, Op_some, ev_itL, Op_some]
    refine ⟨small (by simp; omega), ⟨[], min (1 + r) 9, o2, s2, by omega, by omega, by simp, by simp, by simp, rfl, rfl⟩, fun _ _ _ _ => keeps_nil, ?_, ?_⟩
    · rintro d r2 acc S3 ⟨bs, m, o3, s3, hm1, hm2, hlen, hr2, hbs, rfl, rfl⟩
      have hlt : bs.length < m := by simp only [List.length_cons] at hlen; omega
      rw [List.drop_eq_getElem_cons (by simpa using hlt)] at hr2
      simp only [List.getElem_range, List.map_cons, List.cons.injEq] at hr2
      obtain ⟨rfl, hr3⟩ := hr2
      refine ⟨[some (.scr ns), some (.loc 0), some (.lst ((List.range 9).map fun k => D.str (sL (W k)))), none, none, none, none, none, none, none, none, some (.str (sL (W bs.length))), none], rfl, ?_⟩
      simp only [P_yes, if_true, P_tup, P_app, P_consA, P_nilA, P_c, P_var, List.getElem?_cons_succ, List.getElem?_cons_zero, Op_some]
      refine (taken (m := 4) (n := 0) (o := o3) (s := s3) rfl (by omega) (by omega)).imp ?_
      rintro d3 S3 ⟨b, o4, s4, rfl, hb, rfl⟩
      refine ⟨sl2, bs ++ [b], m, o4, s4, hm1, hm2, by simp at hlen ⊢; omega, by simpa using hr3, ?_, rfl, ?_⟩
      · intro x hx
        rcases List.mem_append.mp hx with hx | hx
        · exact hbs x hx
        · rw [List.mem_singleton] at hx; subst hx; exact hb
      · rw [List.length_append, List.length_singleton, List.range_succ, List.map_append]
        congr 1
        · refine List.map_congr_left fun k hk => ?_
          have hk : k < bs.length := List.mem_range.mp hk
          rw [List.getD_eq_getElem?_getD, List.getD_eq_getElem?_getD, List.getElem?_append_left hk]
        · simp
    · rintro ys S3 ⟨bs, m, o3, s3, hm1, hm2, hlen, hr2, hbs, rfl, rfl⟩
      rw [P_finF, ev_tupL, Op_some]
      simp at hlen
      exact ⟨bs, o3, s3, by omega, by omega, hbs, rfl, rfl⟩
  rintro ρ S3 ⟨bs, o2, s2, hb1, hb2, hb3, rfl, rfl⟩
  obtain ⟨B, hBd⟩ : ∃ B : Nat → Nat, B = fun k => bs.getD k 0 := ⟨_, rfl⟩
  rw [← hBd]
  have hB : ∀ k, B k ≤ 10 := fun k => by
    rw [hBd]
    show bs.getD k 0 ≤ 10
    rw [List.getD_eq_getElem?_getD]
    by_cases c : k < bs.length
    · rw [List.getElem?_eq_getElem c]
      have := hb3 _ (List.getElem_mem c)
      simp; omega
    · rw [List.getElem?_eq_none (by omega)]; simp
  obtain ⟨m, hm⟩ : ∃ m, m = bs.length := ⟨_, rfl⟩
  rw [← hm]
  rw [F_seq]
  simp only [F_set, P_app, P_consA, P_nilA, P_c, P_var, List.getElem?_cons_succ, List.getElem?_cons_zero, Op_some]
  refine (box_P (k := 1) (by omega)).imp ?_
  rintro d4 S4 ⟨o3, s3, rfl, rfl⟩
  refine (reader_P (S := [bx o2 s2] ++ [bx o3 s3]) (n := 1) (o := o3) (s := s3) rfl ((pu_nil.add (o := bx o2 s2) rfl).add (o := bx o3 s3) rfl) hW hB (by omega) (by omega)).imp ?_
  rintro d5 S5 ⟨C, rows, o4, s4, hC1, hC5, hR, rfl, rfl⟩
  obtain ⟨S0, hS0⟩ : ∃ S0, S0 = ([bx o2 s2] ++ [bx o3 s3]).set 1 (bx o4 s4) := ⟨_, rfl⟩
  have hS0l : S0.length = 2 := by rw [hS0]; rfl
  have puS0 : Pu S0 := by
    rw [hS0]
    exact ((pu_nil.add (o := bx o2 s2) rfl).add (o := bx o3 s3) rfl).set bx_clean
  rw [← hS0, F_seq]
  simp only [F_set, P_newL, P_nilA, List.set_cons_succ, List.set_cons_zero, List.length]
  refine ⟨sl0, ?_⟩
  rw [hS0l]
  obtain ⟨rd, hrd⟩ : ∃ rd, rd = D.tup [.int C, .tup (rows.map (rowD W))] := ⟨_, rfl⟩
  obtain ⟨ws, hws⟩ : ∃ ws, ws = D.lst ((List.range 9).map fun k => D.str (sL (W k))) := ⟨_, rfl⟩
  rw [← hrd, ← hws]
  have hsl : (sgD W B m).length = m := by simp [sgD]
  obtain ⟨sg, hsg⟩ : ∃ sg, sg = sgD W B m := ⟨_, rfl⟩
  rw [← hsg] at hsl ⊢
  refine F_mid (fun ρ S' => ∃ (qs : List Qn) (v1 u1 u2 u3 u4 u5 u6 u7 : Option D), ρ = [some (.scr ns), v1, some ws, some (.tup sg), some rd, some (.loc 2), u1, u2, u3, u4, u5, u6, u7] ∧ Pu S' ∧ S'[2]? = some (.lst (qs.map (qD W))) ∧ qs.length ≤ 63 ∧ ∀ q ∈ qs, Qs B C q) ?_ ?_
  · obtain ⟨M, hM, hM2⟩ : ∃ M : Nat, (M : Int) = (if (if (ns.length : Int) < 63 then (ns.length : Int) else 63) > 5 then (if (ns.length : Int) < 63 then (ns.length : Int) else 63) else 5) ∧ M ≤ 63 ∧ 5 ≤ M := by
      refine ⟨max 5 (min 63 ns.length), ?_, by omega, by omega⟩
      split <;> split <;> (try split) <;> omega
    obtain ⟨L, hL⟩ : ∃ L, L = List.range (M - 2) := ⟨_, rfl⟩
    have hLl : L.length = M - 2 := by rw [hL]; simp
    refine F_forM L (fun i => D.int (2 + (i : Nat))) (fun q r ρ S' => ∃ (qs : List Qn) (v1 u1 u2 u3 u4 u5 u6 u7 : Option D), ρ = [some (.scr ns), v1, some ws, some (.tup sg), some rd, some (.loc 2), u1, u2, u3, u4, u5, u6, u7] ∧ Pu S' ∧ 3 ≤ S'.length ∧ S'[2]? = some (.lst (qs.map (qD W))) ∧ qs.length = q.length ∧ ∀ q ∈ qs, Qs B C q) ?_ ?_ ?_
    · simp only [P_mIt, P_consA, P_nilA, P_c, P_call, P_var, List.getElem?_cons_succ, List.getElem?_cons_zero, Op_some, ev_lenS, ev_min, ev_max]
      rw [← hM, ev_rng2 (by omega) (by omega), Op_some]
      refine ⟨rfl, ?_, [], _, _, _, _, _, _, _, _, rfl, puS0.add (o := .lst []) rfl, by simp [hS0l], ?_, rfl, fun q hq => by cases hq⟩
      · subst hL
        rw [show ((M : Int) - 2).toNat = M - 2 by omega]
        rfl
      · rw [← hS0l]; exact get_last
    · rintro i q r ρ S1 e ⟨qs, v1, u1, u2, u3, u4, u5, u6, u7, rfl, pu, hl3, hqs, hql, hqq⟩
      have hq62 : q.length < 62 := by
        have h2 : L.length = q.length + (r.length + 1) := by rw [e]; simp
        omega
      refine ⟨[some (.scr ns), v1, some ws, some (.tup sg), some rd, some (.loc 2), some (.int (2 + (i : Nat))), u2, u3, u4, u5, u6, u7], rfl, ?_⟩
      rw [F_seq]
      simp only [F_set, P_app, P_consA, P_nilA, P_c, P_var, List.getElem?_cons_succ, List.getElem?_cons_zero, Op_some]
      refine (box_P (by omega)).imp ?_
      rintro d2 S2 ⟨o5, s5, rfl, rfl⟩
      obtain ⟨n, hn⟩ : ∃ n, n = S1.length := ⟨_, rfl⟩
      rw [← hn]
      have gb : ∀ o s, (S1 ++ [bx o s])[n]? = some (bx o s) := fun o s => by rw [hn]; exact get_last
      have sb : ∀ o s o' s', (S1 ++ [bx o s]).set n (bx o' s') = S1 ++ [bx o' s'] := fun o s o' s' => by rw [hn]; exact set_last
      rw [F_seq]
      simp only [F_asg, P_bin, P_app, P_call, P_consA, P_nilA, P_c, P_var, List.set_cons_succ, List.set_cons_zero, List.getElem?_cons_succ, List.getElem?_cons_zero, Op_some, ev_lenT, hsl]
      refine (taken (m := m) (gb o5 s5) (by omega) (by omega)).imp ?_
      rintro d2 S2 ⟨k, o6, s6, rfl, hk, rfl⟩
      rw [sb, ev_ixT, hsg, sg_at hk, Op_some, ← hsg]
      refine Op.mk (d := [some (.scr ns), some (.loc n), some ws, some (.tup sg), some rd, some (.loc 2), some (.int (2 + (i : Nat))), some (.str (sL (W k))), some (.int (B k : Nat)), u4, u5, u6, u7]) rfl ?_
      have g2 : ∀ o s, (S1 ++ [bx o s])[2]? = some (.lst (qs.map (qD W))) := fun o s => by rw [List.getElem?_append_left (by omega)]; exact hqs
      rw [F_expr, P_lst1]
      simp only [P_var, List.getElem?_cons_succ, List.getElem?_cons_zero, Op_some, ev_cell (g2 o6 s6), P_tup, P_consA, P_call, P_nilA]
      obtain ⟨L2, hL2⟩ : ∃ L, L = List.range (B k) := ⟨_, rfl⟩
      refine P_compM L2 (fun i => D.int (0 + (i : Nat))) (fun q r acc S' => ∃ (g : List Nat) (o s : Int), g.length = q.length ∧ (∀ x ∈ g, x < 2 ^ C) ∧ acc = nI g ∧ S' = S1 ++ [bx o s]) ?_ ?_ ?_
      · refine P_rng1 (n := B k) (by have := hB k; omega) ?_
        simp only [P_var, List.getElem?_cons_succ, List.getElem?_cons_zero, Op_some]
        subst hL2
        exact ⟨trivial, by trivial, by trivial, small (by have := hB k; simp; omega), [], o6, s6, rfl, by simp, rfl, rfl⟩
      · rintro i2 q2 r2 acc S2 e2 ⟨g, o7, s7, hg1, hg2, rfl, rfl⟩
        refine ⟨[some (.scr ns), some (.loc n), some ws, some (.tup sg), some rd, some (.loc 2), some (.int (2 + (i : Nat))), some (.str (sL (W k))), some (.int (B k : Nat)), u4, u5, u6, some (.int (0 + (i2 : Nat)))], rfl, ?_⟩
        have e0 : ∀ xs : List D, atI [D.int C, .tup xs] 0 = some (.int C) := fun _ => rfl
        simp only [P_app, P_bin, P_consA, P_nilA, P_c, P_var, List.getElem?_cons_succ, List.getElem?_cons_zero, Op_some, hrd, ev_ixT, e0]
        refine (bits_P (gb o7 s7) hC5 hC1).imp ?_
        rintro d1 S3 ⟨z, o8, s8, rfl, hz, rfl⟩
        rw [sb]
        refine ⟨g ++ [z], o8, s8, by simp [hg1], ?_, by simp [nI], rfl⟩
        intro x hx
        rcases List.mem_append.mp hx with hx | hx
        · exact hg2 x hx
        · rw [List.mem_singleton] at hx; subst hx; exact hz
      · rintro ys S2 ⟨g, o7, s7, hg1, hg2, rfl, rfl⟩
        have sq : (qs.map (qD W)).length < sizeLine := Nat.lt_of_lt_of_le (show _ < 1000 by rw [List.length_map]; omega) (by decide)
        rw [P_finF, ev_tupL, Op_some]
        simp only [ev_cell (g2 o7 s7), Op_some, ev_ap, sq, if_true]
        have hqd : D.tup [.str (sL (W k)), .tup (nI g)] = qD W (k, g) := rfl
        refine ⟨sl2, qs ++ [(k, g)], _, _, _, _, _, _, _, _, rfl, ?_, by simp; omega, ?_, by simp [hql], ?_⟩
        · refine (pu.add bx_clean).set ?_
          rw [hqd, show qs.map (qD W) ++ [qD W (k, g)] = (qs ++ [(k, g)]).map (qD W) by simp]
          exact q_clean _
        · rw [List.getElem?_set_self (by simp; omega), hqd]
          simp
        · intro q hq
          rcases List.mem_append.mp hq with hq | hq
          · exact hqq q hq
          · rw [List.mem_singleton] at hq; subst hq
            exact ⟨by show k < 9; omega, by show g.length = B k; rw [hg1, hL2]; simp, hg2⟩
    · rintro ρ S1 ⟨qs, v1, u1, u2, u3, u4, u5, u6, u7, rfl, pu, hl3, hqs, hql, hqq⟩
      exact ⟨qs, _, _, _, _, _, _, _, _, rfl, pu, hqs, by omega, hqq⟩
  rintro ρ S6 ⟨qs, v1, u1, u2, u3, u4, u5, u6, u7, rfl, pu6, hq, hql, hqs⟩
  rw [F_seq]
  refine F_forM (qs ++ qs.take 2) (qD W) (fun q r ρ S' => S6 = S' ∧ ∃ (v1 u1 u2 u3 u4 u5 u6 u7 : Option D), ρ = [some (.scr ns), v1, some ws, some (.tup sg), some rd, some (.loc 2), u1, u2, u3, u4, u5, u6, u7]) ?_ ?_ ?_
  · have e1 : gSl S6 (.loc 2) none (some 2) = some (.lst ((qs.take 2).map (qD W))) := by
      show (seqD S6 (.loc 2)).map (fun ds => D.lst (Mir.cutD ds none (some 2))) = _
      simp only [seqD, hq, Option.map_some]
      rw [cut_take (by omega), List.map_take]; rfl
    have e2 : gAdd S6 (.loc 2) (.lst ((qs.take 2).map (qD W))) = some (.lst ((qs ++ qs.take 2).map (qD W))) := by
      have : (qs.map (qD W)).length + ((qs.take 2).map (qD W)).length ≤ sizeLine := small (by simp; omega)
      simp only [gAdd, listT, hq]
      rw [if_pos this, List.map_append]
    simp only [P_mIter, P_bin, P_sl, P_oNone, P_oSome, P_var, P_c, List.getElem?_cons_succ, List.getElem?_cons_zero, Op_some, OI_int, e1, e2, ev_itL]
    exact ⟨by trivial, by trivial, by trivial, _, _, _, _, _, _, _, _, rfl⟩
  · rintro ⟨k, row⟩ q r ρ S2 e ⟨rfl, v1, u1, u2, u3, u4, u5, u6, u7, rfl⟩
    have hp : ((k, row) : Qn) ∈ qs := by
      have : ((k, row) : Qn) ∈ qs ++ qs.take 2 := by rw [e]; simp
      rcases List.mem_append.mp this with h | h
      · exact h
      · exact List.mem_of_mem_take h
    obtain ⟨h1, h2, h3⟩ := hqs _ hp
    refine ⟨[some (.scr ns), v1, some ws, some (.tup sg), some rd, some (.loc 2), u1, some (.str (sL (W k))), u3, some (.tup (nI row)), u5, u6, u7], rfl, ?_⟩
    rw [F_seq]
    simp only [F_set, P_app, P_consA, P_nilA, P_var, List.getElem?_cons_succ, List.getElem?_cons_zero, Op_some]
    have hx32 : ∀ x ∈ row, x < 32 := fun x hx => by
      have := h3 x hx
      have p1 : (2 : Nat) ^ C ≤ 2 ^ 5 := Nat.pow_le_pow_right (by omega) hC5
      show x < 32
      have h3' : x < 2 ^ C := this
      omega
    rw [hrd]
    refine (rooms_P hW hR hC5 h1 hB hx32).imp ?_
    rintro d7 S7 ⟨rfl, rfl⟩
    rw [F_if]
    simp only [P_orT, P_notT, P_tru, P_un, P_bl, P_bin, P_app, P_consA, P_nilA, P_var, List.set_cons_succ, List.set_cons_zero, List.getElem?_cons_succ, List.getElem?_cons_zero, Op_some, ev_is_int_int, ev_is_bool_int, ev_truB, Bool.not_true, Bool.false_eq_true, if_false]
    refine (due_P pu6 hW hR hC5 h1 hB h3 h2).imp ?_
    rintro d8 S8 ⟨rfl, rfl⟩
    have en : ∀ (S : Sto) (i : Int), gNe S (.int i) (.int i) = some (.bl false) := fun S i => by
      show some (D.bl (!(PyData.eqv (.int i) (.int i)))) = _
      have : PyData.eqv (.int i) (.int i) = true := by simp [PyData.eqv]
      rw [this]; rfl
    simp only [en, Op_some, OB_bl, Bool.false_eq_true, if_false, F_nil]
    exact ⟨trivial, _, _, _, _, _, _, _, _, rfl⟩
  · rintro ρ S2 ⟨rfl, v1, u1, u2, u3, u4, u5, u6, u7, rfl⟩
    rw [F_ret, P_c]
    exact ⟨pu6, .inl ⟨rfl, rfl⟩⟩
end K52

namespace K52
open PySem PySem.Spec PyProof.Rows L2 Mir
theorem top_mk {K : PySem.W.Frag} {h : Heap} {mg : Str → Option Value} (X : K.In h) (G : h.Ns mainGlobals mg)
    (d_goes_well : Has K "goes_well" (topS 1))
    (d_sign_rooms : Has K "sign_rooms" (topS 2))
    (d__law_box : Has K "_law_box" (topS 4))
    (d__law_take : Has K "_law_take" (topS 5))
    (d__law_words : Has K "_law_words" (topS 6))
    (d__law_reader : Has K "_law_reader" (topS 7))
    (d__law_due : Has K "_law_due" (topS 8))
    (d__law_bits : Has K "_law_bits" (topS 9))
    (d_law : Has K "law" (topS 10))
    (b_all : PySem.W.nsIn K mainGlobals "all" = some none)
    (b_bool : PySem.W.nsIn K mainGlobals "bool" = some none)
    (b_int : PySem.W.nsIn K mainGlobals "int" = some none)
    (b_isinstance : PySem.W.nsIn K mainGlobals "isinstance" = some none)
    (b_len : PySem.W.nsIn K mainGlobals "len" = some none)
    (b_max : PySem.W.nsIn K mainGlobals "max" = some none)
    (b_min : PySem.W.nsIn K mainGlobals "min" = some none)
    (b_range : PySem.W.nsIn K mainGlobals "range" = some none)
    (b_sum : PySem.W.nsIn K mainGlobals "sum" = some none)
    (b_tuple : PySem.W.nsIn K mainGlobals "tuple" = some none)
    (b_zip : PySem.W.nsIn K mainGlobals "zip" = some none)
    : Top ⟨K, mg⟩ where
  d_goes_well := d_goes_well.df X G fun _ _ _ _ _ _ us hl => match us, hl with | [_, _], _ => rfl
  d_sign_rooms := d_sign_rooms.df X G fun _ _ _ _ _ _ us hl => match us, hl with | [_, _, _], _ => rfl
  d__law_box := d__law_box.df X G fun _ _ _ _ _ _ us hl => match us, hl with | [_, _], _ => rfl
  d__law_take := d__law_take.df X G fun _ _ _ _ _ _ us hl => match us, hl with | [_, _], _ => rfl
  d__law_words := d__law_words.df X G fun _ _ _ _ _ _ us hl => match us, hl with | [_, _, _], _ => rfl
  d__law_reader := d__law_reader.df X G fun _ _ _ _ _ _ us hl => match us, hl with | [_, _, _, _], _ => rfl
  d__law_due := d__law_due.df X G fun _ _ _ _ _ _ us hl => match us, hl with | [_, _, _], _ => rfl
  d__law_bits := d__law_bits.df X G fun _ _ _ _ _ _ us hl => match us, hl with | [_, _], _ => rfl
  d_law := d_law.df X G fun _ _ _ _ _ _ us hl => match us, hl with | [_], _ => rfl
  b_all := PySem.W.mg_none_of X G b_all
  b_bool := PySem.W.mg_none_of X G b_bool
  b_int := PySem.W.mg_none_of X G b_int
  b_isinstance := PySem.W.mg_none_of X G b_isinstance
  b_len := PySem.W.mg_none_of X G b_len
  b_max := PySem.W.mg_none_of X G b_max
  b_min := PySem.W.mg_none_of X G b_min
  b_range := PySem.W.mg_none_of X G b_range
  b_sum := PySem.W.mg_none_of X G b_sum
  b_tuple := PySem.W.mg_none_of X G b_tuple
  b_zip := PySem.W.mg_none_of X G b_zip
theorem fin {P : Program} {w : World} {fa : Addr} {K : PySem.W.Frag} {h : Heap} {mg : Str → Option Value} (X : K.In h) (G : h.Ns mainGlobals mg) (hfa : mg "law" = some (.ref fa))
    (d_goes_well : Has K "goes_well" (topS 1))
    (d_sign_rooms : Has K "sign_rooms" (topS 2))
    (d__law_box : Has K "_law_box" (topS 4))
    (d__law_take : Has K "_law_take" (topS 5))
    (d__law_words : Has K "_law_words" (topS 6))
    (d__law_reader : Has K "_law_reader" (topS 7))
    (d__law_due : Has K "_law_due" (topS 8))
    (d__law_bits : Has K "_law_bits" (topS 9))
    (d_law : Has K "law" (topS 10))
    (b_all : PySem.W.nsIn K mainGlobals "all" = some none)
    (b_bool : PySem.W.nsIn K mainGlobals "bool" = some none)
    (b_int : PySem.W.nsIn K mainGlobals "int" = some none)
    (b_isinstance : PySem.W.nsIn K mainGlobals "isinstance" = some none)
    (b_len : PySem.W.nsIn K mainGlobals "len" = some none)
    (b_max : PySem.W.nsIn K mainGlobals "max" = some none)
    (b_min : PySem.W.nsIn K mainGlobals "min" = some none)
    (b_range : PySem.W.nsIn K mainGlobals "range" = some none)
    (b_sum : PySem.W.nsIn K mainGlobals "sum" = some none)
    (b_tuple : PySem.W.nsIn K mainGlobals "tuple" = some none)
    (b_zip : PySem.W.nsIn K mainGlobals "zip" = some none)
    : ∃ fd : FuncData, (∀ (s : Shared) (v : Value), BindsTo s fd ⟨[v], []⟩ [("_law_script", v)]) ∧ ∀ base : Heap, K.In base → base.Ns mainGlobals mg → FnOk P w K mg base (L2.CX P w) 5 fa fd ["_law_script"] (fun vs H Q E => ∃ (a : Addr) (ns : List Int), vs = [.ref a] ∧ ns.length ≤ 63 ∧ Only H ∧ SqL K H a (ns.map V.int) ∧ ∀ H', Q (.bl true) H') :=
  law_mk d_law X G hfa (fun _ _ _ _ _ _ _ => rfl) (fun base f fd F => fok_law (top_mk X G d_goes_well d_sign_rooms d__law_box d__law_take d__law_words d__law_reader d__law_due d__law_bits d_law b_all b_bool b_int b_isinstance b_len b_max b_min b_range b_sum b_tuple b_zip) F) law_true
end K52
open PySem PySem.W PyProof.Rows
set_option maxRecDepth 100000 in
set_option maxHeartbeats 0 in
theorem PySem.Challenge.cw_ordergrove_k52_rooms_of_signs_holds : PySem.Challenge.rw_ordergrove_k52_rooms_of_signs.Holds := by
  w_on; o_law; k_head; (case hw => w_witness2)
  k_fill
  refine Mir.walkM (l := PySem.Challenge.rw_ordergrove_k52_rooms_of_signs) (k := 5) (y := "_law_script") rfl rfl ⟨rfl, by decide, by decide⟩ (fun w h Y => PySem.W.kIn_of Y) ?F
  case F =>
    intro w mg fa h KX G hmg
    refine' K52.fin KX G hmg (Mir.has_mk ?a_goes_well ?l_goes_well ?c_goes_well ?k_goes_well) (Mir.has_mk ?a_sign_rooms ?l_sign_rooms ?c_sign_rooms ?k_sign_rooms) (Mir.has_mk ?a__law_box ?l__law_box ?c__law_box ?k__law_box) (Mir.has_mk ?a__law_take ?l__law_take ?c__law_take ?k__law_take) (Mir.has_mk ?a__law_words ?l__law_words ?c__law_words ?k__law_words) (Mir.has_mk ?a__law_reader ?l__law_reader ?c__law_reader ?k__law_reader) (Mir.has_mk ?a__law_due ?l__law_due ?c__law_due ?k__law_due) (Mir.has_mk ?a__law_bits ?l__law_bits ?c__law_bits ?k__law_bits) (Mir.has_mk ?a_law ?l_law ?c_law ?k_law) ?b_all ?b_bool ?b_int ?b_isinstance ?b_len ?b_max ?b_min ?b_range ?b_sum ?b_tuple ?b_zip 
    (case a_goes_well => k_is); (case l_goes_well => k_is); (case c_goes_well => k_is); (case k_goes_well => k_is)
    (case a_sign_rooms => k_is); (case l_sign_rooms => k_is); (case c_sign_rooms => k_is); (case k_sign_rooms => k_is)
    (case a__law_box => k_is); (case l__law_box => k_is); (case c__law_box => k_is); (case k__law_box => k_is)
    (case a__law_take => k_is); (case l__law_take => k_is); (case c__law_take => k_is); (case k__law_take => k_is)
    (case a__law_words => k_is); (case l__law_words => k_is); (case c__law_words => k_is); (case k__law_words => k_is)
    (case a__law_reader => k_is); (case l__law_reader => k_is); (case c__law_reader => k_is); (case k__law_reader => k_is)
    (case a__law_due => k_is); (case l__law_due => k_is); (case c__law_due => k_is); (case k__law_due => k_is)
    (case a__law_bits => k_is); (case l__law_bits => k_is); (case c__law_bits => k_is); (case k__law_bits => k_is)
    (case a_law => k_is); (case l_law => k_is); (case c_law => k_is); (case k_law => k_is)
    (case b_all => k_is)
    (case b_bool => k_is)
    (case b_int => k_is)
    (case b_isinstance => k_is)
    (case b_len => k_is)
    (case b_max => k_is)
    (case b_min => k_is)
    (case b_range => k_is)
    (case b_sum => k_is)
    (case b_tuple => k_is)
    (case b_zip => k_is)
#print axioms PySem.Challenge.cw_ordergrove_k52_rooms_of_signs_holds
