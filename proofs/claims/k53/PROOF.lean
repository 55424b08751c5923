import PyProof.Rows.All
import Wide.All
import OpenK.AllK
import Wide.FinOn
import HandS.ForMost
import HandS.IsInst
import HandS.Walk
import HandS.Zip
import HandS.WordsExc
import HandS.Ends
import HandS.Style
import HandS.SetFor
import HandS.ExcInit
import HandS.TryMany
import KE.KExcInit
import PyProof.Rows.FactsExc_KeyError
import HandS.OwnEq
import HandS.Dict
import HandS.Defaults
import HandS.Conv
import HandS.ListItems
import HandS.Small
import KE.KDictZip
import HandS.TupSets
import HandS.RaiseMore
import HandS.NoneIn
import PyProof.Rows.SumAny
import PyProof.Rows.SeqMore
import PySem.Challenge.RW_evenweek_k53_whole_covers_are_served
set_option Elab.async false
set_option linter.all false
set_option maxRecDepth 100000
set_option maxHeartbeats 4000000
/-! A program logic over plain data: values as trees of data, changing objects as cells. -/
namespace EW
open PySem PySem.Spec PyProof.Rows L2

inductive D where
  | non | bl (b : Bool) | int (i : Int) | str (s : Str)
  | lst (xs : List D) | tup (xs : List D)
  | dct (ks : List Key) (ds : List D)
  | obj (C : Addr) (ns : List Str) (ds : List D)
  | ref (a : Addr) | ty (n : String)
  | scr (xs : List D)

def Ex (P P' : Hp) : Prop := ∀ a o, P a = some o → P' a = some o
def Le (P H : Hp) : Prop := ∀ a o, P a = some o → H a = some o ∨ ∃ kvs ob, o = .dK kvs ∧ H a = some (.frz ob (.dK kvs))

theorem Ex.rfl' (P : Hp) : Ex P P := fun _ _ h => h
theorem Ex.tr {P Q R : Hp} (a : Ex P Q) (b : Ex Q R) : Ex P R := fun x o h => b x o (a x o h)
theorem Ex.fresh {P : Hp} {p : Addr} {o : HO} (h : P p = none) : Ex P (upd P p o) := fun a u e => by
  rw [upd_ne (ne_of_none e h)]; exact e
theorem Ex.le {P Q : Hp} (a : Ex P Q) : Le P Q := fun x o h => .inl (a x o h)
theorem Ex.back {P Q : Hp} {p : Addr} (e : Ex P Q) (h : Q p = none) : P p = none := by
  cases h1 : P p with
  | none => rfl
  | some o => rw [e p o h1] at h; cases h

mutual
inductive Rep (K : PySem.W.Frag) (P : Hp) : V → D → Prop
  | non : Rep K P .non .non
  | bl (b : Bool) : Rep K P (.bl b) (.bl b)
  | int (i : Int) : Rep K P (.int i) (.int i)
  | str (x : Str) : Rep K P (.str x) (.str x)
  | lst {a : Addr} {vs : List V} {ds : List D} : P a = some (.lst vs) → Reps K P vs ds → Rep K P (.ref a) (.lst ds)
  | scr {a : Addr} {vs : List V} {ds : List D} : SqL K P a vs → Reps K P vs ds → Rep K P (.ref a) (.scr ds)
  | tup {a : Addr} {vs : List V} {ds : List D} : P a = some (.tup vs) → Reps K P vs ds → Rep K P (.ref a) (.tup ds)
  | dct {a : Addr} {od : Obj} {ks : List Key} {vs : List V} {ds : List D} : P a = some (.frz od (.dK (ks.zip vs))) → ks.length = vs.length → Reps K P vs ds → Rep K P (.ref a) (.dct ks ds)
  | obj {a C dx : Addr} {ns : List Str} {vs : List V} {ds : List D} : P a = some (.ins C dx (ns.zip vs)) → ns.length = vs.length → Reps K P vs ds → Rep K P (.ref a) (.obj C ns ds)
  | ref (a : Addr) : Rep K P (.ref a) (.ref a)
  | ty (n : String) : Rep K P (.ty n) (.ty n)
inductive Reps (K : PySem.W.Frag) (P : Hp) : List V → List D → Prop
  | nil : Reps K P [] []
  | cons {v : V} {vs : List V} {d : D} {ds : List D} : Rep K P v d → Reps K P vs ds → Reps K P (v :: vs) (d :: ds)
end

theorem rd_ex {P P' : Hp} {a : Addr} {u : HO} (e : Ex P P') (h : Rd P a u) : Rd P' a u := by
  rcases h with h | ⟨o, h⟩
  · exact .inl (e _ _ h)
  · exact .inr ⟨o, e _ _ h⟩
theorem sqL_ex {K : PySem.W.Frag} {P P' : Hp} {a : Addr} {xs : List V} (e : Ex P P') (h : SqL K P a xs) : SqL K P' a xs := by
  rcases h with h | h
  · exact .inl (rd_ex e h)
  · exact .inr h
theorem sqT_ex {K : PySem.W.Frag} {P P' : Hp} {a : Addr} {xs : List V} (e : Ex P P') (h : SqT K P a xs) : SqT K P' a xs := by
  rcases h with h | h
  · exact .inl (rd_ex e h)
  · exact .inr h
theorem le_lst {P H : Hp} {a : Addr} {xs : List V} (l : Le P H) (h : P a = some (.lst xs)) : H a = some (.lst xs) := by
  rcases l _ _ h with h | ⟨_, _, z, _⟩
  · exact h
  · cases z
theorem le_tup {P H : Hp} {a : Addr} {xs : List V} (l : Le P H) (h : P a = some (.tup xs)) : H a = some (.tup xs) := by
  rcases l _ _ h with h | ⟨_, _, z, _⟩
  · exact h
  · cases z
theorem le_ins {P H : Hp} {a C dx : Addr} {fs : List (Str × V)} (l : Le P H) (h : P a = some (.ins C dx fs)) : H a = some (.ins C dx fs) := by
  rcases l _ _ h with h | ⟨_, _, z, _⟩
  · exact h
  · cases z
theorem le_frz {P H : Hp} {a : Addr} {o : Obj} {u : HO} (l : Le P H) (h : P a = some (.frz o u)) : H a = some (.frz o u) := by
  rcases l _ _ h with h | ⟨_, _, z, _⟩
  · exact h
  · cases z
theorem le_sqL {K : PySem.W.Frag} {P H : Hp} {a : Addr} {xs : List V} (l : Le P H) (h : SqL K P a xs) : SqL K H a xs := by
  rcases h with (h | ⟨o, h⟩) | h
  · exact .inl (.inl (le_lst l h))
  · exact .inl (.inr ⟨o, le_frz l h⟩)
  · exact .inr h
theorem le_sqT {K : PySem.W.Frag} {P H : Hp} {a : Addr} {xs : List V} (l : Le P H) (h : SqT K P a xs) : SqT K H a xs := by
  rcases h with (h | ⟨o, h⟩) | h
  · exact .inl (.inl (le_tup l h))
  · exact .inl (.inr ⟨o, le_frz l h⟩)
  · exact .inr h
theorem le_dK {P H : Hp} {a : Addr} {kvs : List (Key × V)} (l : Le P H) (h : P a = some (.dK kvs)) : Rd H a (.dK kvs) := by
  rcases l _ _ h with h | ⟨k, ob, z, h⟩
  · exact .inl h
  · cases z; exact .inr ⟨ob, h⟩
theorem le_frzR {P H : Hp} {a : Addr} {od : Obj} {kvs : List (Key × V)} (l : Le P H) (h : P a = some (.frz od (.dK kvs))) : Rd H a (.dK kvs) := by
  rcases l _ _ h with h | ⟨k, ob, z, h⟩
  · exact .inr ⟨od, h⟩
  · cases z
theorem Le.ex {P Q H : Hp} (a : Ex P Q) (l : Le Q H) : Le P H := fun x o h => l x o (a x o h)
theorem Le.tr' {P H H' : Hp} (l : Le P H) (e : Ex H H') : Le P H' := fun x o h => by
  rcases l x o h with h | ⟨k, ob, z, h⟩
  · exact .inl (e _ _ h)
  · exact .inr ⟨k, ob, z, e _ _ h⟩
theorem Le.none {P H : Hp} {a : Addr} (l : Le P H) (h : H a = none) : P a = none := by
  cases q : P a with
  | none => rfl
  | some o =>
    rcases l _ _ q with z | ⟨_, _, _, z⟩ <;> (rw [h] at z; cases z)

mutual
theorem Rep.ex {K : PySem.W.Frag} {P P' : Hp} (e : Ex P P') : ∀ (d : D) {v : V}, Rep K P v d → Rep K P' v d
  | .non, _, .non => .non
  | .bl _, _, .bl b => .bl b
  | .int _, _, .int i => .int i
  | .str _, _, .str x => .str x
  | .lst ds, _, .lst h r => .lst (e _ _ h) (Reps.ex e ds r)
  | .scr ds, _, .scr h r => .scr (sqL_ex e h) (Reps.ex e ds r)
  | .tup ds, _, .tup h r => .tup (e _ _ h) (Reps.ex e ds r)
  | .dct ks ds, _, .dct h l r => .dct (e _ _ h) l (Reps.ex e ds r)
  | .obj C ns ds, _, .obj h l r => .obj (e _ _ h) l (Reps.ex e ds r)
  | .ref _, _, .ref a => .ref a
  | .ty _, _, .ty n => .ty n
theorem Reps.ex {K : PySem.W.Frag} {P P' : Hp} (e : Ex P P') : ∀ (ds : List D) {vs : List V}, Reps K P vs ds → Reps K P' vs ds
  | [], _, .nil => .nil
  | d :: ds, _, .cons h r => .cons (Rep.ex e d h) (Reps.ex e ds r)
end
theorem Reps.len {K : PySem.W.Frag} {P : Hp} : ∀ {ds : List D} {vs : List V}, Reps K P vs ds → vs.length = ds.length
  | [], _, .nil => rfl
  | _ :: _, _, .cons _ r => by rw [List.length_cons, List.length_cons, r.len]
theorem Reps.get {K : PySem.W.Frag} {P : Hp} : ∀ {ds : List D} {vs : List V} {i : Nat} {d : D}, Reps K P vs ds → ds[i]? = some d → ∃ v, vs[i]? = some v ∧ Rep K P v d
  | _ :: _, _, 0, _, .cons h _, e => by cases e; exact ⟨_, rfl, h⟩
  | _ :: _, _, i + 1, _, .cons _ r, e => r.get (i := i) (by simpa using e)
theorem Reps.getV {K : PySem.W.Frag} {P : Hp} : ∀ {ds : List D} {vs : List V} {i : Nat} {v : V}, Reps K P vs ds → vs[i]? = some v → ∃ d, ds[i]? = some d ∧ Rep K P v d
  | [], _, _, _, .nil, e => by simp at e
  | _ :: _, _ :: _, 0, _, .cons h _, e => by cases e; exact ⟨_, rfl, h⟩
  | _ :: _, _ :: _, i + 1, _, .cons _ r, e => r.getV (i := i) (by simpa using e)
theorem Reps.app {K : PySem.W.Frag} {P : Hp} : ∀ {ds es : List D} {vs ws : List V}, Reps K P vs ds → Reps K P ws es → Reps K P (vs ++ ws) (ds ++ es)
  | [], _, _, _, .nil, s => s
  | _ :: _, _, _, _, .cons h r, s => .cons h (r.app s)
theorem Reps.setAt {K : PySem.W.Frag} {P : Hp} {v : V} {d : D} (h : Rep K P v d) : ∀ (ds : List D) (vs : List V) (i : Nat), Reps K P vs ds → Reps K P (vs.set i v) (ds.set i d) := by
  intro ds
  induction ds with
  | nil => intro vs i r; cases r; exact .nil
  | cons e es ih =>
    intro vs i r
    cases r with
    | cons g r =>
      cases i with
      | zero => exact .cons h r
      | succ i => exact .cons g (ih _ i r)
theorem Reps.take {K : PySem.W.Frag} {P : Hp} : ∀ {ds : List D} {vs : List V} (n : Nat), Reps K P vs ds → Reps K P (vs.take n) (ds.take n)
  | _, _, 0, _ => .nil
  | [], _, _ + 1, .nil => .nil
  | _ :: _, _, n + 1, .cons h r => .cons h (r.take n)
theorem Reps.drop {K : PySem.W.Frag} {P : Hp} : ∀ {ds : List D} {vs : List V} (n : Nat), Reps K P vs ds → Reps K P (vs.drop n) (ds.drop n)
  | _, _, 0, r => r
  | [], _, _ + 1, .nil => .nil
  | _ :: _, _, n + 1, .cons _ r => r.drop n

/-! ### cells -/
inductive Cl where
  | lst (ds : List D) | dct (ks : List Key) (ds : List D) | box (n : Nat) | ins (C : Addr) (ns : List Str) (ds : List D)
abbrev Cells := List (Addr × Cl)
def Cl.ho (K : PySem.W.Frag) (P : Hp) (o : HO) : Cl → Prop
  | .lst ds => ∃ vs, o = .lst vs ∧ Reps K P vs ds
  | .dct ks ds => ∃ vs, o = .dK (ks.zip vs) ∧ ks.length = vs.length ∧ Reps K P vs ds
  | .box n => ∃ x y c : Int, o = .lst [.int x, .int y, .int c] ∧ 0 ≤ y ∧ y < 2147483629 ∧ 0 ≤ c ∧ c ≤ n
  | .ins C ns ds => ∃ dx vs, o = .ins C dx (ns.zip vs) ∧ ns.length = vs.length ∧ Reps K P vs ds
theorem Cl.ho_ex {K : PySem.W.Frag} {P P' : Hp} {o : HO} (e : Ex P P') : ∀ {c : Cl}, c.ho K P o → c.ho K P' o
  | .lst ds, ⟨vs, h, r⟩ => ⟨vs, h, r.ex e⟩
  | .dct ks ds, ⟨vs, h, l, r⟩ => ⟨vs, h, l, r.ex e⟩
  | .box n, h => h
  | .ins C ns ds, ⟨dx, vs, h, l, r⟩ => ⟨dx, vs, h, l, r.ex e⟩

/-- the world of a body: what is known at its entry (P0), the entry heap (H0), what of it stays (Hb), the objects handed in to be changed (io) -/
structure Wd where
  P0 : Hp
  H0 : Hp
  Hb : Hp
  io : List Addr

abbrev Gam : Type := List (Option D)
structure Good (K : PySem.W.Frag) (W : Wd) (G : Gam) (C : Cells) (σ : L2.St) (P H : Hp) : Prop where
  wf : ∀ a o, W.Hb a = some o → W.H0 a ≠ none ∧ a ∉ W.io
  le : Le P H
  p0 : Ex W.P0 P
  fr : ∀ a, W.H0 a ≠ none → P a = W.P0 a
  hb : Ex W.Hb H
  tr : ∀ a, W.H0 a ≠ none → H a ≠ none
  sl : ∀ (i : Nat) (d : D), G[i]? = some (some d) → ∃ v, σ[i]? = some (some v) ∧ Rep K P v d
  ce : ∀ p ∈ C, P p.1 = none ∧ (W.H0 p.1 = none ∨ p.1 ∈ W.io) ∧ ∃ o, H p.1 = some o ∧ p.2.ho K P o
  nd : (C.map (·.1)).Nodup
  len : σ.length = G.length

/-- one step's outcome: knowledge grows -/
structure Next (K : PySem.W.Frag) (W : Wd) (G : Gam) (C' : Cells) (σ : L2.St) (P P' H' : Hp) : Prop where
  ex : Ex P P'
  good : Good K W G C' σ P' H'

section
variable {K : PySem.W.Frag} {W : Wd} {G : Gam} {C : Cells} {σ : L2.St} {P H : Hp}
/-- a new object that is known from now on -/
theorem Good.new (g : Good K W G C σ P H) {p : Addr} {o : HO} (hp : H p = none) : Next K W G C σ P (upd P p o) (upd H p o) := by
  have pn := g.le.none hp
  have e := Ex.fresh (o := o) pn
  have eh := Ex.fresh (o := o) hp
  refine ⟨e, g.wf, fun a u h => ?_, g.p0.tr e, fun a h => ?_, g.hb.tr eh, fun a h => ?_, fun i d h => ?_, fun q hq => ?_, g.nd, g.len⟩
  · by_cases ha : a = p
    · subst ha; rw [upd_same] at h ⊢; exact .inl h
    · rw [upd_ne ha] at h ⊢; exact g.le a u h
  · have ha : a ≠ p := fun z => g.tr a h (by rw [z]; exact hp)
    rw [upd_ne ha]; exact g.fr a h
  · by_cases ha : a = p
    · subst ha; rw [upd_same]; intro z; cases z
    · rw [upd_ne ha]; exact g.tr a h
  · obtain ⟨v, h1, h2⟩ := g.sl i d h
    exact ⟨v, h1, h2.ex e⟩
  · obtain ⟨h1, h2, o', h3, h4⟩ := g.ce q hq
    have ha : q.1 ≠ p := ne_of_none h3 hp
    refine ⟨?_, h2, o', ?_, Cl.ho_ex e h4⟩
    · rw [upd_ne ha]; exact h1
    · rw [upd_ne ha]; exact h3
/-- a new object that may change: a cell -/
theorem Good.newCell (g : Good K W G C σ P H) {p : Addr} {o : HO} {c : Cl} (hp : H p = none) (hc : c.ho K P o) : Good K W G (C ++ [(p, c)]) σ P (upd H p o) := by
  have pn := g.le.none hp
  have eh := Ex.fresh (o := o) hp
  refine ⟨g.wf, g.le.tr' eh, g.p0, g.fr, g.hb.tr eh, fun a h => ?_, g.sl, fun q hq => ?_, ?_, g.len⟩
  · by_cases ha : a = p
    · subst ha; rw [upd_same]; intro z; cases z
    · rw [upd_ne ha]; exact g.tr a h
  · rcases List.mem_append.mp hq with hq | hq
    · obtain ⟨h1, h2, o', h3, h4⟩ := g.ce q hq
      have ha : q.1 ≠ p := ne_of_none h3 hp
      exact ⟨h1, h2, o', by rw [upd_ne ha]; exact h3, h4⟩
    · have e : q = (p, c) := by simpa using hq
      subst e
      refine ⟨pn, .inl ?_, o, upd_same, hc⟩
      cases z : W.H0 p with
      | none => rfl
      | some u => exact absurd hp (g.tr p (by rw [z]; intro q; cases q))
  · rw [List.map_append, List.nodup_append]
    refine ⟨g.nd, by simp, fun a ha b hb => ?_⟩
    obtain ⟨q, hq, rfl⟩ := List.mem_map.mp ha
    have e : b = p := by simpa using hb
    subst e
    obtain ⟨_, _, o', h3, _⟩ := g.ce q hq
    exact ne_of_none h3 hp
/-- a cell is written -/
theorem Good.write (g : Good K W G C σ P H) {i : Nat} {a : Addr} {c c' : Cl} {o : HO} (hi : C[i]? = some (a, c)) (hc : c'.ho K P o) : Good K W G (C.set i (a, c')) σ P (upd H a o) := by
  have hm : (a, c) ∈ C := List.mem_of_getElem? hi
  obtain ⟨h1, h2, o0, h3, h4⟩ := g.ce _ hm
  have il : i < C.length := (List.getElem?_eq_some_iff.mp hi).1
  have mapeq : (C.set i (a, c')).map (·.1) = C.map (·.1) := by
    rw [List.map_set]
    apply List.ext_getElem?
    intro j
    by_cases hj : i = j
    · subst hj
      rw [List.getElem?_set_self (by simpa using il), List.getElem?_map, hi]; rfl
    · rw [List.getElem?_set_ne hj]
  refine ⟨g.wf, fun b u h => ?_, g.p0, g.fr, fun b u h => ?_, fun b h => ?_, g.sl, fun q hq => ?_, by rw [mapeq]; exact g.nd, g.len⟩
  · have hb : b ≠ a := ne_of_none h h1
    rw [upd_ne hb]; exact g.le b u h
  · have hb : b ≠ a := fun z => by
      obtain ⟨w1, w2⟩ := g.wf b u h
      rcases h2 with z2 | z2
      · rw [z] at w1; exact w1 z2
      · rw [z] at w2; exact w2 z2
    rw [upd_ne hb]; exact g.hb b u h
  · by_cases hb : b = a
    · subst hb; rw [upd_same]; intro z; cases z
    · rw [upd_ne hb]; exact g.tr b h
  · obtain ⟨j, hj⟩ := List.getElem?_of_mem hq
    by_cases e : i = j
    · subst e
      rw [List.getElem?_set_self il] at hj
      cases hj
      exact ⟨h1, h2, o, upd_same, hc⟩
    · rw [List.getElem?_set_ne e] at hj
      obtain ⟨q1, q2, o', q3, q4⟩ := g.ce q (List.mem_of_getElem? hj)
      have hne : q.1 ≠ a := fun z => by
        have a1 : (C.map (·.1))[i]? = some a := by rw [List.getElem?_map, hi]; rfl
        have a2 : (C.map (·.1))[j]? = some a := by rw [List.getElem?_map, hj]; exact congrArg some z
        obtain ⟨l1, e1⟩ := List.getElem?_eq_some_iff.mp a1
        obtain ⟨l2, e2⟩ := List.getElem?_eq_some_iff.mp a2
        exact e ((List.getElem_inj g.nd).mp (e1.trans e2.symm))
      exact ⟨q1, q2, o', by rw [upd_ne hne]; exact q3, q4⟩
theorem Good.cell (g : Good K W G C σ P H) {i : Nat} {a : Addr} {c : Cl} (hi : C[i]? = some (a, c)) : ∃ o, H a = some o ∧ c.ho K P o :=
  let ⟨_, _, h⟩ := g.ce _ (List.mem_of_getElem? hi); h
theorem Good.refl (g : Good K W G C σ P H) : Next K W G C σ P P H := ⟨Ex.rfl' P, g⟩
/-- a slot is set -/
theorem Good.slot (g : Good K W G C σ P H) {i : Nat} {v : V} {d : D} (r : Rep K P v d) : Good K W (G.set i (some d)) C (σ.set i (some v)) P H := by
  have hl := g.len
  refine ⟨g.wf, g.le, g.p0, g.fr, g.hb, g.tr, fun j e h => ?_, g.ce, g.nd, by rw [List.length_set, List.length_set]; exact hl⟩
  by_cases hj : i = j
  · subst hj
    by_cases il : i < G.length
    · rw [List.getElem?_set_self il] at h; cases h
      exact ⟨v, by rw [List.getElem?_set_self (by omega)], r⟩
    · rw [List.getElem?_eq_none (by simp only [List.length_set]; omega)] at h; cases h
  · rw [List.getElem?_set_ne hj] at h ⊢
    exact g.sl j e h
/-- the slots are forgotten, or fewer of them kept -/
theorem Good.fewer (g : Good K W G C σ P H) {G' : Gam} {σ' : L2.St} (h : ∀ (i : Nat) (d : D), G'[i]? = some (some d) → ∃ v, σ'[i]? = some (some v) ∧ Rep K P v d) (hl : σ'.length = G'.length) : Good K W G' C σ' P H :=
  ⟨g.wf, g.le, g.p0, g.fr, g.hb, g.tr, h, g.ce, g.nd, hl⟩
theorem Good.nil (g : Good K W G C σ P H) : Good K W [] C [] P H := g.fewer (fun i d h => by simp at h) rfl
/-- an object that nobody tracks is laid or written -/
theorem Good.aside (g : Good K W G C σ P H) {p : Addr} {o : HO} (hp : P p = none) (h0 : W.H0 p = none) (hc : p ∉ C.map (·.1)) : Good K W G C σ P (upd H p o) := by
  refine ⟨g.wf, fun a u h => ?_, g.p0, g.fr, fun a u h => ?_, fun a h => ?_, g.sl, fun q hq => ?_, g.nd, g.len⟩
  · rw [upd_ne (ne_of_none h hp)]; exact g.le a u h
  · have ha : a ≠ p := fun z => (g.wf a u h).1 (by rw [z]; exact h0)
    rw [upd_ne ha]; exact g.hb a u h
  · by_cases ha : a = p
    · subst ha; rw [upd_same]; intro z; cases z
    · rw [upd_ne ha]; exact g.tr a h
  · obtain ⟨h1, h2, o', h3, h4⟩ := g.ce q hq
    have ha : q.1 ≠ p := fun z => hc (by rw [← z]; exact List.mem_map.mpr ⟨q, hq, rfl⟩)
    exact ⟨h1, h2, o', by rw [upd_ne ha]; exact h3, h4⟩
/-- an object that nobody tracks is known from now on -/
theorem Good.know (g : Good K W G C σ P H) {p : Addr} {o : HO} (hp : P p = none) (h0 : W.H0 p = none) (hc : p ∉ C.map (·.1)) (hh : H p = some o) : Next K W G C σ P (upd P p o) H := by
  have e := Ex.fresh (o := o) hp
  refine ⟨e, g.wf, fun a u h => ?_, g.p0.tr e, fun a h => ?_, g.hb, g.tr, fun i d h => ?_, fun q hq => ?_, g.nd, g.len⟩
  · by_cases ha : a = p
    · subst ha; rw [upd_same] at h; cases h; exact .inl hh
    · rw [upd_ne ha] at h; exact g.le a u h
  · have ha : a ≠ p := fun z => h (by rw [z]; exact h0)
    rw [upd_ne ha]; exact g.fr a h
  · obtain ⟨v, h1, h2⟩ := g.sl i d h
    exact ⟨v, h1, h2.ex e⟩
  · obtain ⟨h1, h2, o', h3, h4⟩ := g.ce q hq
    have ha : q.1 ≠ p := fun z => hc (by rw [← z]; exact List.mem_map.mpr ⟨q, hq, rfl⟩)
    exact ⟨by rw [upd_ne ha]; exact h1, h2, o', h3, Cl.ho_ex e h4⟩
/-- an object that nobody tracks becomes a cell -/
theorem Good.adopt (g : Good K W G C σ P H) {p : Addr} {o : HO} {c : Cl} (hp : P p = none) (h0 : W.H0 p = none) (hc : p ∉ C.map (·.1)) (hh : H p = some o) (ho : c.ho K P o) : Good K W G (C ++ [(p, c)]) σ P H := by
  refine ⟨g.wf, g.le, g.p0, g.fr, g.hb, g.tr, g.sl, fun q hq => ?_, ?_, g.len⟩
  · rcases List.mem_append.mp hq with hq | hq
    · exact g.ce q hq
    · have e : q = (p, c) := by simpa using hq
      subst e
      exact ⟨hp, .inl h0, o, hh, ho⟩
  · rw [List.map_append, List.nodup_append]
    refine ⟨g.nd, by simp, fun a ha b hb => ?_⟩
    have e : b = p := by simpa using hb
    subst e
    intro z; subst z; exact hc ha
/-- a cell of one's own is let go -/
theorem Good.drop (g : Good K W G C σ P H) {C1 C2 : Cells} {p : Addr} {c : Cl} (e : C = C1 ++ (p, c) :: C2) : Good K W G (C1 ++ C2) σ P H ∧ p ∉ (C1 ++ C2).map (·.1) ∧ P p = none ∧ ∃ o, H p = some o ∧ c.ho K P o := by
  subst e
  have nd := g.nd
  rw [List.map_append, List.map_cons] at nd
  have nd2 := (List.perm_middle.nodup_iff).mp nd
  rw [List.nodup_cons] at nd2
  obtain ⟨h1, h2, h3⟩ := g.ce (p, c) (by simp)
  refine ⟨⟨g.wf, g.le, g.p0, g.fr, g.hb, g.tr, g.sl, fun q hq => g.ce q ?_, by rw [List.map_append]; exact nd2.2, g.len⟩, by rw [List.map_append]; exact nd2.1, h1, h3⟩
  rcases List.mem_append.mp hq with z | z
  · exact List.mem_append_left _ z
  · exact List.mem_append_right _ (List.mem_cons_of_mem _ z)
/-- a world that begins here: what is not at l stays -/
def baseW (P H : Hp) (l : List Addr) : Wd := ⟨P, H, fun a => if a ∈ l then none else H a, l⟩
theorem baseW_hb {P H : Hp} {l : List Addr} {a : Addr} (h : a ∉ l) : (baseW P H l).Hb a = H a := if_neg h
theorem Good.base (g : Good K W G C σ P H) : Good K (baseW P H (C.map (·.1))) G C σ P H := by
  refine ⟨fun a o h => ?_, g.le, Ex.rfl' P, fun _ _ => rfl, fun a o h => ?_, fun _ h => h, g.sl, fun q hq => ?_, g.nd, g.len⟩
  · by_cases ha : a ∈ C.map (·.1)
    · rw [show (baseW P H (C.map (·.1))).Hb a = none from if_pos ha] at h; cases h
    · rw [baseW_hb ha] at h
      exact ⟨(fun z => by rw [show (baseW P H (C.map (·.1))).H0 a = H a from rfl, h] at z; cases z), ha⟩
  · by_cases ha : a ∈ C.map (·.1)
    · rw [show (baseW P H (C.map (·.1))).Hb a = none from if_pos ha] at h; cases h
    · rw [baseW_hb ha] at h; exact h
  · obtain ⟨h1, h2, h3⟩ := g.ce q hq
    exact ⟨h1, .inr (List.mem_map.mpr ⟨q, hq, rfl⟩), h3⟩
/-- back to the outer world; cells that were not handed in are as they were -/
theorem Good.back {G' : Gam} {C' : Cells} {σ' : L2.St} {P' H' : Hp} (g : Good K W G C σ P H) (g' : Good K (baseW P H (C.map (·.1))) G' C' σ' P' H') : Good K W G' C' σ' P' H' := by
  have notcell : ∀ a o, W.Hb a = some o → a ∉ C.map (·.1) := fun a o h z => by
    obtain ⟨q, hq, rfl⟩ := List.mem_map.mp z
    obtain ⟨w1, w2⟩ := g.wf _ _ h
    rcases (g.ce q hq).2.1 with e | e
    · exact w1 e
    · exact w2 e
  refine ⟨g.wf, g'.le, g.p0.tr g'.p0, fun a h => ?_, fun a o h => ?_, fun a h => ?_, g'.sl, fun q hq => ?_, g'.nd, g'.len⟩
  · exact (g'.fr a (g.tr a h)).trans (g.fr a h)
  · exact g'.hb a o (by rw [baseW_hb (notcell a o h)]; exact g.hb a o h)
  · exact g'.tr a (g.tr a h)
  · obtain ⟨h1, h2, h3⟩ := g'.ce q hq
    refine ⟨h1, ?_, h3⟩
    rcases h2 with e | e
    · cases z : W.H0 q.1 with
      | none => exact .inl rfl
      | some u => exact absurd e (g.tr q.1 (by rw [z]; intro y; cases y))
    · obtain ⟨r, hr, e2⟩ := List.mem_map.mp e
      rw [← e2]
      exact (g.ce r hr).2.1
end
end EW

namespace EW
open PySem PySem.Spec PyProof.Rows L2

/-! ### what a piece of syntax does, as a reading -/
def semE (X : Cx) (e : Expr) : TE := fun σ H Q => ∀ (pins : List (Addr × Obj)) (s : Shared), Inv X pins σ H s → wpAny (model X.prog X.w) X.A (eval e X.env) (EP X pins σ Q) X.xe s
def semT (X : Cx) (e : Expr) : TT := fun σ H Q => ∀ (pins : List (Addr × Obj)) (s : Shared), Inv X pins σ H s → wpAny (model X.prog X.w) X.A (isTrue e X.env (eval e X.env)) (TP X pins σ Q) X.xe s
def semB (X : Cx) (e : Expr) : TT := fun σ H Q => ∀ (whole : Sem Value) (pins : List (Addr × Obj)) (s : Shared), Inv X pins σ H s → wpAny (model X.prog X.w) X.A (isTrue e X.env whole) (TP X pins σ Q) X.xe s
def semA (X : Cx) (es : List Expr) : TA := fun σ H Q => ∀ (pos : Pos) (pins : List (Addr × Obj)) (s : Shared), Inv X pins σ H s → wpAny (model X.prog X.w) X.A (spliced (backTo pos (starEach es X.env))) (AP X pins σ Q) X.xe s
def semS (X : Cx) (st : Stmt) : TS := fun D σ H => ∀ (pins : List (Addr × Obj)) (s : Shared), Inv X pins σ H s → wpAny (model X.prog X.w) X.A (exec st X.env) (SP X pins D) X.xe s
def semSs (X : Cx) (st : List Stmt) : TS := fun D σ H => ∀ (pins : List (Addr × Obj)) (s : Shared), Inv X pins σ H s → wpAny (model X.prog X.w) X.A (execs st X.env) (SP X pins D) X.xe s
def semG (X : Cx) (tg : Expr) : TG := fun v σ H Q => ∀ (pins : List (Addr × Obj)) (s : Shared) (u : Value), Inv X pins σ H s → RelV v u → wpAny (model X.prog X.w) X.A (assign tg X.env u) (fun _ s' => ∃ σ' H', Inv X pins σ' H' s' ∧ Q σ' H') X.xe s
def semI (X : Cx) (tg iter : Expr) : TI := fun σ H R => ∀ (pins : List (Addr × Obj)) (s : Shared), Inv X pins σ H s → wpAny (model X.prog X.w) X.A (eval iter X.env) (fun v s1 => wpAny (model X.prog X.w) X.A (pyIter v) (PIE X pins σ tg R) X.xe s1) X.xe s
def semO (X : Cx) (f : Value → Value → Sem Value) : R2 := fun x y H Q => ∀ (pins : List (Addr × Obj)) (s : Shared) (σ : L2.St) (u v : Value), Inv X pins σ H s → RelV x u → RelV y v → wpAny (model X.prog X.w) X.A (f u v) (EP X pins σ Q) X.xe s
def semC (X : Cx) (f : Value) : List V → Hp → VK → Prop := fun xs H Q => ∀ (pins : List (Addr × Obj)) (s : Shared) (σ : L2.St) (us : List Value), Inv X pins σ H s → Vals xs us → wpAny (model X.prog X.w) X.A (call f us) (EP X pins σ Q) X.xe s
section
variable {X : Cx} {e : Expr} {es : List Expr} {st : Stmt} {sts : List Stmt} {tg iter : Expr}
theorem pe_sem : PE X e (semE X e) := ⟨fun pins s _ _ _ I h => h pins s I⟩
theorem pt_sem : PT X e (semT X e) := ⟨fun pins s _ _ _ I h => h pins s I⟩
theorem pw_sem : PW X e (semB X e) := ⟨fun wh pins s _ _ _ I h => h wh pins s I⟩
theorem pa_sem : PA X es (semA X es) := ⟨fun pos pins s _ _ _ I h => h pos pins s I⟩
theorem ps_sem : PS X st (semS X st) := ⟨fun pins s _ _ _ I h => h pins s I⟩
theorem pss_sem : PSs X sts (semSs X sts) := ⟨fun pins s _ _ _ I h => h pins s I⟩
theorem pg_sem : PG X tg (semG X tg) := ⟨fun pins s _ _ _ u _ I r h => h pins s u I r⟩
theorem pi_sem : PI X tg iter (semI X tg iter) := ⟨fun pins s _ _ _ I h => h pins s I⟩
end

/-! ### the judgements over data -/
abbrev KD := D → Cells → Prop
abbrev KDs := List D → Cells → Prop
abbrev KB := Bool → Cells → Prop
def wE (X : Cx) (W : Wd) (e : Expr) (G : List (Option D)) (C : Cells) (k : KD) : Prop :=
  ∀ (σ : L2.St) (P H : Hp) (Q : VK), Good X.K W G C σ P H → (∀ d C' v P' H', Next X.K W G C' σ P P' H' → Rep X.K P' v d → k d C' → Q v H') → semE X e σ H Q
def wT (X : Cx) (W : Wd) (e : Expr) (G : List (Option D)) (C : Cells) (k : KB) : Prop :=
  ∀ (σ : L2.St) (P H : Hp) (Q : Bool → Hp → Prop), Good X.K W G C σ P H → (∀ b C' P' H', Next X.K W G C' σ P P' H' → k b C' → Q b H') → semT X e σ H Q
/-- a test whatever its whole is -/
def wB (X : Cx) (W : Wd) (e : Expr) (G : List (Option D)) (C : Cells) (k : KB) : Prop :=
  ∀ (σ : L2.St) (P H : Hp) (Q : Bool → Hp → Prop), Good X.K W G C σ P H → (∀ b C' P' H', Next X.K W G C' σ P P' H' → k b C' → Q b H') → semB X e σ H Q
def wA (X : Cx) (W : Wd) (es : List Expr) (G : List (Option D)) (C : Cells) (k : KDs) : Prop :=
  ∀ (σ : L2.St) (P H : Hp) (Q : List V → Hp → Prop), Good X.K W G C σ P H → (∀ ds C' vs P' H', Next X.K W G C' σ P P' H' → Reps X.K P' vs ds → k ds C' → Q vs H') → semA X es σ H Q
/-- an operation on two values -/
def oD (X : Cx) (W : Wd) (f : Value → Value → Sem Value) (x y : D) (G : List (Option D)) (C : Cells) (k : KD) : Prop :=
  ∀ (σ : L2.St) (P H : Hp) (Q : VK) (v u : V), Good X.K W G C σ P H → Rep X.K P v x → Rep X.K P u y → (∀ d C' z P' H', Next X.K W G C' σ P P' H' → Rep X.K P' z d → k d C' → Q z H') → semO X f v u H Q
/-- a call of f -/
def cD (X : Cx) (W : Wd) (f : Value) (ds : List D) (G : List (Option D)) (C : Cells) (k : KD) : Prop :=
  ∀ (σ : L2.St) (P H : Hp) (Q : VK) (vs : List V), Good X.K W G C σ P H → Reps X.K P vs ds → (∀ d C' z P' H', Next X.K W G C' σ P P' H' → Rep X.K P' z d → k d C' → Q z H') → semC X f vs H Q
/-- what is wanted behind a statement -/
structure DE where
  nx : List (Option D) → Cells → Prop
  rt : KD
  bk : List (Option D) → Cells → Prop := fun _ _ => False
  ct : List (Option D) → Cells → Prop := fun _ _ => False
structure Fits (X : Cx) (W : Wd) (P : Hp) (E : DE) (T : Ends) : Prop where
  nx : ∀ G C σ P' H', Next X.K W G C σ P P' H' → E.nx G C → T.nx σ H'
  rt : ∀ d C v P' H', Next X.K W [] C [] P P' H' → Rep X.K P' v d → E.rt d C → T.rt v H'
  bk : ∀ G C σ P' H', Next X.K W G C σ P P' H' → E.bk G C → T.bk σ H'
  ct : ∀ G C σ P' H', Next X.K W G C σ P P' H' → E.ct G C → T.ct σ H'
def wS (X : Cx) (W : Wd) (st : Stmt) (G : List (Option D)) (C : Cells) (E : DE) : Prop :=
  ∀ (σ : L2.St) (P H : Hp) (T : Ends), Good X.K W G C σ P H → Fits X W P E T → semS X st T σ H
def wSs (X : Cx) (W : Wd) (st : List Stmt) (G : List (Option D)) (C : Cells) (E : DE) : Prop :=
  ∀ (σ : L2.St) (P H : Hp) (T : Ends), Good X.K W G C σ P H → Fits X W P E T → semSs X st T σ H
def wG (X : Cx) (W : Wd) (tg : Expr) (d : D) (G : List (Option D)) (C : Cells) (k : List (Option D) → Cells → Prop) : Prop :=
  ∀ (σ : L2.St) (P H : Hp) (Q : L2.St → Hp → Prop) (v : V), Good X.K W G C σ P H → Rep X.K P v d → (∀ G' C' σ' P' H', Next X.K W G' C' σ' P P' H' → k G' C' → Q σ' H') → semG X tg v σ H Q

theorem Next.tr {K : PySem.W.Frag} {W : Wd} {G G' : List (Option D)} {C C' : Cells} {σ σ' : L2.St} {P P1 P2 H1 H2 : Hp} (a : Next K W G C σ P P1 H1) (b : Next K W G' C' σ' P1 P2 H2) : Next K W G' C' σ' P P2 H2 := ⟨a.ex.tr b.ex, b.good⟩
theorem Fits.mono {X : Cx} {W : Wd} {P P1 : Hp} {E : DE} {T : Ends} (f : Fits X W P E T) (e : Ex P P1) : Fits X W P1 E T :=
  ⟨fun G C σ P' H' n => f.nx G C σ P' H' ⟨e.tr n.ex, n.good⟩, fun d C v P' H' n => f.rt d C v P' H' ⟨e.tr n.ex, n.good⟩, fun G C σ P' H' n => f.bk G C σ P' H' ⟨e.tr n.ex, n.good⟩, fun G C σ P' H' n => f.ct G C σ P' H' ⟨e.tr n.ex, n.good⟩⟩
theorem Rep.ex' {K : PySem.W.Frag} {P P' : Hp} {d : D} {v : V} (h : Rep K P v d) (e : Ex P P') : Rep K P' v d := Rep.ex e d h
theorem Reps.ex' {K : PySem.W.Frag} {P P' : Hp} {ds : List D} {vs : List V} (h : Reps K P vs ds) (e : Ex P P') : Reps K P' vs ds := Reps.ex e ds h

section
variable {X : Cx} {W : Wd} {G : List (Option D)} {C : Cells} {k k' : KD} {kb kb' : KB} {e a b c : Expr} {pos p1 p2 : Pos}
theorem wE.mono (h : wE X W e G C k) (m : ∀ d C', k d C' → k' d C') : wE X W e G C k' := fun σ P H Q g q => h σ P H Q g fun d C' v P' H' n r z => q d C' v P' H' n r (m d C' z)
theorem wT.mono (h : wT X W e G C kb) (m : ∀ b C', kb b C' → kb' b C') : wT X W e G C kb' := fun σ P H Q g q => h σ P H Q g fun b C' P' H' n z => q b C' P' H' n (m b C' z)
/-- by the value, the cells as they were -/
theorem wE_v {d : D} (h : wE X W e G C fun d' C' => d' = d ∧ C' = C) (q : k d C) : wE X W e G C k := h.mono fun d' C' z => by obtain ⟨rfl, rfl⟩ := z; exact q
theorem wT_v {t : Bool} (h : wT X W e G C fun t' C' => t' = t ∧ C' = C) (q : kb t C) : wT X W e G C kb := h.mono fun d' C' z => by obtain ⟨rfl, rfl⟩ := z; exact q
theorem wB_v {t : Bool} (h : wB X W e G C fun t' C' => t' = t ∧ C' = C) (q : kb t C) : wB X W e G C kb := fun σ P H Q g r => h σ P H Q g fun b C' P' H' n z => by obtain ⟨rfl, rfl⟩ := z; exact r _ _ P' H' n q
theorem wE_of {t : TE} (h : PE X e t) (r : ∀ σ P H (Q : VK), Good X.K W G C σ P H → (∀ d C' v P' H', Next X.K W G C' σ P P' H' → Rep X.K P' v d → k d C' → Q v H') → t σ H Q) : wE X W e G C k :=
  fun σ P H Q g q pins s I => h.run pins s σ H Q I (r σ P H Q g q)
theorem wT_of {t : TT} (h : PT X e t) (r : ∀ σ P H (Q : Bool → Hp → Prop), Good X.K W G C σ P H → (∀ b C' P' H', Next X.K W G C' σ P P' H' → kb b C' → Q b H') → t σ H Q) : wT X W e G C kb :=
  fun σ P H Q g q pins s I => h.run pins s σ H Q I (r σ P H Q g q)
theorem wB_of {t : TT} (h : PW X e t) (r : ∀ σ P H (Q : Bool → Hp → Prop), Good X.K W G C σ P H → (∀ b C' P' H', Next X.K W G C' σ P P' H' → kb b C' → Q b H') → t σ H Q) : wB X W e G C kb :=
  fun σ P H Q g q wh pins s I => h.run wh pins s σ H Q I (r σ P H Q g q)
theorem wB.wt (h : wB X W e G C kb) : wT X W e G C kb := fun σ P H Q g q pins s I => h σ P H Q g q _ pins s I

/-! names and constants -/
theorem wE_nm (i : Nat) {x : Str} {d : D} (hd : G[i]? = some (some d)) (q : k d C) (hN : X.N[i]? = some x := by rfl) (hv : Vis X.env.scope x := by first | exact Or.inl rfl | exact Or.inr (Or.inl rfl) | exact Or.inr (Or.inr rfl))
    (h1 : (x == ("__debug__" : Str)) = false := by decide) (h2 : (x == ("__classdict__" : Str)) = false := by decide) : wE X W (.Name x pos) G C k :=
  wE_of (pe_var hN hv h1 h2) fun σ P H Q g z => let ⟨v, h1, h2⟩ := g.sl i d hd; ⟨v, h1, z d C v P H g.refl h2 q⟩
theorem wE_int {i : Int} {j : Nat} (q : k (.int i) C) : wE X W (.Constant (.int i) j pos) G C k := wE_of pe_int fun σ P H Q g z => z _ C _ P H g.refl (.int i) q
theorem wE_bl {i : Bool} {j : Nat} (q : k (.bl i) C) : wE X W (.Constant (.bool i) j pos) G C k := wE_of pe_bl fun σ P H Q g z => z _ C _ P H g.refl (.bl i) q
theorem wE_non {j : Nat} (q : k .non C) : wE X W (.Constant .none j pos) G C k := wE_of pe_non fun σ P H Q g z => z _ C _ P H g.refl .non q
theorem wE_str {x : Str} {j : Nat} (q : k (.str x) C) : wE X W (.Constant (.str x) j pos) G C k := wE_of pe_str fun σ P H Q g z => z _ C _ P H g.refl (.str x) q
/-- a module's constant -/
theorem wE_gl {x : Str} {u : Value} {d : D} {v : V} (hm : X.mg x = some u) (r : RelV v u) (hr : ∀ P, Rep X.K P v d) (q : k d C) (hg : Gl X x := by rfl) (hd : (x == ("__debug__" : Str)) = false := by decide) : wE X W (.Name x pos) G C k :=
  wE_of (pe_glob hg hm r hd) fun σ P H Q g z => z _ C _ P H g.refl (hr P) q
/-- a built-in class as a value -/
theorem wE_ty {x : Str} {T : String} (hm : X.mg x = none) (hv : bootBuiltins x = some (.type T)) (q : k (.ty T) C) (hg : Gl X x := by rfl) (hn : x ≠ "__name__" := by decide) (hd : (x == ("__debug__" : Str)) = false := by decide) : wE X W (.Name x pos) G C k :=
  wE_of (pe_bltn (v := .ty T) hg hm hv rfl hn hd) fun σ P H Q g z => z _ C _ P H g.refl (.ty T) q

/-! operators -/
theorem wE_bin {op : Operator} (h : wE X W a G C fun x C1 => wE X W b G C1 fun y C2 => oD X W (binaryOp op) x y G C2 k) : wE X W (.BinOp a op b pos) G C k :=
  wE_of (pe_op (r := semO X (binaryOp op)) (fun pins s σ H x y v u Q I rx ry h => h pins s σ v u I rx ry) pe_sem pe_sem) fun σ P H Q g z =>
    h σ P H _ g fun x C1 v P1 H1 n1 r1 h1 => h1 σ P1 H1 _ n1.good fun y C2 u P2 H2 n2 r2 h2 => h2 σ P2 H2 Q v u n2.good (r1.ex' n2.ex) r2 fun d C3 w P3 H3 n3 => z d C3 w P3 H3 (n1.tr (n2.tr n3))
theorem wE_cmp {op : CmpOp} (h : wE X W a G C fun x C1 => wE X W b G C1 fun y C2 => oD X W (compareOp op) x y G C2 k) (hm : behindInMarks op b = false := by first | exact nomark _ | rfl) : wE X W (.Compare a [op] [b] pos) G C k :=
  wE_of (pe_cmpR (r := semO X (compareOp op)) (fun pins s σ H x y v u Q I rx ry h => h pins s σ v u I rx ry) pe_sem pe_sem hm) fun σ P H Q g z =>
    h σ P H _ g fun x C1 v P1 H1 n1 r1 h1 => h1 σ P1 H1 _ n1.good fun y C2 u P2 H2 n2 r2 h2 => h2 σ P2 H2 Q v u n2.good (r1.ex' n2.ex) r2 fun d C3 w P3 H3 n3 => z d C3 w P3 H3 (n1.tr (n2.tr n3))
/-- the answer of a test: a bool -/
def kb2 (kb : KB) : KD := fun d C => ∃ t, d = .bl t ∧ kb t C
theorem wT_cmp {op : CmpOp} (h : wE X W a G C fun x C1 => wE X W b G C1 fun y C2 => oD X W (compareOp op) x y G C2 (kb2 kb)) (hm : behindInMarks op b = false := by first | exact nomark _ | rfl) : wT X W (.Compare a [op] [b] pos) G C kb :=
  wT_of (pt_cmpR (r := semO X (compareOp op)) (fun pins s σ H x y v u Q I rx ry h => h pins s σ v u I rx ry) pe_sem pe_sem hm) fun σ P H Q g z =>
    h σ P H _ g fun x C1 v P1 H1 n1 r1 h1 => h1 σ P1 H1 _ n1.good fun y C2 u P2 H2 n2 r2 h2 => h2 σ P2 H2 _ v u n2.good (r1.ex' n2.ex) r2 fun d C3 w P3 H3 n3 r3 h3 => by
      obtain ⟨t, rfl, h3⟩ := h3
      cases r3
      exact ⟨t, rfl, z t C3 P3 H3 (n1.tr (n2.tr n3)) h3⟩
/-- a chain a op b op' c -/
theorem wE_chain {op op' : CmpOp} (h : wE X W a G C fun x C1 => wE X W b G C1 fun y C2 => oD X W (compareOp op) x y G C2 fun z C3 => ∃ t, z = .bl t ∧ (t = true → wE X W c G C3 fun w C4 => oD X W (compareOp op') y w G C4 k) ∧ (t = false → k (.bl false) C3)) (hm : lastMarks [op, op'] [b, c] = false := by with_unfolding_all rfl) : wE X W (.Compare a [op, op'] [b, c] pos) G C k :=
  wE_of (pe_chain (r := semO X (compareOp op)) (r' := semO X (compareOp op')) (fun pins s σ H x y v u Q I rx ry h => h pins s σ v u I rx ry) (fun pins s σ H x y v u Q I rx ry h => h pins s σ v u I rx ry) pe_sem pe_sem pe_sem hm) fun σ P H Q g z =>
    h σ P H _ g fun x C1 v P1 H1 n1 r1 h1 => h1 σ P1 H1 _ n1.good fun y C2 u P2 H2 n2 r2 h2 => h2 σ P2 H2 _ v u n2.good (r1.ex' n2.ex) r2 fun d C3 w P3 H3 n3 r3 h3 => by
      obtain ⟨t, rfl, h3, h4⟩ := h3
      cases r3
      refine ⟨t, rfl, ?_⟩
      cases t with
      | true => exact h3 rfl σ P3 H3 _ n3.good fun y' C4 u' P4 H4 n4 r4 h5 => h5 σ P4 H4 Q u u' n4.good ((r2.ex' n3.ex).ex' n4.ex) r4 fun d C5 w P5 H5 n5 => z d C5 w P5 H5 (n1.tr (n2.tr (n3.tr (n4.tr n5))))
      | false => exact z _ C3 _ P3 H3 (n1.tr (n2.tr n3)) (.bl false) (h4 rfl)

/-- a test by its value -/
theorem wT_val (h : wE X W e G C (kb2 kb)) (he : ∀ whole, isTrue e X.env whole = (do let v ← whole; standAt e.pos; holding [v] (truthy v)) := by intro _; rfl) : wT X W e G C kb :=
  wT_of (pt_val pe_sem he) fun σ P H Q g z => h σ P H _ g fun d C1 v P1 H1 n1 r1 h1 => by
    obtain ⟨t, rfl, h1⟩ := h1
    cases r1
    exact ⟨t, rfl, z t C1 P1 H1 n1 h1⟩
theorem wT_not (h : wT X W a G C fun t C1 => kb (!t) C1) : wT X W (.UnaryOp .Not a pos) G C kb :=
  wT_of (pt_not pt_sem) fun σ P H Q g z => h σ P H _ g fun t C1 P1 H1 n1 h1 => z (!t) C1 P1 H1 n1 h1
theorem wE_not (h : wE X W a G C fun d C1 => ∃ t, d = .bl t ∧ k (.bl (!t)) C1) : wE X W (.UnaryOp .Not a pos) G C k :=
  wE_of (pe_not pe_sem) fun σ P H Q g z => h σ P H _ g fun d C1 v P1 H1 n1 r1 h1 => by
    obtain ⟨t, rfl, h1⟩ := h1
    cases r1
    exact ⟨t, rfl, z _ C1 _ P1 H1 n1 (.bl (!t)) h1⟩
theorem wE_neg (h : wE X W a G C fun d C1 => ∃ i, d = .int i ∧ k (.int (-i)) C1) : wE X W (.UnaryOp .USub a pos) G C k :=
  wE_of (pe_un un_neg pe_sem) fun σ P H Q g z => h σ P H _ g fun d C1 v P1 H1 n1 r1 h1 => by
    obtain ⟨t, rfl, h1⟩ := h1
    cases r1
    exact ⟨t, rfl, z _ C1 _ P1 H1 n1 (.int (-t)) h1⟩
variable {rest : List Expr}
theorem wB_and1 (h : wT X W a G C kb) : wB X W (.BoolOp .And [a] pos) G C kb := wB_of (pw_and1 pt_sem) fun σ P H Q g z => h σ P H Q g z
theorem wB_or1 (h : wT X W a G C kb) : wB X W (.BoolOp .Or [a] pos) G C kb := wB_of (pw_or1 pt_sem) fun σ P H Q g z => h σ P H Q g z
theorem wB_and (h : wT X W a G C fun t C1 => (t = true → wB X W (.BoolOp .And (b :: rest) pos) G C1 kb) ∧ (t = false → kb false C1)) : wB X W (.BoolOp .And (a :: b :: rest) pos) G C kb :=
  wB_of (pw_and pt_sem pw_sem) fun σ P H Q g z => h σ P H _ g fun t C1 P1 H1 n1 h1 => by
    cases t with
    | true => exact h1.1 rfl σ P1 H1 Q n1.good fun b C2 P2 H2 n2 => z b C2 P2 H2 (n1.tr n2)
    | false => exact z false C1 P1 H1 n1 (h1.2 rfl)
theorem wB_or (h : wT X W a G C fun t C1 => (t = true → kb true C1) ∧ (t = false → wB X W (.BoolOp .Or (b :: rest) pos) G C1 kb)) : wB X W (.BoolOp .Or (a :: b :: rest) pos) G C kb :=
  wB_of (pw_or pt_sem pw_sem) fun σ P H Q g z => h σ P H _ g fun t C1 P1 H1 n1 h1 => by
    cases t with
    | true => exact z true C1 P1 H1 n1 (h1.1 rfl)
    | false => exact h1.2 rfl σ P1 H1 Q n1.good fun b C2 P2 H2 n2 => z b C2 P2 H2 (n1.tr n2)
/-- .. without changing objects: the answer is p and q -/
theorem wB_andP {p q : Bool} (ha : wT X W a G C fun t C1 => t = p ∧ C1 = C) (hb : p = true → wB X W (.BoolOp .And (b :: rest) pos) G C fun t C1 => t = q ∧ C1 = C) (z : kb (p && q) C) : wB X W (.BoolOp .And (a :: b :: rest) pos) G C kb := by
  refine wB_and (ha.mono fun t C1 e => ?_)
  obtain ⟨rfl, rfl⟩ := e
  refine ⟨fun e => ?_, fun e => ?_⟩
  · refine wB_v (hb e) ?_
    rw [e] at z; exact z
  · rw [e] at z; exact z
theorem wB_orP {p q : Bool} (ha : wT X W a G C fun t C1 => t = p ∧ C1 = C) (hb : p = false → wB X W (.BoolOp .Or (b :: rest) pos) G C fun t C1 => t = q ∧ C1 = C) (z : kb (p || q) C) : wB X W (.BoolOp .Or (a :: b :: rest) pos) G C kb := by
  refine wB_or (ha.mono fun t C1 e => ?_)
  obtain ⟨rfl, rfl⟩ := e
  refine ⟨fun e => ?_, fun e => ?_⟩
  · rw [e] at z; exact z
  · refine wB_v (hb e) ?_
    rw [e] at z; exact z
theorem wE_one {op : BoolOp} (h : wE X W a G C k) : wE X W (.BoolOp op [a] pos) G C k := wE_of (pe_one pe_sem) fun σ P H Q g z => h σ P H Q g z
theorem wE_and (h : wE X W a G C fun d C1 => ∃ t, d = .bl t ∧ (t = true → wE X W (.BoolOp .And (b :: rest) pos) G C1 k) ∧ (t = false → k (.bl false) C1)) : wE X W (.BoolOp .And (a :: b :: rest) pos) G C k :=
  wE_of (pe_and pe_sem pe_sem) fun σ P H Q g z => h σ P H _ g fun d C1 v P1 H1 n1 r1 h1 => by
    obtain ⟨t, rfl, h1, h2⟩ := h1
    cases r1
    refine ⟨t, rfl, ?_⟩
    cases t with
    | true => exact h1 rfl σ P1 H1 Q n1.good fun d C2 v P2 H2 n2 => z d C2 v P2 H2 (n1.tr n2)
    | false => exact z _ C1 _ P1 H1 n1 (.bl false) (h2 rfl)
theorem wE_or (h : wE X W a G C fun d C1 => ∃ t, d = .bl t ∧ (t = true → k (.bl true) C1) ∧ (t = false → wE X W (.BoolOp .Or (b :: rest) pos) G C1 k)) : wE X W (.BoolOp .Or (a :: b :: rest) pos) G C k :=
  wE_of (pe_or pe_sem pe_sem) fun σ P H Q g z => h σ P H _ g fun d C1 v P1 H1 n1 r1 h1 => by
    obtain ⟨t, rfl, h1, h2⟩ := h1
    cases r1
    refine ⟨t, rfl, ?_⟩
    cases t with
    | true => exact z _ C1 _ P1 H1 n1 (.bl true) (h1 rfl)
    | false => exact h2 rfl σ P1 H1 Q n1.good fun d C2 v P2 H2 n2 => z d C2 v P2 H2 (n1.tr n2)
theorem wE_andP {p q : Bool} (ha : wE X W a G C fun d C1 => d = .bl p ∧ C1 = C) (hb : p = true → wE X W (.BoolOp .And (b :: rest) pos) G C fun d C1 => d = .bl q ∧ C1 = C) (z : k (.bl (p && q)) C) : wE X W (.BoolOp .And (a :: b :: rest) pos) G C k := by
  refine wE_and (ha.mono fun d C1 e => ?_)
  obtain ⟨rfl, rfl⟩ := e
  refine ⟨p, rfl, fun e => ?_, fun e => ?_⟩
  · refine wE_v (hb e) ?_
    rw [e] at z; exact z
  · rw [e] at z; exact z
theorem wE_orP {p q : Bool} (ha : wE X W a G C fun d C1 => d = .bl p ∧ C1 = C) (hb : p = false → wE X W (.BoolOp .Or (b :: rest) pos) G C fun d C1 => d = .bl q ∧ C1 = C) (z : k (.bl (p || q)) C) : wE X W (.BoolOp .Or (a :: b :: rest) pos) G C k := by
  refine wE_or (ha.mono fun d C1 e => ?_)
  obtain ⟨rfl, rfl⟩ := e
  refine ⟨p, rfl, fun e => ?_, fun e => ?_⟩
  · rw [e] at z; exact z
  · refine wE_v (hb e) ?_
    rw [e] at z; exact z
/-- a if c else b -/
theorem wE_if (h : wT X W c G C fun t C1 => (t = true → wE X W a G C1 k) ∧ (t = false → wE X W b G C1 k)) : wE X W (.IfExp c a b pos) G C k :=
  wE_of (pe_ifExp pt_sem pe_sem pe_sem) fun σ P H Q g z => h σ P H _ g fun t C1 P1 H1 n1 h1 => by
    cases t with
    | true => exact h1.1 rfl σ P1 H1 Q n1.good fun d C2 v P2 H2 n2 => z d C2 v P2 H2 (n1.tr n2)
    | false => exact h1.2 rfl σ P1 H1 Q n1.good fun d C2 v P2 H2 n2 => z d C2 v P2 H2 (n1.tr n2)

/-! arguments, displays -/
variable {es : List Expr} {ka : KDs}
theorem wA_nil (q : ka [] C) : wA X W [] G C ka := fun σ P H Q g z pos pins s I => (pa_nil (X := X)).run pos pins s σ H Q I (z [] C [] P H g.refl .nil q)
theorem wA_cons (h : wE X W e G C fun d C1 => wA X W es G C1 fun ds C2 => ka (d :: ds) C2) (hs : starEach (e :: es) X.env = (false, eval e X.env) :: starEach es X.env := by rfl) : wA X W (e :: es) G C ka :=
  fun σ P H Q g z pos pins s I => (pa_cons pe_sem pa_sem hs).run pos pins s σ H Q I (h σ P H _ g fun d C1 v P1 H1 n1 r1 h1 => h1 σ P1 H1 _ n1.good fun ds C2 vs P2 H2 n2 r2 h2 => z (d :: ds) C2 (v :: vs) P2 H2 (n1.tr n2) (.cons (r1.ex' n2.ex) r2) h2)
theorem wA_v {ds : List D} (h : wA X W es G C fun d' C' => d' = ds ∧ C' = C) (q : ka ds C) : wA X W es G C ka := fun σ P H Q g z => h σ P H Q g fun d C' v P' H' n r e => by obtain ⟨rfl, rfl⟩ := e; exact z _ _ v P' H' n r q
theorem small_le {n : Nat} (h : n ≤ 100000) : n ≤ sizeLine := Nat.le_trans h (by decide)
theorem small_lt {n : Nat} (h : n < 100000) : n < sizeLine := Nat.lt_of_lt_of_le h (by decide)
/-- displays that stay as they are -/
theorem wE_tup {kx : Nat} (h : wA X W es G C fun ds C1 => ds.length ≤ 100000 ∧ k (.tup ds) C1) : wE X W (.Tuple es kx pos) G C k :=
  wE_of (pe_tup pa_sem) fun σ P H Q g z => h σ P H _ g fun ds C1 vs P1 H1 n1 r1 h1 =>
    ⟨by rw [r1.len]; exact small_le h1.1, fun p np =>
      have n2 := n1.good.new (o := .tup vs) np
      z _ C1 (.ref p) _ _ (n1.tr n2) (.tup upd_same (r1.ex' n2.ex)) h1.2⟩
theorem wE_lst (h : wA X W es G C fun ds C1 => ds.length ≤ 100000 ∧ k (.lst ds) C1) : wE X W (.List es pos) G C k :=
  wE_of (pe_lst pa_sem) fun σ P H Q g z => h σ P H _ g fun ds C1 vs P1 H1 n1 r1 h1 =>
    ⟨by rw [r1.len]; exact small_le h1.1, fun p np =>
      have n2 := n1.good.new (o := .lst vs) np
      z _ C1 (.ref p) _ _ (n1.tr n2) (.lst upd_same (r1.ex' n2.ex)) h1.2⟩
/-- a list that may change -/
theorem wE_lstC (h : wA X W es G C fun ds C1 => ds.length ≤ 100000 ∧ ∀ p, k (.ref p) (C1 ++ [(p, .lst ds)])) : wE X W (.List es pos) G C k :=
  wE_of (pe_lst pa_sem) fun σ P H Q g z => h σ P H _ g fun ds C1 vs P1 H1 n1 r1 h1 =>
    ⟨by rw [r1.len]; exact small_le h1.1, fun p np =>
      z _ _ (.ref p) P1 _ ⟨n1.ex, n1.good.newCell (c := .lst ds) np ⟨vs, rfl, r1⟩⟩ (.ref p) (h1.2 p)⟩
theorem wE_dctC (h : ∀ p, k (.ref p) (C ++ [(p, .dct [] [])])) : wE X W (.Dict [] [] pos) G C k :=
  wE_of pe_dnewK fun σ P H Q g z p np => z _ _ (.ref p) P _ ⟨Ex.rfl' P, g.newCell (c := .dct [] []) np ⟨[], rfl, rfl, .nil⟩⟩ (.ref p) (h p)
/-- a new thing is locked for good -/
theorem pe_lk {e : Expr} {t : TE} (h : PE X e t) : PE X e (fun σ H Q => t σ H fun x H1 => ∃ d u, x = .ref d ∧ H1 d = some u ∧ L2.Mut (some u) ∧ ∀ od, Q x (upd H1 d (.frz od u))) := ⟨fun pins s σ H Q I hw => thn (h.run pins s σ H _ I hw) fun v s1 ⟨x, H1, I1, r, d, u, ex, hd, mu, q⟩ => by
  obtain ⟨od, I2⟩ := I1.lock hd mu
  exact ⟨x, _, I2, r, q od⟩⟩
theorem cr_lk {f : Value} {r : List V → Hp → VK → Prop} (h : CallR X f r) : CallR X f (fun xs H Q => r xs H fun x H1 => ∃ d u, x = .ref d ∧ H1 d = some u ∧ L2.Mut (some u) ∧ ∀ od, Q x (upd H1 d (.frz od u))) := fun pins s σ H xs us Q I rs hw =>
  thn (h pins s σ H xs us _ I rs hw) fun v s1 ⟨x, H1, I1, r, d, u, ex, hd, mu, q⟩ => by
    obtain ⟨od, I2⟩ := I1.lock hd mu
    exact ⟨x, _, I2, r, q od⟩
theorem wE_dct0 (h : k (.dct [] []) C) : wE X W (.Dict [] [] pos) G C k :=
  wE_of (pe_lk pe_dnewK) fun σ P H Q g z p np => ⟨p, _, rfl, upd_same, trivial, fun od => by
    rw [upd_upd]
    have n2 := g.new (o := .frz od (.dK [])) np
    exact z _ C (.ref p) _ _ n2 (.dct (ks := []) (vs := []) upd_same rfl .nil) h⟩

/-! subscripts -/
def semX (X : Cx) : R2 := fun x y H Q => ∀ (value slice : Expr) (pins : List (Addr × Obj)) (s : Shared) (σ : L2.St) (u v : Value), Inv X pins σ H s → RelV x u → RelV y v → subscripted slice false u v = operate [u, v] (getItem u v) →
  wpAny (model X.prog X.w) X.A (subscriptTail value slice u v) (EP X pins σ Q) X.xe s
/-- x[i] by values -/
def xD (X : Cx) (W : Wd) (x y : D) (G : List (Option D)) (C : Cells) (k : KD) : Prop :=
  ∀ (σ : L2.St) (P H : Hp) (Q : VK) (v u : V), Good X.K W G C σ P H → Rep X.K P v x → Rep X.K P u y → (∀ d C' z P' H', Next X.K W G C' σ P P' H' → Rep X.K P' z d → k d C' → Q z H') → semX X v u H Q
theorem wE_ix (h : wE X W a G C fun x C1 => wE X W b G C1 fun y C2 => xD X W x y G C2 k) (hs : PlainIx b := by exact fun _ _ => rfl) : wE X W (.Subscript a b pos) G C k :=
  wE_of (pe_ix (r := semX X) (fun value slice pins s σ H x y v u Q I rx ry h hs => h value slice pins s σ v u I rx ry hs) pe_sem pe_sem hs) fun σ P H Q g z =>
    h σ P H _ g fun x C1 v P1 H1 n1 r1 h1 => h1 σ P1 H1 _ n1.good fun y C2 u P2 H2 n2 r2 h2 => h2 σ P2 H2 Q v u n2.good (r1.ex' n2.ex) r2 fun d C3 w P3 H3 n3 => z d C3 w P3 H3 (n1.tr (n2.tr n3))
theorem xD_of {r : R2} {x y : D} (h : IxR X r) (hr : ∀ σ P H (Q : VK) v u, Good X.K W G C σ P H → Rep X.K P v x → Rep X.K P u y → (∀ d C' z P' H', Next X.K W G C' σ P P' H' → Rep X.K P' z d → k d C' → Q z H') → r v u H Q) : xD X W x y G C k :=
  fun σ P H Q v u g r1 r2 z value slice pins s σ' u' v' I rx ry hs => h value slice pins s σ' H v u u' v' Q I rx ry (hr σ P H Q v u g r1 r2 z) hs
theorem oD_of {f : Value → Value → Sem Value} {r : R2} {x y : D} (h : OpR X f r) (hr : ∀ σ P H (Q : VK) v u, Good X.K W G C σ P H → Rep X.K P v x → Rep X.K P u y → (∀ d C' z P' H', Next X.K W G C' σ P P' H' → Rep X.K P' z d → k d C' → Q z H') → r v u H Q) : oD X W f x y G C k :=
  fun σ P H Q v u g r1 r2 z pins s σ' u' v' I rx ry => h pins s σ' H v u u' v' Q I rx ry (hr σ P H Q v u g r1 r2 z)
theorem cD_of {f : Value} {r : List V → Hp → VK → Prop} {ds : List D} (h : CallR X f r) (hr : ∀ σ P H (Q : VK) vs, Good X.K W G C σ P H → Reps X.K P vs ds → (∀ d C' z P' H', Next X.K W G C' σ P P' H' → Rep X.K P' z d → k d C' → Q z H') → r vs H Q) : cD X W f ds G C k :=
  fun σ P H Q vs g r1 z pins s σ' us I rs => h pins s σ' H vs us Q I rs (hr σ P H Q vs g r1 z)
theorem atI_reps {K : PySem.W.Frag} {P : Hp} {ds : List D} {vs : List V} {i : Int} {d : D} (r : Reps K P vs ds) (h : atI ds i = some d) : ∃ v, atI vs i = some v ∧ Rep K P v d := by
  unfold atI at h ⊢
  rw [r.len]
  cases e : ixN ds.length i with
  | none => rw [e] at h; cases h
  | some j =>
    rw [e] at h
    obtain ⟨v, h1, h2⟩ := r.get (i := j) (d := d) (by simpa using h)
    exact ⟨v, by simpa using h1, h2⟩
theorem xD_lst {ds : List D} {i : Int} {d : D} (h : atI ds i = some d) (q : k d C) : xD X W (.lst ds) (.int i) G C k :=
  xD_of ix_list fun σ P H Q v u g r1 r2 z => by
    cases r1 with
    | lst hs rs =>
      cases r2
      obtain ⟨v, h1, h2⟩ := atI_reps rs h
      exact ⟨_, _, i, v, rfl, rfl, .inl (.inl (le_lst g.le hs)), h1, z d C v P H g.refl h2 q⟩
theorem xD_scr {ds : List D} {i : Int} {d : D} (h : atI ds i = some d) (q : k d C) : xD X W (.scr ds) (.int i) G C k :=
  xD_of ix_list fun σ P H Q v u g r1 r2 z => by
    cases r1 with
    | scr hs rs =>
      cases r2
      obtain ⟨v, h1, h2⟩ := atI_reps rs h
      exact ⟨_, _, i, v, rfl, rfl, le_sqL g.le hs, h1, z d C v P H g.refl h2 q⟩
theorem xD_tup {ds : List D} {i : Int} {d : D} (h : atI ds i = some d) (q : k d C) : xD X W (.tup ds) (.int i) G C k :=
  xD_of ix_tup fun σ P H Q v u g r1 r2 z => by
    cases r1 with
    | tup hs rs =>
      cases r2
      obtain ⟨v, h1, h2⟩ := atI_reps rs h
      exact ⟨_, _, i, v, rfl, rfl, .inl (.inl (le_tup g.le hs)), h1, z d C v P H g.refl h2 q⟩
theorem xD_str {x : Str} {i : Int} {c : Nat} (hl : x.length ≤ 100000) (h : atI x.cps.toList i = some c) (q : k (.str ⟨#[c]⟩) C) : xD X W (.str x) (.int i) G C k :=
  xD_of ix_str fun σ P H Q v u g r1 r2 z => by
    cases r1; cases r2
    exact ⟨x, i, c, rfl, rfl, small_le hl, h, z _ C _ P H g.refl (.str _) q⟩
/-- of a list that may change -/
theorem xD_cell (j : Nat) {a : Addr} {ds : List D} {i : Int} {d : D} (hc : C[j]? = some (a, .lst ds)) (h : atI ds i = some d) (q : k d C) : xD X W (.ref a) (.int i) G C k :=
  xD_of ix_list fun σ P H Q v u g r1 r2 z => by
    cases r1; cases r2
    obtain ⟨o, ho, vs, rfl, rs⟩ := g.cell hc
    obtain ⟨v, h1, h2⟩ := atI_reps rs h
    exact ⟨_, _, i, v, rfl, rfl, .inl (.inl ho), h1, z d C v P H g.refl h2 q⟩

/-! operations -/
section ops
variable {i j : Int}
theorem o_add (q : k (.int (i + j)) C) : oD X W (binaryOp .Add) (.int i) (.int j) G C k := oD_of op_add fun σ P H Q v u g r1 r2 z => by cases r1; cases r2; exact ⟨i, j, rfl, rfl, z _ C _ P H g.refl (.int _) q⟩
theorem o_sub (q : k (.int (i - j)) C) : oD X W (binaryOp .Sub) (.int i) (.int j) G C k := oD_of op_sub fun σ P H Q v u g r1 r2 z => by cases r1; cases r2; exact ⟨i, j, rfl, rfl, z _ C _ P H g.refl (.int _) q⟩
theorem o_mul (hc : CMul i j) (q : k (.int (i * j)) C) : oD X W (binaryOp .Mult) (.int i) (.int j) G C k := oD_of op_mul fun σ P H Q v u g r1 r2 z => by cases r1; cases r2; exact ⟨i, j, rfl, rfl, hc, z _ C _ P H g.refl (.int _) q⟩
theorem o_fdiv (hc : 0 < j ∧ j < 1073741824) (q : k (.int (i / j)) C) : oD X W (binaryOp .FloorDiv) (.int i) (.int j) G C k := oD_of op_fdiv fun σ P H Q v u g r1 r2 z => by cases r1; cases r2; exact ⟨i, j, rfl, rfl, hc, z _ C _ P H g.refl (.int _) q⟩
theorem o_mod (hc : 0 < j) (q : k (.int (i % j)) C) : oD X W (binaryOp .Mod) (.int i) (.int j) G C k := oD_of op_mod fun σ P H Q v u g r1 r2 z => by cases r1; cases r2; exact ⟨i, j, rfl, rfl, hc, z _ C _ P H g.refl (.int _) q⟩
theorem o_pow (hc : 0 ≤ j ∧ j ≤ 1000000 ∧ i.natAbs < 2 ^ 64) (q : k (.int (i ^ j.toNat)) C) : oD X W (binaryOp .Pow) (.int i) (.int j) G C k := oD_of op_pow fun σ P H Q v u g r1 r2 z => by cases r1; cases r2; exact ⟨i, j, rfl, rfl, hc, z _ C _ P H g.refl (.int _) q⟩
theorem o_lt (q : k (.bl (decide (i < j))) C) : oD X W (compareOp .Lt) (.int i) (.int j) G C k := oD_of op_lt fun σ P H Q v u g r1 r2 z => by cases r1; cases r2; exact ⟨i, j, rfl, rfl, z _ C _ P H g.refl (.bl _) q⟩
theorem o_le (q : k (.bl (decide (i ≤ j))) C) : oD X W (compareOp .LtE) (.int i) (.int j) G C k := oD_of op_le fun σ P H Q v u g r1 r2 z => by cases r1; cases r2; exact ⟨i, j, rfl, rfl, z _ C _ P H g.refl (.bl _) q⟩
theorem o_gt (q : k (.bl (decide (j < i))) C) : oD X W (compareOp .Gt) (.int i) (.int j) G C k := oD_of op_gt fun σ P H Q v u g r1 r2 z => by cases r1; cases r2; exact ⟨i, j, rfl, rfl, z _ C _ P H g.refl (.bl _) q⟩
theorem o_ge (q : k (.bl (decide (j ≤ i))) C) : oD X W (compareOp .GtE) (.int i) (.int j) G C k := oD_of op_ge fun σ P H Q v u g r1 r2 z => by cases r1; cases r2; exact ⟨i, j, rfl, rfl, z _ C _ P H g.refl (.bl _) q⟩
theorem dec_V {α : Type} {f : α → V} (hf : ∀ a b, f a = f b → a = b) [DecidableEq α] (a b : α) : decide (f a = f b) = decide (a = b) := by
  by_cases e : a = b
  · subst e; simp
  · rw [decide_eq_false e, decide_eq_false fun z => e (hf a b z)]
theorem o_eqI (q : k (.bl (decide (i = j))) C) : oD X W (compareOp .Eq) (.int i) (.int j) G C k := oD_of op_eq fun σ P H Q v u g r1 r2 z => by
  cases r1; cases r2
  refine ⟨rfl, z _ C _ P H g.refl (.bl _) ?_⟩
  rw [dec_V (f := V.int) (fun a b e => by injection e)]; exact q
theorem o_neI (q : k (.bl (!decide (i = j))) C) : oD X W (compareOp .NotEq) (.int i) (.int j) G C k := oD_of op_ne fun σ P H Q v u g r1 r2 z => by
  cases r1; cases r2
  refine ⟨rfl, z _ C _ P H g.refl (.bl _) ?_⟩
  rw [dec_V (f := V.int) (fun a b e => by injection e)]; exact q
theorem o_eqS {x y : Str} (q : k (.bl (decide (x = y))) C) : oD X W (compareOp .Eq) (.str x) (.str y) G C k := oD_of op_eq fun σ P H Q v u g r1 r2 z => by
  cases r1; cases r2
  refine ⟨rfl, z _ C _ P H g.refl (.bl _) ?_⟩
  rw [dec_V (f := V.str) (fun a b e => by injection e)]; exact q
theorem o_neS {x y : Str} (q : k (.bl (!decide (x = y))) C) : oD X W (compareOp .NotEq) (.str x) (.str y) G C k := oD_of op_ne fun σ P H Q v u g r1 r2 z => by
  cases r1; cases r2
  refine ⟨rfl, z _ C _ P H g.refl (.bl _) ?_⟩
  rw [dec_V (f := V.str) (fun a b e => by injection e)]; exact q
/-- texts glued -/
theorem o_addS {x y : Str} (hl : x.length + y.length ≤ 100000) (q : k (.str (x ++ y)) C) : oD X W (binaryOp .Add) (.str x) (.str y) G C k := oD_of op_add_str fun σ P H Q v u g r1 r2 z => by
  cases r1; cases r2; exact ⟨x, y, rfl, rfl, small_le hl, z _ C _ P H g.refl (.str _) q⟩
/-- one sign in a text -/
theorem o_inS {c : Nat} {y : Str} (q : k (.bl (decide (c ∈ y.cps.toList))) C) : oD X W (compareOp .In) (.str ⟨#[c]⟩) (.str y) G C k := oD_of op_in_sign fun σ P H Q v u g r1 r2 z => by
  cases r1; cases r2; exact ⟨c, y, rfl, rfl, z _ C _ P H g.refl (.bl _) q⟩
theorem o_niS {c : Nat} {y : Str} (q : k (.bl (!decide (c ∈ y.cps.toList))) C) : oD X W (compareOp .NotIn) (.str ⟨#[c]⟩) (.str y) G C k := oD_of op_notIn_sign fun σ P H Q v u g r1 r2 z => by
  cases r1; cases r2; exact ⟨c, y, rfl, rfl, z _ C _ P H g.refl (.bl _) q⟩
/-- what is None -/
def isNon : D → Bool
  | .non => true
  | _ => false
theorem rep_non {K : PySem.W.Frag} {P : Hp} {v : V} : ∀ {d : D}, Rep K P v d → decide (v = .non) = isNon d := fun {d} r => by
  cases r <;> first | rfl | simp [isNon]
theorem o_isN {x : D} (q : k (.bl (isNon x)) C) : oD X W (compareOp .Is) x .non G C k := oD_of op_isN fun σ P H Q v u g r1 r2 z => by
  cases r2; exact ⟨rfl, by rw [rep_non r1]; exact z _ C _ P H g.refl (.bl _) q⟩
theorem o_notN {x : D} (q : k (.bl (!isNon x)) C) : oD X W (compareOp .IsNot) x .non G C k := oD_of op_notN fun σ P H Q v u g r1 r2 z => by
  cases r2; exact ⟨rfl, by rw [rep_non r1]; exact z _ C _ P H g.refl (.bl _) q⟩
/-- lists glued: a new list -/
theorem o_cat {xs ys : List D} (hl : xs.length + ys.length ≤ 100000) (q : k (.lst (xs ++ ys)) C) : oD X W (binaryOp .Add) (.lst xs) (.lst ys) G C k := oD_of op_cat fun σ P H Q v u g r1 r2 z => by
  cases r1 with
  | @lst a1 vs1 _ h1 s1 =>
    cases r2 with
    | @lst a2 vs2 _ h2 s2 =>
      refine ⟨_, _, vs1, vs2, rfl, rfl, le_lst g.le h1, le_lst g.le h2, by rw [s1.len, s2.len]; exact small_le hl, fun p np => ?_⟩
      have n := g.new (o := .lst (vs1 ++ vs2)) np
      exact z _ C (.ref p) _ _ n (.lst upd_same ((s1.app s2).ex' n.ex)) q
/-- tuples glued, the left one not empty -/
theorem o_catT {x : D} {xs ys : List D} (hl : (x :: xs).length + ys.length ≤ 100000) (q : k (.tup (x :: xs ++ ys)) C) : oD X W (binaryOp .Add) (.tup (x :: xs)) (.tup ys) G C k := oD_of op_catT fun σ P H Q v u g r1 r2 z => by
  cases r1 with
  | @tup a1 vs1 _ h1 s1 =>
    cases r2 with
    | @tup a2 vs2 _ h2 s2 =>
      refine ⟨_, _, vs1, vs2, rfl, rfl, .inl (.inl (le_tup g.le h1)), .inl (.inl (le_tup g.le h2)), (by cases s1; simp), by rw [s1.len, s2.len]; exact small_le hl, fun e => ?_, fun e p np => ?_⟩
      · subst e
        cases s2
        rw [List.append_nil] at q
        exact z _ C _ P H g.refl (.tup h1 s1) q
      · have n := g.new (o := .tup (vs1 ++ vs2)) np
        exact z _ C (.ref p) _ _ n (.tup upd_same ((s1.app s2).ex' n.ex)) q
end ops
end
end EW

namespace EW
open PySem PySem.Spec PyProof.Rows L2

section
variable {X : Cx} {W : Wd} {G : List (Option D)} {C : Cells} {k : KD} {kb : KB} {E E' : DE} {e a b c : Expr} {pos : Pos} {st : Stmt} {sts : List Stmt}

/-! ### statements -/
theorem wS_of {t : TS} (h : PS X st t) (r : ∀ σ P H (T : Ends), Good X.K W G C σ P H → Fits X W P E T → t T σ H) : wS X W st G C E := fun σ P H T g f pins s I => h.run pins s σ H T I (r σ P H T g f)
theorem wSs_nil (q : E.nx G C) : wSs X W [] G C E := fun σ P H T g f pins s I => (pss_nil (X := X)).run pins s σ H T I (f.nx G C σ P H g.refl q)
theorem wSs_cons (h : wS X W st G C { E with nx := fun G' C' => wSs X W sts G' C' E }) : wSs X W (st :: sts) G C E := fun σ P H T g f pins s I =>
  (pss_cons ps_sem pss_sem).run pins s σ H T I (h σ P H { T with nx := semSs X sts T } g ⟨fun G' C' σ' P' H' n q => q σ' P' H' T n.good (f.mono n.ex), f.rt, f.bk, f.ct⟩)
theorem wSs.mono (h : wSs X W sts G C E) (m : ∀ G C, E.nx G C → E'.nx G C) (mr : ∀ d C, E.rt d C → E'.rt d C) (mb : ∀ G C, E.bk G C → E'.bk G C) (mc : ∀ G C, E.ct G C → E'.ct G C) : wSs X W sts G C E' := fun σ P H T g f =>
  h σ P H T g ⟨fun G' C' σ' P' H' n q => f.nx G' C' σ' P' H' n (m _ _ q), fun d C' v P' H' n r q => f.rt d C' v P' H' n r (mr _ _ q), fun G' C' σ' P' H' n q => f.bk G' C' σ' P' H' n (mb _ _ q), fun G' C' σ' P' H' n q => f.ct G' C' σ' P' H' n (mc _ _ q)⟩
/-- what follows is shown from a word -/
theorem wSs_cut (M : List (Option D) → Cells → Prop) (h : wS X W st G C { E with nx := M }) (r : ∀ G' C', M G' C' → wSs X W sts G' C' E) : wSs X W (st :: sts) G C E :=
  wSs_cons fun σ P H T g f => h σ P H T g ⟨fun G' C' σ' P' H' n q => f.nx G' C' σ' P' H' n (r _ _ q), f.rt, f.bk, f.ct⟩
theorem wS_asg {tg : Expr} (h : wE X W e G C fun d C1 => wG X W tg d G C1 E.nx) (hs : swapsWithSole [tg] e pos.line X.env = pure false := by rfl) (hw : swappedStores [tg] e X.env = pure none := by rfl)
    (h1 : (assignEach [tg] X.env).map (·.2) = [assign tg X.env] := by rfl) : wS X W (.Assign [tg] e pos) G C E :=
  wS_of (ps_asg pe_sem pg_sem hs hw h1) fun σ P H T g f => h σ P H _ g fun d C1 v P1 H1 n1 r1 q => q σ P1 H1 _ v n1.good r1 fun G' C' σ' P' H' n => f.nx G' C' σ' P' H' (n1.tr n)
/-- name = e -/
theorem wS_set (i : Nat) {x : Str} {p' : Pos} (h : wE X W e G C fun d C1 => E.nx (G.set i (some d)) C1) (nd : X.N.Nodup) (hi : X.N[i]? = some x := by rfl) (hx : Loc X.env.scope x := by first | exact Or.inl rfl | exact Or.inr rfl)
    (hs : swapsWith e (some (.Name x p')) pos.line X.env = pure false := by rfl) (hf : X.fn x = true ∨ X.env.scope.names.lookup x = some .local := by first | exact .inl rfl | exact .inr rfl) : wS X W (.Assign [.Name x p'] e pos) G C E :=
  wS_of (ps_set nd hi hx pe_sem hs hf) fun σ P H T g f => h σ P H _ g fun d C1 v P1 H1 n1 r1 q => f.nx _ C1 _ P1 H1 ⟨n1.ex, n1.good.slot r1⟩ q
theorem wG_nm (i : Nat) {x : Str} {d : D} {kg : List (Option D) → Cells → Prop} (q : kg (G.set i (some d)) C) (nd : X.N.Nodup) (hi : X.N[i]? = some x := by rfl) (hx : Loc X.env.scope x := by first | exact Or.inl rfl | exact Or.inr rfl)
    (hf : X.fn x = true ∨ X.env.scope.names.lookup x = some .local := by first | exact .inl rfl | exact .inr rfl) : wG X W (.Name x pos) d G C kg := fun σ P H Q v g r z pins s u I rv =>
  (pg_name nd hi hx hf).run pins s σ H v u Q I rv (z _ C _ P H ⟨Ex.rfl' P, g.slot r⟩ q)
/-- several targets, the values one by one -/
def semGs (X : Cx) (ts : List Expr) : TGs := fun vs σ H Q => ∀ (pins : List (Addr × Obj)) (s : Shared) (us : List Value), Inv X pins σ H s → Vals vs us →
  wpAny (model X.prog X.w) X.A (assignInOrder ((assignEach ts X.env).map (·.2)) us) (fun _ s' => ∃ σ' H', Inv X pins σ' H' s' ∧ Q σ' H') X.xe s
theorem pgs_sem {ts : List Expr} : PGs X ts (semGs X ts) := ⟨fun pins s _ _ _ us _ I r h => h pins s us I r⟩
def wTs (X : Cx) (W : Wd) (ts : List Expr) (ds : List D) (G : List (Option D)) (C : Cells) (kg : List (Option D) → Cells → Prop) : Prop :=
  ∀ (σ : L2.St) (P H : Hp) (Q : L2.St → Hp → Prop) (vs : List V), Good X.K W G C σ P H → Reps X.K P vs ds → (∀ G' C' σ' P' H', Next X.K W G' C' σ' P P' H' → kg G' C' → Q σ' H') → semGs X ts vs σ H Q
theorem wTs_nil {kg : List (Option D) → Cells → Prop} (q : kg G C) : wTs X W [] [] G C kg := fun σ P H Q vs g r z pins s us I rv => (pgs_nil (X := X)).run pins s σ H vs us Q I rv ⟨by cases r; rfl, z G C σ P H g.refl q⟩
theorem wTs_cons {t : Expr} {ts : List Expr} {d : D} {ds : List D} {kg : List (Option D) → Cells → Prop} (h : wG X W t d G C fun G1 C1 => wTs X W ts ds G1 C1 kg)
    (hs : (assignEach (t :: ts) X.env).map (·.2) = assign t X.env :: (assignEach ts X.env).map (·.2) := by rfl) : wTs X W (t :: ts) (d :: ds) G C kg := fun σ P H Q vs g r z pins s us I rv =>
  (pgs_cons pg_sem pgs_sem hs).run pins s σ H vs us Q I rv (by
    cases r with
    | cons r1 r2 => exact ⟨_, _, rfl, h σ P H _ _ g r1 fun G1 C1 σ1 P1 H1 n1 q => q σ1 P1 H1 Q _ n1.good (r2.ex' n1.ex) fun G' C' σ' P' H' n => z G' C' σ' P' H' (n1.tr n)⟩)
theorem wG_tup {ts : List Expr} {kx : Nat} {ds : List D} {kg : List (Option D) → Cells → Prop} (h : wTs X W ts ds G C kg) (hl : ds.length = ts.length) (hc : X.calm = true)
    (hn : (assignEach ts X.env).length = ts.length := by rfl) (hst : (assignEach ts X.env).findIdx? (·.1) = none := by rfl) : wG X W (.Tuple ts kx pos) (.tup ds) G C kg := fun σ P H Q v g r z pins s u I rv =>
  (pg_tup hc pgs_sem hn hst).run pins s σ H v u Q I rv (by
    cases r with
    | @tup a vs _ h1 rs => exact ⟨a, vs, rfl, .inl (.inl (le_tup g.le h1)), by rw [rs.len, hl], h σ P H Q vs g rs z⟩)
theorem wS_expr (h : wE X W e G C fun _ C1 => E.nx G C1) (hs : swapsWith e none pos.line X.env = pure false := by rfl) : wS X W (.Expr e pos) G C E :=
  wS_of (ps_expr pe_sem hs) fun σ P H T g f => h σ P H _ g fun d C1 v P1 H1 n1 r1 q => f.nx G C1 σ P1 H1 n1 q
theorem wS_doc {x : Str} {j : Nat} {p' : Pos} (q : E.nx G C) : wS X W (.Expr (.Constant (.str x) j p') pos) G C E := wS_of ps_doc fun σ P H T g f => f.nx G C σ P H g.refl q
theorem Next.nil {K : PySem.W.Frag} {σ : L2.St} {P P' H' : Hp} (n : Next K W G C σ P P' H') : Next K W [] C [] P P' H' := ⟨n.ex, n.good.nil⟩
theorem wS_ret (h : wE X W e G C E.rt) : wS X W (.Return (some e) pos) G C E :=
  wS_of (ps_ret pe_sem) fun σ P H T g f => h σ P H _ g fun d C1 v P1 H1 n1 r1 q => f.rt d C1 v P1 H1 n1.nil r1 q
theorem wS_retN (q : E.rt .non C) : wS X W (.Return none pos) G C E := wS_of ps_retN fun σ P H T g f => f.rt .non C .non P H g.refl.nil .non q
theorem wS_pass (q : E.nx G C) : wS X W (.Pass pos) G C E := wS_of ps_pass fun σ P H T g f => f.nx G C σ P H g.refl q
theorem wS_break (q : E.bk G C) : wS X W (.Break pos) G C E := wS_of ps_break fun σ P H T g f => f.bk G C σ P H g.refl q
theorem wS_if {as bs : List Stmt} (h : wT X W c G C fun t C1 => (t = true → wSs X W as G C1 E) ∧ (t = false → wSs X W bs G C1 E)) : wS X W (.If c as bs pos) G C E :=
  wS_of (ps_if pt_sem pss_sem pss_sem) fun σ P H T g f => h σ P H _ g fun t C1 P1 H1 n1 q => by
    cases t with
    | true => exact q.1 rfl σ P1 H1 T n1.good (f.mono n1.ex)
    | false => exact q.2 rfl σ P1 H1 T n1.good (f.mono n1.ex)
/-- x += e, intsD -/
theorem wS_aug (i : Nat) {x : Str} {p' : Pos} {n : Int} (hd : G[i]? = some (some (.int n))) (h : wE X W e G C fun d C1 => ∃ m, d = .int m ∧ E.nx (G.set i (some (.int (n + m)))) C1) (nd : X.N.Nodup) (hi : X.N[i]? = some x := by rfl) (hx : Loc X.env.scope x := by first | exact Or.inl rfl | exact Or.inr rfl)
    (hf : X.fn x = true ∨ X.env.scope.names.lookup x = some .local := by first | exact .inl rfl | exact .inr rfl) : wS X W (.AugAssign (.Name x p') .Add e pos) G C E :=
  wS_of (ps_aug nd hi hx pe_sem ip_add hf) fun σ P H T g f => by
    obtain ⟨v, h1, h2⟩ := g.sl i _ hd
    cases h2
    refine ⟨_, h1, h σ P H _ g fun d C1 v P1 H1 n1 r1 q => ?_⟩
    obtain ⟨m, rfl, q⟩ := q
    cases r1
    exact ⟨n, m, rfl, rfl, f.nx _ C1 _ P1 H1 ⟨n1.ex, n1.good.slot (.int _)⟩ q⟩
/-! ### loops -/
/-- a while by its word and a measure -/
theorem wS_while {body : List Stmt} (Iv : Nat → List (Option D) → Cells → Prop) (m0 : Nat) (h0 : Iv m0 G C)
    (hs : ∀ m G' C', Iv m G' C' → wT X W c G' C' fun t C1 => (t = true → wSs X W body G' C1 { E with nx := fun G2 C2 => ∃ m', m' < m ∧ Iv m' G2 C2, ct := fun G2 C2 => ∃ m', m' < m ∧ Iv m' G2 C2, bk := E.nx }) ∧ (t = false → E.nx G' C1))
    (hp : PassesOwn (model X.prog X.w) X.A X.env X.xe) : wS X W (.While c body [] pos) G C E :=
  wS_of (ps_while hp pt_sem pss_sem) fun σ P H T g f =>
    ⟨fun m σ' H' => ∃ G' C' P', Next X.K W G' C' σ' P P' H' ∧ Iv m G' C', ⟨m0, G, C, P, g.refl, h0⟩, fun m σ' H' w => by
      obtain ⟨G', C', P', n, iv⟩ := w
      refine hs m G' C' iv σ' P' H' _ n.good fun t C1 P1 H1 n1 q => ?_
      cases t with
      | true =>
        refine ⟨fun σ2 H2 => ∃ m', m' < m ∧ ∃ G2 C2 P2, Next X.K W G2 C2 σ2 P P2 H2 ∧ Iv m' G2 C2, fun σ2 H2 w2 => by obtain ⟨m', hm, z⟩ := w2; exact ⟨m', hm, z⟩, ?_⟩
        have nn := n.tr n1
        refine q.1 rfl σ' P1 H1 _ n1.good ⟨fun G2 C2 σ2 P2 H2 n2 q2 => ?_, (f.mono nn.ex).rt, (f.mono nn.ex).nx, fun G2 C2 σ2 P2 H2 n2 q2 => ?_⟩
        · obtain ⟨m', hm, z⟩ := q2
          exact ⟨m', hm, G2, C2, P2, nn.tr n2, z⟩
        · obtain ⟨m', hm, z⟩ := q2
          exact ⟨m', hm, G2, C2, P2, nn.tr n2, z⟩
      | false => exact f.nx G' C1 σ' P1 H1 (n.tr n1) (q.2 rfl)⟩
/-- what is walked: it gives the data ds, one by one -/
structure Gives (K : PySem.W.Frag) (J : It) (ds : List D) (P : Hp) : Prop where
  wk : ∃ (Gc : Hp → Prop) (Y : Nat → Hp → V → Hp → Prop), L2.Walk J ds.length Gc Y ∧ (∀ P2 H2, Ex P P2 → Le P2 H2 → Gc H2) ∧
    ∀ i P2 H2 x H3, i < ds.length → Ex P P2 → Le P2 H2 → Y i H2 x H3 → ∃ P3 d, ds[i]? = some d ∧ Rep K P3 x d ∧ ((P3 = P2 ∧ H3 = H2) ∨ ∃ T o, H2 T = none ∧ H3 = upd H2 T o ∧ P3 = upd P2 T o)
def wI (X : Cx) (W : Wd) (tg iter : Expr) (G : List (Option D)) (C : Cells) (k : List D → Cells → Prop) : Prop :=
  ∀ (σ : L2.St) (P H : Hp) (R : It → Hp → Prop), Good X.K W G C σ P H → (∀ ds C' P' H' J, Next X.K W G C' σ P P' H' → Gives X.K J ds P' → k ds C' → R J H') → semI X tg iter σ H R
theorem wS_for {tg iter : Expr} {body : List Stmt} (h : wI X W tg iter G C fun ds C1 => ∃ Iv : Nat → List (Option D) → Cells → Prop, Iv 0 G C1 ∧
      (∀ i d G' C', ds[i]? = some d → Iv i G' C' → wG X W tg d G' C' fun G2 C2 => wSs X W body G2 C2 { E with nx := Iv (i + 1), ct := Iv (i + 1), bk := E.nx }) ∧ ∀ G' C', Iv ds.length G' C' → E.nx G' C')
    (hp : PassesOwn (model X.prog X.w) X.A X.env X.xe) (hc : X.calm = true) (hf : ∀ x, foldedSetIterable iter X.env x = pure x := by intro _; rfl) : wS X W (.For tg iter body [] pos) G C E :=
  wS_of (ps_for hp hc pi_sem pg_sem pss_sem hf) fun σ P H T g f => h σ P H _ g fun ds C1 P1 H1 J n1 gv q => by
    obtain ⟨Iv, i0, is, id⟩ := q
    obtain ⟨Gc, Y, wk, hG, hY⟩ := gv.wk
    refine for_it wk (fun i σ' H' => ∃ G' C' P', Next X.K W G' C' σ' P1 P' H' ∧ Iv i G' C') ⟨G, C1, P1, n1.good.refl, i0⟩ (fun i σ' H' _ w => ?_) (fun i x σ' H' H2 hi w y => ?_) fun σ' H' w => ?_
    · obtain ⟨G', C', P', n, _⟩ := w
      exact hG P' H' n.ex n.good.le
    · obtain ⟨G', C', P', n, iv⟩ := w
      obtain ⟨P3, d, hd, rd, hh⟩ := hY i P' H' x H2 hi n.ex n.good.le y
      have n3 : Next X.K W G' C' σ' P' P3 H2 := by
        rcases hh with ⟨rfl, rfl⟩ | ⟨T', o, hn, rfl, rfl⟩
        · exact n.good.refl
        · exact n.good.new hn
      have nn := n.tr n3
      refine is i d G' C' hd iv σ' P3 H2 _ x n3.good rd fun G2 C2 σ2 P4 H4 n4 q4 => ?_
      have n5 := nn.tr n4
      have ff := f.mono (n1.ex.tr n5.ex)
      exact q4 σ2 P4 H4 _ n4.good ⟨fun G5 C5 σ5 P5 H5 n6 q6 => ⟨G5, C5, P5, n5.tr n6, q6⟩, ff.rt, ff.nx, fun G5 C5 σ5 P5 H5 n6 q6 => ⟨G5, C5, P5, n5.tr n6, q6⟩⟩
    · obtain ⟨G', C', P', n, iv⟩ := w
      exact f.nx G' C' σ' P' H' (n1.tr n) (id G' C' iv)
theorem gives_lst {K : PySem.W.Frag} {P : Hp} {a : Addr} {vs : List V} {ds : List D} (h : SqL K P a vs) (r : Reps K P vs ds) : Gives K (Itl K a) ds P :=
  ⟨⟨_, _, r.len ▸ walk_list (K := K) (a := a) (xs := vs), fun P2 H2 e l => le_sqL l (sqL_ex e h), fun i P2 H2 x H3 hi e l y => by
    obtain ⟨rfl, y2⟩ := y
    obtain ⟨d, h1, h2⟩ := r.getV y2
    exact ⟨P2, d, h1, h2.ex' e, .inl ⟨rfl, rfl⟩⟩⟩⟩
theorem gives_tup {K : PySem.W.Frag} {P : Hp} {a : Addr} {vs : List V} {ds : List D} (h : SqT K P a vs) (r : Reps K P vs ds) : Gives K (Itt K a) ds P :=
  ⟨⟨_, _, r.len ▸ walk_tup (K := K) (a := a) (xs := vs), fun P2 H2 e l => le_sqT l (sqT_ex e h), fun i P2 H2 x H3 hi e l y => by
    obtain ⟨rfl, y2⟩ := y
    obtain ⟨d, h1, h2⟩ := r.getV y2
    exact ⟨P2, d, h1, h2.ex' e, .inl ⟨rfl, rfl⟩⟩⟩⟩
/-- over a list | a tuple -/
theorem wI_lst {tg : Expr} {kk : List D → Cells → Prop} (h : wE X W e G C fun d C1 => ∃ ds, (d = .lst ds ∨ d = .scr ds) ∧ kk ds C1) : wI X W tg e G C kk := fun σ P H R g z pins s I =>
  (pi_list pe_sem).run pins s σ H R I (h σ P H _ g fun d C1 v P1 H1 n1 r1 q => by
    obtain ⟨ds, hd, q⟩ := q
    rcases hd with rfl | rfl
    · cases r1 with
      | @lst a vs _ h1 rs => exact ⟨a, rfl, ⟨vs, .inl (.inl (le_lst n1.good.le h1))⟩, z ds C1 P1 H1 _ n1 (gives_lst (.inl (.inl h1)) rs) q⟩
    · cases r1 with
      | @scr a vs _ h1 rs => exact ⟨a, rfl, ⟨vs, le_sqL n1.good.le h1⟩, z ds C1 P1 H1 _ n1 (gives_lst h1 rs) q⟩)
theorem wI_tup {tg : Expr} {kk : List D → Cells → Prop} (h : wE X W e G C fun d C1 => ∃ ds, d = .tup ds ∧ kk ds C1) : wI X W tg e G C kk := fun σ P H R g z pins s I =>
  (pi_tup pe_sem).run pins s σ H R I (h σ P H _ g fun d C1 v P1 H1 n1 r1 q => by
    obtain ⟨ds, rfl, q⟩ := q
    cases r1 with
    | @tup a vs _ h1 rs => exact ⟨a, rfl, ⟨vs, .inl (.inl (le_tup n1.good.le h1))⟩, z ds C1 P1 H1 _ n1 (gives_tup (.inl (.inl h1)) rs) q⟩)
def intsD (lo : Int) (n : Nat) : List D := (List.range n).map fun (i : Nat) => D.int (lo + i)
theorem intsD_len (lo : Int) (n : Nat) : (intsD lo n).length = n := by simp [intsD]
theorem intsD_get {lo : Int} {n i : Nat} (h : i < n) : (intsD lo n)[i]? = some (.int (lo + i)) := by simp [intsD, h]
theorem gives_rng {K : PySem.W.Frag} {P : Hp} {lo : Int} {n : Nat} : Gives K (Itr lo n) (intsD lo n) P :=
  ⟨⟨fun _ => True, YFn fun i => .int (lo + i), by rw [intsD_len]; exact walk_range, fun _ _ _ _ => trivial, fun i P2 H2 x H3 hi e l y => by
    obtain ⟨rfl, rfl⟩ := y
    exact ⟨P2, _, intsD_get (by rw [intsD_len] at hi; exact hi), .int _, .inl ⟨rfl, rfl⟩⟩⟩⟩
theorem wI_rng1 {tg : Expr} {kk : List D → Cells → Prop} {p' : Pos} (hm : X.mg "range" = none) (h : wE X W e G C fun d C1 => ∃ j : Int, d = .int j ∧ -1000000 ≤ j ∧ j ≤ 1000000 ∧ kk (intsD 0 j.toNat) C1) (hg : Gl X "range" := by rfl)
    (hs : starEach [e] X.env = [(false, eval e X.env)] := by rfl) : wI X W tg (.Call (.Name "range" p') [e] [] pos) G C kk := fun σ P H R g z pins s I =>
  (pi_range1 hg hm (pa_cons pe_sem pa_nil (by rw [hs]; rfl)) hs).run pins s σ H R I (h σ P H _ g fun d C1 v P1 H1 n1 r1 q => by
    obtain ⟨j, rfl, h1, h2, q⟩ := q
    cases r1
    exact ⟨j, rfl, by omega, by omega, z _ C1 P1 H1 _ n1 gives_rng q⟩)
theorem wI_rng2 {tg : Expr} {kk : List D → Cells → Prop} {p' : Pos} (hm : X.mg "range" = none) (h : wE X W a G C fun d C1 => wE X W b G C1 fun d2 C2 => ∃ i j : Int, d = .int i ∧ d2 = .int j ∧ (-1000000 ≤ i ∧ i ≤ 1000000 ∧ -1000000 ≤ j ∧ j ≤ 1000000) ∧ kk (intsD i (j - i).toNat) C2) (hg : Gl X "range" := by rfl)
    (hs : starEach [a, b] X.env = [(false, eval a X.env), (false, eval b X.env)] := by rfl) (hs2 : starEach [b] X.env = [(false, eval b X.env)] := by rfl) : wI X W tg (.Call (.Name "range" p') [a, b] [] pos) G C kk := fun σ P H R g z pins s I =>
  (pi_range2 hg hm (pa_cons pe_sem (pa_cons pe_sem pa_nil (by rw [hs2]; rfl)) (by rw [hs, hs2])) hs hs2).run pins s σ H R I (h σ P H _ g fun d C1 v P1 H1 n1 r1 q => q σ P1 H1 _ n1.good fun d2 C2 v2 P2 H2 n2 r2 q2 => by
    obtain ⟨i, j, rfl, rfl, hh, q⟩ := q2
    cases r1; cases r2
    exact ⟨i, j, rfl, by omega, z _ C2 P2 H2 _ (n1.tr n2) gives_rng q⟩)
end
end EW

namespace EW
open PySem PySem.Spec PyProof.Rows L2

section
variable {X : Cx} {W : Wd} {G : List (Option D)} {C : Cells} {k : KD} {kb : KB} {E E' : DE} {e a b c : Expr} {pos : Pos} {st : Stmt} {sts : List Stmt}
/-! ### enumerate, zip -/
def pairD (xs ys : List D) : List D := (xs.zip ys).map fun p => D.tup [p.1, p.2]
def numD (xs : List D) : List D := (xs.zipIdx).map fun p => D.tup [.int (p.2 : Nat), p.1]
theorem numD_len (xs : List D) : (numD xs).length = xs.length := by simp [numD]
theorem numD_get {xs : List D} {i : Nat} {d : D} (h : xs[i]? = some d) : (numD xs)[i]? = some (.tup [.int (i : Nat), d]) := by
  simp [numD, List.getElem?_zipIdx, h]
theorem pairD_len (xs ys : List D) : (pairD xs ys).length = min xs.length ys.length := by simp [pairD]
theorem pairD_get {xs ys : List D} {i : Nat} {x y : D} (h : xs[i]? = some x) (h' : ys[i]? = some y) : (pairD xs ys)[i]? = some (.tup [x, y]) := by
  simp [pairD, List.getElem?_zip_eq_some, h, h']
theorem gives_enum {K : PySem.W.Frag} {P : Hp} {a : Addr} {vs : List V} {ds : List D} (h : SqL K P a vs) (r : Reps K P vs ds) : Gives K (Ite K a) (numD ds) P :=
  ⟨⟨_, _, by rw [numD_len, ← r.len]; exact walk_enum (K := K) (a := a) (xs := vs), fun P2 H2 e l => le_sqL l (sqL_ex e h), fun i P2 H2 x H3 hi e l y => by
    obtain ⟨T, x1, x2, rfl, hT, rfl, e1, e2⟩ := y
    obtain ⟨d, h1, h2⟩ := r.getV e2
    have e1' : x1 = .int (i : Nat) := (Option.some.inj e1).symm
    subst e1'
    have ex : Ex P2 (upd P2 T (.tup [.int (i : Nat), x2])) := Ex.fresh (l.none hT)
    exact ⟨_, _, numD_get h1, .tup upd_same (.cons (.int _) (.cons ((h2.ex' e).ex' ex) .nil)), .inr ⟨T, _, hT, rfl, rfl⟩⟩⟩⟩
theorem gives_zip {K : PySem.W.Frag} {P : Hp} {a b : Addr} {vs ws : List V} {ds es : List D} (h : SqL K P a vs) (h' : SqL K P b ws) (r : Reps K P vs ds) (r' : Reps K P ws es) : Gives K (Itz K a b) (pairD ds es) P :=
  ⟨⟨(fun H => SqL K H a vs ∧ SqL K H b ws), YPair (fun i => vs[i]?) (fun i => ws[i]?), by rw [pairD_len, ← r.len, ← r'.len]; exact walk_zip (K := K) (a := a) (b := b) (xs := vs) (ys := ws) rfl, fun P2 H2 e l => ⟨le_sqL l (sqL_ex e h), le_sqL l (sqL_ex e h')⟩, fun i P2 H2 x H3 hi e l y => by
    obtain ⟨T, x1, x2, rfl, hT, rfl, e1, e2⟩ := y
    obtain ⟨d, h1, h2⟩ := r.getV e1
    obtain ⟨d', h1', h2'⟩ := r'.getV e2
    have ex : Ex P2 (upd P2 T (.tup [x1, x2])) := Ex.fresh (l.none hT)
    exact ⟨_, _, pairD_get h1 h1', .tup upd_same (.cons ((h2.ex' e).ex' ex) (.cons ((h2'.ex' e).ex' ex) .nil)), .inr ⟨T, _, hT, rfl, rfl⟩⟩⟩⟩
theorem wI_enum {kk : List D → Cells → Prop} {p' tpos : Pos} {elts : List Expr} {kx : Nat} (hm : X.mg "enumerate" = none) (h : wE X W e G C fun d C1 => ∃ ds, (d = .lst ds ∨ d = .scr ds) ∧ kk (numD ds) C1) (hg : Gl X "enumerate" := by rfl)
    (hs : starEach [e] X.env = [(false, eval e X.env)] := by rfl) : wI X W (.Tuple elts kx tpos) (.Call (.Name "enumerate" p') [e] [] pos) G C kk := fun σ P H R g z pins s I =>
  (pi_enum hg hm (pa_cons pe_sem pa_nil (by rw [hs]; rfl)) hs).run pins s σ H R I (h σ P H _ g fun d C1 v P1 H1 n1 r1 q => by
    obtain ⟨ds, hd, q⟩ := q
    rcases hd with rfl | rfl
    · cases r1 with
      | @lst a vs _ h1 rs => exact ⟨a, vs, rfl, .inl (.inl (le_lst n1.good.le h1)), z _ C1 P1 H1 _ n1 (gives_enum (.inl (.inl h1)) rs) q⟩
    · cases r1 with
      | @scr a vs _ h1 rs => exact ⟨a, vs, rfl, le_sqL n1.good.le h1, z _ C1 P1 H1 _ n1 (gives_enum h1 rs) q⟩)
theorem wI_zip {kk : List D → Cells → Prop} {p' tpos : Pos} {elts : List Expr} {kx : Nat} (hm : X.mg "zip" = none) (h : wE X W a G C fun d C1 => wE X W b G C1 fun d2 C2 => ∃ ds es, d = .lst ds ∧ d2 = .lst es ∧ kk (pairD ds es) C2) (hg : Gl X "zip" := by rfl)
    (hs : starEach [a, b] X.env = (false, eval a X.env) :: starEach [b] X.env := by rfl) (hs2 : starEach [b] X.env = (false, eval b X.env) :: starEach [] X.env := by rfl) (hpl : (backTo pos (starEach [b] X.env)).any (·.1) = false := by rfl) : wI X W (.Tuple elts kx tpos) (.Call (.Name "zip" p') [a, b] [] pos) G C kk := fun σ P H R g z pins s I =>
  (pi_zip hg hm (pa_cons pe_sem (pa_cons pe_sem pa_nil hs2) hs) hs hpl).run pins s σ H R I (h σ P H _ g fun d C1 v P1 H1 n1 r1 q => q σ P1 H1 _ n1.good fun d2 C2 v2 P2 H2 n2 r2 q2 => by
    obtain ⟨ds, es, rfl, rfl, q⟩ := q2
    cases r1 with
    | @lst a vs _ h1 rs =>
      cases r2 with
      | @lst b ws _ h2 rs2 => exact ⟨a, b, vs, ws, rfl, .inl (.inl (le_lst n2.good.le (n2.ex _ _ h1))), .inl (.inl (le_lst n2.good.le h2)), z _ C2 P2 H2 _ (n1.tr n2) (gives_zip (.inl (.inl (n2.ex _ _ h1))) (.inl (.inl h2)) (rs.ex' n2.ex) rs2) q⟩)

/-! ### comprehensions -/
def wipeG (G : List (Option D)) : List Nat → List (Option D)
  | [] => G
  | v :: vs => (wipeG G vs).set v none
theorem wipeG_len (G : List (Option D)) : ∀ vs : List Nat, (wipeG G vs).length = G.length
  | [] => rfl
  | v :: vs => by unfold wipeG; rw [List.length_set, wipeG_len G vs]
theorem wipe_good {K : PySem.W.Frag} {P : Hp} {σ : L2.St} {G : List (Option D)} (h : ∀ (i : Nat) (d : D), G[i]? = some (some d) → ∃ v, σ[i]? = some (some v) ∧ Rep K P v d) : ∀ (vs : List Nat) (i : Nat) (d : D), (wipeG G vs)[i]? = some (some d) → ∃ v, (wipe σ vs)[i]? = some (some v) ∧ Rep K P v d := by
  intro vs
  induction vs with
  | nil => exact h
  | cons v vs ih =>
    intro i d e
    unfold wipeG at e
    unfold wipe
    by_cases hi : v = i
    · subst hi
      rw [List.getElem?_set] at e
      simp at e
    · rw [List.getElem?_set_ne hi] at e
      rw [List.getElem?_set_ne hi]
      exact ih i d e
/-- the tests of a comprehension's clause -/
def semIf (X : Cx) (ifs : List Expr) : TT := fun σ H Q => ∀ (pins : List (Addr × Obj)) (s : Shared), Inv X pins σ H s →
  wpAny (model X.prog X.w) X.A (forIn ifs true fun c r => if r = true then do let ok ← isTrue c X.env (eval c X.env); pure (ForInStep.yield ok) else pure (ForInStep.yield r)) (TP X pins σ Q) X.xe s
def wIf (X : Cx) (W : Wd) (ifs : List Expr) (G : List (Option D)) (C : Cells) (k : KB) : Prop :=
  ∀ (σ : L2.St) (P H : Hp) (Q : Bool → Hp → Prop), Good X.K W G C σ P H → (∀ b C' P' H', Next X.K W G C' σ P P' H' → k b C' → Q b H') → semIf X ifs σ H Q
theorem wIf_nil (q : kb true C) : wIf X W [] G C kb := fun σ P H Q g z pins s I => (pts_nil (X := X)).run pins s σ H Q I (z true C P H g.refl q)
theorem wIf_one (h : wT X W c G C kb) : wIf X W [c] G C kb := fun σ P H Q g z pins s I => (pts_one pt_sem).run pins s σ H Q I (h σ P H Q g z)
/-- the block of a comprehension -/
abbrev blkX (X : Cx) (s : Shared) (H : Hp) (scope : Scope) (Cl : Addr) (cl : List (Str × Addr)) (fp : List Addr) : Cx := X.blk s H scope (compEnvC scope cl Cl X.env) fp
/-- what is shown of one turn, whatever the block and the world; G1: the slots with the turn's item -/
def wLc (X : Cx) (scope : Scope) (elt : Expr) (ifs : List Expr) (G1 : List (Option D)) (C : Cells) (ky : D → Cells → Prop) (kn : Cells → Prop) : Prop :=
  ∀ (W : Wd) (s : Shared) (H : Hp) (Cl : Addr) (cl : List (Str × Addr)) (fp : List Addr),
    wIf (blkX X s H scope Cl cl fp) W ifs G1 C fun t C2 => (t = true → ∀ (s : Shared) (H : Hp) (Cl : Addr) (cl : List (Str × Addr)) (fp : List Addr), wE (blkX X s H scope Cl cl fp) W elt G1 C2 ky) ∧ (t = false → kn C2)
theorem wipe_set {σ : L2.St} {j : Nat} {x : Option V} : ∀ {vs : List Nat}, j ∈ vs → wipe ((wipe σ vs).set j x) vs = wipe σ vs := by
  have key : ∀ (vs : List Nat) (τ : L2.St) (j : Nat) (x : Option V), j ∈ vs → wipe (τ.set j x) vs = wipe τ vs := by
    intro vs
    induction vs with
    | nil => intro τ j x h; cases h
    | cons v vs ih =>
      intro τ j x h
      unfold wipe
      by_cases hj : j ∈ vs
      · rw [ih τ j x hj]
      · have e : j = v := by
          rcases List.mem_cons.mp h with h | h
          · exact h
          · exact absurd h hj
        subst e
        have out : ∀ (ws : List Nat) (τ : L2.St), j ∉ ws → wipe (τ.set j x) ws = (wipe τ ws).set j x := by
          intro ws
          induction ws with
          | nil => intro τ _; rfl
          | cons w ws ih2 =>
            intro τ hw
            unfold wipe
            rw [ih2 τ fun z => hw (List.mem_cons_of_mem _ z)]
            rw [List.set_comm]
            intro z; exact hw (by rw [z]; exact List.mem_cons_self)
        rw [out vs τ hj, List.set_set]
  intro vs h
  rw [key vs _ j x h]
  have idem : ∀ (ws : List Nat) (τ : L2.St), wipe (wipe τ ws) ws = wipe τ ws := by
    intro ws
    induction ws with
    | nil => intro τ; rfl
    | cons w ws ih =>
      intro τ
      show (wipe ((wipe τ ws).set w none) ws).set w none = (wipe τ ws).set w none
      by_cases hw : w ∈ ws
      · rw [key ws _ w none hw, ih]
      · have out : ∀ (us : List Nat) (τ : L2.St), w ∉ us → wipe (τ.set w none) us = (wipe τ us).set w none := by
          intro us
          induction us with
          | nil => intro τ _; rfl
          | cons u us ih2 =>
            intro τ hu
            unfold wipe
            rw [ih2 τ fun z => hu (List.mem_cons_of_mem _ z)]
            rw [List.set_comm]
            intro z; exact hu (by rw [z]; exact List.mem_cons_self)
        rw [out ws _ hw, ih, List.set_set]
  exact idem vs σ
def lcE (X : Cx) (scope : Scope) (elt : Expr) : TE := fun σ H Q => ∀ (s : Shared) (H0 : Hp) (Cl : Addr) (cl : List (Str × Addr)) (fp : List Addr), semE (blkX X s H0 scope Cl cl fp) elt σ H Q
def lcT (X : Cx) (scope : Scope) (ifs : List Expr) : TT := fun σ H Q => ∀ (s : Shared) (H0 : Hp) (Cl : Addr) (cl : List (Str × Addr)) (fp : List Addr), semIf (blkX X s H0 scope Cl cl fp) ifs σ H Q
/-- a comprehension, be it a value or stored to a name -/
def wC (X : Cx) (W : Wd) (elt tg iter : Expr) (ifs : List Expr) (scope : Scope) (G : List (Option D)) (C : Cells) (k : KD) : Prop :=
  ∃ (own : List (Str × Nat)) (g : TG), X.N.Nodup ∧ X.calm = true ∧ BlkOk X.N X.env.scope scope own ∧ (∀ (s : Shared) (H : Hp) (Cl : Addr) (cl : List (Str × Addr)) (fp : List Addr), PG (blkX X s H scope Cl cl fp) tg g) ∧ (∀ x, foldedSetIterable iter X.env x = pure x) ∧
    ∀ σ P H (Q : VK), Good X.K W G C σ P H → (∀ d C' v P' H', Next X.K W G C' σ P P' H' → Rep X.K P' v d → k d C' → Q v H') → tLc (semI X tg iter) g (lcT X scope ifs) (lcE X scope elt) (own.map (·.2)) σ H Q
theorem wE_C {elt tg iter : Expr} {ifs : List Expr} {scope : Scope} (h : wC X W elt tg iter ifs scope G C k) : wE X W (.ListComp elt [⟨tg, iter, ifs, 0⟩] scope pos) G C k := by
  obtain ⟨own, g, nd, hc, ok, hgp, hf, h⟩ := h
  exact wE_of (pe_lc (wi := semI X tg iter) (g := g) (tt := lcT X scope ifs) (te := lcE X scope elt) hc nd pi_sem ok hgp (fun s H0 Cl cl fp => ⟨fun pins s' σ H Q I h => h s H0 Cl cl fp pins s' I⟩) (fun s H0 Cl cl fp => ⟨fun pins s' σ H Q I h => h s H0 Cl cl fp pins s' I⟩) hf) h
/-- name = [..], the name a plain local -/
theorem wS_C (i : Nat) {y : Str} {py spos : Pos} {elt tg iter : Expr} {ifs : List Expr} {scope : Scope} (h : wC X W elt tg iter ifs scope G C fun d C1 => E.nx (G.set i (some d)) C1) (nd0 : X.N.Nodup) (hk : X.env.scope.kind = .function := by rfl) (hi : X.N[i]? = some y := by rfl)
    (hyl : X.env.scope.names.lookup y = some .local := by rfl) (hl : (py.line == pos.line) = true := by rfl) (ha : (scope.names.any fun (n, k) => n == y && (k == .local || k == .cell)) = false := by decide +kernel) : wS X W (.Assign [.Name y py] (.ListComp elt [⟨tg, iter, ifs, 0⟩] scope pos) spos) G C E := by
  obtain ⟨own, g, nd, hc, ok, hgp, hf, h⟩ := h
  exact wS_of (ps_setLc (wi := semI X tg iter) (g := g) (tt := lcT X scope ifs) (te := lcE X scope elt) hc nd hi hyl (sw_true hk hyl hl ha) pi_sem ok hgp (fun s H0 Cl cl fp => ⟨fun pins s' σ H Q I h => h s H0 Cl cl fp pins s' I⟩) (fun s H0 Cl cl fp => ⟨fun pins s' σ H Q I h => h s H0 Cl cl fp pins s' I⟩) hf)
    fun σ P H T gd f => h σ P H _ gd fun d C1 v P1 H1 n1 r1 q => f.nx _ C1 _ P1 H1 ⟨n1.ex, n1.good.slot r1⟩ q
/-- [elt for tg in iter if ..], by any kind of target -/
theorem lc_any {tg elt iter : Expr} {ifs : List Expr} {scope : Scope} (own : List (Str × Nat)) (g : TG) (f : D → List (Option D) → Prop) (nd : X.N.Nodup) (hc : X.calm = true) (ok : BlkOk X.N X.env.scope scope own)
    (hgp : ∀ (s : Shared) (H : Hp) (Cl : Addr) (cl : List (Str × Addr)) (fp : List Addr), PG (blkX X s H scope Cl cl fp) tg g)
    (hg : ∀ (W : Wd) (C : Cells) σ P H (Q : L2.St → Hp → Prop) v d, (∃ G0, f d G0) → Good X.K W (wipeG G (own.map (·.2))) C (wipe σ (own.map (·.2))) P H → Rep X.K P v d → (∀ G1 σ1, f d G1 → Good X.K W G1 C σ1 P H → wipe σ1 (own.map (·.2)) = wipe σ (own.map (·.2)) → Q σ1 H) → g v (wipe σ (own.map (·.2))) H Q)
    (kl : List D → Cells → Addr → Prop)
    (h : wI X W tg iter G C fun ds C1 => ds.length ≤ 100000 ∧ ∃ Iv : Nat → List D → Cells → Prop, Iv 0 [] C1 ∧
      (∀ i d acc C', ds[i]? = some d → Iv i acc C' → (∃ G0, f d G0) ∧ ∀ G1, f d G1 → wLc X scope elt ifs G1 C' (fun y C3 => Iv (i + 1) (acc ++ [y]) C3) (fun C2 => Iv (i + 1) acc C2)) ∧ (∀ acc C', Iv ds.length acc C' → ∀ p, kl acc C' p))
    (hf : ∀ x, foldedSetIterable iter X.env x = pure x := by intro _; rfl) {σ : L2.St} {P H : Hp} {Q : VK} (gd : Good X.K W G C σ P H)
    (z : ∀ acc C' p vs P' H', Ex P P' → Good X.K W G C' σ P' H' → P' p = none → W.H0 p = none → H' p = some (.lst vs) → p ∉ C'.map (·.1) → Reps X.K P' vs acc → kl acc C' p → Q (.ref p) H') : tLc (semI X tg iter) g (lcT X scope ifs) (lcE X scope elt) (own.map (·.2)) σ H Q := by
  refine h σ P H _ gd fun ds C1 P1 H1 J n1 gv q => ?_
  obtain ⟨hz, Iv, i0, is, id⟩ := q
  intro Dl hD
  obtain ⟨Gc, Y, wk, hG, hY⟩ := gv.wk
  have gd1 := n1.good
  have D0 : W.H0 Dl = none := by
    cases e : W.H0 Dl with
    | none => rfl
    | some u => exact absurd hD (gd1.tr Dl (by rw [e]; intro y; cases y))
  have cellH : ∀ {C' : Cells} {P' H' : Hp} {G' : List (Option D)} {σ' : L2.St} {W' : Wd}, Good X.K W' G' C' σ' P' H' → H' Dl = none → Dl ∉ C'.map (·.1) := fun {C' P' H' G' σ' W'} g h z => by
    obtain ⟨q, hq, e⟩ := List.mem_map.mp z
    obtain ⟨_, _, o, ho, _⟩ := g.ce q hq
    rw [e, h] at ho; cases ho
  have c0 : Dl ∉ C1.map (·.1) := cellH gd1 hD
  refine lc_it wk (fun i H' => ∃ acc C' P' vs, Ex P1 P' ∧ Iv i acc C' ∧ Good X.K W G C' σ P' H' ∧ P' Dl = none ∧ H' Dl = some (.lst vs) ∧ Dl ∉ C'.map (·.1) ∧ Reps X.K P' vs acc ∧ acc.length ≤ i) ?_ ?_ ?_ ?_
  · exact ⟨[], C1, P1, [], Ex.rfl' _, i0, gd1.aside (gd1.le.none hD) D0 c0, gd1.le.none hD, upd_same, c0, .nil, Nat.le_refl _⟩
  · intro i H' _ w
    obtain ⟨acc, C', P', vs, e, _, gg, _⟩ := w
    exact hG P' H' e gg.le
  · intro i x H' H2 hi w y
    obtain ⟨acc, C', P', vs, e, iv, gg, pD, hD', cD, rs, hl⟩ := w
    obtain ⟨P3, d, hd, rd, hh⟩ := hY i P' H' x H2 hi e gg.le y
    have n3 : Next X.K W G C' σ P' P3 H2 ∧ P3 Dl = none ∧ H2 Dl = some (.lst vs) := by
      rcases hh with ⟨rfl, rfl⟩ | ⟨T', o, hn, rfl, rfl⟩
      · exact ⟨gg.refl, pD, hD'⟩
      · have ne : Dl ≠ T' := ne_of_none hD' hn
        exact ⟨gg.new hn, by rw [upd_ne ne]; exact pD, by rw [upd_ne ne]; exact hD'⟩
    obtain ⟨n3, pD3, hD3⟩ := n3
    have gB := n3.good.base
    have hbD : (baseW P3 H2 (C'.map (·.1))).Hb Dl = some (.lst vs) := by rw [baseW_hb cD]; exact hD3
    obtain ⟨hex, hturn⟩ := is i d acc C' hd iv
    have back : ∀ {C5 : Cells} {P5 H5 : Hp} {G5 : List (Option D)} {σ5 : L2.St}, Good X.K (baseW P3 H2 (C'.map (·.1))) G5 C5 σ5 P5 H5 → Good X.K W G C5 σ P5 H5 ∧ P5 Dl = none ∧ H5 Dl = some (.lst vs) ∧ Dl ∉ C5.map (·.1) ∧ Ex P3 P5 := fun {C5 P5 H5 G5 σ5} g5 => by
      have ex5 : Ex P3 P5 := g5.p0
      refine ⟨n3.good.back (g5.fewer (G' := G) (σ' := σ) (fun i d h => ?_) n3.good.len), ?_, g5.hb _ _ hbD, fun z => ?_, ex5⟩
      · obtain ⟨v, h1, h2⟩ := n3.good.sl i d h
        exact ⟨v, h1, h2.ex' ex5⟩
      · exact (g5.fr Dl (by show H2 Dl ≠ none; rw [hD3]; intro y; cases y)).trans pD3
      · obtain ⟨q, hq, eq⟩ := List.mem_map.mp z
        obtain ⟨_, h2, _⟩ := g5.ce q hq
        rw [eq] at h2
        rcases h2 with h2 | h2
        · have h2' : H2 Dl = none := h2
          rw [hD3] at h2'; cases h2'
        · exact cD h2
    refine hg _ C' σ P3 H2 _ x d hex (gB.fewer (wipe_good gB.sl _) (by rw [wipeG_len, wipe_length]; exact gB.len)) rd fun G1 σ1 hf1 g1 hw => ⟨hw, ?_⟩
    have ht := hturn G1 hf1 (baseW P3 H2 (C'.map (·.1)))
    intro s0 H0 Cl0 cl0 fp0
    refine ht s0 H0 Cl0 cl0 fp0 σ1 P3 H2 _ g1 fun t C2 P4 H4 n4 hq => ?_
    cases t with
    | true =>
      intro s0 H0 Cl0 cl0 fp0
      refine hq.1 rfl s0 H0 Cl0 cl0 fp0 σ1 P4 H4 _ n4.good fun y C5 v P5 H5 n5 r5 iv5 => ?_
      obtain ⟨gW, pD5, hD5, cD5, ex5⟩ := back n5.good
      refine ⟨vs, hD5, ?_, acc ++ [y], C5, P5, vs ++ [v], (e.tr n3.ex).tr ex5, iv5, gW.aside pD5 D0 cD5, pD5, upd_same, cD5, (rs.ex' (n3.ex.tr ex5)).app (.cons r5 .nil), by rw [List.length_append]; simp; exact hl⟩
      have : i < ds.length := hi
      rw [rs.len]; exact small_lt (by omega)
    | false =>
      obtain ⟨gW, pD5, hD5, cD5, ex5⟩ := back n4.good
      exact ⟨acc, C2, P4, vs, (e.tr n3.ex).tr ex5, hq.2 rfl, gW, pD5, hD5, cD5, rs.ex' (n3.ex.tr ex5), Nat.le_succ_of_le hl⟩
  · intro H' w
    obtain ⟨acc, C', P', vs, e, iv, gg, pD, hD', cD, rs, hl⟩ := w
    exact z acc C' Dl vs P' H' (n1.ex.tr e) gg pD D0 hD' cD rs (id acc C' iv Dl)
/-- the target one name -/
theorem C_lc {x : Str} {p' : Pos} {elt iter : Expr} {ifs : List Expr} {scope : Scope} (j : Nat) (own : List (Str × Nat)) (nd : X.N.Nodup) (hc : X.calm = true)
    (h : wI X W (.Name x p') iter G C fun ds C1 => ds.length ≤ 100000 ∧ ∃ Iv : Nat → List D → Cells → Prop, Iv 0 [] C1 ∧
      (∀ i d acc C', ds[i]? = some d → Iv i acc C' → wLc X scope elt ifs ((wipeG G (own.map (·.2))).set j (some d)) C' (fun y C3 => Iv (i + 1) (acc ++ [y]) C3) (fun C2 => Iv (i + 1) acc C2)) ∧ (∀ acc C', Iv ds.length acc C' → k (.lst acc) C'))
    (ok : BlkOk X.N X.env.scope scope own := by exact blkOk_by (by kernel_rfl)) (hj : j ∈ own.map (·.2) := by decide)
    (hgp : ∀ (s : Shared) (H : Hp) (Cl : Addr) (cl : List (Str × Addr)) (fp : List Addr), PG (blkX X s H scope Cl cl fp) (.Name x p') (gName j) := by exact fun _ _ _ _ _ => pg_name (by assumption) rfl (by first | exact Or.inl rfl | exact Or.inr rfl))
    (hf : ∀ x, foldedSetIterable iter X.env x = pure x := by intro _; rfl) : wC X W elt (.Name x p') iter ifs scope G C k :=
  ⟨own, gName j, nd, hc, ok, hgp, hf, fun σ P H Q gd z => lc_any own (gName j) (fun d G1 => G1 = (wipeG G (own.map (·.2))).set j (some d)) nd hc ok hgp (fun W' C' σ P H Q v d _ g r z => z _ _ rfl (g.slot r) (wipe_set hj)) (fun acc C' _ => k (.lst acc) C')
    (fun σ P H R g q => h σ P H R g fun ds C' P' H' J n gv hk => q ds C' P' H' J n gv (by
      obtain ⟨hz, Iv, i0, is, id⟩ := hk
      exact ⟨hz, Iv, i0, fun i d acc C'' hd iv => ⟨⟨_, rfl⟩, fun G1 e => by subst e; exact is i d acc C'' hd iv⟩, fun acc C'' iv _ => id acc C'' iv⟩)) hf gd fun acc C' p vs P' H' e g' pn h0 hp hc rs q => by
    have n := g'.know pn h0 hc hp
    exact z _ C' (.ref p) _ H' ⟨e.tr n.ex, n.good⟩ (.lst upd_same (rs.ex' n.ex)) q⟩
theorem wipe_set2 {σ : L2.St} {i j : Nat} {x y : Option V} {vs : List Nat} (hi : i ∈ vs) (hj : j ∈ vs) : wipe (((wipe σ vs).set i x).set j y) vs = wipe σ vs := by
  have a : wipe ((wipe ((wipe σ vs).set i x) vs).set j y) vs = wipe ((wipe σ vs).set i x) vs := wipe_set hj
  have b : wipe ((wipe σ vs).set i x) vs = wipe σ vs := wipe_set hi
  have key : ∀ (us : List Nat) (τ ρ : L2.St), τ.length = ρ.length → (∀ n, n ∉ us → τ[n]? = ρ[n]?) → wipe τ us = wipe ρ us := by
    intro us
    induction us with
    | nil => intro τ ρ hl h; exact List.ext_getElem? fun n => h n (by simp)
    | cons u us ih =>
      intro τ ρ hl h
      show (wipe τ us).set u none = (wipe ρ us).set u none
      have e : ∀ (ws : List Nat) (μ : L2.St), (wipe μ ws).set u none = wipe (μ.set u none) ws := by
        intro ws
        induction ws with
        | nil => intro μ; rfl
        | cons w ws ihw =>
          intro μ
          show ((wipe μ ws).set w none).set u none = (wipe (μ.set u none) ws).set w none
          rw [← ihw μ]
          by_cases hw : w = u
          · subst hw; rw [List.set_set]
          · rw [List.set_comm _ _ hw]
      rw [e us τ, e us ρ]
      refine ih _ _ (by rw [List.length_set, List.length_set]; exact hl) fun n hn => ?_
      by_cases hu : u = n
      · subst hu
        rw [List.getElem?_set, List.getElem?_set, hl, if_pos rfl, if_pos rfl]
      · rw [List.getElem?_set_ne hu, List.getElem?_set_ne hu]
        exact h n (by simp only [List.mem_cons, not_or]; exact ⟨fun z => hu z.symm, hn⟩)
  rw [key vs (((wipe σ vs).set i x).set j y) σ (by rw [List.length_set, List.length_set, wipe_length]) fun n hn => ?_]
  have out : ∀ (us : List Nat) (τ : L2.St) (n : Nat), n ∉ us → (wipe τ us)[n]? = τ[n]? := by
    intro us
    induction us with
    | nil => intro τ n _; rfl
    | cons u us ih =>
      intro τ n h
      show ((wipe τ us).set u none)[n]? = τ[n]?
      rw [List.getElem?_set_ne (fun z => h (by rw [z]; exact List.mem_cons_self))]
      exact ih τ n fun z => h (List.mem_cons_of_mem _ z)
  have nj : j ≠ n := fun z => hn (by rw [← z]; exact hj)
  have ni : i ≠ n := fun z => hn (by rw [← z]; exact hi)
  rw [List.getElem?_set_ne nj, List.getElem?_set_ne ni, out vs σ n hn]
/-- the target a pair of names -/
theorem C_lc2 {x y : Str} {px py tpos : Pos} {kx : Nat} {elt iter : Expr} {ifs : List Expr} {scope : Scope} (i j : Nat) (own : List (Str × Nat)) (nd : X.N.Nodup) (hc : X.calm = true)
    (h : wI X W (.Tuple [.Name x px, .Name y py] kx tpos) iter G C fun ds C1 => ds.length ≤ 100000 ∧ ∃ Iv : Nat → List D → Cells → Prop, Iv 0 [] C1 ∧
      (∀ n d acc C', ds[n]? = some d → Iv n acc C' → ∃ d1 d2, d = .tup [d1, d2] ∧ wLc X scope elt ifs (((wipeG G (own.map (·.2))).set i (some d1)).set j (some d2)) C' (fun y C3 => Iv (n + 1) (acc ++ [y]) C3) (fun C2 => Iv (n + 1) acc C2)) ∧ (∀ acc C', Iv ds.length acc C' → k (.lst acc) C'))
    (ok : BlkOk X.N X.env.scope scope own := by exact blkOk_by (by kernel_rfl)) (hi : i ∈ own.map (·.2) := by decide) (hj : j ∈ own.map (·.2) := by decide)
    (hgp : ∀ (s : Shared) (H : Hp) (Cl : Addr) (cl : List (Str × Addr)) (fp : List Addr), PG (blkX X s H scope Cl cl fp) (.Tuple [.Name x px, .Name y py] kx tpos) (gTup X.K 2 (gCons (gName i) (gCons (gName j) gNil))) := by
      exact fun _ _ _ _ _ => pg_tup rfl (pgs_cons (pg_name (by assumption) rfl (by first | exact Or.inl rfl | exact Or.inr rfl)) (pgs_cons (pg_name (by assumption) rfl (by first | exact Or.inl rfl | exact Or.inr rfl)) pgs_nil)))
    (hf : ∀ x, foldedSetIterable iter X.env x = pure x := by intro _; rfl) : wC X W elt (.Tuple [.Name x px, .Name y py] kx tpos) iter ifs scope G C k :=
  ⟨own, gTup X.K 2 (gCons (gName i) (gCons (gName j) gNil)), nd, hc, ok, hgp, hf, fun σ P H Q gd z => lc_any own (gTup X.K 2 (gCons (gName i) (gCons (gName j) gNil))) (fun d G1 => ∃ d1 d2, d = .tup [d1, d2] ∧ G1 = ((wipeG G (own.map (·.2))).set i (some d1)).set j (some d2)) nd hc ok hgp
    (fun W' C' σ P H Q v d hex g r z => by
      obtain ⟨G0, d1, d2, rfl, _⟩ := hex
      cases r with
      | @tup a vs _ ha rs =>
        cases rs with
        | cons r1 rs =>
          cases rs with
          | cons r2 rs =>
            cases rs
            exact ⟨a, _, rfl, .inl (.inl (le_tup g.le ha)), rfl, _, _, rfl, _, _, rfl, rfl, z _ _ ⟨d1, d2, rfl, rfl⟩ ((g.slot r1).slot r2) (wipe_set2 hi hj)⟩) (fun acc C' _ => k (.lst acc) C')
    (fun σ P H R g q => h σ P H R g fun ds C' P' H' J n gv hk => q ds C' P' H' J n gv (by
      obtain ⟨hz, Iv, i0, is, id⟩ := hk
      refine ⟨hz, Iv, i0, fun i d acc C'' hd iv => ?_, fun acc C'' iv _ => id acc C'' iv⟩
      obtain ⟨d1, d2, e, w⟩ := is i d acc C'' hd iv
      refine ⟨⟨_, d1, d2, e, rfl⟩, fun G1 hG => ?_⟩
      obtain ⟨e1, e2, q1, q2⟩ := hG
      rw [e] at q1
      cases q1
      rw [q2]; exact w)) hf gd fun acc C' p vs P' H' e g' pn h0 hp hc rs q => by
    have n := g'.know pn h0 hc hp
    exact z _ C' (.ref p) _ H' ⟨e.tr n.ex, n.good⟩ (.lst upd_same (rs.ex' n.ex)) q⟩

/-! ### typed forms -/
theorem get_map {α : Type} {l : List α} {g : α → D} {i : Nat} {d : D} (h : (l.map g)[i]? = some d) : ∃ x, l[i]? = some x ∧ x ∈ l ∧ d = g x := by
  rw [List.getElem?_map] at h
  cases e : l[i]? with
  | none => rw [e] at h; cases h
  | some x => rw [e] at h; cases h; exact ⟨x, rfl, List.mem_of_getElem? e, rfl⟩
def natD (i : Nat) : D := .int (i : Int)
theorem intsD_nat (n : Nat) : intsD 0 n = (List.range n).map natD := by
  unfold intsD natD
  exact List.map_congr_left fun i _ => by rw [Int.zero_add]
theorem numD_map {α : Type} (l : List α) (g : α → D) : numD (l.map g) = (l.zipIdx).map fun p => D.tup [natD p.2, g p.1] := by
  unfold numD natD
  rw [List.zipIdx_map, List.map_map]; rfl
theorem pairD_map {α β : Type} (l : List α) (l' : List β) (g : α → D) (g' : β → D) : pairD (l.map g) (l'.map g') = (l.zip l').map fun p => D.tup [g p.1, g' p.2] := by
  unfold pairD
  rw [List.zip_map, List.map_map]; rfl
/-- a comprehension that changes nothing: filter and map -/
theorem C_lcP {α : Type} {x : Str} {p' : Pos} {elt iter : Expr} {ifs : List Expr} {scope : Scope} (j : Nat) (own : List (Str × Nat)) (nd : X.N.Nodup) (hc : X.calm = true) (l : List α) (g : α → D) (p : α → Bool) (f : α → D)
    (hi : wI X W (.Name x p') iter G C fun ds C1 => ds = l.map g ∧ C1 = C) (hz : l.length ≤ 100000)
    (ht : ∀ y ∈ l, ∀ (W : Wd) (s : Shared) (H : Hp) (Cl : Addr) (cl : List (Str × Addr)) (fp : List Addr), wIf (blkX X s H scope Cl cl fp) W ifs ((wipeG G (own.map (·.2))).set j (some (g y))) C fun t C2 => t = p y ∧ C2 = C)
    (he : ∀ y ∈ l, p y = true → ∀ (W : Wd) (s : Shared) (H : Hp) (Cl : Addr) (cl : List (Str × Addr)) (fp : List Addr), wE (blkX X s H scope Cl cl fp) W elt ((wipeG G (own.map (·.2))).set j (some (g y))) C fun d C2 => d = f y ∧ C2 = C)
    (q : k (.lst ((l.filter p).map f)) C) (ok : BlkOk X.N X.env.scope scope own := by exact blkOk_by (by kernel_rfl)) (hj : j ∈ own.map (·.2) := by decide)
    (hgp : ∀ (s : Shared) (H : Hp) (Cl : Addr) (cl : List (Str × Addr)) (fp : List Addr), PG (blkX X s H scope Cl cl fp) (.Name x p') (gName j) := by exact fun _ _ _ _ _ => pg_name (by assumption) rfl (by first | exact Or.inl rfl | exact Or.inr rfl))
    (hf : ∀ x, foldedSetIterable iter X.env x = pure x := by intro _; rfl) : wC X W elt (.Name x p') iter ifs scope G C k := by
  refine C_lc j own nd hc (fun σ P H R gd z => hi σ P H R gd fun ds C1 P' H' J n gv e => z ds C1 P' H' J n gv ?_) ok hj hgp hf
  obtain ⟨rfl, rfl⟩ := e
  refine ⟨by rw [List.length_map]; exact hz, fun i acc C' => C' = C1 ∧ acc = ((l.take i).filter p).map f, ⟨rfl, rfl⟩, fun i d acc C' hd iv => ?_, fun acc C' iv => ?_⟩
  · obtain ⟨rfl, rfl⟩ := iv
    obtain ⟨y, hy, ym, rfl⟩ := get_map hd
    have step : l.take (i + 1) = l.take i ++ [y] := by rw [List.take_add_one, hy]; rfl
    intro W' s H Cl cl fp
    refine fun σ P H Q gd z => ht y ym W' s _ Cl cl fp σ P H Q gd fun t C2 P' H' n e => z t C2 P' H' n ?_
    obtain ⟨rfl, rfl⟩ := e
    refine ⟨fun e s H Cl cl fp => (he y ym e W' s H Cl cl fp).mono fun d C3 e2 => ?_, fun e => ⟨rfl, ?_⟩⟩
    · obtain ⟨rfl, rfl⟩ := e2
      refine ⟨rfl, ?_⟩
      rw [step, List.filter_append, List.map_append, List.filter_cons, if_pos e]; rfl
    · rw [step, List.filter_append, List.filter_cons, if_neg (by rw [e]; decide)]
      show _ = (List.filter p (l.take i) ++ []).map f
      rw [List.append_nil]
  · obtain ⟨rfl, rfl⟩ := iv
    rw [List.length_map, List.take_length]
    exact q
theorem C_lcM {α : Type} {x : Str} {p' : Pos} {elt iter : Expr} {scope : Scope} (j : Nat) (own : List (Str × Nat)) (nd : X.N.Nodup) (hc : X.calm = true) (l : List α) (g : α → D) (f : α → D)
    (hi : wI X W (.Name x p') iter G C fun ds C1 => ds = l.map g ∧ C1 = C) (hz : l.length ≤ 100000)
    (he : ∀ y ∈ l, ∀ (W : Wd) (s : Shared) (H : Hp) (Cl : Addr) (cl : List (Str × Addr)) (fp : List Addr), wE (blkX X s H scope Cl cl fp) W elt ((wipeG G (own.map (·.2))).set j (some (g y))) C fun d C2 => d = f y ∧ C2 = C)
    (q : k (.lst (l.map f)) C) (ok : BlkOk X.N X.env.scope scope own := by exact blkOk_by (by kernel_rfl)) (hj : j ∈ own.map (·.2) := by decide)
    (hgp : ∀ (s : Shared) (H : Hp) (Cl : Addr) (cl : List (Str × Addr)) (fp : List Addr), PG (blkX X s H scope Cl cl fp) (.Name x p') (gName j) := by exact fun _ _ _ _ _ => pg_name (by assumption) rfl (by first | exact Or.inl rfl | exact Or.inr rfl))
    (hf : ∀ x, foldedSetIterable iter X.env x = pure x := by intro _; rfl) : wC X W elt (.Name x p') iter [] scope G C k :=
  C_lcP j own nd hc l g (fun _ => true) f hi hz (fun y hy W s H Cl cl fp => wIf_nil ⟨rfl, rfl⟩) (fun y hy _ => he y hy) (by rw [List.filter_eq_self.mpr fun _ _ => rfl]; exact q) ok hj hgp hf
/-- .. the target a pair of names; g1, g2 the parts of an item -/
theorem C_lcP2 {α : Type} {x y : Str} {px py tpos : Pos} {kx : Nat} {elt iter : Expr} {ifs : List Expr} {scope : Scope} (i j : Nat) (own : List (Str × Nat)) (nd : X.N.Nodup) (hc : X.calm = true) (l : List α) (g1 g2 : α → D) (p : α → Bool) (f : α → D)
    (hi : wI X W (.Tuple [.Name x px, .Name y py] kx tpos) iter G C fun ds C1 => ds = l.map (fun a => .tup [g1 a, g2 a]) ∧ C1 = C) (hz : l.length ≤ 100000)
    (ht : ∀ y ∈ l, ∀ (W : Wd) (s : Shared) (H : Hp) (Cl : Addr) (cl : List (Str × Addr)) (fp : List Addr), wIf (blkX X s H scope Cl cl fp) W ifs (((wipeG G (own.map (·.2))).set i (some (g1 y))).set j (some (g2 y))) C fun t C2 => t = p y ∧ C2 = C)
    (he : ∀ y ∈ l, p y = true → ∀ (W : Wd) (s : Shared) (H : Hp) (Cl : Addr) (cl : List (Str × Addr)) (fp : List Addr), wE (blkX X s H scope Cl cl fp) W elt (((wipeG G (own.map (·.2))).set i (some (g1 y))).set j (some (g2 y))) C fun d C2 => d = f y ∧ C2 = C)
    (q : k (.lst ((l.filter p).map f)) C) (ok : BlkOk X.N X.env.scope scope own := by exact blkOk_by (by kernel_rfl)) (h1 : i ∈ own.map (·.2) := by decide) (h2 : j ∈ own.map (·.2) := by decide)
    (hgp : ∀ (s : Shared) (H : Hp) (Cl : Addr) (cl : List (Str × Addr)) (fp : List Addr), PG (blkX X s H scope Cl cl fp) (.Tuple [.Name x px, .Name y py] kx tpos) (gTup X.K 2 (gCons (gName i) (gCons (gName j) gNil))) := by
      exact fun _ _ _ _ _ => pg_tup rfl (pgs_cons (pg_name (by assumption) rfl (by first | exact Or.inl rfl | exact Or.inr rfl)) (pgs_cons (pg_name (by assumption) rfl (by first | exact Or.inl rfl | exact Or.inr rfl)) pgs_nil)))
    (hf : ∀ x, foldedSetIterable iter X.env x = pure x := by intro _; rfl) : wC X W elt (.Tuple [.Name x px, .Name y py] kx tpos) iter ifs scope G C k := by
  refine C_lc2 i j own nd hc (fun σ P H R gd z => hi σ P H R gd fun ds C1 P' H' J n gv e => z ds C1 P' H' J n gv ?_) ok h1 h2 hgp hf
  obtain ⟨rfl, rfl⟩ := e
  refine ⟨by rw [List.length_map]; exact hz, fun i acc C' => C' = C1 ∧ acc = ((l.take i).filter p).map f, ⟨rfl, rfl⟩, fun i d acc C' hd iv => ?_, fun acc C' iv => ?_⟩
  · obtain ⟨rfl, rfl⟩ := iv
    obtain ⟨y, hy, ym, rfl⟩ := get_map hd
    have step : l.take (i + 1) = l.take i ++ [y] := by rw [List.take_add_one, hy]; rfl
    refine ⟨_, _, rfl, ?_⟩
    intro W' s H Cl cl fp
    refine fun σ P H Q gd z => ht y ym W' s _ Cl cl fp σ P H Q gd fun t C2 P' H' n e => z t C2 P' H' n ?_
    obtain ⟨rfl, rfl⟩ := e
    refine ⟨fun e s H Cl cl fp => (he y ym e W' s H Cl cl fp).mono fun d C3 e2 => ?_, fun e => ⟨rfl, ?_⟩⟩
    · obtain ⟨rfl, rfl⟩ := e2
      refine ⟨rfl, ?_⟩
      rw [step, List.filter_append, List.map_append, List.filter_cons, if_pos e]; rfl
    · rw [step, List.filter_append, List.filter_cons, if_neg (by rw [e]; decide)]
      show _ = (List.filter p (l.take i) ++ []).map f
      rw [List.append_nil]
  · obtain ⟨rfl, rfl⟩ := iv
    rw [List.length_map, List.take_length]
    exact q
theorem C_lcM2 {α : Type} {x y : Str} {px py tpos : Pos} {kx : Nat} {elt iter : Expr} {scope : Scope} (i j : Nat) (own : List (Str × Nat)) (nd : X.N.Nodup) (hc : X.calm = true) (l : List α) (g1 g2 : α → D) (f : α → D)
    (hi : wI X W (.Tuple [.Name x px, .Name y py] kx tpos) iter G C fun ds C1 => ds = l.map (fun a => .tup [g1 a, g2 a]) ∧ C1 = C) (hz : l.length ≤ 100000)
    (he : ∀ y ∈ l, ∀ (W : Wd) (s : Shared) (H : Hp) (Cl : Addr) (cl : List (Str × Addr)) (fp : List Addr), wE (blkX X s H scope Cl cl fp) W elt (((wipeG G (own.map (·.2))).set i (some (g1 y))).set j (some (g2 y))) C fun d C2 => d = f y ∧ C2 = C)
    (q : k (.lst (l.map f)) C) (ok : BlkOk X.N X.env.scope scope own := by exact blkOk_by (by kernel_rfl)) (h1 : i ∈ own.map (·.2) := by decide) (h2 : j ∈ own.map (·.2) := by decide)
    (hgp : ∀ (s : Shared) (H : Hp) (Cl : Addr) (cl : List (Str × Addr)) (fp : List Addr), PG (blkX X s H scope Cl cl fp) (.Tuple [.Name x px, .Name y py] kx tpos) (gTup X.K 2 (gCons (gName i) (gCons (gName j) gNil))) := by
      exact fun _ _ _ _ _ => pg_tup rfl (pgs_cons (pg_name (by assumption) rfl (by first | exact Or.inl rfl | exact Or.inr rfl)) (pgs_cons (pg_name (by assumption) rfl (by first | exact Or.inl rfl | exact Or.inr rfl)) pgs_nil)))
    (hf : ∀ x, foldedSetIterable iter X.env x = pure x := by intro _; rfl) : wC X W elt (.Tuple [.Name x px, .Name y py] kx tpos) iter [] scope G C k :=
  C_lcP2 i j own nd hc l g1 g2 (fun _ => true) f hi hz (fun y hy W s H Cl cl fp => wIf_nil ⟨rfl, rfl⟩) (fun y hy _ => he y hy) (by rw [List.filter_eq_self.mpr fun _ _ => rfl]; exact q) ok h1 h2 hgp hf
/-- a for over a list of kinds: the item of turn i is g x -/
theorem wS_forL {α : Type} {tg iter : Expr} {body : List Stmt} (l : List α) (g : α → D) (Iv : Nat → List (Option D) → Cells → Prop) (hi : wI X W tg iter G C fun ds C1 => ds = l.map g ∧ C1 = C) (h0 : Iv 0 G C)
    (hs : ∀ i y G' C', l[i]? = some y → y ∈ l → i < l.length → Iv i G' C' → wG X W tg (g y) G' C' fun G2 C2 => wSs X W body G2 C2 { E with nx := Iv (i + 1), ct := Iv (i + 1), bk := E.nx }) (hd : ∀ G' C', Iv l.length G' C' → E.nx G' C')
    (hp : PassesOwn (model X.prog X.w) X.A X.env X.xe) (hc : X.calm = true) (hf : ∀ x, foldedSetIterable iter X.env x = pure x := by intro _; rfl) : wS X W (.For tg iter body [] pos) G C E := by
  refine wS_for (fun σ P H R gd z => hi σ P H R gd fun ds C1 P' H' J n gv e => z ds C1 P' H' J n gv ?_) hp hc hf
  obtain ⟨rfl, rfl⟩ := e
  refine ⟨Iv, h0, fun i d G' C' hd' iv => ?_, fun G' C' iv => hd G' C' (by rw [List.length_map] at iv; exact iv)⟩
  obtain ⟨y, hy, ym, rfl⟩ := get_map hd'
  exact hs i y G' C' hy ym (List.getElem?_eq_some_iff.mp hy).1 iv
theorem wI.mono {tg iter : Expr} {k1 k2 : List D → Cells → Prop} (h : wI X W tg iter G C k1) (m : ∀ ds C', k1 ds C' → k2 ds C') : wI X W tg iter G C k2 := fun σ P H R g z => h σ P H R g fun ds C1 P' H' J n gv e => z ds C1 P' H' J n gv (m _ _ e)
/-- range(n), as numbers from 0 -/
theorem wI_rg {tg : Expr} {kk : List D → Cells → Prop} {p' : Pos} (hm : X.mg "range" = none) (h : wE X W e G C fun d C1 => ∃ n : Nat, d = natD n ∧ n ≤ 1000000 ∧ kk ((List.range n).map natD) C1) (hg : Gl X "range" := by rfl)
    (hs : starEach [e] X.env = [(false, eval e X.env)] := by rfl) : wI X W tg (.Call (.Name "range" p') [e] [] pos) G C kk :=
  wI_rng1 hm (h.mono fun d C1 q => by
    obtain ⟨n, rfl, h1, q⟩ := q
    exact ⟨(n : Int), rfl, by omega, by omega, by rw [Int.toNat_natCast, intsD_nat]; exact q⟩) hg hs
end
end EW

namespace EW
open PySem PySem.Spec PyProof.Rows L2

/-! ### defs -/
/-- an error as data: its class, its one field -/
structure ErrD where
  c : Addr
  f : Option (Str × D)
def ErrIs (K : PySem.W.Frag) (P H : Hp) (cls : Value) (dx : Option Addr) (ed : ErrD) : Prop :=
  cls = .ref ed.c ∧ (ed.f = none ∨ ∃ n d a v, ed.f = some (n, d) ∧ dx = some a ∧ P a = some (.xd [(n, v)]) ∧ Rep K P v d)
abbrev KE := ErrD → Cells → Prop
/-- what is wished of an error that leaves X's body -/
abbrev KG := ErrD → List (Option D) → Cells → Prop
structure XW (X : Cx) (W : Wd) (xk : KG) : Prop where
  ex : ∃ wx : WX, Takes X wx ∧ ∀ ed G' C' cls dx σ P' H', Good X.K W G' C' σ P' H' → ErrIs X.K P' H' cls dx ed → xk ed G' C' → wx cls dx σ H'
abbrev KE0 : KE := fun _ _ => False
/-- what a def does: arguments, cells, the wish of a value, the wish of an error -/
abbrev FS := List D → Cells → KD → KE → Prop
def spD (K : PySem.W.Frag) (F : FS) : Sp := fun vs H Q E => ∃ (P : Hp) (ds : List D) (C : Cells) (Kn : KD) (Ke : KE), Le P H ∧ Reps K P vs ds ∧ (∀ p ∈ C, P p.1 = none ∧ ∃ o, H p.1 = some o ∧ p.2.ho K P o) ∧ (C.map (·.1)).Nodup ∧ F ds C Kn Ke ∧
  (∀ d C' v P' H', Next K (baseW P H (C.map (·.1))) [] C' [] P P' H' → Rep K P' v d → Kn d C' → Q v H') ∧
  (∀ ed C' cls dx P' H', Next K (baseW P H (C.map (·.1))) [] C' [] P P' H' → ErrIs K P' H' cls dx ed → Ke ed C' → E cls dx H')
structure FnG (P : Program) (w : World) (K : PySem.W.Frag) (mg : Str → Option Value) (base : Heap) (k : Nat) (f : Addr) (fd : FuncData) (ps : List Str) (F : FS) : Prop where
  len : ∀ ds C Kn Ke, F ds C Kn Ke → ds.length = ps.length
  run : ∀ (A : Around) (outer : List Env) (s : Shared) (H : Hp) (args : Args) (us : List Value) (vs : List V) (Q : VK) (E : XK), Room k A → A.guards = some [] → Env0 P w K mg base A outer s H → BindsTo s fd args (ps.zip us) → Vals vs us → spD K F vs H Q E →
    codeAny (model P w) A (.call (.ref f) args) (CR (L2.CX P w) outer P w H s Q E) s
/-- a name of the module that holds such a def -/
structure Has (P : Program) (w : World) (K : PySem.W.Frag) (mg : Str → Option Value) (base : Heap) (x : Str) (k : Nat) (F : FS) : Prop where
  ex : ∃ f fd ps, mg x = some (.ref f) ∧ PySem.W.keepIn K (.ref f) = true ∧ Binds K fd ps [] ∧ FnG P w K mg base k f fd ps F
abbrev HasX (X : Cx) (x : Str) (k : Nat) (F : FS) : Prop := Has X.prog X.w X.K X.mg X.base x k F
theorem spD.len {K : PySem.W.Frag} {F : FS} {n : Nat} (h : ∀ ds C Kn Ke, F ds C Kn Ke → ds.length = n) {vs : List V} {H : Hp} {Q : VK} {E : XK} (x : spD K F vs H Q E) : vs.length = n := by
  obtain ⟨P, ds, C, Kn, Ke, _, r, _, _, q, _⟩ := x
  rw [r.len]; exact h _ _ _ _ q
/-- the world of a def at its call -/
def Gam0 (n : Nat) (ds : List D) : List (Option D) := ds.map some ++ List.replicate (n - ds.length) none
abbrev bX (P : Program) (w : World) (K : PySem.W.Frag) (mg : Str → Option Value) (base : Heap) (N : List Str) (qual : Str) (st : Stmt) (f : Addr) (cdv : Value) (A : Around) (outer : List Env) (s : Shared) (H : Hp) (E : XK) : Cx := cxOf (L2.CX P w) P w K mg base N qual (defScope st) f cdv A outer s H E
/-- nothing that leaves a body's loop is kept back -/
theorem bX_own {P : Program} {w : World} {K : PySem.W.Frag} {mg : Str → Option Value} {base : Heap} {N : List Str} {qual : Str} {st : Stmt} {f : Addr} {cdv : Value} {A : Around} {outer : List Env} {s : Shared} {H : Hp} {E : XK} : PassesOwn (model (bX P w K mg base N qual st f cdv A outer s H E).prog (bX P w K mg base N qual st f cdv A outer s H E).w) (bX P w K mg base N qual st f cdv A outer s H E).A (bX P w K mg base N qual st f cdv A outer s H E).env (bX P w K mg base N qual st f cdv A outer s H E).xe := passes_of rfl
/-- THE RULE of a def: from its body's walk -/
theorem fnG_of {P : Program} {w : World} {K : PySem.W.Frag} {mg : Str → Option Value} {base : Heap} {k : Nat} {f : Addr} {x qual : Str} {st : Stmt} {fd : FuncData} {N ps : List Str} {F : FS} (Fu : Fun K x qual st f fd) (S : FnScope N ps (defScope st))
    (len : ∀ ds C Kn Ke, F ds C Kn Ke → ds.length = ps.length)
    (body : ∀ (cdv : Value) (A : Around) (outer : List Env) (s : Shared) (H : Hp) (E : XK) (W : Wd) (ds : List D) (C : Cells) (Kn : KD) (Ke : KE), Room k (A.deeper (envOfC qual (defScope st) s.heap.objs.size f cdv)) → A.guards = some [] → XW (bX P w K mg base N qual st f cdv A outer s H E) W (fun ed _ C' => Ke ed C') → F ds C Kn Ke → W.io = C.map (·.1) →
      wSs (bX P w K mg base N qual st f cdv A outer s H E) W (defBody st) (Gam0 N.length ds) C { nx := fun _ C' => Kn .non C', rt := Kn }) :
    FnG P w K mg base (k + 1) f fd ps F := by
  obtain ⟨oc, od, kV, doc, pm, an, cdv, ct, osl, rfl, lk, hcd⟩ := Fu.ex
  refine ⟨len, fun A outer s H args us vs Q E hr hgu e0 hb rv hsp => ?_⟩
  have hl : vs.length = ps.length := hsp.len len
  have KX : K.In s.heap := e0.mod.kin.keeps fun b o e => (e0.bs b o e).1
  have lim : s.heap.NoLimit := e0.mod.nolimit.keeps fun b o e => (e0.bs b o e).1
  refine codeAny_call_function hr.depth (KX _ _ lk) rfl S.co S.gen rfl (PySem.W.codeRec_of KX hcd) (hb _ _ _ _ ?_)
  refine wpAny_newFunctionEnv_cells S.kind (fun y hy => ?_) fun env he s1 x => ?_
  · obtain ⟨n, v⟩ := y
    rcases S.par n (List.of_mem_zip hy).1 with q | q
    · exact .inl q
    · exact .inr ⟨q, PySem.W.cellsFrom_some _ _ _ (.inl q)⟩
  subst he
  refine ⟨lim.keeps x.toInCall.keep, codeAny_func ?_⟩
  have I : Inv (cxOf (L2.CX P w) P w K mg base N qual (defScope st) f cdv A outer s H E) [] (L2.start N vs) H s1 := inv_start S hr.hd e0 hl rv x
  obtain ⟨P0, ds, C, Kn, Ke, le, rs, hc, nd, hF, hk, hke⟩ := hsp
  have hdl : ds.length = ps.length := len _ _ _ _ hF
  have hpl : ps.length ≤ N.length := by
    have z := congrArg List.length S.pre
    rw [List.length_take] at z
    omega
  have g0 : Good K (baseW P0 H (C.map (·.1))) (Gam0 N.length ds) C (L2.start N vs) P0 H := by
    have gn : Good K ⟨P0, H, H, C.map (·.1)⟩ [] [] [] P0 H → True := fun _ => trivial
    refine ⟨fun a o h => ?_, le, Ex.rfl' P0, fun _ _ => rfl, fun a o h => ?_, fun _ h => h, fun i d h => ?_, fun q hq => ?_, nd, ?_⟩
    · by_cases ha : a ∈ C.map (·.1)
      · rw [show (baseW P0 H (C.map (·.1))).Hb a = none from if_pos ha] at h; cases h
      · rw [baseW_hb ha] at h
        exact ⟨(fun z => by rw [show (baseW P0 H (C.map (·.1))).H0 a = H a from rfl, h] at z; cases z), ha⟩
    · by_cases ha : a ∈ C.map (·.1)
      · rw [show (baseW P0 H (C.map (·.1))).Hb a = none from if_pos ha] at h; cases h
      · rw [baseW_hb ha] at h; exact h
    · unfold Gam0 at h
      by_cases hi : i < ds.length
      · rw [List.getElem?_append_left (by simpa using hi), List.getElem?_map] at h
        cases e : ds[i]? with
        | none => rw [e] at h; cases h
        | some d' =>
          rw [e] at h; cases h
          obtain ⟨v, h1, h2⟩ := rs.get e
          refine ⟨v, ?_, h2⟩
          unfold L2.start
          rw [List.getElem?_append_left (by rw [List.length_map, rs.len]; exact hi), List.getElem?_map, h1]; rfl
      · rw [List.getElem?_append_right (by simpa using hi), List.getElem?_replicate] at h
        split at h <;> cases h
    · obtain ⟨h1, h2⟩ := hc q hq
      exact ⟨h1, .inr (List.mem_map.mpr ⟨q, hq, rfl⟩), h2⟩
    · unfold L2.start Gam0
      rw [List.length_append, List.length_append, List.length_map, List.length_map, List.length_replicate, List.length_replicate, rs.len]
  have hxk : XW (bX P w K mg base N qual st f cdv A outer s H E) (baseW P0 H (C.map (·.1))) (fun ed _ C' => Ke ed C') := ⟨(fun cls d _ H => E cls d H), takes_of rfl rfl rfl rfl, fun ed G' C' cls dx σ P' H' g he q => hke ed C' cls dx P' H' ⟨g.p0, g.nil⟩ he q⟩
  have hbody := body cdv A outer s H E (baseW P0 H (C.map (·.1))) ds C Kn Ke (hr.deeper _) hgu hxk hF rfl
  refine wpAny_mono (hbody (L2.start N vs) P0 H { nx := fun _ H' => Q .non H', rt := Q } g0 ⟨fun G' C' σ' P' H' n q => hk .non C' .non P' H' n.nil .non q, fun d C' v P' H' n r q => hk d C' v P' H' n r q, fun _ _ _ _ _ _ z => z.elim, fun _ _ _ _ _ _ z => z.elim⟩ [] s1 I) (fun fl s' hs => ?_) fun e s' hs => hs
  cases fl with
  | ret u =>
    obtain ⟨v, σ', H', J, r', q⟩ := hs
    exact ⟨v, H', J.os, J.bare, J.base, J.hok, r', q⟩
  | next =>
    obtain ⟨σ', H', J, q⟩ := hs
    exact ⟨.non, H', J.os, J.bare, J.base, J.hok, rfl, q⟩
  | brk => obtain ⟨_, _, _, q⟩ := hs; exact q.elim
  | cont => obtain ⟨_, _, _, q⟩ := hs; exact q.elim

/-! ### calls -/
section
variable {X : Cx} {W : Wd} {G : List (Option D)} {C : Cells} {k : KD} {e : Expr} {es : List Expr} {pos p : Pos} {x : Str} {j n : Nat} {F : FS}
/-- the cells that are handed in stand at the places idx -/
theorem run_has {pins : List (Addr × Obj)} {σ : L2.St} {H : Hp} {s : Shared} {Q : VK} {us : List Value} {vs : List V} {f : Addr} {fd : FuncData} {ps : List Str} (R : FnG X.prog X.w X.K X.mg X.base j f fd ps F) (hr : Room j X.A) (hgu : X.A.guards = some []) (hb : Binds X.K fd ps [])
    (I : Inv X pins σ H s) (r : Vals vs us) (h : spD X.K F vs H Q fun _ _ _ => False) : wpAny (model X.prog X.w) X.A (call (.ref f) us) (EP X pins σ Q) X.xe s := by
  have hl : (us ++ []).length = ps.length := by
    rw [List.append_nil, ← r.length]; exact h.len R.len
  have hbb := hb s us I.kIn hl
  rw [List.append_nil] at hbb
  refine wpAny_call (codeAny_mono (R.run X.A X.stack s H ⟨us, []⟩ us vs Q _ hr hgu I.env0 hbb r h) fun r s' hq => ?_)
  cases r with
  | error e => exact passL (X := X) pins σ H s e s' I hq
  | ok fl =>
    cases fl with
    | ret u => exact I.after hq
    | next => exact False.elim hq
    | brk => exact False.elim hq
    | cont => exact False.elim hq
/-- the callee's end is ours: some cells were handed in (Ci), the others (Co) stayed -/
theorem Good.called {K : PySem.W.Frag} {σ : L2.St} {P H P' H' : Hp} {Ci Co C' : Cells} (g : Good K W G C σ P H) (hp : C.Perm (Ci ++ Co)) (n : Next K (baseW P H (Ci.map (·.1))) [] C' [] P P' H') : Next K W G (C' ++ Co) σ P P' H' := by
  have gg := n.good
  have ndp : ((Ci ++ Co).map (·.1)).Nodup := (hp.map (·.1)).nodup_iff.mp g.nd
  rw [List.map_append, List.nodup_append] at ndp
  obtain ⟨ndi, ndo, dis⟩ := ndp
  have inC : ∀ q, q ∈ Ci → q ∈ C := fun q h => hp.mem_iff.mpr (List.mem_append_left _ h)
  have outC : ∀ q, q ∈ Co → q ∈ C := fun q h => hp.mem_iff.mpr (List.mem_append_right _ h)
  have notio : ∀ a, a ∉ C.map (·.1) → a ∉ Ci.map (·.1) := fun a h z => by
    obtain ⟨q, hq, e⟩ := List.mem_map.mp z
    exact h (List.mem_map.mpr ⟨q, inC q hq, e⟩)
  have cellH : ∀ q ∈ C, H q.1 ≠ none := fun q hq z => by
    obtain ⟨_, _, o, ho, _⟩ := g.ce q hq
    rw [ho] at z; cases z
  have outNot : ∀ q ∈ Co, q.1 ∉ Ci.map (·.1) := fun q hq z => dis q.1 z q.1 (List.mem_map.mpr ⟨q, hq, rfl⟩) rfl
  refine ⟨n.ex, g.wf, gg.le, g.p0.tr n.ex, fun a h => ?_, fun a o h => ?_, fun a h => gg.tr a (g.tr a h), fun i d h => ?_, fun q hq => ?_, ?_, g.len⟩
  · exact (gg.fr a (g.tr a h)).trans (g.fr a h)
  · refine gg.hb a o ?_
    have nc : a ∉ C.map (·.1) := fun z => by
      obtain ⟨q, hq, rfl⟩ := List.mem_map.mp z
      obtain ⟨w1, w2⟩ := g.wf _ _ h
      rcases (g.ce q hq).2.1 with e | e
      · exact w1 e
      · exact w2 e
    rw [baseW_hb (notio a nc)]; exact g.hb a o h
  · obtain ⟨v, h1, h2⟩ := g.sl i d h
    exact ⟨v, h1, h2.ex' n.ex⟩
  · rcases List.mem_append.mp hq with hq | hq
    · obtain ⟨h1, h2, h3⟩ := gg.ce q hq
      refine ⟨h1, ?_, h3⟩
      rcases h2 with e | e
      · cases z : W.H0 q.1 with
        | none => exact .inl rfl
        | some u => exact absurd e (g.tr q.1 (by rw [z]; intro y; cases y))
      · obtain ⟨r, hr, e2⟩ := List.mem_map.mp e
        rw [← e2]; exact (g.ce r (inC r hr)).2.1
    · obtain ⟨h1, h2, o, h3, h4⟩ := g.ce q (outC q hq)
      refine ⟨(gg.fr q.1 (cellH q (outC q hq))).trans h1, h2, o, gg.hb q.1 o (by rw [baseW_hb (outNot q hq)]; exact h3), Cl.ho_ex n.ex h4⟩
  · rw [List.map_append, List.nodup_append]
    refine ⟨gg.nd, ndo, fun a ha b hb z => ?_⟩
    subst z
    obtain ⟨q, hq, rfl⟩ := List.mem_map.mp ha
    obtain ⟨q', hq', e⟩ := List.mem_map.mp hb
    obtain ⟨_, h2, _⟩ := gg.ce q hq
    rcases h2 with e2 | e2
    · exact cellH q' (outC q' hq') (by rw [e]; exact e2)
    · exact outNot q' hq' (by rw [e]; exact e2)
theorem spD_of {σ : L2.St} {P H : Hp} {Q : VK} {vs : List V} {ds : List D} {Ci Co : Cells} (g : Good X.K W G C σ P H) (rs : Reps X.K P vs ds) (hp : C.Perm (Ci ++ Co)) (hF : F ds Ci (fun d C' => k d (C' ++ Co)) KE0)
    (z : ∀ d C' v P' H', Next X.K W G C' σ P P' H' → Rep X.K P' v d → k d C' → Q v H') : spD X.K F vs H Q fun _ _ _ => False := by
  refine ⟨P, ds, Ci, _, KE0, g.le, rs, fun q hq => ?_, ?_, hF, fun d C' v P' H' n r q => z d (C' ++ Co) v P' H' (g.called hp n) r q, fun _ _ _ _ _ _ _ _ z => z.elim⟩
  · obtain ⟨h1, _, h3⟩ := g.ce q (hp.mem_iff.mpr (List.mem_append_left _ hq))
    exact ⟨h1, h3⟩
  · have ndp : ((Ci ++ Co).map (·.1)).Nodup := (hp.map (·.1)).nodup_iff.mp g.nd
    rw [List.map_append, List.nodup_append] at ndp
    exact ndp.1
/-- f(e, ..), nothing raised: C' is split into what is handed in and the rest -/
theorem wE_call (R : HasX X x j F) (hr : Room n X.A) (hgu : X.A.guards = some []) (h : wA X W (e :: es) G C fun ds C1 => ∃ Ci Co, C1.Perm (Ci ++ Co) ∧ F ds Ci (fun d C' => k d (C' ++ Co)) KE0) (hj : j ≤ n := by first | decide | omega) (hg : Gl X x := by rfl)
    (hdb : (x == ("__debug__" : Str)) = false := by decide) (he : starEach (e :: es) X.env = (false, eval e X.env) :: starEach es X.env := by rfl) (hpl : (backTo pos (starEach es X.env)).any (·.1) = false := by rfl) : wE X W (.Call (.Name x p) (e :: es) [] pos) G C k := by
  obtain ⟨f, fd, ps, hm, hk, hb, R⟩ := R
  intro σ P H Q g z pins s I
  refine wpAny_Call_Name_kw (ld_glob I hg hm ?_ hdb)
  refine PySem.W.callWith_K (h₀ := X.base) I.ok.mod.kin hk (thn (h σ P H (fun vs H1 => spD X.K F vs H1 Q fun _ _ _ => False) g (fun ds C1 vs P1 H1 n1 rs q => by
    obtain ⟨Ci, Co, hp, hF⟩ := q
    exact spD_of n1.good rs hp hF fun d C' v P' H' n2 r q => z d C' v P' H' (n1.tr n2) r q) pos pins s I) fun us s1 hq => ?_) he hpl
  obtain ⟨vs, H1, I1, r, q⟩ := hq
  exact ⟨I1.kIn, run_has R (hr.mono hj) hgu hb I1 r q⟩
/-- .. that may raise; what is handed in -/
theorem spD_ofX {wx : WX} {xk : KG} (hw : ∀ ed G' C' cls dx σ P' H', Good X.K W G' C' σ P' H' → ErrIs X.K P' H' cls dx ed → xk ed G' C' → wx cls dx σ H') {σ : L2.St} {P H : Hp} {Q : VK} {vs : List V} {ds : List D} {Ci Co : Cells} (g : Good X.K W G C σ P H) (rs : Reps X.K P vs ds) (hp : C.Perm (Ci ++ Co)) (hF : F ds Ci (fun d C' => k d (C' ++ Co)) (fun ed C' => xk ed G (C' ++ Co)))
    (z : ∀ d C' v P' H', Next X.K W G C' σ P P' H' → Rep X.K P' v d → k d C' → Q v H') : spD X.K F vs H Q fun cls dx H' => wx cls dx σ H' := by
  refine ⟨P, ds, Ci, _, _, g.le, rs, fun q hq => ?_, ?_, hF, fun d C' v P' H' n r q => z d (C' ++ Co) v P' H' (g.called hp n) r q, fun ed C' cls dx P' H' n r q => hw ed G (C' ++ Co) cls dx σ P' H' (g.called hp n).good r q⟩
  · obtain ⟨h1, _, h3⟩ := g.ce q (hp.mem_iff.mpr (List.mem_append_left _ hq))
    exact ⟨h1, h3⟩
  · have ndp : ((Ci ++ Co).map (·.1)).Nodup := (hp.map (·.1)).nodup_iff.mp g.nd
    rw [List.map_append, List.nodup_append] at ndp
    exact ndp.1
theorem run_hasX {wx : WX} (tk : Takes X wx) {pins : List (Addr × Obj)} {σ : L2.St} {H : Hp} {s : Shared} {Q : VK} {us : List Value} {vs : List V} {f : Addr} {fd : FuncData} {ps : List Str} (R : FnG X.prog X.w X.K X.mg X.base j f fd ps F) (hr : Room j X.A) (hgu : X.A.guards = some []) (hb : Binds X.K fd ps [])
    (I : Inv X pins σ H s) (r : Vals vs us) (h : spD X.K F vs H Q fun cls dx H' => wx cls dx σ H') : wpAny (model X.prog X.w) X.A (call (.ref f) us) (EP X pins σ Q) X.xe s := by
  have hl : (us ++ []).length = ps.length := by
    rw [List.append_nil, ← r.length]; exact h.len R.len
  have hbb := hb s us I.kIn hl
  rw [List.append_nil] at hbb
  refine wpAny_call (codeAny_mono (R.run X.A X.stack s H ⟨us, []⟩ us vs Q _ hr hgu I.env0 hbb r h) fun r s' hq => ?_)
  cases r with
  | error e => exact tk e s' (XE.of_call I (fun _ _ _ z => z) hq)
  | ok fl =>
    cases fl with
    | ret u => exact I.after hq
    | next => exact False.elim hq
    | brk => exact False.elim hq
    | cont => exact False.elim hq
theorem wE_callX {xk : KG} (hx : XW X W xk) (R : HasX X x j F) (hr : Room n X.A) (hgu : X.A.guards = some []) (h : wA X W (e :: es) G C fun ds C1 => ∃ Ci Co, C1.Perm (Ci ++ Co) ∧ F ds Ci (fun d C' => k d (C' ++ Co)) (fun ed C' => xk ed G (C' ++ Co))) (hj : j ≤ n := by first | decide | omega) (hg : Gl X x := by rfl)
    (hdb : (x == ("__debug__" : Str)) = false := by decide) (he : starEach (e :: es) X.env = (false, eval e X.env) :: starEach es X.env := by rfl) (hpl : (backTo pos (starEach es X.env)).any (·.1) = false := by rfl) : wE X W (.Call (.Name x p) (e :: es) [] pos) G C k := by
  obtain ⟨f, fd, ps, hm, hk, hb, R⟩ := R
  obtain ⟨wx, tk, hw⟩ := hx.ex
  intro σ P H Q g z pins s I
  refine wpAny_Call_Name_kw (ld_glob I hg hm ?_ hdb)
  refine PySem.W.callWith_K (h₀ := X.base) I.ok.mod.kin hk (thn (h σ P H (fun vs H1 => spD X.K F vs H1 Q fun cls dx H' => wx cls dx σ H') g (fun ds C1 vs P1 H1 n1 rs q => by
    obtain ⟨Ci, Co, hp, hF⟩ := q
    exact spD_ofX hw n1.good rs hp hF fun d C' v P' H' n2 r q => z d C' v P' H' (n1.tr n2) r q) pos pins s I) fun us s1 hq => ?_) he hpl
  obtain ⟨vs, H1, I1, r, q⟩ := hq
  exact ⟨I1.kIn, run_hasX tk R (hr.mono hj) hgu hb I1 r q⟩
/-- all cells are handed in -/
theorem wE_callA {xk : KG} (hx : XW X W xk) (R : HasX X x j F) (hr : Room n X.A) (hgu : X.A.guards = some []) (h : wA X W (e :: es) G C fun ds C1 => F ds C1 k fun ed C' => xk ed G C') (hj : j ≤ n := by first | decide | omega) (hg : Gl X x := by rfl)
    (hdb : (x == ("__debug__" : Str)) = false := by decide) (he : starEach (e :: es) X.env = (false, eval e X.env) :: starEach es X.env := by rfl) (hpl : (backTo pos (starEach es X.env)).any (·.1) = false := by rfl) : wE X W (.Call (.Name x p) (e :: es) [] pos) G C k :=
  wE_callX hx R hr hgu (fun σ P H Q g z => h σ P H Q g fun ds C' v P' H' n r q => z ds C' v P' H' n r ⟨C', [], by rw [List.append_nil], by simpa only [List.append_nil] using q⟩) hj hg hdb he hpl
theorem wE_call0A (R : HasX X x j F) (hr : Room n X.A) (hgu : X.A.guards = some []) (h : wA X W (e :: es) G C fun ds C1 => F ds C1 k KE0) (hj : j ≤ n := by first | decide | omega) (hg : Gl X x := by rfl)
    (hdb : (x == ("__debug__" : Str)) = false := by decide) (he : starEach (e :: es) X.env = (false, eval e X.env) :: starEach es X.env := by rfl) (hpl : (backTo pos (starEach es X.env)).any (·.1) = false := by rfl) : wE X W (.Call (.Name x p) (e :: es) [] pos) G C k :=
  wE_call R hr hgu (fun σ P H Q g z => h σ P H Q g fun ds C' v P' H' n r q => z ds C' v P' H' n r ⟨C', [], by rw [List.append_nil], by simpa only [List.append_nil] using q⟩) hj hg hdb he hpl
end
end EW

namespace EW
open PySem PySem.Spec PyProof.Rows L2

/-- what a law's def must do: from the script it gives True -/
def lawF : FS := fun ds C Kn _ => ∃ ns : List Int, ds = [.scr (ns.map D.int)] ∧ C = [] ∧ ns.length ≤ 63 ∧ ∀ C', Kn (.bl true) C'
theorem reps_ints {K : PySem.W.Frag} {P : Hp} : ∀ ns : List Int, Reps K P (ns.map V.int) (ns.map D.int)
  | [] => .nil
  | n :: r => .cons (.int n) (reps_ints r)
/-- the script as it is known at the entry -/
def scriptH (K : PySem.W.Frag) (a : Addr) (vs : List Value) (ns : List Int) : Hp := fun b => if b = a ∧ (K.lookup a).isNone = true then some (.frz { cls := .type "list", data := .seq vs.toArray } (.lst (ns.map V.int))) else none
theorem law_run {P : Program} {w : World} {K : PySem.W.Frag} {mg mb : Str → Option Value} {k : Nat} {fa a : Addr} {fd : FuncData} {x : Str} {s1 : Shared} {vs : List Value} {ns : List Int}
    (KX : K.In s1.heap) (hns : s1.heap.Ns mainGlobals mg) (hb : s1.heap.Ns builtinsNs mb) (hbb : ∀ x : Str, x ≠ "__name__" → mb x = bootBuiltins x) (hlim : s1.heap.NoLimit) (hg : s1.gens = #[])
    (ha : s1.heap.get? a = some { cls := .type "list", data := .seq vs.toArray }) (hi : IntsAre vs ns) (hl : ns.length ≤ 63) (hr : Room k callerA) (hbind : ∀ (s : Shared) (u : Value), BindsTo s fd ⟨[u], []⟩ [(x, u)])
    (F : ∀ base : Heap, K.In base → base.Ns mainGlobals mg → FnG P w K mg base k fa fd [x] lawF) :
    codeAny (model P w) callerA (.call (.ref fa) ⟨[.ref a], []⟩) (fun r s' => r = .ok (.ret (.bool true)) ∧ OldK s1.heap s'.heap ∧ s'.os = s1.os ∧ AllBare s'.gens) s1 := by
  have rv := vals_ints hi
  have lenV := hi.length
  have line : ns.length ≤ sizeLine := small_le (by omega)
  obtain ⟨H, hH⟩ : ∃ H : Hp, H = scriptH K a vs ns := ⟨_, rfl⟩
  have Hat : ∀ b, H b ≠ none → b = a ∧ K.lookup a = none ∧ H b = some (.frz { cls := .type "list", data := .seq vs.toArray } (.lst (ns.map V.int))) := fun b z => by
    rw [hH] at z ⊢
    unfold scriptH at z ⊢
    split at z
    · rename_i q
      rw [if_pos q]
      exact ⟨q.1, by simpa using q.2, rfl⟩
    · exact absurd rfl z
  have hok : HOk P w H s1.heap := fun b u e => by
    obtain ⟨rfl, _, q⟩ := Hat b (by rw [e]; intro z; cases z)
    rw [q] at e; cases e
    exact ⟨ha, by rw [List.length_map]; exact line, vs, _, rv, ha⟩
  have hS : SqL K H a (ns.map V.int) := by
    cases hk : K.lookup a with
    | none => exact .inl (.inr ⟨_, by rw [hH]; unfold scriptH; rw [if_pos ⟨rfl, by rw [hk]; rfl⟩]⟩)
    | some o =>
      have e := KX a o hk
      rw [ha] at e; cases e
      exact .inr ⟨_, vs.toArray, _, hk, rfl, rfl, rfl, by rw [List.size_toArray, lenV]; exact line, by simpa using rv⟩
  have hid : ∀ {b : Addr} {o : Obj}, s1.heap.get? b = some o → H b = none → (hidT s1.heap H).get? b = some o := fun e n => hidT_get e n
  have nodict : ∀ {b : Addr} {o : Obj} {es : Array DictEntry} {ep : Nat}, s1.heap.get? b = some o → o.data = .dict es ep → H b = none := fun {b o es ep} e d => by
    cases q : H b with
    | none => rfl
    | some u =>
      obtain ⟨rfl, _, _⟩ := Hat b (by rw [q]; intro z; cases z)
      rw [ha] at e; cases e
      have d' : Data.seq vs.toArray _ = Data.dict es ep := d
      cases d'
  have nsB : ∀ {b : Addr} {m : Str → Option Value}, s1.heap.Ns b m → (hidT s1.heap H).Ns b m := fun {b m} z => by
    obtain ⟨o, es, ep, e, d, r⟩ := z
    exact ⟨o, es, ep, hid e (nodict e d), d, r⟩
  have KB : K.In (hidT s1.heap H) := fun b o e => hid (KX b o e) (by
    cases q : H b with
    | none => rfl
    | some u =>
      obtain ⟨rfl, k0, _⟩ := Hat b (by rw [q]; intro z; cases z)
      rw [k0] at e; cases e)
  have M : Mod K mg (hidT s1.heap H) := ⟨KB, nsB hns, ⟨mb, nsB hb, hbb⟩, let ⟨mc, h1, h2⟩ := hlim; ⟨mc, nsB h1, h2⟩⟩
  have E0 : Env0 P w K mg (hidT s1.heap H) callerA [] s1 H :=
    { frames := rfl, mod := M, bs := fun b o e => of_hidT e, bsz := Nat.le_of_eq (hidT_size _ _), funs := trivial, frf := fun b z => (by cases z), hok := hok, bare := .of_eq hg }
  have sp : spD K lawF [.ref a] H (fun v _ => v = .bl true) fun _ _ _ => False :=
    ⟨H, [.scr (ns.map D.int)], [], fun d _ => d = .bl true, KE0, fun _ _ h => .inl h, .cons (.scr hS (reps_ints ns)) .nil, fun q z => (by cases z), List.nodup_nil, ⟨ns, rfl, rfl, hl, fun _ => rfl⟩,
      fun d C' v P' H' n r q => (by subst q; cases r; rfl), fun _ _ _ _ _ _ _ _ z => z.elim⟩
  refine codeAny_mono ((F _ KB (nsB hns)).run callerA [] s1 H ⟨[.ref a], []⟩ [.ref a] [.ref a] _ _ hr rfl E0 (hbind s1 (.ref a)) (.cons rfl .nil) sp) fun r s' h => ?_
  rcases r with e | fl
  · obtain ⟨_, _, _, _, _, _, _, _, _, _, _, _, z⟩ := h
    exact z.elim
  · cases fl with
    | ret u =>
      obtain ⟨v, H', os, bare, un, hok', r', q⟩ := h
      have q' : v = .bl true := q
      subst q'
      obtain rfl : u = Value.bool true := r'
      refine ⟨rfl, OldK.of_keep fun b o e => ?_, os, bare⟩
      cases q : H b with
      | none => exact un.keep b o e q (by intro z; cases z) (by intro z; cases z)
      | some u =>
        obtain ⟨rfl, _, z⟩ := Hat b (by rw [q]; intro z; cases z)
        have z2 := hok' b _ (un.frzs b _ _ z)
        obtain ⟨e2, _⟩ := z2
        rw [ha] at e; cases e
        exact e2
    | next => exact h.elim
    | brk => exact h.elim
    | cont => exact h.elim
/-- the end of a law's row -/
theorem law_end {l : PySem.W.OpenLaw} {k : Nat} {q : Program} {loose : List Str} {XP : (Str → Option Value) → Heap → Prop} {YP : World → Heap → Prop} {d : DefRec} {K : Params → PySem.W.Frag} {x : Str}
    (hn : l.most = some 63) (hdf : d.params.defaults = []) (hr : Room k callerA) (hY : ∀ (w : World) (h : Heap), YP w h → (K w.params).In h)
    (F : ∀ (w : World) (mg : Str → Option Value) (fa : Addr) (h : Heap), (K w.params).In h → h.Ns mainGlobals mg → mg d.name = some (.ref fa) →
      ∃ fd : FuncData, (∀ (s : Shared) (u : Value), BindsTo s fd ⟨[u], []⟩ [(x, u)]) ∧ ∀ base : Heap, (K w.params).In base → base.Ns mainGlobals mg → FnG l.prog w (K w.params) mg base k fa fd [x] lawF) :
    PySem.W.WalkO q loose XP YP l.row.toRowW d [] (fun f vs => PySem.call f vs) := by
  refine Att.attach_call hn hdf fun w s0 s1 mg mb fa o pm cd doc a vs ns G Y ho hd hcd hmg hobj hints hlen hg => ?_
  obtain ⟨fd, hb, hF⟩ := F w mg fa _ (hY w _ Y) G.T.g hmg
  exact law_run (hY w _ Y) G.T.g G.T.b G.T.builtins G.T.nolimit hg hobj hints hlen hr hb hF
end EW

namespace EW
open PySem PySem.Spec PyProof.Rows L2
section
variable {X : Cx} {W : Wd} {G : List (Option D)} {C : Cells} {k : KD} {kb : KB} {E : DE} {e a b c : Expr} {es : List Expr} {pos p' apos : Pos} {x : Str}

/-! ### calls of what is built in -/
theorem wE_callB (id : String) (hv : bootBuiltins x = some (.builtin id)) (hm : X.mg x = none) (h : wA X W (e :: es) G C fun ds C1 => cD X W (.builtin id) ds G C1 k) (hg : Gl X x := by rfl) (hn : x ≠ "__name__" := by decide) (hd : (x == ("__debug__" : Str)) = false := by decide)
    (he : starEach (e :: es) X.env = (false, eval e X.env) :: starEach es X.env := by rfl) (hp : (backTo pos (starEach es X.env)).any (·.1) = false := by rfl) : wE X W (.Call (.Name x p') (e :: es) [] pos) G C k :=
  wE_of (pe_callB (r := semC X (.builtin id)) (fun pins s σ H xs us Q I r h => h pins s σ us I r) hg hm hv pa_sem hn hd he hp) fun σ P H Q g z => h σ P H _ g fun ds C1 vs P1 H1 n1 r1 q => q σ P1 H1 Q vs n1.good r1 fun d C2 v P2 H2 n2 => z d C2 v P2 H2 (n1.tr n2)
theorem wE_callT (T : String) (hv : bootBuiltins x = some (.type T)) (hm : X.mg x = none) (h : wA X W (e :: es) G C fun ds C1 => cD X W (.type T) ds G C1 k) (hg : Gl X x := by rfl) (hn : x ≠ "__name__" := by decide) (hd : (x == ("__debug__" : Str)) = false := by decide)
    (he : starEach (e :: es) X.env = (false, eval e X.env) :: starEach es X.env := by rfl) (hp : (backTo pos (starEach es X.env)).any (·.1) = false := by rfl) : wE X W (.Call (.Name x p') (e :: es) [] pos) G C k :=
  wE_of (pe_callTy (r := semC X (.type T)) (fun pins s σ H xs us Q I r h => h pins s σ us I r) hg hm hv pa_sem hn hd he hp) fun σ P H Q g z => h σ P H _ g fun ds C1 vs P1 H1 n1 r1 q => q σ P1 H1 Q vs n1.good r1 fun d C2 v P2 H2 n2 => z d C2 v P2 H2 (n1.tr n2)
theorem reps1 {K : PySem.W.Frag} {P : Hp} {vs : List V} {d : D} (r : Reps K P vs [d]) : ∃ v, vs = [v] ∧ Rep K P v d := by
  cases r with
  | cons h r => cases r; exact ⟨_, rfl, h⟩
theorem reps2 {K : PySem.W.Frag} {P : Hp} {vs : List V} {d e : D} (r : Reps K P vs [d, e]) : ∃ v u, vs = [v, u] ∧ Rep K P v d ∧ Rep K P u e := by
  cases r with
  | cons h r => obtain ⟨u, rfl, h'⟩ := reps1 r; exact ⟨_, _, rfl, h, h'⟩
theorem c_lenL {ds : List D} (q : k (.int ds.length) C) : cD X W (.builtin "len") [.lst ds] G C k := cD_of call_len_seq fun σ P H Q vs g rr z => by
  obtain ⟨v, rfl, r⟩ := reps1 rr
  cases r with
  | @lst a ws _ h rs => exact ⟨a, ws, rfl, .inl (.inl (.inl (le_lst g.le h))), by rw [rs.len]; exact z _ C _ P H g.refl (.int _) q⟩
theorem c_lenR {ds : List D} (q : k (.int ds.length) C) : cD X W (.builtin "len") [.scr ds] G C k := cD_of call_len_seq fun σ P H Q vs g rr z => by
  obtain ⟨v, rfl, r⟩ := reps1 rr
  cases r with
  | @scr a ws _ h rs => exact ⟨a, ws, rfl, .inl (le_sqL g.le h), by rw [rs.len]; exact z _ C _ P H g.refl (.int _) q⟩
theorem c_lenU {ds : List D} (q : k (.int ds.length) C) : cD X W (.builtin "len") [.tup ds] G C k := cD_of call_len_seq fun σ P H Q vs g rr z => by
  obtain ⟨v, rfl, r⟩ := reps1 rr
  cases r with
  | @tup a ws _ h rs => exact ⟨a, ws, rfl, .inr (.inl (.inl (le_tup g.le h))), by rw [rs.len]; exact z _ C _ P H g.refl (.int _) q⟩
theorem c_lenS {y : Str} (hl : y.length ≤ 100000) (q : k (.int y.length) C) : cD X W (.builtin "len") [.str y] G C k := cD_of call_len_str fun σ P H Q vs g rr z => by
  obtain ⟨v, rfl, r⟩ := reps1 rr
  cases r
  exact ⟨y, rfl, small_le hl, z _ C _ P H g.refl (.int _) q⟩
theorem c_lenC (j : Nat) {p : Addr} {ds : List D} (hc : C[j]? = some (p, .lst ds)) (q : k (.int ds.length) C) : cD X W (.builtin "len") [.ref p] G C k := cD_of call_len_seq fun σ P H Q vs g rr z => by
  obtain ⟨v, rfl, r⟩ := reps1 rr
  cases r
  obtain ⟨o, ho, ws, rfl, rs⟩ := g.cell hc
  exact ⟨p, ws, rfl, .inl (.inl (.inl ho)), by rw [rs.len]; exact z _ C _ P H g.refl (.int _) q⟩
theorem c_max2 {i j : Int} (hc : X.calm = true) (q : k (.int (max i j)) C) : cD X W (.builtin "max") [.int i, .int j] G C k := cD_of (call_max2 hc) fun σ P H Q vs g r z => by
  obtain ⟨v, u, rfl, r1, r2⟩ := reps2 r
  cases r1; cases r2
  refine ⟨i, j, rfl, ?_⟩
  have e : (if j > i then j else i) = max i j := by split <;> omega
  rw [e]; exact z _ C _ P H g.refl (.int _) q
theorem c_min2 {i j : Int} (hc : X.calm = true) (q : k (.int (min i j)) C) : cD X W (.builtin "min") [.int i, .int j] G C k := cD_of (call_min2 hc) fun σ P H Q vs g r z => by
  obtain ⟨v, u, rfl, r1, r2⟩ := reps2 r
  cases r1; cases r2
  refine ⟨i, j, rfl, ?_⟩
  have e : (if j < i then j else i) = min i j := by split <;> omega
  rw [e]; exact z _ C _ P H g.refl (.int _) q
theorem reps_map {α : Type} {f : α → V} {g : α → D} {K : PySem.W.Frag} {P : Hp} (inv : ∀ a v, Rep K P v (g a) → v = f a) : ∀ {xs : List α} {vs : List V}, Reps K P vs (xs.map g) → vs = xs.map f
  | [], _, .nil => rfl
  | a :: r, _, .cons h t => by rw [List.map_cons, inv a _ h, reps_map inv t]
theorem reps_intsV {K : PySem.W.Frag} {P : Hp} {ns : List Int} {vs : List V} (r : Reps K P vs (ns.map D.int)) : vs = ns.map V.int := reps_map (f := V.int) (fun a v h => by cases h; rfl) r
theorem reps_strsV {K : PySem.W.Frag} {P : Hp} {ns : List Str} {vs : List V} (r : Reps K P vs (ns.map D.str)) : vs = ns.map V.str := reps_map (f := V.str) (fun a v h => by cases h; rfl) r
theorem reps_blsV {K : PySem.W.Frag} {P : Hp} {ns : List Bool} {vs : List V} (r : Reps K P vs (ns.map D.bl)) : vs = ns.map V.bl := reps_map (f := V.bl) (fun a v h => by cases h; rfl) r
theorem reps_strs {K : PySem.W.Frag} {P : Hp} : ∀ ns : List Str, Reps K P (ns.map V.str) (ns.map D.str)
  | [] => .nil
  | n :: r => .cons (.str n) (reps_strs r)
theorem c_all {bs : List Bool} (hc : X.calm = true) (q : k (.bl (bs.all id)) C) : cD X W (.builtin "all") [.lst (bs.map D.bl)] G C k := cD_of (cr_all hc) fun σ P H Q vs g rr z => by
  obtain ⟨v, rfl, r⟩ := reps1 rr
  cases r with
  | @lst a ws _ h rs =>
    rw [reps_blsV rs] at h
    exact ⟨a, bs, rfl, .inl (.inl (le_lst g.le h)), z _ C _ P H g.refl (.bl _) q⟩
theorem c_any {bs : List Bool} (hc : X.calm = true) (q : k (.bl (bs.any id)) C) : cD X W (.builtin "any") [.lst (bs.map D.bl)] G C k := cD_of (cr_any hc) fun σ P H Q vs g rr z => by
  obtain ⟨v, rfl, r⟩ := reps1 rr
  cases r with
  | @lst a ws _ h rs =>
    rw [reps_blsV rs] at h
    exact ⟨a, bs, rfl, .inl (.inl (le_lst g.le h)), z _ C _ P H g.refl (.bl _) q⟩

/-! ### kinds -/
def kindD : D → Option String
  | .non => some "NoneType"
  | .bl _ => some "bool"
  | .int _ => some "int"
  | .str _ => some "str"
  | .lst _ => some "list"
  | .tup _ => some "tuple"
  | .dct _ _ => some "dict"
  | _ => none
theorem kind_ty {K : PySem.W.Frag} {W : Wd} {G : List (Option D)} {C : Cells} {σ : L2.St} {P H : Hp} (g : Good K W G C σ P H) {v : V} {d : D} {t : String} (r : Rep K P v d) (h : kindD d = some t) : TyX K H v (.type t) := by
  cases r <;> first | (cases h; done) | skip
  · cases h; exact .base .non
  · cases h; exact .base (.bl _)
  · cases h; exact .base (.int _)
  · cases h; exact .base (.str _)
  · rename_i a vs ds hp rs; cases h; exact .base (.lst (le_lst g.le hp))
  · rename_i a vs ds hp rs; cases h; exact .base (.tup (le_tup g.le hp))
  · rename_i a od ks vs ds hp hl rs
    cases h
    exact .fDict (le_frz g.le hp)
def kindsL : List String := ["NoneType", "bool", "int", "str", "list", "tuple", "dict"]
def classL : List String := ["bool", "int", "str", "list", "tuple", "dict"]
def instT (t T : String) : Bool := t == T || (t == "bool" && T == "int")
theorem kit_all : (kindsL.all fun t => classL.all fun T => decide (kitB t T = some (instT t T))) = true := by decide +kernel
theorem kit_at {t T : String} (h : t ∈ kindsL) (h' : T ∈ classL) : kitB t T = some (instT t T) := of_decide_eq_true (List.all_eq_true.mp (List.all_eq_true.mp kit_all t h) T h')
theorem kind_in {d : D} {t : String} (h : kindD d = some t) : t ∈ kindsL := by
  cases d <;> first | (cases h; done) | (cases h; decide)
/-- is d of the built-in class T -/
def isB (d : D) (T : String) : Bool := match kindD d with
  | some t => instT t T
  | none => false
theorem c_isi {d : D} {T : String} (h1 : (kindD d).isSome = true) (q : k (.bl (isB d T)) C) (hT : T ∈ classL := by decide) : cD X W (.builtin "isinstance") [d, .ty T] G C k := cD_of call_isi fun σ P H Q vs g rs z => by
  obtain ⟨v, u, rfl, r1, r2⟩ := reps2 rs
  obtain ⟨t, ht⟩ := Option.isSome_iff_exists.mp h1
  cases r2
  have e : isB d T = instT t T := by unfold isB; rw [ht]
  exact ⟨v, .ty T, .type t, .type T, isB d T, rfl, .ty T, kind_ty g r1 ht, by rw [e]; exact kit_ty (kit_at (kind_in ht) hT), z _ C _ P H g.refl (.bl _) q⟩
/-- isinstance(x, (T, U)) -/
theorem c_isi2 {d : D} {T U : String} (h1 : (kindD d).isSome = true) (q : k (.bl (isB d T || isB d U)) C) (hT : T ∈ classL := by decide) (hU : U ∈ classL := by decide) : cD X W (.builtin "isinstance") [d, .tup [.ty T, .ty U]] G C k := cD_of call_isiT fun σ P H Q vs g rs z => by
  obtain ⟨v, u, rfl, r1, r2⟩ := reps2 rs
  obtain ⟨t, ht⟩ := Option.isSome_iff_exists.mp h1
  have e1 : isB d T = instT t T := by unfold isB; rw [ht]
  have e2 : isB d U = instT t U := by unfold isB; rw [ht]
  have h2 : kitB t T = some (isB d T) := by rw [e1]; exact kit_at (kind_in ht) hT
  have h3 : kitB t U = some (isB d U) := by rw [e2]; exact kit_at (kind_in ht) hU
  cases r2 with
  | @tup a ws _ hp rs =>
    obtain ⟨w1, w2, rfl, q1, q2⟩ := reps2 rs
    cases q1; cases q2
    have hk : PySem.W.kitAny X.K (.type t) [.type T, .type U] = some (isB d T || isB d U) := kitAny_cons (kit_ty h2) (fun e => kitAny_cons (kit_ty h3) (fun e' => by rw [e, e']; exact kitAny_nil) fun e' => by rw [e, e']; rfl) fun e => by rw [e]; rfl
    exact ⟨v, a, [.ty T, .ty U], .type t, [.type T, .type U], _, rfl, le_tup g.le hp, .cons (.ty T) (.cons (.ty U) .nil), kind_ty g r1 ht, hk, z _ C _ P H g.refl (.bl _) q⟩
/-- isinstance(e, T), T the name of a built-in class -/
theorem wE_isi (T : String) (mI : X.mg "isinstance" = none) (mT : X.mg x = none) (hv : bootBuiltins x = some (.type T)) (h : wE X W a G C fun d C1 => (kindD d).isSome = true ∧ k (.bl (isB d T)) C1) {pT : Pos} (hg : Gl X "isinstance" := by rfl) (hg2 : Gl X x := by rfl)
    (hn : x ≠ "__name__" := by decide) (hd : (x == ("__debug__" : Str)) = false := by decide) (hT : T ∈ classL := by decide)
    (he : starEach [a, .Name x pT] X.env = (false, eval a X.env) :: starEach [.Name x pT] X.env := by rfl) (hp : (backTo pos (starEach [.Name x pT] X.env)).any (·.1) = false := by rfl) (he2 : starEach [.Name x pT] X.env = (false, eval (.Name x pT) X.env) :: starEach [] X.env := by rfl) :
    wE X W (.Call (.Name "isinstance" p') [a, .Name x pT] [] pos) G C k :=
  wE_callB "isinstance" (by decide +kernel) mI (wA_cons (h.mono fun d C1 q => wA_cons (wE_ty mT hv (wA_nil (c_isi q.1 q.2 hT)) hg2 hn hd) he2) he) hg (by decide) (by decide) he hp
end
end EW

namespace EW
open PySem PySem.Spec PyProof.Rows L2

/-! ### data as the library has it: == and repr -/
mutual
def pyD : D → PyData
  | .non => .none
  | .bl b => .bool b
  | .int i => .int i
  | .str s => .str s
  | .lst xs => .list (pyDs xs)
  | .tup xs => .tuple (pyDs xs)
  | .scr xs => .list (pyDs xs)
  | _ => .none
def pyDs : List D → List PyData
  | [] => []
  | x :: xs => pyD x :: pyDs xs
end
mutual
def plD : D → Bool
  | .non | .bl _ | .int _ | .str _ => true
  | .lst xs | .tup xs | .scr xs => plDs xs
  | _ => false
def plDs : List D → Bool
  | [] => true
  | x :: xs => plD x && plDs xs
end
mutual
theorem rep_dp {K : PySem.W.Frag} {P H : Hp} (l : Le P H) : ∀ (d : D) {v : V}, plD d = true → Rep K P v d → Dp K H v (pyD d)
  | .non, _, _, .non => .non
  | .bl b, _, _, .bl _ => .bl b
  | .int i, _, _, .int _ => .int i
  | .str x, _, _, .str _ => .str x
  | .lst xs, _, h, .lst e r => .lst (.inl (.inl (le_lst l e))) (reps_dp l xs (by simpa [plD] using h) r)
  | .scr xs, _, h, .scr e r => .lst (le_sqL l e) (reps_dp l xs (by simpa [plD] using h) r)
  | .tup xs, _, h, .tup e r => .tup (.inl (.inl (le_tup l e))) (reps_dp l xs (by simpa [plD] using h) r)
theorem reps_dp {K : PySem.W.Frag} {P H : Hp} (l : Le P H) : ∀ (ds : List D) {vs : List V}, plDs ds = true → Reps K P vs ds → DpAll K H vs (pyDs ds)
  | [], _, _, .nil => .nil
  | d :: ds, _, h, .cons r rs => by
    have h' : plD d = true ∧ plDs ds = true := by simpa [plDs] using h
    exact .cons (rep_dp l d h'.1 r) (reps_dp l ds h'.2 rs)
end
theorem pyDs_map {α : Type} (l : List α) (g : α → D) : pyDs (l.map g) = l.map fun x => pyD (g x) := by
  induction l with
  | nil => rfl
  | cons x r ih => rw [List.map_cons, List.map_cons, pyDs, ih]
theorem plDs_map {α : Type} {l : List α} {g : α → D} (h : ∀ x ∈ l, plD (g x) = true) : plDs (l.map g) = true := by
  induction l with
  | nil => rfl
  | cons x r ih => rw [List.map_cons, plDs, h x (by simp), ih fun y hy => h y (by simp [hy])]; rfl
/-- data that is small enough to be shown -/
structure Fit (d : PyData) (n dep : Nat) : Prop where
  lay : d.canLay0 = true
  shw : d.showable = true
  lv : d.leavesShort 13 = true
  bk : d.bulk ≤ n
  dp : d.depth ≤ dep
  nd : d.hasDict = false
theorem Fit.mono {d : PyData} {n m a b : Nat} (f : Fit d n a) (h : n ≤ m) (h' : a ≤ b) : Fit d m b := ⟨f.lay, f.shw, f.lv, Nat.le_trans f.bk h, Nat.le_trans f.dp h', f.nd⟩
theorem fit_none : Fit .none 0 0 := ⟨rfl, rfl, rfl, Nat.le_refl _, Nat.le_refl _, rfl⟩
theorem fit_bool (b : Bool) : Fit (.bool b) 0 0 := ⟨rfl, rfl, rfl, Nat.le_refl _, Nat.le_refl _, rfl⟩
theorem log_lt {n k : Nat} (h : n < 2 ^ k) (hk : 0 < k) : n.log2 < k := by
  by_cases e : n = 0
  · subst e; exact hk
  · exact (Nat.log2_lt e).mpr h
theorem fit_int {i : Int} (h1 : -10 ^ 11 < i) (h2 : i < 10 ^ 11) : Fit (.int i) 0 0 := by
  have ha : i.natAbs < 10 ^ 11 := by omega
  refine ⟨rfl, ?_, ?_, Nat.le_refl _, Nat.le_refl _, rfl⟩
  · show decide (i.natAbs.log2 < 1920) = true
    exact decide_eq_true (Nat.lt_trans (log_lt (k := 40) (Nat.lt_trans ha (by decide)) (by decide)) (by decide))
  · show decide ((PyData.shown (.int i)).length ≤ 13) = true
    exact decide_eq_true (PyData.shown_int_le (Nat.lt_trans ha (by decide)))
theorem fit_str {x : Str} {n : Nat} (hl : x.length ≤ n) (hc : ∀ c ∈ x.cps.toList, c < 128) : Fit (.str x) n 0 := by
  refine ⟨?_, rfl, ?_, hl, Nat.le_refl _, rfl⟩
  · show x.cps.all (fun c => decide (c < 0x110000)) = true
    rw [← Array.all_toList, List.all_eq_true]
    intro c h
    exact decide_eq_true (Nat.lt_trans (hc c h) (by decide))
  · show (x.cps.toList.all fun c => decide (c < 16 ^ 8)) = true
    rw [List.all_eq_true]
    intro c h
    exact decide_eq_true (Nat.lt_trans (hc c h) (by decide))
structure FitL (ds : List PyData) (n dep : Nat) : Prop where
  lay : PyData.canLayAll0 ds = true
  shw : PyData.showableAll ds = true
  lv : PyData.leavesShortAll 13 ds = true
  bk : PyData.bulkAll ds ≤ n
  dp : PyData.depthAll ds ≤ dep
  nd : PyData.hasDictAll ds = false
theorem fits_nil {dep : Nat} : FitL [] 0 dep := ⟨rfl, rfl, rfl, Nat.le_refl _, Nat.zero_le _, rfl⟩
theorem fits_cons {d : PyData} {ds : List PyData} {n m dep : Nat} (f : Fit d n dep) (g : FitL ds m dep) : FitL (d :: ds) (n + 1 + m) dep := by
  refine ⟨?_, ?_, ?_, ?_, ?_, ?_⟩
  · simp [PyData.canLayAll0, f.lay, g.lay]
  · simp [PyData.showableAll, f.shw, g.shw]
  · simp [PyData.leavesShortAll, f.lv, g.lv]
  · have h1 := f.bk; have h2 := g.bk
    simp only [PyData.bulkAll]; omega
  · have h1 := f.dp; have h2 := g.dp
    simp only [PyData.depthAll]; omega
  · simp [PyData.hasDictAll, f.nd, g.nd]
theorem fits_map {α : Type} {l : List α} {g : α → PyData} {n dep m : Nat} (h : ∀ x ∈ l, Fit (g x) n dep) (hm : l.length ≤ m) : FitL (l.map g) (m * (n + 1)) dep := by
  have key : ∀ l : List α, (∀ x ∈ l, Fit (g x) n dep) → FitL (l.map g) (l.length * (n + 1)) dep := by
    intro l
    induction l with
    | nil => intro _; rw [List.length_nil, Nat.zero_mul]; exact fits_nil
    | cons x r ih =>
      intro h
      have f := fits_cons (h x (by simp)) (ih fun y hy => h y (by simp [hy]))
      have e : (x :: r).length * (n + 1) = n + 1 + r.length * (n + 1) := by rw [List.length_cons, Nat.succ_mul]; omega
      rw [e]; exact f
  have f := key l h
  exact ⟨f.lay, f.shw, f.lv, Nat.le_trans f.bk (Nat.mul_le_mul_right _ hm), f.dp, f.nd⟩
theorem FitL.mono {d : List PyData} {n m a b : Nat} (f : FitL d n a) (h : n ≤ m) (h' : a ≤ b) : FitL d m b := ⟨f.lay, f.shw, f.lv, Nat.le_trans f.bk h, Nat.le_trans f.dp h', f.nd⟩
theorem fit_list {ds : List PyData} {n dep : Nat} (f : FitL ds n dep) : Fit (.list ds) n (dep + 1) := ⟨f.lay, f.shw, f.lv, f.bk, Nat.succ_le_succ f.dp, f.nd⟩
theorem fit_tup {ds : List PyData} {n dep : Nat} (f : FitL ds n dep) : Fit (.tuple ds) n (dep + 1) := ⟨f.lay, f.shw, f.lv, f.bk, Nat.succ_le_succ f.dp, f.nd⟩
theorem Fit.size {d : PyData} {n dep : Nat} (f : Fit d n dep) (h : n ≤ 1000000) : d.shown.length ≤ sizeLine := by
  have z := PyData.shown_le_bulk 13 (by decide) d f.lv
  have b := f.bk
  rw [sizeLine_eq]
  omega
theorem Fit.shaped {d : PyData} {n dep : Nat} (f : Fit d n dep) (h : dep ≤ 64) : SeqAt.shaped d = true := by
  unfold SeqAt.shaped
  rw [f.lay, decide_eq_true (Nat.le_trans f.dp h)]; rfl

section
variable {X : Cx} {W : Wd} {G : List (Option D)} {C : Cells} {k : KD} {kb : KB} {E : DE} {e a b c : Expr} {es : List Expr} {pos p' apos : Pos} {x : Str}
/-- x == y of plain data -/
theorem o_eqP {x y : D} {n dep n' dep' : Nat} (hu : X.A.units + 64 < cLine) (h1 : plD x = true) (h2 : plD y = true) (f1 : Fit (pyD x) n dep) (f2 : Fit (pyD y) n' dep') (d1 : dep ≤ 64) (d2 : dep' ≤ 64) (q : k (.bl (PyData.eqv (pyD x) (pyD y))) C) : oD X W (compareOp .Eq) x y G C k :=
  oD_of (op_eqD hu) fun σ P H Q v u g r1 r2 z => ⟨pyD x, pyD y, rep_dp g.le x h1 r1, rep_dp g.le y h2 r2, f1.shaped d1, f2.shaped d2, z _ C _ P H g.refl (.bl _) q⟩
theorem o_neP {x y : D} {n dep n' dep' : Nat} (hu : X.A.units + 64 < cLine) (h1 : plD x = true) (h2 : plD y = true) (f1 : Fit (pyD x) n dep) (f2 : Fit (pyD y) n' dep') (d1 : dep ≤ 64) (d2 : dep' ≤ 64) (q : k (.bl (!PyData.eqv (pyD x) (pyD y))) C) : oD X W (compareOp .NotEq) x y G C k :=
  oD_of (op_neD hu) fun σ P H Q v u g r1 r2 z => ⟨pyD x, pyD y, rep_dp g.le x h1 r1, rep_dp g.le y h2 r2, f1.shaped d1, f2.shaped d2, z _ C _ P H g.refl (.bl _) q⟩
theorem c_repr {x : D} {n dep : Nat} (hu : X.A.units + 100 < cLine) (hgu : X.A.guards = some []) (h1 : plD x = true) (f : Fit (pyD x) n dep) (hn : n ≤ 1000000) (hd : dep ≤ 64) (q : k (.str (pyD x).shown) C) : cD X W (.builtin "repr") [x] G C k := by
  intro σ P H Q vs g rs z pins s σ' us I rv
  obtain ⟨v, rfl, r⟩ := reps1 rs
  obtain ⟨u, rfl, ru⟩ := vals1 rv
  have dp := rep_dp g.le x h1 r
  have fin : ∀ s', Inv X pins σ' H s' → ∀ tk, EP X pins σ' Q (.str (pyD x).shown tk) s' := fun s' I' tk => ⟨.str (pyD x).shown, H, I', ⟨tk, rfl⟩, z _ C _ P H g.refl (.str _) q⟩
  have cont : ∀ a, u = .ref a → wpAny (model X.prog X.w) X.A (call (.builtin "repr") [u]) (EP X pins σ' Q) X.xe s := fun a e => by
    subst e
    obtain ⟨as, rd⟩ := Dp.reads I (pyD x) v (.ref a) dp ru
    refine repr_of_reads' rd f.shw (fun e => by rw [f.nd] at e; cases e) hgu ?_ (fun b o e => e) (fun h' u' tk hk => fin _ (I.kept hk) u') (f.size hn)
    have := f.dp; omega
  cases r with
  | non => cases (show u = Value.none from ru); exact PySem.P.repr_of_none (fin _ (I.tok _) _)
  | bl y => cases (show u = Value.bool y from ru); exact PySem.P.repr_of_bool (fin _ (I.tok _) _)
  | int i => obtain ⟨t, rfl⟩ := (show ∃ t, u = Value.int i t from ru); exact PySem.P.repr_of_int (of_decide_eq_true f.shw) (fin _ (I.tok _) _)
  | str y => obtain ⟨t, rfl⟩ := (show ∃ t, u = Value.str y t from ru); exact PySem.P.repr_of_str (fin _ (I.tok _) _) (f.size hn)
  | lst _ _ => exact cont _ ru
  | scr _ _ => exact cont _ ru
  | tup _ _ => exact cont _ ru
  | dct _ _ _ => cases h1
  | obj _ _ _ => cases h1
  | ref _ => cases h1
  | ty _ => cases h1
end
end EW

namespace EW
open PySem PySem.Spec PyProof.Rows L2
section
variable {X : Cx} {W : Wd} {G : List (Option D)} {C : Cells} {k : KD} {kb : KB} {E : DE} {e a b c : Expr} {es : List Expr} {pos p' apos : Pos} {x : Str}
/-! ### texts -/
def repS (s : Str) (n : Nat) : Str := ⟨(List.replicate n s.cps.toList).flatten.toArray⟩
theorem fold_app : ∀ (n : Nat) (a : Array Nat) (acc : Array Nat), ((List.replicate n a).foldl (· ++ ·) acc).toList = acc.toList ++ (List.replicate n a.toList).flatten
  | 0, a, acc => by simp
  | n + 1, a, acc => by
    rw [List.replicate_succ, List.replicate_succ, List.foldl_cons, fold_app n a, List.flatten_cons, Array.toList_append, List.append_assoc]
theorem repS_fold (s : Str) (n : Nat) : (⟨(List.replicate n s.cps).foldl (· ++ ·) #[]⟩ : Str) = repS s n := by
  have h := fold_app n s.cps #[]
  unfold repS
  congr 1
  apply Array.toList_inj.mp
  rw [h]; simp
theorem repS_len (s : Str) (n : Nat) : (repS s n).length = n * s.length := by
  show (List.replicate n s.cps.toList).flatten.toArray.size = n * s.cps.size
  rw [List.size_toArray, List.length_flatten, List.map_replicate, List.sum_replicate_nat]
  rw [Array.length_toList]
theorem op_mulS : OpR X (binaryOp .Mult) (fun x y H Q => ∃ s n, x = .str s ∧ y = .int ((n : Nat) : Int) ∧ n ≤ 100000 ∧ s.length * n ≤ 100000 ∧ Q (.str (repS s n)) H) := by
  intro pins st σ H x y v u Q I rx ry h
  obtain ⟨s, n, rfl, rfl, hn, hz, q⟩ := h
  obtain ⟨t, rfl⟩ := rx
  obtain ⟨t', rfl⟩ := ry
  refine PySem.P.mul_str ?_ (fun _ _ => ?_) (fun _ _ => ?_) ?_
  · have h1 : ¬ ((n : Int) < -(2 ^ 63 : Int)) := by omega
    have h2 : ¬ ((n : Int) ≥ 2 ^ 63) := by omega
    rw [decide_eq_false h1, decide_eq_false h2]; rfl
  · intro hh
    have hs : (s.length : Int) ≤ 100000 ∨ n = 0 := by
      by_cases e : n = 0
      · exact .inr e
      · left
        have : s.length * 1 ≤ s.length * n := Nat.mul_le_mul_left _ (by omega)
        omega
    rcases hs with hs | hs
    · by_cases e : n = 0
      · omega
      · have : ((2 : Int) ^ 63 - 1) / (n : Int) ≥ 100000 := by
          have h3 : (100000 : Int) * n ≤ 2 ^ 63 - 1 := by omega
          exact Int.le_ediv_of_mul_le (by omega) h3
        omega
    · omega
  · have : s.length * (n : Int).toNat ≤ 100000 := by rw [Int.toNat_natCast]; exact hz
    show decide (s.length * (n : Int).toNat > sizeLine) = false
    exact decide_eq_false (by have := small_le this; omega)
  · have fin : ∀ tk, EP X pins σ Q (.str (repS s n) tk) { st with toks := st.toks + 1 } := fun tk => ⟨.str (repS s n), H, I.tok _, ⟨tk, rfl⟩, q⟩
    split
    · have e : n = 0 := by omega
      subst e
      have e2 : repS s 0 = Str.empty := rfl
      refine ⟨by decide, ?_⟩
      have := fin st.toks
      rw [e2] at this; exact this
    · split
      · rename_i h1 h2
        have e2 : repS s n = s := by
          rcases Bool.or_eq_true_iff.mp h2 with h | h
          · have e : n = 1 := by have := of_decide_eq_true h; omega
            subst e
            unfold repS
            simp
          · have e' : s.cps.size = 0 := by
              have z : (s.length : Nat) = 0 := by simpa using h
              exact z
            have e3 : s.cps = #[] := Array.eq_empty_of_size_eq_zero e'
            unfold repS
            obtain ⟨cps⟩ := s
            simp only at e3
            subst e3
            simp
        rw [e2] at q
        exact ⟨.str s, H, I, ⟨t, rfl⟩, q⟩
      · rw [Int.toNat_natCast, repS_fold]
        refine ⟨?_, fin _⟩
        rw [repS_len, Nat.mul_comm]
        exact small_le hz
theorem o_mulS {s : Str} {n : Nat} (hn : n ≤ 100000) (hz : s.length * n ≤ 100000) (q : k (.str (repS s n)) C) : oD X W (binaryOp .Mult) (.str s) (.int (n : Int)) G C k := oD_of op_mulS fun σ P H Q v u g r1 r2 z => by
  cases r1; cases r2; exact ⟨s, n, rfl, rfl, hn, hz, z _ C _ P H g.refl (.str _) q⟩
/-- is, of truth values -/
theorem o_isB {s t : Bool} (q : k (.bl (decide (s = t))) C) : oD X W (compareOp .Is) (.bl s) (.bl t) G C k := oD_of op_isBl fun σ P H Q v u g r1 r2 z => by
  cases r1; cases r2; exact ⟨s, t, rfl, rfl, z _ C _ P H g.refl (.bl _) q⟩
/-! ### methods of what is built in -/
def semM (X : Cx) (id : String) : V → List V → Hp → VK → Prop := fun x xs H Q => ∀ (pins : List (Addr × Obj)) (s : Shared) (σ : L2.St) (v : Value) (us : List Value), Inv X pins σ H s → RelV x v → Vals xs us → wpAny (model X.prog X.w) X.A (call (.builtin id) (v :: us)) (EP X pins σ Q) X.xe s
def mD (X : Cx) (W : Wd) (id : String) (d : D) (ds : List D) (G : List (Option D)) (C : Cells) (k : KD) : Prop :=
  ∀ (σ : L2.St) (P H : Hp) (Q : VK) (v : V) (vs : List V), Good X.K W G C σ P H → Rep X.K P v d → Reps X.K P vs ds → (∀ d C' z P' H', Next X.K W G C' σ P P' H' → Rep X.K P' z d → k d C' → Q z H') → semM X id v vs H Q
/-- the built-in kind of d -/
def tyD (T : String) (C : Cells) : D → Prop
  | .str _ => T = "str"
  | .lst _ => T = "list"
  | .ref a => (T = "list" ∧ ∃ ds, (a, Cl.lst ds) ∈ C) ∨ (T = "dict" ∧ ∃ ks ds, (a, Cl.dct ks ds) ∈ C)
  | _ => False
theorem tyD_v {K : PySem.W.Frag} {σ : L2.St} {P H : Hp} {T : String} {d : D} {v : V} (g : Good K W G C σ P H) (r : Rep K P v d) (h : tyD T C d) : tyV K T v H := by
  cases r with
  | str _ => exact h
  | lst e _ => exact .inl ⟨h, _, .inl (.inl (le_lst g.le e))⟩
  | dct e _ _ => exact h.elim
  | ref a =>
    rcases h with ⟨rfl, ds, hm⟩ | ⟨rfl, ks, ds, hm⟩
    · obtain ⟨_, _, o, ho, vs, rfl, _⟩ := g.ce _ hm
      exact .inl ⟨rfl, vs, .inl (.inl ho)⟩
    · obtain ⟨_, _, o, ho, vs, rfl, _⟩ := g.ce _ hm
      exact .inr (.inr (.inl ⟨rfl, .inl ⟨_, ho⟩⟩))
  | non => exact h.elim
  | bl _ => exact h.elim
  | int _ => exact h.elim
  | tup _ _ => exact h.elim
  | scr _ _ => exact h.elim
  | obj _ _ _ => exact h.elim
  | ty _ => exact h.elim
theorem mD_of {id : String} {r : V → List V → Hp → VK → Prop} {d : D} {ds : List D} (h : MtR X id r) (hr : ∀ σ P H (Q : VK) v vs, Good X.K W G C σ P H → Rep X.K P v d → Reps X.K P vs ds → (∀ d C' z P' H', Next X.K W G C' σ P P' H' → Rep X.K P' z d → k d C' → Q z H') → r v vs H Q) : mD X W id d ds G C k :=
  fun σ P H Q v vs g r1 rs z pins s σ' u us I rv ru => h pins s σ' H v vs u us Q I rv ru (hr σ P H Q v vs g r1 rs z)
theorem wE_m {T id : String} {name : Str} {o : Expr} (pa : PlainAttrs T) (slot : Slot T name id) (hty : typeOf (.builtin id) = pure (.type "method_descriptor")) (h : wE X W o G C fun d C1 => tyD T C1 d ∧ wA X W (e :: es) G C1 fun ds C2 => mD X W id d ds G C2 k)
    (hbase : attributeBase o name X.env (eval o X.env) = eval o X.env := by rfl)
    (hfew : ((backTo pos (starEach (e :: es) X.env)).all (fun x => !x.1) && (backToKw pos (keywordEach [] X.env)).all (fun x => x.1.isSome) && decide ((e :: es).length + ([] : List Keyword).length + (if ([] : List Keyword).isEmpty then 0 else 1) < 30)) = true := by rfl)
    (hline : (apos.endLine == pos.line) = true := by rfl) (hs : starEach (e :: es) X.env = (false, eval e X.env) :: starEach es X.env := by rfl) (hplain : (backTo pos (starEach es X.env)).any (·.1) = false := by rfl) :
    wE X W (.Call (.Attribute o name apos) (e :: es) [] pos) G C k :=
  wE_of (pe_bm (r := semM X id) pa slot hty (fun pins s σ H x xs v us Q I rx rs h => h pins s σ v us I rx rs) pe_sem pa_sem hbase hfew hline hs hplain) fun σ P H Q g z => h σ P H _ g fun d C1 v P1 H1 n1 r1 q =>
    ⟨tyD_v n1.good r1 q.1, q.2 σ P1 H1 _ n1.good fun ds C2 vs P2 H2 n2 rs q2 => q2 σ P2 H2 Q v vs n2.good (r1.ex' n2.ex) rs fun d C3 w P3 H3 n3 => z d C3 w P3 H3 (n1.tr (n2.tr n3))⟩
theorem wE_m0 {T id : String} {name : Str} {o : Expr} (pa : PlainAttrs T) (slot : Slot T name id) (hty : typeOf (.builtin id) = pure (.type "method_descriptor")) (h : wE X W o G C fun d C1 => tyD T C1 d ∧ mD X W id d [] G C1 k)
    (hbase : attributeBase o name X.env (eval o X.env) = eval o X.env := by rfl) (hline : (apos.endLine == pos.line) = true := by rfl) : wE X W (.Call (.Attribute o name apos) [] [] pos) G C k :=
  wE_of (pe_bm0 (r := semM X id) pa slot hty (fun pins s σ H x xs v us Q I rx rs h => h pins s σ v us I rx rs) pe_sem hbase hline) fun σ P H Q g z => h σ P H _ g fun d C1 v P1 H1 n1 r1 q =>
    ⟨tyD_v n1.good r1 q.1, q.2 σ P1 H1 Q v [] n1.good r1 .nil fun d C3 w P3 H3 n3 => z d C3 w P3 H3 (n1.tr n3)⟩
/-- l.append(e) -/
theorem m_append (i : Nat) {p : Addr} {ds : List D} {y : D} (hc : C[i]? = some (p, .lst ds)) (hz : ds.length < 100000) (q : k .non (C.set i (p, .lst (ds ++ [y])))) : mD X W "list.append" (.ref p) [y] G C k := mD_of mt_append fun σ P H Q v vs g r1 rs z => by
  obtain ⟨u, rfl, r2⟩ := reps1 rs
  cases r1
  obtain ⟨o, ho, ws, rfl, rs'⟩ := g.cell hc
  exact ⟨p, ws, u, rfl, rfl, ho, by rw [rs'.len]; exact small_lt hz, z _ _ .non P _ ⟨Ex.rfl' P, g.write (c' := .lst (ds ++ [y])) hc ⟨_, rfl, rs'.app (.cons r2 .nil)⟩⟩ .non q⟩
/-- l.count(i), ints -/
theorem m_count {ns : List Int} {i : Int} (q : k (.int (ns.count i : Nat)) C) : mD X W "list.count" (.lst (ns.map D.int)) [.int i] G C k := mD_of mt_lcount fun σ P H Q v vs g r1 rs z => by
  obtain ⟨u, rfl, r2⟩ := reps1 rs
  cases r2
  cases r1 with
  | @lst a ws _ e rs' =>
    rw [reps_intsV rs'] at e
    exact ⟨a, ns, i, rfl, rfl, .inl (.inl (le_lst g.le e)), z _ C _ P H g.refl (.int _) q⟩
/-- s.join(xs) -/
theorem wE_join {o : Expr} (h : wE X W o G C fun d C1 => (∃ s, d = .str s) ∧ wE X W e G C1 fun d2 C2 => ∃ s ys, d = .str s ∧ d2 = .lst (ys.map D.str) ∧ (ys.map (·.length)).sum + ys.length * s.length ≤ 100000 ∧ k (.str (Txt.join s ys)) C2)
    (hs : starEach [e] X.env = [(false, eval e X.env)] := by rfl) (hbase : attributeBase o "join" X.env (eval o X.env) = eval o X.env := by rfl) (hline : (apos.endLine == pos.line) = true := by rfl) : wE X W (.Call (.Attribute o "join" apos) [e] [] pos) G C k :=
  wE_of (pe_join pe_sem pe_sem hs hbase hline) fun σ P H Q g z => h σ P H _ g fun d C1 v P1 H1 n1 r1 q => by
    obtain ⟨⟨s, rfl⟩, q⟩ := q
    cases r1
    refine ⟨⟨s, rfl⟩, q σ P1 H1 _ n1.good fun d2 C2 v2 P2 H2 n2 r2 q2 => ?_⟩
    obtain ⟨s', ys, e1, rfl, hz, q2⟩ := q2
    cases e1
    cases r2 with
    | @lst a ws _ hl rs =>
      rw [reps_strsV rs] at hl
      exact ⟨s, a, ys, rfl, rfl, .inl (.inl (.inl (le_lst n2.good.le hl))), by omega, z _ C2 _ P2 H2 (n1.tr n2) (.str _) q2⟩
/-- the signs of a text, one by one -/
def sgD (c : Nat) : D := .str ⟨#[c]⟩
theorem gives_str {K : PySem.W.Frag} {P : Hp} {s : Str} : Gives K (Its s) (s.cps.toList.map sgD) P :=
  ⟨⟨(fun _ => True), (fun i H v H' => H' = H ∧ ∃ c, s.cps[i]? = some c ∧ v = .str ⟨#[c]⟩), (by rw [List.length_map, Array.length_toList]; exact walk_str), fun _ _ _ _ => trivial, fun i P2 H2 x H3 hi e l y => by
    obtain ⟨rfl, c, hc, rfl⟩ := y
    refine ⟨P2, sgD c, ?_, .str _, .inl ⟨rfl, rfl⟩⟩
    rw [List.getElem?_map, Array.getElem?_toList, hc]; rfl⟩⟩
theorem wI_str {tg : Expr} {kk : List D → Cells → Prop} (h : wE X W e G C fun d C1 => ∃ s : Str, d = .str s ∧ kk (s.cps.toList.map sgD) C1) : wI X W tg e G C kk := fun σ P H R g z pins s I =>
  (pi_str pe_sem).run pins s σ H R I (h σ P H _ g fun d C1 v P1 H1 n1 r1 q => by
    obtain ⟨s, rfl, q⟩ := q
    cases r1
    exact ⟨s, rfl, z _ C1 P1 H1 _ n1 gives_str q⟩)
/-- l[i] = e -/
theorem wG_ixC (j : Nat) {o i : Expr} {d : D} {kg : List (Option D) → Cells → Prop} (h : wE X W o G C fun d1 C1 => wE X W i G C1 fun d2 C2 => ∃ p ds n m, d1 = .ref p ∧ d2 = .int n ∧ C2[j]? = some (p, .lst ds) ∧ ixN ds.length n = some m ∧ kg G (C2.set j (p, .lst (ds.set m d))))
    (ha : ∀ v, assign (.Subscript o i pos) X.env v = (do
      let ov ← holding [v] (eval o X.env)
      let iv ← holding [v, ov] (eval i X.env)
      standAt pos
      holding [v, ov, iv] (setItem ov iv v)
      release [v, ov, iv] []) := by intro _; rfl) : wG X W (.Subscript o i pos) d G C kg := fun σ P H Q v g r z pins s u I rv =>
  (pg_sub pe_sem pe_sem set_list ha).run pins s σ H v u Q I rv (h σ P H _ g fun d1 C1 v1 P1 H1 n1 r1 q => q σ P1 H1 _ n1.good fun d2 C2 v2 P2 H2 n2 r2 q2 => by
    obtain ⟨p, ds, n, m, rfl, rfl, hc, hm, q2⟩ := q2
    cases r1; cases r2
    obtain ⟨o', ho, ws, rfl, rs⟩ := n2.good.cell hc
    exact ⟨p, ws, n, m, rfl, rfl, ho, by rw [rs.len]; exact hm, z G _ σ P2 _ (n1.tr (n2.tr ⟨Ex.rfl' _, n2.good.write (c' := .lst (ds.set m d)) hc ⟨_, rfl, Reps.setAt ((r.ex' n1.ex).ex' n2.ex) ds ws m rs⟩⟩)) q2⟩)
/-! ### a box: its parts, and it again -/
theorem wSs_open (i : Nat) {p : Addr} {n : Nat} {sts : List Stmt} (hc : C[i]? = some (p, .box n)) (h : ∀ x y c : Int, 0 ≤ y → y < 2147483629 → 0 ≤ c → c ≤ n → wSs X W sts G (C.set i (p, .lst [.int x, .int y, .int c])) E) : wSs X W sts G C E := fun σ P H T g f => by
  obtain ⟨o, ho, x, y, c, rfl, h1, h2, h3, h4⟩ := g.cell hc
  have g' := g.write (c' := .lst [.int x, .int y, .int c]) (o := .lst [.int x, .int y, .int c]) hc ⟨_, rfl, .cons (.int x) (.cons (.int y) (.cons (.int c) .nil))⟩
  have e : upd H p (.lst [.int x, .int y, .int c]) = H := by
    funext b
    by_cases hb : b = p
    · rw [hb, upd_same, ho]
    · rw [upd_ne hb]
  rw [e] at g'
  exact h x y c h1 h2 h3 h4 σ P H T g' f
theorem wSs_close (i : Nat) {p : Addr} {x y c : Int} (n : Nat) {sts : List Stmt} (hc : C[i]? = some (p, .lst [.int x, .int y, .int c])) (h1 : 0 ≤ y) (h2 : y < 2147483629) (h3 : 0 ≤ c) (h4 : c ≤ n) (h : wSs X W sts G (C.set i (p, .box n)) E) : wSs X W sts G C E := fun σ P H T g f => by
  obtain ⟨o, ho, vs, rfl, rs⟩ := g.cell hc
  have g' := g.write (c' := .box n) (o := .lst vs) hc (by
    cases rs with
    | cons r1 rs =>
      cases rs with
      | cons r2 rs =>
        cases rs with
        | cons r3 rs => cases rs; cases r1; cases r2; cases r3; exact ⟨x, y, c, rfl, h1, h2, h3, h4⟩)
  have e : upd H p (.lst vs) = H := by
    funext b
    by_cases hb : b = p
    · rw [hb, upd_same, ho]
    · rw [upd_ne hb]
  rw [e] at g'
  exact h σ P H T g' f
end
end EW

namespace EW
open PySem PySem.Spec PyProof.Rows L2
section
variable {X : Cx} {W : Wd} {G : List (Option D)} {C : Cells} {k : KD} {kb : KB} {E : DE} {e a b c : Expr} {es : List Expr} {pos p' p2 apos : Pos} {x : Str}
theorem wE_ifP {t : Bool} {d1 d2 : D} (h : wT X W c G C fun t' C' => t' = t ∧ C' = C) (h1 : t = true → wE X W a G C fun d' C' => d' = d1 ∧ C' = C) (h2 : t = false → wE X W b G C fun d' C' => d' = d2 ∧ C' = C) (q : k (if t = true then d1 else d2) C) : wE X W (.IfExp c a b pos) G C k :=
  wE_if (wT_v h ⟨fun e => wE_v (h1 e) (by rw [if_pos e] at q; exact q), fun e => wE_v (h2 e) (by rw [if_neg (by rw [e]; decide)] at q; exact q)⟩)
/-- the end of a chain of comparisons: both answers are known -/
theorem wE_chainP {t u : Bool} {e : Expr} {op' : CmpOp} {y : D} (h : t = true → wE X W e G C fun w C4 => oD X W (compareOp op') y w G C4 fun d C' => d = .bl u ∧ C' = C) (q : k (.bl (t && u)) C) :
    ∃ t', (D.bl t) = .bl t' ∧ (t' = true → wE X W e G C fun w C4 => oD X W (compareOp op') y w G C4 k) ∧ (t' = false → k (.bl false) C) :=
  ⟨t, rfl, fun e' => (h e').mono fun w C4 z σ P H Q v u' g r1 r2 zz => z σ P H Q v u' g r1 r2 fun d C' z' P' H' n r e => by
      obtain ⟨rfl, rfl⟩ := e
      rw [e'] at q
      exact zz _ _ z' P' H' n r q, fun e' => by rw [e'] at q; exact q⟩
theorem wT_chain {op op' : CmpOp} (h : wE X W a G C fun x C1 => wE X W b G C1 fun y C2 => oD X W (compareOp op) x y G C2 fun z C3 => ∃ t, z = .bl t ∧ (t = true → wE X W c G C3 fun w C4 => oD X W (compareOp op') y w G C4 (kb2 kb)) ∧ (t = false → kb2 kb (.bl false) C3)) (hm : lastMarks [op, op'] [b, c] = false := by with_unfolding_all rfl) : wT X W (.Compare a [op, op'] [b, c] pos) G C kb :=
  wT_of (pt_chain (r := semO X (compareOp op)) (r' := semO X (compareOp op')) (fun pins s σ H x y v u Q I rx ry h => h pins s σ v u I rx ry) (fun pins s σ H x y v u Q I rx ry h => h pins s σ v u I rx ry) pe_sem pe_sem pe_sem hm) fun σ P H Q g z =>
    h σ P H _ g fun x C1 v P1 H1 n1 r1 h1 => h1 σ P1 H1 _ n1.good fun y C2 u P2 H2 n2 r2 h2 => h2 σ P2 H2 _ v u n2.good (r1.ex' n2.ex) r2 fun d C3 w P3 H3 n3 r3 h3 => by
      obtain ⟨t, rfl, h3, h4⟩ := h3
      cases r3
      refine ⟨t, rfl, ?_⟩
      cases t with
      | true =>
        refine h3 rfl σ P3 H3 _ n3.good fun y' C4 u' P4 H4 n4 r4 h5 => h5 σ P4 H4 _ u u' n4.good ((r2.ex' n3.ex).ex' n4.ex) r4 fun d C5 w P5 H5 n5 r5 h6 => ?_
        obtain ⟨t, rfl, h6⟩ := h6
        cases r5
        exact ⟨t, rfl, z t C5 P5 H5 (n1.tr (n2.tr (n3.tr (n4.tr n5)))) h6⟩
      | false =>
        obtain ⟨t, e, h6⟩ := h4 rfl
        cases e
        exact ⟨false, rfl, z false C3 P3 H3 (n1.tr (n2.tr n3)) h6⟩
/-! ### slices -/
def semPo (X : Cx) (e : Option Expr) : TO := fun σ H Q => ∀ (pins : List (Addr × Obj)) (s : Shared), Inv X pins σ H s → wpAny (model X.prog X.w) X.A (evalPart e X.env) (fun u s' => ∃ o H', Inv X pins σ H' s' ∧ IsPart u o ∧ Q o H') X.xe s
theorem po_sem {e : Option Expr} : PO X e (semPo X e) := ⟨fun pins s _ _ _ I h => h pins s I⟩
def wO (X : Cx) (W : Wd) (e : Option Expr) (G : List (Option D)) (C : Cells) (k : Option Int → Cells → Prop) : Prop :=
  ∀ (σ : L2.St) (P H : Hp) (Q : Option Int → Hp → Prop), Good X.K W G C σ P H → (∀ o C' P' H', Next X.K W G C' σ P P' H' → k o C' → Q o H') → semPo X e σ H Q
theorem pO_none {ko : Option Int → Cells → Prop} (q : ko none C) : wO X W none G C ko := fun σ P H Q g z pins s I => (po_none (X := X)).run pins s σ H Q I (z none C P H g.refl q)
theorem pO_some {ko : Option Int → Cells → Prop} (h : wE X W e G C fun d C1 => ∃ i, d = .int i ∧ ko (some i) C1) : wO X W (some e) G C ko := fun σ P H Q g z pins s I => (po_some pe_sem).run pins s σ H Q I (h σ P H _ g fun d C1 v P1 H1 n1 r1 q => by
  obtain ⟨i, rfl, q⟩ := q
  cases r1
  exact ⟨i, rfl, z (some i) C1 P1 H1 n1 q⟩)
def semSl (X : Cx) : V → Option Int → Option Int → Hp → VK → Prop := fun x lo hi H Q => ∀ (pins : List (Addr × Obj)) (s : Shared) (σ : L2.St) (v vl vu : Value) (sl : Addr), Inv X pins σ H s → RelV x v → s.heap.IsSliceOf sl vl vu .none → IsPart vl lo → IsPart vu hi →
    ∃ T id, typeLookup (.type T) "__getitem__" = pure (some (.builtin id)) ∧ s.TypeIs v T ∧ wpAny (model X.prog X.w) X.A (getItem v (.ref sl)) (EP X pins σ Q) X.xe s
def sD (X : Cx) (W : Wd) (d : D) (lo hi : Option Int) (G : List (Option D)) (C : Cells) (k : KD) : Prop :=
  ∀ (σ : L2.St) (P H : Hp) (Q : VK) (v : V), Good X.K W G C σ P H → Rep X.K P v d → (∀ d C' z P' H', Next X.K W G C' σ P P' H' → Rep X.K P' z d → k d C' → Q z H') → semSl X v lo hi H Q
theorem wE_sl {lo hi : Option Expr} (h : wE X W a G C fun d C1 => wO X W lo G C1 fun l C2 => wO X W hi G C2 fun u C3 => sD X W d l u G C3 k) : wE X W (.Subscript a (.Slice lo hi none p2) pos) G C k :=
  wE_of (pe_slice (r := semSl X) (fun pins s σ H x v vl vu lo hi sl Q I rx hs pl pu h => h pins s σ v vl vu sl I rx hs pl pu) pe_sem po_sem po_sem) fun σ P H Q g z =>
    h σ P H _ g fun d C1 v P1 H1 n1 r1 q => q σ P1 H1 _ n1.good fun l C2 P2 H2 n2 q2 => q2 σ P2 H2 _ n2.good fun u C3 P3 H3 n3 q3 => q3 σ P3 H3 Q v n3.good ((r1.ex' n2.ex).ex' n3.ex) fun d C4 w P4 H4 n4 => z d C4 w P4 H4 (n1.tr (n2.tr (n3.tr n4)))
theorem sD_of {d : D} {lo hi : Option Int} {r : V → Option Int → Option Int → Hp → VK → Prop} (h : SlR X r) (hr : ∀ σ P H (Q : VK) v, Good X.K W G C σ P H → Rep X.K P v d → (∀ d C' z P' H', Next X.K W G C' σ P P' H' → Rep X.K P' z d → k d C' → Q z H') → r v lo hi H Q) : sD X W d lo hi G C k :=
  fun σ P H Q v g r1 z pins s σ' u vl vu sl I rv hs pl pu => h pins s σ' H v u vl vu lo hi sl Q I rv hs pl pu (hr σ P H Q v g r1 z)
theorem sD_str {y : Str} {lo hi : Option Int} (hl : y.length ≤ 100000) (q : k (.str (cutS y lo hi)) C) : sD X W (.str y) lo hi G C k := sD_of sl_str fun σ P H Q v g r1 z => by
  cases r1; exact ⟨y, rfl, small_le hl, z _ C _ P H g.refl (.str _) q⟩
/-- a slice of a list, as data -/
def cutD (xs : List D) (lo hi : Option Int) : List D := (xs.drop (HT.sIx xs.length 0 lo)).take (HT.sIx xs.length xs.length hi - HT.sIx xs.length 0 lo)
theorem sD_lst {ds : List D} {lo hi : Option Int} (q : k (.lst (cutD ds lo hi)) C) : sD X W (.lst ds) lo hi G C k := sD_of sl_list fun σ P H Q v g r1 z => by
  cases r1 with
  | @lst a vs _ h rs =>
    refine ⟨a, vs, rfl, .inl (.inl (le_lst g.le h)), fun p np => ?_⟩
    have n := g.new (o := .lst (cutV vs lo hi)) np
    have rc : Reps X.K P (cutV vs lo hi) (cutD ds lo hi) := by
      unfold cutV cutD
      rw [rs.len]
      exact (rs.drop _).take _
    exact z _ C (.ref p) _ _ n (.lst upd_same (rc.ex' n.ex)) q
/-! ### two names at once -/
theorem wS_par (i j : Nat) {x y : Str} {px py pt : Pos} {kt k2 : Nat} {pt2 : Pos} (h : wA X W [a, b] G C fun ds C1 => ∃ d1 d2, ds = [d1, d2] ∧ E.nx ((G.set i (some d1)).set j (some d2)) C1) (nd : X.N.Nodup) (hc : X.calm = true := by rfl) (hi : X.N[i]? = some x := by rfl) (hj : X.N[j]? = some y := by rfl) (hij : i ≠ j := by decide)
    (hx : X.env.scope.names.lookup x = some .local := by rfl) (hy : X.env.scope.names.lookup y = some .local := by rfl) (hw : swappedStores [.Tuple [.Name x px, .Name y py] kt pt] (.Tuple [a, b] k2 pt2) X.env = pure (some [x, y]) := by rfl)
    (hs : swapsWithSole [.Tuple [.Name x px, .Name y py] kt pt] (.Tuple [a, b] k2 pt2) pos.line X.env = pure false := by rfl) : wS X W (.Assign [.Tuple [.Name x px, .Name y py] kt pt] (.Tuple [a, b] k2 pt2) pos) G C E :=
  wS_of (ps_par hc nd hi hj hij hx hy pa_sem hw hs) fun σ P H T g f => h σ P H _ g fun ds C1 vs P1 H1 n1 r1 q => by
    obtain ⟨d1, d2, rfl, q⟩ := q
    obtain ⟨v, u, rfl, q1, q2⟩ := reps2 r1
    exact ⟨v, u, rfl, f.nx _ C1 _ P1 H1 ⟨n1.ex, (n1.good.slot q1).slot q2⟩ q⟩
/-- a new box -/
theorem wE_box (n : Nat) (h : wE X W e G C fun d C' => ∃ (p : Addr) (x y c : Int), d = .ref p ∧ C' = C ++ [(p, .lst [.int x, .int y, .int c])] ∧ 0 ≤ y ∧ y < 2147483629 ∧ 0 ≤ c ∧ c ≤ n ∧ k (.ref p) (C ++ [(p, .box n)])) : wE X W e G C k := fun σ P H Q g z => h σ P H Q g fun d C' v P' H' nx r q => by
  obtain ⟨p, x, y, c, rfl, rfl, h1, h2, h3, h4, q⟩ := q
  cases r
  have hi : (C ++ [(p, Cl.lst [.int x, .int y, .int c])])[C.length]? = some (p, .lst [.int x, .int y, .int c]) := by simp
  obtain ⟨o, ho, vs, rfl, rs⟩ := nx.good.cell hi
  have g' := nx.good.write (c' := .box n) (o := .lst vs) hi (by
    cases rs with
    | cons r1 rs =>
      cases rs with
      | cons r2 rs =>
        cases rs with
        | cons r3 rs => cases rs; cases r1; cases r2; cases r3; exact ⟨x, y, c, rfl, h1, h2, h3, h4⟩)
  have e : upd H' p (.lst vs) = H' := by
    funext b
    by_cases hb : b = p
    · rw [hb, upd_same, ho]
    · rw [upd_ne hb]
  rw [e] at g'
  have e2 : (C ++ [(p, Cl.lst [.int x, .int y, .int c])]).set C.length (p, .box n) = C ++ [(p, .box n)] := by
    rw [List.set_append_right _ _ (Nat.le_refl _), Nat.sub_self]; rfl
  rw [e2] at g'
  exact z (.ref p) _ (.ref p) P' H' ⟨nx.ex, g'⟩ (.ref p) q
def keyD : Key → D
  | .inl i => .int i
  | .inr s => .str s
theorem rep_key {K : PySem.W.Frag} {P : Hp} {v : V} {key : Key} (r : Rep K P v (keyD key)) : v = kV key := by
  cases key <;> (cases r; rfl)
/-- {k: v}, one pair, without changing objects -/
theorem wE_dct1 {kx vx : Expr} {d2 : D} (key : Key) (h1 : ∀ W', wE X W' kx G C fun d C1 => d = keyD key ∧ C1 = C) (h2 : ∀ W', wE X W' vx G C fun d C1 => d = d2 ∧ C1 = C) (q : k (.dct [key] [d2]) C) : wE X W (.Dict [some kx] [vx] pos) G C k := by
  refine wE_of (pe_lk (pe_disp (pps_cons pe_sem pe_sem pps_nil) rfl rfl (fun z => by cases z) (by show 1 ≤ 15; decide))) fun σ P H Q g z p np => ?_
  have h0 : W.H0 p = none := by
    cases e : W.H0 p with
    | none => rfl
    | some u => exact absurd np (g.tr p (by rw [e]; intro y; cases y))
  have pc : p ∉ C.map (·.1) := fun w => by
    obtain ⟨q, hq, e⟩ := List.mem_map.mp w
    obtain ⟨_, _, o, ho, _⟩ := g.ce q hq
    rw [e, np] at ho; cases ho
  have pn := g.le.none np
  have gp := g.aside (o := .dK []) pn h0 pc
  have gb := gp.base
  have hbD : (baseW P (upd H p (.dK [])) (C.map (·.1))).Hb p = some (.dK []) := by rw [baseW_hb pc]; exact upd_same
  refine h1 _ σ P _ _ gb fun d C1 v P1 H1 n1 r1 e1 => ?_
  obtain ⟨rfl, rfl⟩ := e1
  refine h2 _ σ P1 H1 _ n1.good fun d C1' v2 P2 H2 n2 r2 e2 => ?_
  obtain ⟨rfl, rfl⟩ := e2
  have nb := n1.tr n2
  have hv : v = kV key := rep_key r1
  have p2 : P2 p = none := (nb.good.fr p (by show upd H p (.dK []) p ≠ none; rw [upd_same]; intro y; cases y)).trans pn
  have gW := gp.back nb.good
  have hp2 : H2 p = some (.dK []) := nb.good.hb _ _ hbD
  refine ⟨hp2, [(key, v2)], by rw [hv]; rfl, by show 1 ≤ 15; decide, p, _, rfl, upd_same, trivial, fun od => ?_⟩
  rw [upd_upd]
  have g3 := gW.aside (o := .frz od (.dK (mergeK [] [(key, v2)]))) p2 h0 pc
  have n4 := g3.know p2 h0 pc upd_same
  refine z _ _ (.ref p) _ _ ⟨nb.ex.tr n4.ex, n4.good⟩ (.dct (od := od) (ks := [key]) (vs := [v2]) ?_ rfl (.cons (r2.ex' n4.ex) .nil)) q
  rw [upd_same]; rfl
end
end EW

namespace EW
open PySem PySem.Spec PyProof.Rows L2
section
variable {X : Cx} {W : Wd} {G : List (Option D)} {C : Cells} {k : KD} {kb : KB} {E : DE} {e a b c : Expr} {es : List Expr} {pos p' p2 apos : Pos} {x : Str}
/-- a comprehension whose turns change objects -/
theorem C_lcI {x : Str} {p' : Pos} {elt iter : Expr} {scope : Scope} (j : Nat) (own : List (Str × Nat)) (nd : X.N.Nodup) (hc : X.calm = true)
    (h : wI X W (.Name x p') iter G C fun ds C1 => ∃ (α : Type) (l : List α) (g : α → D) (Iv : Nat → List D → Cells → Prop), ds = l.map g ∧ l.length ≤ 100000 ∧ Iv 0 [] C1 ∧
      (∀ i y acc C', l[i]? = some y → y ∈ l → i < l.length → Iv i acc C' → ∀ (W : Wd) (s : Shared) (H : Hp) (Cl : Addr) (cl : List (Str × Addr)) (fp : List Addr), wE (blkX X s H scope Cl cl fp) W elt ((wipeG G (own.map (·.2))).set j (some (g y))) C' fun d C2 => Iv (i + 1) (acc ++ [d]) C2) ∧
      (∀ acc C', Iv l.length acc C' → k (.lst acc) C'))
    (ok : BlkOk X.N X.env.scope scope own := by exact blkOk_by (by kernel_rfl)) (hj : j ∈ own.map (·.2) := by decide)
    (hgp : ∀ (s : Shared) (H : Hp) (Cl : Addr) (cl : List (Str × Addr)) (fp : List Addr), PG (blkX X s H scope Cl cl fp) (.Name x p') (gName j) := by exact fun _ _ _ _ _ => pg_name (by assumption) rfl (Or.inl rfl))
    (hf : ∀ x, foldedSetIterable iter X.env x = pure x := by intro _; rfl) : wC X W elt (.Name x p') iter [] scope G C k := by
  refine C_lc j own nd hc (fun σ P H R gd z => h σ P H R gd fun ds C1 P' H' J n gv e => z ds C1 P' H' J n gv ?_) ok hj hgp hf
  obtain ⟨α, l, g, Iv, rfl, hz, i0, is, id⟩ := e
  refine ⟨by rw [List.length_map]; exact hz, Iv, i0, fun i d acc C' hd iv => ?_, fun acc C' iv => id acc C' (by rw [List.length_map] at iv; exact iv)⟩
  obtain ⟨y, hy, ym, rfl⟩ := get_map hd
  intro W' s H Cl cl fp
  exact wIf_nil ⟨fun _ s H Cl cl fp => is i y acc C' hy ym (List.getElem?_eq_some_iff.mp hy).1 iv W' s H Cl cl fp, fun z => by cases z⟩
/-- a for over what was just drawn -/
theorem wS_forI {tg iter : Expr} {body : List Stmt} (hi : wI X W tg iter G C fun ds C1 => ∃ (α : Type) (l : List α) (g : α → D) (Iv : Nat → List (Option D) → Cells → Prop), ds = l.map g ∧ Iv 0 G C1 ∧
      (∀ i y G' C', l[i]? = some y → y ∈ l → i < l.length → Iv i G' C' → wG X W tg (g y) G' C' fun G2 C2 => wSs X W body G2 C2 { E with nx := Iv (i + 1), ct := Iv (i + 1), bk := E.nx }) ∧ (∀ G' C', Iv l.length G' C' → E.nx G' C'))
    (hp : PassesOwn (model X.prog X.w) X.A X.env X.xe) (hc : X.calm = true) (hf : ∀ x, foldedSetIterable iter X.env x = pure x := by intro _; rfl) : wS X W (.For tg iter body [] pos) G C E := by
  refine wS_for (fun σ P H R gd z => hi σ P H R gd fun ds C1 P' H' J n gv e => z ds C1 P' H' J n gv ?_) hp hc hf
  obtain ⟨α, l, g, Iv, rfl, h0, hs, hd⟩ := e
  refine ⟨Iv, h0, fun i d G' C' hd' iv => ?_, fun G' C' iv => hd G' C' (by rw [List.length_map] at iv; exact iv)⟩
  obtain ⟨y, hy, ym, rfl⟩ := get_map hd'
  exact hs i y G' C' hy ym (List.getElem?_eq_some_iff.mp hy).1 iv
theorem wS_cut (M : List (Option D) → Cells → Prop) {st : Stmt} (h : wS X W st G C { E with nx := M }) (r : ∀ G' C', M G' C' → E.nx G' C') : wS X W st G C E := fun σ P H T g f => h σ P H T g ⟨fun G' C' σ' P' H' n q => f.nx G' C' σ' P' H' n (r _ _ q), f.rt, f.bk, f.ct⟩
/-- an item of a list, any -/
theorem xD_any {ds : List D} {i : Nat} (h : i < ds.length) (q : ∀ d, ds[i]? = some d → d ∈ ds → k d C) : xD X W (.lst ds) (natD i) G C k :=
  xD_lst (atI_nat (List.getElem?_eq_getElem h)) (q _ (List.getElem?_eq_getElem h) (List.getElem_mem h))
def isInt : D → Bool
  | .int _ => true
  | _ => false
/-- .. of whole numbers -/
theorem xD_ints {ds : List D} {i : Nat} (h : i < ds.length) (hi : ds.all isInt = true) (q : ∀ z, D.int z ∈ ds → k (.int z) C) : xD X W (.lst ds) (natD i) G C k :=
  xD_any h fun d _ hm => by
    have := List.all_eq_true.mp hi d hm
    cases d with
    | int z => exact q z hm
    | _ => cases this
end
/-! ### texts -/
abbrev tlS (x : Str) : List Nat := x.cps.toList
theorem joinL_nil : ∀ ys : List (List Nat), TL.joinL [] ys = ys.flatten
  | [] => rfl
  | [p] => by simp [TL.joinL]
  | p :: q :: r => by
    show p ++ ([] ++ TL.joinL [] (q :: r)) = _
    rw [joinL_nil (q :: r)]; rfl
theorem tl_joinE {e : Str} (he : e.cps.toList = []) (ys : List Str) : (Txt.join e ys).cps.toList = (ys.map tlS).flatten := by
  have h := TL.tl_join e ys
  rw [← TL.join_eq] at h
  have h2 : TL.tl e = [] := he
  rw [h2, joinL_nil] at h
  exact h
theorem len_joinE {e : Str} (he : e.cps.toList = []) (ys : List Str) : (Txt.join e ys).length = (ys.map (·.length)).sum := by
  show (Txt.join e ys).cps.size = _
  rw [← Array.length_toList, tl_joinE he, List.length_flatten, List.map_map]
  rfl
theorem sum_ones : ∀ {ys : List Str}, (∀ y ∈ ys, y.length = 1) → (ys.map (·.length)).sum = ys.length
  | [], _ => rfl
  | y :: r, h => by
    rw [List.map_cons, List.sum_cons, h y (List.mem_cons_self ..), sum_ones fun z hz => h z (List.mem_cons_of_mem _ hz), List.length_cons, Nat.add_comm]
end EW

namespace EW
open PySem PySem.Spec L2 PySem.HandSPX PySem.Calls
open PyProof.Rows (excClass_KeyError)
open Builtin Builtin.ObjectAttr

/-! ### own error classes: of whatever built-in base -/
structure ErB (B O N I : String) (tl : List Value) : Prop where
  fo : ∃ I0 b0, ExcBaseFacts O N I0 b0
  hasO : tl.contains (.type O) = true
  hasB : tl.contains (.type B) = true
  noA : tl.contains (.type "AttributeError") = false
  noN : tl.contains (.type "NameError") = false
  obj : tl.contains (.type "object") = true
  init : Slot B "__init__" I
  ie : entryFor table I = some Builtin.«BaseException.__init__»
  ik : builtinKind I = some .slot
  isp : splitId I = some (B, "__init__")
  isg : Manifest.signature? I = some ⟨.positional, "*", B, .self, [⟨"args", .varPos, false⟩]⟩
  star : (B != "*") = true
  pass : ∀ self : Value, refuseLoop self "__setattr__" tl = pure ()
  ne : tl.isEmpty = false
abbrev tlV : List Value := [.type "ValueError", .type "Exception", .type "BaseException", .type "object"]
abbrev tlL : List Value := [.type "LookupError", .type "Exception", .type "BaseException", .type "object"]
abbrev tlK : List Value := .type "KeyError" :: tlL
theorem erV : ErB "ValueError" "ValueError" "ValueError.__new__" "ValueError.__init__" tlV :=
  ⟨⟨_, _, F.excBase_ValueError⟩, by decide +kernel, by decide +kernel, by decide +kernel, by decide +kernel, by decide +kernel, F.excBase_ValueError.init, F.excBase_ValueError.initEntry, F.excBase_ValueError.initKind, F.excBase_ValueError.initSplit, F.excBase_ValueError.initRow, F.excBase_ValueError.noStar, F.store_ValueError.passes, rfl⟩
theorem erL : ErB "LookupError" "LookupError" "LookupError.__new__" "LookupError.__init__" tlL :=
  ⟨⟨_, _, F.excBase_LookupError⟩, by decide +kernel, by decide +kernel, by decide +kernel, by decide +kernel, by decide +kernel, F.excBase_LookupError.init, F.excBase_LookupError.initEntry, F.excBase_LookupError.initKind, F.excBase_LookupError.initSplit, F.excBase_LookupError.initRow, F.excBase_LookupError.noStar, F.store_LookupError.passes, rfl⟩
theorem erK : ErB "KeyError" "LookupError" "LookupError.__new__" "KeyError.__init__" tlK :=
  ⟨⟨_, _, F.excBase_LookupError⟩, by decide +kernel, by decide +kernel, by decide +kernel, by decide +kernel, by decide +kernel, excClass_KeyError.init, excClass_KeyError.initEntry, excClass_KeyError.initKind, excClass_KeyError.initSplit, excClass_KeyError.initSig, excClass_KeyError.notStar, fun self => by kernel_rfl, rfl⟩
theorem mro_has (cs : List Addr) (tl : List Value) (X : String) : (cs.map Value.ref ++ tl).contains (.type X) = tl.contains (.type X) := by
  induction cs with
  | nil => rfl
  | cons c cs ih =>
    show (Value.ref c :: (cs.map Value.ref ++ tl)).contains _ = _
    rw [List.contains_cons, ih]; rfl
theorem mro_pass (self : Value) (cs : List Addr) {tl : List Value} (h : refuseLoop self "__setattr__" tl = pure ()) : refuseLoop self "__setattr__" (cs.map Value.ref ++ tl) = pure () := by
  induction cs with
  | nil => exact h
  | cons c cs ih =>
    show refuseLoop self "__setattr__" (Value.ref c :: (cs.map Value.ref ++ tl)) = _
    rw [refuseLoop_ref]; exact ih

section
variable {prog : Program} {w : World} {A : Around} {E : Value → Shared → Prop} {R : Result → Shared → Prop} {h : Heap} {g : Array GenState} {dr : Drawn} {tk : Nat} {os : OsState}
variable {nm q : Str} {C Nn : Addr} {bs tl : List Value} {cs : List Addr} {hdc : Bool} {sn : List Str} {sub : List Value} {ab : Bool} {col : Option Bool} {dd : Option Addr} {k0 k1 k2 k3 k5 : Option Value} {B O N I : String}
theorem er_chk_new (F : ErB B O N I tl) {rest : List Value} {Q : Unit → Shared → Prop} (hC : h.get? C = some (excClassObj nm q C Nn bs (cs.map Value.ref ++ tl) hdc sn sub ab col dd k0 k1 k2 k3 k5 N)) (hq : Q () ⟨h, g, dr, tk, os⟩) :
    wpAny (model prog w) A (checkBuiltinCall N ⟨.ref C :: rest, []⟩) Q E ⟨h, g, dr, tk, os⟩ := by
  obtain ⟨I0, b0, fo⟩ := F.fo
  have hO : (Value.ref C :: (cs.map Value.ref ++ tl)).contains (.type O) = true := by rw [List.contains_cons, mro_has, F.hasO, Bool.or_true]
  have st := fo.noStar
  simp only [checkBuiltinCall, fo.newKind, fo.newSplit, fo.newRow]
  repeat (first | refine wpAny_loadPart_at hC ?_ | (refine wpAny_isSubtype_exc hC ?_; rw [hO]) | refine wpAny_staticBase_exc hC ?_ | refine wpAny_madeBy_exc hC ?_ | simp only [bne_self_eq_false, Bool.false_eq_true, if_false] | wp_step)
  exact hq
theorem er_new (F : ErB B O N I tl) {rest : List Value} (hC : h.get? C = some (excClassObj nm q C Nn bs (cs.map Value.ref ++ tl) hdc sn sub ab col dd k0 k1 k2 k3 k5 N))
    (hq : R (.ok (.ret (.ref (h.objs.size + 1)))) ⟨(h.push { cls := .type "tuple", data := .seq rest.toArray }).push { cls := .ref C, data := .fields #[.ref h.objs.size, .none, .none, .none, .bool false, .none] }, g, dr, tk, os⟩) (hz : rest.length ≤ sizeLine) :
    codeAny (model prog w) A (.builtin N ⟨.ref C :: rest, []⟩) R ⟨h, g, dr, tk, os⟩ := by
  obtain ⟨I0, b0, fo⟩ := F.fo
  have he := fo.ends
  have hO : (Value.ref C :: (cs.map Value.ref ++ tl)).contains (.type O) = true := by rw [List.contains_cons, mro_has, F.hasO, Bool.or_true]
  have hA : (Value.ref C :: (cs.map Value.ref ++ tl)).contains (.type "AttributeError") = false := by rw [List.contains_cons, mro_has, F.noA]; rfl
  have hN : (Value.ref C :: (cs.map Value.ref ++ tl)).contains (.type "NameError") = false := by rw [List.contains_cons, mro_has, F.noN]; rfl
  refine codeAny_builtinAt fo.entry ?_
  unfold Builtin.«BaseException.__new__»
  refine wpAt_bind ?_
  show wpAt _ _ _ (stack >>= _) _ _ _
  refine wpAt_bind (wpAt_stack fun p lower => wpAt_of_wpAny ?_)
  wp_walk
  refine wpAt_of_wpAny ?_
  rw [fo.owner]
  repeat (first | with_reducible refine wpAny_madeHere_exc fo.canon hC ?_ | with_reducible refine wpAny_loadPart_at hC ?_ | (with_reducible refine wpAny_isSubtype_exc hC ?_; first | rw [hO] | rw [hA] | rw [hN]) | wp_step)
  show R _ _
  rw [Heap.size_push]
  exact hq
theorem er_type_call (F : ErB B O N I tl) {rest : List Value} {fI : Addr} {Q : Fin → Shared → Prop} (hC : h.get? C = some (excClassObj nm q C Nn bs (cs.map Value.ref ++ tl) hdc sn sub ab col dd k0 k1 k2 k3 k5 N))
    (hi : W.Looks (model prog w) h (typeLookup (.ref C) "__init__") (some (.ref fI))) (hb : ∀ self, W.Looks (model prog w) h (bindSpecial (.ref fI) self) (.ref fI, [self])) (hz : rest.length ≤ sizeLine)
    (hq : codeAny (model prog w) A (.call (.ref fI) ⟨.ref (h.objs.size + 1) :: rest, []⟩) (fun r s' => match r with | .ok (.ret v) => v = .none ∧ Q (.done (.ret (.ref (h.objs.size + 1)))) s' | .ok _ => False | .error e => E e s')
      ⟨(h.push (W.kdv_tup rest)).push (excO C h.objs.size), g, dr, tk, os⟩) : wpAny (model prog w) A (Builtin.«type.__call__» ⟨.ref C :: rest, []⟩) Q E ⟨h, g, dr, tk, os⟩ := by
  obtain ⟨I0, b0, fo⟩ := F.fo
  repeat (first | with_reducible refine wpAny_loadPart_at hC ?_ | with_reducible refine wpAny_madeBy_exc hC ?_ | wp_step)
  refine codeAny_call_builtin_code (Code.quiet_builtin _ fo.quiet) (er_chk_new F hC ?_)
  refine er_new F hC ?_ hz
  show wpAny _ _ _ _ _ _
  have kp : ∀ b o, h.get? b = some o → ((h.push (W.kdv_tup rest)).push (excO C h.objs.size)).get? b = some o := fun b o e => Heap.get?_push_of_some _ (Heap.get?_push_of_some _ e)
  have hC2 := kp _ _ hC
  have hg : ((h.push (W.kdv_tup rest)).push (excO C h.objs.size)).get? (h.objs.size + 1) = some (excO C h.objs.size) := by heap_get
  have hcc : (Value.ref C :: (cs.map Value.ref ++ tl)).contains (.ref C) = true := by simp
  have i2 := hi.keeps kp
  have b2 := (hb (.ref (h.objs.size + 1))).keeps kp
  unfold isInstance
  repeat (first | with_reducible refine wpAny_loadPart_at hg ?_ | (with_reducible refine wpAny_isSubtype_exc hC2 ?_; rw [hcc]) | wp_step)
  show wpAny _ _ (typeLookup (.ref C) _) _ _ _
  refine i2.at ?_
  refine wpAny_holding (wpAny_bind (b2.at ?_))
  refine wpAny_bind (wpAny_call (codeAny_mono hq fun r s' z => ?_))
  rcases r with e | (v | _ | _ | _) <;> first | exact z | exact z.elim | skip
  obtain ⟨rfl, z⟩ := z
  first
    | exact wpAny_pure (wpAny_pure z)
    | (wp_walk; exact z)
theorem er_call (F : ErB B O N I tl) {rest : List Value} {fI : Addr} (hC : h.get? C = some (excClassObj nm q C Nn bs (cs.map Value.ref ++ tl) hdc sn sub ab col dd k0 k1 k2 k3 k5 N))
    (hi : W.Looks (model prog w) h (typeLookup (.ref C) "__init__") (some (.ref fI))) (hb : ∀ self, W.Looks (model prog w) h (bindSpecial (.ref fI) self) (.ref fI, [self])) (hz : rest.length ≤ sizeLine)
    (hq : codeAny (model prog w) (A.under (.builtin "type.__call__" ⟨.ref C :: rest, []⟩)) (.call (.ref fI) ⟨.ref (h.objs.size + 1) :: rest, []⟩) (W.InitBack (h.objs.size + 1) R) ⟨(h.push (W.kdv_tup rest)).push (excO C h.objs.size), g, dr, tk, os⟩) :
    codeAny (model prog w) A (.call (.ref C) ⟨rest, []⟩) R ⟨h, g, dr, tk, os⟩ := by
  have f1 := tc_lookup
  have f2 := tc_bind (.ref C)
  have hTy : (⟨h, g, dr, tk, os⟩ : Shared).TypeIs (.ref C) "type" := ⟨_, hC, rfl⟩
  refine codeAny_of_tree ?_
  show wpAny _ _ (callAny (.ref C) _) _ _ _
  repeat (any_goals (first | assumption | with_reducible refine wpAny_loadPart_at hC ?_ | wp_step))
  refine ⟨rfl, ?_⟩
  refine codeAny_call_builtin_at (Code.quiet_builtin _ (by decide +kernel)) entry_typeCall (wpAny_check_type_call_sub hC (er_type_call F hC hi hb hz ?_))
  refine codeAny_mono hq fun r s' z => ?_
  rcases r with e | (v | _ | _ | _) <;> exact z
theorem er_chk_init (F : ErB B O N I tl) {e : Addr} {oe : Obj} {rest : List Value} {Q : Unit → Shared → Prop} (hC : h.get? C = some (excClassObj nm q C Nn bs (cs.map Value.ref ++ tl) hdc sn sub ab col dd k0 k1 k2 k3 k5 N))
    (he : h.get? e = some oe) (hcls : oe.cls = .ref C) (hq : Q () ⟨h, g, dr, tk, os⟩) : wpAny (model prog w) A (checkBuiltinCall I ⟨.ref e :: rest, []⟩) Q E ⟨h, g, dr, tk, os⟩ := by
  have hB : (Value.ref C :: (cs.map Value.ref ++ tl)).contains (.type B) = true := by rw [List.contains_cons, mro_has, F.hasB, Bool.or_true]
  have st := F.star
  simp only [checkBuiltinCall, F.ik, F.isp, F.isg]
  repeat (first | (with_reducible refine wpAny_loadPart_at he ?_; rw [hcls]) | with_reducible refine wpAny_loadPart_at hC ?_ | (with_reducible refine wpAny_isSubtype_exc hC ?_; rw [hB]) | wp_step)
  refine wpAny_onRaise ?_
  rw [show ∀ (a b : String) (n : Nat), Bind.check ⟨.positional, "*", B, .self, [⟨"args", .varPos, false⟩]⟩ a b n (List.map (fun x => x.fst) ({ pos := Value.ref e :: rest } : Args).kw) = pure () from fun a b n => check_star_args _ _ _ _ _ _]
  exact wpAny_pure hq
theorem er_init (F : ErB B O N I tl) {e t0 : Addr} {rest : List Value} (hC : h.get? C = some (excClassObj nm q C Nn bs (cs.map Value.ref ++ tl) hdc sn sub ab col dd k0 k1 k2 k3 k5 N)) (he : h.get? e = some (excO C t0)) (hz : rest.length ≤ sizeLine)
    (hq : ∀ h' t1, (∀ b o, b ≠ e → h.get? b = some o → h'.get? b = some o) → h'.get? e = some (excO C t1) → h.objs.size ≤ h'.objs.size → R (.ok (.ret .none)) ⟨h', g, dr, tk, os⟩) :
    codeAny (model prog w) A (.call (.builtin I) ⟨.ref e :: rest, []⟩) R ⟨h, g, dr, tk, os⟩ := by
  refine codeAny_call_builtin F.init.plain F.ie (er_chk_init F hC he rfl ?_)
  wp_walk
  refine hq _ h.objs.size (fun b o hb ho => ?_) ?_ ?_
  · rw [Heap.get?_update_other _ _ (Ne.symm hb)]
    exact Heap.get?_push_of_some _ ho
  · rw [Heap.get?_update_self _ (Heap.get?_push_of_some _ he) rfl]
    rfl
  · first | (simp only [Heap.size_update, Heap.size_push]; omega) | (simp; omega) | (simp; done)
/-- self.f = v on an error without a dict -/
theorem er_store (F : ErB B O N I tl) {K : W.Frag} {name : Str} {tn : Tok} {v : Value} {x : Addr} {fv : Array Value} (X : K.In h) (hx : h.get? x = some { cls := .ref C, data := .fields fv }) (hC : K.lookup C = some (excClassObj nm q C Nn bs (cs.map Value.ref ++ tl) true sn sub ab col dd k0 k1 k2 k3 k5 N))
    (ha : W.findIn K (.ref C) name = some none)
    (hq : ∀ h' tk' dx, (∀ b o, b ≠ x → h.get? b = some o → h'.get? b = some o) → h.objs.size ≤ dx → dx ≠ x → h'.get? x = some { cls := .ref C, dict := some dx, data := .fields fv } → h'.Ns1 dx (fun y => if y = name then some v else none) → R (.ok (.ret .none)) ⟨h', g, dr, tk', os⟩) :
    codeAny (model prog w) A (.call (.builtin "object.__setattr__") ⟨[.ref x, .str name tn, v], []⟩) R ⟨h, g, dr, tk, os⟩ := by
  have hcl : W.clsIn K C = some { name := nm, bases := bs, mro := .ref C :: (cs.map Value.ref ++ tl), ns := Nn, qualname := q, hasDict := true, slotNames := sn, subclasses := sub, abstract := ab, collection := col, hasDel := false } := by unfold W.clsIn; rw [hC] <;> rfl
  have J : W.InstAt h x { cls := .ref C, data := .fields fv } C none := ⟨hx, rfl, rfl, trivial⟩
  have SF := PySem.F.store_object
  have hob : (Value.ref C :: (cs.map Value.ref ++ tl)).contains (.type "object") = true := by rw [List.contains_cons, mro_has, F.obj, Bool.or_true]
  have hxs : x ≠ h.objs.size := Nat.ne_of_lt (Heap.lt_size hx)
  have sub' : W.Looks (model prog w) h (isInstance (.ref x) (.type "object")) true := J.type.andThen (W.looks_mroIn X (by unfold W.mroIn; rw [hcl, Option.bind_some]; show (if _ then _ else _) = _; rw [if_neg (by simp)]; exact congrArg some hob))
  refine codeAny_call_builtin SF.slot.plain SF.entry (@W.check_slot (model prog w) _ _ ⟨h, g, dr, tk, os⟩ "object.__setattr__" "object" "__setattr__" (.ref x) [.str name tn, v] [] _ SF.kind SF.split sub' (SF.args (.ref x) (.str name tn) v) ?_)
  have hmr : W.Looks (model prog w) h (mroOf (.ref C)) (.ref C :: (cs.map Value.ref ++ tl)) := (W.looks_clsIn X hcl).andThen .now
  have L3 : W.Looks (model prog w) h (storeTaker? none) none := .now
  have hcls : W.Looks (model prog w) h (classData C) _ := W.looks_clsIn X hcl
  rw [W.osa_eq, refuse_eq]
  refine wpAny_bind (wpAny_bind (J.type.at (wpAny_bind (hmr.at ?_))))
  rw [refuseLoop_ref, mro_pass _ cs (F.pass _)]
  refine wpAny_pure (wpAny_bind (J.type.at (wpAny_bind ((W.looks_findIn X ha).at (wpAny_bind (L3.at ?_))))))
  show wpAny _ _ (storeInOwnDict (.ref x) (.ref C) (.str name tn) name v false) _ _ _
  unfold storeInOwnDict ownDictForStores
  repeat (first | with_reducible refine store_in_new ?_ ?_ | with_reducible refine wpAny_loadPart_at hx ?_ | with_reducible refine hcls.at ?_ | wp_step)
  · exact ⟨_, #[], _, (Heap.get?_update_ne _ _ _ _ hxs.symm).trans (Heap.get?_push_at rfl rfl), rfl, fun e he => absurd he (by simp), fun _ => rfl⟩
  · intro h' tk' hn' hs
    have hx2 : (h.push { cls := .type "dict", data := .dict #[] }).get? x = some { cls := .ref C, data := .fields fv } := Heap.get?_push_of_some _ hx
    refine hq h' tk' h.objs.size (fun b o hb ho => ?_) (Nat.le_refl _) hxs.symm ?_ hn'
    · exact (hs.2 b (Nat.ne_of_lt (Heap.lt_size ho))).trans ((Heap.get?_update_ne _ _ _ _ hb).trans (Heap.get?_push_of_some _ ho))
    · exact (hs.2 x hxs).trans (Heap.get?_update_self _ hx2 rfl)
end
end EW

namespace EW
open PySem PySem.Spec PyProof.Rows L2

/-- what the written part says of an own error class at C; I: its base's way to make ready -/
structure ErK (K : PySem.W.Frag) (C : Addr) (I : String) : Prop where
  cls : ∃ B O N tl nm q Nn bs cs sn sub ab col dd k0 k1 k2 k3 k5, ErB B O N I tl ∧ K.lookup C = some (excClassObj nm q C Nn bs (List.map Value.ref cs ++ tl) true sn sub ab col dd k0 k1 k2 k3 k5 N)
  sa : PySem.W.findIn K (.ref C) "__setattr__" = some (some (.builtin "object.__setattr__"))
  exC : PySem.W.subIn K (.ref C) (.type "BaseException") = some true
  tyC : PySem.W.typeIn K (.ref C) = some (.type "type")
  kC : PySem.W.keepIn K (.ref C) = true
section
variable {X : Cx} {pins : List (Addr × Obj)} {σ : L2.St} {H : Hp} {s : Shared} {a C dx : Addr} {f : Str} {y : V} {u : Value} {I : String} {A : Around} {E : Value → Shared → Prop}
theorem er_ready {us : List Value} {Q : Value → Shared → Prop} (T : ErK X.K C I) (J : Inv X pins σ H s) (ha : H a = some (exo a C none)) (hz : us.length ≤ sizeLine) (h : ∀ s', Inv X pins σ H s' → Q .none s') : wpAny (model X.prog X.w) A (call (.builtin I) (.ref a :: us)) Q E s := by
  obtain ⟨B, O, N, tl, nm, q, Nn, bs, cs, sn, sub, ab, col, dd, k0, k1, k2, k3, k5, F, hC⟩ := T.cls
  obtain ⟨t1, ho⟩ := exo_at J.hok ha
  obtain ⟨hp, g, dr, tk, os⟩ := s
  refine wpAny_call (er_init F (J.kIn _ _ hC) ho hz fun h' t2 kp hx _ => ?_)
  have J2 := J.write (t' := tk) (x := a) (e := a) (o := exo a C none) (by rw [ha]; trivial) (.inl rfl) kp ⟨_, hx⟩ (exo_ok hx)
  have same : upd H a (exo a C none) = H := by
    funext b
    by_cases hb : b = a
    · subst hb; rw [upd_same, ha]
    · rw [upd_ne hb]
  rw [same] at J2
  exact h _ J2
theorem er_field {Q : Unit → Shared → Prop} (T : ErK X.K C I) (J : Inv X pins σ H s) (ha : H a = some (exo a C none)) (nf : PySem.W.findIn X.K (.ref C) f = some none) (ry : RelV y u)
    (h : ∀ dx s', H dx = none → dx ≠ a → Inv X pins σ (upd (upd H dx (exd dx [(f, y)])) a (exo a C (some dx))) s' → Q () s') : wpAny (model X.prog X.w) A (setAttr (.ref a) f u) Q E s := by
  obtain ⟨B, O, N, tl, nm, q, Nn, bs, cs, sn, sub, ab, col, dd, k0, k1, k2, k3, k5, F, hC⟩ := T.cls
  obtain ⟨t1, ho⟩ := exo_at J.hok ha
  obtain ⟨hp, g, dr, tk, os⟩ := s
  refine PySem.W.set_plain J.kIn (ox := { cls := .ref C, dict := none, data := .fields #[.ref t1, .none, .none, .none, .bool false, .none] }) (od := none) ⟨ho, rfl, rfl, trivial⟩ T.sa ?_
  refine er_store F J.kIn ho hC nf (fun h' tk' dx kp dn dne hx hn => ?_)
  have hnd : H dx = none := J.hok.fresh dn
  have apart : ∀ {b : Addr} {o : Obj}, hp.get? b = some o → b ≠ dx := fun {b o} z => Nat.ne_of_lt (Nat.lt_of_lt_of_le (Heap.lt_size z) dn)
  have other : ∀ {b : Addr}, H b = none → b ≠ a := fun {b} n z => by rw [z, ha] at n; cases n
  have U : Un X.fs [] H (upd (upd H dx (exd dx [(f, y)])) a (exo a C (some dx))) hp h' := {
    keep := fun b o z n _ _ => kp b o (other n) z
    slot := fun b o z n _ _ => ⟨o.slots, kp b o (other n) z⟩
    free := fun b o z n _ => by rw [upd_ne (other n), upd_ne (apart z)]; exact n
    there := fun b o z _ => by
      by_cases hb : b = a
      · subst hb; exact ⟨_, hx⟩
      · exact ⟨o, kp b o hb z⟩
    tups := fun b xs z => by rw [upd_ne (at_ne ha z exo_tup), upd_ne (ne_of_none z hnd)]; exact z
    frzs := fun b o v z => by rw [upd_ne (at_ne ha z exo_frz), upd_ne (ne_of_none z hnd)]; exact z
    tbls := fun b ps z => ⟨#[], by rw [upd_ne (at_ne ha z exo_tbl), upd_ne (ne_of_none z hnd), z]; simp⟩ }
  refine h dx _ hnd dne (J.un (t' := tk') U fun b o z => ?_)
  by_cases hb : b = a
  · subst hb
    rw [upd_same] at z
    cases z; exact exo_ok hx
  · rw [upd_ne hb] at z
    by_cases hd : b = dx
    · subst hd
      rw [upd_same] at z
      cases z; exact exd_ok hn (relO_put (fs := []) ry fun _ => trivial)
    · rw [upd_ne hd] at z
      refine (J.hok b o z).stay (fun c v hc w => kp c v ?_ w) (fun c hc => ?_) fun c xs hc => ?_
      · rcases hc with hc | hc
        · rw [hc]; exact hb
        · exact at_ne ha hc exo_own
      · rw [upd_ne (at_ne ha hc exo_own), upd_ne (ne_of_none hc hnd)]; exact hc
      · rw [upd_ne (at_ne ha hc exo_tup), upd_ne (ne_of_none hc hnd)]; exact hc
end
/-- Base.__init__(self, ..) -/
def tErI (K : PySem.W.Frag) (I : String) (ta : TA) : TE := fun σ H Q => ta σ H fun vs H1 => ∃ (a C : Addr) (ws : List V), vs = .ref a :: ws ∧ ws.length ≤ 1000 ∧ ErK K C I ∧ H1 a = some (exo a C none) ∧ Q .non H1
/-- self.f = e -/
def tErF (K : PySem.W.Frag) (I : String) (f : Str) (to te : TE) : TS := fun D σ H => te σ H fun y H1 => to σ H1 fun x H2 => ∃ a C : Addr, x = .ref a ∧ ErK K C I ∧ PySem.W.findIn K (.ref C) f = some none ∧ H2 a = some (exo a C none) ∧
  ∀ dx, H2 dx = none → dx ≠ a → D.nx σ (upd (upd H2 dx (exd dx [(f, y)])) a (exo a C (some dx)))
section
variable {X : Cx} {o e : Expr} {es : List Expr} {to te : TE} {ta : TA} {f x : Str} {p p' p1 p2 pos : Pos} {S C : Addr} {I : String}
theorem pe_uinit {pl : Sem Bool} (hg : Gl X x) (hm : X.mg x = some (.ref S)) (rd : PySem.W.readsIn X.K S (.type "type") = true) (hv : PySem.W.findCls X.K (.ref S) (.type "type") "__init__" = some (.val (.builtin I))) (hga : PySem.W.specialIn X.K (.ref S) "__getattribute__" = some (some (.builtin "type.__getattribute__")))
    (hh : PySem.W.handedIn (.builtin I) = true) (ha : PA X (e :: es) ta) (hdb : (x == ("__debug__" : Str)) = false := by decide)
    (hc : eval (.Call (.Attribute (.Name x p1) "__init__" p2) (e :: es) [] pos) X.env = (do
      let ov ← eval (.Name x p1) X.env
      standAt p2.atName
      let (f, first) ← holding [ov] (getMethod ov "__init__" pl)
      callWith pos f first (backTo pos (starEach (e :: es) X.env)) (backToKw pos (keywordEach [] X.env))) := by rfl)
    (he : starEach (e :: es) X.env = (false, eval e X.env) :: starEach es X.env := by rfl) (hpl : (backTo pos (starEach es X.env)).any (·.1) = false := by rfl) : PE X (.Call (.Attribute (.Name x p1) "__init__" p2) (e :: es) [] pos) (tErI X.K I ta) := by
  refine ⟨fun pins s σ H Q J h => ?_⟩
  refine PySem.W.methodCall_KW (ld_glob J hg hm ?_ hdb) hc
  refine PySem.W.method_cls J.kIn hga (PySem.W.cls_value J.kIn rd hv hh ?_)
  refine PyProof.Rows.callWith_method1 (thn (ha.run pos pins _ σ H _ (J.tok _) h) fun us s1 ⟨vs, H1, J1, r1, a, C, ws, ev, hl, T, ea, q⟩ => ?_) he hpl
  subst ev
  cases r1 with
  | @cons _ u0 _ ur ra rw' =>
    obtain rfl : u0 = Value.ref a := ra
    refine er_ready T J1 ea ?_ fun s' J2 => ⟨.non, H1, J2, rfl, q⟩
    rw [← Paired.length rw', sizeLine_eq]
    omega
theorem ps_erF (ho : PE X o to) (he : PE X e te) (hs : swapsWith e (some (.Attribute o f p')) pos.line X.env = pure false := by rfl) : PS X (.Assign [.Attribute o f p'] e pos) (tErF X.K I f to te) := by
  refine ⟨fun pins s σ H D J h => plainObj_wpAny_Assign_Attribute (thn (he.run pins s σ H _ J h) fun v s1 ⟨y, H1, J1, r1, q1⟩ => thn (ho.run pins s1 σ H1 _ J1 q1) fun u s2 ⟨x, H2, J2, r2, a, C, ex, T, nf, ea, q⟩ => ?_) hs⟩
  subst ex
  obtain rfl : u = Value.ref a := r2
  exact er_field T J2 ea nf r1 fun dx s' n ne J3 => ⟨σ, _, J3, q dx n ne⟩
end
/-- what an own __init__ of one field does to the error that is being made -/
def spErI (C : Addr) (f : Str) : Sp := fun vs H Q _ => ∃ (a : Addr) (v : V), vs = [.ref a, v] ∧ H a = some (exo a C none) ∧ ∀ dx, H dx = none → dx ≠ a → Q .non (upd (upd H dx (exd dx [(f, v)])) a (exo a C (some dx)))
/-- C(e): made; its dict d is new -/
def tMkE (C : Addr) (f : Str) (ta : TA) : L2.St → Hp → XK → Prop := fun σ H Q => ta σ H fun vs H1 => ∃ v, vs = [v] ∧ ∀ d, H1 d = none → Q (.ref C) (some d) (upd H1 d (.xd [(f, v)]))
theorem pmk_er {X : Cx} {e : Expr} {ta : TA} {p pos : Pos} {CXx : CXT} {x f : Str} {C fI : Addr} {I : String} {k : Nat} {fd : FuncData} {ps : List Str} (T : ErK X.K C I) (iC : PySem.W.findIn X.K (.ref C) "__init__" = some (some (.ref fI))) (tI : PySem.W.typeIn X.K (.ref fI) = some (.type "function"))
    (F1 : FnOk X.prog X.w X.K X.mg X.base CXx k fI fd ps (spErI C f)) (hr : Room (k + 1) X.A) (hb : Binds X.K fd ps []) (hx : Passes CXx X (fun _ _ _ => False)) (hg : Gl X x) (hm : X.mg x = some (.ref C)) (ha : PA X [e] ta)
    (hdb : (x == ("__debug__" : Str)) = false := by decide) (he : starEach (e :: []) X.env = (false, eval e X.env) :: starEach [] X.env := by rfl) (hpl : (backTo pos (starEach [] X.env)).any (·.1) = false := by rfl) : PMk X (.Call (.Name x p) [e] [] pos) (tMkE C f ta) := by
  intro pins s σ H Q J h
  obtain ⟨B, O, N, tl, nm, q, Nn, bs, cs, sn, sub, ab, col, dd, k0, k1, k2, k3, k5, F, hC⟩ := T.cls
  refine wpAny_Call_Name_kw (ld_glob J hg hm ?_ hdb)
  refine PySem.W.callWith_K (h₀ := X.base) J.ok.mod.kin T.kC (thn (ha.run pos pins s σ H _ J h) fun us s1 ⟨vs, H1, J1, r1, v, ev, q1⟩ => ⟨J1.kIn, ?_⟩) he hpl
  subst ev
  show wpAny _ _ (call (.ref C) us) _ _ _
  obtain ⟨hp, g, dr, tk, os⟩ := s1
  have big : hp.objs.size ≤ hp.objs.size + 1 := Nat.le_succ _
  have nw : H1 (hp.objs.size + 1) = none := J1.hok.fresh big
  have kk : ∀ b o, hp.get? b = some o → ((hp.push (PySem.W.kdv_tup us)).push (PySem.HandSPX.excO C hp.objs.size)).get? b = some o := fun b o z => Heap.get?_push_of_some _ (Heap.get?_push_of_some _ z)
  have hget : ((hp.push (PySem.W.kdv_tup us)).push (PySem.HandSPX.excO C hp.objs.size)).get? (hp.objs.size + 1) = some (PySem.HandSPX.excO C hp.objs.size) := by heap_get
  have J2 : Inv X pins σ (upd H1 (hp.objs.size + 1) (exo (hp.objs.size + 1) C none)) ⟨(hp.push (PySem.W.kdv_tup us)).push (PySem.HandSPX.excO C hp.objs.size), g, dr, tk, os⟩ :=
    J1.laid (t' := tk) (a := hp.objs.size + 1) (o := exo (hp.objs.size + 1) C none) (h' := (hp.push (PySem.W.kdv_tup us)).push (PySem.HandSPX.excO C hp.objs.size)) kk big (exo_ok hget)
  have r2 : Vals (V.ref (hp.objs.size + 1) :: [v]) (Value.ref (hp.objs.size + 1) :: us) := .cons rfl r1
  have hsp : spErI C f (V.ref (hp.objs.size + 1) :: [v]) (upd H1 (hp.objs.size + 1) (exo (hp.objs.size + 1) C none))
      (fun w H2 => w = .non ∧ ∃ (d : Addr), H2 (hp.objs.size + 1) = some (exo (hp.objs.size + 1) C (some d)) ∧ H2 d = some (exd d [(f, v)]) ∧ H1 d = none ∧ Q (.ref C) (some d) (upd (del H2 (hp.objs.size + 1)) d (.xd [(f, v)]))) (fun _ _ _ => False) := by
    refine ⟨_, v, rfl, upd_same, fun dx hd hne => ⟨rfl, dx, upd_same, ?_, ?_, ?_⟩⟩
    · rw [upd_ne hne, upd_same]
    · rw [upd_ne hne] at hd; exact hd
    · have hd' : H1 dx = none := by rw [upd_ne hne] at hd; exact hd
      have e2 : upd (del (upd (upd (upd H1 (hp.objs.size + 1) (exo (hp.objs.size + 1) C none)) dx (exd dx [(f, v)])) (hp.objs.size + 1) (exo (hp.objs.size + 1) C (some dx))) (hp.objs.size + 1)) dx (.xd [(f, v)]) = upd H1 dx (.xd [(f, v)]) := by
        funext b
        by_cases h1 : b = dx
        · subst h1; rw [upd_same, upd_same]
        · rw [upd_ne h1, upd_ne h1]
          by_cases h2 : b = hp.objs.size + 1
          · subst h2; rw [del_same, nw]
          · rw [del_ne h2, upd_ne h2, upd_ne h1, upd_ne h2]
      rw [e2]
      exact q1 dx hd'
  have hl : (Value.ref (hp.objs.size + 1) :: us ++ []).length = ps.length := by
    rw [List.append_nil, ← r2.length]
    exact F1.len _ _ _ _ hsp
  have hus : us.length ≤ sizeLine := by
    rw [← Paired.length r1, sizeLine_eq]
    exact (by decide : 1 ≤ 16777216)
  have hbb := hb ⟨_, g, dr, tk, os⟩ (Value.ref (hp.objs.size + 1) :: us) J2.kIn hl
  rw [List.append_nil] at hbb
  refine wpAny_call (er_call F (J1.kIn _ _ hC) (PySem.W.looks_findIn J1.kIn iC) (fun self => PySem.W.bind_fn J1.kIn self tI) hus
    (codeAny_mono (F1.run _ X.stack _ _ ⟨Value.ref (hp.objs.size + 1) :: us, []⟩ (Value.ref (hp.objs.size + 1) :: us) _ _ (fun _ _ _ => False) (hr.make C us []) (J2.env0.make C us []) hbb r2 hsp) fun r s' hq' => ?_))
  cases r with
  | error er => exact hx pins σ _ _ er s' J2 hq'
  | ok fl =>
    cases fl with
    | ret u =>
      obtain ⟨v2, H2, os2, bare2, un2, hok2, rv, ev, d, ea, ed, hd1, q2⟩ := hq'
      subst ev
      obtain ⟨h2, g2, d2, t2, os'⟩ := s'
      exact ⟨rv, mk_end (raises_own T.exC T.tyC) J1 big kk un2 hok2 os2 bare2 ea ed hd1 q2⟩
    | next => exact False.elim hq'
    | brk => exact False.elim hq'
    | cont => exact False.elim hq'
section
variable {P : Program} {w : World} {K : PySem.W.Frag} {mg : Str → Option Value} {base : Heap}
/-- an own error class of one field, whole: x its name -/
structure ErT (P : Program) (w : World) (K : PySem.W.Frag) (mg : Str → Option Value) (base : Heap) (x : Str) (C : Addr) (f : Str) : Prop where
  gC : mg x = some (.ref C)
  made : ∃ I fI fd ps, ErK K C I ∧ PySem.W.findIn K (.ref C) "__init__" = some (some (.ref fI)) ∧ PySem.W.typeIn K (.ref fI) = some (.type "function") ∧ FnOk P w K mg base (L2.CX P w) 1 fI fd ps (spErI C f) ∧ Binds K fd ps []
  ga : PySem.W.findIn K (.ref C) "__getattribute__" = some (some (.builtin "BaseException.__getattribute__"))
  gg : PySem.W.findIn K (.ref C) "__getattr__" = some none
  nf : PySem.W.findIn K (.ref C) f = some none
  hd : PySem.W.hasDictIn K C = true
end
/-- the def inside a class -/
def inner : Stmt → Nat → Stmt
  | .ClassDef _ _ _ body _ _ _ _ _ _ _, j => body.getD j (.Pass ⟨0, 0, 0, 0⟩)
  | _, _ => .Pass ⟨0, 0, 0, 0⟩
end EW

namespace EW
open PySem PySem.Spec PyProof.Rows L2
section
variable {X : Cx} {W : Wd} {G : List (Option D)} {C : Cells} {k : KD} {kb : KB} {E : DE} {e a b c : Expr} {es : List Expr} {pos pos2 p p' p2 apos : Pos} {x : Str} {n : Nat}
/-- raise X(e) -/
theorem wS_raise {xk : KG} {C0 : Addr} {f : Str} (hx : XW X W xk) (R : ErT X.prog X.w X.K X.mg X.base x C0 f) (hr : Room n X.A) (h : wA X W [e] G C fun ds C1 => ∃ d, ds = [d] ∧ xk ⟨C0, some (f, d)⟩ G C1) (hn : 2 ≤ n := by first | decide | omega) (hc : X.calm = true := by rfl) (hg : Gl X x := by rfl)
    (hdb : (x == ("__debug__" : Str)) = false := by decide) (he : starEach (e :: []) X.env = (false, eval e X.env) :: starEach [] X.env := by rfl) (hpl : (backTo pos (starEach [] X.env)).any (·.1) = false := by rfl) : wS X W (.Raise (some (.Call (.Name x p) [e] [] pos)) none pos2) G C E := by
  obtain ⟨wx, tk, hw⟩ := hx.ex
  obtain ⟨I, fI, fd, ps, T, iC, tI, F1, hb⟩ := R.made
  refine wS_of (ps_raise hc tk (pmk_er T iC tI F1 (hr.mono hn) hb passL hg R.gC pa_sem hdb he hpl)) fun σ P H T' g f' => h σ P H _ g fun ds C1 vs P1 H1 n1 rs q => ?_
  obtain ⟨d, rfl, q⟩ := q
  cases rs with
  | @cons v vs' _ _ r1 rs' =>
    cases rs'
    refine ⟨v, rfl, fun a ha => ?_⟩
    have n2 := n1.good.new (o := .xd [(f, v)]) ha
    exact hw ⟨C0, some (f, d)⟩ G C1 _ _ _ _ _ n2.good ⟨rfl, .inr ⟨f, d, a, v, rfl, rfl, upd_same, r1.ex' n2.ex⟩⟩ q
end

/-! ### try: body, several clauses, each with or without a name -/
abbrev Hdl := Value × Option Nat × (Addr → Value → Option Addr → TS)
def noSlot (D : Ends) (i : Nat) : Ends := { nx := fun z H => D.nx (z.set i none) H, rt := D.rt, bk := fun z H => D.bk (z.set i none) H, ct := fun z H => D.ct (z.set i none) H }
def wHd (K : PySem.W.Frag) (Wo : WX) (D : Ends) : List Hdl → WX
  | [] => Wo
  | (c, oi, ts) :: r => fun cls d σ H => ∃ b, PySem.W.exmOne K cls c = some b ∧ (b = false → wHd K Wo D r cls d σ H) ∧ (b = true → ∀ a, H a = none → match oi with
    | none => ts a cls d D σ H
    | some i => ts a cls d (noSlot D i) (σ.set i (some (.ref a))) H)
inductive HdOk (X : Cx) : List ExceptHandler → List Hdl → Prop
  | nil : HdOk X [] []
  | bare {x : Str} {c : Value} {ts : Addr → Value → Option Addr → TS} {b₀ : Stmt} {su : List Stmt} {np pos' : Pos} {hds : List ExceptHandler} {l : List Hdl} (hc : Names X x c)
      (hs : ∀ (a : Addr) (oe : Obj) (cls : Value) (d : Option Addr) (pn : List (Addr × Obj)), Zc cls d oe → (∃ vs, oe.data = .fields vs) → PSs (X.suite a ((a, oe) :: pn)) (b₀ :: su) (ts a cls d)) (r : HdOk X hds l) :
      HdOk X (.ExceptHandler (some (.Name x np)) none (b₀ :: su) pos' :: hds) ((c, none, ts) :: l)
  | named {x n : Str} {i : Nat} {c : Value} {ts : Addr → Value → Option Addr → TS} {b₀ : Stmt} {su : List Stmt} {np pos' : Pos} {hds : List ExceptHandler} {l : List Hdl} (hN : X.N.Nodup) (hi : X.N[i]? = some n) (hln : X.env.kindOf n = some .local) (hc : Names X x c)
      (hs : ∀ (a : Addr) (oe : Obj) (cls : Value) (d : Option Addr) (pn : List (Addr × Obj)), Zc cls d oe → (∃ vs, oe.data = .fields vs) → PSs (X.suite a ((a, oe) :: pn)) (b₀ :: su) (ts a cls d)) (r : HdOk X hds l) :
      HdOk X (.ExceptHandler (some (.Name x np)) (some n) (b₀ :: su) pos' :: hds) ((c, some i, ts) :: l)
section
variable {X : Cx} {body : List Stmt} {h₀ : ExceptHandler} {hds : List ExceptHandler} {l : List Hdl} {pos : Pos} {tb : WX → TS} {Wo : WX}
theorem ps_tryH (hs : X.stack = X.env :: X.outer) (hf : X.env.frame = some X.env.locals) (tk : Takes X Wo)
    (hb : ∀ (Wx : WX) (pn : List (Addr × Obj)) (xe : Value → Shared → Prop), Takes (X.tr pn xe) Wx → PassesOwn (model X.prog X.w) X.A X.env xe → PSs (X.tr pn xe) body (tb Wx))
    (hh : HdOk X (h₀ :: hds) l) : PS X (.Try body (h₀ :: hds) [] [] pos) (fun D σ H => tb (wHd X.K Wo D l) D σ H) := by
  refine ⟨fun pins s σ H D J h => ?_⟩
  have ok := J.ok
  have frm : X.A.frames = some (X.env :: X.outer) := by rw [ok.frames, hs]
  refine wpAny_Try_except ?_
  refine wpAny_mono ((hb (wHd X.K Wo D l) (X.pn ++ pins) (fun ex z1 => wpAny (model X.prog X.w) X.A (noteFrame ex X.env) (fun _ z2 => wpAny (model X.prog X.w) X.A (setFlight ex none) (fun _ z3 =>
    wpAny (model X.prog X.w) X.A (handleBy ex X.env (h₀ :: hds)) (SP X pins D) X.xe z3) X.xe z2) X.xe z1) (fun u sE thr => ?_) PassesOwn.looking).run [] s σ H D (J.toTry _) h) (fun fl sN hsp => ?_) (fun _ _ he => he)
  · obtain ⟨a, Bg, sI, pins', σ', H', cls, d, rfl, J', nb, up, sky, na, os, ag, wish⟩ := thr
    have J1 : Inv X pins σ' H' sI := J'.ofTry ok
    have sky1 : Sky Bg (X.env :: X.outer) a (Zc cls d) X.env.locals sE.heap := by rw [← hs]; exact sky
    show wpAny (model X.prog X.w) X.A (noteFrame (.ref a) X.env) _ _ _
    refine Sky.land Zc.steady frm hf sky1 fun hL fL upL => ?_
    have J3 : Inv X pins σ' H' { sE with heap := hL } := J1.landed nb fL.1 (up.trans upL) os ag
    obtain ⟨oL, vL, getL, zL, dL⟩ := fL.there
    have offFrames : a ∉ frs (X.env :: X.outer) := fun hm => by
      obtain ⟨_, o', e', hnf⟩ := fL.2.2.1.mem hm
      rw [getL] at e'; cases e'
      exact hnf _ dL
    have neL : a ≠ X.env.locals := fun z => offFrames (List.mem_filterMap.mpr ⟨X.env, List.mem_cons_self, by rw [hf, z]⟩)
    have neF : a ∉ X.fs := fun hm => by
      obtain ⟨ev, he, q⟩ := List.mem_filterMap.mp hm
      exact offFrames (List.mem_filterMap.mpr ⟨ev, List.mem_cons_of_mem _ he, q⟩)
    have S3 := J3.suite getL dL na neL neF
    have LT : PySem.W.Looks (model X.prog X.w) hL (typeOf (.ref a)) cls := fun A Q E s kk q => wpAny_typeOf_ref (kk _ _ getL) (by rw [zL.1]; exact q)
    have asks : ∀ {x : Str} {np : Pos} {c : Value} {Q : Value → Shared → Prop} {E : Value → Shared → Prop}, Names X x c → Q c { sE with heap := hL } → wpAny (model X.prog X.w) (X.A.mark (some (.ref a))) (eval (.Name x np) X.env) Q E { sE with heap := hL } := fun {x np c Q E} hc q => by
      obtain ⟨hg, hdbg, hm | ⟨hm, hv, hnn⟩⟩ := hc
      · exact ld_glob (X := X.suite a ((a, oL) :: (X.pn ++ pins))) S3 hg hm q hdbg
      · exact ld_blt (X := X.suite a ((a, oL) :: (X.pn ++ pins))) S3 hg hm hv q hnn hdbg
    have again : ∀ {Q : Unit → Shared → Prop} {E : Value → Shared → Prop} {A : Around}, (∀ h4 o4, h4.get? a = some o4 → Zc cls d o4 → (∃ vs, o4.data = .fields vs) → Inv (X.suite a ((a, o4) :: (X.pn ++ pins))) [] σ' H' { sE with heap := h4 } → Q () { sE with heap := h4 }) → wpAny (model X.prog X.w) A (setFlight (.ref a) none) Q E { sE with heap := hL } := fun {Q E A} q =>
      HandSPX.lands_againZ fL fun h4 f4 up4 => by
        have J4 : Inv X pins σ' H' { sE with heap := h4 } := J1.landed nb f4.1 ((up.trans upL).trans up4) os ag
        obtain ⟨o4, v4, get4, z4, d4⟩ := f4.there
        exact q h4 o4 get4 z4 ⟨_, d4⟩ (J4.suite get4 d4 na neL neF)
    have go : ∀ {hds' : List ExceptHandler} {l' : List Hdl}, HdOk X hds' l' → wHd X.K Wo D l' cls d σ' H' → wpAny (model X.prog X.w) X.A (handleBy (.ref a) X.env hds') (SP X pins D) X.xe { sE with heap := hL } := by
      intro hds' l' hk
      induction hk with
      | nil =>
        intro wi
        refine wpAny_handleBy_nil ?_
        obtain ⟨_, _, _, oe, vs, T, oT, ts', he, hz, hd, h1, _⟩ := id fL
        unfold PySem.passOn
        refine wpAny_bind (wpAny_field he hd h1 ?_)
        rw [if_neg (show ¬ ((Value.ref T == Value.none) = true) from by simp)]
        have out : wpAny (model X.prog X.w) X.A (setFlight (.ref a) X.env.frame) (fun _ z4 => wpAny (model X.prog X.w) X.A (throw (.ref a) : Sem Flow) (SP X pins D) X.xe z4) X.xe { sE with heap := hL } := by
          rw [hf]
          refine HandSPX.setFlight_upZ fL fun h4 hh4 up4 => wpAny_throw (tk _ _ ?_)
          exact ⟨a, Bg, sI, pins, σ', H', cls, d, rfl, J1, nb, (up.trans upL).trans up4, .inr (.inr (by rw [hs]; exact hh4)), na, os, ag, wi⟩
        first
          | exact wpAny_bind (wpAny_pure (wpAny_bind out))
          | exact wpAny_bind out
      | @bare x c ts b₀ su np pos' hds2 l2 hc hsu r ih =>
        intro wi
        obtain ⟨t, ht, no, yes⟩ := wi
        refine wpAny_handleBy_cons (codeAny_handlers_test (asks hc ((PySem.W.exm_one (M := model X.prog X.w) J3.kIn LT ht).here ?_))) (by intro q; cases q)
        cases t with
        | false => exact ih (no rfl)
        | true =>
          refine codeAny_handlers_suite (again fun h4 o4 get4 z4 d4 S4 => ?_)
          refine wpAny_mono ((hsu a o4 cls d (X.pn ++ pins) z4 d4).run [] _ _ H' _ S4 (yes rfl a na)) (fun fl z6 hsp => ?_) (fun _ _ z => False.elim z)
          cases fl with
          | next => obtain ⟨σ6, H6, S6, q6⟩ := hsp; exact ⟨_, _, S6.unsuite ok, q6⟩
          | brk => obtain ⟨σ6, H6, S6, q6⟩ := hsp; exact ⟨_, _, S6.unsuite ok, q6⟩
          | cont => obtain ⟨σ6, H6, S6, q6⟩ := hsp; exact ⟨_, _, S6.unsuite ok, q6⟩
          | ret u => obtain ⟨v6, σ6, H6, S6, r6, q6⟩ := hsp; exact ⟨_, _, _, S6.unsuite ok, r6, q6⟩
      | @named x n i c ts b₀ su np pos' hds2 l2 hN hi hln hc hsu r ih =>
        intro wi
        obtain ⟨t, ht, no, yes⟩ := wi
        refine wpAny_handleBy_cons (codeAny_handlers_test (asks hc ((PySem.W.exm_one (M := model X.prog X.w) J3.kIn LT ht).here ?_))) (by intro q; cases q)
        cases t with
        | false => exact ih (no rfl)
        | true =>
          refine codeAny_handlers_suite_as (again fun h4 o4 get4 z4 d4 S4 => ?_)
          refine store_ok (X := X.suite a ((a, o4) :: (X.pn ++ pins))) (v := .ref a) S4 hN hi (.inl hln) rfl (fun s5 S5 => ?_) (.inr hln)
          refine wpAny_mono ((hsu a o4 cls d (X.pn ++ pins) z4 d4).run [] s5 _ H' _ S5 (yes rfl a na)) (fun fl z6 hsp => ?_) (fun _ _ z => False.elim z)
          have ends : ∀ {σ6 : L2.St} {H6 : Hp} {Q : Shared → Prop}, Inv (X.suite a ((a, o4) :: (X.pn ++ pins))) [] σ6 H6 z6 → (∀ z7, Inv X pins (σ6.set i none) H6 z7 → Q z7) → wpAny (model X.prog X.w) X.A (do bindName X.env n .none; unbindBehindTheSuite X.env n pos') (fun _ z7 => Q z7) X.xe z6 := fun {σ6 H6 Q} S6 hq => gone_ok (S6.unsuite ok) hN hi hln hq
          cases fl with
          | next => obtain ⟨σ6, H6, S6, q6⟩ := hsp; exact ends S6 fun z7 J7 => ⟨_, _, J7, q6⟩
          | brk => obtain ⟨σ6, H6, S6, q6⟩ := hsp; exact ends S6 fun z7 J7 => ⟨_, _, J7, q6⟩
          | cont => obtain ⟨σ6, H6, S6, q6⟩ := hsp; exact ends S6 fun z7 J7 => ⟨_, _, J7, q6⟩
          | ret u => obtain ⟨v6, σ6, H6, S6, r6, q6⟩ := hsp; exact ends S6 fun z7 J7 => ⟨_, _, _, J7, r6, q6⟩
    exact go hh wish
  · cases fl with
    | next => obtain ⟨σ', H', J', q⟩ := hsp; exact wpAny_execs_nil ⟨σ', H', J'.ofTry ok, q⟩
    | brk => obtain ⟨σ', H', J', q⟩ := hsp; exact ⟨σ', H', J'.ofTry ok, q⟩
    | cont => obtain ⟨σ', H', J', q⟩ := hsp; exact ⟨σ', H', J'.ofTry ok, q⟩
    | ret u => obtain ⟨v, σ', H', J', r, q⟩ := hsp; exact ⟨v, σ', H', J'.ofTry ok, r, q⟩
end

/-! ### .. by data -/
/-- the error that a suite holds -/
structure ErAt (K : PySem.W.Frag) (W : Wd) (ed : ErrD) (oe : Obj) : Prop where
  data : ∃ vs, oe.data = .fields vs
  f : ∃ dx, Zc (.ref ed.c) dx oe ∧ (ed.f = none ∨ ∃ n d a v, ed.f = some (n, d) ∧ dx = some a ∧ W.P0 a = some (.xd [(n, v)]) ∧ Rep K W.P0 v d)
def DE.noSlot (E : DE) : Option Nat → DE
  | none => E
  | some i => { nx := fun G C => E.nx (G.set i none) C, rt := E.rt, bk := fun G C => E.bk (G.set i none) C, ct := fun G C => E.ct (G.set i none) C }
def asSlot (G : List (Option D)) (a : Addr) : Option Nat → List (Option D)
  | none => G
  | some i => G.set i (some (.ref a))
/-- a clause: its class, its name's slot, its suite -/
abbrev Cls1 := Value × Option Nat × List Stmt
/-- what is due of an error, clause by clause -/
def hdK (X : Cx) (E : DE) (xo : KG) : List Cls1 → KG
  | [] => xo
  | (c, oi, su) :: r => fun ed G C => ∃ b, PySem.W.exmOne X.K (.ref ed.c) c = some b ∧ (b = false → hdK X E xo r ed G C) ∧ (b = true → ∀ (a : Addr) (oe : Obj) (pn : List (Addr × Obj)) (W : Wd), ErAt X.K W ed oe → wSs (X.suite a ((a, oe) :: pn)) W su (asSlot G a oi) C (E.noSlot oi))
inductive HdT (X : Cx) : List ExceptHandler → List Cls1 → Prop
  | nil : HdT X [] []
  | bare {x : Str} {c : Value} {b₀ : Stmt} {su : List Stmt} {np pos' : Pos} {hds : List ExceptHandler} {l : List Cls1} (hc : Names X x c) (r : HdT X hds l) : HdT X (.ExceptHandler (some (.Name x np)) none (b₀ :: su) pos' :: hds) ((c, none, b₀ :: su) :: l)
  | named {x n : Str} (i : Nat) {c : Value} {b₀ : Stmt} {su : List Stmt} {np pos' : Pos} {hds : List ExceptHandler} {l : List Cls1} (hN : X.N.Nodup) (hc : Names X x c) (r : HdT X hds l) (hi : X.N[i]? = some n := by rfl) (hln : X.env.kindOf n = some .local := by rfl) :
      HdT X (.ExceptHandler (some (.Name x np)) (some n) (b₀ :: su) pos' :: hds) ((c, some i, b₀ :: su) :: l)
/-- the suite's reading, for whatever error stands there -/
def tSu (X : Cx) (su : List Stmt) : Addr → Value → Option Addr → TS := fun a cls d D σ H => ∀ (oe : Obj) (pn : List (Addr × Obj)), Zc cls d oe → (∃ vs, oe.data = .fields vs) → semSs (X.suite a ((a, oe) :: pn)) su D σ H
def hdl (X : Cx) : List Cls1 → List Hdl
  | [] => []
  | (c, oi, su) :: r => (c, oi, tSu X su) :: hdl X r
theorem HdT.ok {X : Cx} {hds : List ExceptHandler} {l : List Cls1} (h : HdT X hds l) : HdOk X hds (hdl X l) := by
  induction h with
  | nil => exact .nil
  | bare hc r ih => exact .bare hc (fun a oe cls d pn hz hf => ⟨fun pins s σ H D I h => (pss_sem).run pins s σ H D I (h oe pn hz hf)⟩) ih
  | named i hN hc r hi hln ih => exact .named hN hi hln hc (fun a oe cls d pn hz hf => ⟨fun pins s σ H D I h => (pss_sem).run pins s σ H D I (h oe pn hz hf)⟩) ih
section
variable {X : Cx} {W : Wd} {G : List (Option D)} {C : Cells} {E : DE} {body : List Stmt} {h₀ : ExceptHandler} {hds : List ExceptHandler} {l : List Cls1} {pos : Pos} {xo : KG}
theorem good_W {K : PySem.W.Frag} {σ : L2.St} {P H : Hp} (g : Good K W G C σ P H) : Good K { W with P0 := P } G C σ P H := ⟨g.wf, g.le, Ex.rfl' _, fun _ _ => rfl, g.hb, g.tr, g.sl, g.ce, g.nd, g.len⟩
theorem good_Wb {K : PySem.W.Frag} {σ σ' : L2.St} {P P' H H' : Hp} {G' : List (Option D)} {C' : Cells} (g : Good K W G C σ P H) (g' : Good K { W with P0 := P } G' C' σ' P' H') : Good K W G' C' σ' P' H' :=
  ⟨g'.wf, g'.le, g.p0.tr g'.p0, fun a h => (g'.fr a h).trans (g.fr a h), g'.hb, g'.tr, g'.sl, g'.ce, g'.nd, g'.len⟩
theorem good_gone {K : PySem.W.Frag} {σ : L2.St} {P H : Hp} (g : Good K W G C σ P H) (i : Nat) : Good K W (G.set i none) C (σ.set i none) P H := g.fewer (fun j d h => by
    by_cases hj : i = j
    · subst hj
      simp [List.getElem?_set] at h
    · rw [List.getElem?_set_ne hj] at h ⊢
      exact g.sl j d h) (by rw [List.length_set, List.length_set]; exact g.len)
theorem good_as {K : PySem.W.Frag} {σ : L2.St} {P H : Hp} (g : Good K W G C σ P H) (a : Addr) (i : Nat) : Good K W (G.set i (some (.ref a))) C (σ.set i (some (.ref a))) P H := g.slot (.ref a)
theorem fits_W {X X' : Cx} (hK : X'.K = X.K) {σ : L2.St} {P P1 P' H H' : Hp} {G' : List (Option D)} {C' : Cells} {T : Ends} (ex : Ex P P1) (g : Good X.K W G C σ P1 H) (f : Fits X W P E T) : Fits X' { W with P0 := P1 } P1 E T := by
  refine ⟨fun G2 C2 σ2 P2 H2 n2 q2 => f.nx G2 C2 σ2 P2 H2 ⟨ex.tr n2.ex, good_Wb g (hK ▸ n2.good)⟩ q2, fun d2 C2 v2 P2 H2 n2 r2 q2 => f.rt d2 C2 v2 P2 H2 ⟨ex.tr n2.ex, good_Wb g (hK ▸ n2.good)⟩ (hK ▸ r2) q2, fun G2 C2 σ2 P2 H2 n2 q2 => f.bk G2 C2 σ2 P2 H2 ⟨ex.tr n2.ex, good_Wb g (hK ▸ n2.good)⟩ q2, fun G2 C2 σ2 P2 H2 n2 q2 => f.ct G2 C2 σ2 P2 H2 ⟨ex.tr n2.ex, good_Wb g (hK ▸ n2.good)⟩ q2⟩
theorem fits_no {X : Cx} {P : Hp} {T : Ends} (i : Nat) (f : Fits X W P E T) : Fits X W P (E.noSlot (some i)) (noSlot T i) :=
  ⟨fun _ C2 _ P2 H2 n2 q2 => f.nx _ C2 _ P2 H2 ⟨n2.ex, good_gone n2.good i⟩ q2, f.rt, fun _ C2 _ P2 H2 n2 q2 => f.bk _ C2 _ P2 H2 ⟨n2.ex, good_gone n2.good i⟩ q2, fun _ C2 _ P2 H2 n2 q2 => f.ct _ C2 _ P2 H2 ⟨n2.ex, good_gone n2.good i⟩ q2⟩
theorem wS_try (es : List Cls1) (hx : XW X W xo) (hT : HdT X (h₀ :: hds) es) (hb : ∀ (pn : List (Addr × Obj)) (xe : Value → Shared → Prop) (W : Wd), XW (X.tr pn xe) W (hdK X E xo es) → PassesOwn (model X.prog X.w) X.A X.env xe → wSs (X.tr pn xe) W body G C E)
    (hs : X.stack = X.env :: X.outer := by rfl) (hf : X.env.frame = some X.env.locals := by rfl) : wS X W (.Try body (h₀ :: hds) [] [] pos) G C E := by
  obtain ⟨wo, tk, hw⟩ := hx.ex
  refine wS_of (ps_tryH (tb := fun Wx D σ H => ∀ (pn : List (Addr × Obj)) (xe : Value → Shared → Prop), Takes (X.tr pn xe) Wx → PassesOwn (model X.prog X.w) X.A X.env xe → semSs (X.tr pn xe) body D σ H) hs hf tk (fun Wx pn xe tkx ps => ⟨fun pins s σ H D I h => (pss_sem).run pins s σ H D I (h pn xe tkx ps)⟩) hT.ok) fun σ P H T g f pn xe tkx ps => ?_
  have key : ∀ (es' : List Cls1) ed G' C' cls dx σ' P' H', Good X.K { W with P0 := P } G' C' σ' P' H' → ErrIs X.K P' H' cls dx ed → hdK X E xo es' ed G' C' → wHd X.K wo T (hdl X es') cls dx σ' H' := by
    intro es'
    induction es' with
    | nil => exact fun ed G' C' cls dx σ' P' H' g' he q => hw ed G' C' cls dx σ' P' H' (good_Wb g g') he q
    | cons h1 r ih =>
      obtain ⟨c, oi, su⟩ := h1
      intro ed G' C' cls dx σ' P' H' g' he q
      obtain ⟨t, ht, no, yes⟩ := q
      obtain ⟨hc, hfd⟩ := id he
      subst hc
      have gg := good_Wb g g'
      have ff : Fits X W P' E T := f.mono g'.p0
      refine ⟨t, ht, fun z => ih ed G' C' _ dx σ' P' H' g' he (no z), fun z a ha => ?_⟩
      have at_ : ∀ oe, Zc (.ref ed.c) dx oe → (∃ vs, oe.data = .fields vs) → ErAt X.K { W with P0 := P' } ed oe := fun oe hz hd => ⟨hd, dx, hz, hfd⟩
      have run := fun (oe : Obj) (pn : List (Addr × Obj)) hz hd => yes z a oe pn { W with P0 := P' } (at_ oe hz hd)
      cases oi with
      | none => exact fun oe pn hz hd => run oe pn hz hd σ' P' H' T (good_W gg) (fits_W (X := X) (E := E) (X' := X.suite a ((a, oe) :: pn)) (G' := G') (C' := C') (P' := P') (H' := H') rfl (Ex.rfl' _) gg ff)
      | some i => exact fun oe pn hz hd => run oe pn hz hd _ P' H' (noSlot T i) (good_as (good_W gg) a i) (fits_no i (fits_W (X := X) (E := E) (X' := X.suite a ((a, oe) :: pn)) (G' := G') (C' := C') (P' := P') (H' := H') rfl (Ex.rfl' _) gg ff))
  exact hb pn xe { W with P0 := P } ⟨fun cls d σ' H' => wHd X.K wo T (hdl X es) cls d σ' H', tkx, key es⟩ ps σ P H T (good_W g) (fits_W (X := X) (E := E) (X' := X.tr pn xe) (G' := G) (C' := C) (P' := P) (H' := H) rfl (Ex.rfl' _) g f)
/-- e.f, e the error that the suite holds -/
theorem wE_exf {X : Cx} {W : Wd} {k : KD} {x f : Str} {a : Addr} {oe : Obj} {pn : List (Addr × Obj)} {ed : ErrD} {d : D} {e : Expr} {pos : Pos} (he : ErAt X.K W ed oe) (R : ErT X.prog X.w X.K X.mg X.base x ed.c f) (hf : ed.f = some (f, d))
    (h : wE (X.suite a ((a, oe) :: pn)) W e G C fun y C1 => y = .ref a ∧ k d C1) (hb : attributeBase e f X.env (eval e X.env) = eval e X.env := by rfl) : wE (X.suite a ((a, oe) :: pn)) W (.Attribute e f pos) G C k := by
  intro σ P H Q g z pins s I
  refine attr_of hb (thn (h σ P H (fun v H1 => v = .ref a ∧ ∃ (dd : Addr) (v : V), Zc (.ref ed.c) (some dd) oe ∧ H1 dd = some (.xd [(f, v)]) ∧ Q v H1) g (fun y C1 v P1 H1 n1 r1 q => ?_) pins s I) fun u s1 hh => ?_)
  · obtain ⟨rfl, q⟩ := q
    cases r1
    obtain ⟨_, dx, hz, hfd⟩ := he
    rcases hfd with hfd | ⟨n', d', dd, v, e1, rfl, hp, hr⟩
    · rw [hf] at hfd; cases hfd
    · rw [hf] at e1; cases e1
      have hp1 : P1 dd = some (.xd [(f, v)]) := n1.good.p0 _ _ hp
      refine ⟨rfl, dd, v, hz, ?_, z d C1 v P1 H1 n1 (hr.ex' n1.good.p0) q⟩
      rcases n1.good.le _ _ hp1 with h | ⟨_, _, w, _⟩
      · exact h
      · cases w
  · obtain ⟨v, H1, I1, rv, hv, dd, w, hz, hx, q⟩ := hh
    subst hv
    obtain rfl : u = Value.ref a := rv
    obtain ⟨ha, _⟩ := I1.pin (a, oe) (List.mem_append_left _ List.mem_cons_self)
    obtain ⟨vs, hd⟩ := he.data
    have ho : ObjOk X.prog X.w H1 s1.heap dd (.xd [(f, w)]) := I1.hok dd _ hx
    obtain ⟨mA, hns, hr⟩ := ho
    obtain ⟨od, hod, hl⟩ := lookIn_ns hns
    have l : List.lookup f [(f, w)] = some w := by simp [List.lookup]
    obtain ⟨u, hu, ru⟩ := RelO.some_of (v := w) (o := mA f) (by rw [← l]; exact hr f)
    have J : PySem.W.InstAt s1.heap a oe ed.c (some od) := ⟨ha, hz.1, by unfold PySem.W.notCls; rw [hd] <;> rfl, by rw [hz.2]; exact hod⟩
    obtain ⟨I, fI, fd, ps, T, _⟩ := R.made
    exact HandSPX.exc_get I1.kIn J R.ga R.gg T.exC (PySem.W.findObj_own R.hd R.nf rfl (by rw [hl, hu])) (handed_of ru) ⟨w, H1, I1.tok _, ru, q⟩
end
end EW

namespace EW
open PySem PySem.Spec PyProof.Rows L2
/-! ### objects of own classes -/
/-- d is an object of the class Ca with these fields: one that stays, or a cell -/
def InsD (C : Cells) (d : D) (Ca : Addr) (ns : List Str) (ds : List D) : Prop := d = .obj Ca ns ds ∨ ∃ (p : Addr) (i : Nat), d = .ref p ∧ C[i]? = some (p, Cl.ins Ca ns ds)
theorem ins_at {K : PySem.W.Frag} {W : Wd} {G : List (Option D)} {C : Cells} {σ : L2.St} {P H : Hp} {v : V} {d : D} {Ca : Addr} {ns : List Str} {ds : List D} (g : Good K W G C σ P H) (r : Rep K P v d) (h : InsD C d Ca ns ds) :
    ∃ a dx vs, v = .ref a ∧ H a = some (.ins Ca dx (ns.zip vs)) ∧ ns.length = vs.length ∧ Reps K P vs ds := by
  rcases h with rfl | ⟨p, i, rfl, hi⟩
  · cases r with
    | @obj a _ dx _ vs _ ha hl rs => exact ⟨a, dx, vs, rfl, le_ins g.le ha, hl, rs⟩
  · cases r
    obtain ⟨o, ho, dx, vs, rfl, hl, rs⟩ := g.cell hi
    exact ⟨p, dx, vs, rfl, ho, hl, rs⟩
theorem zip_lookup {K : PySem.W.Frag} {P : Hp} {f : Str} {y : D} : ∀ {ns : List Str} {vs : List V} {ds : List D}, ns.length = vs.length → Reps K P vs ds → (ns.zip ds).lookup f = some y → ∃ v, (ns.zip vs).lookup f = some v ∧ Rep K P v y
  | [], _, _, _, _, h => by simp at h
  | n :: ns, [], _, hl, _, _ => by simp at hl
  | n :: ns, v :: vs, _, hl, .cons r rs, h => by
    rw [List.zip_cons_cons] at h ⊢
    by_cases hn : f = n
    · subst hn
      simp [List.lookup] at h ⊢
      subst h; exact r
    · have e : (f == n) = false := by simpa using hn
      simp [List.lookup, e] at h ⊢
      exact zip_lookup (by simpa using hl) rs h
theorem zip_nolookup {f : Str} : ∀ {ns : List Str} {vs : List V}, f ∉ ns → (ns.zip vs).lookup f = none
  | [], _, _ => by simp
  | n :: ns, [], _ => by simp
  | n :: ns, v :: vs, h => by
    have e : (f == n) = false := by
      have : f ≠ n := fun z => h (by rw [z]; exact List.mem_cons_self)
      simpa using this
    show List.lookup f ((n, v) :: ns.zip vs) = none
    rw [List.lookup_cons, e]
    exact zip_nolookup fun z => h (List.mem_cons_of_mem _ z)
theorem putF_new {f : Str} {v : V} : ∀ {ns : List Str} {vs : List V}, ns.length = vs.length → f ∉ ns → putF f v (ns.zip vs) = (ns ++ [f]).zip (vs ++ [v])
  | [], [], _, _ => rfl
  | [], _ :: _, hl, _ => by simp at hl
  | n :: ns, [], hl, _ => by simp at hl
  | n :: ns, x :: vs, hl, h => by
    have e : n ≠ f := fun z => h (by rw [← z]; exact List.mem_cons_self)
    show (if n = f then (n, v) :: ns.zip vs else (n, x) :: putF f v (ns.zip vs)) = _
    rw [if_neg e, putF_new (by simpa using hl) fun z => h (List.mem_cons_of_mem _ z)]
    rfl
theorem putF_old {f : Str} {v : V} : ∀ {ns : List Str} {vs : List V} {i : Nat}, ns.length = vs.length → ns[i]? = some f → ns.Nodup → putF f v (ns.zip vs) = ns.zip (vs.set i v)
  | [], _, i, _, h, _ => by simp at h
  | n :: ns, [], _, hl, _, _ => by simp at hl
  | n :: ns, x :: vs, i, hl, h, nd => by
    cases i with
    | zero =>
      have e : n = f := by simpa using h
      subst e
      show (if n = n then _ else _) = _
      rw [if_pos rfl]; rfl
    | succ i =>
      have h' : ns[i]? = some f := by simpa using h
      have e : n ≠ f := fun z => (List.nodup_cons.mp nd).1 (by rw [z]; exact List.mem_of_getElem? h')
      show (if n = f then (n, v) :: ns.zip vs else (n, x) :: putF f v (ns.zip vs)) = _
      rw [if_neg e, putF_old (by simpa using hl) h' (List.nodup_cons.mp nd).2]
      rfl
theorem Good.perm {K : PySem.W.Frag} {W : Wd} {G : List (Option D)} {C C' : Cells} {σ : L2.St} {P H : Hp} (g : Good K W G C σ P H) (p : C.Perm C') : Good K W G C' σ P H :=
  ⟨g.wf, g.le, g.p0, g.fr, g.hb, g.tr, g.sl, fun q hq => g.ce q (p.mem_iff.mpr hq), (p.map (·.1)).nodup_iff.mp g.nd, g.len⟩
theorem Next.perm {K : PySem.W.Frag} {W : Wd} {G : List (Option D)} {C C' : Cells} {σ : L2.St} {P P' H : Hp} (n : Next K W G C σ P P' H) (p : C.Perm C') : Next K W G C' σ P P' H := ⟨n.ex, n.good.perm p⟩
/-- a method of the class -/
structure HasM (P : Program) (w : World) (K : PySem.W.Frag) (mg : Str → Option Value) (base : Heap) (Ca : Addr) (m : Str) (k : Nat) (F : FS) : Prop where
  ex : ∃ f fd ps, Meth K Ca m f ∧ Binds K fd ps [] ∧ FnG P w K mg base k f fd ps F
/-- what is told of a class whose objects are asked -/
structure ClT (K : PySem.W.Frag) (Ca : Addr) : Prop where
  cls : Cls K Ca
  ic : PySem.W.isClsIn K Ca = true
  ty : PySem.W.typeIn K (.ref Ca) = some (.type "type")
  ha : PySem.W.findIn K (.ref Ca) "__class__" = some (some (.builtin "object.__class__"))
  hn : PySem.W.specialIn K (.builtin "object.__class__") "__get__" = some (some (.builtin "getset_descriptor.__get__"))
  htk : PySem.W.takesIn K (.builtin "object.__class__") = some true
  hm : PySem.W.mroIn K Ca (.type "object") = some true
section
variable {X : Cx} {W : Wd} {G : List (Option D)} {C : Cells} {k : KD} {kb : KB} {E : DE} {e o a b c value : Expr} {es : List Expr} {pos pos' pos2 p p' p2 apos : Pos} {x f m : Str} {n j : Nat} {Ca : Addr} {F : FS} {xk : KG}
theorem wE_fld (h : wE X W e G C fun d C1 => ∃ Ca ns ds y, InsD C1 d Ca ns ds ∧ Cls X.K Ca ∧ NoAttr X.K Ca f ∧ (ns.zip ds).lookup f = some y ∧ k y C1) (hb : attributeBase e f X.env (eval e X.env) = eval e X.env := by rfl) : wE X W (.Attribute e f pos) G C k :=
  wE_of (pe_fld pe_sem hb) fun σ P H Q g z => h σ P H _ g fun d C1 v P1 H1 n1 r1 q => by
    obtain ⟨Ca, ns, ds, y, hi, hc, hno, hl, q⟩ := q
    obtain ⟨a, dx, vs, rfl, ha, hz, rs⟩ := ins_at n1.good r1 hi
    obtain ⟨v, hv, rv⟩ := zip_lookup hz rs hl
    exact ⟨a, Ca, dx, _, v, rfl, ha, hc, hno, hv, z y C1 v P1 H1 n1 rv q⟩
/-- o.f = e, a new field -/
theorem wS_fldN (h : wE X W value G C fun y C1 => wE X W o G C1 fun d C2 => ∃ p i Ca ns ds, d = .ref p ∧ C2[i]? = some (p, .ins Ca ns ds) ∧ Cls X.K Ca ∧ NoAttr X.K Ca f ∧ f ∉ ns ∧ ns.length < 1000 ∧ E.nx G (C2.set i (p, .ins Ca (ns ++ [f]) (ds ++ [y]))))
    (hs : swapsWith value (some (.Attribute o f pos')) pos.line X.env = pure false := by rfl) : wS X W (.Assign [.Attribute o f pos'] value pos) G C E :=
  wS_of (ps_fld pe_sem pe_sem hs) fun σ P H T g t => h σ P H _ g fun y C1 v P1 H1 n1 r1 q => q σ P1 H1 _ n1.good fun d C2 u P2 H2 n2 r2 q2 => by
    obtain ⟨p, i, Ca, ns, ds, rfl, hi, hc, hno, hf, hz, q2⟩ := q2
    cases r2
    obtain ⟨ob, ho, dx, vs, rfl, hl, rs⟩ := n2.good.cell hi
    refine ⟨p, Ca, dx, _, rfl, ho, hc, hno, by rw [List.length_zip]; omega, ?_⟩
    rw [putF_new hl hf]
    exact t.nx G _ σ P2 _ ⟨n1.ex.tr n2.ex, n2.good.write hi (c' := .ins Ca (ns ++ [f]) (ds ++ [y])) ⟨dx, vs ++ [v], rfl, by rw [List.length_append, List.length_append, hl]; rfl, rs.app (.cons (r1.ex' n2.ex) .nil)⟩⟩ q2
/-- o.f = e, the i-th field anew -/
theorem wS_fldO (h : wE X W value G C fun y C1 => wE X W o G C1 fun d C2 => ∃ p i Ca ns ds j, d = .ref p ∧ C2[i]? = some (p, .ins Ca ns ds) ∧ Cls X.K Ca ∧ NoAttr X.K Ca f ∧ ns[j]? = some f ∧ ns.Nodup ∧ ns.length < 1000 ∧ E.nx G (C2.set i (p, .ins Ca ns (ds.set j y))))
    (hs : swapsWith value (some (.Attribute o f pos')) pos.line X.env = pure false := by rfl) : wS X W (.Assign [.Attribute o f pos'] value pos) G C E :=
  wS_of (ps_fld pe_sem pe_sem hs) fun σ P H T g t => h σ P H _ g fun y C1 v P1 H1 n1 r1 q => q σ P1 H1 _ n1.good fun d C2 u P2 H2 n2 r2 q2 => by
    obtain ⟨p, i, Ca, ns, ds, j, rfl, hi, hc, hno, hf, hnd, hz, q2⟩ := q2
    cases r2
    obtain ⟨ob, ho, dx, vs, rfl, hl, rs⟩ := n2.good.cell hi
    refine ⟨p, Ca, dx, _, rfl, ho, hc, hno, by rw [List.length_zip]; omega, ?_⟩
    rw [putF_old hl hf hnd]
    exact t.nx G _ σ P2 _ ⟨n1.ex.tr n2.ex, n2.good.write hi (c' := .ins Ca ns (ds.set j y)) ⟨dx, vs.set j v, rfl, by rw [List.length_set]; exact hl, Reps.setAt (r1.ex' n2.ex) _ _ _ rs⟩⟩ q2
/-- a callee runs, at or below this body -/
theorem run_at {wx : WX} (tk : Takes X wx) {pins : List (Addr × Obj)} {σ : L2.St} {H : Hp} {s : Shared} {Q : VK} {us : List Value} {vs : List V} {f : Addr} {fd : FuncData} {ps : List Str} {A : Around} (R : FnG X.prog X.w X.K X.mg X.base j f fd ps F) (hr : Room j A) (hA : A.frames = X.A.frames) (hgu : A.guards = some []) (hb : Binds X.K fd ps [])
    (I : Inv X pins σ H s) (r : Vals vs us) (h : spD X.K F vs H Q fun cls dx H' => wx cls dx σ H') : wpAny (model X.prog X.w) A (call (.ref f) us) (EP X pins σ Q) X.xe s := by
  have hl : (us ++ []).length = ps.length := by
    rw [List.append_nil, ← r.length]; exact h.len R.len
  have hbb := hb s us I.kIn hl
  rw [List.append_nil] at hbb
  have e0 : Env0 X.prog X.w X.K X.mg X.base A X.stack s H := by
    have e := I.env0
    exact ⟨by rw [hA]; exact e.frames, e.mod, e.bs, e.bsz, e.funs, e.frf, e.hok, e.bare⟩
  refine wpAny_call (codeAny_mono (R.run A X.stack s H ⟨us, []⟩ us vs Q _ hr hgu e0 hbb r h) fun r s' hq => ?_)
  cases r with
  | error e => exact tk e s' (XE.of_call I (fun _ _ _ z => z) hq)
  | ok fl =>
    cases fl with
    | ret u => exact I.after hq
    | next => exact False.elim hq
    | brk => exact False.elim hq
    | cont => exact False.elim hq
theorem spD_all {wx : WX} {ka : KD} {xa : KE} (hw : ∀ ed G' C' cls dx σ P' H', Good X.K W G' C' σ P' H' → ErrIs X.K P' H' cls dx ed → xk ed G' C' → wx cls dx σ H') {σ : L2.St} {P H : Hp} {Q : VK} {vs : List V} {ds : List D} (g : Good X.K W G C σ P H) (rs : Reps X.K P vs ds) (hF : F ds C ka xa) (hxa : ∀ ed C', xa ed C' → xk ed G C')
    (z : ∀ d C' v P' H', Next X.K W G C' σ P P' H' → Rep X.K P' v d → ka d C' → Q v H') : spD X.K F vs H Q fun cls dx H' => wx cls dx σ H' := by
  refine ⟨P, ds, C, _, _, g.le, rs, fun q hq => ?_, g.nd, hF, fun d C' v P' H' n r q => ?_, fun ed C' cls dx P' H' n r q => ?_⟩
  · obtain ⟨h1, _, h3⟩ := g.ce q hq
    exact ⟨h1, h3⟩
  · have n2 := g.called (Co := []) (Ci := C) (by rw [List.append_nil]) n
    rw [List.append_nil] at n2
    exact z d C' v P' H' n2 r q
  · have n2 := g.called (Co := []) (Ci := C) (by rw [List.append_nil]) n
    rw [List.append_nil] at n2
    exact hw ed G C' cls dx σ P' H' n2.good r (hxa _ _ q)
/-- o.m(e, ..), all cells handed in -/
theorem wE_methA {pl : Sem Bool} (hx : XW X W xk) (c : Cls X.K Ca) (R : HasM X.prog X.w X.K X.mg X.base Ca m j F) (hr : Room n X.A) (hgu : X.A.guards = some []) (h : wE X W o G C fun d C1 => ∃ ns ds, InsD C1 d Ca ns ds ∧ m ∉ ns ∧ wA X W (e :: es) G C1 fun as C2 => F (d :: as) C2 k fun ed C' => xk ed G C') (hj : j ≤ n := by first | decide | omega)
    (hst : starEach (e :: es) X.env = (false, eval e X.env) :: starEach es X.env := by rfl) (hpl : (backTo pos (starEach es X.env)).any (·.1) = false := by rfl)
    (ht : eval (.Call (.Attribute o m apos) (e :: es) [] pos) X.env = (do
      let ov ← eval o X.env
      standAt apos.atName
      let (f, first) ← holding [ov] (getMethod ov m pl)
      callWith pos f first (backTo pos (starEach (e :: es) X.env)) (backToKw pos (keywordEach [] X.env))) := by rfl) : wE X W (.Call (.Attribute o m apos) (e :: es) [] pos) G C k := by
  obtain ⟨f, fd, ps, hm, hb, R⟩ := R
  obtain ⟨wx, tk, hw⟩ := hx.ex
  intro σ P H Q g z pins s I
  refine PySem.W.methodCall_KW (pl := pl) (thn (h σ P H (fun x H1 => ∃ a dx fs, x = .ref a ∧ H1 a = some (.ins Ca dx fs) ∧ fs.lookup m = none ∧ semA X (e :: es) σ H1 fun vs H2 => spD X.K F (.ref a :: vs) H2 Q fun cls dx H' => wx cls dx σ H') g (fun d C1 v P1 H1 n1 r1 q => ?_) pins s I) fun u s1 ⟨x, H1, I1, rx, a, dx, fs, ex, ea, l, q⟩ => ?_) ht
  · obtain ⟨ns, ds, hi, hn, q⟩ := q
    obtain ⟨a, dx, vs, rfl, ha, hz, rs⟩ := ins_at n1.good r1 hi
    exact ⟨a, dx, _, rfl, ha, zip_nolookup hn, q σ P1 H1 _ n1.good fun as C2 us P2 H2 n2 r2 q2 => spD_all hw n2.good (.cons (r1.ex' n2.ex) r2) q2 (fun _ _ z => z) fun d C' v P' H' n3 r q => z d C' v P' H' (n1.tr (n2.tr n3)) r q⟩
  · subst ex
    obtain rfl : u = Value.ref a := rx
    refine getmeth_ok I1 ea c hm l ?_
    refine PySem.W.callWith_K (first := [.ref a]) (h₀ := X.base) I.ok.mod.kin hm.kp (thn (q pos pins s1 I1) fun us s2 ⟨vs, H2, I2, r, q2⟩ => ⟨I2.kIn, ?_⟩) hst hpl
    exact run_at (us := .ref a :: us) (vs := .ref a :: vs) tk R (hr.mono hj) rfl hgu hb I2 (.cons rfl r) q2
theorem wE_methA0 {pl : Sem Bool} (hx : XW X W xk) (c : Cls X.K Ca) (R : HasM X.prog X.w X.K X.mg X.base Ca m j F) (hr : Room n X.A) (hgu : X.A.guards = some []) (h : wE X W o G C fun d C1 => ∃ ns ds, InsD C1 d Ca ns ds ∧ m ∉ ns ∧ F [d] C1 k fun ed C' => xk ed G C') (hj : j ≤ n := by first | decide | omega)
    (ht : eval (.Call (.Attribute o m apos) [] [] pos) X.env = (do
      let ov ← eval o X.env
      standAt apos.atName
      let (f, first) ← holding [ov] (getMethod ov m pl)
      callWith pos f first (backTo pos (starEach [] X.env)) (backToKw pos (keywordEach [] X.env))) := by rfl) : wE X W (.Call (.Attribute o m apos) [] [] pos) G C k := by
  obtain ⟨f, fd, ps, hm, hb, R⟩ := R
  obtain ⟨wx, tk, hw⟩ := hx.ex
  intro σ P H Q g z pins s I
  refine PySem.W.methodCall_KW (pl := pl) (thn (h σ P H (fun x H1 => ∃ a dx fs, x = .ref a ∧ H1 a = some (.ins Ca dx fs) ∧ fs.lookup m = none ∧ spD X.K F [.ref a] H1 Q fun cls dx H' => wx cls dx σ H') g (fun d C1 v P1 H1 n1 r1 q => ?_) pins s I) fun u s1 ⟨x, H1, I1, rx, a, dx, fs, ex, ea, l, q⟩ => ?_) ht
  · obtain ⟨ns, ds, hi, hn, q⟩ := q
    obtain ⟨a, dx, vs, rfl, ha, hz, rs⟩ := ins_at n1.good r1 hi
    exact ⟨a, dx, _, rfl, ha, zip_nolookup hn, spD_all hw n1.good (.cons r1 .nil) q (fun _ _ z => z) fun d C' v P' H' n3 r q => z d C' v P' H' (n1.tr n3) r q⟩
  · subst ex
    obtain rfl : u = Value.ref a := rx
    refine getmeth_ok I1 ea c hm l ?_
    exact PySem.W.callWith_K0 (first := [.ref a]) I1.kIn hm.kp (run_at (us := [.ref a]) (vs := [.ref a]) tk R (hr.mono hj) rfl hgu hb I1 (.cons rfl .nil) q)
end
end EW

namespace EW
open PySem PySem.Spec PyProof.Rows L2
/-- a class that is made by its __init__ -/
structure HasC (P : Program) (w : World) (K : PySem.W.Frag) (mg : Str → Option Value) (base : Heap) (x : Str) (Ca : Addr) (k : Nat) (F : FS) : Prop where
  ex : ∃ f fd ps, mg x = some (.ref Ca) ∧ Mk K Ca f ∧ Binds K fd ps [] ∧ FnG P w K mg base k f fd ps F
theorem make_guards {A : Around} {C : Addr} {us : List Value} {kw : List (Str × Value)} : (A.under (.builtin "type.__call__" ⟨.ref C :: us, kw⟩)).guards = A.guards := by
  first | rfl | simp [Around.under, Code.weight, Code.isCreation, Code.isGuard, Code.isCaller, Code.frames, Code.isFrame, guardIds]
theorem make_frames {A : Around} {C : Addr} {us : List Value} {kw : List (Str × Value)} : (A.under (.builtin "type.__call__" ⟨.ref C :: us, kw⟩)).frames = A.frames := by
  first | rfl | simp [Around.under, Code.envs, Code.isFrame, pushEnvs]
section
variable {X : Cx} {W : Wd} {G : List (Option D)} {C : Cells} {k : KD} {kb : KB} {E : DE} {e o a b c value : Expr} {es : List Expr} {pos pos' pos2 p p' p2 apos : Pos} {x f m : Str} {n j : Nat} {Ca : Addr} {F : FS} {xk : KG}
/-- C(e, ..): the new object stands first among the cells; behind __init__ its fields are known and it stays -/
theorem wE_makeA (hx : XW X W xk) (R : HasC X.prog X.w X.K X.mg X.base x Ca j F) (hr : Room n X.A) (hgu : X.A.guards = some []) (h : wA X W (e :: es) G C fun ds C1 => ∀ p, F (.ref p :: ds) ((p, .ins Ca [] []) :: C1) (fun d C' => d = .non ∧ (k (.ref p) C' ∨ ∃ ns ds Cr, C' = (p, Cl.ins Ca ns ds) :: Cr ∧ k (.obj Ca ns ds) Cr)) fun ed C' => xk ed G C') (hj : j + 1 ≤ n := by first | decide | omega) (hg : Gl X x := by rfl)
    (hdb : (x == ("__debug__" : Str)) = false := by decide) (he : starEach (e :: es) X.env = (false, eval e X.env) :: starEach es X.env := by rfl) (hpl : (backTo pos (starEach es X.env)).any (·.1) = false := by rfl) : wE X W (.Call (.Name x p) (e :: es) [] pos) G C k := by
  obtain ⟨f, fd, ps, hm, M, hb, R⟩ := R
  obtain ⟨wx, tk, hw⟩ := hx.ex
  intro σ P H Q g z pins s I
  have hr1 : Room (j + 1) X.A := hr.mono hj
  refine wpAny_Call_Name_kw (ld_glob I hg hm ?_ hdb)
  refine PySem.W.callWith_K (h₀ := X.base) I.ok.mod.kin M.kp (thn (h σ P H (fun vs H1 => ∀ q dx, H1 q = none → H1 dx = none → dx ≠ q → spD X.K F (.ref q :: vs) (upd (upd H1 dx (.own q)) q (.ins Ca dx [])) (fun v H2 => v = .non ∧ Q (.ref q) H2) fun cls dx H' => wx cls dx σ H') g (fun ds C1 vs P1 H1 n1 r1 q => ?_) pos pins s I) fun us s1 ⟨vs, H1, I1, r, q⟩ => ⟨I1.kIn, ?_⟩) he hpl
  · intro p dx hp hd hne
    have pn := n1.good.le.none hp
    have dn := n1.good.le.none hd
    have h0 : ∀ {b : Addr}, H1 b = none → W.H0 b = none := fun {b} hb => by
      cases e : W.H0 b with
      | none => rfl
      | some u => exact absurd hb (n1.good.tr b (by rw [e]; intro y; cases y))
    have nc : ∀ {b : Addr}, H1 b = none → b ∉ C1.map (·.1) := fun {b} hb w => by
      obtain ⟨q, hq, e⟩ := List.mem_map.mp w
      obtain ⟨_, _, o, ho, _⟩ := n1.good.ce q hq
      rw [e, hb] at ho; cases ho
    have g1 := n1.good.aside (o := .own p) dn (h0 hd) (nc hd)
    have g2 := g1.newCell (p := p) (o := .ins Ca dx []) (c := .ins Ca [] []) (by rw [upd_ne (Ne.symm hne)]; exact hp) ⟨dx, [], rfl, rfl, .nil⟩
    have g3 := g2.perm (C' := (p, .ins Ca [] []) :: C1) (List.perm_append_comm)
    exact spD_all hw g3 (.cons (.ref p) r1) (q p) (fun _ _ z => z) fun d C' v P' H' n2 r q2 => by
      obtain ⟨rfl, q2⟩ := q2
      cases r
      rcases q2 with q2 | ⟨ns, ds, Cr, rfl, q2⟩
      · exact ⟨rfl, z _ C' _ P' H' ⟨n1.ex.tr n2.ex, n2.good⟩ (.ref p) q2⟩
      · obtain ⟨gd, hc, pn', ob, hob, dx', vs', rfl, hl, rs⟩ := n2.good.drop (C1 := []) (C2 := Cr) rfl
        have n3 := gd.know pn' (h0 hp) hc hob
        exact ⟨rfl, z _ Cr (.ref p) _ H' ⟨n1.ex.tr (n2.ex.tr n3.ex), n3.good⟩ (.obj (dx := dx') (vs := vs') upd_same hl (rs.ex' n3.ex)) q2⟩
  · have hq := q (s1.heap.objs.size + 1) s1.heap.objs.size (I1.hok.fresh (Nat.le_succ _)) (I1.hok.fresh (Nat.le_refl _)) (Nat.ne_of_lt (Nat.lt_succ_self _))
    have J2 := Inv.made (C := Ca) I1
    have r2 : Vals (V.ref (s1.heap.objs.size + 1) :: vs) (Value.ref (s1.heap.objs.size + 1) :: us) := .cons rfl r
    have hl : (Value.ref (s1.heap.objs.size + 1) :: us ++ []).length = ps.length := by
      rw [List.append_nil, ← r2.length]; exact hq.len R.len
    have hbb := hb _ (Value.ref (s1.heap.objs.size + 1) :: us) J2.kIn hl
    rw [List.append_nil] at hbb
    have e0 := J2.env0.make Ca us []
    refine wpAny_call (make_map (f := f) I1.kIn M.makes M.init (beq_iff_eq.mp M.fn) (codeAny_mono (R.run _ X.stack _ _ ⟨Value.ref (s1.heap.objs.size + 1) :: us, []⟩ (Value.ref (s1.heap.objs.size + 1) :: us) _ _ _ (hr1.make Ca us []) (make_guards.trans hgu) e0 hbb r2 hq) fun r s' hq' => ?_))
    cases r with
    | error er => exact tk er s' (XE.of_call J2 (fun _ _ _ z => z) hq')
    | ok fl =>
      cases fl with
      | ret u =>
        obtain ⟨v, H', J3, rv, ev, q3⟩ := J2.after hq'
        subst ev
        exact ⟨rv, V.ref (s1.heap.objs.size + 1), H', J3, rfl, q3⟩
      | next => exact False.elim hq'
      | brk => exact False.elim hq'
      | cont => exact False.elim hq'
/-! ### what is asked of such objects -/
theorem kit_own {K : PySem.W.Frag} {Ca : Addr} {s : String} (T : ClT K Ca) (h : s ∈ kindsL) : PySem.W.kitOne K (.type s) (.ref Ca) = some false := by
  have h1 : ((PySem.W.clsIn K Ca).isSome && PySem.W.typeIn K (.ref Ca) == some (.type "type")) = true := by
    rw [Bool.and_eq_true]
    exact ⟨T.ic, by rw [T.ty]; exact beq_self_eq_true _⟩
  have h2 : PySem.W.subIn K (.type s) (.ref Ca) = some false := by
    simp only [kindsL, List.mem_cons, List.not_mem_nil, or_false] at h
    rcases h with rfl | rfl | rfl | rfl | rfl | rfl | rfl <;> rfl
  show (if (Value.type s == Value.ref Ca) = true then some true else PySem.W.kitCls K (.type s) (.ref Ca)) = _
  rw [if_neg (by simp)]
  show (if ((PySem.W.clsIn K Ca).isSome && PySem.W.typeIn K (.ref Ca) == some (.type "type")) = true then PySem.W.subIn K (.type s) (.ref Ca) else none) = _
  rw [if_pos h1, h2]
theorem kit_self {K : PySem.W.Frag} {Ca : Addr} : PySem.W.kitOne K (.ref Ca) (.ref Ca) = some true := if_pos (beq_self_eq_true _)
/-- the class of a value, cells and objects too -/
inductive TyD (K : PySem.W.Frag) (C : Cells) : D → Value → Prop
  | base {d : D} {s : String} : kindD d = some s → TyD K C d (.type s)
  | ins {d : D} {Ca : Addr} {ns : List Str} {ds : List D} : ClT K Ca → InsD C d Ca ns ds → TyD K C d (.ref Ca)
  | lst {p : Addr} {i : Nat} {ds : List D} : C[i]? = some (p, Cl.lst ds) → TyD K C (.ref p) (.type "list")
  | dct {p : Addr} {i : Nat} {ks : List Key} {ds : List D} : C[i]? = some (p, Cl.dct ks ds) → TyD K C (.ref p) (.type "dict")
theorem tyD_x {K : PySem.W.Frag} {σ : L2.St} {P H : Hp} (g : Good K W G C σ P H) {v : V} {d : D} {t : Value} (r : Rep K P v d) (h : TyD K C d t) : TyX K H v t := by
  cases h with
  | base h => exact kind_ty g r h
  | ins T h =>
    obtain ⟨a, dx, vs, rfl, ha, _⟩ := ins_at g r h
    exact .base (.ins ha T.cls T.ha T.hn T.htk T.hm)
  | lst h =>
    cases r
    obtain ⟨o, ho, vs, rfl, _⟩ := g.cell h
    exact .base (.lst ho)
  | dct h =>
    cases r
    obtain ⟨o, ho, vs, rfl, _⟩ := g.cell h
    exact .base (.dK ho)
/-- isinstance(x, T) by classes -/
theorem c_isiT {d : D} {T : String} {t : Value} {b : Bool} (h : TyD X.K C d t) (hk : PySem.W.kitOne X.K t (.type T) = some b) (q : k (.bl b) C) : cD X W (.builtin "isinstance") [d, .ty T] G C k := cD_of call_isi fun σ P H Q vs g rs z => by
  obtain ⟨v, u, rfl, r1, r2⟩ := reps2 rs
  cases r2
  exact ⟨v, .ty T, t, .type T, b, rfl, .ty T, tyD_x g r1 h, hk, z _ C _ P H g.refl (.bl _) q⟩
/-- isinstance(x, C), C an own class -/
theorem c_isiO {d : D} {t : Value} {b : Bool} (h : TyD X.K C d t) (hk : PySem.W.kitOne X.K t (.ref Ca) = some b) (q : k (.bl b) C) : cD X W (.builtin "isinstance") [d, .ref Ca] G C k := cD_of call_isi fun σ P H Q vs g rs z => by
  obtain ⟨v, u, rfl, r1, r2⟩ := reps2 rs
  cases r2
  exact ⟨v, .ref Ca, t, .ref Ca, b, rfl, .own Ca, tyD_x g r1 h, hk, z _ C _ P H g.refl (.bl _) q⟩
theorem c_isi2T {d : D} {T U : String} {t : Value} {b1 b2 : Bool} (h : TyD X.K C d t) (h1 : PySem.W.kitOne X.K t (.type T) = some b1) (h2 : PySem.W.kitOne X.K t (.type U) = some b2) (q : k (.bl (b1 || b2)) C) : cD X W (.builtin "isinstance") [d, .tup [.ty T, .ty U]] G C k := cD_of call_isiT fun σ P H Q vs g rs z => by
  obtain ⟨v, u, rfl, r1, r2⟩ := reps2 rs
  cases r2 with
  | @tup a ws _ hp rs =>
    obtain ⟨w1, w2, rfl, q1, q2⟩ := reps2 rs
    cases q1; cases q2
    have hk : PySem.W.kitAny X.K t [.type T, .type U] = some (b1 || b2) := kitAny_cons h1 (fun e => kitAny_cons h2 (fun e' => by rw [e, e']; exact kitAny_nil) fun e' => by rw [e, e']; rfl) fun e => by rw [e]; rfl
    exact ⟨v, a, [.ty T, .ty U], t, [.type T, .type U], _, rfl, le_tup g.le hp, .cons (.ty T) (.cons (.ty U) .nil), tyD_x g r1 h, hk, z _ C _ P H g.refl (.bl _) q⟩
/-- a callee that raises nothing runs, at or below this body -/
theorem run_at0 {pins : List (Addr × Obj)} {σ : L2.St} {H : Hp} {s : Shared} {Q : VK} {us : List Value} {vs : List V} {f : Addr} {fd : FuncData} {ps : List Str} {A : Around} (R : FnG X.prog X.w X.K X.mg X.base j f fd ps F) (hr : Room j A) (hA : A.frames = X.A.frames) (hgu : A.guards = some []) (hb : Binds X.K fd ps [])
    (I : Inv X pins σ H s) (r : Vals vs us) (h : spD X.K F vs H Q fun _ _ _ => False) : wpAny (model X.prog X.w) A (call (.ref f) us) (EP X pins σ Q) X.xe s := by
  have hl : (us ++ []).length = ps.length := by
    rw [List.append_nil, ← r.length]; exact h.len R.len
  have hbb := hb s us I.kIn hl
  rw [List.append_nil] at hbb
  have e0 : Env0 X.prog X.w X.K X.mg X.base A X.stack s H := by
    have e := I.env0
    exact ⟨by rw [hA]; exact e.frames, e.mod, e.bs, e.bsz, e.funs, e.frf, e.hok, e.bare⟩
  refine wpAny_call (codeAny_mono (R.run A X.stack s H ⟨us, []⟩ us vs Q _ hr hgu e0 hbb r h) fun r s' hq => ?_)
  cases r with
  | error e => exact passL (X := X) pins σ H s e s' I hq
  | ok fl =>
    cases fl with
    | ret u => exact I.after hq
    | next => exact False.elim hq
    | brk => exact False.elim hq
    | cont => exact False.elim hq
theorem spD_all0 {σ : L2.St} {P H : Hp} {Q : VK} {vs : List V} {ds : List D} {ka : KD} (g : Good X.K W G C σ P H) (rs : Reps X.K P vs ds) (hF : F ds C ka KE0)
    (z : ∀ d C' v P' H', Next X.K W G C' σ P P' H' → Rep X.K P' v d → ka d C' → Q v H') : spD X.K F vs H Q fun _ _ _ => False := by
  refine ⟨P, ds, C, _, _, g.le, rs, fun q hq => ?_, g.nd, hF, fun d C' v P' H' n r q => ?_, fun ed C' cls dx P' H' n r q => q.elim⟩
  · obtain ⟨h1, _, h3⟩ := g.ce q hq
    exact ⟨h1, h3⟩
  · have n2 := g.called (Co := []) (Ci := C) (by rw [List.append_nil]) n
    rw [List.append_nil] at n2
    exact z d C' v P' H' n2 r q
/-- len(o), o an object with its own __len__ -/
theorem c_lenO {d : D} {ns : List Str} {ds : List D} (R : HasM X.prog X.w X.K X.mg X.base Ca "__len__" j F) (hr : Room n X.A) (hgu : X.A.guards = some []) (hi : InsD C d Ca ns ds) (hF : F [d] C (fun y C' => ∃ i : Nat, y = .int i ∧ i ≤ 1000000 ∧ k y C') KE0) (hj : j + 1 ≤ n := by first | decide | omega) : cD X W (.builtin "len") [d] G C k := by
  obtain ⟨f, fd, ps, hm, hb, R⟩ := R
  intro σ P H Q vs g rs z pins s τ us I rv
  obtain ⟨v, rfl, r1⟩ := reps1 rs
  obtain ⟨a, dx, fv, rfl, ha, hz, _⟩ := ins_at g r1 hi
  cases rv with
  | cons ra rn =>
    cases rn
    cases ra
    obtain ⟨mA, O, _⟩ := ins_get I.hok ha
    obtain ⟨od, J, _⟩ := O.look
    obtain ⟨m, fr⟩ := I.fr
    have hr1 : Room (j + 1) X.A := hr.mono hj
    have sp : spD X.K F [.ref a] H (fun y H' => ∃ i : Nat, y = .int i ∧ i ≤ 1000000 ∧ Q y H') fun _ _ _ => False := spD_all0 g (.cons r1 .nil) hF fun y C' w P' H' n2 r q => by
      obtain ⟨i, rfl, hi, q⟩ := q
      cases r
      exact ⟨i, rfl, hi, z _ C' _ P' H' n2 (.int _) q⟩
    refine PySem.W.len_K fr I.ok.mod.kin J hm.at_ hm.fn (wpAny_mono (run_at0 (us := [.ref a]) (vs := [.ref a]) R hr1.in1 rfl hgu hb I (.cons rfl .nil) sp) (fun u s1 hq => ?_) fun _ _ z => z)
    obtain ⟨v, H1, I1, rv, i, rfl, hi, q⟩ := hq
    obtain ⟨t, ht⟩ := (show ∃ t, u = Value.int (i : Int) t from rv)
    subst ht
    exact ⟨⟨by omega, by omega⟩, .int i, H1, I1.tok _, ⟨_, rfl⟩, q⟩
/-- o == y, o an object with its own __eq__ -/
theorem o_eqO {d y : D} {ns : List Str} {ds : List D} {t : Value} (R : HasM X.prog X.w X.K X.mg X.base Ca "__eq__" j F) (hr : Room n X.A) (hgu : X.A.guards = some []) (hi : InsD C d Ca ns ds) (ht : TyD X.K C y t) (hnf : PySem.W.notFirst X.K Ca t = true) (hF : F [d, y] C (fun y C' => ∃ b : Bool, y = .bl b ∧ k y C') KE0) (hj : j ≤ n := by first | decide | omega) : oD X W (compareOp .Eq) d y G C k := by
  obtain ⟨f, fd, ps, hm, hb, R⟩ := R
  intro σ P H Q v u g r1 r2 z pins s τ v' u' I rv ru
  obtain ⟨a, dx, fv, rfl, ha, hz, _⟩ := ins_at g r1 hi
  cases rv
  obtain ⟨mA, O, _⟩ := ins_get I.hok ha
  obtain ⟨od, J, _⟩ := O.look
  obtain ⟨m, fr⟩ := I.fr
  have hr1 : Room j X.A := hr.mono hj
  have hty : PySem.W.Looks (model X.prog X.w) s.heap (typeOf u') t := by
    obtain ⟨Pk, kx, hp, _⟩ := kit_of I ru (tyD_x g r2 ht)
    exact kx.ty _ _ I.kIn hp
  have sp : spD X.K F [.ref a, u] H (fun y H' => ∃ b : Bool, y = .bl b ∧ Q y H') fun _ _ _ => False := spD_all0 g (.cons r1 (.cons r2 .nil)) hF fun y C' w P' H' n2 r q => by
    obtain ⟨b, rfl, q⟩ := q
    cases r
    exact ⟨b, rfl, z _ C' _ P' H' n2 (.bl _) q⟩
  show wpAny (model X.prog X.w) X.A (richCompare .Eq (.ref a) u') (EP X pins τ Q) X.xe s
  refine PySem.W.cmp_K (op := .Eq) (tb := t) hr1.units0 fr I.ok.mod.kin J hty hnf hm.at_ hm.fn (wpAny_mono (run_at0 (us := [.ref a, u']) (vs := [.ref a, u]) R hr1 rfl hgu hb I (.cons rfl (.cons ru .nil)) sp) (fun w s1 hq => ?_) fun _ _ z => z)
  obtain ⟨v2, H1, I1, rv, b, rfl, q⟩ := hq
  obtain rfl : w = Value.bool b := rv
  exact ⟨.bl b, H1, I1, rfl, q⟩
theorem nf_self {K : PySem.W.Frag} : PySem.W.notFirst K Ca (.ref Ca) = true := by unfold PySem.W.notFirst; rw [beq_self_eq_true]; rfl
theorem nf_base {K : PySem.W.Frag} {s : String} (h : s ∈ kindsL) : PySem.W.notFirst K Ca (.type s) = true := by
  simp only [kindsL, List.mem_cons, List.not_mem_nil, or_false] at h
  rcases h with rfl | rfl | rfl | rfl | rfl | rfl | rfl <;> rfl
/-- o != y by the own __eq__ -/
theorem o_neO {d y : D} {ns : List Str} {ds : List D} {t : Value} (R : HasM X.prog X.w X.K X.mg X.base Ca "__eq__" j F) (T : ClT X.K Ca) (hne : PySem.W.findIn X.K (.ref Ca) "__ne__" = some (some (.builtin "object.__ne__"))) (hr : Room n X.A) (hgu : X.A.guards = some []) (hi : InsD C d Ca ns ds) (ht : TyD X.K C y t) (hnf : PySem.W.notFirst X.K Ca t = true) (hF : F [d, y] C (fun y C' => ∃ b : Bool, y = .bl b ∧ k (.bl (!b)) C') KE0) (hj : j + 1 ≤ n := by first | decide | omega) : oD X W (compareOp .NotEq) d y G C k := by
  obtain ⟨f, fd, ps, hm, hb, R⟩ := R
  intro σ P H Q v u g r1 r2 z pins s τ v' u' I rv ru
  obtain ⟨a, dx, fv, rfl, ha, hz, _⟩ := ins_at g r1 hi
  cases rv
  obtain ⟨mA, O, _⟩ := ins_get I.hok ha
  obtain ⟨od, J, _⟩ := O.look
  obtain ⟨m, fr⟩ := I.fr
  have KX := I.kIn
  have hr1 : Room (j + 1) X.A := hr.mono hj
  have hty : PySem.W.Looks (model X.prog X.w) s.heap (typeOf u') t := by
    obtain ⟨Pk, kx, hp, _⟩ := kit_of I ru (tyD_x g r2 ht)
    exact kx.ty _ _ I.kIn hp
  have sp : spD X.K F [.ref a, u] H (fun y H' => ∃ b : Bool, y = .bl b ∧ Q (.bl (!b)) H') fun _ _ _ => False := spD_all0 g (.cons r1 (.cons r2 .nil)) hF fun y C' w P' H' n2 r q => by
    obtain ⟨b, rfl, q⟩ := q
    cases r
    exact ⟨b, rfl, z _ C' _ P' H' n2 (.bl _) q⟩
  have body : wpAny (model X.prog X.w) X.A.in1 (Builtin.«object.__ne__» ⟨[.ref a, u'], []⟩) (fun fin s' => ∃ b : Bool, fin = .done (.ret (.bool b)) ∧ EP X pins τ Q (.bool b) s') X.xe s := by
    unfold Builtin.«object.__ne__»
    refine wpAny_bind (m := slotArgs _ _ _) (wpAny_pure ?_)
    refine wpAny_bind (wpAny_cRoomFor hr1.in1.units0 ?_)
    refine wpAny_bind (PySem.W.ifBound_K KX J hm.at_ hm.fn (wpAny_mono (run_at0 (us := [.ref a, u']) (vs := [.ref a, u]) R hr1.in1 rfl hgu hb I (.cons rfl (.cons ru .nil)) sp) (fun w s1 hq => ?_) fun _ _ z => z))
    obtain ⟨v2, H1, I1, rv, b, rfl, q⟩ := hq
    obtain rfl : w = Value.bool b := rv
    refine wpAny_bind (wpAny_truthy_bool ?_)
    exact wpAny_pure ⟨!b, rfl, .bl (!b), H1, I1, rfl, q⟩
  have called : wpAny (model X.prog X.w) X.A (call (.builtin "object.__ne__") [.ref a, u']) (fun w s' => ∃ b : Bool, w = .bool b ∧ EP X pins τ Q (.bool b) s') X.xe s := by
    refine wpAny_call (codeAny_call_builtin PySem.F.cmp_object.ne.plain PySem.F.cmpEntry_ne (PySem.W.check_slot PySem.F.cmpKind_ne PySem.F.cmpSplit_ne (J.type.andThen (PySem.W.looks_mroIn KX T.hm)) (PySem.F.cmpArgs_ne _ _) (wpAny_mono body (fun fin s' hq => ?_) fun _ _ z => z)))
    obtain ⟨b, rfl, hq⟩ := hq
    exact ⟨b, rfl, hq⟩
  have one : wpAny (model X.prog X.w) X.A (tryCompare (.ref a) "__ne__" u') (fun r s' => ∃ b : Bool, r = some (.bool b) ∧ EP X pins τ Q (.bool b) s') X.xe s := by
    unfold tryCompare
    simp only [callSpecialIfBound?, bindSpecialIfBound?]
    refine wpAny_bind (wpAny_holding (wpAny_bind (wpAny_bind (wpAny_bind (J.type.here ((PySem.W.looks_findIn KX hne).here ?_))))))
    have fin : ∀ {Q2 : Option Value → Shared → Prop}, (∀ b s', EP X pins τ Q (.bool b) s' → Q2 (some (.bool b)) s') → wpAny (model X.prog X.w) X.A (call (.builtin "object.__ne__") ([.ref a] ++ [u']) >>= fun v => pure (some v)) Q2 X.xe s := fun {Q2} h2 => wpAny_bind (wpAny_mono called (fun v s' hq => wpAny_pure (by obtain ⟨b, rfl, hq⟩ := hq; exact h2 b s' hq)) fun _ _ z => z)
    refine wpAny_bind (wpAny_askSetting (wpAny_ite ?_))
    split
    · exact wpAny_bind (wpAny_of_eq (PySem.F.cmp_object.ne.bind _) (wpAny_pure (by exact fin fun b s' h => wpAny_pure ⟨b, rfl, h⟩)))
    · exact wpAny_tryCatch (wpAny_bind (wpAny_of_eq (PySem.F.cmp_object.ne.bind _) (wpAny_pure (by exact fin fun b s' h => wpAny_pure ⟨b, rfl, h⟩))))
  show wpAny (model X.prog X.w) X.A (richCompare .NotEq (.ref a) u') (EP X pins τ Q) X.xe s
  unfold richCompare
  simp only [oneThing_ref]
  refine wpAny_holding (wpAny_bind (wpAny_cRoomFor hr1.units0 ?_))
  refine wpAny_bind (J.type.here (wpAny_bind (hty.here ?_)))
  have last : ∀ {k' : Option Value → Sem Value}, (∀ b, k' (some (.bool b)) = pure (.bool b)) → wpAny (model X.prog X.w) X.A (tryCompare (.ref a) "__ne__" u' >>= k') (EP X pins τ Q) X.xe s := fun {k'} hk => wpAny_bind (wpAny_mono one (fun r s' hq => by
    obtain ⟨b, rfl, hq⟩ := hq
    rw [hk]; exact wpAny_pure hq) fun _ _ z => z)
  split
  · rename_i q
    have e : PySem.W.subIn X.K t (.ref Ca) = some false := by
      rcases Bool.or_eq_true_iff.mp hnf with e | e
      · rw [beq_iff_eq.mp e] at q; simp at q
      · exact beq_iff_eq.mp e
    refine wpAny_bind ((PySem.W.looks_subIn KX e).here ?_)
    simp only [Bool.false_eq_true, if_false]
    exact last fun b => rfl
  · exact last fun b => rfl
end
end EW

namespace EW
open PySem PySem.Spec PyProof.Rows L2
/-! ### lists and tuples as arguments: those that stay, and cells -/
def SeqIn (C : Cells) (d : D) (xs : List D) : Prop := d = .lst xs ∨ d = .tup xs ∨ ∃ (p : Addr) (i : Nat), d = .ref p ∧ C[i]? = some (p, Cl.lst xs)
theorem seq_at {K : PySem.W.Frag} {W : Wd} {G : List (Option D)} {C : Cells} {σ : L2.St} {P H : Hp} {v : V} {d : D} {xs : List D} (g : Good K W G C σ P H) (r : Rep K P v d) (h : SeqIn C d xs) : ∃ a vs, v = .ref a ∧ (SqL K H a vs ∨ SqT K H a vs) ∧ Reps K P vs xs := by
  rcases h with rfl | rfl | ⟨p, i, rfl, hi⟩
  · cases r with
    | @lst a vs _ ha rs => exact ⟨a, vs, rfl, .inl (.inl (.inl (le_lst g.le ha))), rs⟩
  · cases r with
    | @tup a vs _ ha rs => exact ⟨a, vs, rfl, .inr (.inl (.inl (le_tup g.le ha))), rs⟩
  · cases r
    obtain ⟨o, ho, vs, rfl, rs⟩ := g.cell hi
    exact ⟨p, vs, rfl, .inl (.inl (.inl ho)), rs⟩
theorem Reps.rev {K : PySem.W.Frag} {P : Hp} : ∀ {ds : List D} {vs : List V}, Reps K P vs ds → Reps K P vs.reverse ds.reverse
  | [], _, .nil => .nil
  | d :: ds, _, .cons r rs => by
    rw [List.reverse_cons, List.reverse_cons]
    exact rs.rev.app (.cons r .nil)
theorem Reps.erase {K : PySem.W.Frag} {P : Hp} : ∀ {ds : List D} {vs : List V} (i : Nat), Reps K P vs ds → Reps K P (vs.eraseIdx i) (ds.eraseIdx i)
  | [], _, _, .nil => .nil
  | d :: ds, _, 0, .cons r rs => rs
  | d :: ds, _, i + 1, .cons r rs => .cons r (rs.erase i)
/-- more cells than these -/
def Sub (R C : Cells) : Prop := ∃ Z, C.Perm (R ++ Z)
theorem Sub.rfl' {R : Cells} : Sub R R := ⟨[], by rw [List.append_nil]⟩
theorem Sub.perm {R C : Cells} (h : C.Perm R) : Sub R C := ⟨[], by rw [List.append_nil]; exact h⟩
theorem Sub.app {R Z : Cells} : Sub R (R ++ Z) := ⟨Z, List.Perm.refl _⟩
theorem Sub.app' {R Z : Cells} : Sub R (Z ++ R) := ⟨Z, List.perm_append_comm⟩
theorem Sub.cons {R : Cells} {q : Addr × Cl} : Sub R (q :: R) := ⟨[q], List.perm_append_comm (l₁ := [q])⟩
theorem Sub.tr {A B C : Cells} (h : Sub A B) (h' : Sub B C) : Sub A C := by
  obtain ⟨Z, h⟩ := h
  obtain ⟨Z', h'⟩ := h'
  exact ⟨Z ++ Z', h'.trans (by rw [← List.append_assoc]; exact h.append_right Z')⟩
theorem Good.sub {K : PySem.W.Frag} {W : Wd} {G : List (Option D)} {R C : Cells} {σ : L2.St} {P H : Hp} (g : Good K W G C σ P H) (h : Sub R C) : Good K W G R σ P H := by
  obtain ⟨Z, h⟩ := h
  have g2 := g.perm h
  refine ⟨g2.wf, g2.le, g2.p0, g2.fr, g2.hb, g2.tr, g2.sl, fun q hq => g2.ce q (List.mem_append_left _ hq), ?_, g2.len⟩
  have nd := g2.nd
  rw [List.map_append, List.nodup_append] at nd
  exact nd.1
section
variable {X : Cx} {W : Wd} {G : List (Option D)} {C R : Cells} {k : KD} {kb : KB} {E : DE} {e o a b c value : Expr} {es : List Expr} {pos pos' pos2 p p' p2 apos : Pos} {x f m : Str} {n j : Nat} {xk : KG} {sts body : List Stmt} {st : Stmt} {tg : Expr}
theorem wSs_sub (h : Sub R C) (w : wSs X W sts G R E) : wSs X W sts G C E := fun σ P H T g f => w σ P H T (g.sub h) f
theorem wS_sub (h : Sub R C) (w : wS X W st G R E) : wS X W st G C E := fun σ P H T g f => w σ P H T (g.sub h) f
theorem wE_sub (h : Sub R C) (w : wE X W e G R k) : wE X W e G C k := fun σ P H Q g z => w σ P H Q (g.sub h) z
theorem xw_sub (hx : XW X W xk) (Z : Cells) : XW X W (fun ed G C => ∃ R, Sub R C ∧ xk ed G R) := by
  obtain ⟨wx, tk, hw⟩ := hx.ex
  exact ⟨wx, tk, fun ed G' C' cls dx σ P' H' g he q => by
    obtain ⟨R, hs, q⟩ := q
    exact hw ed G' R cls dx σ P' H' (g.sub hs) he q⟩
theorem XW.sub (hx : XW X W xk) : XW X W (fun ed G C => ∃ R, Sub R C ∧ xk ed G R) := xw_sub hx []
/-! what is asked of a list -/
def flatD : D → Bool
  | .non | .bl _ | .int _ | .str _ => true
  | _ => false
theorem eqV_strs (s : Str) : ∀ ss : List Str, inV (.str s) (ss.map V.str) = decide (s ∈ ss)
  | [] => rfl
  | t :: r => by
    show (eqV (.str t) (.str s) || inV (.str s) (r.map V.str)) = _
    rw [eqV_strs s r]
    have e : eqV (.str t) (.str s) = decide (s = t) := by
      by_cases h : s = t
      · subst h; simp [eqV]
      · rw [decide_eq_false h]; simp [eqV]; first | exact fun z => h z.symm | exact h | exact fun z => h z
    rw [e]
    simp only [List.mem_cons, Bool.decide_or]
theorem eqV_ints (s : Int) : ∀ ss : List Int, inV (.int s) (ss.map V.int) = decide (s ∈ ss)
  | [] => rfl
  | t :: r => by
    show (eqV (.int t) (.int s) || inV (.int s) (r.map V.int)) = _
    rw [eqV_ints s r]
    have e : eqV (.int t) (.int s) = decide (s = t) := by
      by_cases h : s = t
      · subst h; simp [eqV]
      · rw [decide_eq_false h]; simp [eqV]; first | exact fun z => h z.symm | exact h | exact fun z => h z
    rw [e]
    simp only [List.mem_cons, Bool.decide_or]
theorem flat_strs : ∀ ss : List Str, (ss.map V.str).all flatV = true
  | [] => rfl
  | t :: r => by rw [List.map_cons, List.all_cons, flat_strs r]; rfl
theorem flat_ints : ∀ ss : List Int, (ss.map V.int).all flatV = true
  | [] => rfl
  | t :: r => by rw [List.map_cons, List.all_cons, flat_ints r]; rfl
theorem o_inStrs {s : Str} {d : D} {ss : List Str} (h : SeqIn C d (ss.map D.str)) (q : k (.bl (decide (s ∈ ss))) C) : oD X W (compareOp .In) (.str s) d G C k := oD_of op_in_seq fun σ P H Q v u g r1 r2 z => by
  cases r1
  obtain ⟨a, vs, rfl, ha, rs⟩ := seq_at g r2 h
  rw [reps_strsV rs] at ha
  exact ⟨a, _, rfl, ha, rfl, flat_strs ss, by rw [if_neg (by decide), eqV_strs]; exact z _ C _ P H g.refl (.bl _) q⟩
theorem o_niStrs {s : Str} {d : D} {ss : List Str} (h : SeqIn C d (ss.map D.str)) (q : k (.bl (!decide (s ∈ ss))) C) : oD X W (compareOp .NotIn) (.str s) d G C k := oD_of op_notIn_seq fun σ P H Q v u g r1 r2 z => by
  cases r1
  obtain ⟨a, vs, rfl, ha, rs⟩ := seq_at g r2 h
  rw [reps_strsV rs] at ha
  exact ⟨a, _, rfl, ha, rfl, flat_strs ss, by rw [if_pos rfl, eqV_strs]; exact z _ C _ P H g.refl (.bl _) q⟩
theorem o_inInts {s : Int} {d : D} {ss : List Int} (h : SeqIn C d (ss.map D.int)) (q : k (.bl (decide (s ∈ ss))) C) : oD X W (compareOp .In) (.int s) d G C k := oD_of op_in_seq fun σ P H Q v u g r1 r2 z => by
  cases r1
  obtain ⟨a, vs, rfl, ha, rs⟩ := seq_at g r2 h
  rw [reps_intsV rs] at ha
  exact ⟨a, _, rfl, ha, rfl, flat_ints ss, by rw [if_neg (by decide), eqV_ints]; exact z _ C _ P H g.refl (.bl _) q⟩
theorem o_niInts {s : Int} {d : D} {ss : List Int} (h : SeqIn C d (ss.map D.int)) (q : k (.bl (!decide (s ∈ ss))) C) : oD X W (compareOp .NotIn) (.int s) d G C k := oD_of op_notIn_seq fun σ P H Q v u g r1 r2 z => by
  cases r1
  obtain ⟨a, vs, rfl, ha, rs⟩ := seq_at g r2 h
  rw [reps_intsV rs] at ha
  exact ⟨a, _, rfl, ha, rfl, flat_ints ss, by rw [if_pos rfl, eqV_ints]; exact z _ C _ P H g.refl (.bl _) q⟩
/-- len(x) -/
theorem c_lenQ {d : D} {xs : List D} (h : SeqIn C d xs) (q : k (.int xs.length) C) : cD X W (.builtin "len") [d] G C k := cD_of call_len_seq fun σ P H Q vs g rr z => by
  obtain ⟨v, rfl, r⟩ := reps1 rr
  obtain ⟨a, ws, rfl, ha, rs⟩ := seq_at g r h
  exact ⟨a, ws, rfl, ha, by rw [rs.len]; exact z _ C _ P H g.refl (.int _) q⟩
/-- list(x): one that stays -/
theorem t_listQ {d : D} {xs : List D} (h : SeqIn C d xs) (q : k (.lst xs) C) : cD X W (.type "list") [d] G C k := cD_of call_list_of fun σ P H Q vs g rr z => by
  obtain ⟨v, rfl, r⟩ := reps1 rr
  obtain ⟨a, ws, rfl, ha, rs⟩ := seq_at g r h
  refine ⟨a, ws, rfl, ha, fun l hl => ?_⟩
  have n := g.new (o := .lst ws) hl
  exact z _ C (.ref l) _ _ n (.lst upd_same (rs.ex' n.ex)) q
/-- list(x): a cell -/
theorem t_listC {d : D} {xs : List D} (h : SeqIn C d xs) (q : ∀ p, k (.ref p) (C ++ [(p, .lst xs)])) : cD X W (.type "list") [d] G C k := cD_of call_list_of fun σ P H Q vs g rr z => by
  obtain ⟨v, rfl, r⟩ := reps1 rr
  obtain ⟨a, ws, rfl, ha, rs⟩ := seq_at g r h
  refine ⟨a, ws, rfl, ha, fun l hl => ?_⟩
  exact z _ _ (.ref l) P _ ⟨Ex.rfl' P, g.newCell (c := .lst xs) hl ⟨ws, rfl, rs⟩⟩ (.ref l) (q l)
/-- x[i] -/
theorem xD_q {d : D} {xs : List D} {i : Int} {y : D} (hs : SeqIn C d xs) (h : atI xs i = some y) (q : k y C) : xD X W d (.int i) G C k := by
  rcases hs with rfl | rfl | ⟨p, j, rfl, hj⟩
  · exact xD_lst h q
  · exact xD_tup h q
  · exact xD_cell j hj h q
/-- l.reverse() -/
theorem m_reverse (i : Nat) {p : Addr} {ds : List D} (hc : C[i]? = some (p, .lst ds)) (q : k .non (C.set i (p, .lst ds.reverse))) : mD X W "list.reverse" (.ref p) [] G C k := mD_of (fun pins s σ H x vs v us Q I rx rv h => mt_reverse pins s σ H x vs v us Q I rx rv h) fun σ P H Q v vs g r1 rs z => by
  cases r1; cases rs
  obtain ⟨o, ho, ws, rfl, rs⟩ := g.cell hc
  exact ⟨p, ws, rfl, rfl, ho, z _ _ _ P _ ⟨Ex.rfl' P, g.write (c' := .lst ds.reverse) hc ⟨ws.reverse, rfl, rs.rev⟩⟩ .non q⟩
/-- l.pop(i), i a place of it -/
theorem m_popAt (i : Nat) {p : Addr} {ds : List D} {j : Nat} {y : D} (hc : C[i]? = some (p, .lst ds)) (hy : ds[j]? = some y) (hz : ds.length ≤ 100000) (q : k y (C.set i (p, .lst (ds.eraseIdx j)))) : mD X W "list.pop" (.ref p) [natD j] G C k := mD_of (fun pins s σ H x vs v us Q I rx rv h => mt_popAt pins s σ H x vs v us Q I rx rv h) fun σ P H Q v vs g r1 rs z => by
  cases r1
  obtain ⟨u, rfl, ru⟩ := reps1 rs
  cases ru
  obtain ⟨o, ho, ws, rfl, rs⟩ := g.cell hc
  obtain ⟨w, hw, rw'⟩ := rs.get hy
  have hl : j < ds.length := (List.getElem?_eq_some_iff.mp hy).1
  have hk : seqIndex? (j : Int) ws.length = some j := by
    rw [rs.len]; unfold seqIndex?
    have h0 : ¬ ((j : Int) < 0) := by omega
    simp only [h0, if_false]
    have h1 : (0 : Int) ≤ (j : Int) := by omega
    have h2 : (j : Int) < (ds.length : Int) := by omega
    simp [h1, h2, hl]
  exact ⟨p, ws, (j : Int), j, w, rfl, rfl, ho, by omega, by omega, hk, hw, z _ _ w P _ ⟨Ex.rfl' P, g.write (c' := .lst (ds.eraseIdx j)) hc ⟨ws.eraseIdx j, rfl, rs.erase j⟩⟩ rw' q⟩
/-! for over a list, a tuple or a cell: in the body the cell is not at hand -/
theorem good_out {K : PySem.W.Frag} {σ σ' : L2.St} {P P' H H' : Hp} {G' : List (Option D)} {C1 C2 C' : Cells} {p : Addr} {c : Cl} (g : Good K W G (C1 ++ (p, c) :: C2) σ P H) (g' : Good K (baseW P H ((C1 ++ C2).map (·.1))) G' C' σ' P' H') : Good K W G' (C' ++ [(p, c)]) σ' P' H' := by
  obtain ⟨g2, hc, pn, o, ho, co⟩ := g.drop rfl
  have gb := g2.back g'
  have hio := (g.ce (p, c) (by simp)).2.1
  have nH : H p ≠ none := by rw [ho]; intro z; cases z
  have pn' : P' p = none := (g'.fr p nH).trans pn
  have ho' : H' p = some o := g'.hb p o (by rw [baseW_hb hc]; exact ho)
  have nc : p ∉ C'.map (·.1) := fun z => by
    obtain ⟨q, hq, e⟩ := List.mem_map.mp z
    obtain ⟨_, h2, _⟩ := g'.ce q hq
    rw [e] at h2
    rcases h2 with h2 | h2
    · exact nH h2
    · exact hc h2
  refine ⟨gb.wf, gb.le, gb.p0, gb.fr, gb.hb, gb.tr, gb.sl, fun q hq => ?_, ?_, gb.len⟩
  · rcases List.mem_append.mp hq with hq | hq
    · exact gb.ce q hq
    · have e : q = (p, c) := by simpa using hq
      subst e
      exact ⟨pn', hio, o, ho', Cl.ho_ex g'.p0 co⟩
  · rw [List.map_append, List.nodup_append]
    refine ⟨gb.nd, by simp, fun a ha b hb => ?_⟩
    have e : b = p := by simpa using hb
    subst e
    intro z; subst z; exact nc ha
/-- what is left of the cells while one is walked -/
def Left (C : Cells) (d : D) (C2 Z : Cells) : Prop := (Z = [] ∧ C2 = C) ∨ ∃ C1 C3 p c, d = .ref p ∧ C = C1 ++ (p, c) :: C3 ∧ C2 = C1 ++ C3 ∧ Z = [(p, c)]
theorem wS_forQ {iter : Expr} {d : D} {xs : List D} (hd : wE X W iter G C fun d' C' => d' = d ∧ C' = C) (hs : SeqIn C d xs) (hx : XW X W xk)
    (h : ∀ (W2 : Wd) (C2 Z : Cells), Left C d C2 Z → XW X W2 (fun ed G C' => xk ed G (C' ++ Z)) → ∃ Iv : Nat → List (Option D) → Cells → Prop, Iv 0 G C2 ∧
      (∀ i y G' C', xs[i]? = some y → Iv i G' C' → wG X W2 tg y G' C' fun G2 C3 => wSs X W2 body G2 C3 { nx := Iv (i + 1), ct := Iv (i + 1), bk := fun G C' => E.nx G (C' ++ Z), rt := fun d C' => E.rt d (C' ++ Z) }) ∧ ∀ G' C', Iv xs.length G' C' → E.nx G' (C' ++ Z))
    (hp : PassesOwn (model X.prog X.w) X.A X.env X.xe) (hc : X.calm = true) (hf : ∀ x, foldedSetIterable iter X.env x = pure x := by intro _; rfl) : wS X W (.For tg iter body [] pos) G C E := by
  have plain : XW X W (fun ed G C' => xk ed G (C' ++ [])) := by simpa only [List.append_nil] using hx
  have whole : ∀ (wi : wI X W tg iter G C fun ds C1 => ds = xs ∧ C1 = C), wS X W (.For tg iter body [] pos) G C E := fun wi => by
    obtain ⟨Iv, i0, is, id⟩ := h W C [] (.inl ⟨rfl, rfl⟩) plain
    refine wS_for (wi.mono fun ds C1 e => ?_) hp hc hf
    obtain ⟨rfl, rfl⟩ := e
    simp only [List.append_nil] at is id
    exact ⟨Iv, i0, fun i y G' C' hy iv => (is i y G' C' hy iv), id⟩
  rcases hs with rfl | rfl | ⟨p, i, rfl, hi⟩
  · exact whole (wI_lst (hd.mono fun d' C' e => by obtain ⟨rfl, rfl⟩ := e; exact ⟨xs, .inl rfl, rfl, rfl⟩))
  · exact whole (wI_tup (hd.mono fun d' C' e => by obtain ⟨rfl, rfl⟩ := e; exact ⟨xs, rfl, rfl, rfl⟩))
  · have spl : C = C.take i ++ (p, Cl.lst xs) :: C.drop (i + 1) := by
      have h2 := (List.getElem?_eq_some_iff.mp hi).2
      conv => lhs; rw [← List.take_append_drop i C, List.drop_eq_getElem_cons (List.getElem?_eq_some_iff.mp hi).1, h2]
    obtain ⟨wx, tk, hw⟩ := hx.ex
    refine wS_of (ps_for hp hc pi_sem pg_sem pss_sem hf) fun σ P H T g f pins s I => (pi_list pe_sem).run pins s σ H _ I (hd σ P H _ g fun d' C' v P1 H1 n1 r1 e => ?_)
    obtain ⟨rfl, rfl⟩ := e
    cases r1
    obtain ⟨o, ho, vs, rfl, rs⟩ := n1.good.cell hi
    have gs : Good X.K W G (C'.take i ++ (p, Cl.lst xs) :: C'.drop (i + 1)) σ P1 H1 := spl ▸ n1.good
    obtain ⟨g2, hpc, _, _, _, _⟩ := gs.drop rfl
    have gb := g2.base
    have fM := f.mono n1.ex
    refine ⟨p, rfl, ⟨vs, .inl (.inl ho)⟩, ?_⟩
    obtain ⟨Iv, i0, is, id⟩ := h (baseW P1 H1 ((C'.take i ++ C'.drop (i + 1)).map (·.1))) (C'.take i ++ C'.drop (i + 1)) [(p, Cl.lst xs)] (.inr ⟨_, _, p, _, rfl, spl, rfl, rfl⟩) ⟨wx, tk, fun ed G' C5 cls dx σ' P' H' g' he q => hw ed G' (C5 ++ [(p, Cl.lst xs)]) cls dx σ' P' H' (good_out gs g') he q⟩
    have hlen : xs.length = vs.length := rs.len.symm
    refine for_it (walk_list (K := X.K) (a := p) (xs := vs)) (fun n σ' H' => ∃ G' C5 P', Good X.K (baseW P1 H1 ((C'.take i ++ C'.drop (i + 1)).map (·.1))) G' C5 σ' P' H' ∧ Iv n G' C5) ⟨G, _, P1, gb, i0⟩ (fun m σ' H' _ w => ?_) (fun m x σ' H' H2 hi' w y => ?_) fun σ' H' w => ?_
    · obtain ⟨G', C5, P', g', _⟩ := w
      exact .inl (.inl (g'.hb p _ (by rw [baseW_hb hpc]; exact ho)))
    · obtain ⟨G', C5, P', g', iv⟩ := w
      obtain ⟨rfl, y2⟩ := y
      obtain ⟨y, hy, ry⟩ := rs.getV y2
      refine is m y G' C5 hy iv σ' P' _ _ x g' (ry.ex' g'.p0) fun G2 C6 σ2 P4 H4 n4 q4 => ?_
      have f4 := fM.mono (g'.p0.tr n4.ex)
      refine q4 σ2 P4 H4 _ n4.good ⟨fun G7 C7 σ7 P7 H7 n7 q7 => ⟨G7, C7, P7, n7.good, q7⟩, fun d7 C7 v7 P7 H7 n7 r7 q7 => f4.rt d7 _ v7 P7 H7 ⟨n7.ex, good_out gs.nil n7.good⟩ r7 q7, fun G7 C7 σ7 P7 H7 n7 q7 => f4.nx G7 _ σ7 P7 H7 ⟨n7.ex, good_out gs n7.good⟩ q7, fun G7 C7 σ7 P7 H7 n7 q7 => ⟨G7, C7, P7, n7.good, q7⟩⟩
    · obtain ⟨G', C5, P', g', iv⟩ := w
      rw [← hlen] at iv
      exact fM.nx G' _ σ' P' H' ⟨g'.p0, good_out gs g'⟩ (id G' C5 iv)
end
end EW

namespace EW
open PySem PySem.Spec PyProof.Rows L2
/-! ### kinds of values, cells too -/
inductive KindC (C : Cells) : D → String → Prop
  | base {d : D} {s : String} : kindD d = some s → KindC C d s
  | lst {p : Addr} (i : Nat) {ds : List D} : C[i]? = some (p, Cl.lst ds) → KindC C (.ref p) "list"
  | dct {p : Addr} (i : Nat) {ks : List Key} {ds : List D} : C[i]? = some (p, Cl.dct ks ds) → KindC C (.ref p) "dict"
theorem KindC.ty {K : PySem.W.Frag} {C : Cells} {d : D} {s : String} (h : KindC C d s) : TyD K C d (.type s) := by
  cases h with
  | base h => exact .base h
  | lst i h => exact .lst h
  | dct i h => exact .dct h
theorem KindC.mem {C : Cells} {d : D} {s : String} (h : KindC C d s) : s ∈ kindsL := by
  cases h with
  | base h => exact kind_in h
  | lst i h => decide
  | dct i h => decide
theorem SeqIn.kind {C : Cells} {d : D} {xs : List D} (h : SeqIn C d xs) : ∃ s, KindC C d s ∧ (s = "list" ∨ s = "tuple") := by
  rcases h with rfl | rfl | ⟨p, i, rfl, hi⟩
  · exact ⟨"list", .base rfl, .inl rfl⟩
  · exact ⟨"tuple", .base rfl, .inr rfl⟩
  · exact ⟨"list", .lst i hi, .inl rfl⟩
/-- a list or a tuple is one by its items -/
theorem KindC.seq {C : Cells} {d : D} {s : String} (h : KindC C d s) (hs : s = "list" ∨ s = "tuple") (nr : ∀ xs, d ≠ .scr xs) : ∃ xs, SeqIn C d xs := by
  cases h with
  | base h =>
    cases d <;> first | (cases h; done) | exact ⟨_, .inl rfl⟩ | exact ⟨_, .inr (.inl rfl)⟩ | (exact absurd rfl (nr _)) | (cases h; rcases hs with hs | hs <;> simp at hs)
  | lst i h => exact ⟨_, .inr (.inr ⟨_, i, rfl, h⟩)⟩
  | dct i h => rcases hs with hs | hs <;> simp at hs
def SeqF' (d : D) (xs : List D) : Prop := d = .lst xs ∨ d = .tup xs
theorem KindC.cons {C : Cells} {d : D} {s : String} (q : Addr × Cl) (h : KindC C d s) : KindC (q :: C) d s := by
  cases h with
  | base h => exact .base h
  | lst i h => exact .lst (i + 1) h
  | dct i h => exact .dct (i + 1) h
theorem SeqIn.cons {C : Cells} {d : D} {xs : List D} (q : Addr × Cl) (h : SeqIn C d xs) : SeqIn (q :: C) d xs := by
  rcases h with h | h | ⟨p, i, h, hi⟩
  · exact .inl h
  · exact .inr (.inl h)
  · exact .inr (.inr ⟨p, i + 1, h, hi⟩)
theorem Left.perm {C C2 Z : Cells} {d : D} (h : Left C d C2 Z) : (C2 ++ Z).Perm C := by
  rcases h with ⟨rfl, rfl⟩ | ⟨C1, C3, p, c, _, rfl, rfl, rfl⟩
  · rw [List.append_nil]
  · rw [List.append_assoc]
    exact (List.perm_append_comm (l₁ := C3) (l₂ := [(p, c)])).append_left C1
theorem Left.frozen {C C2 Z : Cells} {xs : List D} {d : D} (h : Left C d C2 Z) (hd : SeqF' d xs) : Z = [] ∧ C2 = C := by
  rcases h with h | ⟨C1, C3, p, c, e, _⟩
  · exact h
  · rcases hd with rfl | rfl <;> cases e
/-- a value of some kind -/
def KC (C : Cells) (d : D) : Prop := (∃ s, KindC C d s) ∧ ∀ x, d = .str x → x.length ≤ 100000
theorem KC.cons {C : Cells} {d : D} (q : Addr × Cl) (h : KC C d) : KC (q :: C) d := ⟨let ⟨s, h⟩ := h.1; ⟨s, h.cons q⟩, h.2⟩
theorem kc_str {C : Cells} {x : Str} (h : x.length ≤ 100000) : KC C (.str x) := ⟨⟨_, .base rfl⟩, fun y e => by cases e; exact h⟩
/-- a list or a tuple that stays -/
def SeqF (d : D) (xs : List D) : Prop := d = .lst xs ∨ d = .tup xs
theorem SeqF.seq {C : Cells} {d : D} {xs : List D} (h : SeqF d xs) : SeqIn C d xs := by
  rcases h with h | h
  · exact .inl h
  · exact .inr (.inl h)
section
variable {X : Cx} {W : Wd} {G : List (Option D)} {C R : Cells} {k : KD} {kb : KB} {E : DE} {e o a b c value : Expr} {es : List Expr} {pos pos' pos2 p p' p2 apos : Pos} {x f m : Str} {n j : Nat} {xk : KG} {Ca : Addr}
theorem c_isiK {d : D} {s T : String} (h : KindC C d s) (q : k (.bl (instT s T)) C) (hT : T ∈ classL := by decide) : cD X W (.builtin "isinstance") [d, .ty T] G C k := c_isiT h.ty (kit_ty (kit_at h.mem hT)) q
theorem c_isi2K {d : D} {s T U : String} (h : KindC C d s) (q : k (.bl (instT s T || instT s U)) C) (hT : T ∈ classL := by decide) (hU : U ∈ classL := by decide) : cD X W (.builtin "isinstance") [d, .tup [.ty T, .ty U]] G C k := c_isi2T h.ty (kit_ty (kit_at h.mem hT)) (kit_ty (kit_at h.mem hU)) q
theorem wE_isiK (T : String) (mI : X.mg "isinstance" = none) (mT : X.mg x = none) (hv : bootBuiltins x = some (.type T)) (h : wE X W a G C fun d C1 => ∃ s, KindC C1 d s ∧ k (.bl (instT s T)) C1) {pT : Pos} (hg : Gl X "isinstance" := by rfl) (hg2 : Gl X x := by rfl)
    (hn : x ≠ "__name__" := by decide) (hd : (x == ("__debug__" : Str)) = false := by decide) (hT : T ∈ classL := by decide)
    (he : starEach [a, .Name x pT] X.env = (false, eval a X.env) :: starEach [.Name x pT] X.env := by rfl) (hp : (backTo pos (starEach [.Name x pT] X.env)).any (·.1) = false := by rfl) (he2 : starEach [.Name x pT] X.env = (false, eval (.Name x pT) X.env) :: starEach [] X.env := by rfl) :
    wE X W (.Call (.Name "isinstance" p') [a, .Name x pT] [] pos) G C k :=
  wE_callB "isinstance" (by decide +kernel) mI (wA_cons (h.mono fun d C1 q => wA_cons (wE_ty mT hv (wA_nil (let ⟨_, h1, h2⟩ := q; c_isiK h1 h2 hT)) hg2 hn hd) he2) he) hg (by decide) (by decide) he hp
/-- isinstance(e, C), C an own class -/
theorem wE_isiO (mI : X.mg "isinstance" = none) (mC : X.mg x = some (.ref Ca)) (T : ClT X.K Ca) (h : wE X W a G C fun d C1 => (∃ s, KindC C1 d s ∧ k (.bl false) C1) ∨ (∃ ns ds, InsD C1 d Ca ns ds ∧ k (.bl true) C1)) {pT : Pos} (hg : Gl X "isinstance" := by rfl) (hg2 : Gl X x := by rfl)
    (hd : (x == ("__debug__" : Str)) = false := by decide)
    (he : starEach [a, .Name x pT] X.env = (false, eval a X.env) :: starEach [.Name x pT] X.env := by rfl) (hp : (backTo pos (starEach [.Name x pT] X.env)).any (·.1) = false := by rfl) (he2 : starEach [.Name x pT] X.env = (false, eval (.Name x pT) X.env) :: starEach [] X.env := by rfl) :
    wE X W (.Call (.Name "isinstance" p') [a, .Name x pT] [] pos) G C k :=
  wE_callB "isinstance" (by decide +kernel) mI (wA_cons (h.mono fun d C1 q => wA_cons (wE_gl (v := .ref Ca) (d := .ref Ca) mC rfl (fun P => .ref Ca) (wA_nil (by
    rcases q with ⟨s, h1, q⟩ | ⟨ns, ds, h1, q⟩
    · exact c_isiO h1.ty (kit_own T h1.mem) q
    · exact c_isiO (.ins T h1) kit_self q)) hg2 hd) he2) he) hg (by decide) (by decide) he hp
end
/-! ### data with cells in it: == and repr -/
mutual
inductive PlC (C : Cells) : D → PyData → Prop
  | pl {d : D} : plD d = true → PlC C d (pyD d)
  | lst {ds : List D} {ys : List PyData} : PlCs C ds ys → PlC C (.lst ds) (.list ys)
  | tup {ds : List D} {ys : List PyData} : PlCs C ds ys → PlC C (.tup ds) (.tuple ys)
  | cell {p : Addr} (i : Nat) {ds : List D} {ys : List PyData} : C[i]? = some (p, Cl.lst ds) → PlCs C ds ys → PlC C (.ref p) (.list ys)
inductive PlCs (C : Cells) : List D → List PyData → Prop
  | nil : PlCs C [] []
  | cons {d : D} {y : PyData} {ds : List D} {ys : List PyData} : PlC C d y → PlCs C ds ys → PlCs C (d :: ds) (y :: ys)
end
section
variable {K : PySem.W.Frag} {W : Wd} {G : List (Option D)} {C : Cells} {σ : L2.St} {P H : Hp}
mutual
theorem plc_dp (g : Good K W G C σ P H) : ∀ {d : D} {y : PyData} {v : V}, PlC C d y → Rep K P v d → Dp K H v y
  | _, _, _, .pl h, r => rep_dp g.le _ h r
  | _, _, _, .lst h, r => by
    cases r with
    | @lst a vs _ ha rs => exact .lst (.inl (.inl (le_lst g.le ha))) (plcs_dp g h rs)
  | _, _, _, .tup h, r => by
    cases r with
    | @tup a vs _ ha rs => exact .tup (.inl (.inl (le_tup g.le ha))) (plcs_dp g h rs)
  | _, _, _, .cell i hi h, r => by
    cases r
    obtain ⟨o, ho, vs, rfl, rs⟩ := g.cell hi
    exact .lst (.inl (.inl ho)) (plcs_dp g h rs)
theorem plcs_dp (g : Good K W G C σ P H) : ∀ {ds : List D} {ys : List PyData} {vs : List V}, PlCs C ds ys → Reps K P vs ds → DpAll K H vs ys
  | _, _, _, .nil, r => by cases r; exact .nil
  | _, _, _, .cons h hs, r => by
    cases r with
    | cons r rs => exact .cons (plc_dp g h r) (plcs_dp g hs rs)
end
end
theorem PlCs.map {α : Type} {C : Cells} {l : List α} {g : α → D} {y : α → PyData} (h : ∀ x ∈ l, PlC C (g x) (y x)) : PlCs C (l.map g) (l.map y) := by
  induction l with
  | nil => exact .nil
  | cons x r ih => exact .cons (h x (by simp)) (ih fun z hz => h z (by simp [hz]))
section
variable {X : Cx} {W : Wd} {G : List (Option D)} {C : Cells} {k : KD}
theorem o_eqC {x y : D} {a b : PyData} {n dep n' dep' : Nat} (hu : X.A.units + 64 < cLine) (h1 : PlC C x a) (h2 : PlC C y b) (f1 : Fit a n dep) (f2 : Fit b n' dep') (d1 : dep ≤ 64) (d2 : dep' ≤ 64) (q : k (.bl (PyData.eqv a b)) C) : oD X W (compareOp .Eq) x y G C k :=
  oD_of (op_eqD hu) fun σ P H Q v u g r1 r2 z => ⟨a, b, plc_dp g h1 r1, plc_dp g h2 r2, f1.shaped d1, f2.shaped d2, z _ C _ P H g.refl (.bl _) q⟩
theorem o_neC {x y : D} {a b : PyData} {n dep n' dep' : Nat} (hu : X.A.units + 64 < cLine) (h1 : PlC C x a) (h2 : PlC C y b) (f1 : Fit a n dep) (f2 : Fit b n' dep') (d1 : dep ≤ 64) (d2 : dep' ≤ 64) (q : k (.bl (!PyData.eqv a b)) C) : oD X W (compareOp .NotEq) x y G C k :=
  oD_of (op_neD hu) fun σ P H Q v u g r1 r2 z => ⟨a, b, plc_dp g h1 r1, plc_dp g h2 r2, f1.shaped d1, f2.shaped d2, z _ C _ P H g.refl (.bl _) q⟩
theorem c_reprC {x : D} {a : PyData} {n dep : Nat} (hu : X.A.units + 100 < cLine) (hgu : X.A.guards = some []) (h1 : PlC C x a) (f : Fit a n dep) (hn : n ≤ 1000000) (hd : dep ≤ 64) (q : k (.str a.shown) C) : cD X W (.builtin "repr") [x] G C k := by
  have deep : (∀ v : V, (∀ P K, Rep K P v x → ∃ p, v = .ref p)) → cD X W (.builtin "repr") [x] G C k := fun href σ P H Q vs g rs z pins s σ' us I rv => by
    obtain ⟨v, rfl, r⟩ := reps1 rs
    obtain ⟨u, rfl, ru⟩ := vals1 rv
    have dp := plc_dp g h1 r
    have fin : ∀ s', Inv X pins σ' H s' → ∀ tk, EP X pins σ' Q (.str a.shown tk) s' := fun s' I' tk => ⟨.str a.shown, H, I', ⟨tk, rfl⟩, z _ C _ P H g.refl (.str _) q⟩
    obtain ⟨b, rfl⟩ := href v P X.K r
    cases (show u = Value.ref b from ru)
    obtain ⟨as, rd⟩ := Dp.reads I a (.ref b) (.ref b) dp ru
    refine repr_of_reads' rd f.shw (fun e => by rw [f.nd] at e; cases e) hgu ?_ (fun b o e => e) (fun h' u' tk hk => fin _ (I.kept hk) u') (f.size hn)
    have := f.dp; omega
  cases h1 with
  | pl h => exact c_repr hu hgu h f hn hd q
  | lst h => exact deep fun v P K r => by cases r; exact ⟨_, rfl⟩
  | tup h => exact deep fun v P K r => by cases r; exact ⟨_, rfl⟩
  | cell i hi h => exact deep fun v P K r => by cases r; exact ⟨_, rfl⟩
end
section
variable {X : Cx} {W : Wd} {G : List (Option D)} {C : Cells} {k : KD} {e iter tg elt : Expr} {E : DE} {body : List Stmt} {pos : Pos}
theorem wI_seqF {d : D} {xs : List D} {kk : List D → Cells → Prop} (hs : SeqF d xs) (h : wE X W e G C fun d' C1 => d' = d ∧ kk xs C1) : wI X W tg e G C kk := by
  rcases hs with rfl | rfl
  · exact wI_lst (h.mono fun d' C1 q => by obtain ⟨rfl, q⟩ := q; exact ⟨xs, .inl rfl, q⟩)
  · exact wI_tup (h.mono fun d' C1 q => by obtain ⟨rfl, q⟩ := q; exact ⟨xs, rfl, q⟩)
end
section
variable {X : Cx} {W : Wd} {G : List (Option D)} {C : Cells} {k : KD} {e : Expr}
/-- a list of one's own stays from now on as it is -/
theorem wE_frz (i : Nat) (h : wE X W e G C fun d C' => ∃ q ds, d = .ref q ∧ C'[i]? = some (q, Cl.lst ds) ∧ (∀ a ∈ W.io, ∃ j c, j ≠ i ∧ C'[j]? = some (a, c)) ∧ k (.lst ds) (C'.eraseIdx i)) : wE X W e G C k := fun σ P H Q g z => h σ P H Q g fun d C' v P' H' nx r q => by
  obtain ⟨p, ds, rfl, hi, hio, q⟩ := q
  cases r
  have il := (List.getElem?_eq_some_iff.mp hi).1
  have spl : C' = C'.take i ++ (p, Cl.lst ds) :: C'.drop (i + 1) := by
    have h2 := (List.getElem?_eq_some_iff.mp hi).2
    conv => lhs; rw [← List.take_append_drop i C', List.drop_eq_getElem_cons il, h2]
  have erase : C'.eraseIdx i = C'.take i ++ C'.drop (i + 1) := List.eraseIdx_eq_take_drop_succ _ _
  have nd := nx.good.nd
  have h0 : W.H0 p = none := by
    rcases (nx.good.ce _ (List.mem_of_getElem? hi)).2.1 with h | h
    · exact h
    · obtain ⟨j, c, hj, hjc⟩ := hio _ h
      have e1 : (C'.map (·.1))[i]? = some p := by rw [List.getElem?_map, hi]; rfl
      have e2 : (C'.map (·.1))[j]? = some p := by rw [List.getElem?_map, hjc]; rfl
      exact absurd ((List.getElem?_inj (by rw [List.length_map]; exact il) nd).mp (e1.trans e2.symm)).symm hj
  obtain ⟨gd, hc, pn, o, ho, vs, rfl, rs⟩ := nx.good.drop spl
  have n3 := gd.know pn h0 hc ho
  rw [← erase] at n3
  exact z _ _ (.ref p) _ H' ⟨nx.ex.tr n3.ex, n3.good⟩ (.lst upd_same (rs.ex' n3.ex)) q
end
theorem cutD_to {α : Type} (l : List α) (g : α → D) (o : Nat) : cutD (l.map g) none (some (o : Int)) = (l.take o).map g := by
  unfold cutD
  rw [HT.sIx_nat]
  show ((l.map g).drop 0).take (min o (l.map g).length - 0) = _
  rw [List.drop_zero, Nat.sub_zero, ← List.map_take, List.length_map]
  by_cases h : o ≤ l.length
  · rw [Nat.min_eq_left h]
  · rw [Nat.min_eq_right (by omega), List.take_of_length_le (Nat.le_refl _), List.take_of_length_le (by omega)]
theorem cutD_from {α : Type} (l : List α) (g : α → D) (o : Nat) : cutD (l.map g) (some (o : Int)) none = (l.drop o).map g := by
  unfold cutD
  rw [HT.sIx_nat]
  show ((l.map g).drop (min o (l.map g).length)).take ((l.map g).length - _) = _
  rw [List.take_of_length_le (by rw [List.length_drop]; exact Nat.le_refl _), ← List.map_drop, List.length_map]
  by_cases h : o ≤ l.length
  · rw [Nat.min_eq_left h]
  · rw [Nat.min_eq_right (by omega), List.drop_length, List.drop_eq_nil_of_le (by omega)]
end EW

namespace EW
open PySem PySem.Spec PyProof.Rows L2
section
variable {X : Cx} {W : Wd} {G : List (Option D)} {C : Cells} {k : KD} {e : Expr}
/-- fewer cells behind it -/
theorem wE_less (h : wE X W e G C fun d C' => ∃ R, Sub R C' ∧ k d R) : wE X W e G C k := fun σ P H Q g z => h σ P H Q g fun d C' v P' H' n r q => by
  obtain ⟨R, hs, q⟩ := q
  exact z d R v P' H' ⟨n.ex, n.good.sub hs⟩ r q
end
/-! ### max, min, sum, sorted of natural numbers; dict of pairs -/
theorem nats_cast (l : List Nat) : l.map natD = (l.map fun h => ((h : Nat) : Int)).map D.int := by rw [List.map_map]; rfl
section
variable {X : Cx} {W : Wd} {G : List (Option D)} {C : Cells} {k : KD}
theorem reps_nats {K : PySem.W.Frag} {P : Hp} {ns : List Nat} {vs : List V} (r : Reps K P vs (ns.map natD)) : vs = (ns.map fun h => ((h : Nat) : Int)).map V.int := by
  rw [nats_cast] at r
  exact reps_intsV r
theorem c_maxN {ns : List Nat} (h : 0 < ns.length) (hc : X.calm = true) (q : ∀ m, m ∈ ns → (∀ y ∈ ns, y ≤ m) → k (natD m) C) : cD X W (.builtin "max") [.lst (ns.map natD)] G C k := cD_of (cr_max hc) fun σ P H Q vs g rr z => by
  obtain ⟨v, rfl, r⟩ := reps1 rr
  cases r with
  | @lst a ws _ ha rs =>
    rw [reps_nats rs] at ha
    refine ⟨a, _, rfl, .inl (.inl (le_lst g.le ha)), by rw [List.length_map]; exact h, fun m hm hy => ?_⟩
    obtain ⟨x, hx, rfl⟩ := List.mem_map.mp hm
    exact z _ C _ P H g.refl (.int _) (q x hx fun y hyy => by have := hy _ (List.mem_map.mpr ⟨y, hyy, rfl⟩); omega)
theorem c_minN {ns : List Nat} (h : 0 < ns.length) (hc : X.calm = true) (q : ∀ m, m ∈ ns → (∀ y ∈ ns, m ≤ y) → k (natD m) C) : cD X W (.builtin "min") [.lst (ns.map natD)] G C k := cD_of (cr_min hc) fun σ P H Q vs g rr z => by
  obtain ⟨v, rfl, r⟩ := reps1 rr
  cases r with
  | @lst a ws _ ha rs =>
    rw [reps_nats rs] at ha
    refine ⟨a, _, rfl, .inl (.inl (le_lst g.le ha)), by rw [List.length_map]; exact h, fun m hm hy => ?_⟩
    obtain ⟨x, hx, rfl⟩ := List.mem_map.mp hm
    exact z _ C _ P H g.refl (.int _) (q x hx fun y hyy => by have := hy _ (List.mem_map.mpr ⟨y, hyy, rfl⟩); omega)
theorem sum_cast : ∀ ns : List Nat, (ns.map fun h => ((h : Nat) : Int)).sum = ((ns.sum : Nat) : Int)
  | [] => rfl
  | x :: r => by rw [List.map_cons, List.sum_cons, List.sum_cons, sum_cast r]; omega
theorem c_sumN {ns : List Nat} (hc : X.calm = true) (q : k (natD ns.sum) C) : cD X W (.builtin "sum") [.lst (ns.map natD)] G C k := cD_of (cr_sum hc) fun σ P H Q vs g rr z => by
  obtain ⟨v, rfl, r⟩ := reps1 rr
  cases r with
  | @lst a ws _ ha rs =>
    rw [reps_nats rs] at ha
    refine ⟨a, _, rfl, .inl (.inl (le_lst g.le ha)), ?_⟩
    rw [sum_cast]
    exact z _ C _ P H g.refl (.int _) q
/-- the sorted list of natural numbers -/
theorem sorted_nats {ns : List Nat} {ms : List Int} (hp : ms.Perm (ns.map fun h => ((h : Nat) : Int))) (hs : ms.Pairwise (· ≤ ·)) : ∃ ns' : List Nat, ms = ns'.map (fun h => ((h : Nat) : Int)) ∧ ns'.Perm ns ∧ ns'.Pairwise (· ≤ ·) := by
  have nn : ∀ x ∈ ms, 0 ≤ x := fun x hx => by
    obtain ⟨y, _, e⟩ := List.mem_map.mp (hp.mem_iff.mp hx)
    omega
  have back : ms = (ms.map Int.toNat).map (fun h => ((h : Nat) : Int)) := by
    rw [List.map_map]
    exact (List.map_id ms).symm.trans (List.map_congr_left fun x hx => by have := nn x hx; show x = ((x.toNat : Nat) : Int); omega)
  refine ⟨ms.map Int.toNat, back, ?_, ?_⟩
  · have := hp.map Int.toNat
    rw [List.map_map] at this
    refine this.trans ?_
    have e : ns.map (Int.toNat ∘ fun h => ((h : Nat) : Int)) = ns := (List.map_congr_left fun x _ => by show ((x : Int)).toNat = x; omega).trans (List.map_id ns)
    rw [e]
  · rw [List.pairwise_map]
    exact hs.imp fun h => by omega
theorem c_sortN {ns : List Nat} {d : D} (hd : SeqIn C d (ns.map natD)) (hL : ∀ xs, d ≠ .tup xs) (hl : ns.length < 64) (q : ∀ ns' : List Nat, ns'.Perm ns → ns'.Pairwise (· ≤ ·) → k (.lst (ns'.map natD)) C) : cD X W (.builtin "sorted") [d] G C k := cD_of cr_sorted fun σ P H Q vs g rr z => by
  obtain ⟨v, rfl, r⟩ := reps1 rr
  have fin : ∀ a, SqL X.K H a ((ns.map fun h => ((h : Nat) : Int)).map V.int) → rSorted X.K [.ref a] H Q := fun a ha => by
    refine ⟨a, _, rfl, ha, by rw [List.length_map]; exact hl, fun ms p hp hs hn => ?_⟩
    obtain ⟨ns', rfl, h1, h2⟩ := sorted_nats hp hs
    have n := g.new (o := .lst ((ns'.map fun h => ((h : Nat) : Int)).map V.int)) hn
    refine z _ C (.ref p) _ _ n (.lst upd_same ?_) (q ns' h1 h2)
    rw [nats_cast]
    exact reps_ints _
  rcases hd with rfl | rfl | ⟨p, i, rfl, hi⟩
  · cases r with
    | @lst a ws _ ha rs => rw [reps_nats rs] at ha; exact fin a (.inl (.inl (le_lst g.le ha)))
  · exact absurd rfl (hL _)
  · cases r
    obtain ⟨o, ho, ws, rfl, rs⟩ := g.cell hi
    rw [reps_nats rs] at ho
    exact fin p (.inl (.inl ho))
/-- pairs as data -/
def kvD (kv : Key × D) : D := .tup [keyD kv.1, kv.2]
theorem kvs_at {K : PySem.W.Frag} {P H : Hp} (l : Le P H) : ∀ {kvs : List (Key × D)} {vs : List V}, Reps K P vs (kvs.map kvD) → ∃ (ps : List Addr) (kws : List (Key × V)), vs = ps.map V.ref ∧ kws.map (·.1) = kvs.map (·.1) ∧ Reps K P (kws.map (·.2)) (kvs.map (·.2)) ∧ Paired (fun p kv => SqT K H p [kV kv.1, kv.2]) ps kws
  | [], _, .nil => ⟨[], [], rfl, rfl, .nil, .nil⟩
  | kv :: kvs, _, .cons r rs => by
    obtain ⟨ps, kws, rfl, h1, h2, h3⟩ := kvs_at l rs
    cases r with
    | @tup a ws _ ha rr =>
      obtain ⟨v, u, rfl, q1, q2⟩ := reps2 rr
      have hv := rep_key q1
      subst hv
      exact ⟨a :: ps, (kv.1, u) :: kws, rfl, by rw [List.map_cons, List.map_cons, h1], .cons q2 h2, .cons (.inl (.inl (le_tup l ha))) h3⟩
theorem mergeK_nodup : ∀ (kws acc : List (Key × V)), (kws.map (·.1)).Nodup → (∀ kv ∈ kws, ∀ kv' ∈ acc, kv'.1 ≠ kv.1) → mergeK acc kws = acc ++ kws
  | [], acc, _, _ => by rw [List.append_nil]; rfl
  | kv :: r, acc, nd, h => by
    rw [List.map_cons, List.nodup_cons] at nd
    have e : putK acc kv.1 kv.2 = acc ++ [kv] := by
      unfold putK
      rw [if_neg]
      intro hh
      rw [List.any_eq_true] at hh
      obtain ⟨x, hx, e⟩ := hh
      exact h kv (List.mem_cons_self ..) x hx (of_decide_eq_true e)
    show mergeK (putK acc kv.1 kv.2) r = _
    rw [e, mergeK_nodup r (acc ++ [kv]) nd.2 fun x hx y hy => ?_, List.append_assoc]
    · rfl
    · rcases List.mem_append.mp hy with hy | hy
      · exact h x (List.mem_cons_of_mem _ hx) y hy
      · rw [List.mem_singleton.mp hy]
        exact fun e => nd.1 (by rw [e]; exact List.mem_map.mpr ⟨x, hx, rfl⟩)
theorem zip_keys : ∀ (kws : List (Key × V)), (kws.map (·.1)).zip (kws.map (·.2)) = kws
  | [] => rfl
  | kv :: r => by rw [List.map_cons, List.map_cons, List.zip_cons_cons, zip_keys r]
/-- dict(pairs) with different keys: one that stays -/
theorem t_dictP {kvs : List (Key × D)} (nd : (kvs.map (·.1)).Nodup) (hc : X.calm = true) (q : k (.dct (kvs.map (·.1)) (kvs.map (·.2))) C) : cD X W (.type "dict") [.lst (kvs.map kvD)] G C k := cD_of (cr_lk (call_dictP hc)) fun σ P H Q vs g rr z => by
  obtain ⟨v, rfl, r⟩ := reps1 rr
  cases r with
  | @lst a ws _ ha rs =>
    obtain ⟨ps, kws, rfl, h1, h2, h3⟩ := kvs_at g.le rs
    refine ⟨a, ps, kws, rfl, .inl (.inl (le_lst g.le ha)), h3, fun p hp => ?_⟩
    rw [mergeK_nodup kws [] (by rw [h1]; exact nd) (fun _ _ _ h => by cases h), List.nil_append]
    refine ⟨p, _, rfl, upd_same, trivial, fun od => ?_⟩
    rw [upd_upd]
    have n := g.new (o := .frz od (.dK kws)) hp
    refine z _ C (.ref p) _ _ n ?_ q
    refine .dct (od := od) (vs := kws.map (·.2)) ?_ (by rw [← h1, List.length_map, List.length_map]) (h2.ex' n.ex)
    rw [upd_same, ← h1, zip_keys]
end
end EW

namespace EW
open PySem PySem.Spec PyProof.Rows L2
/-- where nothing may be raised -/
theorem hxn {X : Cx} {W : Wd} : XW X W (fun _ _ _ => False) := ⟨fun _ _ _ _ => False, L2.takes0, fun _ _ _ _ _ _ _ _ _ _ q => q.elim⟩
theorem room_u1 {n : Nat} {A : Around} (hr : Room n A) : A.units + 1 < cLine := by have := hr.un; omega
/-! ### dicts by keys -/
def dget (ks : List Key) (ds : List D) (key : Key) : Option D := ((ks.zip ds).find? fun kv => decide (kv.1 = key)).map (·.2)
theorem dget_some {K : PySem.W.Frag} {P : Hp} {key : Key} {y : D} : ∀ {ks : List Key} {vs : List V} {ds : List D}, ks.length = vs.length → Reps K P vs ds → dget ks ds key = some y → ∃ v, valV (ks.zip vs) key = some v ∧ Rep K P v y
  | [], _, _, _, _, h => by simp [dget] at h
  | k :: ks, [], _, hl, _, _ => by simp at hl
  | k :: ks, v :: vs, _, hl, .cons (d := d) (ds := ds) r rs, h => by
    unfold dget at h
    rw [List.zip_cons_cons, List.find?_cons] at h
    by_cases e : k = key
    · rw [decide_eq_true (show ((k, d) : Key × D).1 = key from e)] at h
      cases h
      exact ⟨v, valV_pos e, r⟩
    · rw [decide_eq_false (show ¬ ((k, d) : Key × D).1 = key from e)] at h
      obtain ⟨w, h1, h2⟩ := dget_some (key := key) (by simpa using hl) rs h
      exact ⟨w, (valV_neg (p := (k, v)) (r := ks.zip vs) (k := key) e).trans h1, h2⟩
section
variable {X : Cx} {W : Wd} {G : List (Option D)} {C : Cells} {k : KD} {o i : Expr} {pos : Pos}
/-- d is a dict: one that stays, or a cell -/
def DctIn (C : Cells) (d : D) (ks : List Key) (ds : List D) : Prop := d = .dct ks ds ∨ ∃ (p : Addr) (j : Nat), d = .ref p ∧ C[j]? = some (p, Cl.dct ks ds)
theorem dct_at {K : PySem.W.Frag} {σ : L2.St} {P H : Hp} {v : V} {d : D} {ks : List Key} {ds : List D} (g : Good K W G C σ P H) (r : Rep K P v d) (h : DctIn C d ks ds) : ∃ a vs, v = .ref a ∧ Rd H a (.dK (ks.zip vs)) ∧ ks.length = vs.length ∧ Reps K P vs ds := by
  rcases h with rfl | ⟨p, j, rfl, hj⟩
  · cases r with
    | @dct a _ _ vs _ ha hl rs => exact ⟨a, vs, rfl, le_frzR g.le ha, hl, rs⟩
  · cases r
    obtain ⟨ob, ho, vs, rfl, hl, rs⟩ := g.cell hj
    exact ⟨p, vs, rfl, .inl ho, hl, rs⟩
/-- d[k], k a key of it -/
theorem wE_dix (hu : X.A.units + 1 < cLine) (h : wE X W o G C fun x C1 => wE X W i G C1 fun y C2 => ∃ ks ds key v, DctIn C2 x ks ds ∧ y = keyD key ∧ dget ks ds key = some v ∧ k v C2) (hs : NoSl i := by exact fun _ _ => rfl) : wE X W (.Subscript o i pos) G C k :=
  wE_of (pe_dget hu pe_sem pe_sem hs) fun σ P H Q g z => h σ P H _ g fun x C1 v P1 H1 n1 r1 q => q σ P1 H1 _ n1.good fun y C2 u P2 H2 n2 r2 q2 => by
    obtain ⟨ks, ds, key, y, hd, rfl, hg, q2⟩ := q2
    obtain ⟨a, vs, rfl, ha, hl, rs⟩ := dct_at n2.good (r1.ex' n2.ex) hd
    have hk := rep_key r2
    subst hk
    obtain ⟨w, hw, rw'⟩ := dget_some hl rs hg
    exact ⟨a, w, rfl, .inl ⟨_, key, ha, rfl, hw.symm⟩, z y C2 w P2 H2 (n1.tr n2) rw' q2⟩
/-- {k1: v1, k2: v2}, without changing objects -/
theorem wE_dct2 {k1x v1x k2x v2x : Expr} {d1 d2 : D} (key1 key2 : Key) (h1 : ∀ W', wE X W' k1x G C fun d C1 => d = keyD key1 ∧ C1 = C) (h2 : ∀ W', wE X W' v1x G C fun d C1 => d = d1 ∧ C1 = C) (h3 : ∀ W', wE X W' k2x G C fun d C1 => d = keyD key2 ∧ C1 = C) (h4 : ∀ W', wE X W' v2x G C fun d C1 => d = d2 ∧ C1 = C)
    (q : k (if key1 = key2 then .dct [key1] [d2] else .dct [key1, key2] [d1, d2]) C) : wE X W (.Dict [some k1x, some k2x] [v1x, v2x] pos) G C k := by
  refine wE_of (pe_lk (pe_disp (pps_cons pe_sem pe_sem (pps_cons pe_sem pe_sem pps_nil)) rfl rfl (fun z => by cases z) (by show 2 ≤ 15; decide))) fun σ P H Q g z p np => ?_
  have h0 : W.H0 p = none := by
    cases e : W.H0 p with
    | none => rfl
    | some u => exact absurd np (g.tr p (by rw [e]; intro y; cases y))
  have pc : p ∉ C.map (·.1) := fun w => by
    obtain ⟨q, hq, e⟩ := List.mem_map.mp w
    obtain ⟨_, _, ob, ho, _⟩ := g.ce q hq
    rw [e, np] at ho; cases ho
  have pn := g.le.none np
  have gp := g.aside (o := .dK []) pn h0 pc
  have gb := gp.base
  have hbD : (baseW P (upd H p (.dK [])) (C.map (·.1))).Hb p = some (.dK []) := by rw [baseW_hb pc]; exact upd_same
  refine h1 _ σ P _ _ gb fun d C1 v P1 H1 n1 r1 e1 => ?_
  obtain ⟨rfl, rfl⟩ := e1
  refine h2 _ σ P1 H1 _ n1.good fun d C1' v2 P2 H2 n2 r2 e2 => ?_
  obtain ⟨rfl, rfl⟩ := e2
  refine h3 _ σ P2 H2 _ n2.good fun d C1'' v3 P3 H3 n3 r3 e3 => ?_
  obtain ⟨rfl, rfl⟩ := e3
  refine h4 _ σ P3 H3 _ n3.good fun d C1''' v4 P4 H4 n4 r4 e4 => ?_
  obtain ⟨rfl, rfl⟩ := e4
  have nb := ((n1.tr n2).tr n3).tr n4
  have hv : v = kV key1 := rep_key r1
  have hv3 : v3 = kV key2 := rep_key r3
  have p4 : P4 p = none := (nb.good.fr p (by show upd H p (.dK []) p ≠ none; rw [upd_same]; intro y; cases y)).trans pn
  have gW := gp.back nb.good
  have hp4 : H4 p = some (.dK []) := nb.good.hb _ _ hbD
  refine ⟨hp4, [(key1, v2), (key2, v4)], by rw [hv, hv3]; rfl, by show 2 ≤ 15; decide, p, _, rfl, upd_same, trivial, fun od => ?_⟩
  rw [upd_upd]
  have g3 := gW.aside (o := .frz od (.dK (mergeK [] [(key1, v2), (key2, v4)]))) p4 h0 pc
  have n5 := g3.know p4 h0 pc upd_same
  have rr2 := (r2.ex' n3.ex).ex' n4.ex
  by_cases hk : key1 = key2
  · rw [if_pos hk] at q
    refine z _ _ (.ref p) _ _ ⟨nb.ex.tr n5.ex, n5.good⟩ (.dct (od := od) (ks := [key1]) (vs := [v4]) ?_ rfl (.cons (r4.ex' n5.ex) .nil)) q
    rw [upd_same]
    subst hk
    simp [mergeK, putK]
  · rw [if_neg hk] at q
    refine z _ _ (.ref p) _ _ ⟨nb.ex.tr n5.ex, n5.good⟩ (.dct (od := od) (ks := [key1, key2]) (vs := [v2, v4]) ?_ rfl (.cons (rr2.ex' n5.ex) (.cons (r4.ex' n5.ex) .nil))) q
    rw [upd_same]
    simp [mergeK, putK, hk]
end
end EW

/-! EwE: enumerate over a tuple (follows the library's proof for a list, in own wording). -/
namespace EW
open PySem PySem.Spec PyProof.Rows L2
open AutoSeq1 (wpAny_loadPart')

section
variable {prog : Program} {w : World} {A : Around} {E : Value → Shared → Prop} {s : Shared}
theorem enT_item {e it l : Addr} {i : Nat} {items : Array Value} {x old : Value} {Q : Value → Shared → Prop}
    (he : IsEnum s.heap e it i old) (hit : s.heap.IsTupleIter it l i) (hl : s.heap.IsTuple l items) (hx : items[i]? = some x) (hne : e ≠ it)
    (hQ : ∀ h', IsEnumOut h' e it ((i : Int) + 1) x s.heap.objs.size → h'.IsTupleIter it l (i + 1) →
      h'.get? s.heap.objs.size = some { cls := .type "tuple", data := .seq #[.int i s.toks, x] } → h'.objs.size = s.heap.objs.size + 1 →
      (∀ b o, b ≠ e → b ≠ it → s.heap.get? b = some o → h'.get? b = some o) → Q (.ref s.heap.objs.size) { s with heap := h', toks := s.toks + 1 }) :
    wpAny (model prog w) A (Builtin.«enumerate.__next__» ⟨[.ref e], []⟩) (fun fin s' => ∃ v, fin = .done (.ret v) ∧ Q v s') E s := by
  obtain ⟨hp, g, d, tk, os⟩ := s
  show wpAny _ _ (field (.ref e) 2 >>= _) _ _ _
  refine wpAny_bind (wpAny_field he rfl (x := .ref it) rfl ?_)
  refine wpAny_bind (RZ.nextOf_tuple_item hit hl hx fun h₁ hit₁ hs₁ => ?_)
  replace hs₁ : Heap.SameBut it hp h₁ := hs₁
  have he₁ : IsEnum h₁ e it i old := (hs₁.2 e hne).trans he
  show wpAny _ _ (field (.ref e) 3 >>= _) _ _ ⟨h₁, g, d, tk, os⟩
  refine wpAny_bind (wpAny_field he₁ rfl (x := rawInt i) rfl ?_)
  show wpAny _ _ (field (.ref e) 4 >>= _) _ _ ⟨h₁, g, d, tk, os⟩
  refine wpAny_bind (wpAny_field he₁ rfl (x := .none) rfl ?_)
  show wpAny _ _ (mkInt i >>= _) _ _ ⟨h₁, g, d, tk, os⟩
  refine wpAny_bind (wpAny_mkInt ?_)
  show wpAny _ _ (setField (.ref e) 3 (rawInt ((i : Int) + 1)) >>= _) _ _ ⟨h₁, g, d, tk + 1, os⟩
  refine wpAny_bind (wpAny_setField_rec he₁ (by simp) fun h₂ he₂ hs₂ => ?_)
  replace hs₂ : Heap.SameBut e h₁ h₂ := hs₂
  replace he₂ : IsEnum h₂ e it ((i : Int) + 1) old := he₂
  show wpAny _ _ (setField (.ref e) 4 .none >>= _) _ _ ⟨h₂, g, d, tk + 1, os⟩
  refine wpAny_bind (wpAny_setField_rec he₂ (by simp) fun h₃ he₃ hs₃ => ?_)
  replace hs₃ : Heap.SameBut e h₂ h₃ := hs₃
  replace he₃ : IsEnum h₃ e it ((i : Int) + 1) old := he₃
  show wpAny _ _ (newTuple [.int i tk, x] >>= _) _ _ ⟨h₃, g, d, tk + 1, os⟩
  refine wpAny_bind (wpAny_newTuple ?_)
  have he₄ : IsEnum (h₃.push { cls := .type "tuple", data := .seq #[.int i tk, x] }) e it ((i : Int) + 1) old := Heap.get?_push_of_some _ he₃
  generalize hh₄ : h₃.push { cls := .type "tuple", data := .seq #[.int i tk, x] } = h₄ at he₄
  have hsz : h₃.objs.size = hp.objs.size := by rw [hs₃.1, hs₂.1, hs₁.1]
  have hel : e < hp.objs.size := Heap.lt_size he
  have ht₄ : h₄.get? hp.objs.size = some { cls := .type "tuple", data := .seq #[.int i tk, x] } := by rw [← hh₄, ← hsz]; exact Heap.get?_push_size _ rfl
  have hz₄ : h₄.objs.size = hp.objs.size + 1 := by rw [← hh₄, Heap.size_push, hsz]
  have hk₄ : ∀ b o, b ≠ e → b ≠ it → hp.get? b = some o → h₄.get? b = some o := fun b o hbe hbi hb => by
    rw [← hh₄]; exact Heap.get?_push_of_some _ (hs₃.extBut b o hbe (hs₂.extBut b o hbe (hs₁.extBut b o hbi hb)))
  have hit₄ : h₄.IsTupleIter it l (i + 1) := by
    rw [← hh₄]; obtain ⟨o, ho, r⟩ := (hit₁.extBut hs₂.extBut (Ne.symm hne)).extBut hs₃.extBut (Ne.symm hne); exact ⟨o, Heap.get?_push_of_some _ ho, r⟩
  show wpAny _ _ (Builtin.SmallTypes.ownedTupleIsFree (.ref e) >>= _) _ _ ⟨h₄, g, d, tk + 1, os⟩
  rw [hsz]
  clear hh₄ he₃ hs₃ he₂ hs₂ he₁ hs₁ hit₁ hsz h₃ h₂ h₁
  refine wpAny_bind ?_
  · unfold Builtin.SmallTypes.ownedTupleIsFree
    refine wpAny_bind (wpAny_field he₄ rfl (x := .none) rfl (wpAny_pure ?_))
    simp only [if_true]
    refine wpAny_bind (wpAny_rule ?_)
    refine wpAny_bind (wpAny_field he₄ rfl (x := old) rfl ?_)
    refine wpAny_bind (wpAny_setField_rec he₄ (by simp) fun h₅ he₅ hs₅ => ?_)
    replace hs₅ : Heap.SameBut e h₄ h₅ := hs₅
    replace he₅ : IsEnum h₅ e it ((i : Int) + 1) x := he₅
    show wpAny _ _ (Builtin.SmallTypes.ownedTupleHandOut (.ref e) (.ref hp.objs.size) >>= _) _ _ ⟨h₅, g, d, tk + 1, os⟩
    refine wpAny_bind ?_
    · unfold Builtin.SmallTypes.ownedTupleHandOut
      refine wpAny_bind (wpAny_setField_rec he₅ (by simp) fun h₆ he₆ hs₆ => ?_)
      replace hs₆ : Heap.SameBut e h₅ h₆ := hs₆
      replace he₆ : IsEnumOut h₆ e it ((i : Int) + 1) x hp.objs.size := he₆
      refine wpAny_setField_rec he₆ (by simp) fun h₇ he₇ hs₇ => ?_
      replace hs₇ : Heap.SameBut e h₆ h₇ := hs₇
      replace he₇ : IsEnumOut h₇ e it ((i : Int) + 1) x hp.objs.size := he₇
      refine wpAny_bind (wpAny_letGo (wpAny_pure ⟨_, rfl, hQ h₇ he₇ ?_ ?_ ?_ ?_⟩))
      · exact ((hit₄.extBut hs₅.extBut (Ne.symm hne)).extBut hs₆.extBut (Ne.symm hne)).extBut hs₇.extBut (Ne.symm hne)
      · exact hs₇.extBut _ _ (Nat.ne_of_gt hel) (hs₆.extBut _ _ (Nat.ne_of_gt hel) (hs₅.extBut _ _ (Nat.ne_of_gt hel) ht₄))
      · rw [hs₇.1, hs₆.1, hs₅.1, hz₄]
      · exact fun b o hbe hbi hb => hs₇.extBut b o hbe (hs₆.extBut b o hbe (hs₅.extBut b o hbe (hk₄ b o hbe hbi hb)))
theorem enT_nextI {e it l : Addr} {i : Nat} {items : Array Value} {x old : Value} {Q : Option Value → Shared → Prop}
    (he : IsEnum s.heap e it i old) (hit : s.heap.IsTupleIter it l i) (hl : s.heap.IsTuple l items) (hx : items[i]? = some x) (hne : e ≠ it)
    (hQ : ∀ h', IsEnumOut h' e it ((i : Int) + 1) x s.heap.objs.size → h'.IsTupleIter it l (i + 1) →
      h'.get? s.heap.objs.size = some { cls := .type "tuple", data := .seq #[.int i s.toks, x] } → h'.objs.size = s.heap.objs.size + 1 →
      (∀ b o, b ≠ e → b ≠ it → s.heap.get? b = some o → h'.get? b = some o) → Q (some (.ref s.heap.objs.size)) { s with heap := h', toks := s.toks + 1 }) :
    wpAny (model prog w) A (pyNext (.ref e)) Q E s := by
  have hT : s.TypeIs (.ref e) "enumerate" := ⟨_, he, rfl⟩
  unfold pyNext
  exact wpAny_bind (wpAny_attempt (wpAny_callSpecial?_slot (name := Str.ofString "__next__") hT F.slot_enumerate_next
    (wpAny_call_entry F.slot_enumerate_next hT F.entry_enumerate_next
      (enT_item he hit hl hx hne fun h' a b c d k => wpAny_pure (hQ h' a b c d k)) (F.args_enumerate_next_1 _))))
theorem enT_nextE {e it l : Addr} {i : Nat} {items : Array Value} {old : Value} {Q : Option Value → Shared → Prop} (hh : A.handled = none)
    (he : IsEnum s.heap e it i old) (hit : s.heap.IsTupleIter it l i) (hl : s.heap.IsTuple l items) (hx : items[i]? = none)
    (hQ : ∀ h', Heap.ExtBut it s.heap h' → Q none { s with heap := h' }) : wpAny (model prog w) A (pyNext (.ref e)) Q E s := by
  have hT : s.TypeIs (.ref e) "enumerate" := ⟨_, he, rfl⟩
  unfold pyNext
  refine wpAny_bind (wpAny_attempt (wpAny_callSpecial?_slot (name := Str.ofString "__next__") hT F.slot_enumerate_next
    (wpAny_call_entry F.slot_enumerate_next hT F.entry_enumerate_next ?_ (F.args_enumerate_next_1 _))))
  show wpAny _ _ (field (.ref e) 2 >>= _) _ _ _
  refine wpAny_bind (wpAny_field he rfl (x := .ref it) rfl ?_)
  refine wpAny_bind (RZ.nextOf_tuple_end hh hit hl hx fun h' x he' hx' => ?_)
  obtain ⟨o, ho, hc⟩ := hx'
  refine wpAny_bind (wpAny_isInstance (T := "StopIteration") (b := true) ⟨o, ho, hc⟩ isSubtype_stop ?_)
  exact wpAny_pure (hQ _ he')
end
theorem enT_new (l : Addr) (items : Array Value) :
    Meets (Builtin.«enumerate.__new__» ⟨[.type "enumerate", .ref l], []⟩) (fun _ R s => s.heap.IsTuple l items ∧
      R (.ok (.ret (.ref (s.heap.push { cls := .type "tuple_iterator", data := .fields #[.ref l, .int 0 0] }).objs.size)))
        { s with heap := (s.heap.push { cls := .type "tuple_iterator", data := .fields #[.ref l, .int 0 0] }).push { cls := .type "enumerate", data := .fields #[.none, .bool false, .ref s.heap.objs.size, rawInt 0, .none, .none] } }) :=
  .of_wp fun prog w A R s h => by
    obtain ⟨hp, g, d, tk, os⟩ := s; obtain ⟨hL, h⟩ := h
    obtain ⟨o, hl, hc, n, hd⟩ := id hL
    have hsub := sub_enumerate
    wp_walk using wpAny_loadPart' hl
    refine wpAny_stack_any fun st => wpAny_pure ?_
    split
    · rename_i c _ _ _ _ _
      cases (c == Value.type "enumerate")
      · wp_walk using wpAny_loadPart' hl, wpAny_pyIter_tuple hL
        exact ⟨_, rfl, h⟩
      · wp_walk using wpAny_loadPart' hl, wpAny_pyIter_tuple hL
        exact ⟨_, rfl, h⟩
    · wp_walk using wpAny_loadPart' hl, wpAny_pyIter_tuple hL
      exact ⟨_, rfl, h⟩
section
variable {prog : Program} {w : World} {A : Around} {E : Value → Shared → Prop} {s : Shared}
theorem enT_call {l : Addr} {items : Array Value} {Q : Value → Shared → Prop} (hL : s.heap.IsTuple l items)
    (h : ∀ h', IsEnum h' (s.heap.objs.size + 1) s.heap.objs.size 0 .none → h'.IsTupleIter s.heap.objs.size l 0 → h'.objs.size = s.heap.objs.size + 2 →
      (∀ b o, s.heap.get? b = some o → h'.get? b = some o) → Q (.ref (s.heap.objs.size + 1)) { s with heap := h' }) :
    wpAny (model prog w) A (call (.type "enumerate") [.ref l]) Q E s := by
  refine callType_new F.called_enumerate (by decide) (F.typeCall_enumerate_1 _) (F.newCall_enumerate_1 _) (fun obj => F.args_object_init_2 obj _) F.entry_enumerate_new
    (enT_new l items) ⟨hL, ?_⟩
  have hz : (s.heap.push { cls := .type "tuple_iterator", data := .fields #[.ref l, .int 0 0] }).objs.size = s.heap.objs.size + 1 := Heap.size_push ..
  show _ ∧ _
  rw [hz]
  have he : IsEnum ((s.heap.push { cls := .type "tuple_iterator", data := .fields #[.ref l, .int 0 0] }).push
      { cls := .type "enumerate", data := .fields #[.none, .bool false, .ref s.heap.objs.size, rawInt 0, .none, .none] }) (s.heap.objs.size + 1) s.heap.objs.size 0 .none := by
    have := Heap.get?_push_size (s.heap.push { cls := .type "tuple_iterator", data := .fields #[.ref l, .int 0 0] })
      (o := { cls := .type "enumerate", data := .fields #[.none, .bool false, .ref s.heap.objs.size, rawInt 0, .none, .none] }) rfl
    rw [hz] at this; exact this
  refine ⟨⟨_, he, rfl⟩, h _ he ⟨_, Heap.get?_push_of_some _ (Heap.get?_push_size _ rfl), rfl, rfl⟩ (by rw [Heap.size_push, hz]) fun b o x => Heap.get?_push_of_some _ (Heap.get?_push_of_some _ x)⟩
end
/-- the tuple at a, each item in a new pair -/
def IteT (K : PySem.W.Frag) (a : Addr) : It :=
  ⟨fun i H => ∃ (xs : List V) (x : V), SqT K H a xs ∧ xs[i]? = some x, fun i H v H' => ∃ T x, v = .ref T ∧ H T = none ∧ H' = upd H T (.tup [.int (i : Nat), x]) ∧ ∀ xs, SqT K H a xs → xs[i]? = some x, fun i H => ∃ xs : List V, SqT K H a xs ∧ xs.length ≤ i⟩
theorem enT_turn {P : Program} {w : World} {K : PySem.W.Frag} {elts : List Expr} {kk : Nat} {tpos : Pos} (a e it : Addr) :
    Turn P w K (.Tuple elts kk tpos) (IteT K a) [e, it] e (fun i h => (∃ old, IsEnum h e it ((i : Nat) : Int) old) ∧ h.IsTupleIter it a i ∧ e ≠ it) where
  mem := by simp
  obj := fun i h st b hb => by
    obtain ⟨⟨old, he⟩, ⟨o, ho, hc, hd⟩, _⟩ := st
    have e' : b = e ∨ b = it := by simpa using hb
    rcases e' with z | z
    · rw [z]; exact ⟨_, he, fun v q => nomatch q⟩
    · rw [z]; exact ⟨o, ho, fun v q => by rw [hd] at q; cases q⟩
  keep := fun i h h' st k => let ⟨⟨old, he⟩, hi, hne⟩ := st; ⟨⟨old, k e (by simp) _ he⟩, hi.at fun o q => k it (by simp) o q, hne⟩
  item := by
    intro X hP hw hK hc i pins s σ H E I hf st hg
    subst hP hw hK
    obtain ⟨⟨old, he⟩, hit, hne⟩ := st
    obtain ⟨xs, x, hq, hx⟩ := hg
    obtain ⟨its, rv, p, hz⟩ := I.tuple hq
    obtain ⟨u, hu, ru⟩ := rv.get hx
    have hel : e < s.heap.objs.size := Heap.lt_size he
    have hil : it < s.heap.objs.size := by obtain ⟨_, q, _⟩ := hit; exact Heap.lt_size q
    refine enT_nextI he hit p (x := u) (by simpa using hu) hne fun h' ho hit' hT hsz hk => ?_
    refine ⟨_, rfl, wpAny_letOwnedTupleGo_enum (s := { s with heap := h', toks := s.toks + 1 }) ho fun h'' he' sb => ?_⟩
    have hT2 : h''.get? s.heap.objs.size = some { cls := .type "tuple", data := .seq #[.int i s.toks, u] } := (sb.2 _ (Nat.ne_of_gt hel)).trans hT
    have new : ObjOk X.prog X.w (upd H s.heap.objs.size (.tup [.int (i : Nat), x])) h'' s.heap.objs.size (.tup [.int (i : Nat), x]) :=
      ⟨by show 2 ≤ sizeLine; decide, [.int i s.toks, u], .cons ⟨_, rfl⟩ (.cons ru .nil), ⟨_, hT2, rfl, _, rfl⟩⟩
    have I1 : Inv X pins σ (upd H s.heap.objs.size (.tup [.int (i : Nat), x])) { s with heap := h'', toks := s.toks + 1 } :=
      I.turnedNew (ch := [e, it]) (fun b ob hb q => (sb.2 b (fun z => hb (by simp [z]))).trans (hk b ob (fun z => hb (by simp [z])) (fun z => hb (by simp [z])) q)) hf (Nat.le_refl _) new
    refine ⟨.ref s.heap.objs.size, _, I1, rfl, ⟨_, x, rfl, I.hok.fresh (Nat.le_refl _), rfl, fun ys hy => by rw [I.tuple_inj hy hq]; exact hx⟩, ⟨⟨u, ?_⟩, hit'.at fun o q => (sb.2 it (Ne.symm hne)).trans q, hne⟩, fun b hb => ?_⟩
    · have e1 : ((i + 1 : Nat) : Int) = (i : Int) + 1 := by omega
      rw [e1]; exact he'
    · have hb' : b < s.heap.objs.size := by
        have e' : b = e ∨ b = it := by simpa using hb
        rcases e' with z | z
        · rw [z]; exact hel
        · rw [z]; exact hil
      rw [upd_ne (Nat.ne_of_lt hb')]
      exact (hf b hb).1
  done := by
    intro X hP hw hK hc i pins s σ H E I hf st hg
    subst hP hw hK
    obtain ⟨⟨old, he⟩, hit, hne⟩ := st
    obtain ⟨xs, hq, hx⟩ := hg
    obtain ⟨its, rv, p, hz⟩ := I.tuple hq
    obtain ⟨f0, f1, f2, f3, f4, f5⟩ := hf it (by simp)
    have hl := rv.length
    exact enT_nextE (I.ok.hd hc) he hit p (by simp; omega) fun h' eb => ⟨rfl, I.turned (t' := s.toks) (fun b o hb q => eb b o hb q) f0 f1 f3 f4 f5⟩
  self := fun A i s Q E st h => let ⟨⟨_, he⟩, _⟩ := st; wpAny_pyIter_enum he h
theorem pi_enT {X : Cx} {e : Expr} {ta : TA} {p pos tpos : Pos} {elts : List Expr} {kk : Nat} (hg : Gl X "enumerate") (hm : X.mg "enumerate" = none) (ha : PA X [e] ta) (hs : starEach [e] X.env = [(false, eval e X.env)] := by rfl) :
    PI X (.Tuple elts kk tpos) (.Call (.Name "enumerate" p) [e] [] pos) (fun σ H R => ta σ H fun vs H1 => ∃ a xs, vs = [.ref a] ∧ SqT X.K H1 a xs ∧ R (IteT X.K a) H1) := by
  refine ⟨fun pins s σ H R I h => ?_⟩
  refine Call_ (ld_blt I hg hm boot_enumerate (PyProof.Rows.callWith_type1 (thn (ha.run pos pins s σ H _ I h) fun us s1 ⟨vs, H1, I1, r1, q1⟩ => ?_) hs rfl))
  obtain ⟨a, xs, ex, hq, q⟩ := q1
  subst ex
  cases r1 with
  | cons r rr =>
    cases rr
    cases r
    obtain ⟨its, rv, p', hz⟩ := I1.tuple hq
    refine enT_call p' fun h' he hit hsz hk => wpAny_pyIter_enum he ?_
    have I2 : Inv X pins σ H1 { s1 with heap := h' } := I1.kept (t' := s1.toks) hk
    refine ⟨s1.heap.objs.size + 1, [s1.heap.objs.size + 1, s1.heap.objs.size], _, _, H1, rfl, I2, enT_turn a (s1.heap.objs.size + 1) s1.heap.objs.size, ⟨⟨.none, he⟩, hit, Nat.succ_ne_self _⟩, fun b hb => ?_, q⟩
    have e' : b = s1.heap.objs.size + 1 ∨ b = s1.heap.objs.size := by simpa using hb
    have hle : s1.heap.objs.size ≤ b := by
      rcases e' with z | z
      · rw [z]; exact Nat.le_add_right _ _
      · rw [z]; exact Nat.le_refl _
    exact I1.fpOk hle (I1.hok.fresh hle)
theorem enT_walk {K : PySem.W.Frag} {a : Addr} {xs : List V} : Walk (IteT K a) xs.length (fun H => SqT K H a xs) (YPair (fun i => some (.int (i : Nat))) (fun i => xs[i]?)) := by
  refine ⟨fun i _ hi q => ⟨xs, xs[i], q, by simp [hi]⟩, fun _ q => ⟨xs, q, Nat.le_refl _⟩, fun i H v H' _ q y => ?_⟩
  obtain ⟨T, x, h1, h2, h3, h4⟩ := y
  exact ⟨T, .int (i : Nat), x, h1, h2, h3, rfl, h4 xs q⟩
theorem gives_enT {K : PySem.W.Frag} {P : Hp} {a : Addr} {vs : List V} {ds : List D} (h : SqT K P a vs) (r : Reps K P vs ds) : Gives K (IteT K a) (numD ds) P :=
  ⟨⟨_, _, by rw [numD_len, ← r.len]; exact enT_walk (K := K) (a := a) (xs := vs), fun P2 H2 e l => le_sqT l (sqT_ex e h), fun i P2 H2 x H3 hi e l y => by
    obtain ⟨T, x1, x2, rfl, hT, rfl, e1, e2⟩ := y
    obtain ⟨d, h1, h2⟩ := r.getV e2
    have e1' : x1 = .int (i : Nat) := (Option.some.inj e1).symm
    subst e1'
    have ex : Ex P2 (upd P2 T (.tup [.int (i : Nat), x2])) := Ex.fresh (l.none hT)
    exact ⟨_, _, numD_get h1, .tup upd_same (.cons (.int _) (.cons ((h2.ex' e).ex' ex) .nil)), .inr ⟨T, _, hT, rfl, rfl⟩⟩⟩⟩
section
variable {X : Cx} {W : Wd} {G : List (Option D)} {C : Cells} {e : Expr} {pos : Pos}
/-- enumerate of a tuple -/
theorem wI_enumT {kk : List D → Cells → Prop} {p' tpos : Pos} {elts : List Expr} {kx : Nat} (hm : X.mg "enumerate" = none) (h : wE X W e G C fun d C1 => ∃ ds, d = .tup ds ∧ kk (numD ds) C1) (hg : Gl X "enumerate" := by rfl)
    (hs : starEach [e] X.env = [(false, eval e X.env)] := by rfl) : wI X W (.Tuple elts kx tpos) (.Call (.Name "enumerate" p') [e] [] pos) G C kk := fun σ P H R g z pins s I =>
  (pi_enT hg hm (pa_cons pe_sem pa_nil (by rw [hs]; rfl)) hs).run pins s σ H R I (h σ P H _ g fun d C1 v P1 H1 n1 r1 q => by
    obtain ⟨ds, hd, q⟩ := q
    subst hd
    cases r1 with
    | @tup a vs _ h1 rs => exact ⟨a, vs, rfl, .inl (.inl (le_tup n1.good.le h1)), z _ C1 P1 H1 _ n1 (gives_enT (.inl (.inl h1)) rs) q⟩)
/-- enumerate of a list or a tuple -/
theorem wI_enumF {d : D} {xs : List D} {kk : List D → Cells → Prop} {p' tpos : Pos} {elts : List Expr} {kx : Nat} (hm : X.mg "enumerate" = none) (hf : SeqF d xs) (h : wE X W e G C fun d' C1 => d' = d ∧ kk (numD xs) C1) (hg : Gl X "enumerate" := by rfl)
    (hs : starEach [e] X.env = [(false, eval e X.env)] := by rfl) : wI X W (.Tuple elts kx tpos) (.Call (.Name "enumerate" p') [e] [] pos) G C kk := by
  rcases hf with rfl | rfl
  · exact wI_enum hm (h.mono fun d' C1 q => by obtain ⟨rfl, q⟩ := q; exact ⟨xs, .inl rfl, q⟩) hg hs
  · exact wI_enumT hm (h.mono fun d' C1 q => by obtain ⟨rfl, q⟩ := q; exact ⟨xs, rfl, q⟩) hg hs
end
section
variable {X : Cx} {W : Wd} {G : List (Option D)} {C : Cells} {k : KD}
/-- a list and a list of one's own, joined to a new list -/
theorem o_catC {xs ys : List D} {p : Addr} (i : Nat) (hi : C[i]? = some (p, Cl.lst ys)) (hl : xs.length + ys.length ≤ 100000) (q : k (.lst (xs ++ ys)) C) : oD X W (binaryOp .Add) (.lst xs) (.ref p) G C k := oD_of op_cat fun σ P H Q v u g r1 r2 z => by
  cases r1 with
  | @lst a1 vs1 _ h1 s1 =>
    cases r2
    obtain ⟨ob, ho, vs2, rfl, s2⟩ := g.cell hi
    refine ⟨_, _, vs1, vs2, rfl, rfl, le_lst g.le h1, ho, by rw [s1.len, s2.len]; exact small_le hl, fun p np => ?_⟩
    have n := g.new (o := .lst (vs1 ++ vs2)) np
    exact z _ C (.ref p) _ _ n (.lst upd_same ((s1.app s2).ex' n.ex)) q
end
end EW

/-! Typed data: encoders of plain Lean values, rules for expressions that only read (pv, pt), one value each. -/
namespace EW
open PySem PySem.Spec PyProof.Rows L2

/-! ### encoders -/
def lsE {α : Type} (f : α → D) (l : List α) : D := .lst (l.map f)
def vtE {α : Type} (f : α → D) (l : List α) : D := .tup (l.map f)
/-- a list (false) or a tuple (true) -/
def sqE {α : Type} (f : α → D) (x : Bool × List α) : D := bif x.1 then vtE f x.2 else lsE f x.2
def prE {α β : Type} (f : α → D) (g : β → D) (x : α × β) : D := .tup [f x.1, g x.2]
def p3E {α β γ : Type} (f : α → D) (g : β → D) (h : γ → D) (x : α × β × γ) : D := .tup [f x.1, g x.2.1, h x.2.2]
def p4E {α β γ δ : Type} (f : α → D) (g : β → D) (h : γ → D) (i : δ → D) (x : α × β × γ × δ) : D := .tup [f x.1, g x.2.1, h x.2.2.1, i x.2.2.2]
def opE {α : Type} (f : α → D) : Option α → D
  | none => .non
  | some x => f x
def unE (_ : Unit) : D := .non
def idE (d : D) : D := d
/-- the item at a place -/
def gt {α : Type} [Inhabited α] (l : List α) (i : Nat) : α := l.getD i default
theorem gt_of {α : Type} [Inhabited α] {l : List α} {i : Nat} {x : α} (h : l[i]? = some x) : gt l i = x := by unfold gt; rw [List.getD_eq_getElem?_getD, h]; rfl
theorem gt_some {α : Type} [Inhabited α] {l : List α} {i : Nat} (h : i < l.length) : l[i]? = some (gt l i) := by
  rw [List.getElem?_eq_getElem h]; unfold gt; rw [List.getD_eq_getElem?_getD, List.getElem?_eq_getElem h]; rfl
theorem gt_mem {α : Type} [Inhabited α] {l : List α} {i : Nat} (h : i < l.length) : gt l i ∈ l := List.mem_of_getElem? (gt_some h)
theorem gt_map {α β : Type} [Inhabited α] [Inhabited β] {l : List α} {f : α → β} {i : Nat} (h : i < l.length) : gt (l.map f) i = f (gt l i) := gt_of (by rw [List.getElem?_map, gt_some h]; rfl)
instance : Inhabited Str := ⟨⟨#[]⟩⟩

section
variable {X : Cx} {W : Wd} {G : List (Option D)} {C : Cells} {e a b c o : Expr} {es rest : List Expr} {pos p1 p2 apos : Pos} {x y z : D} {k : KD} {n m : Nat}
/-- an expression that reads -/
def pv (X : Cx) (W : Wd) (e : Expr) (G : List (Option D)) (C : Cells) (d : D) : Prop := wE X W e G C fun d' C' => d' = d ∧ C' = C
def pt (X : Cx) (W : Wd) (e : Expr) (G : List (Option D)) (C : Cells) (t : Bool) : Prop := wT X W e G C fun t' C' => t' = t ∧ C' = C
def pb (X : Cx) (W : Wd) (e : Expr) (G : List (Option D)) (C : Cells) (t : Bool) : Prop := wB X W e G C fun t' C' => t' = t ∧ C' = C
def pa (X : Cx) (W : Wd) (es : List Expr) (G : List (Option D)) (C : Cells) (ds : List D) : Prop := wA X W es G C fun d' C' => d' = ds ∧ C' = C
theorem pv.w {d : D} (h : pv X W e G C d) (q : k d C) : wE X W e G C k := wE_v h q
theorem pt.w {kb : KB} {t : Bool} (h : pt X W e G C t) (q : kb t C) : wT X W e G C kb := wT_v h q
theorem pa.w {ka : KDs} {ds : List D} (h : pa X W es G C ds) (q : ka ds C) : wA X W es G C ka := wA_v h q
theorem pv.to {d d' : D} (h : pv X W e G C d) (q : d = d') : pv X W e G C d' := q ▸ h
theorem pt.to {d d' : Bool} (h : pt X W e G C d) (q : d = d') : pt X W e G C d' := q ▸ h

theorem p_nm (i : Nat) {x : Str} {d : D} (hd : G[i]? = some (some d)) (hN : X.N[i]? = some x := by rfl) (hv : Vis X.env.scope x := by first | exact Or.inl rfl | exact Or.inr (Or.inl rfl) | exact Or.inr (Or.inr rfl)) (h1 : (x == ("__debug__" : Str)) = false := by decide) (h2 : (x == ("__classdict__" : Str)) = false := by decide) : pv X W (.Name x pos) G C d :=
  wE_nm i hd ⟨rfl, rfl⟩ hN hv h1 h2
theorem p_lit {i : Int} {j : Nat} (n : Nat) (h : i = (n : Int) := by rfl) : pv X W (.Constant (.int i) j pos) G C (natD n) := wE_int ⟨by rw [h]; rfl, rfl⟩
theorem p_int {i : Int} {j : Nat} : pv X W (.Constant (.int i) j pos) G C (.int i) := wE_int ⟨rfl, rfl⟩
theorem p_bl {i : Bool} {j : Nat} : pv X W (.Constant (.bool i) j pos) G C (.bl i) := wE_bl ⟨rfl, rfl⟩
theorem p_non {j : Nat} : pv X W (.Constant .none j pos) G C .non := wE_non ⟨rfl, rfl⟩
theorem p_str {x : Str} {j : Nat} : pv X W (.Constant (.str x) j pos) G C (.str x) := wE_str ⟨rfl, rfl⟩
theorem p_glN {x : Str} {i : Int} (n : Nat) (hm : ∃ u, X.mg x = some u ∧ RelV (.int i) u) (h : i = (n : Int) := by rfl) (hg : Gl X x := by rfl) (hd : (x == ("__debug__" : Str)) = false := by decide) : pv X W (.Name x pos) G C (natD n) := by
  obtain ⟨u, h1, h2⟩ := hm
  exact wE_gl h1 h2 (fun P => .int _) ⟨by rw [h]; rfl, rfl⟩ hg hd
theorem p_glS {x s : Str} (hm : ∃ u, X.mg x = some u ∧ RelV (.str s) u) (hg : Gl X x := by rfl) (hd : (x == ("__debug__" : Str)) = false := by decide) : pv X W (.Name x pos) G C (.str s) := by
  obtain ⟨u, h1, h2⟩ := hm
  exact wE_gl h1 h2 (fun P => .str _) ⟨rfl, rfl⟩ hg hd
theorem p_bin {op : Operator} (ha : pv X W a G C x) (hb : pv X W b G C y) (h : ∀ k : KD, k z C → oD X W (binaryOp op) x y G C k) : pv X W (.BinOp a op b pos) G C z :=
  wE_bin (ha.w (hb.w (h _ ⟨rfl, rfl⟩)))
theorem p_cmp {op : CmpOp} (ha : pv X W a G C x) (hb : pv X W b G C y) (h : ∀ k : KD, k z C → oD X W (compareOp op) x y G C k) (hm : behindInMarks op b = false := by first | exact nomark _ | rfl) : pv X W (.Compare a [op] [b] pos) G C z :=
  wE_cmp (ha.w (hb.w (h _ ⟨rfl, rfl⟩))) hm
theorem t_cmp {op : CmpOp} {t : Bool} (ha : pv X W a G C x) (hb : pv X W b G C y) (h : ∀ k : KD, k (.bl t) C → oD X W (compareOp op) x y G C k) (hm : behindInMarks op b = false := by first | exact nomark _ | rfl) : pt X W (.Compare a [op] [b] pos) G C t :=
  wT_cmp (ha.w (hb.w (h _ ⟨t, rfl, rfl, rfl⟩))) hm
theorem p_chain {op op' : CmpOp} {p q : Bool} {w : D} (ha : pv X W a G C x) (hb : pv X W b G C y) (h1 : ∀ k : KD, k (.bl p) C → oD X W (compareOp op) x y G C k) (hc : p = true → pv X W c G C w) (h2 : p = true → ∀ k : KD, k (.bl q) C → oD X W (compareOp op') y w G C k)
    (hm : lastMarks [op, op'] [b, c] = false := by with_unfolding_all rfl) : pv X W (.Compare a [op, op'] [b, c] pos) G C (.bl (p && q)) :=
  wE_chain (ha.w (hb.w (h1 _ (wE_chainP (u := q) (fun e => (hc e).w (h2 e _ ⟨rfl, rfl⟩)) ⟨rfl, rfl⟩)))) hm
theorem t_chain {op op' : CmpOp} {p q : Bool} {w : D} (ha : pv X W a G C x) (hb : pv X W b G C y) (h1 : ∀ k : KD, k (.bl p) C → oD X W (compareOp op) x y G C k) (hc : p = true → pv X W c G C w) (h2 : p = true → ∀ k : KD, k (.bl q) C → oD X W (compareOp op') y w G C k)
    (hm : lastMarks [op, op'] [b, c] = false := by with_unfolding_all rfl) : pt X W (.Compare a [op, op'] [b, c] pos) G C (p && q) :=
  wT_chain (ha.w (hb.w (h1 _ (wE_chainP (u := q) (fun e => (hc e).w (h2 e _ ⟨rfl, rfl⟩)) ⟨_, rfl, rfl, rfl⟩)))) hm
theorem t_val {t : Bool} (h : pv X W e G C (.bl t)) (he : ∀ whole, isTrue e X.env whole = (do let v ← whole; standAt e.pos; holding [v] (truthy v)) := by intro _; rfl) : pt X W e G C t :=
  wT_val (h.w ⟨t, rfl, rfl, rfl⟩) he
theorem t_not {t : Bool} (h : pt X W a G C t) : pt X W (.UnaryOp .Not a pos) G C (!t) := wT_not (h.w ⟨rfl, rfl⟩)
theorem p_not {t : Bool} (h : pv X W a G C (.bl t)) : pv X W (.UnaryOp .Not a pos) G C (.bl (!t)) := wE_not (h.w ⟨t, rfl, rfl, rfl⟩)
theorem p_neg {i : Int} (h : pv X W a G C (.int i)) : pv X W (.UnaryOp .USub a pos) G C (.int (-i)) := wE_neg (h.w ⟨i, rfl, rfl, rfl⟩)
theorem p_and {p q : Bool} (ha : pv X W a G C (.bl p)) (hb : p = true → pv X W (.BoolOp .And (b :: rest) pos) G C (.bl q)) : pv X W (.BoolOp .And (a :: b :: rest) pos) G C (.bl (p && q)) := wE_andP ha hb ⟨rfl, rfl⟩
theorem p_or {p q : Bool} (ha : pv X W a G C (.bl p)) (hb : p = false → pv X W (.BoolOp .Or (b :: rest) pos) G C (.bl q)) : pv X W (.BoolOp .Or (a :: b :: rest) pos) G C (.bl (p || q)) := wE_orP ha hb ⟨rfl, rfl⟩
theorem p_one {op : BoolOp} (h : pv X W a G C x) : pv X W (.BoolOp op [a] pos) G C x := wE_one h
theorem b_and {p q : Bool} (ha : pt X W a G C p) (hb : p = true → pb X W (.BoolOp .And (b :: rest) pos) G C q) : pb X W (.BoolOp .And (a :: b :: rest) pos) G C (p && q) := wB_andP ha hb ⟨rfl, rfl⟩
theorem b_or {p q : Bool} (ha : pt X W a G C p) (hb : p = false → pb X W (.BoolOp .Or (b :: rest) pos) G C q) : pb X W (.BoolOp .Or (a :: b :: rest) pos) G C (p || q) := wB_orP ha hb ⟨rfl, rfl⟩
theorem b_and1 {p : Bool} (h : pt X W a G C p) : pb X W (.BoolOp .And [a] pos) G C p := wB_and1 h
theorem b_or1 {p : Bool} (h : pt X W a G C p) : pb X W (.BoolOp .Or [a] pos) G C p := wB_or1 h
theorem t_b {p : Bool} (h : pb X W e G C p) : pt X W e G C p := wB.wt h
theorem p_if {α : Type} (f : α → D) {t : Bool} {u v : α} (h : pt X W c G C t) (h1 : t = true → pv X W a G C (f u)) (h2 : t = false → pv X W b G C (f v)) : pv X W (.IfExp c a b pos) G C (f (bif t then u else v)) :=
  wE_ifP h h1 h2 ⟨by cases t <;> rfl, rfl⟩
theorem a_nil : pa X W [] G C [] := wA_nil ⟨rfl, rfl⟩
theorem a_cons {ds : List D} (h : pv X W e G C x) (h2 : pa X W es G C ds) (hs : starEach (e :: es) X.env = (false, eval e X.env) :: starEach es X.env := by rfl) : pa X W (e :: es) G C (x :: ds) :=
  wA_cons (h.w (h2.w ⟨rfl, rfl⟩)) hs
theorem p_tup {kx : Nat} {ds : List D} (h : pa X W es G C ds) (hz : D.tup ds = z) (hl : ds.length ≤ 100000 := by exact Nat.le_of_ble_eq_true rfl) : pv X W (.Tuple es kx pos) G C z := wE_tup (h.w ⟨hl, hz, rfl⟩)
theorem p_lst {ds : List D} (h : pa X W es G C ds) (hz : D.lst ds = z) (hl : ds.length ≤ 100000 := by exact Nat.le_of_ble_eq_true rfl) : pv X W (.List es pos) G C z := wE_lst (h.w ⟨hl, hz, rfl⟩)
theorem p_ix (ha : pv X W a G C x) (hb : pv X W b G C y) (h : ∀ k : KD, k z C → xD X W x y G C k) (hs : PlainIx b := by exact fun _ _ => rfl) : pv X W (.Subscript a b pos) G C z := wE_ix (ha.w (hb.w (h _ ⟨rfl, rfl⟩))) hs
def po (X : Cx) (W : Wd) (e : Option Expr) (G : List (Option D)) (C : Cells) (i : Option Int) : Prop := wO X W e G C fun i' C' => i' = i ∧ C' = C
theorem po_none : po X W none G C none := pO_none ⟨rfl, rfl⟩
theorem po_nat (h : pv X W e G C (natD n)) : po X W (some e) G C (some (n : Int)) := pO_some (h.w ⟨_, rfl, rfl, rfl⟩)
theorem po_int {i : Int} (h : pv X W e G C (.int i)) : po X W (some e) G C (some i) := pO_some (h.w ⟨_, rfl, rfl, rfl⟩)
theorem p_sl {lo hi : Option Expr} {l u : Option Int} (ha : pv X W a G C x) (hl : po X W lo G C l) (hu : po X W hi G C u) (h : ∀ k : KD, k z C → sD X W x l u G C k) : pv X W (.Subscript a (.Slice lo hi none p2) pos) G C z := by
  refine wE_sl (ha.w fun σ P H Q g zz => hl σ P H Q g fun o C' P' H' n e => zz o C' P' H' n ?_)
  obtain ⟨rfl, rfl⟩ := e
  intro σ P H Q g zz
  refine hu σ P H Q g fun o C' P' H' n e => zz o C' P' H' n ?_
  obtain ⟨rfl, rfl⟩ := e
  exact h _ ⟨rfl, rfl⟩
theorem p_B (id : String) {x : Str} {ds : List D} (hv : bootBuiltins x = some (.builtin id)) (hm : X.mg x = none) (ha : pa X W (e :: es) G C ds) (h : ∀ k : KD, k z C → cD X W (.builtin id) ds G C k) (hg : Gl X x := by rfl) (hn : x ≠ "__name__" := by decide) (hd : (x == ("__debug__" : Str)) = false := by decide)
    (he : starEach (e :: es) X.env = (false, eval e X.env) :: starEach es X.env := by rfl) (hp : (backTo pos (starEach es X.env)).any (·.1) = false := by rfl) : pv X W (.Call (.Name x p1) (e :: es) [] pos) G C z :=
  wE_callB id hv hm (ha.w (h _ ⟨rfl, rfl⟩)) hg hn hd he hp
theorem p_T (T : String) {x : Str} {ds : List D} (hv : bootBuiltins x = some (.type T)) (hm : X.mg x = none) (ha : pa X W (e :: es) G C ds) (h : ∀ k : KD, k z C → cD X W (.type T) ds G C k) (hg : Gl X x := by rfl) (hn : x ≠ "__name__" := by decide) (hd : (x == ("__debug__" : Str)) = false := by decide)
    (he : starEach (e :: es) X.env = (false, eval e X.env) :: starEach es X.env := by rfl) (hp : (backTo pos (starEach es X.env)).any (·.1) = false := by rfl) : pv X W (.Call (.Name x p1) (e :: es) [] pos) G C z :=
  wE_callT T hv hm (ha.w (h _ ⟨rfl, rfl⟩)) hg hn hd he hp
/-- a def that reads -/
theorem p_fn {x : Str} {j : Nat} {F : FS} {ds : List D} (R : HasX X x j F) (hr : Room n X.A) (hgu : X.A.guards = some []) (ha : pa X W (e :: es) G C ds) (h : ∀ k : KD, k z C → F ds C k KE0) (hj : j ≤ n := by first | decide | omega) (hg : Gl X x := by rfl)
    (hdb : (x == ("__debug__" : Str)) = false := by decide) (he : starEach (e :: es) X.env = (false, eval e X.env) :: starEach es X.env := by rfl) (hpl : (backTo pos (starEach es X.env)).any (·.1) = false := by rfl) : pv X W (.Call (.Name x p1) (e :: es) [] pos) G C z :=
  wE_call0A R hr hgu (ha.w (h _ ⟨rfl, rfl⟩)) hj hg hdb he hpl
/-! ### what is walked -/
def pi {α : Type} (X : Cx) (W : Wd) (tg iter : Expr) (G : List (Option D)) (C : Cells) (l : List α) (g : α → D) : Prop := wI X W tg iter G C fun ds C1 => ds = l.map g ∧ C1 = C
variable {tg : Expr} {α β γ : Type} {f : α → D} {g : β → D} {l : List α}
theorem i_ls (h : pv X W e G C (lsE f l)) : pi X W tg e G C l f := wI_lst (h.w ⟨_, .inl rfl, rfl, rfl⟩)
theorem i_vt (h : pv X W e G C (vtE f l)) : pi X W tg e G C l f := wI_tup (h.w ⟨_, rfl, rfl, rfl⟩)
theorem i_tp {ds : List D} (h : pv X W e G C (.tup ds)) (hd : ds = l.map f) : pi X W tg e G C l f := wI_tup (h.w ⟨_, rfl, hd, rfl⟩)
theorem sqF (q : Bool × List α) : SeqF (sqE f q) (q.2.map f) := by
  obtain ⟨b, l⟩ := q
  cases b
  · exact .inl rfl
  · exact .inr rfl
theorem i_sq {q : Bool × List α} (h : pv X W e G C (sqE f q)) : pi X W tg e G C q.2 f := wI_seqF (sqF q) (h.w ⟨rfl, rfl, rfl⟩)
theorem i_rg {p' : Pos} (hm : X.mg "range" = none) (h : pv X W e G C (natD n)) (hn : n ≤ 1000000) (hg : Gl X "range" := by rfl)
    (hs : starEach [e] X.env = [(false, eval e X.env)] := by rfl) : pi X W tg (.Call (.Name "range" p') [e] [] pos) G C (List.range n) natD := wI_rg hm (h.w ⟨n, rfl, hn, rfl, rfl⟩) hg hs
theorem i_str {s : Str} (h : pv X W e G C (.str s)) : pi X W tg e G C s.cps.toList sgD := wI_str (h.w ⟨s, rfl, rfl, rfl⟩)
def enE (f : α → D) (q : α × Nat) : D := .tup [natD q.2, f q.1]
theorem i_en {p' tpos : Pos} {elts : List Expr} {kx : Nat} (hm : X.mg "enumerate" = none) (h : pv X W e G C (lsE f l)) (hg : Gl X "enumerate" := by rfl)
    (hs : starEach [e] X.env = [(false, eval e X.env)] := by rfl) : pi X W (.Tuple elts kx tpos) (.Call (.Name "enumerate" p') [e] [] pos) G C l.zipIdx (enE f) := wI_enum hm (h.w ⟨_, .inl rfl, numD_map _ _, rfl⟩) hg hs
theorem i_enQ {p' tpos : Pos} {elts : List Expr} {kx : Nat} {q : Bool × List α} (hm : X.mg "enumerate" = none) (h : pv X W e G C (sqE f q)) (hg : Gl X "enumerate" := by rfl)
    (hs : starEach [e] X.env = [(false, eval e X.env)] := by rfl) : pi X W (.Tuple elts kx tpos) (.Call (.Name "enumerate" p') [e] [] pos) G C q.2.zipIdx (enE f) := wI_enumF hm (sqF q) (h.w ⟨rfl, numD_map _ _, rfl⟩) hg hs
theorem i_zip {kx : Nat} {p' tpos : Pos} {elts : List Expr} {l' : List β} (hm : X.mg "zip" = none) (h : pv X W a G C (lsE f l)) (h2 : pv X W b G C (lsE g l')) (hg : Gl X "zip" := by rfl) (hs : starEach [a, b] X.env = (false, eval a X.env) :: starEach [b] X.env := by rfl)
    (hs2 : starEach [b] X.env = (false, eval b X.env) :: starEach [] X.env := by rfl) (hpl : (backTo pos (starEach [b] X.env)).any (·.1) = false := by rfl) : pi X W (.Tuple elts kx tpos) (.Call (.Name "zip" p') [a, b] [] pos) G C (l.zip l') (prE f g) :=
  wI_zip hm (h.w (h2.w ⟨_, _, rfl, rfl, pairD_map _ _ _ _, rfl⟩)) hg hs hs2 hpl
/-! ### comprehensions -/
theorem p_lcM {x : Str} {p' : Pos} {elt iter : Expr} {scope : Scope} {α β : Type} {l : List α} {g : α → D} (fE : β → D) (m : α → β) (j : Nat) (own : List (Str × Nat)) (nd : X.N.Nodup) (hc : X.calm = true)
    (hi : pi X W (.Name x p') iter G C l g) (hz : l.length ≤ 100000)
    (he : ∀ y ∈ l, ∀ (W : Wd) (s : Shared) (H : Hp) (Cl : Addr) (cl : List (Str × Addr)) (fp : List Addr), pv (blkX X s H scope Cl cl fp) W elt ((wipeG G (own.map (·.2))).set j (some (g y))) C (fE (m y)))
    (ok : BlkOk X.N X.env.scope scope own := by exact blkOk_by (by kernel_rfl)) (hj : j ∈ own.map (·.2) := by decide)
    (hgp : ∀ (s : Shared) (H : Hp) (Cl : Addr) (cl : List (Str × Addr)) (fp : List Addr), PG (blkX X s H scope Cl cl fp) (.Name x p') (gName j) := by exact fun _ _ _ _ _ => pg_name (by assumption) rfl (by first | exact Or.inl rfl | exact Or.inr rfl))
    (hf : ∀ x, foldedSetIterable iter X.env x = pure x := by intro _; rfl) : wC X W elt (.Name x p') iter [] scope G C fun d C' => d = lsE fE (l.map m) ∧ C' = C :=
  C_lcM j own nd hc l g (fun y => fE (m y)) hi hz he ⟨by unfold lsE; rw [List.map_map]; rfl, rfl⟩ ok hj hgp hf
theorem p_lcP {x : Str} {p' : Pos} {elt c iter : Expr} {scope : Scope} {α β : Type} {l : List α} {g : α → D} (fE : β → D) (p : α → Bool) (m : α → β) (j : Nat) (own : List (Str × Nat)) (nd : X.N.Nodup) (hc : X.calm = true)
    (hi : pi X W (.Name x p') iter G C l g) (hz : l.length ≤ 100000)
    (ht : ∀ y ∈ l, ∀ (W : Wd) (s : Shared) (H : Hp) (Cl : Addr) (cl : List (Str × Addr)) (fp : List Addr), pt (blkX X s H scope Cl cl fp) W c ((wipeG G (own.map (·.2))).set j (some (g y))) C (p y))
    (he : ∀ y ∈ l, p y = true → ∀ (W : Wd) (s : Shared) (H : Hp) (Cl : Addr) (cl : List (Str × Addr)) (fp : List Addr), pv (blkX X s H scope Cl cl fp) W elt ((wipeG G (own.map (·.2))).set j (some (g y))) C (fE (m y)))
    (ok : BlkOk X.N X.env.scope scope own := by exact blkOk_by (by kernel_rfl)) (hj : j ∈ own.map (·.2) := by decide)
    (hgp : ∀ (s : Shared) (H : Hp) (Cl : Addr) (cl : List (Str × Addr)) (fp : List Addr), PG (blkX X s H scope Cl cl fp) (.Name x p') (gName j) := by exact fun _ _ _ _ _ => pg_name (by assumption) rfl (by first | exact Or.inl rfl | exact Or.inr rfl))
    (hf : ∀ x, foldedSetIterable iter X.env x = pure x := by intro _; rfl) : wC X W elt (.Name x p') iter [c] scope G C fun d C' => d = lsE fE ((l.filter p).map m) ∧ C' = C :=
  C_lcP j own nd hc l g p (fun y => fE (m y)) hi hz (fun y hy W s H Cl cl fp => wIf_one (ht y hy W s H Cl cl fp)) he ⟨by unfold lsE; rw [List.map_map]; rfl, rfl⟩ ok hj hgp hf
theorem p_lcF {x : Str} {p' : Pos} {elt c iter : Expr} {scope : Scope} {α : Type} {l : List α} {g : α → D} (p : α → Bool) (j : Nat) (own : List (Str × Nat)) (nd : X.N.Nodup) (hc : X.calm = true)
    (hi : pi X W (.Name x p') iter G C l g) (hz : l.length ≤ 100000)
    (ht : ∀ y ∈ l, ∀ (W : Wd) (s : Shared) (H : Hp) (Cl : Addr) (cl : List (Str × Addr)) (fp : List Addr), pt (blkX X s H scope Cl cl fp) W c ((wipeG G (own.map (·.2))).set j (some (g y))) C (p y))
    (he : ∀ y ∈ l, p y = true → ∀ (W : Wd) (s : Shared) (H : Hp) (Cl : Addr) (cl : List (Str × Addr)) (fp : List Addr), pv (blkX X s H scope Cl cl fp) W elt ((wipeG G (own.map (·.2))).set j (some (g y))) C (g y))
    (ok : BlkOk X.N X.env.scope scope own := by exact blkOk_by (by kernel_rfl)) (hj : j ∈ own.map (·.2) := by decide)
    (hgp : ∀ (s : Shared) (H : Hp) (Cl : Addr) (cl : List (Str × Addr)) (fp : List Addr), PG (blkX X s H scope Cl cl fp) (.Name x p') (gName j) := by exact fun _ _ _ _ _ => pg_name (by assumption) rfl (by first | exact Or.inl rfl | exact Or.inr rfl))
    (hf : ∀ x, foldedSetIterable iter X.env x = pure x := by intro _; rfl) : wC X W elt (.Name x p') iter [c] scope G C fun d C' => d = lsE g (l.filter p) ∧ C' = C :=
  C_lcP j own nd hc l g p g hi hz (fun y hy W s H Cl cl fp => wIf_one (ht y hy W s H Cl cl fp)) he ⟨rfl, rfl⟩ ok hj hgp hf
theorem p_lcM2 {x y : Str} {px py tpos : Pos} {kx : Nat} {elt iter : Expr} {scope : Scope} {α β : Type} {l : List α} {g : α → D} (g1 g2 : α → D) (fE : β → D) (m : α → β) (i j : Nat) (own : List (Str × Nat)) (nd : X.N.Nodup) (hc : X.calm = true)
    (hi : pi X W (.Tuple [.Name x px, .Name y py] kx tpos) iter G C l g) (hg : ∀ a, g a = .tup [g1 a, g2 a]) (hz : l.length ≤ 100000)
    (he : ∀ y ∈ l, ∀ (W : Wd) (s : Shared) (H : Hp) (Cl : Addr) (cl : List (Str × Addr)) (fp : List Addr), pv (blkX X s H scope Cl cl fp) W elt (((wipeG G (own.map (·.2))).set i (some (g1 y))).set j (some (g2 y))) C (fE (m y)))
    (ok : BlkOk X.N X.env.scope scope own := by exact blkOk_by (by kernel_rfl)) (h1 : i ∈ own.map (·.2) := by decide) (h2 : j ∈ own.map (·.2) := by decide)
    (hgp : ∀ (s : Shared) (H : Hp) (Cl : Addr) (cl : List (Str × Addr)) (fp : List Addr), PG (blkX X s H scope Cl cl fp) (.Tuple [.Name x px, .Name y py] kx tpos) (gTup X.K 2 (gCons (gName i) (gCons (gName j) gNil))) := by
    exact fun _ _ _ _ _ => pg_tup rfl (pgs_cons (pg_name (by assumption) rfl (by first | exact Or.inl rfl | exact Or.inr rfl)) (pgs_cons (pg_name (by assumption) rfl (by first | exact Or.inl rfl | exact Or.inr rfl)) pgs_nil)))
    (hf : ∀ x, foldedSetIterable iter X.env x = pure x := by intro _; rfl) : wC X W elt (.Tuple [.Name x px, .Name y py] kx tpos) iter [] scope G C fun d C' => d = lsE fE (l.map m) ∧ C' = C :=
  C_lcM2 i j own nd hc l g1 g2 (fun y => fE (m y)) (hi.mono fun ds C' h => ⟨by rw [h.1]; exact List.map_congr_left fun a _ => hg a, h.2⟩) hz he ⟨by unfold lsE; rw [List.map_map]; rfl, rfl⟩ ok h1 h2 hgp hf
theorem p_lcP2 {x y : Str} {px py tpos : Pos} {kx : Nat} {elt c iter : Expr} {scope : Scope} {α β : Type} {l : List α} {g : α → D} (g1 g2 : α → D) (fE : β → D) (p : α → Bool) (m : α → β) (i j : Nat) (own : List (Str × Nat)) (nd : X.N.Nodup) (hc : X.calm = true)
    (hi : pi X W (.Tuple [.Name x px, .Name y py] kx tpos) iter G C l g) (hg : ∀ a, g a = .tup [g1 a, g2 a]) (hz : l.length ≤ 100000)
    (ht : ∀ y ∈ l, ∀ (W : Wd) (s : Shared) (H : Hp) (Cl : Addr) (cl : List (Str × Addr)) (fp : List Addr), pt (blkX X s H scope Cl cl fp) W c (((wipeG G (own.map (·.2))).set i (some (g1 y))).set j (some (g2 y))) C (p y))
    (he : ∀ y ∈ l, p y = true → ∀ (W : Wd) (s : Shared) (H : Hp) (Cl : Addr) (cl : List (Str × Addr)) (fp : List Addr), pv (blkX X s H scope Cl cl fp) W elt (((wipeG G (own.map (·.2))).set i (some (g1 y))).set j (some (g2 y))) C (fE (m y)))
    (ok : BlkOk X.N X.env.scope scope own := by exact blkOk_by (by kernel_rfl)) (h1 : i ∈ own.map (·.2) := by decide) (h2 : j ∈ own.map (·.2) := by decide)
    (hgp : ∀ (s : Shared) (H : Hp) (Cl : Addr) (cl : List (Str × Addr)) (fp : List Addr), PG (blkX X s H scope Cl cl fp) (.Tuple [.Name x px, .Name y py] kx tpos) (gTup X.K 2 (gCons (gName i) (gCons (gName j) gNil))) := by
    exact fun _ _ _ _ _ => pg_tup rfl (pgs_cons (pg_name (by assumption) rfl (by first | exact Or.inl rfl | exact Or.inr rfl)) (pgs_cons (pg_name (by assumption) rfl (by first | exact Or.inl rfl | exact Or.inr rfl)) pgs_nil)))
    (hf : ∀ x, foldedSetIterable iter X.env x = pure x := by intro _; rfl) : wC X W elt (.Tuple [.Name x px, .Name y py] kx tpos) iter [c] scope G C fun d C' => d = lsE fE ((l.filter p).map m) ∧ C' = C :=
  C_lcP2 i j own nd hc l g1 g2 p (fun y => fE (m y)) (hi.mono fun ds C' h => ⟨by rw [h.1]; exact List.map_congr_left fun a _ => hg a, h.2⟩) hz (fun y hy W s H Cl cl fp => wIf_one (ht y hy W s H Cl cl fp)) he ⟨by unfold lsE; rw [List.map_map]; rfl, rfl⟩ ok h1 h2 hgp hf
theorem p_C {elt tg iter : Expr} {ifs : List Expr} {scope : Scope} {z : D} (h : wC X W elt tg iter ifs scope G C fun d C' => d = z ∧ C' = C) : pv X W (.ListComp elt [⟨tg, iter, ifs, 0⟩] scope pos) G C z := wE_C h
end
end EW

/-! Typed data: what the operations give. -/
namespace EW
open PySem PySem.Spec PyProof.Rows L2

/-! ### plain data that == tells apart -/
class PlE {α : Type} (f : α → D) : Prop where
  pl : ∀ a, plD (f a) = true
  eq : ∀ a b, PyData.eqv (pyD (f a)) (pyD (f b)) = true ↔ a = b
/-- never None -/
class NN {α : Type} (f : α → D) : Prop where
  nn : ∀ a, isNon (f a) = false
theorem PlE.dec {α : Type} {f : α → D} [PlE f] [DecidableEq α] (a b : α) : PyData.eqv (pyD (f a)) (pyD (f b)) = decide (a = b) := by
  by_cases h : a = b
  · rw [decide_eq_true h]; exact (PlE.eq a b).mpr h
  · rw [decide_eq_false h]
    cases e : PyData.eqv (pyD (f a)) (pyD (f b)) with
    | false => rfl
    | true => exact absurd ((PlE.eq a b).mp e) h
instance : PlE natD := ⟨fun _ => rfl, fun a b => by
  show ((a : Int) == (b : Int)) = true ↔ _
  rw [beq_iff_eq]; omega⟩
instance : PlE D.int := ⟨fun _ => rfl, fun a b => by
  show ((a : Int) == b) = true ↔ _
  rw [beq_iff_eq]⟩
instance : PlE D.str := ⟨fun _ => rfl, fun a b => by
  show ((a : Str) == b) = true ↔ _
  rw [beq_iff_eq]⟩
instance : PlE D.bl := ⟨fun _ => rfl, fun a b => by
  show ((a : Bool) == b) = true ↔ _
  rw [beq_iff_eq]⟩
instance : PlE unE := ⟨fun _ => rfl, fun a b => by simp [unE, pyD, PyData.eqv]⟩
theorem eqvAll_map {α : Type} {f : α → D} [PlE f] : ∀ a b : List α, PyData.eqvAll (pyDs (a.map f)) (pyDs (b.map f)) = true ↔ a = b
  | [], [] => ⟨fun _ => rfl, fun _ => rfl⟩
  | [], _ :: _ => ⟨(fun h => Bool.noConfusion (h : false = true)), (fun h => by cases h)⟩
  | _ :: _, [] => ⟨(fun h => Bool.noConfusion (h : false = true)), (fun h => by cases h)⟩
  | x :: a, y :: b => by
    show (PyData.eqv (pyD (f x)) (pyD (f y)) && PyData.eqvAll (pyDs (a.map f)) (pyDs (b.map f))) = true ↔ _
    rw [Bool.and_eq_true, PlE.eq x y, eqvAll_map a b, List.cons.injEq]
instance {α : Type} {f : α → D} [h : PlE f] : PlE (lsE f) := ⟨fun l => by
  show plDs _ = true
  exact plDs_map fun x _ => PlE.pl x, fun a b => eqvAll_map a b⟩
instance {α : Type} {f : α → D} [h : PlE f] : PlE (vtE f) := ⟨fun l => by
  show plDs _ = true
  exact plDs_map fun x _ => PlE.pl x, fun a b => eqvAll_map a b⟩
instance {α β : Type} {f : α → D} {g : β → D} [PlE f] [PlE g] : PlE (prE f g) := ⟨fun x => by
  show (plD (f x.1) && (plD (g x.2) && true)) = true
  rw [PlE.pl, PlE.pl]; rfl, fun a b => by
  show (PyData.eqv (pyD (f a.1)) (pyD (f b.1)) && (PyData.eqv (pyD (g a.2)) (pyD (g b.2)) && true)) = true ↔ _
  rw [Bool.and_true, Bool.and_eq_true, PlE.eq, PlE.eq]
  exact ⟨fun h => Prod.ext h.1 h.2, fun h => by subst h; exact ⟨rfl, rfl⟩⟩⟩
instance {α β γ : Type} {f : α → D} {g : β → D} {h : γ → D} [PlE f] [PlE g] [PlE h] : PlE (p3E f g h) := ⟨fun x => by
  show (plD (f x.1) && (plD (g x.2.1) && (plD (h x.2.2) && true))) = true
  rw [PlE.pl, PlE.pl, PlE.pl]; rfl, fun a b => by
  show (PyData.eqv (pyD (f a.1)) (pyD (f b.1)) && (PyData.eqv (pyD (g a.2.1)) (pyD (g b.2.1)) && (PyData.eqv (pyD (h a.2.2)) (pyD (h b.2.2)) && true))) = true ↔ _
  rw [Bool.and_true, Bool.and_eq_true, Bool.and_eq_true, PlE.eq, PlE.eq, PlE.eq]
  exact ⟨fun h => Prod.ext h.1 (Prod.ext h.2.1 h.2.2), fun h => by subst h; exact ⟨rfl, rfl, rfl⟩⟩⟩
instance {α : Type} {f : α → D} [PlE f] [NN f] : PlE (opE f) := ⟨fun x => by
  cases x with
  | none => rfl
  | some x => exact PlE.pl x, fun a b => by
  have key : ∀ x : α, PyData.eqv .none (pyD (f x)) = false ∧ PyData.eqv (pyD (f x)) .none = false := fun x => by
    have h1 := NN.nn (f := f) x
    have h2 := PlE.pl (f := f) x
    revert h1 h2
    cases f x <;> intro h1 h2 <;> first | (cases h1; done) | (exact ⟨rfl, rfl⟩) | (cases h2; done)
  cases a with
  | none =>
    cases b with
    | none => exact ⟨fun _ => rfl, fun _ => rfl⟩
    | some y => exact ⟨(fun h => Bool.noConfusion ((key y).1.symm.trans h)), (fun h => by cases h)⟩
  | some x =>
    cases b with
    | none => exact ⟨(fun h => Bool.noConfusion ((key x).2.symm.trans h)), (fun h => by cases h)⟩
    | some y => exact (PlE.eq x y).trans ⟨fun h => by rw [h], fun h => by cases h; rfl⟩⟩
instance : NN natD := ⟨fun _ => rfl⟩
instance : NN D.int := ⟨fun _ => rfl⟩
instance : NN D.str := ⟨fun _ => rfl⟩
instance : NN D.bl := ⟨fun _ => rfl⟩
instance {α : Type} {f : α → D} : NN (lsE f) := ⟨fun _ => rfl⟩
instance {α : Type} {f : α → D} : NN (vtE f) := ⟨fun _ => rfl⟩
instance {α β : Type} {f : α → D} {g : β → D} : NN (prE f g) := ⟨fun _ => rfl⟩
instance {α β γ : Type} {f : α → D} {g : β → D} {h : γ → D} : NN (p3E f g h) := ⟨fun _ => rfl⟩
mutual
theorem eqv_refl : ∀ d : D, plD d = true → PyData.eqv (pyD d) (pyD d) = true
  | .non, _ => rfl
  | .bl b, _ => by show (b == b) = true; simp
  | .int i, _ => by show (i == i) = true; simp
  | .str s, _ => by show (s == s) = true; simp
  | .lst xs, h => eqvs_refl xs h
  | .tup xs, h => eqvs_refl xs h
  | .scr xs, h => eqvs_refl xs h
theorem eqvs_refl : ∀ ds : List D, plDs ds = true → PyData.eqvAll (pyDs ds) (pyDs ds) = true
  | [], _ => rfl
  | d :: ds, h => by
    have h' : (plD d && plDs ds) = true := h
    rw [Bool.and_eq_true] at h'
    show (PyData.eqv (pyD d) (pyD d) && PyData.eqvAll (pyDs ds) (pyDs ds)) = true
    rw [eqv_refl d h'.1, eqvs_refl ds h'.2]; rfl
end

/-! ### size -/
/-- plain data, of a size that == and repr take -/
structure FitD (d : D) (n dep : Nat) : Prop where
  pl : plD d = true
  fit : Fit (pyD d) n dep
theorem FitD.mono {d : D} {n m a b : Nat} (f : FitD d n a) (h : n ≤ m) (h' : a ≤ b) : FitD d m b := ⟨f.pl, f.fit.mono h h'⟩
def Ok (d : D) : Prop := ∃ n dep, FitD d n dep ∧ n ≤ 1000000 ∧ dep ≤ 60
theorem fd_nat {a : Nat} (h : a < 100000000000) : FitD (natD a) 0 0 := ⟨rfl, fit_int (by omega) (by omega)⟩
theorem fd_int {a : Int} (h1 : -100000000000 < a) (h : a < 100000000000) : FitD (.int a) 0 0 := ⟨rfl, fit_int h1 h⟩
theorem fd_bl {a : Bool} : FitD (.bl a) 0 0 := ⟨rfl, fit_bool a⟩
theorem fd_non : FitD .non 0 0 := ⟨rfl, fit_none⟩
theorem fd_str {x : Str} {n : Nat} (hl : x.length ≤ n) (hc : ∀ c ∈ x.cps.toList, c < 128) : FitD (.str x) n 0 := ⟨rfl, fit_str hl hc⟩
theorem fd_ls {α : Type} {f : α → D} {l : List α} {n dep m : Nat} (h : ∀ x ∈ l, FitD (f x) n dep) (hm : l.length ≤ m) : FitD (lsE f l) (m * (n + 1)) (dep + 1) :=
  ⟨plDs_map fun x hx => (h x hx).pl, by
    show Fit (.list (pyDs _)) _ _
    rw [pyDs_map]; exact fit_list (fits_map (fun x hx => (h x hx).fit) hm)⟩
theorem fd_vt {α : Type} {f : α → D} {l : List α} {n dep m : Nat} (h : ∀ x ∈ l, FitD (f x) n dep) (hm : l.length ≤ m) : FitD (vtE f l) (m * (n + 1)) (dep + 1) :=
  ⟨plDs_map fun x hx => (h x hx).pl, by
    show Fit (.tuple (pyDs _)) _ _
    rw [pyDs_map]; exact fit_tup (fits_map (fun x hx => (h x hx).fit) hm)⟩
theorem fd_sq {α : Type} {f : α → D} {q : Bool × List α} {n dep m : Nat} (h : ∀ x ∈ q.2, FitD (f x) n dep) (hm : q.2.length ≤ m) : FitD (sqE f q) (m * (n + 1)) (dep + 1) := by
  obtain ⟨b, l⟩ := q
  cases b
  · exact fd_ls h hm
  · exact fd_vt h hm
structure FitDs (ds : List D) (n dep : Nat) : Prop where
  pl : plDs ds = true
  fit : FitL (pyDs ds) n dep
theorem fds_nil {dep : Nat} : FitDs [] 0 dep := ⟨rfl, fits_nil⟩
theorem fds_cons {d : D} {ds : List D} {n m a b : Nat} (f : FitD d n a) (g : FitDs ds m b) : FitDs (d :: ds) (n + 1 + m) (max a b) :=
  ⟨by show (plD d && plDs ds) = true
      rw [f.pl, g.pl]; rfl, fits_cons (f.fit.mono (Nat.le_refl _) (by omega)) (g.fit.mono (Nat.le_refl _) (by omega))⟩
theorem fd_lst {ds : List D} {n dep : Nat} (f : FitDs ds n dep) : FitD (.lst ds) n (dep + 1) := ⟨f.pl, fit_list f.fit⟩
theorem fd_tup {ds : List D} {n dep : Nat} (f : FitDs ds n dep) : FitD (.tup ds) n (dep + 1) := ⟨f.pl, fit_tup f.fit⟩
theorem fd_pr {α β : Type} {f : α → D} {g : β → D} {x : α × β} {n m a b : Nat} (h : FitD (f x.1) n a) (h' : FitD (g x.2) m b) : FitD (prE f g x) (n + 1 + (m + 1 + 0)) (max a (max b 0) + 1) := fd_tup (fds_cons h (fds_cons h' fds_nil))
theorem fd_p3 {α β γ : Type} {f : α → D} {g : β → D} {h : γ → D} {x : α × β × γ} {n m o a b c : Nat} (h1 : FitD (f x.1) n a) (h2 : FitD (g x.2.1) m b) (h3 : FitD (h x.2.2) o c) : FitD (p3E f g h x) (n + 1 + (m + 1 + (o + 1 + 0))) (max a (max b (max c 0)) + 1) := fd_tup (fds_cons h1 (fds_cons h2 (fds_cons h3 fds_nil)))
theorem fd_op {α : Type} {f : α → D} {x : Option α} {n a : Nat} (h : ∀ y, x = some y → FitD (f y) n a) : FitD (opE f x) n a := by
  cases x with
  | none => exact fd_non.mono (Nat.zero_le _) (Nat.zero_le _)
  | some y => exact h y rfl

/-! ### plain functions -/
/-- the greatest of some numbers, 0 of none -/
def maxN (l : List Nat) : Nat := l.foldr max 0
def minN : List Nat → Nat
  | [] => 0
  | [x] => x
  | x :: y :: r => min x (minN (y :: r))
theorem le_maxN : ∀ {l : List Nat} {x : Nat}, x ∈ l → x ≤ maxN l
  | y :: r, x, h => by
    show x ≤ max y (maxN r)
    rcases List.mem_cons.mp h with rfl | h
    · exact Nat.le_max_left ..
    · exact Nat.le_trans (le_maxN h) (Nat.le_max_right ..)
theorem maxN_mem : ∀ {l : List Nat}, 0 < l.length → maxN l ∈ l
  | [x], _ => by show max x 0 ∈ [x]; simp
  | x :: y :: r, _ => by
    show max x (maxN (y :: r)) ∈ _
    have ih := maxN_mem (l := y :: r) (Nat.succ_pos _)
    by_cases h : x ≤ maxN (y :: r)
    · rw [Nat.max_eq_right h]; exact List.mem_cons_of_mem _ ih
    · rw [Nat.max_eq_left (by omega)]; exact List.mem_cons_self
theorem minN_le : ∀ {l : List Nat} {x : Nat}, x ∈ l → minN l ≤ x
  | [y], x, h => by rw [List.mem_singleton.mp h]; exact Nat.le_refl _
  | y :: z :: r, x, h => by
    show min y (minN (z :: r)) ≤ x
    rcases List.mem_cons.mp h with rfl | h
    · exact Nat.min_le_left ..
    · exact Nat.le_trans (Nat.min_le_right ..) (minN_le h)
theorem minN_mem : ∀ {l : List Nat}, 0 < l.length → minN l ∈ l
  | [x], _ => by simp [minN]
  | x :: y :: r, _ => by
    show min x (minN (y :: r)) ∈ _
    have ih := minN_mem (l := y :: r) (Nat.succ_pos _)
    by_cases h : x ≤ minN (y :: r)
    · rw [Nat.min_eq_left h]; exact List.mem_cons_self
    · rw [Nat.min_eq_right (by omega)]; exact List.mem_cons_of_mem _ ih
def sortN (l : List Nat) : List Nat := l.mergeSort fun a b => decide (a ≤ b)
theorem sortN_perm (l : List Nat) : (sortN l).Perm l := List.mergeSort_perm l _
theorem sortN_sorted (l : List Nat) : (sortN l).Pairwise (· ≤ ·) := by
  have := List.pairwise_mergeSort (le := fun a b : Nat => decide (a ≤ b)) (fun a b c h1 h2 => by simp at *; omega) (fun a b => by simp; omega) l
  exact this.imp fun h => of_decide_eq_true h
theorem sorted_eq {l m : List Nat} (h : l.Perm m) (h1 : l.Pairwise (· ≤ ·)) (h2 : m.Pairwise (· ≤ ·)) : l = m :=
  h.eq_of_pairwise (fun a b _ _ x y => Nat.le_antisymm x y) h1 h2

section
variable {X : Cx} {W : Wd} {G : List (Option D)} {C : Cells} {n m : Nat} {x y : D} {k : KD}
theorem room_u {n : Nat} {A : Around} (hr : Room n A) : A.units + 100 < cLine := by have := hr.un; omega
/-! ### numbers -/
theorem natD_add (a b : Nat) : natD (a + b) = .int ((a : Int) + (b : Int)) := by unfold natD; rw [Int.natCast_add]
theorem v_addN {a b : Nat} : ∀ k : KD, k (natD (a + b)) C → oD X W (binaryOp .Add) (natD a) (natD b) G C k := fun k q => o_add (by rw [← natD_add]; exact q)
theorem v_subN {a b : Nat} (h : b ≤ a) : ∀ k : KD, k (natD (a - b)) C → oD X W (binaryOp .Sub) (natD a) (natD b) G C k := fun k q => o_sub (by
  have e : natD (a - b) = .int ((a : Int) - (b : Int)) := by unfold natD; congr 1; omega
  rw [← e]; exact q)
theorem v_mulN {a b : Nat} (h : a ≤ 1000000 ∨ b ≤ 1000000) : ∀ k : KD, k (natD (a * b)) C → oD X W (binaryOp .Mult) (natD a) (natD b) G C k := fun k q => by
  have e : natD (a * b) = .int ((a : Int) * (b : Int)) := by unfold natD; rw [Int.natCast_mul]
  rw [e] at q
  rcases h with h | h
  · exact o_mul (.inl ⟨by omega, by omega⟩) q
  · exact o_mul (.inr ⟨by omega, by omega⟩) q
theorem v_divN {a b : Nat} (h : 0 < b) (h2 : b ≤ 1000000) : ∀ k : KD, k (natD (a / b)) C → oD X W (binaryOp .FloorDiv) (natD a) (natD b) G C k := fun k q => o_fdiv (by omega) (by
  have e : natD (a / b) = .int ((a : Int) / (b : Int)) := by unfold natD; rw [Int.natCast_ediv]
  rw [← e]; exact q)
theorem v_modN {a b : Nat} (h : 0 < b) : ∀ k : KD, k (natD (a % b)) C → oD X W (binaryOp .Mod) (natD a) (natD b) G C k := fun k q => o_mod (by omega) (by
  have e : natD (a % b) = .int ((a : Int) % (b : Int)) := by unfold natD; rw [Int.natCast_emod]
  rw [← e]; exact q)
theorem v_addI {a b : Int} : ∀ k : KD, k (.int (a + b)) C → oD X W (binaryOp .Add) (.int a) (.int b) G C k := fun k q => o_add q
theorem v_subI {a b : Int} : ∀ k : KD, k (.int (a - b)) C → oD X W (binaryOp .Sub) (.int a) (.int b) G C k := fun k q => o_sub q
theorem v_subNI {a b : Nat} : ∀ k : KD, k (.int ((a : Int) - (b : Int))) C → oD X W (binaryOp .Sub) (natD a) (natD b) G C k := fun k q => o_sub q
theorem dec_nat {a b : Nat} : decide ((a : Int) < (b : Int)) = decide (a < b) ∧ decide ((a : Int) ≤ (b : Int)) = decide (a ≤ b) ∧ decide ((a : Int) = (b : Int)) = decide (a = b) :=
  ⟨decide_eq_decide.mpr (by omega), decide_eq_decide.mpr (by omega), decide_eq_decide.mpr (by omega)⟩
theorem v_ltN {a b : Nat} : ∀ k : KD, k (.bl (decide (a < b))) C → oD X W (compareOp .Lt) (natD a) (natD b) G C k := fun k q => o_lt (by rw [dec_nat.1]; exact q)
theorem v_leN {a b : Nat} : ∀ k : KD, k (.bl (decide (a ≤ b))) C → oD X W (compareOp .LtE) (natD a) (natD b) G C k := fun k q => o_le (by rw [dec_nat.2.1]; exact q)
theorem v_gtN {a b : Nat} : ∀ k : KD, k (.bl (decide (b < a))) C → oD X W (compareOp .Gt) (natD a) (natD b) G C k := fun k q => o_gt (by rw [dec_nat.1]; exact q)
theorem v_geN {a b : Nat} : ∀ k : KD, k (.bl (decide (b ≤ a))) C → oD X W (compareOp .GtE) (natD a) (natD b) G C k := fun k q => o_ge (by rw [dec_nat.2.1]; exact q)
theorem v_eqN {a b : Nat} : ∀ k : KD, k (.bl (decide (a = b))) C → oD X W (compareOp .Eq) (natD a) (natD b) G C k := fun k q => o_eqI (by rw [dec_nat.2.2]; exact q)
theorem v_neN {a b : Nat} : ∀ k : KD, k (.bl (!decide (a = b))) C → oD X W (compareOp .NotEq) (natD a) (natD b) G C k := fun k q => o_neI (by rw [dec_nat.2.2]; exact q)
theorem v_ltI {a b : Int} : ∀ k : KD, k (.bl (decide (a < b))) C → oD X W (compareOp .Lt) (.int a) (.int b) G C k := fun k q => o_lt q
theorem v_leI {a b : Int} : ∀ k : KD, k (.bl (decide (a ≤ b))) C → oD X W (compareOp .LtE) (.int a) (.int b) G C k := fun k q => o_le q
theorem v_gtI {a b : Int} : ∀ k : KD, k (.bl (decide (b < a))) C → oD X W (compareOp .Gt) (.int a) (.int b) G C k := fun k q => o_gt q
theorem v_geI {a b : Int} : ∀ k : KD, k (.bl (decide (b ≤ a))) C → oD X W (compareOp .GtE) (.int a) (.int b) G C k := fun k q => o_ge q
theorem v_eqI {a b : Int} : ∀ k : KD, k (.bl (decide (a = b))) C → oD X W (compareOp .Eq) (.int a) (.int b) G C k := fun k q => o_eqI q
theorem v_neI {a b : Int} : ∀ k : KD, k (.bl (!decide (a = b))) C → oD X W (compareOp .NotEq) (.int a) (.int b) G C k := fun k q => o_neI q
theorem v_eqS {a b : Str} : ∀ k : KD, k (.bl (decide (a = b))) C → oD X W (compareOp .Eq) (.str a) (.str b) G C k := fun k q => o_eqS q
theorem v_neS {a b : Str} : ∀ k : KD, k (.bl (!decide (a = b))) C → oD X W (compareOp .NotEq) (.str a) (.str b) G C k := fun k q => o_neS q
theorem v_addS {a b : Str} (h : a.length + b.length ≤ 100000) : ∀ k : KD, k (.str (a ++ b)) C → oD X W (binaryOp .Add) (.str a) (.str b) G C k := fun k q => o_addS h q
/-! ### == of data -/
theorem v_eqP {α : Type} {f : α → D} [PlE f] [DecidableEq α] {a b : α} {nn : Nat} (hr : Room nn X.A) (h1 : Ok (f a)) (h2 : Ok (f b)) : ∀ k : KD, k (.bl (decide (a = b))) C → oD X W (compareOp .Eq) (f a) (f b) G C k := fun k q => by
  obtain ⟨n1, d1, f1, _, _⟩ := h1
  obtain ⟨n2, d2, f2, _, _⟩ := h2
  exact o_eqP (by have := room_u hr; omega) f1.pl f2.pl f1.fit f2.fit (by omega) (by omega) (by rw [PlE.dec]; exact q)
theorem v_neP {α : Type} {f : α → D} [PlE f] [DecidableEq α] {a b : α} {nn : Nat} (hr : Room nn X.A) (h1 : Ok (f a)) (h2 : Ok (f b)) : ∀ k : KD, k (.bl (!decide (a = b))) C → oD X W (compareOp .NotEq) (f a) (f b) G C k := fun k q => by
  obtain ⟨n1, d1, f1, _, _⟩ := h1
  obtain ⟨n2, d2, f2, _, _⟩ := h2
  exact o_neP (by have := room_u hr; omega) f1.pl f2.pl f1.fit f2.fit (by omega) (by omega) (by rw [PlE.dec]; exact q)
theorem isNon_op {α : Type} {f : α → D} [NN f] (a : Option α) : isNon (opE f a) = a.isNone := by
  cases a with
  | none => rfl
  | some x => exact NN.nn x
theorem v_isO {α : Type} {f : α → D} [NN f] {a : Option α} : ∀ k : KD, k (.bl a.isNone) C → oD X W (compareOp .Is) (opE f a) .non G C k := fun k q => o_isN (by rw [isNon_op]; exact q)
theorem v_notO {α : Type} {f : α → D} [NN f] {a : Option α} : ∀ k : KD, k (.bl (!a.isNone)) C → oD X W (compareOp .IsNot) (opE f a) .non G C k := fun k q => o_notN (by rw [isNon_op]; exact q)
/-! ### lists -/
theorem v_ix {α : Type} [Inhabited α] {f : α → D} {l : List α} {i : Nat} (h : i < l.length) : ∀ k : KD, k (f (gt l i)) C → xD X W (lsE f l) (natD i) G C k := fun k q =>
  xD_lst (atI_nat (by rw [List.getElem?_map, gt_some h]; rfl)) q
theorem v_ixV {α : Type} [Inhabited α] {f : α → D} {l : List α} {i : Nat} (h : i < l.length) : ∀ k : KD, k (f (gt l i)) C → xD X W (vtE f l) (natD i) G C k := fun k q =>
  xD_tup (atI_nat (by rw [List.getElem?_map, gt_some h]; rfl)) q
theorem v_ixQ {α : Type} [Inhabited α] {f : α → D} {q : Bool × List α} {i : Nat} (h : i < q.2.length) : ∀ k : KD, k (f (gt q.2 i)) C → xD X W (sqE f q) (natD i) G C k := fun k w =>
  xD_q (sqF q).seq (atI_nat (by rw [List.getElem?_map, gt_some h]; rfl)) w
theorem v_ixC {α : Type} [Inhabited α] {f : α → D} (j : Nat) {p : Addr} {l : List α} {i : Nat} (hc : C[j]? = some (p, .lst (l.map f))) (h : i < l.length) : ∀ k : KD, k (f (gt l i)) C → xD X W (.ref p) (natD i) G C k := fun k q =>
  xD_cell j hc (atI_nat (by rw [List.getElem?_map, gt_some h]; rfl)) q
theorem v_ixP1 {α β : Type} {f : α → D} {g : β → D} {q : α × β} : ∀ k : KD, k (f q.1) C → xD X W (prE f g q) (natD 0) G C k := fun k w => xD_tup (i := 0) rfl w
theorem v_ixP2 {α β : Type} {f : α → D} {g : β → D} {q : α × β} : ∀ k : KD, k (g q.2) C → xD X W (prE f g q) (natD 1) G C k := fun k w => xD_tup (i := 1) rfl w
theorem v_ixT1 {α β γ : Type} {f : α → D} {g : β → D} {h : γ → D} {q : α × β × γ} : ∀ k : KD, k (f q.1) C → xD X W (p3E f g h q) (natD 0) G C k := fun k w => xD_tup (i := 0) rfl w
theorem v_ixT2 {α β γ : Type} {f : α → D} {g : β → D} {h : γ → D} {q : α × β × γ} : ∀ k : KD, k (g q.2.1) C → xD X W (p3E f g h q) (natD 1) G C k := fun k w => xD_tup (i := 1) rfl w
theorem v_ixT3 {α β γ : Type} {f : α → D} {g : β → D} {h : γ → D} {q : α × β × γ} : ∀ k : KD, k (h q.2.2) C → xD X W (p3E f g h q) (natD 2) G C k := fun k w => xD_tup (i := 2) rfl w
/-- the item before the end: x[-j] -/
theorem v_ixE {α : Type} [Inhabited α] {f : α → D} {l : List α} {i : Int} (j : Nat) (hi : i = -((j : Nat) : Int)) (h0 : 0 < j) (h : j ≤ l.length) : ∀ k : KD, k (f (gt l (l.length - j))) C → xD X W (lsE f l) (.int i) G C k := fun k q => by
  refine xD_lst ?_ q
  subst hi
  unfold atI ixN
  rw [List.length_map, if_neg (by omega), if_pos (by omega)]
  show (List.map f l)[(-(j : Int) + (l.length : Int)).toNat]? = _
  have h2 : (-(j : Int) + (l.length : Int)).toNat = l.length - j := by omega
  rw [h2, List.getElem?_map, gt_some (l := l) (i := l.length - j) (by omega)]; rfl
theorem v_cat {α : Type} {f : α → D} {l m : List α} (h : l.length + m.length ≤ 100000) : ∀ k : KD, k (lsE f (l ++ m)) C → oD X W (binaryOp .Add) (lsE f l) (lsE f m) G C k := fun k q =>
  o_cat (by rw [List.length_map, List.length_map]; exact h) (by rw [← List.map_append]; exact q)
theorem v_catC {α : Type} {f : α → D} (i : Nat) {p : Addr} {l m : List α} (hi : C[i]? = some (p, Cl.lst (m.map f))) (h : l.length + m.length ≤ 100000) : ∀ k : KD, k (lsE f (l ++ m)) C → oD X W (binaryOp .Add) (lsE f l) (.ref p) G C k := fun k q =>
  o_catC i hi (by rw [List.length_map, List.length_map]; exact h) (by rw [← List.map_append]; exact q)
theorem rep_list {α : Type} {f : α → D} {l : List α} (n : Nat) : (List.replicate n (l.map f)).flatten = ((List.replicate n l).flatten).map f := by
  rw [List.map_flatten, List.map_replicate]
theorem reps_rep {K : PySem.W.Frag} {P : Hp} {vs : List V} {ds : List D} : ∀ n : Nat, Reps K P vs ds → Reps K P (List.replicate n vs).flatten (List.replicate n ds).flatten
  | 0, _ => .nil
  | n + 1, h => by
    rw [List.replicate_succ, List.replicate_succ, List.flatten_cons, List.flatten_cons]
    exact h.app (reps_rep n h)
theorem o_repL {ds : List D} {n : Nat} (h1 : n ≤ 100000) (h : ds.length * n ≤ 100000) (q : k (.lst (List.replicate n ds).flatten) C) : oD X W (binaryOp .Mult) (.lst ds) (natD n) G C k := oD_of op_rep fun σ P H Q v u g r1 r2 z => by
  cases r2
  cases r1 with
  | @lst a1 vs1 _ h1' s1 =>
    refine ⟨_, _, vs1, rfl, rfl, le_lst g.le h1', by omega, by omega, ?_, fun p np => ?_⟩
    · rw [s1.len, Int.toNat_natCast]; exact small_le h
    · have nn := g.new (o := .lst (List.replicate ((n : Int)).toNat vs1).flatten) np
      rw [Int.toNat_natCast] at nn ⊢
      refine z _ C (.ref p) _ _ nn (.lst upd_same ?_) q
      exact reps_rep n (s1.ex' nn.ex)
theorem v_rep {α : Type} {f : α → D} {l : List α} {n : Nat} (h1 : n ≤ 100000) (h : l.length * n ≤ 100000) : ∀ k : KD, k (lsE f (List.replicate n l).flatten) C → oD X W (binaryOp .Mult) (lsE f l) (natD n) G C k := fun k q =>
  o_repL h1 (by rw [List.length_map]; exact h) (by rw [rep_list]; exact q)
/-! in -/
theorem mem_nat {a : Nat} {l : List Nat} : decide ((a : Int) ∈ l.map fun h => ((h : Nat) : Int)) = decide (a ∈ l) := decide_eq_decide.mpr (by
  rw [List.mem_map]
  exact ⟨fun ⟨x, h, e⟩ => by rw [show a = x by omega]; exact h, fun h => ⟨a, h, rfl⟩⟩)
theorem v_inN {a : Nat} {d : D} {l : List Nat} (h : SeqIn C d (l.map natD)) : ∀ k : KD, k (.bl (decide (a ∈ l))) C → oD X W (compareOp .In) (natD a) d G C k := fun k q =>
  o_inInts (by rw [← nats_cast]; exact h) (by rw [mem_nat]; exact q)
theorem v_niN {a : Nat} {d : D} {l : List Nat} (h : SeqIn C d (l.map natD)) : ∀ k : KD, k (.bl (!decide (a ∈ l))) C → oD X W (compareOp .NotIn) (natD a) d G C k := fun k q =>
  o_niInts (by rw [← nats_cast]; exact h) (by rw [mem_nat]; exact q)
theorem v_inS {a : Str} {d : D} {l : List Str} (h : SeqIn C d (l.map D.str)) : ∀ k : KD, k (.bl (decide (a ∈ l))) C → oD X W (compareOp .In) (.str a) d G C k := fun k q => o_inStrs h q
theorem v_niS {a : Str} {d : D} {l : List Str} (h : SeqIn C d (l.map D.str)) : ∀ k : KD, k (.bl (!decide (a ∈ l))) C → oD X W (compareOp .NotIn) (.str a) d G C k := fun k q => o_niStrs h q
theorem s_ls {α : Type} {f : α → D} {l : List α} : SeqIn C (lsE f l) (l.map f) := .inl rfl
theorem s_vt {α : Type} {f : α → D} {l : List α} : SeqIn C (vtE f l) (l.map f) := .inr (.inl rfl)
theorem s_tp {α : Type} {f : α → D} {l : List α} {ds : List D} (h : ds = l.map f) : SeqIn C (.tup ds) (l.map f) := .inr (.inl (by rw [h]))
theorem s_sq {α : Type} {f : α → D} {q : Bool × List α} : SeqIn C (sqE f q) (q.2.map f) := (sqF q).seq
theorem s_pr {α : Type} {f : α → D} {q : α × α} : SeqIn C (prE f f q) ([q.1, q.2].map f) := .inr (.inl rfl)
theorem s_ce {α : Type} {f : α → D} {l : List α} (j : Nat) {p : Addr} (hc : C[j]? = some (p, .lst (l.map f))) : SeqIn C (.ref p) (l.map f) := .inr (.inr ⟨p, j, rfl, hc⟩)
/-! slices -/
theorem cut_both {α : Type} (l : List α) (g : α → D) (a b : Nat) : cutD (l.map g) (some (a : Int)) (some (b : Int)) = ((l.take b).drop a).map g := by
  unfold cutD
  rw [List.length_map, HT.sIx_nat, HT.sIx_nat, ← List.map_drop, ← List.map_take]
  congr 1
  apply List.ext_getElem?
  intro i
  rw [List.getElem?_take, List.getElem?_drop, List.getElem?_drop, List.getElem?_take]
  by_cases h : i < min b l.length - min a l.length
  · rw [if_pos h, if_pos (by omega)]
    congr 1; omega
  · rw [if_neg h]
    by_cases h2 : a + i < b
    · rw [if_pos h2, List.getElem?_eq_none (by omega)]
    · rw [if_neg h2]
/-- xs[:-j] -/
theorem cut_last {α : Type} (l : List α) (g : α → D) (j : Nat) (h0 : 0 < j) : cutD (l.map g) none (some (-(j : Int))) = (l.take (l.length - j)).map g := by
  unfold cutD
  rw [List.length_map]
  show ((l.map g).drop 0).take ((if -(j : Int) < 0 then (-(j : Int) + (l.length : Int)).toNat else _) - 0) = _
  rw [if_pos (by omega), List.drop_zero, ← List.map_take]
  congr 2; omega
theorem v_slBoth {α : Type} {f : α → D} {l : List α} {i j : Nat} : ∀ k : KD, k (lsE f ((l.take j).drop i)) C → sD X W (lsE f l) (some (i : Int)) (some (j : Int)) G C k := fun k q => sD_lst (by rw [cut_both]; exact q)
theorem v_slLast {α : Type} {f : α → D} {l : List α} {i : Int} (j : Nat) (hi : i = -((j : Nat) : Int)) (h0 : 0 < j) : ∀ k : KD, k (lsE f (l.take (l.length - j))) C → sD X W (lsE f l) none (some i) G C k := fun k q => by
  subst hi
  exact sD_lst (by rw [cut_last l f j h0]; exact q)
theorem v_slTo {α : Type} {f : α → D} {l : List α} {i : Nat} : ∀ k : KD, k (lsE f (l.take i)) C → sD X W (lsE f l) none (some (i : Int)) G C k := fun k q => sD_lst (by rw [cutD_to]; exact q)
theorem v_slFrom {α : Type} {f : α → D} {l : List α} {i : Nat} : ∀ k : KD, k (lsE f (l.drop i)) C → sD X W (lsE f l) (some (i : Int)) none G C k := fun k q => sD_lst (by rw [cutD_from]; exact q)
/-! ### built-ins -/
theorem v_lenL {α : Type} {f : α → D} {l : List α} : ∀ k : KD, k (natD l.length) C → cD X W (.builtin "len") [lsE f l] G C k := fun k q => c_lenL (by rw [List.length_map]; exact q)
theorem v_lenV {α : Type} {f : α → D} {l : List α} : ∀ k : KD, k (natD l.length) C → cD X W (.builtin "len") [vtE f l] G C k := fun k q => c_lenU (by rw [List.length_map]; exact q)
theorem v_lenQ {α : Type} {f : α → D} {x : Bool × List α} : ∀ k : KD, k (natD x.2.length) C → cD X W (.builtin "len") [sqE f x] G C k := fun k q => c_lenQ (sqF x).seq (by rw [List.length_map]; exact q)
theorem v_lenC {α : Type} {f : α → D} {l : List α} (j : Nat) {p : Addr} (hc : C[j]? = some (p, .lst (l.map f))) : ∀ k : KD, k (natD l.length) C → cD X W (.builtin "len") [.ref p] G C k := fun k q => c_lenC j hc (by rw [List.length_map]; exact q)
theorem v_lenS {s : Str} (h : s.length ≤ 100000) : ∀ k : KD, k (natD s.length) C → cD X W (.builtin "len") [.str s] G C k := fun k q => c_lenS h q
theorem v_list {α : Type} {f : α → D} {d : D} {l : List α} (h : SeqIn C d (l.map f)) : ∀ k : KD, k (lsE f l) C → cD X W (.type "list") [d] G C k := fun k q => t_listQ h q
theorem t_tupL {ds : List D} (q : k (.tup ds) C) : cD X W (.type "tuple") [.lst ds] G C k := cD_of call_tuple_of fun σ P H Q vs g rr z => by
  obtain ⟨v, rfl, r⟩ := reps1 rr
  cases r with
  | @lst a vs _ ha rs =>
    refine ⟨a, vs, rfl, .inl ⟨.inl (.inl (le_lst g.le ha)), fun l hl => ?_⟩⟩
    have n := g.new (o := .tup vs) hl
    exact z _ C (.ref l) _ _ n (.tup upd_same (rs.ex' n.ex)) q
theorem v_tuple {α : Type} {f : α → D} {l : List α} : ∀ k : KD, k (vtE f l) C → cD X W (.type "tuple") [lsE f l] G C k := fun k q => t_tupL q
theorem bl_id {bs : List Bool} : bs.map D.bl = bs.map D.bl := rfl
theorem v_all {bs : List Bool} (hc : X.calm = true) : ∀ k : KD, k (.bl (bs.all id)) C → cD X W (.builtin "all") [lsE D.bl bs] G C k := fun k q => c_all hc q
theorem v_any {bs : List Bool} (hc : X.calm = true) : ∀ k : KD, k (.bl (bs.any id)) C → cD X W (.builtin "any") [lsE D.bl bs] G C k := fun k q => c_any hc q
theorem v_sum {ns : List Nat} (hc : X.calm = true) : ∀ k : KD, k (natD ns.sum) C → cD X W (.builtin "sum") [lsE natD ns] G C k := fun k q => c_sumN hc q
theorem v_max {ns : List Nat} (hc : X.calm = true) (h : 0 < ns.length) : ∀ k : KD, k (natD (maxN ns)) C → cD X W (.builtin "max") [lsE natD ns] G C k := fun k q => c_maxN h hc fun m h1 h2 => by
  rw [Nat.le_antisymm (le_maxN h1) (h2 _ (maxN_mem h))]; exact q
theorem v_min {ns : List Nat} (hc : X.calm = true) (h : 0 < ns.length) : ∀ k : KD, k (natD (minN ns)) C → cD X W (.builtin "min") [lsE natD ns] G C k := fun k q => c_minN h hc fun m h1 h2 => by
  rw [Nat.le_antisymm (h2 _ (minN_mem h)) (minN_le h1)]; exact q
theorem v_max2 {a b : Nat} (hc : X.calm = true) : ∀ k : KD, k (natD (max a b)) C → cD X W (.builtin "max") [natD a, natD b] G C k := fun k q => c_max2 hc (by
  have e : natD (max a b) = .int (max (a : Int) (b : Int)) := by unfold natD; congr 1; omega
  rw [← e]; exact q)
theorem v_min2 {a b : Nat} (hc : X.calm = true) : ∀ k : KD, k (natD (min a b)) C → cD X W (.builtin "min") [natD a, natD b] G C k := fun k q => c_min2 hc (by
  have e : natD (min a b) = .int (min (a : Int) (b : Int)) := by unfold natD; congr 1; omega
  rw [← e]; exact q)
theorem v_sort {d : D} {ns : List Nat} (hd : SeqIn C d (ns.map natD)) (hL : ∀ xs, d ≠ .tup xs) (hl : ns.length < 64) : ∀ k : KD, k (lsE natD (sortN ns)) C → cD X W (.builtin "sorted") [d] G C k := fun k q =>
  c_sortN hd hL hl fun ns' hp hs => by rw [sorted_eq (hp.trans (sortN_perm ns).symm) hs (sortN_sorted ns)]; exact q
end
end EW

/-! Typed data: objects that change, calls of methods. -/
namespace EW
open PySem PySem.Spec PyProof.Rows L2

/-! ### cells by their places -/
theorem perm_pick {C R Co : Cells} {x : Addr × Cl} {i : Nat} (h : C[i]? = some x) (hp : (C.eraseIdx i).Perm (R ++ Co)) : C.Perm ((x :: R) ++ Co) := by
  have il := (List.getElem?_eq_some_iff.mp h).1
  have e := (List.getElem?_eq_some_iff.mp h).2
  have spl : C = C.take i ++ x :: C.drop (i + 1) := by
    conv => lhs; rw [← List.take_append_drop i C, List.drop_eq_getElem_cons il, e]
  rw [List.eraseIdx_eq_take_drop_succ] at hp
  rw [spl]
  exact List.perm_middle.trans (hp.cons x)
theorem perm_done {Co : Cells} : Co.Perm ([] ++ Co) := List.Perm.refl _
theorem sub_pick {C R : Cells} {x : Addr × Cl} {i : Nat} (h : C[i]? = some x) (hs : Sub R (C.eraseIdx i)) : Sub (x :: R) C := by
  obtain ⟨Z, hz⟩ := hs
  exact ⟨Z, perm_pick h hz⟩
theorem sub_nil {C : Cells} : Sub [] C := ⟨C, List.Perm.refl _⟩
theorem sub_own {Z C : Cells} : Sub C (Z ++ C) := Sub.app'
theorem io_own {io : List Addr} {R : Cells} (i : Nat) (Z : Cells) (h : io = R.map (·.1)) : ∀ a ∈ io, ∃ j c, j ≠ i ∧ (Z ++ R)[j]? = some (a, c) ∨ Z.length ≠ i + 1 := by
  intro a ha
  by_cases hz : Z.length = i + 1
  · rw [h] at ha
    obtain ⟨q, hq, rfl⟩ := List.mem_map.mp ha
    obtain ⟨k, hk⟩ := List.mem_iff_getElem?.mp hq
    exact ⟨Z.length + k, q.2, .inl ⟨by omega, by rw [List.getElem?_append_right (by omega)]; rw [show Z.length + k - Z.length = k by omega]; exact hk⟩⟩
  · exact ⟨0, .box 0, .inr hz⟩

section
variable {X : Cx} {W : Wd} {G : List (Option D)} {C : Cells} {E : DE} {e a b o : Expr} {es : List Expr} {pos p1 apos : Pos} {x y z : D} {k : KD} {n : Nat} {sts : List Stmt}
theorem pv.as {α : Type} {f : α → D} {u v : α} (q : u = v) (h : pv X W e G C (f v)) : pv X W e G C (f u) := by rw [q]; exact h
/-- a list that does not change any more is known -/
theorem wSs_frz (i j : Nat) {p : Addr} {ds : List D} (hi : G[i]? = some (some (.ref p))) (hj : C[j]? = some (p, Cl.lst ds)) (hio : ∀ a ∈ W.io, ∃ j' c, j' ≠ j ∧ C[j']? = some (a, c)) (h : wSs X W sts (G.set i (some (.lst ds))) (C.eraseIdx j) E) : wSs X W sts G C E := fun σ P H T g f => by
  obtain ⟨v, hv, rv⟩ := g.sl i _ hi
  cases rv
  have il := (List.getElem?_eq_some_iff.mp hj).1
  have spl : C = C.take j ++ (p, Cl.lst ds) :: C.drop (j + 1) := by
    have h2 := (List.getElem?_eq_some_iff.mp hj).2
    conv => lhs; rw [← List.take_append_drop j C, List.drop_eq_getElem_cons il, h2]
  have erase : C.eraseIdx j = C.take j ++ C.drop (j + 1) := List.eraseIdx_eq_take_drop_succ _ _
  have nd := g.nd
  have h0 : W.H0 p = none := by
    rcases (g.ce _ (List.mem_of_getElem? hj)).2.1 with h | h
    · exact h
    · obtain ⟨j', c, hj', hjc⟩ := hio _ h
      have e1 : (C.map (·.1))[j]? = some p := by rw [List.getElem?_map, hj]; rfl
      have e2 : (C.map (·.1))[j']? = some p := by rw [List.getElem?_map, hjc]; rfl
      exact absurd ((List.getElem?_inj (by rw [List.length_map]; exact il) nd).mp (e1.trans e2.symm)).symm hj'
  have g' := g
  rw [spl] at g'
  obtain ⟨gd, hc, pn, o, ho, vs, rfl, rs⟩ := g'.drop rfl
  have n3 := gd.know pn h0 hc ho
  rw [← erase] at n3
  have g4 := n3.good.slot (i := i) (v := .ref p) (d := .lst ds) (.lst upd_same (rs.ex' n3.ex))
  have hσ : σ.set i (some (.ref p)) = σ := by
    apply List.ext_getElem?
    intro m
    by_cases hm : i = m
    · subst hm
      rw [List.getElem?_set_self (List.getElem?_eq_some_iff.mp hv).1, hv]
    · rw [List.getElem?_set_ne hm]
  rw [hσ] at g4
  exact h σ _ H T g4 (f.mono n3.ex)
theorem io_at {io : List Addr} {R Z : Cells} {i : Nat} (hZ : Z.length = i + 1) (h : io = R.map (·.1)) : ∀ a ∈ io, ∃ j c, j ≠ i ∧ (Z ++ R)[j]? = some (a, c) := fun a ha => by
  obtain ⟨j, c, h | h⟩ := io_own i Z h a ha
  · exact ⟨j, c, h⟩
  · exact absurd hZ h
theorem wE_rot (h : wE X W e G C fun d C' => ∃ C2, C'.Perm C2 ∧ k d C2) : wE X W e G C k := fun σ P H Q g z => h σ P H Q g fun d C' v P' H' n r q => by
  obtain ⟨C2, hp, q⟩ := q
  exact z d C2 v P' H' (n.perm hp) r q
/-- a display that will change -/
theorem wE_lstF {ds : List D} (h : pa X W es G C ds) (q : ∀ p, k (.ref p) ((p, .lst ds) :: C)) (hl : ds.length ≤ 100000 := by exact Nat.le_of_ble_eq_true rfl) : wE X W (.List es pos) G C k :=
  wE_rot (wE_lstC (h.w ⟨hl, fun p => ⟨_, List.perm_append_comm, q p⟩⟩))
theorem wE_dctF (q : ∀ p, k (.ref p) ((p, .dct [] []) :: C)) : wE X W (.Dict [] [] pos) G C k :=
  wE_rot (wE_dctC fun p => ⟨_, List.perm_append_comm, q p⟩)
theorem wE_listF {d : D} {xs : List D} {es : List Expr} (hm : X.mg "list" = none) (ha : pa X W (e :: es) G C [d]) (hs : SeqIn C d xs) (q : ∀ p, k (.ref p) ((p, .lst xs) :: C)) (hv : bootBuiltins "list" = some (.type "list") := by decide +kernel) (hg : Gl X "list" := by rfl)
    (he : starEach (e :: es) X.env = (false, eval e X.env) :: starEach es X.env := by rfl) (hp : (backTo pos (starEach es X.env)).any (·.1) = false := by rfl) : wE X W (.Call (.Name "list" p1) (e :: es) [] pos) G C k :=
  wE_rot (wE_callT "list" hv hm (ha.w (t_listC hs fun p => ⟨_, List.perm_append_comm, q p⟩)) hg (by decide) (by decide) he hp)
/-! methods of lists that change -/
theorem v_append {α : Type} {f : α → D} (j : Nat) {p : Addr} {l : List α} {x : α} (hc : C[j]? = some (p, .lst (l.map f))) (hz : l.length < 100000) : ∀ k : KD, k .non (C.set j (p, .lst ((l ++ [x]).map f))) → mD X W "list.append" (.ref p) [f x] G C k := fun k q =>
  m_append j hc (by rw [List.length_map]; exact hz) (by rw [List.map_append] at q; exact q)
theorem m_extend (i : Nat) {p : Addr} {ds es : List D} (hc : C[i]? = some (p, .lst ds)) (hz : ds.length + es.length ≤ 100000) (q : k .non (C.set i (p, .lst (ds ++ es)))) : mD X W "list.extend" (.ref p) [.lst es] G C k := mD_of (fun pins s σ H x vs v us Q I rx rv h => mt_extend pins s σ H x vs v us Q I rx rv h) fun σ P H Q v vs g r1 rs z => by
  obtain ⟨u, rfl, r2⟩ := reps1 rs
  cases r1
  cases r2 with
  | @lst b zs _ hb rb =>
    obtain ⟨o, ho, ws, rfl, rs'⟩ := g.cell hc
    exact ⟨p, b, ws, zs, rfl, rfl, ho, le_lst g.le hb, by rw [rs'.len, rb.len]; exact small_le hz, z _ _ .non P _ ⟨Ex.rfl' P, g.write (c' := .lst (ds ++ es)) hc ⟨_, rfl, rs'.app rb⟩⟩ .non q⟩
theorem v_extend {α : Type} {f : α → D} (j : Nat) {p : Addr} {l m : List α} (hc : C[j]? = some (p, .lst (l.map f))) (hz : l.length + m.length ≤ 100000) : ∀ k : KD, k .non (C.set j (p, .lst ((l ++ m).map f))) → mD X W "list.extend" (.ref p) [lsE f m] G C k := fun k q =>
  m_extend j hc (by rw [List.length_map, List.length_map]; exact hz) (by rw [List.map_append] at q; exact q)
theorem v_reverse {α : Type} {f : α → D} {l : List α} (j : Nat) {p : Addr} (hc : C[j]? = some (p, .lst (l.map f))) : ∀ k : KD, k .non (C.set j (p, .lst (l.reverse.map f))) → mD X W "list.reverse" (.ref p) [] G C k := fun k q =>
  m_reverse j hc (by rw [List.map_reverse] at q; exact q)
theorem map_eraseIdx' {α : Type} {f : α → D} : ∀ (l : List α) (i : Nat), (l.eraseIdx i).map f = (l.map f).eraseIdx i
  | [], _ => rfl
  | x :: l, 0 => rfl
  | x :: l, i + 1 => by
    show f x :: (l.eraseIdx i).map f = f x :: (l.map f).eraseIdx i
    rw [map_eraseIdx' l i]
theorem v_popAt {α : Type} [Inhabited α] {f : α → D} {l : List α} {i : Nat} (j : Nat) {p : Addr} (hc : C[j]? = some (p, .lst (l.map f))) (h : i < l.length) (hz : l.length ≤ 100000) : ∀ k : KD, k (f (gt l i)) (C.set j (p, .lst ((l.eraseIdx i).map f))) → mD X W "list.pop" (.ref p) [natD i] G C k := fun k q =>
  m_popAt j hc (by rw [List.getElem?_map, gt_some h]; rfl) (by rw [List.length_map]; exact hz) (by rw [map_eraseIdx'] at q; exact q)
theorem v_count {l : List Nat} {i : Nat} : ∀ k : KD, k (natD (l.count i)) C → mD X W "list.count" (lsE natD l) [natD i] G C k := fun k q => by
  unfold lsE
  rw [nats_cast]
  refine m_count ?_
  have e : (l.map fun h => ((h : Nat) : Int)).count (i : Int) = l.count i := by
    clear q
    induction l with
    | nil => rfl
    | cons x r ih =>
      rw [List.map_cons, List.count_cons, List.count_cons, ih]
      congr 1
      by_cases h : x = i
      · subst h; simp
      · have h2 : ¬ ((x : Int) = (i : Int)) := by omega
        simp [h, h2]
  rw [e]; exact q
theorem eqV_ii (s t : Int) : eqV (.int t) (.int s) = decide (s = t) := by
  have h := eqV_ints s [t]
  have h2 : (eqV (.int t) (.int s) || false) = decide (s ∈ [t]) := h
  rw [Bool.or_false] at h2
  rw [h2]; exact decide_eq_decide.mpr (by simp)
theorem eqV_ss (s t : Str) : eqV (.str t) (.str s) = decide (s = t) := by
  have h := eqV_strs s [t]
  have h2 : (eqV (.str t) (.str s) || false) = decide (s ∈ [t]) := h
  rw [Bool.or_false] at h2
  rw [h2]; exact decide_eq_decide.mpr (by simp)
theorem m_indexI {ns : List Int} {i : Int} {j : Nat} (hj : ns[j]? = some i) (hb : ∀ m : Nat, m < j → ns[m]? ≠ some i) (q : k (natD j) C) : mD X W "list.index" (.lst (ns.map D.int)) [.int i] G C k := mD_of mt_index fun σ P H Q v vs g r1 rs z => by
  obtain ⟨u, rfl, r2⟩ := reps1 rs
  cases r2
  cases r1 with
  | @lst a ws _ e rs' =>
    rw [reps_intsV rs'] at e
    refine ⟨a, ns.map V.int, .int i, j, .int i, rfl, rfl, .inl (.inl (le_lst g.le e)), rfl, flat_ints ns, by rw [List.getElem?_map, hj]; rfl, by rw [eqV_ii]; simp, fun m z' hm hz => ?_, z _ C _ P H g.refl (.int _) q⟩
    rw [List.getElem?_map] at hz
    cases e2 : ns[m]? with
    | none => rw [e2] at hz; cases hz
    | some y =>
      rw [e2] at hz
      cases hz
      rw [eqV_ii, decide_eq_false]
      intro e3
      exact hb m hm (by rw [e2, e3])
theorem m_indexS {ns : List Str} {i : Str} {j : Nat} (hj : ns[j]? = some i) (hb : ∀ m : Nat, m < j → ns[m]? ≠ some i) (q : k (natD j) C) : mD X W "list.index" (.lst (ns.map D.str)) [.str i] G C k := mD_of mt_index fun σ P H Q v vs g r1 rs z => by
  obtain ⟨u, rfl, r2⟩ := reps1 rs
  cases r2
  cases r1 with
  | @lst a ws _ e rs' =>
    rw [reps_strsV rs'] at e
    refine ⟨a, ns.map V.str, .str i, j, .str i, rfl, rfl, .inl (.inl (le_lst g.le e)), rfl, flat_strs ns, by rw [List.getElem?_map, hj]; rfl, by rw [eqV_ss]; simp, fun m z' hm hz => ?_, z _ C _ P H g.refl (.int _) q⟩
    rw [List.getElem?_map] at hz
    cases e2 : ns[m]? with
    | none => rw [e2] at hz; cases hz
    | some y =>
      rw [e2] at hz
      cases hz
      rw [eqV_ss, decide_eq_false]
      intro e3
      exact hb m hm (by rw [e2, e3])
theorem idx_spec {α : Type} [DecidableEq α] {l : List α} {x : α} (h : x ∈ l) : l[l.idxOf x]? = some x ∧ ∀ m : Nat, m < l.idxOf x → l[m]? ≠ some x := by
  induction l with
  | nil => cases h
  | cons y r ih =>
    rw [List.idxOf_cons]
    by_cases e : y = x
    · subst e
      rw [beq_self_eq_true]
      exact ⟨rfl, fun m hm => absurd hm (Nat.not_lt_zero _)⟩
    · have hb : (y == x) = false := by simpa using e
      rw [hb]
      have hr : x ∈ r := by
        rcases List.mem_cons.mp h with h | h
        · exact absurd h.symm e
        · exact h
      refine ⟨(ih hr).1, fun m hm => ?_⟩
      cases m with
      | zero => intro z; cases z; exact e rfl
      | succ m => exact (ih hr).2 m (by simpa using hm)
theorem v_indexN {l : List Nat} {x : Nat} (h : x ∈ l) : ∀ k : KD, k (natD (l.idxOf x)) C → mD X W "list.index" (lsE natD l) [natD x] G C k := fun k q => by
  unfold lsE
  rw [nats_cast]
  obtain ⟨h1, h2⟩ := idx_spec h
  refine m_indexI (j := l.idxOf x) (by rw [List.getElem?_map, h1]; rfl) (fun m hm e => ?_) q
  rw [List.getElem?_map] at e
  cases e2 : l[m]? with
  | none => rw [e2] at e; cases e
  | some y =>
    rw [e2] at e
    have e3 : ((y : Int)) = (x : Int) := Option.some.inj e
    exact h2 m hm (by rw [e2]; congr 1; omega)
theorem v_indexS {l : List Str} {x : Str} (h : x ∈ l) : ∀ k : KD, k (natD (l.idxOf x)) C → mD X W "list.index" (lsE D.str l) [.str x] G C k := fun k q => m_indexS (idx_spec h).1 (idx_spec h).2 q
/-- o.m(a) of a built-in type -/
theorem p_mth {T id : String} {name : Str} {es : List Expr} {ds : List D} (pa' : PlainAttrs T) (slot : Slot T name id) (hty : typeOf (.builtin id) = pure (.type "method_descriptor")) (ho : pv X W o G C x) (ht : tyD T C x) (ha : pa X W (e :: es) G C ds) (h : ∀ k : KD, k z C → mD X W id x ds G C k)
    (hbase : attributeBase o name X.env (eval o X.env) = eval o X.env := by rfl)
    (hfew : ((backTo pos (starEach (e :: es) X.env)).all (fun x => !x.1) && (backToKw pos (keywordEach [] X.env)).all (fun x => x.1.isSome) && decide ((e :: es).length + ([] : List Keyword).length + (if ([] : List Keyword).isEmpty then 0 else 1) < 30)) = true := by rfl)
    (hline : (apos.endLine == pos.line) = true := by rfl) (hs : starEach (e :: es) X.env = (false, eval e X.env) :: starEach es X.env := by rfl) (hplain : (backTo pos (starEach es X.env)).any (·.1) = false := by rfl) : pv X W (.Call (.Attribute o name apos) (e :: es) [] pos) G C z :=
  wE_m pa' slot hty (ho.w ⟨ht, ha.w (h _ ⟨rfl, rfl⟩)⟩) hbase hfew hline hs hplain
/-! comprehensions given to a name -/
theorem wS_CP {α : Type} {f : α → D} {u v : α} (i : Nat) {y : Str} {py spos : Pos} {elt tg iter : Expr} {ifs : List Expr} {scope : Scope} (hq : u = v) (h : wC X W elt tg iter ifs scope G C fun d C' => d = f v ∧ C' = C) (q : E.nx (G.set i (some (f u))) C) (nd0 : X.N.Nodup) (hk : X.env.scope.kind = .function := by rfl) (hi : X.N[i]? = some y := by rfl)
    (hyl : X.env.scope.names.lookup y = some .local := by rfl) (hl : (py.line == pos.line) = true := by rfl) (ha : (scope.names.any fun (n, k) => n == y && (k == .local || k == .cell)) = false := by decide +kernel) : wS X W (.Assign [.Name y py] (.ListComp elt [⟨tg, iter, ifs, 0⟩] scope pos) spos) G C E :=
  wS_C i (by
    obtain ⟨own, g, a1, a2, a3, a4, a5, a6⟩ := h
    exact ⟨own, g, a1, a2, a3, a4, a5, fun σ P H Q gd z => a6 σ P H Q gd fun d C' v P' H' n r e => z d C' v P' H' n r (by obtain ⟨rfl, rfl⟩ := e; rw [← hq]; exact q)⟩) nd0 hk hi hyl hl ha
/-! methods of own classes -/
variable {Ca : Addr} {m : Str} {j nn : Nat} {F : FS} {ns : List Str} {dd : List D}
theorem p_m0 {pl : Sem Bool} (c : Cls X.K Ca) (R : HasM X.prog X.w X.K X.mg X.base Ca m j F) (hr : Room nn X.A) (hgu : X.A.guards = some []) (ho : pv X W o G C x) (hi : InsD C x Ca ns dd) (hm : m ∉ ns) (h : ∀ k : KD, k z C → F [x] C k KE0) (hj : j ≤ nn := by first | decide | omega)
    (ht : eval (.Call (.Attribute o m apos) [] [] pos) X.env = (do
      let ov ← eval o X.env
      standAt apos.atName
      let (f, first) ← holding [ov] (getMethod ov m pl)
      callWith pos f first (backTo pos (starEach [] X.env)) (backToKw pos (keywordEach [] X.env))) := by rfl) : pv X W (.Call (.Attribute o m apos) [] [] pos) G C z :=
  wE_methA0 hxn c R hr hgu (ho.w ⟨ns, dd, hi, hm, h _ ⟨rfl, rfl⟩⟩) hj ht
theorem p_m1 {pl : Sem Bool} {ds : List D} (c : Cls X.K Ca) (R : HasM X.prog X.w X.K X.mg X.base Ca m j F) (hr : Room nn X.A) (hgu : X.A.guards = some []) (ho : pv X W o G C x) (hi : InsD C x Ca ns dd) (hm : m ∉ ns) (ha : pa X W (e :: es) G C ds) (h : ∀ k : KD, k z C → F (x :: ds) C k KE0) (hj : j ≤ nn := by first | decide | omega)
    (hst : starEach (e :: es) X.env = (false, eval e X.env) :: starEach es X.env := by rfl) (hpl : (backTo pos (starEach es X.env)).any (·.1) = false := by rfl)
    (ht : eval (.Call (.Attribute o m apos) (e :: es) [] pos) X.env = (do
      let ov ← eval o X.env
      standAt apos.atName
      let (f, first) ← holding [ov] (getMethod ov m pl)
      callWith pos f first (backTo pos (starEach (e :: es) X.env)) (backToKw pos (keywordEach [] X.env))) := by rfl) : pv X W (.Call (.Attribute o m apos) (e :: es) [] pos) G C z :=
  wE_methA hxn c R hr hgu (ho.w ⟨ns, dd, hi, hm, ha.w (h _ ⟨rfl, rfl⟩)⟩) hj hst hpl ht
theorem v_lenO {i : Nat} (R : HasM X.prog X.w X.K X.mg X.base Ca "__len__" j F) (hr : Room nn X.A) (hgu : X.A.guards = some []) (hi : InsD C x Ca ns dd) (hz : i ≤ 1000000) (hF : ∀ k : KD, k (natD i) C → F [x] C k KE0) (hj : j + 1 ≤ nn := by first | decide | omega) : ∀ k : KD, k (natD i) C → cD X W (.builtin "len") [x] G C k := fun k q =>
  c_lenO R hr hgu hi (hF _ ⟨i, rfl, hz, q⟩) hj
/-! isinstance of data whose kind is known -/
theorem p_isB (T : String) {s : String} {x' : Str} {b : Bool} {pT : Pos} (mI : X.mg "isinstance" = none) (mT : X.mg x' = none) (hv : bootBuiltins x' = some (.type T)) (ha : pv X W a G C x) (hk : kindD x = some s) (hb : instT s T = b) (hg : Gl X "isinstance" := by rfl) (hg2 : Gl X x' := by rfl) (hn : x' ≠ "__name__" := by decide) (hd : (x' == ("__debug__" : Str)) = false := by decide)
    (hT : T ∈ classL := by decide) (he : starEach [a, .Name x' pT] X.env = (false, eval a X.env) :: starEach [.Name x' pT] X.env := by rfl) (hp : (backTo pos (starEach [.Name x' pT] X.env)).any (·.1) = false := by rfl) : pv X W (.Call (.Name "isinstance" p1) [a, .Name x' pT] [] pos) G C (.bl b) :=
  wE_isiK T mI mT hv (ha.w ⟨s, .base hk, by rw [hb]; exact ⟨rfl, rfl⟩⟩) hg hg2 hn hd hT he hp
theorem p_isiS {cx : Str} {pT : Pos} (mI : X.mg "isinstance" = none) (mC : X.mg cx = some (.ref Ca)) (T : ClT X.K Ca) (ha : pv X W a G C (.obj Ca ns dd)) (hg : Gl X "isinstance" := by rfl) (hg2 : Gl X cx := by rfl) (hd : (cx == ("__debug__" : Str)) = false := by decide)
    (he : starEach [a, .Name cx pT] X.env = (false, eval a X.env) :: starEach [.Name cx pT] X.env := by rfl) (hp : (backTo pos (starEach [.Name cx pT] X.env)).any (·.1) = false := by rfl) : pv X W (.Call (.Name "isinstance" p1) [a, .Name cx pT] [] pos) G C (.bl true) :=
  wE_isiO mI mC T (ha.w (.inr ⟨_, _, .inl rfl, rfl, rfl⟩)) hg hg2 hd he hp
end
/-! ### schools -/
structure Sch where
  ts : List Str
  cs : List Str
  ps : List (Str × Str)
  deriving DecidableEq
instance : Inhabited Sch := ⟨⟨[], [], []⟩⟩
def lesD (x : Str × Str) : D := .tup [.str x.1, .str x.2]
instance : PlE lesD := (inferInstance : PlE (prE D.str D.str))
instance : NN lesD := ⟨fun _ => rfl⟩
def schA (Ca : Addr) (S : Sch) : D := .obj Ca ["school_teachers", "school_classes", "school_lessons"] [.lst (S.ts.map D.str), .lst (S.cs.map D.str), .lst (S.ps.map lesD)]
/-! ### names -/
def isIntB (d : D) (lo hi : Int) : Bool := match d with
  | .int i => decide (lo ≤ i) && decide (i ≤ hi)
  | _ => false
abbrev lettersS : Str := "abcdefghijklmnopqrstuvwxyz"
def isNameS (s : Str) : Bool := decide (1 ≤ s.length) && decide (s.length ≤ 8) && s.cps.toList.all fun c => decide (c ∈ lettersS.cps.toList)
def isNameB (d : D) : Bool := match d with
  | .str s => isNameS s
  | _ => false
theorem name_len {w : Str} (h : isNameS w = true) : w.length ≤ 8 := by
  unfold isNameS at h
  rw [Bool.and_eq_true, Bool.and_eq_true] at h
  exact of_decide_eq_true h.1.2
theorem letter_128 : ∀ c ∈ lettersS.cps.toList, c < 128 := by decide +kernel
theorem name_chars {w : Str} (h : isNameS w = true) : ∀ c ∈ w.cps.toList, c < 128 := fun c hc => by
  unfold isNameS at h
  rw [Bool.and_eq_true] at h
  exact letter_128 c (of_decide_eq_true (List.all_eq_true.mp h.2 c hc))
theorem fit_name {w : Str} (h : isNameS w = true) : Fit (.str w) 8 0 := fit_str (name_len h) (name_chars h)
theorem fit_les {x : Str × Str} (h1 : isNameS x.1 = true) (h2 : isNameS x.2 = true) : Fit (pyD (lesD x)) 18 1 := (fit_tup (fits_cons (fit_name h1) (fits_cons (fit_name h2) fits_nil))).mono (by decide) (by decide)
theorem fit_less {ps : List (Str × Str)} (h : ∀ x ∈ ps, isNameS x.1 = true ∧ isNameS x.2 = true) (hl : ps.length ≤ 1000) : Fit (.list (pyDs (ps.map lesD))) 19000 2 := by
  rw [pyDs_map]
  exact (fit_list (fits_map (fun x hx => fit_les (h x hx).1 (h x hx).2) hl)).mono (by decide) (by decide)
theorem pl_les (ps : List (Str × Str)) : plDs (ps.map lesD) = true := plDs_map fun x _ => rfl
structure SchOk (S : Sch) : Prop where
  t8 : S.ts.length ≤ 8
  c8 : S.cs.length ≤ 8
  p40 : S.ps.length ≤ 40
  nm : ∀ w ∈ S.ts ++ S.cs, isNameS w = true
  les : ∀ x ∈ S.ps, x.1 ∈ S.ts ∧ x.2 ∈ S.cs
/-- a school that School(..) takes -/
structure SchNew (S : Sch) : Prop where
  ok : SchOk S
  t1 : 1 ≤ S.ts.length
  c1 : 1 ≤ S.cs.length
  nd : (S.ts ++ S.cs).Nodup
/-! ### the script; two data that are one -/
def scE (ns : List Int) : D := .scr (ns.map D.int)
section
variable {X : Cx} {W : Wd} {G : List (Option D)} {C : Cells}
theorem v_lenR {l : List Int} : ∀ k : KD, k (natD l.length) C → cD X W (.builtin "len") [scE l] G C k := fun k q => c_lenR (by rw [List.length_map]; exact q)
theorem even_of {α : Type} {f : α → D} {a b : α} (e : a = b) (h : Ok (f a)) : ∃ n dep, plD (f a) = true ∧ plD (f b) = true ∧ pyD (f a) = pyD (f b) ∧ Fit (pyD (f b)) n dep ∧ n ≤ 1000000 ∧ dep ≤ 60 := by
  subst e
  obtain ⟨n, d, f1, h1, h2⟩ := h
  exact ⟨n, d, f1.pl, f1.pl, rfl, f1.fit, h1, h2⟩
end
end EW

/-! Typed data: dicts. -/
namespace EW
open PySem PySem.Spec PyProof.Rows L2
def keyN (n : Nat) : Key := .inl (n : Int)
def keyS (s : Str) : Key := .inr s
class KyE {κ : Type} (kf : κ → Key) : Prop where
  inj : ∀ a b, kf a = kf b → a = b
instance : KyE keyN := ⟨fun a b h => by have := Sum.inl.inj h; omega⟩
instance : KyE keyS := ⟨fun a b h => Sum.inr.inj h⟩
def dcE {κ α : Type} (kf : κ → Key) (f : α → D) (l : List (κ × α)) : D := .dct (l.map fun q => kf q.1) (l.map fun q => f q.2)
def dcC {κ α : Type} (kf : κ → Key) (f : α → D) (l : List (κ × α)) : Cl := .dct (l.map fun q => kf q.1) (l.map fun q => f q.2)
def dcLook {κ α : Type} [DecidableEq κ] (l : List (κ × α)) (k : κ) : Option α := (l.find? fun q => decide (q.1 = k)).map (·.2)
def dcHas {κ α : Type} [DecidableEq κ] (l : List (κ × α)) (k : κ) : Bool := (dcLook l k).isSome
def dcGet {κ α : Type} [DecidableEq κ] [Inhabited α] (l : List (κ × α)) (k : κ) : α := (dcLook l k).getD default
/-- d[k] = v -/
def dcPut {κ α : Type} [DecidableEq κ] : List (κ × α) → κ → α → List (κ × α)
  | [], k, v => [(k, v)]
  | q :: r, k, v => if q.1 = k then (q.1, v) :: r else q :: dcPut r k v
def dcTwo {κ α : Type} [DecidableEq κ] (k1 : κ) (v1 : α) (k2 : κ) (v2 : α) : List (κ × α) := if k1 = k2 then [(k1, v2)] else [(k1, v1), (k2, v2)]
section
variable {κ α : Type} [DecidableEq κ] {kf : κ → Key} {f : α → D}
theorem dcHas_get [Inhabited α] {l : List (κ × α)} {k : κ} (h : dcHas l k = true) : dcLook l k = some (dcGet l k) := by
  unfold dcHas at h; unfold dcGet
  cases e : dcLook l k with
  | none => rw [e] at h; cases h
  | some x => rfl
theorem dget_dc [KyE kf] (l : List (κ × α)) (k : κ) : dget (l.map fun q => kf q.1) (l.map fun q => f q.2) (kf k) = (dcLook l k).map f := by
  unfold dget dcLook
  have e : (l.map fun q => kf q.1).zip (l.map fun q => f q.2) = l.map fun q => (kf q.1, f q.2) := by
    induction l with
    | nil => rfl
    | cons q r ih => rw [List.map_cons, List.map_cons, List.zip_cons_cons, ih]; rfl
  rw [e]
  clear e
  induction l with
  | nil => rfl
  | cons q r ih =>
    rw [List.map_cons, List.find?_cons, List.find?_cons]
    by_cases h : q.1 = k
    · rw [decide_eq_true h, decide_eq_true (by rw [h])]; rfl
    · rw [decide_eq_false h, decide_eq_false fun e => h (KyE.inj _ _ e)]
      exact ih
theorem dcTwo_look1 {k1 k2 : κ} {v1 v2 : α} : dcLook (dcTwo k1 v1 k2 v2) k2 = some v2 := by
  unfold dcTwo dcLook
  by_cases h : k1 = k2
  · rw [if_pos h]; simp [h]
  · rw [if_neg h]; simp [h]
theorem dcTwo_look2 {k1 k2 : κ} {v1 v2 : α} (h : k1 ≠ k2) : dcLook (dcTwo k1 v1 k2 v2) k1 = some v1 := by
  unfold dcTwo dcLook
  rw [if_neg h]; simp
end
section
variable {X : Cx} {W : Wd} {G : List (Option D)} {C : Cells} {o i a b : Expr} {pos : Pos} {x y : D} {n : Nat} {κ α : Type} [DecidableEq κ] {kf : κ → Key} {f : α → D}
theorem p_dix [Inhabited α] [KyE kf] {l : List (κ × α)} {k : κ} {nn : Nat} (hr : Room nn X.A) (hd : DctIn C x (l.map fun q => kf q.1) (l.map fun q => f q.2)) (ho : pv X W o G C x) (hi : pv X W i G C (keyD (kf k))) (h : dcHas l k = true) (hs : NoSl i := by exact fun _ _ => rfl) : pv X W (.Subscript o i pos) G C (f (dcGet l k)) :=
  wE_dix (room_u1 hr) (ho.w (hi.w ⟨_, _, kf k, _, hd, rfl, by rw [dget_dc, dcHas_get h]; rfl, rfl, rfl⟩)) hs
theorem p_dct2 [KyE kf] {k1x v1x k2x v2x : Expr} (f : α → D) {k1 k2 : κ} {v1 v2 : α} (h1 : ∀ W', pv X W' k1x G C (keyD (kf k1))) (h2 : ∀ W', pv X W' v1x G C (f v1)) (h3 : ∀ W', pv X W' k2x G C (keyD (kf k2))) (h4 : ∀ W', pv X W' v2x G C (f v2)) : pv X W (.Dict [some k1x, some k2x] [v1x, v2x] pos) G C (dcE kf f (dcTwo k1 v1 k2 v2)) :=
  wE_dct2 (kf k1) (kf k2) h1 h2 h3 h4 ⟨by
    unfold dcTwo dcE
    by_cases h : k1 = k2
    · rw [if_pos h, if_pos (by rw [h])]; rfl
    · rw [if_neg h, if_neg fun e => h (KyE.inj _ _ e)]; rfl, rfl⟩
end
end EW

/-! Plain lemmas that the laws' conditions ask again and again. -/
namespace EW
open PySem PySem.Spec PyProof.Rows L2
theorem rng_at {n i y : Nat} (h : (List.range n)[i]? = some y) : y = i ∧ i < n := by
  obtain ⟨h1, h2⟩ := List.getElem?_eq_some_iff.mp h
  rw [List.length_range] at h1
  rw [List.getElem_range] at h2
  exact ⟨h2.symm, h1⟩
theorem kcN {C : Cells} {a : Nat} : KC C (natD a) := ⟨⟨_, .base rfl⟩, fun x e => by cases e⟩
theorem isIntN {a lo hi : Nat} : isIntB (natD a) (lo : Int) (hi : Int) = (decide (lo ≤ a) && decide (a ≤ hi)) := by
  show (decide ((lo : Int) ≤ (a : Int)) && decide ((a : Int) ≤ (hi : Int))) = _
  rw [dec_nat.2.1, dec_nat.2.1]
theorem isIntY {a lo hi : Nat} (h1 : lo ≤ a) (h2 : a ≤ hi) : isIntB (natD a) (lo : Int) (hi : Int) = true := by rw [isIntN, decide_eq_true h1, decide_eq_true h2]; rfl
theorem ok_of {d : D} {n dep : Nat} (h : FitD d n dep) (h1 : n ≤ 1000000) (h2 : dep ≤ 60) : Ok d := ⟨n, dep, h, h1, h2⟩
theorem ok_nats {l : List Nat} (h : ∀ x ∈ l, x < 100000000000) (hl : l.length ≤ 1000) : Ok (lsE natD l) := ok_of (fd_ls (m := 1000) (fun x hx => fd_nat (h x hx)) hl) (by decide) (by decide)
theorem ok_nil {α : Type} {f : α → D} : Ok (lsE f []) := ok_of (fd_ls (n := 0) (dep := 0) (m := 0) (fun x hx => by cases hx) (Nat.le_refl _)) (by decide) (by decide)
theorem ok_nats2 {l : List (List Nat)} (h : ∀ x ∈ l, x.length ≤ 500 ∧ ∀ y ∈ x, y < 100000000000) (hl : l.length ≤ 500) : Ok (lsE (lsE natD) l) :=
  ok_of (fd_ls (m := 500) (fun x hx => fd_ls (m := 500) (fun y hy => fd_nat ((h x hx).2 y hy)) (h x hx).1) hl) (by decide) (by decide)
theorem gt_app1 {α : Type} [Inhabited α] {l m : List α} {i : Nat} (h : i < l.length) : gt (l ++ m) i = gt l i := gt_of (by rw [List.getElem?_append_left h, gt_some h])
theorem mem_len {l : List Nat} {n : Nat} (hn : l.Nodup) (h : ∀ x ∈ l, x < n) : l.length ≤ n := by
  induction n generalizing l with
  | zero =>
    cases l with
    | nil => exact Nat.le_refl _
    | cons x r => exact absurd (h x (List.mem_cons_self ..)) (Nat.not_lt_zero _)
  | succ n ih =>
    have h2 : (l.erase n).length ≤ n := ih (hn.erase n) fun x hx => by
      have h1 := (List.Nodup.mem_erase_iff hn).mp hx
      have := h x h1.2
      omega
    by_cases hm : n ∈ l
    · rw [List.length_erase_of_mem hm] at h2; omega
    · rw [List.erase_of_not_mem hm] at h2; omega
theorem nd_t {p : Prop} [Decidable p] (h : (!decide p) = true) : ¬ p := fun e => by rw [decide_eq_true e] at h; cases h
theorem nd_f {p : Prop} [Decidable p] (h : (!decide p) = false) : p := by
  by_cases e : p
  · exact e
  · rw [decide_eq_false e] at h; cases h
theorem or_f {a b : Bool} (h : (a || b) = false) : a = false ∧ b = false := by cases a <;> cases b <;> first | exact ⟨rfl, rfl⟩ | cases h
theorem or_t {a b : Bool} (h : (a || b) = true) : a = true ∨ b = true := by cases a <;> cases b <;> first | exact .inl rfl | exact .inr rfl | cases h
theorem or_not {a b : Bool} (h1 : a = false) (h2 : b = false) (h : (a || b) = true) : False := by rw [h1, h2] at h; cases h
theorem and_t {a b : Bool} (h : (a && b) = true) : a = true ∧ b = true := by cases a <;> cases b <;> first | exact ⟨rfl, rfl⟩ | cases h
theorem tf {a : Bool} (h : a = true) (h2 : a = false) : False := by rw [h] at h2; cases h2
theorem flen {α : Type} {p : α → Bool} {l : List α} {n : Nat} (h : l.length ≤ n) : (l.filter p).length ≤ n := Nat.le_trans (List.length_filter_le _ _) h
theorem rlen {p : Nat → Bool} {n : Nat} : ((List.range n).filter p).length ≤ n := flen (by rw [List.length_range]; exact Nat.le_refl _)
theorem rmem {p : Nat → Bool} {n x : Nat} (h : x ∈ (List.range n).filter p) : x < n ∧ p x = true := ⟨List.mem_range.mp (List.mem_filter.mp h).1, (List.mem_filter.mp h).2⟩
theorem dec_t {p : Prop} [Decidable p] : decide p = true ↔ p := decide_eq_true_iff
theorem sortN_mem {l : List Nat} {x : Nat} : x ∈ sortN l ↔ x ∈ l := (sortN_perm l).mem_iff
theorem sortN_len (l : List Nat) : (sortN l).length = l.length := (sortN_perm l).length_eq
theorem sortN_asc {l : List Nat} (h : l.Nodup) : (sortN l).Pairwise (· < ·) := by
  have hm : (sortN l).Nodup := (sortN_perm l).nodup_iff.mpr h
  rw [List.nodup_iff_pairwise_ne] at hm
  exact ((sortN_sorted l).and hm).imp fun h => Nat.lt_of_le_of_ne h.1 h.2
theorem asc_unique {l m : List Nat} (h1 : l.Pairwise (· < ·)) (h2 : m.Pairwise (· < ·)) (h : ∀ x, x ∈ l ↔ x ∈ m) : l = m := by
  have n1 : l.Nodup := by rw [List.nodup_iff_pairwise_ne]; exact h1.imp fun h => Nat.ne_of_lt h
  have n2 : m.Nodup := by rw [List.nodup_iff_pairwise_ne]; exact h2.imp fun h => Nat.ne_of_lt h
  exact sorted_eq ((List.perm_ext_iff_of_nodup n1 n2).mpr h) (h1.imp fun h => Nat.le_of_lt h) (h2.imp fun h => Nat.le_of_lt h)
end EW

/-! Plans, clashes, chains, exchanges: the mathematics. -/
namespace EW
open PySem PySem.Spec PyProof.Rows L2
/-- do two lessons have a person in common -/
def meetB (x y : Str × Str) : Bool := decide (x.1 = y.1) || decide (x.2 = y.2)

def clashAt (ps : List (Str × Str)) (hs : List Nat) (a t : Nat) : Bool := match ps[a]?, ps[t]?, hs[a]?, hs[t]? with
  | some x, some y, some h, some k => decide (h = k) && meetB x y
  | _, _, _, _ => false
def firstClash (ps : List (Str × Str)) (hs : List Nat) : Option (Nat × Nat) := (List.range ps.length).findSome? fun t => ((List.range t).find? fun a => clashAt ps hs a t).map fun a => (a, t)
def clashD : Option (Nat × Nat) → D
  | some (a, b) => .tup [natD a, natD b]
  | none => .non
theorem find_range_some {n i : Nat} {p : Nat → Bool} (hi : i < n) (hp : p i = true) (hb : ∀ j, j < i → p j = false) : (List.range n).find? p = some i := by
  rw [List.find?_range_eq_some]
  exact ⟨hp, List.mem_range.mpr hi, fun j hj => by rw [hb j hj]; decide⟩
theorem find_range_none {n : Nat} {p : Nat → Bool} (hb : ∀ j, j < n → p j = false) : (List.range n).find? p = none := by
  rw [List.find?_eq_none]
  intro j hj; rw [hb j (List.mem_range.mp hj)]; decide
theorem firstClash_none {ps : List (Str × Str)} {hs : List Nat} (h : ∀ t, t < ps.length → ∀ a, a < t → clashAt ps hs a t = false) : firstClash ps hs = none := by
  unfold firstClash
  rw [List.findSome?_eq_none_iff]
  intro t ht
  rw [find_range_none (h t (List.mem_range.mp ht))]; rfl
theorem firstClash_some {ps : List (Str × Str)} {hs : List Nat} {a t : Nat} (ht : t < ps.length) (ha : a < t) (hc : clashAt ps hs a t = true) (h1 : ∀ t', t' < t → ∀ a, a < t' → clashAt ps hs a t' = false) (h2 : ∀ a', a' < a → clashAt ps hs a' t = false) : firstClash ps hs = some (a, t) := by
  unfold firstClash
  have spl : List.range ps.length = List.range t ++ (List.range (ps.length - t)).map (t + ·) := by
    rw [← List.range_add]; congr 1; omega
  rw [spl, List.findSome?_append]
  have n : (List.range t).findSome? (fun t => ((List.range t).find? fun a => clashAt ps hs a t).map fun a => (a, t)) = none := by
    rw [List.findSome?_eq_none_iff]
    intro t' ht'
    rw [find_range_none (h1 t' (List.mem_range.mp ht'))]; rfl
  rw [n]
  obtain ⟨m, hm⟩ : ∃ m, ps.length - t = m + 1 := ⟨ps.length - t - 1, by omega⟩
  rw [hm, List.range_succ_eq_map]
  simp only [List.map_cons, List.findSome?_cons, Nat.add_zero, Option.none_or]
  rw [find_range_some ha hc h2]; rfl
theorem nodup_le2 : ∀ {l m : List Nat}, l.Nodup → (∀ x ∈ l, x ∈ m) → l.length ≤ m.length
  | [], _, _, _ => Nat.zero_le _
  | x :: l, m, nd, h => by
    rw [List.nodup_cons] at nd
    have hx : x ∈ m := h x (List.mem_cons_self ..)
    have ih := nodup_le2 (l := l) (m := m.erase x) nd.2 fun y hy => (List.mem_erase_of_ne (fun e => nd.1 (by rw [← e]; exact hy))).mpr (h y (List.mem_cons_of_mem _ hy))
    rw [List.length_erase_of_mem hx] at ih
    have := List.length_pos_of_mem hx
    rw [List.length_cons]; omega
/-- the lessons of a chain: from one to those that meet it at the two hours -/
inductive Reach (ps : List (Str × Str)) (hs : List Nat) (hour : Nat) (a : Nat) : Nat → Prop
  | base : Reach ps hs hour a a
  | step {b c : Nat} {x y : Str × Str} {h0 h : Nat} : Reach ps hs hour a b → ps[b]? = some x → ps[c]? = some y → meetB x y = true → hs[a]? = some h0 → hs[c]? = some h → (h = h0 ∨ h = hour) → Reach ps hs hour a c
/-- the numbers of a chain, ascending -/
structure ChainIs (ps : List (Str × Str)) (hs : List Nat) (a hour : Nat) (row : List Nat) : Prop where
  asc : row.Pairwise (· < ·)
  mem : ∀ x, x ∈ row ↔ Reach ps hs hour a x
theorem asc_of {l m : List Nat} (hp : m.Perm l) (hn : l.Nodup) (hs : m.Pairwise (· ≤ ·)) : m.Pairwise (· < ·) := by
  have hm : m.Nodup := hp.nodup_iff.mpr hn
  rw [List.nodup_iff_pairwise_ne] at hm
  exact (hs.and hm).imp fun h => Nat.lt_of_le_of_ne h.1 h.2
theorem nodup_len {l : List Nat} {n : Nat} (hn : l.Nodup) (h : ∀ x ∈ l, x < n) : l.length ≤ n := by
  have := nodup_le2 (l := l) (m := List.range n) hn fun x hx => List.mem_range.mpr (h x hx)
  rw [List.length_range] at this; exact this
theorem zip_at {α : Type} {l : List α} {i yi : Nat} {y : α} (h : l.zipIdx[i]? = some (y, yi)) : l[yi]? = some y ∧ i = yi := by
  rw [List.getElem?_zipIdx] at h
  cases e : l[i]? with
  | none => rw [e] at h; simp at h
  | some z =>
    rw [e] at h
    have h2 : (z, 0 + i) = (y, yi) := by simpa using h
    have a1 : z = y := congrArg Prod.fst h2
    have a2 : 0 + i = yi := congrArg Prod.snd h2
    have a3 : i = yi := by omega
    subst a3; subst a1
    exact ⟨e, rfl⟩
theorem mem_nats {h : Nat} {x y : Nat} : decide ((h : Int) ∈ [(x : Int), (y : Int)]) = decide (h = x ∨ h = y) := decide_eq_decide.mpr (by simp only [List.mem_cons, List.not_mem_nil, or_false]; omega)
theorem mem_nats2 {h : Nat} {l : List Nat} : decide ((h : Int) ∈ l.map fun h => ((h : Nat) : Int)) = decide (h ∈ l) := decide_eq_decide.mpr (by
  rw [List.mem_map]
  constructor
  · rintro ⟨x, hx, e⟩
    have : x = h := by omega
    rw [← this]; exact hx
  · exact fun hx => ⟨h, hx, rfl⟩)
/-- the plan after the exchange of two hours at the places of a row -/
def swapB (row : List Nat) (one other : Nat) (q : Nat × Nat) : Nat := bif decide (q.2 ∈ row) then (bif decide (q.1 = one) then other else one) else q.1
def exch (hs row : List Nat) (one other : Nat) : List Nat := hs.zipIdx.map (swapB row one other)
/-- a dict of two hours -/
def twoD (one other : Nat) : D := if (Sum.inl (one : Int) : Key) = .inl (other : Int) then .dct [.inl (one : Int)] [natD one] else .dct [.inl (one : Int), .inl (other : Int)] [natD other, natD one]
theorem two_get {C : Cells} {one other h : Nat} (hh : h = one ∨ h = other) : ∃ ks ds, DctIn C (twoD one other) ks ds ∧ dget ks ds (.inl (h : Int)) = some (natD (bif decide (h = one) then other else one)) := by
  unfold twoD
  by_cases e : one = other
  · subst e
    have : h = one := by omega
    subst this
    rw [if_pos rfl]
    exact ⟨_, _, .inl rfl, by simp [dget]⟩
  · rw [if_neg (fun w => e (by injection w with w; omega))]
    refine ⟨_, _, .inl rfl, ?_⟩
    rcases hh with rfl | rfl
    · simp [dget]
    · have e2 : ¬ ((one : Int) = (h : Int)) := by omega
      simp [dget, e, e2, Ne.symm e]
theorem reach_at {ps : List (Str × Str)} {hs : List Nat} {hour a x h0 : Nat} (h : Reach ps hs hour a x) (ha : a < ps.length) (h0a : hs[a]? = some h0) : x < ps.length ∧ ∀ h, hs[x]? = some h → h = h0 ∨ h = hour := by
  induction h with
  | base => exact ⟨ha, fun h e => by rw [h0a] at e; cases e; exact .inl rfl⟩
  | step hr1 h1 h2 h3 h4 h5 h6 ih =>
    rw [h0a] at h4; cases h4
    exact ⟨(List.getElem?_eq_some_iff.mp h2).1, fun h e => by rw [h5] at e; cases e; exact h6⟩
theorem chain_le {ps : List (Str × Str)} {hs : List Nat} {hour a h0 : Nat} {row : List Nat} (h : ChainIs ps hs a hour row) (ha : a < ps.length) (h0a : hs[a]? = some h0) : row.length ≤ ps.length := by
  refine nodup_len ?_ fun x hx => (reach_at ((h.mem x).mp hx) ha h0a).1
  rw [List.nodup_iff_pairwise_ne]
  exact h.asc.imp fun h => Nat.ne_of_lt h
theorem SeqIn.fit {C : Cells} {d : D} {xs : List D} (h : SeqIn C d xs) (n : ∀ p, d ≠ .ref p) : SeqF d xs := by
  rcases h with h | h | ⟨p, _, h, _⟩
  · exact .inl h
  · exact .inr h
  · exact absurd h (n p)
theorem nodup_le : ∀ {l m : List Nat}, l.Nodup → (∀ x ∈ l, x ∈ m) → l.length ≤ m.length
  | [], _, _, _ => Nat.zero_le _
  | x :: l, m, nd, h => by
    rw [List.nodup_cons] at nd
    have hx : x ∈ m := h x (List.mem_cons_self ..)
    have ih := nodup_le (l := l) (m := m.erase x) nd.2 fun y hy => (List.mem_erase_of_ne (fun e => nd.1 (by rw [← e]; exact hy))).mpr (h y (List.mem_cons_of_mem _ hy))
    rw [List.length_erase_of_mem hx] at ih
    have := List.length_pos_of_mem hx
    rw [List.length_cons]; omega
theorem free_some {l : List Nat} {m : Nat} (h : l.length < m) : 0 < ((List.range m).filter fun x => !decide (x ∈ l)).length := by
  rw [List.length_pos_iff_exists_mem]
  by_cases hx : ∃ x, x < m ∧ x ∉ l
  · obtain ⟨x, h1, h2⟩ := hx
    exact ⟨x, List.mem_filter.mpr ⟨List.mem_range.mpr h1, by rw [decide_eq_false h2]; rfl⟩⟩
  · exfalso
    have := nodup_le (l := List.range m) (m := l) List.nodup_range fun x hx' => by
      by_cases hm : x ∈ l
      · exact hm
      · exact absurd ⟨x, List.mem_range.mp hx', hm⟩ hx
    rw [List.length_range] at this; omega
/-- a plan without a clash -/
structure ClearPlan (ps : List (Str × Str)) (hs : List Nat) : Prop where
  len : hs.length = ps.length
  hr : ∀ h ∈ hs, h < 40
  ok : ∀ t, t < ps.length → ∀ a, a < t → clashAt ps hs a t = false
theorem ints_cast (l : List Nat) : l.map natD = (l.map fun h => ((h : Nat) : Int)).map D.int := by rw [List.map_map]; rfl
theorem mem_cast {h : Nat} {l : List Nat} : decide ((h : Int) ∈ l.map fun h => ((h : Nat) : Int)) = decide (h ∈ l) := decide_eq_decide.mpr (by
  rw [List.mem_map]
  constructor
  · rintro ⟨x, hx, e⟩
    have : x = h := by omega
    rw [← this]; exact hx
  · exact fun hx => ⟨h, hx, rfl⟩)
theorem clash_app {ps : List (Str × Str)} {hs : List Nat} {h a t : Nat} (ha : a < t) (ht : t < hs.length) : clashAt ps (hs ++ [h]) a t = clashAt ps hs a t := by
  unfold clashAt
  rw [List.getElem?_append_left ht, List.getElem?_append_left (by omega)]
theorem clash_new {ps : List (Str × Str)} {hs : List Nat} {h a : Nat} {x y : Str × Str} {k : Nat} (ha : a < hs.length) (hx : ps[a]? = some x) (hy : ps[hs.length]? = some y) (hk : hs[a]? = some k) (hf : meetB x y = true → k ≠ h) : clashAt ps (hs ++ [h]) a hs.length = false := by
  unfold clashAt
  rw [List.getElem?_append_left ha, hx, hy, hk, List.getElem?_append_right (Nat.le_refl _), Nat.sub_self]
  show (decide (k = h) && meetB x y) = false
  cases hm : meetB x y with
  | false => rw [Bool.and_false]
  | true => rw [decide_eq_false (hf hm)]; rfl
theorem getD_some {α : Type} {l : List α} {i : Nat} {x d : α} (h : l[i]? = some x) : l.getD i d = x := by rw [List.getD_eq_getElem?_getD, h]; rfl
end EW

/-! Exchanges along chains keep plans free of clashes; back again. -/
namespace EW
open PySem PySem.Spec PyProof.Rows L2
theorem meet_sym (x y : Str × Str) : meetB x y = meetB y x := by
  unfold meetB
  rw [decide_eq_decide.mpr (eq_comm (a := x.1) (b := y.1)), decide_eq_decide.mpr (eq_comm (a := x.2) (b := y.2))]
theorem ClearPlan.ne {ps : List (Str × Str)} {hs : List Nat} (c : ClearPlan ps hs) {a t : Nat} {x y : Str × Str} {h k : Nat} (ht : a ≠ t) (hx : ps[a]? = some x) (hy : ps[t]? = some y) (hm : meetB x y = true) (hh : hs[a]? = some h) (hk : hs[t]? = some k) : h ≠ k := by
  intro e
  rcases Nat.lt_or_gt_of_ne ht with l | l
  · have := c.ok t (List.getElem?_eq_some_iff.mp hy).1 a l
    unfold clashAt at this
    rw [hx, hy, hh, hk] at this
    have this : (decide (h = k) && meetB x y) = false := this
    rw [hm, decide_eq_true e] at this
    cases this
  · have := c.ok a (List.getElem?_eq_some_iff.mp hx).1 t l
    unfold clashAt at this
    rw [hx, hy, hh, hk] at this
    have this : (decide (k = h) && meetB y x) = false := this
    rw [meet_sym, hm, decide_eq_true e.symm] at this
    cases this
theorem clear_of {ps : List (Str × Str)} {hs : List Nat} (hl : hs.length = ps.length) (h40 : ∀ h ∈ hs, h < 40) (hc : ∀ (a t : Nat) (x y : Str × Str) (h : Nat), a ≠ t → ps[a]? = some x → ps[t]? = some y → meetB x y = true → hs[a]? = some h → hs[t]? = some h → False) : ClearPlan ps hs := by
  refine ⟨hl, h40, fun t ht a ha => ?_⟩
  unfold clashAt
  have e1 : ps[a]? = some ps[a] := List.getElem?_eq_getElem (by omega)
  have e2 : ps[t]? = some ps[t] := List.getElem?_eq_getElem ht
  have e3 : hs[a]? = some hs[a] := List.getElem?_eq_getElem (by omega)
  have e4 : hs[t]? = some hs[t] := List.getElem?_eq_getElem (by omega)
  rw [e1, e2, e3, e4]
  show (decide (hs[a] = hs[t]) && meetB ps[a] ps[t]) = false
  cases hm : meetB ps[a] ps[t] with
  | false => rw [Bool.and_false]
  | true =>
    rw [decide_eq_false fun e => ?_]; rfl
    exact hc a t _ _ _ (by omega) e1 e2 hm e3 (by rw [e4, e])
/-- the hour after an exchange -/
def swapN (one other h : Nat) : Nat := if h = one then other else if h = other then one else h
theorem exch_len (hs row : List Nat) (one other : Nat) : (exch hs row one other).length = hs.length := by unfold exch; rw [List.length_map, List.length_zipIdx]
theorem exch_at {hs row : List Nat} {one other i : Nat} : (exch hs row one other)[i]? = (hs[i]?).map fun h => swapB row one other (h, i) := by
  unfold exch
  rw [List.getElem?_map, List.getElem?_zipIdx]
  cases hs[i]? with
  | none => rfl
  | some h => show some (swapB row one other (h, 0 + i)) = _; rw [Nat.zero_add]; rfl
section
variable {ps : List (Str × Str)} {hs row : List Nat} {a hour h0 : Nat}
/-- what stands at a place after the exchange of a chain -/
theorem exch_in (hr : ChainIs ps hs a hour row) (ha : a < ps.length) (h0a : hs[a]? = some h0) {i h : Nat} (hi : i ∈ row) (hh : hs[i]? = some h) : (exch hs row h0 hour)[i]? = some (if h = h0 then hour else h0) ∧ (h = h0 ∨ h = hour) := by
  have hm := (reach_at ((hr.mem i).mp hi) ha h0a).2 h hh
  refine ⟨?_, hm⟩
  rw [exch_at, hh]
  show some (swapB row h0 hour (h, i)) = _
  unfold swapB
  rw [decide_eq_true hi]
  show some (bif decide (h = h0) then hour else h0) = _
  by_cases e : h = h0
  · rw [decide_eq_true e, if_pos e]; rfl
  · rw [decide_eq_false e, if_neg e]; rfl
theorem exch_out {i h : Nat} (hi : i ∉ row) (hh : hs[i]? = some h) : (exch hs row h0 hour)[i]? = some h := by
  rw [exch_at, hh]
  show some (swapB row h0 hour (h, i)) = _
  unfold swapB
  rw [decide_eq_false hi]; rfl
/-- the two hours are where they were, or exchanged -/
theorem exch_two (hr : ChainIs ps hs a hour row) (ha : a < ps.length) (h0a : hs[a]? = some h0) {i h k : Nat} (hh : hs[i]? = some h) (hk : (exch hs row h0 hour)[i]? = some k) : (k = h0 ∨ k = hour) ↔ (h = h0 ∨ h = hour) := by
  by_cases hi : i ∈ row
  · obtain ⟨e1, e2⟩ := exch_in hr ha h0a hi hh
    rw [e1] at hk
    cases hk
    refine ⟨fun _ => e2, fun _ => ?_⟩
    by_cases e : h = h0
    · rw [if_pos e]; exact .inr rfl
    · rw [if_neg e]; exact .inl rfl
  · rw [exch_out hi hh] at hk
    cases hk; exact Iff.rfl
theorem exch_clear (c : ClearPlan ps hs) (hr : ChainIs ps hs a hour row) (ha : a < ps.length) (h0a : hs[a]? = some h0) (h40 : hour < 40) : ClearPlan ps (exch hs row h0 hour) := by
  have key : ∀ (i j : Nat) (x y : Str × Str) (k : Nat), i ∈ row → j ∉ row → ps[i]? = some x → ps[j]? = some y → meetB x y = true → (exch hs row h0 hour)[i]? = some k → (exch hs row h0 hour)[j]? = some k → False := by
    intro i j x y k hi hj hx hy hm ei ej
    have il := (List.getElem?_eq_some_iff.mp hx).1
    have jl := (List.getElem?_eq_some_iff.mp hy).1
    obtain ⟨hi0, ehi⟩ : ∃ h, hs[i]? = some h := ⟨_, List.getElem?_eq_getElem (by rw [c.len]; exact il)⟩
    obtain ⟨hj0, ehj⟩ : ∃ h, hs[j]? = some h := ⟨_, List.getElem?_eq_getElem (by rw [c.len]; exact jl)⟩
    obtain ⟨e1, e2⟩ := exch_in hr ha h0a hi ehi
    rw [exch_out hj ehj] at ej
    cases ej
    rw [e1] at ei
    have hk : k = h0 ∨ k = hour := by
      have := Option.some.inj ei
      by_cases e : hi0 = h0
      · rw [if_pos e] at this; exact .inr this.symm
      · rw [if_neg e] at this; exact .inl this.symm
    exact hj ((hr.mem j).mpr (.step ((hr.mem i).mp hi) hx hy hm h0a ehj hk))
  refine clear_of (by rw [exch_len, c.len]) (fun h hh => ?_) fun i j x y k hne hx hy hm ei ej => ?_
  · obtain ⟨i, hi⟩ := List.mem_iff_getElem?.mp hh
    have il : i < hs.length := by
      have := (List.getElem?_eq_some_iff.mp hi).1
      rw [exch_len] at this; exact this
    have ehi : hs[i]? = some hs[i] := List.getElem?_eq_getElem il
    by_cases hir : i ∈ row
    · obtain ⟨e1, _⟩ := exch_in hr ha h0a hir ehi
      rw [e1] at hi
      have := Option.some.inj hi
      have h0l := c.hr h0 (List.mem_of_getElem? h0a)
      by_cases e : hs[i] = h0
      · rw [if_pos e] at this; omega
      · rw [if_neg e] at this; omega
    · rw [exch_out hir ehi] at hi
      cases hi
      exact c.hr _ (List.getElem_mem il)
  · by_cases hi : i ∈ row
    · by_cases hj : j ∈ row
      · have il := (List.getElem?_eq_some_iff.mp hx).1
        have jl := (List.getElem?_eq_some_iff.mp hy).1
        obtain ⟨hi0, ehi⟩ : ∃ h, hs[i]? = some h := ⟨_, List.getElem?_eq_getElem (by rw [c.len]; exact il)⟩
        obtain ⟨hj0, ehj⟩ : ∃ h, hs[j]? = some h := ⟨_, List.getElem?_eq_getElem (by rw [c.len]; exact jl)⟩
        obtain ⟨e1, e2⟩ := exch_in hr ha h0a hi ehi
        obtain ⟨e3, e4⟩ := exch_in hr ha h0a hj ehj
        rw [e1] at ei
        rw [e3] at ej
        have e5 := (Option.some.inj ei).trans (Option.some.inj ej).symm
        have ne := c.ne hne hx hy hm ehi ehj
        by_cases z1 : hi0 = h0
        · by_cases z2 : hj0 = h0
          · exact ne (z1.trans z2.symm)
          · rw [if_pos z1, if_neg z2] at e5
            rcases e4 with z | z
            · exact z2 z
            · exact z2 (z.trans e5)
        · by_cases z2 : hj0 = h0
          · rw [if_neg z1, if_pos z2] at e5
            rcases e2 with z | z
            · exact z1 z
            · exact z1 (z.trans e5.symm)
          · rcases e2 with z | z
            · exact z1 z
            · rcases e4 with w | w
              · exact z2 w
              · exact ne (z.trans w.symm)
      · exact key i j x y k hi hj hx hy hm ei ej
    · by_cases hj : j ∈ row
      · exact key j i y x k hj hi hy hx (by rw [meet_sym]; exact hm) ej ei
      · have il := (List.getElem?_eq_some_iff.mp hx).1
        have jl := (List.getElem?_eq_some_iff.mp hy).1
        obtain ⟨hi0, ehi⟩ : ∃ h, hs[i]? = some h := ⟨_, List.getElem?_eq_getElem (by rw [c.len]; exact il)⟩
        obtain ⟨hj0, ehj⟩ : ∃ h, hs[j]? = some h := ⟨_, List.getElem?_eq_getElem (by rw [c.len]; exact jl)⟩
        rw [exch_out hi ehi] at ei
        rw [exch_out hj ehj] at ej
        cases ei; cases ej
        exact c.ne hne hx hy hm ehi ehj rfl
theorem chain_self (hr : ChainIs ps hs a hour row) : a ∈ row := (hr.mem a).mpr .base
theorem exch_own (hr : ChainIs ps hs a hour row) (ha : a < ps.length) (h0a : hs[a]? = some h0) : (exch hs row h0 hour)[a]? = some hour := by
  rw [(exch_in hr ha h0a (chain_self hr) h0a).1, if_pos rfl]
/-- the chain of the way back -/
theorem reach_two {hs2 : List Nat} {b hour2 h2 : Nat} (h0a : hs[a]? = some h0) (h2b : hs2[b]? = some h2) (hl : hs2.length = hs.length) (htwo : ∀ (i h k : Nat), hs[i]? = some h → hs2[i]? = some k → (h = h0 ∨ h = hour) → (k = h2 ∨ k = hour2)) (hb : Reach ps hs2 hour2 b a) {x : Nat} (h : Reach ps hs hour a x) : Reach ps hs2 hour2 b x := by
  induction h with
  | base => exact hb
  | @step c d x y g0 g hc e1 e2 e3 e4 e5 e6 ih =>
    rw [h0a] at e4; cases e4
    obtain ⟨k, hk⟩ : ∃ k, hs2[d]? = some k := ⟨_, List.getElem?_eq_getElem (by rw [hl]; exact (List.getElem?_eq_some_iff.mp e5).1)⟩
    exact .step ih e1 e2 e3 h2b hk (htwo d g k e5 hk e6)
theorem exch_back_chain (hr : ChainIs ps hs a hour row) (ha : a < ps.length) (h0a : hs[a]? = some h0) {x : Nat} : Reach ps (exch hs row h0 hour) h0 a x ↔ Reach ps hs hour a x := by
  constructor
  · exact reach_two (exch_own hr ha h0a) h0a (by rw [exch_len]) (fun i h k h1 h2 h3 => (exch_two hr ha h0a h2 h1).mp (Or.symm h3)) .base
  · exact reach_two h0a (exch_own hr ha h0a) (exch_len ..) (fun i h k h1 h2 h3 => Or.symm ((exch_two hr ha h0a h1 h2).mpr h3)) .base
theorem exch_back_row (hr : ChainIs ps hs a hour row) (ha : a < ps.length) (h0a : hs[a]? = some h0) : ChainIs ps (exch hs row h0 hour) a h0 row :=
  ⟨hr.asc, fun x => (hr.mem x).trans (exch_back_chain hr ha h0a).symm⟩
/-- and back again -/
theorem exch_back (hr : ChainIs ps hs a hour row) (ha : a < ps.length) (h0a : hs[a]? = some h0) : exch (exch hs row h0 hour) row hour h0 = hs := by
  apply List.ext_getElem?
  intro i
  have hr2 := exch_back_row hr ha h0a
  have h2 := exch_own hr ha h0a
  cases e : hs[i]? with
  | none =>
    rw [List.getElem?_eq_none]
    rw [exch_len, exch_len]
    exact List.getElem?_eq_none_iff.mp e
  | some h =>
    by_cases hi : i ∈ row
    · obtain ⟨e1, e2⟩ := exch_in hr ha h0a hi e
      rw [(exch_in hr2 ha h2 hi e1).1]
      congr 1
      by_cases z : h = h0
      · rw [if_pos z, if_pos rfl, z]
      · rw [if_neg z]
        rcases e2 with w | w
        · exact absurd w z
        · by_cases y : h0 = hour
          · exact absurd (w.trans y.symm) z
          · rw [if_neg y, w]
    · rw [exch_out hi (exch_out hi e)]
/-- all lessons of a chain have it -/
theorem reach_sym (ha : a < ps.length) (h0a : hs[a]? = some h0) (hl : hs.length = ps.length) {b h1 hour1 : Nat} (h : Reach ps hs hour a b) (hb : hs[b]? = some h1) (htwo : ∀ z, (z = h0 ∨ z = hour) → (z = h1 ∨ z = hour1)) : Reach ps hs hour1 b a := by
  -- from a lesson of the chain back to its begin, the hours taken as a set
  have gen : ∀ c, Reach ps hs hour a c → ∀ d, (∀ g, hs[d]? = some g → ∀ z, (z = h0 ∨ z = hour) → (z = g ∨ z = hour1)) → ∀ g, hs[d]? = some g → Reach ps hs hour1 d c → Reach ps hs hour1 d a := by
    intro c hc
    induction hc with
    | base => intro d _ _ _ h; exact h
    | @step c e x y g0 g hc e1 e2 e3 e4 e5 e6 ih =>
      intro d hd gd hgd hde
      rw [h0a] at e4; cases e4
      have hcm := (reach_at hc ha h0a)
      obtain ⟨gc, hgc⟩ : ∃ k, hs[c]? = some k := ⟨_, List.getElem?_eq_getElem (by rw [hl]; exact hcm.1)⟩
      exact ih d hd gd hgd (.step hde e2 e1 (by rw [meet_sym]; exact e3) hgd hgc (hd gd hgd gc (hcm.2 gc hgc)))
  exact gen b h b (fun g hg z hz => by rw [hb] at hg; cases hg; exact htwo z hz) h1 hb .base
theorem chain_of_member (hr : ChainIs ps hs a hour row) (ha : a < ps.length) (h0a : hs[a]? = some h0) (hl : hs.length = ps.length) {b h1 hour1 : Nat} (hb : b ∈ row) (hh : hs[b]? = some h1) (htwo : ∀ z, (z = h0 ∨ z = hour) ↔ (z = h1 ∨ z = hour1)) : ChainIs ps hs b hour1 row := by
  have hba := (hr.mem b).mp hb
  have hab := reach_sym ha h0a hl hba hh fun z hz => (htwo z).mp hz
  refine ⟨hr.asc, fun x => (hr.mem x).trans ⟨fun h => ?_, fun h => ?_⟩⟩
  · exact reach_two h0a hh rfl (fun i h k e1 e2 e3 => by rw [e1] at e2; cases e2; exact (htwo h).mp e3) hab h
  · exact reach_two hh h0a rfl (fun i h k e1 e2 e3 => by rw [e1] at e2; cases e2; exact (htwo h).mpr e3) hba h
end
theorem firstClash_iff {ps : List (Str × Str)} {hs : List Nat} : firstClash ps hs = none ↔ ∀ t, t < ps.length → ∀ a, a < t → clashAt ps hs a t = false := by
  refine ⟨fun h t ht a ha => ?_, firstClash_none⟩
  unfold firstClash at h
  rw [List.findSome?_eq_none_iff] at h
  have h1 := h t (List.mem_range.mpr ht)
  rw [Option.map_eq_none_iff, List.find?_eq_none] at h1
  have h2 := h1 a (List.mem_range.mpr ha)
  simpa using h2
/-- has a plan no clash -/
def clearB (ps : List (Str × Str)) (hs : List Nat) : Bool := (firstClash ps hs).isNone
theorem clearB_iff {ps : List (Str × Str)} {hs : List Nat} : clearB ps hs = true ↔ ∀ t, t < ps.length → ∀ a, a < t → clashAt ps hs a t = false := by
  unfold clearB
  rw [Option.isNone_iff_eq_none, firstClash_iff]
theorem clashAt_gt {ps : List (Str × Str)} {hs : List Nat} {a t : Nat} (h1 : a < ps.length) (h2 : t < ps.length) (h3 : a < hs.length) (h4 : t < hs.length) : clashAt ps hs a t = (decide (gt hs a = gt hs t) && meetB (gt ps a) (gt ps t)) := by
  unfold clashAt
  rw [gt_some h1, gt_some h2, gt_some h3, gt_some h4]
/-- what chain and exchanged ask -/
structure ChPre (ps : List (Str × Str)) (hs : List Nat) (a hour : Nat) : Prop where
  h60 : ps.length ≤ 60
  len : hs.length = ps.length
  h40 : ∀ h ∈ hs, h < 40
  none : firstClash ps hs = none
  ha : a < ps.length
  hh : hour < 40
theorem ClearPlan.none {ps : List (Str × Str)} {hs : List Nat} (c : ClearPlan ps hs) : firstClash ps hs = Option.none := firstClash_none c.ok
theorem ClearPlan.pre {ps : List (Str × Str)} {hs : List Nat} {a hour : Nat} (c : ClearPlan ps hs) (h : ps.length ≤ 60) (ha : a < ps.length) (hh : hour < 40) : ChPre ps hs a hour := ⟨h, c.len, c.hr, c.none, ha, hh⟩
theorem ChainIs.uniq {ps : List (Str × Str)} {hs : List Nat} {a hour : Nat} {r s : List Nat} (h : ChainIs ps hs a hour r) (h' : ChainIs ps hs a hour s) : r = s := asc_unique h.asc h'.asc fun x => (h.mem x).trans (h'.mem x).symm
/-- as many -/
theorem filter_len_eq {α : Type} {p : α → Bool} : ∀ {l m : List α}, l.map p = m.map p → (l.filter p).length = (m.filter p).length
  | [], [], _ => rfl
  | [], _ :: _, h => by cases h
  | _ :: _, [], h => by cases h
  | x :: l, y :: m, h => by
    rw [List.map_cons, List.map_cons, List.cons.injEq] at h
    have ih := filter_len_eq h.2
    rw [List.filter_cons, List.filter_cons, h.1]
    cases p y with
    | true => simp only [if_true, List.length_cons, ih]
    | false => simpa using ih
end EW

/-! One more lesson for a plan; plans made even. -/
namespace EW
open PySem PySem.Spec PyProof.Rows L2
/-- the way from a lesson of a class: by teachers to the other hour, by classes to the first -/
inductive PathE (ps : List (Str × Str)) (hs : List Nat) (one other a : Nat) : Nat → Prop
  | base : PathE ps hs one other a a
  | tea {b c : Nat} {x y : Str × Str} : PathE ps hs one other a b → ps[b]? = some x → ps[c]? = some y → x.1 = y.1 → hs[b]? = some one → hs[c]? = some other → PathE ps hs one other a c
  | cla {b c : Nat} {x y : Str × Str} : PathE ps hs one other a b → ps[b]? = some x → ps[c]? = some y → x.2 = y.2 → hs[b]? = some other → hs[c]? = some one → PathE ps hs one other a c
theorem meet_or {x y : Str × Str} (h : meetB x y = true) : x.1 = y.1 ∨ x.2 = y.2 := by
  unfold meetB at h
  rcases or_t h with h | h
  · exact .inl (of_decide_eq_true h)
  · exact .inr (of_decide_eq_true h)
theorem meet_of {x y : Str × Str} (h : x.1 = y.1 ∨ x.2 = y.2) : meetB x y = true := by
  unfold meetB
  rcases h with h | h
  · rw [decide_eq_true h]; rfl
  · rw [decide_eq_true h, Bool.or_true]
section
variable {ps : List (Str × Str)} {hs row : List Nat} {one other a : Nat} {t v : Str}
theorem ClearPlan.same {ps : List (Str × Str)} {hs : List Nat} (c : ClearPlan ps hs) {a b : Nat} {x y : Str × Str} {h : Nat} (hx : ps[a]? = some x) (hy : ps[b]? = some y) (hm : x.1 = y.1 ∨ x.2 = y.2) (ha : hs[a]? = some h) (hb : hs[b]? = some h) : a = b := by
  by_cases e : a = b
  · exact e
  · exact absurd rfl (c.ne e hx hy (meet_of hm) ha hb)
theorem path_of (c : ClearPlan ps hs) {xa : Str × Str} (hxa : ps[a]? = some xa) (ha : hs[a]? = some one) (hv : ∀ (i : Nat) (y : Str × Str), ps[i]? = some y → y.2 = xa.2 → hs[i]? ≠ some other) {z : Nat} (h : Reach ps hs other a z) : PathE ps hs one other a z := by
  have hne : one ≠ other := fun e => hv a xa hxa rfl (by rw [ha, e])
  induction h with
  | base => exact .base
  | @step b z x y g0 h hb e1 e2 e3 e4 e5 e6 ih =>
    rw [ha] at e4; cases e4
    by_cases hbz : b = z
    · rw [← hbz]; exact ih
    have bl : b < ps.length := (List.getElem?_eq_some_iff.mp e1).1
    obtain ⟨g, hg⟩ : ∃ g, hs[b]? = some g := ⟨_, List.getElem?_eq_getElem (by rw [c.len]; exact bl)⟩
    have hg2 := (reach_at hb (List.getElem?_eq_some_iff.mp hxa).1 ha).2 g hg
    have hd := c.ne hbz e1 e2 e3 hg e5
    have hm := meet_or e3
    rcases hg2 with rfl | rfl
    · rcases e6 with e6 | rfl
      · exact absurd e6.symm hd
      rcases hm with hm | hm
      · exact .tea ih e1 e2 hm hg e5
      · cases ih with
        | base => rw [hxa] at e1; cases e1; exact absurd e5 (hv z y e2 hm.symm)
        | tea _ _ _ _ _ q => rw [hg] at q; cases q; exact absurd rfl hne
        | @cla e _ w x' p1 p2 p3 p4 p5 p6 =>
          rw [e1] at p3; cases p3
          have := c.same p2 e2 (.inr (p4.trans hm)) p5 e5
          rw [← this]; exact p1
    · rcases e6 with rfl | e6
      · rcases hm with hm | hm
        · cases ih with
          | base => rw [ha] at hg; cases hg; exact absurd rfl hne
          | @tea e _ w x' p1 p2 p3 p4 p5 p6 =>
            rw [e1] at p3; cases p3
            have := c.same p2 e2 (.inl (p4.trans hm)) p5 e5
            rw [← this]; exact p1
          | cla _ _ _ _ _ q => rw [hg] at q; cases q; exact absurd rfl hne
        · exact .cla ih e1 e2 hm hg e5
      · exact absurd e6.symm hd
theorem path_no {z : Nat} {y : Str × Str} (ha : hs[a]? = some one) (ht : ∀ (i : Nat) (y : Str × Str), ps[i]? = some y → y.1 = t → hs[i]? ≠ some one) (h : PathE ps hs one other a z) (hy : ps[z]? = some y) : y.1 ≠ t := by
  intro e
  cases h with
  | base => exact ht a y hy e ha
  | tea p1 p2 p3 p4 p5 p6 => rw [hy] at p3; cases p3; exact ht _ _ p2 (p4.trans e) p5
  | cla p1 p2 p3 p4 p5 p6 => exact ht z y hy e p6
/-- a plan for the lessons so far, one hour's lesson put elsewhere: the teacher and the class are free at that hour -/
theorem exch_free (c : ClearPlan ps hs) (hr : ChainIs ps hs a other row) {xa : Str × Str} (hxa : ps[a]? = some xa) (hv : xa.2 = v) (ha : hs[a]? = some one) (h40 : other < 40) (ht : ∀ (i : Nat) (y : Str × Str), ps[i]? = some y → y.1 = t → hs[i]? ≠ some one) (hc : ∀ (i : Nat) (y : Str × Str), ps[i]? = some y → y.2 = v → hs[i]? ≠ some other) :
    ClearPlan ps (exch hs row one other) ∧ (∀ (i : Nat) (y : Str × Str), ps[i]? = some y → y.1 = t → (exch hs row one other)[i]? ≠ some one) ∧ (∀ (i : Nat) (y : Str × Str), ps[i]? = some y → y.2 = v → (exch hs row one other)[i]? ≠ some one) := by
  have al := (List.getElem?_eq_some_iff.mp hxa).1
  subst hv
  have hne : one ≠ other := fun e => hc a xa hxa rfl (by rw [ha, e])
  refine ⟨exch_clear c hr al ha h40, fun i y hy e h => ?_, fun i y hy e h => ?_⟩
  · have il := (List.getElem?_eq_some_iff.mp hy).1
    obtain ⟨g, hg⟩ : ∃ g, hs[i]? = some g := ⟨_, List.getElem?_eq_getElem (by rw [c.len]; exact il)⟩
    by_cases hi : i ∈ row
    · exact path_no ha ht (path_of c hxa ha hc ((hr.mem i).mp hi)) hy e
    · rw [exch_out hi hg] at h
      cases h; exact ht i y hy e hg
  · have il := (List.getElem?_eq_some_iff.mp hy).1
    obtain ⟨g, hg⟩ : ∃ g, hs[i]? = some g := ⟨_, List.getElem?_eq_getElem (by rw [c.len]; exact il)⟩
    by_cases hi : i ∈ row
    · obtain ⟨e1, e2⟩ := exch_in hr al ha hi hg
      rw [e1] at h
      rcases e2 with rfl | rfl
      · rw [if_pos rfl] at h; cases h; exact hne rfl
      · exact hc i y hy e hg
    · rw [exch_out hi hg] at h
      cases h
      have := c.same hxa hy (.inr e.symm) ha hg
      rw [← this] at hi
      exact hi (chain_self hr)
theorem clear_snoc {x : Str × Str} {h : Nat} (c : ClearPlan ps hs) (hh : h < 40) (ht : ∀ (i : Nat) (y : Str × Str), ps[i]? = some y → y.1 = x.1 → hs[i]? ≠ some h) (hc : ∀ (i : Nat) (y : Str × Str), ps[i]? = some y → y.2 = x.2 → hs[i]? ≠ some h) : ClearPlan (ps ++ [x]) (hs ++ [h]) := by
  have hl := c.len
  refine clear_of (by rw [List.length_append, List.length_append, hl]; rfl) (fun g hg => ?_) fun i j p q g hne hp hq hm hi hj => ?_
  · rcases List.mem_append.mp hg with hg | hg
    · exact c.hr g hg
    · rw [List.mem_singleton.mp hg]; exact hh
  · have key : ∀ (i j : Nat) (p q : Str × Str), i < ps.length → (ps ++ [x])[i]? = some p → (ps ++ [x])[j]? = some q → meetB p q = true → (hs ++ [h])[i]? = some g → (hs ++ [h])[j]? = some g → i ≠ j → False := by
      intro i j p q il hp hq hm hi hj hne
      rw [List.getElem?_append_left il] at hp
      rw [List.getElem?_append_left (by omega)] at hi
      by_cases jl : j < ps.length
      · rw [List.getElem?_append_left jl] at hq
        rw [List.getElem?_append_left (by omega)] at hj
        exact c.ne hne hp hq hm hi hj rfl
      · rw [List.getElem?_append_right (by omega)] at hq hj
        have j0 : j - ps.length = 0 := by
          have := (List.getElem?_eq_some_iff.mp hq).1
          simp at this; omega
        rw [hl, j0] at hj
        rw [j0] at hq
        cases hj; cases hq
        rcases meet_or hm with hm | hm
        · exact ht i p hp hm hi
        · exact hc i p hp hm hi
    by_cases il : i < ps.length
    · exact key i j p q il hp hq hm hi hj hne
    · by_cases jl : j < ps.length
      · exact key j i q p jl hq hp (by rw [meet_sym]; exact hm) hj hi (Ne.symm hne)
      · have a1 := (List.getElem?_eq_some_iff.mp hp).1
        have a2 := (List.getElem?_eq_some_iff.mp hq).1
        rw [List.length_append] at a1 a2
        simp only [List.length_cons, List.length_nil] at a1 a2
        omega
end
end EW

/-! Plans for some hours: one lesson after another; how many lessons an hour has. -/
namespace EW
open PySem PySem.Spec PyProof.Rows L2
structure PlanFor (ps : List (Str × Str)) (hours : Nat) (hs : List Nat) : Prop where
  clear : ClearPlan ps hs
  lt : ∀ h ∈ hs, h < hours
/-- how many lessons a teacher, a class has -/
def tlo (ps : List (Str × Str)) (x : Str) : Nat := (ps.filter fun y => decide (y.1 = x)).length
def clo (ps : List (Str × Str)) (x : Str) : Nat := (ps.filter fun y => decide (y.2 = x)).length
structure PlanPre (ps : List (Str × Str)) (hours : Nat) : Prop where
  h60 : ps.length ≤ 60
  t : ∀ x, tlo ps x ≤ hours
  c : ∀ x, clo ps x ≤ hours
  h40 : hours ≤ 40
structure NextPre (ps : List (Str × Str)) (hs : List Nat) (hours : Nat) : Prop where
  h60 : ps.length ≤ 60
  lt : hs.length < ps.length
  pf : PlanFor (ps.take hs.length) hours hs
  t : tlo (ps.take hs.length) (gt ps hs.length).1 < hours
  c : clo (ps.take hs.length) (gt ps hs.length).2 < hours
  h40 : hours ≤ 40
structure NextIs (ps : List (Str × Str)) (hs : List Nat) (hours : Nat) (r : List Nat) : Prop where
  len : r.length = hs.length + 1
  pf : PlanFor (ps.take (hs.length + 1)) hours r
  two : ∃ a b, ∀ (i h k : Nat), hs[i]? = some h → r[i]? = some k → h = k ∨ (h = a ∧ k = b) ∨ (h = b ∧ k = a)
theorem take_gt {α : Type} [Inhabited α] {l : List α} {n : Nat} (h : n ≤ l.length) : l.take n = (List.range n).map (gt l) := by
  apply List.ext_getElem?
  intro i
  rw [List.getElem?_take, List.getElem?_map]
  by_cases hi : i < n
  · rw [if_pos hi, List.getElem?_range hi, gt_some (by omega)]; rfl
  · rw [if_neg hi, List.getElem?_eq_none (by rw [List.length_range]; omega)]; rfl
theorem all_gt {α : Type} [Inhabited α] (l : List α) : l = (List.range l.length).map (gt l) := by
  conv => lhs; rw [← List.take_length (l := l)]
  exact take_gt (Nat.le_refl _)
theorem take_snoc {α : Type} [Inhabited α] {l : List α} {n : Nat} (h : n < l.length) : l.take (n + 1) = l.take n ++ [gt l n] := by
  rw [List.take_add_one, gt_some h]; rfl
theorem tlo_take {ps : List (Str × Str)} {n : Nat} {x : Str} (h : n ≤ ps.length) : ((List.range n).filter fun y => decide ((gt ps y).1 = x)).length = tlo (ps.take n) x := by
  unfold tlo
  rw [take_gt h, List.filter_map, List.length_map]; rfl
theorem clo_take {ps : List (Str × Str)} {n : Nat} {x : Str} (h : n ≤ ps.length) : ((List.range n).filter fun y => decide ((gt ps y).2 = x)).length = clo (ps.take n) x := by
  unfold clo
  rw [take_gt h, List.filter_map, List.length_map]; rfl
theorem tlo_app (l m : List (Str × Str)) (x : Str) : tlo (l ++ m) x = tlo l x + tlo m x := by unfold tlo; rw [List.filter_append, List.length_append]
theorem tlo_lt {ps : List (Str × Str)} {n : Nat} (h : n < ps.length) : tlo (ps.take n) (gt ps n).1 < tlo ps (gt ps n).1 := by
  have h2 : ∀ x, tlo ps x = tlo (ps.take n) x + tlo [gt ps n] x + tlo (ps.drop (n + 1)) x := fun x => by
    rw [← tlo_app, ← tlo_app, ← take_snoc h, List.take_append_drop]
  have h3 : tlo [gt ps n] (gt ps n).1 = 1 := by
    unfold tlo
    rw [List.filter_cons_of_pos (by simp)]; rfl
  have := h2 (gt ps n).1
  omega
theorem clo_app (l m : List (Str × Str)) (x : Str) : clo (l ++ m) x = clo l x + clo m x := by unfold clo; rw [List.filter_append, List.length_append]
theorem clo_lt {ps : List (Str × Str)} {n : Nat} (h : n < ps.length) : clo (ps.take n) (gt ps n).2 < clo ps (gt ps n).2 := by
  have h2 : ∀ x, clo ps x = clo (ps.take n) x + clo [gt ps n] x + clo (ps.drop (n + 1)) x := fun x => by
    rw [← clo_app, ← clo_app, ← take_snoc h, List.take_append_drop]
  have h3 : clo [gt ps n] (gt ps n).2 = 1 := by
    unfold clo
    rw [List.filter_cons_of_pos (by simp)]; rfl
  have := h2 (gt ps n).2
  omega
theorem PlanPre.next {ps : List (Str × Str)} {hs : List Nat} {hours : Nat} (h : PlanPre ps hours) (hl : hs.length < ps.length) (pf : PlanFor (ps.take hs.length) hours hs) : NextPre ps hs hours :=
  ⟨h.h60, hl, pf, Nat.lt_of_lt_of_le (tlo_lt hl) (h.t _), Nat.lt_of_lt_of_le (clo_lt hl) (h.c _), h.h40⟩
/-- the hours without some lessons -/
def freeL (plan numbers : List Nat) (hours : Nat) : List Nat := (List.range hours).filter fun y6 => (!decide (y6 ∈ ((numbers.filter fun y1 => (decide (y1 < plan.length))).map (fun y1 => (gt plan y1)))))
theorem freeL_pos {plan numbers : List Nat} {hours : Nat} (h : numbers.length < hours) : 0 < (freeL plan numbers hours).length :=
  free_some (Nat.lt_of_le_of_lt (by rw [List.length_map]; exact List.length_filter_le _ _) h)
theorem freeL_mem {plan numbers : List Nat} {hours x : Nat} (h : x ∈ freeL plan numbers hours) : x < hours ∧ ∀ y ∈ numbers, y < plan.length → gt plan y ≠ x := by
  obtain ⟨h1, h2⟩ := rmem h
  refine ⟨h1, fun y hy hl e => nd_t h2 ?_⟩
  exact List.mem_map.mpr ⟨y, List.mem_filter.mpr ⟨hy, decide_eq_true hl⟩, e⟩
/-! ### counts -/
theorem count_rng (hs : List Nat) (h : Nat) : hs.count h = ((List.range hs.length).filter fun i => decide (gt hs i = h)).length := by
  conv => lhs; rw [all_gt hs]
  rw [List.count, List.countP_map, List.countP_eq_length_filter]
  congr 1
theorem split_len {α : Type} (l : List α) (p q : α → Bool) : (l.filter p).length = (l.filter fun x => p x && q x).length + (l.filter fun x => p x && !q x).length := by
  induction l with
  | nil => rfl
  | cons x r ih =>
    rw [List.filter_cons, List.filter_cons, List.filter_cons]
    cases p x <;> cases q x <;> simp [ih] <;> omega
theorem in_row {row : List Nat} {n : Nat} (p : Nat → Bool) (hn : row.Nodup) (hr : ∀ x ∈ row, x < n) : ((List.range n).filter fun i => p i && decide (i ∈ row)).length = (row.filter p).length := by
  refine List.Perm.length_eq ((List.perm_ext_iff_of_nodup (List.nodup_range.filter _) (hn.filter _)).mpr fun x => ?_)
  rw [List.mem_filter, List.mem_filter, List.mem_range, Bool.and_eq_true, decide_eq_true_iff]
  exact ⟨fun h => ⟨h.2.2, h.2.1⟩, fun h => ⟨hr x h.1, h.2, h.1⟩⟩
section
variable {ps : List (Str × Str)} {hs row : List Nat} {one other a : Nat}
theorem ChainIs.nodup {ps : List (Str × Str)} {hs row : List Nat} {a hour : Nat} (h : ChainIs ps hs a hour row) : row.Nodup := by rw [List.nodup_iff_pairwise_ne]; exact h.asc.imp fun h => Nat.ne_of_lt h
theorem ChainIs.lt {ps : List (Str × Str)} {hs row : List Nat} {a hour : Nat} (h : ChainIs ps hs a hour row) (ha : a < hs.length) (hl : hs.length = ps.length) {x : Nat} (hx : x ∈ row) : x < hs.length := by
  rw [hl]; exact (reach_at ((h.mem x).mp hx) (by omega) (gt_some ha)).1
/-- how many of a row have an hour -/
def hourIn (hs row : List Nat) (h : Nat) : Nat := (row.filter fun i => decide (gt hs i = h)).length
theorem row_two (hr : ChainIs ps hs a other row) (ha : a < hs.length) (hl : hs.length = ps.length) (h0 : gt hs a = one) (hne : one ≠ other) : hourIn hs row one + hourIn hs row other = row.length := by
  have hh : hs[a]? = some one := by rw [gt_some ha, h0]
  have e : ∀ x ∈ row, (!decide (gt hs x = one)) = decide (gt hs x = other) := fun x hx => by
    have xl := hr.lt ha hl hx
    rcases (reach_at ((hr.mem x).mp hx) (by omega) hh).2 _ (gt_some xl) with h | h
    · rw [h, decide_eq_true rfl, decide_eq_false hne]; rfl
    · rw [h, decide_eq_true rfl, decide_eq_false (Ne.symm hne)]; rfl
  unfold hourIn
  rw [← List.filter_congr e]
  have := split_len row (fun _ => true) (fun i => decide (gt hs i = one))
  simp only [Bool.true_and] at this
  rw [List.filter_eq_self.mpr (fun _ _ => rfl)] at this
  exact this.symm
theorem exch_count (hr : ChainIs ps hs a other row) (ha : a < hs.length) (hl : hs.length = ps.length) (h0 : gt hs a = one) (hne : one ≠ other) :
    ((exch hs row one other).count one + hourIn hs row one = hs.count one + hourIn hs row other) ∧ ((exch hs row one other).count other + hourIn hs row other = hs.count other + hourIn hs row one) ∧ ∀ h, h ≠ one → h ≠ other → (exch hs row one other).count h = hs.count h := by
  have hh : hs[a]? = some one := by rw [gt_some ha, h0]
  have al : a < ps.length := by omega
  have hrl : ∀ x ∈ row, x < hs.length := fun x hx => hr.lt ha hl hx
  have cnt : ∀ (l : List Nat) (h : Nat), l.length = hs.length → l.count h = hourIn l row h + ((List.range hs.length).filter fun i => decide (gt l i = h) && !decide (i ∈ row)).length := fun l h e => by
    rw [count_rng, e, split_len _ _ (fun i => decide (i ∈ row)), in_row _ hr.nodup hrl]; rfl
  have outs : ∀ h, ((List.range hs.length).filter fun i => decide (gt (exch hs row one other) i = h) && !decide (i ∈ row)) = ((List.range hs.length).filter fun i => decide (gt hs i = h) && !decide (i ∈ row)) := fun h => by
    refine List.filter_congr fun i hi => ?_
    have il := List.mem_range.mp hi
    by_cases hir : i ∈ row
    · rw [decide_eq_true hir]; simp
    · rw [gt_of (exch_out hir (gt_some il))]
  have ins : ∀ x ∈ row, gt (exch hs row one other) x = (if gt hs x = one then other else one) ∧ (gt hs x = one ∨ gt hs x = other) := fun x hx => by
    obtain ⟨e1, e2⟩ := exch_in hr al hh hx (gt_some (hrl x hx))
    exact ⟨gt_of e1, e2⟩
  have i1 : hourIn (exch hs row one other) row one = hourIn hs row other := by
    unfold hourIn
    congr 1
    refine List.filter_congr fun x hx => ?_
    obtain ⟨e1, e2⟩ := ins x hx
    rw [e1]
    rcases e2 with e2 | e2
    · rw [if_pos e2, e2, decide_eq_false (Ne.symm hne), decide_eq_false hne]
    · rw [if_neg (fun z => hne (z.symm.trans e2)), e2, decide_eq_true rfl, decide_eq_true rfl]
  have i2 : hourIn (exch hs row one other) row other = hourIn hs row one := by
    unfold hourIn
    congr 1
    refine List.filter_congr fun x hx => ?_
    obtain ⟨e1, e2⟩ := ins x hx
    rw [e1]
    rcases e2 with e2 | e2
    · rw [if_pos e2, e2, decide_eq_true rfl, decide_eq_true rfl]
    · rw [if_neg (fun z => hne (z.symm.trans e2)), e2, decide_eq_false hne, decide_eq_false (Ne.symm hne)]
  have i3 : ∀ h, h ≠ one → h ≠ other → hourIn (exch hs row one other) row h = hourIn hs row h := fun h n1 n2 => by
    unfold hourIn
    congr 1
    refine List.filter_congr fun x hx => ?_
    obtain ⟨e1, e2⟩ := ins x hx
    have l1 : ¬ gt (exch hs row one other) x = h := fun e => by
      rw [e1] at e
      by_cases z : gt hs x = one
      · rw [if_pos z] at e; exact n2 e.symm
      · rw [if_neg z] at e; exact n1 e.symm
    have l2 : ¬ gt hs x = h := fun e => by
      rcases e2 with z | z
      · exact n1 (e.symm.trans z)
      · exact n2 (e.symm.trans z)
    rw [decide_eq_false l1, decide_eq_false l2]
  have el := exch_len hs row one other
  refine ⟨?_, ?_, fun h n1 n2 => ?_⟩
  · rw [cnt _ one el, cnt hs one rfl, outs, i1]; omega
  · rw [cnt _ other el, cnt hs other rfl, outs, i2]; omega
  · rw [cnt _ h el, cnt hs h rfl, outs, i3 h n1 n2]
end
end EW

/-! Even plans: a chain that moves one lesson. -/
namespace EW
open PySem PySem.Spec PyProof.Rows L2
section
variable {ps : List (Str × Str)} {hs row : List Nat} {one other a : Nat}
/-- every lesson has a chain -/
theorem chain_some (ps : List (Str × Str)) (hs : List Nat) (a hour : Nat) (ha : a < ps.length) (hl : hs.length = ps.length) : ∃ row, ChainIs ps hs a hour row := by
  classical
  refine ⟨(List.range ps.length).filter fun x => decide (Reach ps hs hour a x), List.Pairwise.filter _ (List.pairwise_lt_range), fun x => ?_⟩
  rw [List.mem_filter, List.mem_range, decide_eq_true_iff]
  exact ⟨fun h => h.2, fun h => ⟨(reach_at h ha (gt_some (by omega : a < hs.length))).1, h⟩⟩
/-- the persons of some lessons -/
def pers (ps : List (Str × Str)) (l : List Nat) : List (Str ⊕ Str) := l.flatMap fun i => [.inl (gt ps i).1, .inr (gt ps i).2]
theorem pers_mem {l : List Nat} {i : Nat} (h : i ∈ l) : Sum.inl (gt ps i).1 ∈ pers ps l ∧ Sum.inr (gt ps i).2 ∈ pers ps l :=
  ⟨List.mem_flatMap.mpr ⟨i, h, by simp⟩, List.mem_flatMap.mpr ⟨i, h, by simp⟩⟩
theorem nodup_sub {α : Type} [DecidableEq α] : ∀ {l m : List α}, l.Nodup → (∀ x ∈ l, x ∈ m) → l.length ≤ m.length
  | [], _, _, _ => Nat.zero_le _
  | x :: l, m, nd, h => by
    rw [List.nodup_cons] at nd
    have hx : x ∈ m := h x (List.mem_cons_self ..)
    have ih := nodup_sub (l := l) (m := m.erase x) nd.2 fun y hy => (List.mem_erase_of_ne (fun e => nd.1 (by rw [← e]; exact hy))).mpr (h y (List.mem_cons_of_mem _ hy))
    rw [List.length_erase_of_mem hx] at ih
    have := List.length_pos_of_mem hx
    rw [List.length_cons]; omega
/-- a chain grows lesson by lesson, each bringing one person more -/
theorem chain_grow (hr : ChainIs ps hs a other row) (ha : a < ps.length) (hl : hs.length = ps.length) : ∀ k, 1 ≤ k → k ≤ row.length → ∃ (L : List Nat) (V : List (Str ⊕ Str)), L.Nodup ∧ L.length = k ∧ a ∈ L ∧ (∀ x ∈ L, x ∈ row) ∧ (∀ x ∈ pers ps L, x ∈ V) ∧ V.length ≤ k + 1 := by
  intro k hk
  induction k with
  | zero => omega
  | succ k ih =>
    intro hkr
    by_cases h0 : k = 0
    · subst h0
      exact ⟨[a], pers ps [a], by simp, rfl, by simp, fun x hx => by rw [List.mem_singleton.mp hx]; exact chain_self hr, fun x hx => hx, by simp [pers]⟩
    · obtain ⟨L, V, l1, l2, l3, l4, l5, l6⟩ := ih (by omega) (by omega)
      -- some lesson of the chain is not in L and meets one that is
      have hex : ∃ b c, b ∈ L ∧ c ∈ row ∧ c ∉ L ∧ meetB (gt ps b) (gt ps c) = true := by
        apply Classical.byContradiction
        intro hno
        have clo : ∀ x, Reach ps hs other a x → x ∈ L := fun x hx => by
          induction hx with
          | base => exact l3
          | @step b c x y g0 h hb e1 e2 e3 e4 e5 e6 ihb =>
            apply Classical.byContradiction
            intro hc
            refine hno ⟨b, c, ihb, (hr.mem c).mpr (.step hb e1 e2 e3 e4 e5 e6), hc, ?_⟩
            rw [gt_of e1, gt_of e2]; exact e3
        have := nodup_sub hr.nodup fun x hx => clo x ((hr.mem x).mp hx)
        omega
      obtain ⟨b, c, hb, hc, hcl, hm⟩ := hex
      have pb := pers_mem (ps := ps) hb
      rcases meet_or hm with hm | hm
      · refine ⟨c :: L, .inr (gt ps c).2 :: V, List.nodup_cons.mpr ⟨hcl, l1⟩, by rw [List.length_cons, l2], List.mem_cons_of_mem _ l3, fun x hx => ?_, fun x hx => ?_, by rw [List.length_cons]; omega⟩
        · rcases List.mem_cons.mp hx with rfl | hx
          · exact hc
          · exact l4 x hx
        · unfold pers at hx
          rw [List.flatMap_cons, List.mem_append] at hx
          rcases hx with hx | hx
          · simp only [List.mem_cons, List.not_mem_nil, or_false] at hx
            rcases hx with rfl | rfl
            · rw [← hm]; exact List.mem_cons_of_mem _ (l5 _ pb.1)
            · exact List.mem_cons_self ..
          · exact List.mem_cons_of_mem _ (l5 x hx)
      · refine ⟨c :: L, .inl (gt ps c).1 :: V, List.nodup_cons.mpr ⟨hcl, l1⟩, by rw [List.length_cons, l2], List.mem_cons_of_mem _ l3, fun x hx => ?_, fun x hx => ?_, by rw [List.length_cons]; omega⟩
        · rcases List.mem_cons.mp hx with rfl | hx
          · exact hc
          · exact l4 x hx
        · unfold pers at hx
          rw [List.flatMap_cons, List.mem_append] at hx
          rcases hx with hx | hx
          · simp only [List.mem_cons, List.not_mem_nil, or_false] at hx
            rcases hx with rfl | rfl
            · exact List.mem_cons_self ..
            · rw [← hm]; exact List.mem_cons_of_mem _ (l5 _ pb.2)
          · exact List.mem_cons_of_mem _ (l5 x hx)
theorem pers_nodup (c : ClearPlan ps hs) {h : Nat} : ∀ {l : List Nat}, l.Nodup → (∀ x ∈ l, x < ps.length ∧ gt hs x = h) → (pers ps l).Nodup ∧ (pers ps l).length = 2 * l.length
  | [], _, _ => ⟨List.nodup_nil, rfl⟩
  | x :: l, nd, hx => by
    rw [List.nodup_cons] at nd
    obtain ⟨ih1, ih2⟩ := pers_nodup c (h := h) nd.2 fun y hy => hx y (List.mem_cons_of_mem _ hy)
    have hcl := c.len
    have x1 := hx x (List.mem_cons_self ..)
    have no : ∀ y ∈ l, ¬ ((gt ps x).1 = (gt ps y).1 ∨ (gt ps x).2 = (gt ps y).2) := fun y hy hm => by
      have y1 := hx y (List.mem_cons_of_mem _ hy)
      have := c.same (gt_some x1.1) (gt_some y1.1) hm (by rw [gt_some (by omega), x1.2]) (by rw [gt_some (by omega), y1.2])
      exact nd.1 (by rw [this]; exact hy)
    have e : pers ps (x :: l) = [.inl (gt ps x).1, .inr (gt ps x).2] ++ pers ps l := by unfold pers; rw [List.flatMap_cons]
    rw [e]
    refine ⟨?_, by rw [List.length_append, ih2, List.length_cons]; simp only [List.length_cons, List.length_nil]; omega⟩
    rw [List.nodup_append]
    refine ⟨by simp, ih1, fun p hp q hq e2 => ?_⟩
    obtain ⟨y, hy, hq⟩ := List.mem_flatMap.mp hq
    simp only [List.mem_cons, List.not_mem_nil, or_false] at hp hq
    subst e2
    rcases hp with rfl | rfl
    · rcases hq with hq | hq
      · exact no y hy (.inl (Sum.inl.inj hq))
      · cases hq
    · rcases hq with hq | hq
      · cases hq
      · exact no y hy (.inr (Sum.inr.inj hq))
/-- a chain has at most one lesson more at the one hour than at the other -/
theorem chain_diff (c : ClearPlan ps hs) (hr : ChainIs ps hs a other row) (ha : a < ps.length) (h : Nat) : 2 * hourIn hs row h ≤ row.length + 1 := by
  have hl := c.len
  have rpos : 1 ≤ row.length := List.length_pos_of_mem (chain_self hr)
  obtain ⟨L, V, l1, l2, l3, l4, l5, l6⟩ := chain_grow hr ha hl row.length rpos (Nat.le_refl _)
  have all : ∀ x ∈ row, x ∈ L := by
    have hp : (∀ x ∈ row, x ∈ L) := fun x hx => by
      apply Classical.byContradiction
      intro hn
      have := nodup_sub (l := x :: L) (m := row) (List.nodup_cons.mpr ⟨hn, l1⟩) fun y hy => by
        rcases List.mem_cons.mp hy with rfl | hy
        · exact hx
        · exact l4 y hy
      rw [List.length_cons] at this
      omega
    exact hp
  have hx : ∀ x ∈ row.filter (fun i => decide (gt hs i = h)), x < ps.length ∧ gt hs x = h := fun x hx => by
    rw [List.mem_filter] at hx
    exact ⟨by have := hr.lt (by omega) hl hx.1; omega, of_decide_eq_true hx.2⟩
  obtain ⟨n1, n2⟩ := pers_nodup c (hr.nodup.filter _) hx
  have := nodup_sub (m := V) n1 fun p hp => by
    obtain ⟨i, hi, hp⟩ := List.mem_flatMap.mp hp
    exact l5 p (List.mem_flatMap.mpr ⟨i, all i (List.mem_filter.mp hi).1, hp⟩)
  unfold hourIn
  omega
/-- where one hour has more lessons than another, some chain has -/
theorem chain_more (c : ClearPlan ps hs) (hne : one ≠ other) (hc : hs.count other < hs.count one) : ∃ at_, at_ < hs.length ∧ gt hs at_ = one ∧ ∀ row, ChainIs ps hs at_ other row → hourIn hs row other < hourIn hs row one := by
  have hl := c.len
  apply Classical.byContradiction
  intro hno
  have key : ∀ at_, at_ < hs.length → gt hs at_ = one → ∃ row, ChainIs ps hs at_ other row ∧ hourIn hs row one ≤ hourIn hs row other := fun at_ h1 h2 => by
    obtain ⟨row, hrow⟩ := chain_some ps hs at_ other (by omega) hl
    refine ⟨row, hrow, ?_⟩
    apply Classical.byContradiction
    intro h3
    exact hno ⟨at_, h1, h2, fun r hr => by rw [hr.uniq hrow]; omega⟩
  -- closed sets of lessons
  have gen : ∀ (n : Nat) (S : List Nat), S.length ≤ n → S.Nodup → (∀ x ∈ S, x < hs.length) → (∀ x ∈ S, gt hs x = one → ∀ y, Reach ps hs other x y → y ∈ S) → (∀ x ∈ S, ∀ z, z < hs.length → gt hs z = one → Reach ps hs other z x → z ∈ S) → hourIn hs S one ≤ hourIn hs S other := by
    intro n
    induction n with
    | zero =>
      intro S hS _ _ _ _
      have : S = [] := List.length_eq_zero_iff.mp (by omega)
      rw [this]; exact Nat.le_refl _
    | succ n ih =>
      intro S hS nd hlt hcl hcl2
      by_cases hex : ∃ x ∈ S, gt hs x = one
      · obtain ⟨x, hxS, hx1⟩ := hex
        obtain ⟨row, hrow, hle⟩ := key x (hlt x hxS) hx1
        have hxx : hs[x]? = some one := by rw [gt_some (hlt x hxS), hx1]
        have xl : x < ps.length := by have := hlt x hxS; omega
        have rS : ∀ y ∈ row, y ∈ S := fun y hy => hcl x hxS hx1 y ((hrow.mem y).mp hy)
        have hlen : (S.filter fun y => !decide (y ∈ row)).length ≤ n := by
          have h1 : (S.filter fun y => !decide (y ∈ row)).length < S.length := by
            refine List.length_filter_lt_length_iff_exists.mpr ⟨x, hxS, ?_⟩
            rw [decide_eq_true (chain_self hrow)]; decide
          omega
        -- back from a lesson of the chain
        have back : ∀ z, z < hs.length → gt hs z = one → ∀ y, Reach ps hs other z y → y ∈ row → z ∈ row := fun z hz hz1 y hy hyr => by
          have hzz : hs[z]? = some one := by rw [gt_some hz, hz1]
          have yl := (reach_at hy (by omega) hzz)
          obtain ⟨g, hg⟩ : ∃ g, hs[y]? = some g := ⟨_, List.getElem?_eq_getElem (by omega)⟩
          have g2 := yl.2 g hg
          have h1 : Reach ps hs (if g = one then other else one) y z := reach_sym (by omega) hzz hl hy hg fun w hw => by
            by_cases e : g = one
            · rw [if_pos e, e]; exact hw
            · rw [if_neg e]
              rcases g2 with z1 | z1
              · exact absurd z1 e
              · rw [z1]; exact Or.symm hw
          refine (hrow.mem z).mpr ?_
          refine reach_two (hs2 := hs) hg hxx rfl (fun i h k e1 e2 e3 => ?_) ((hrow.mem y).mp hyr) h1
          rw [e1] at e2; cases e2
          by_cases e : g = one
          · rw [if_pos e] at e3; rw [e] at e3; exact e3
          · rw [if_neg e] at e3
            rcases g2 with z1 | z1
            · exact absurd z1 e
            · rw [z1] at e3; exact Or.symm e3
        have ih' := ih (S.filter fun y => !decide (y ∈ row)) hlen (nd.filter _) (fun y hy => hlt y (List.mem_filter.mp hy).1) (fun y hy hy1 z hz => ?_) (fun y hy z hz hz1 hzy => ?_)
        · have sp : ∀ h, hourIn hs S h = hourIn hs row h + hourIn hs (S.filter fun y => !decide (y ∈ row)) h := fun h => by
            unfold hourIn
            rw [split_len S _ (fun y => decide (y ∈ row))]
            congr 1
            · refine List.Perm.length_eq ((List.perm_ext_iff_of_nodup (nd.filter _) (hrow.nodup.filter _)).mpr fun y => ?_)
              rw [List.mem_filter, List.mem_filter, Bool.and_eq_true, decide_eq_true_iff, decide_eq_true_iff]
              exact ⟨fun h => ⟨h.2.2, h.2.1⟩, fun h => ⟨rS y h.1, h.2, h.1⟩⟩
            · rw [List.filter_filter]
          rw [sp one, sp other]; omega
        · rw [List.mem_filter] at hy
          refine List.mem_filter.mpr ⟨hcl y hy.1 hy1 z hz, ?_⟩
          have hyr := nd_t hy.2
          rw [decide_eq_false fun hzr => hyr ?_]; rfl
          exact back y (hlt y hy.1) hy1 z hz hzr
        · rw [List.mem_filter] at hy
          refine List.mem_filter.mpr ⟨hcl2 y hy.1 z hz hz1 hzy, ?_⟩
          have hyr := nd_t hy.2
          rw [decide_eq_false fun hzr => hyr ?_]; rfl
          refine (hrow.mem y).mpr ?_
          have hzz : hs[z]? = some one := by rw [gt_some hz, hz1]
          exact reach_two (hs2 := hs) hzz hxx rfl (fun i h k e1 e2 e3 => by rw [e1] at e2; cases e2; exact e3) ((hrow.mem z).mp hzr) hzy
      · have : hourIn hs S one = 0 := by
          unfold hourIn
          rw [List.length_eq_zero_iff, List.filter_eq_nil_iff]
          intro x hx e
          exact hex ⟨x, hx, of_decide_eq_true e⟩
        omega
  have := gen hs.length (List.range hs.length) (by rw [List.length_range]; exact Nat.le_refl _) List.nodup_range (fun x hx => List.mem_range.mp hx) (fun x hx hx1 y hy => List.mem_range.mpr (by
    have := (reach_at hy (by have := List.mem_range.mp hx; omega) (gt_some (List.mem_range.mp hx))).1; omega)) (fun x hx z hz hz1 _ => List.mem_range.mpr hz)
  have e1 : hourIn hs (List.range hs.length) one = hs.count one := (count_rng hs one).symm
  have e2 : hourIn hs (List.range hs.length) other = hs.count other := (count_rng hs other).symm
  omega
end
end EW

/-! Plans made even: one step, and how many steps. -/
namespace EW
open PySem PySem.Spec PyProof.Rows L2
/-- the hours differ by at most one lesson -/
def EvenN (hs : List Nat) (hours : Nat) : Prop := ∀ i j, i < hours → j < hours → hs.count i ≤ hs.count j + 1
def cntL (hs : List Nat) (hours : Nat) : List Nat := (List.range hours).map fun h => hs.count h
structure EvPre (ps : List (Str × Str)) (hs counts : List Nat) : Prop where
  pf : PlanFor ps counts.length hs
  pos : 0 < counts.length
  h40 : counts.length ≤ 40
  h60 : ps.length ≤ 60
  cnt : counts = cntL hs counts.length
  far : minN counts + 1 < maxN counts
/-- one lesson moves from a fullest to an emptiest hour -/
structure EvIs (ps : List (Str × Str)) (hs counts r : List Nat) : Prop where
  pf : PlanFor ps counts.length r
  two : ∃ one other, one < counts.length ∧ other < counts.length ∧ one ≠ other ∧ hs.count one = maxN counts ∧ hs.count other = minN counts ∧ r.count one + 1 = hs.count one ∧ r.count other = hs.count other + 1 ∧ ∀ h, h ≠ one → h ≠ other → r.count h = hs.count h
theorem cnt_gt {hs : List Nat} {hours i : Nat} (h : i < hours) : gt (cntL hs hours) i = hs.count i := by
  unfold cntL
  rw [gt_map (by rw [List.length_range]; exact h), gt_of (List.getElem?_range h)]
theorem cnt_len (hs : List Nat) (hours : Nat) : (cntL hs hours).length = hours := by unfold cntL; rw [List.length_map, List.length_range]
theorem even_iff {hs : List Nat} {hours : Nat} (h : 0 < hours) : EvenN hs hours ↔ maxN (cntL hs hours) ≤ minN (cntL hs hours) + 1 := by
  have hp : 0 < (cntL hs hours).length := by rw [cnt_len]; exact h
  constructor
  · intro he
    obtain ⟨i, hi, e1⟩ := List.mem_map.mp (maxN_mem hp)
    obtain ⟨j, hj, e2⟩ := List.mem_map.mp (minN_mem hp)
    have e1 : hs.count i = maxN (cntL hs hours) := e1
    have e2 : hs.count j = minN (cntL hs hours) := e2
    rw [← e1, ← e2]
    exact he i j (List.mem_range.mp hi) (List.mem_range.mp hj)
  · intro he i j hi hj
    have h1 : hs.count i ≤ maxN (cntL hs hours) := le_maxN (List.mem_map.mpr ⟨i, List.mem_range.mpr hi, rfl⟩)
    have h2 : minN (cntL hs hours) ≤ hs.count j := minN_le (List.mem_map.mpr ⟨j, List.mem_range.mpr hj, rfl⟩)
    omega
/-- so many hours, each of some -/
def hoursInB (l : List Nat) (many hours : Nat) : Bool := decide (l.length = many) && l.all fun h => decide (h < hours)
theorem hoursIn_iff {l : List Nat} {many hours : Nat} : hoursInB l many hours = true ↔ l.length = many ∧ ∀ h ∈ l, h < hours := by
  unfold hoursInB
  rw [Bool.and_eq_true, decide_eq_true_iff, List.all_eq_true]
  exact ⟨fun h => ⟨h.1, fun x hx => of_decide_eq_true (h.2 x hx)⟩, fun h => ⟨h.1, fun x hx => decide_eq_true (h.2 x hx)⟩⟩
theorem flt_succ (hs : List Nat) (n : Nat) : (hs.filter fun h => decide (h < n + 1)).length = (hs.filter fun h => decide (h < n)).length + hs.count n := by
  induction hs with
  | nil => rfl
  | cons x r ih =>
    rw [List.filter_cons, List.filter_cons, List.count_cons]
    by_cases h1 : x < n
    · rw [decide_eq_true h1, decide_eq_true (by omega : x < n + 1)]
      have : (x == n) = false := by simp; omega
      simp only [if_true, List.length_cons, this]
      rw [ih]; simp; omega
    · by_cases h2 : x = n
      · subst h2
        rw [decide_eq_false h1, decide_eq_true (by omega : x < x + 1)]
        simp only [if_true, List.length_cons, beq_self_eq_true]
        rw [ih]; simp; omega
      · rw [decide_eq_false h1, decide_eq_false (by omega : ¬ x < n + 1)]
        have : (x == n) = false := by simp; omega
        simp only [this]
        simpa using ih
theorem cnt_sum (hs : List Nat) (hours : Nat) : (cntL hs hours).sum = (hs.filter fun h => decide (h < hours)).length := by
  induction hours with
  | zero =>
    show 0 = _
    symm
    rw [List.length_eq_zero_iff, List.filter_eq_nil_iff]
    intro x _; simp
  | succ n ih =>
    have : cntL hs (n + 1) = cntL hs n ++ [hs.count n] := by unfold cntL; rw [List.range_succ, List.map_append]; rfl
    rw [this, List.sum_append, ih, flt_succ]; simp
theorem sum_lt_iff {hs : List Nat} {hours : Nat} : (cntL hs hours).sum < hs.length ↔ ∃ h ∈ hs, hours ≤ h := by
  rw [cnt_sum]
  constructor
  · intro h
    apply Classical.byContradiction
    intro hno
    have : hs.filter (fun h => decide (h < hours)) = hs := List.filter_eq_self.mpr fun x hx => decide_eq_true (by
      rcases Nat.lt_or_ge x hours with h1 | h1
      · exact h1
      · exact absurd ⟨x, hx, h1⟩ hno)
    rw [this] at h
    omega
  · intro ⟨x, hx, h⟩
    exact List.length_filter_lt_length_iff_exists.mpr ⟨x, hx, by simp; omega⟩
/-- what evened gives -/
structure EvenedIs (ps : List (Str × Str)) (hs : List Nat) (hours : Nat) (r : Option (List Nat)) : Prop where
  yes : (∀ h ∈ hs, h < hours) → ∃ l, r = some l ∧ PlanFor ps hours l ∧ EvenN l hours ∧ (EvenN hs hours → l = hs)
  no : (∃ h ∈ hs, hours ≤ h) → r = none
theorem even_dec {hs : List Nat} {hours : Nat} (h : 0 < hours) : decide (maxN (cntL hs hours) - minN (cntL hs hours) < 2) = true ↔ EvenN hs hours := by
  rw [even_iff h, decide_eq_true_iff]; omega
theorem cnt_pos {hs : List Nat} {hours : Nat} (h : 0 < hours) : 0 < (cntL hs hours).length := by rw [cnt_len]; exact h
theorem min_le_max {l : List Nat} (h : 0 < l.length) : minN l ≤ maxN l := le_maxN (minN_mem h)
/-- sums over hours -/
def sumN (f : Nat → Nat) : Nat → Nat
  | 0 => 0
  | n + 1 => sumN f n + f n
theorem sumN_same {f g : Nat → Nat} : ∀ {n : Nat}, (∀ k, k < n → f k = g k) → sumN f n = sumN g n
  | 0, _ => rfl
  | n + 1, h => by
    show sumN f n + f n = sumN g n + g n
    rw [sumN_same fun k hk => h k (by omega), h n (by omega)]
theorem sumN_one {f g : Nat → Nat} {i : Nat} : ∀ {n : Nat}, i < n → (∀ k, k < n → k ≠ i → f k = g k) → sumN f n + g i = sumN g n + f i
  | 0, h, _ => absurd h (Nat.not_lt_zero _)
  | n + 1, h, hk => by
    show sumN f n + f n + g i = sumN g n + g n + f i
    by_cases e : i = n
    · subst e
      rw [sumN_same (f := f) (g := g) fun k hk2 => hk k (by omega) (by omega)]; omega
    · have := sumN_one (f := f) (g := g) (i := i) (n := n) (by omega) fun k hk2 hk3 => hk k (by omega) hk3
      rw [hk n (by omega) (fun z => e z.symm)]; omega
theorem sumN_two {f g : Nat → Nat} {i j n : Nat} (hi : i < n) (hj : j < n) (hij : i ≠ j) (h : ∀ k, k < n → k ≠ i → k ≠ j → f k = g k) : sumN f n + (g i + g j) = sumN g n + (f i + f j) := by
  have h1 := sumN_one (f := f) (g := fun k => if k = i then g k else f k) hi fun k _ hk => by simp [hk]
  have h2 := sumN_one (f := fun k => if k = i then g k else f k) (g := g) hj fun k hk1 hk2 => by
    by_cases e : k = i
    · simp [e]
    · simp [e]; exact h k hk1 e hk2
  simp [Ne.symm hij] at h1 h2
  omega
/-- the measure: squares of the numbers of lessons -/
def sqN (hs : List Nat) (hours : Nat) : Nat := sumN (fun h => hs.count h * hs.count h) hours
theorem sq_step {a b : Nat} (h : b + 1 < a) : (a - 1) * (a - 1) + (b + 1) * (b + 1) + 2 ≤ a * a + b * b := by
  obtain ⟨d, rfl⟩ : ∃ d, a = b + 2 + d := ⟨a - b - 2, by omega⟩
  have e1 : b + 2 + d - 1 = b + 1 + d := by omega
  rw [e1]
  have : (b + 2 + d) * (b + 2 + d) = (b + 1 + d) * (b + 1 + d) + 2 * (b + 1 + d) + 1 := by
    have : b + 2 + d = (b + 1 + d) + 1 := by omega
    rw [this, Nat.add_mul, Nat.mul_add]; omega
  rw [this]
  have : (b + 1) * (b + 1) = b * b + 2 * b + 1 := by rw [Nat.add_mul, Nat.mul_add]; omega
  rw [this]; omega
theorem EvIs.less {ps : List (Str × Str)} {hs counts r : List Nat} (h : EvIs ps hs counts r) (far : minN counts + 1 < maxN counts) : sqN r counts.length + 2 ≤ sqN hs counts.length := by
  obtain ⟨one, other, h1, h2, hne, e1, e2, e3, e4, e5⟩ := h.two
  have := sumN_two (f := fun h => r.count h * r.count h) (g := fun h => hs.count h * hs.count h) h1 h2 hne fun k _ k1 k2 => by rw [e5 k k1 k2]
  have st := sq_step (a := hs.count one) (b := hs.count other) (by omega)
  have e6 : hs.count one - 1 = r.count one := by omega
  rw [e6, ← e4] at st
  unfold sqN
  omega
/-- the step itself -/
theorem ev_step {ps : List (Str × Str)} {hs counts row : List Nat} {a one other : Nat} (h : EvPre ps hs counts) (h1 : one < counts.length) (h2 : other < counts.length) (e1 : hs.count one = maxN counts) (e2 : hs.count other = minN counts) (ha : a < hs.length) (hh : gt hs a = one) (hr : ChainIs ps hs a other row) (hf : row.length < 2 * hourIn hs row one) : EvIs ps hs counts (exch hs row one other) := by
  have c := h.pf.clear
  have hl := c.len
  have far := h.far
  have hne : one ≠ other := fun e => by rw [e] at e1; omega
  have hd := chain_diff c hr (by omega) one
  have ht := row_two hr ha hl hh hne
  obtain ⟨c1, c2, c3⟩ := exch_count hr ha hl hh hne
  have hh2 : hs[a]? = some one := by rw [gt_some ha, hh]
  have h40 := h.h40
  refine ⟨⟨exch_clear c hr (by omega) hh2 (by omega), fun x hx => ?_⟩, one, other, h1, h2, hne, e1, e2, by omega, by omega, c3⟩
  obtain ⟨i, hi⟩ := List.mem_iff_getElem?.mp hx
  have il : i < hs.length := by have := (List.getElem?_eq_some_iff.mp hi).1; rw [exch_len] at this; exact this
  by_cases hir : i ∈ row
  · obtain ⟨z1, z2⟩ := exch_in hr (by omega) hh2 hir (gt_some il)
    rw [z1] at hi
    have hi := Option.some.inj hi
    by_cases z : gt hs i = one
    · rw [if_pos z] at hi; omega
    · rw [if_neg z] at hi; omega
  · rw [exch_out hir (gt_some il)] at hi
    cases hi
    exact h.pf.lt _ (gt_mem il)
/-! ### what fit gives -/
inductive FitV where
  | person (x : Str) | rooms (n : Nat) | plan (l : List Nat)
  deriving DecidableEq
def fitE : FitV → D
  | .person x => .tup [.str "person", .str x]
  | .rooms n => .tup [.str "rooms", natD n]
  | .plan l => .tup [.str "plan", lsE natD l]
def fitP (q : Str × Str) : FitV := .person q.2
def fitR (q : Str × Nat) : FitV := .rooms q.2
def fitL (q : Str × List Nat) : FitV := .plan q.2
instance : NN fitE := ⟨fun v => by cases v <;> rfl⟩
/-- the numbers of a person's lessons -/
def numsOf (ps : List (Str × Str)) (x : Str) : List Nat := (ps.zipIdx.filter fun q => decide (x ∈ [q.1.1, q.1.2])).map (·.2)
theorem nums_len (ps : List (Str × Str)) (x : Str) : (numsOf ps x).length = (ps.filter fun y => decide (x ∈ [y.1, y.2])).length := by
  unfold numsOf
  rw [List.length_map]
  have : ps.zipIdx.map Prod.fst = ps := List.zipIdx_map_fst 0 ps
  conv => rhs; rw [← this]
  rw [List.filter_map, List.length_map]
  rfl
theorem tlo_le (ps : List (Str × Str)) (x : Str) : tlo ps x ≤ (numsOf ps x).length := by
  rw [nums_len]
  unfold tlo
  induction ps with
  | nil => exact Nat.le_refl _
  | cons y r ih =>
    rw [List.filter_cons, List.filter_cons]
    by_cases h : y.1 = x
    · rw [decide_eq_true h, decide_eq_true (show x ∈ [y.1, y.2] by rw [h]; simp)]
      simpa using ih
    · rw [decide_eq_false h]
      cases decide (x ∈ [y.1, y.2])
      · simpa using ih
      · simp only [if_true, List.length_cons]
        exact Nat.le_succ_of_le (by simpa using ih)
theorem clo_le (ps : List (Str × Str)) (x : Str) : clo ps x ≤ (numsOf ps x).length := by
  rw [nums_len]
  unfold clo
  induction ps with
  | nil => exact Nat.le_refl _
  | cons y r ih =>
    rw [List.filter_cons, List.filter_cons]
    by_cases h : y.2 = x
    · rw [decide_eq_true h, decide_eq_true (show x ∈ [y.1, y.2] by rw [h]; simp)]
      simpa using ih
    · rw [decide_eq_false h]
      cases decide (x ∈ [y.1, y.2])
      · simpa using ih
      · simp only [if_true, List.length_cons]
        exact Nat.le_succ_of_le (by simpa using ih)
def tooFull (S : Sch) (hours rooms : Nat) : Option FitV := match (S.ts ++ S.cs).find? fun p => decide (hours < (numsOf S.ps p).length) with
  | some p => some (.person p)
  | none => if 0 < rooms * hours ∧ rooms * hours < S.ps.length then some (.rooms (hours * rooms)) else none
/-- the same, as a law counts -/
def tooFullL (ts cs : List Str) (ps : List (Str × Str)) (hours rooms : Nat) : Option FitV := match (ts ++ cs).find? fun p => decide (hours < (ps.filter fun y => decide (p ∈ [y.1, y.2])).length) with
  | some p => some (.person p)
  | none => if 0 < rooms ∧ hours * rooms < ps.length then some (.rooms (hours * rooms)) else none
theorem tooFull_eq (S : Sch) {hours rooms : Nat} (h : 1 ≤ hours) : tooFull S hours rooms = tooFullL S.ts S.cs S.ps hours rooms := by
  unfold tooFull tooFullL
  have e : (fun p => decide (hours < (numsOf S.ps p).length)) = fun p => decide (hours < (S.ps.filter fun y => decide (p ∈ [y.1, y.2])).length) := by
    funext p
    rw [nums_len]
  rw [e]
  cases (S.ts ++ S.cs).find? fun p => decide (hours < (S.ps.filter fun y => decide (p ∈ [y.1, y.2])).length) with
  | some p => rfl
  | none =>
    show (if _ then _ else _) = if _ then _ else _
    have : (0 < rooms * hours ∧ rooms * hours < S.ps.length) ↔ (0 < rooms ∧ hours * rooms < S.ps.length) := by
      rw [Nat.mul_comm rooms hours]
      refine and_congr ⟨fun z => Nat.pos_of_mul_pos_left z, fun z => Nat.mul_pos h z⟩ Iff.rfl
    simp only [this]
structure FitIs (S : Sch) (hours rooms : Nat) (r : FitV) : Prop where
  no : ∀ v, tooFull S hours rooms = some v → r = v
  yes : tooFull S hours rooms = none → ∃ l, r = .plan l ∧ PlanFor S.ps hours l ∧ EvenN l hours
theorem tooFull_none {S : Sch} {hours rooms : Nat} (h : tooFull S hours rooms = none) : (∀ p ∈ S.ts ++ S.cs, (numsOf S.ps p).length ≤ hours) ∧ ¬ (0 < rooms * hours ∧ rooms * hours < S.ps.length) := by
  unfold tooFull at h
  cases e : (S.ts ++ S.cs).find? fun p => decide (hours < (numsOf S.ps p).length) with
  | some p => rw [e] at h; cases h
  | none =>
    rw [e] at h
    rw [List.find?_eq_none] at e
    refine ⟨fun p hp => by have := e p hp; simp at this; exact this, fun z => ?_⟩
    have h : (if 0 < rooms * hours ∧ rooms * hours < S.ps.length then some (FitV.rooms (hours * rooms)) else none) = none := h
    rw [if_pos z] at h
    cases h
theorem findF_at {α : Type} {p : α → Bool} : ∀ {l : List α} {i : Nat} {y : α}, l[i]? = some y → (∀ j z, j < i → l[j]? = some z → p z = false) → p y = true → l.find? p = some y
  | [], i, y, h, _, _ => by simp at h
  | x :: r, 0, y, h, _, hp => by
    have h : some x = some y := h
    cases h
    exact List.find?_cons_of_pos hp
  | x :: r, i + 1, y, h, hn, hp => by
    have h : r[i]? = some y := h
    rw [List.find?_cons_of_neg (by rw [hn 0 x (by omega) rfl]; simp)]
    exact findF_at h (fun j z hj hz => hn (j + 1) z (by omega) hz) hp
theorem findF_no {α : Type} {p : α → Bool} {l : List α} (h : ∀ j z, j < l.length → l[j]? = some z → p z = false) : l.find? p = none := by
  rw [List.find?_eq_none]
  intro x hx
  obtain ⟨i, hi⟩ := List.mem_iff_getElem?.mp hx
  rw [h i x (List.getElem?_eq_some_iff.mp hi).1 hi]; simp
/-- what a result must keep -/
structure RightPre (ps : List (Str × Str)) (hours rooms : Nat) (due : Option FitV) (found : FitV) : Prop where
  h1 : 1 ≤ hours
  h40 : hours ≤ 40
  l60 : ps.length ≤ 40
  no : ∀ v, due = some v → found = v ∧ Ok (fitE v)
  yes : due = none → (∃ l, found = .plan l ∧ PlanFor ps hours l ∧ EvenN l hours) ∧ ¬ (0 < rooms ∧ hours * rooms < ps.length)
/-- a school whose persons have few lessons has plans -/
theorem planPre_of {S : Sch} {hours : Nat} (hok : SchOk S) (h40 : hours ≤ 40) (h : ∀ p ∈ S.ts ++ S.cs, (numsOf S.ps p).length ≤ hours) : PlanPre S.ps hours := by
  have hp := hok.p40
  refine ⟨by omega, fun x => ?_, fun x => ?_, h40⟩
  · by_cases hx : x ∈ S.ts
    · exact Nat.le_trans (tlo_le _ _) (h x (List.mem_append_left _ hx))
    · have : tlo S.ps x = 0 := by
        unfold tlo
        rw [List.length_eq_zero_iff, List.filter_eq_nil_iff]
        intro y hy e
        exact hx (by rw [← of_decide_eq_true e]; exact (hok.les y hy).1)
      omega
  · by_cases hx : x ∈ S.cs
    · exact Nat.le_trans (clo_le _ _) (h x (List.mem_append_right _ hx))
    · have : clo S.ps x = 0 := by
        unfold clo
        rw [List.length_eq_zero_iff, List.filter_eq_nil_iff]
        intro y hy e
        exact hx (by rw [← of_decide_eq_true e]; exact (hok.les y hy).2)
      omega
end EW

/-! Defs with defaults: made, called with fewer values, called with a keyword. -/
namespace EW
open PySem PySem.Spec PyProof.Rows L2
/-- THE RULE of a def: from its body's walk -/
theorem fnG_ofD {dvs : List V} {kws : List (Str × V)} {P : Program} {w : World} {K : PySem.W.Frag} {mg : Str → Option Value} {base : Heap} {k : Nat} {f : Addr} {x qual : Str} {st : Stmt} {fd : FuncData} {N ps : List Str} {F : FS} (Fu : FunD K x qual (defArgs st) (defBody st) (defScope st) dvs kws f fd) (S : FnScope N ps (defScope st))
    (len : ∀ ds C Kn Ke, F ds C Kn Ke → ds.length = ps.length)
    (body : ∀ (cdv : Value) (A : Around) (outer : List Env) (s : Shared) (H : Hp) (E : XK) (W : Wd) (ds : List D) (C : Cells) (Kn : KD) (Ke : KE), Room k (A.deeper (envOfC qual (defScope st) s.heap.objs.size f cdv)) → A.guards = some [] → XW (bX P w K mg base N qual st f cdv A outer s H E) W (fun ed _ C' => Ke ed C') → F ds C Kn Ke → W.io = C.map (·.1) →
      wSs (bX P w K mg base N qual st f cdv A outer s H E) W (defBody st) (Gam0 N.length ds) C { nx := fun _ C' => Kn .non C', rt := Kn }) :
    FnG P w K mg base (k + 1) f fd ps F := by
  obtain ⟨oc, od, dV, kV, doc, pm, an, cdv, ct, osl, rfl, lk, hcd, _, _⟩ := Fu.ex
  refine ⟨len, fun A outer s H args us vs Q E hr hgu e0 hb rv hsp => ?_⟩
  have hl : vs.length = ps.length := hsp.len len
  have KX : K.In s.heap := e0.mod.kin.keeps fun b o e => (e0.bs b o e).1
  have lim : s.heap.NoLimit := e0.mod.nolimit.keeps fun b o e => (e0.bs b o e).1
  refine codeAny_call_function hr.depth (KX _ _ lk) rfl S.co S.gen rfl (PySem.W.codeRec_of KX hcd) (hb _ _ _ _ ?_)
  refine wpAny_newFunctionEnv_cells S.kind (fun y hy => ?_) fun env he s1 x => ?_
  · obtain ⟨n, v⟩ := y
    rcases S.par n (List.of_mem_zip hy).1 with q | q
    · exact .inl q
    · exact .inr ⟨q, PySem.W.cellsFrom_some _ _ _ (.inl q)⟩
  subst he
  refine ⟨lim.keeps x.toInCall.keep, codeAny_func ?_⟩
  have I : Inv (cxOf (L2.CX P w) P w K mg base N qual (defScope st) f cdv A outer s H E) [] (L2.start N vs) H s1 := inv_start S hr.hd e0 hl rv x
  obtain ⟨P0, ds, C, Kn, Ke, le, rs, hc, nd, hF, hk, hke⟩ := hsp
  have hdl : ds.length = ps.length := len _ _ _ _ hF
  have hpl : ps.length ≤ N.length := by
    have z := congrArg List.length S.pre
    rw [List.length_take] at z
    omega
  have g0 : Good K (baseW P0 H (C.map (·.1))) (Gam0 N.length ds) C (L2.start N vs) P0 H := by
    have gn : Good K ⟨P0, H, H, C.map (·.1)⟩ [] [] [] P0 H → True := fun _ => trivial
    refine ⟨fun a o h => ?_, le, Ex.rfl' P0, fun _ _ => rfl, fun a o h => ?_, fun _ h => h, fun i d h => ?_, fun q hq => ?_, nd, ?_⟩
    · by_cases ha : a ∈ C.map (·.1)
      · rw [show (baseW P0 H (C.map (·.1))).Hb a = none from if_pos ha] at h; cases h
      · rw [baseW_hb ha] at h
        exact ⟨(fun z => by rw [show (baseW P0 H (C.map (·.1))).H0 a = H a from rfl, h] at z; cases z), ha⟩
    · by_cases ha : a ∈ C.map (·.1)
      · rw [show (baseW P0 H (C.map (·.1))).Hb a = none from if_pos ha] at h; cases h
      · rw [baseW_hb ha] at h; exact h
    · unfold Gam0 at h
      by_cases hi : i < ds.length
      · rw [List.getElem?_append_left (by simpa using hi), List.getElem?_map] at h
        cases e : ds[i]? with
        | none => rw [e] at h; cases h
        | some d' =>
          rw [e] at h; cases h
          obtain ⟨v, h1, h2⟩ := rs.get e
          refine ⟨v, ?_, h2⟩
          unfold L2.start
          rw [List.getElem?_append_left (by rw [List.length_map, rs.len]; exact hi), List.getElem?_map, h1]; rfl
      · rw [List.getElem?_append_right (by simpa using hi), List.getElem?_replicate] at h
        split at h <;> cases h
    · obtain ⟨h1, h2⟩ := hc q hq
      exact ⟨h1, .inr (List.mem_map.mpr ⟨q, hq, rfl⟩), h2⟩
    · unfold L2.start Gam0
      rw [List.length_append, List.length_append, List.length_map, List.length_map, List.length_replicate, List.length_replicate, rs.len]
  have hxk : XW (bX P w K mg base N qual st f cdv A outer s H E) (baseW P0 H (C.map (·.1))) (fun ed _ C' => Ke ed C') := ⟨(fun cls d _ H => E cls d H), takes_of rfl rfl rfl rfl, fun ed G' C' cls dx σ P' H' g he q => hke ed C' cls dx P' H' ⟨g.p0, g.nil⟩ he q⟩
  have hbody := body cdv A outer s H E (baseW P0 H (C.map (·.1))) ds C Kn Ke (hr.deeper _) hgu hxk hF rfl
  refine wpAny_mono (hbody (L2.start N vs) P0 H { nx := fun _ H' => Q .non H', rt := Q } g0 ⟨fun G' C' σ' P' H' n q => hk .non C' .non P' H' n.nil .non q, fun d C' v P' H' n r q => hk d C' v P' H' n r q, fun _ _ _ _ _ _ z => z.elim, fun _ _ _ _ _ _ z => z.elim⟩ [] s1 I) (fun fl s' hs => ?_) fun e s' hs => hs
  cases fl with
  | ret u =>
    obtain ⟨v, σ', H', J, r', q⟩ := hs
    exact ⟨v, H', J.os, J.bare, J.base, J.hok, r', q⟩
  | next =>
    obtain ⟨σ', H', J, q⟩ := hs
    exact ⟨.non, H', J.os, J.bare, J.base, J.hok, rfl, q⟩
  | brk => obtain ⟨_, _, _, q⟩ := hs; exact q.elim
  | cont => obtain ⟨_, _, _, q⟩ := hs; exact q.elim


structure HasD (P : Program) (w : World) (K : PySem.W.Frag) (mg : Str → Option Value) (base : Heap) (x : Str) (k n : Nat) (ks : List Str) (dd : List D) (F : FS) : Prop where
  ex : ∃ f fd ps dv vs0, mg x = some (.ref f) ∧ PySem.W.keepIn K (.ref f) = true ∧ Binds K fd ps [] ∧ Binds K fd ps dv ∧ Vals vs0 dv ∧ (∀ P, Reps K P vs0 dd) ∧ KBn K fd ps n ks (fun us ws => us ++ ws) (fun vs zs => vs ++ zs) ∧ FnG P w K mg base k f fd ps F
theorem HasD.has {P : Program} {w : World} {K : PySem.W.Frag} {mg : Str → Option Value} {base : Heap} {x : Str} {k n : Nat} {ks : List Str} {dd : List D} {F : FS} (h : HasD P w K mg base x k n ks dd F) : Has P w K mg base x k F := by
  obtain ⟨f, fd, ps, dv, vs0, h1, h2, h3, _, _, _, _, h4⟩ := h.ex
  exact ⟨f, fd, ps, h1, h2, h3, h4⟩
section
variable {X : Cx} {W : Wd} {G : List (Option D)} {C : Cells} {k : KD} {e e2 : Expr} {es : List Expr} {pos p kpos : Pos} {x : Str} {j n m : Nat} {F : FS} {ks : List Str} {dd : List D}
theorem run_hasD {wx : WX} (tk : Takes X wx) {pins : List (Addr × Obj)} {σ : L2.St} {H : Hp} {s : Shared} {Q : VK} {us dv : List Value} {vs vs0 : List V} {f : Addr} {fd : FuncData} {ps : List Str} (R : FnG X.prog X.w X.K X.mg X.base j f fd ps F) (hr : Room j X.A) (hgu : X.A.guards = some []) (hb : Binds X.K fd ps dv) (hv : Vals vs0 dv)
    (I : Inv X pins σ H s) (r : Vals vs us) (h : spD X.K F (vs ++ vs0) H Q fun cls dx H' => wx cls dx σ H') : wpAny (model X.prog X.w) X.A (call (.ref f) us) (EP X pins σ Q) X.xe s := by
  have hl : (us ++ dv).length = ps.length := by
    rw [List.length_append, ← r.length, ← hv.length, ← List.length_append]; exact h.len R.len
  refine wpAny_call (codeAny_mono (R.run X.A X.stack s H ⟨us, []⟩ (us ++ dv) (vs ++ vs0) Q _ hr hgu I.env0 (hb s us I.kIn hl) (r.append hv) h) fun r s' hq => ?_)
  cases r with
  | error e => exact tk e s' (XE.of_call I (fun _ _ _ z => z) hq)
  | ok fl =>
    cases fl with
    | ret u => exact I.after hq
    | next => exact False.elim hq
    | brk => exact False.elim hq
    | cont => exact False.elim hq
theorem run_hasK {wx : WX} (tk : Takes X wx) {pins : List (Addr × Obj)} {σ : L2.St} {H : Hp} {s : Shared} {Q : VK} {us ws : List Value} {vs zs : List V} {f : Addr} {fd : FuncData} {ps : List Str} (R : FnG X.prog X.w X.K X.mg X.base j f fd ps F) (hr : Room j X.A) (hgu : X.A.guards = some []) (hb : KBn X.K fd ps n ks (fun us ws => us ++ ws) (fun vs zs => vs ++ zs))
    (I : Inv X pins σ H s) (r : Vals vs us) (rz : Vals zs ws) (l1 : vs.length = n) (l2 : zs.length = ks.length) (h : spD X.K F (vs ++ zs) H Q fun cls dx H' => wx cls dx σ H') : wpAny (model X.prog X.w) X.A (call (.ref f) us (ks.zip ws)) (EP X pins σ Q) X.xe s := by
  refine wpAny_call (codeAny_mono (R.run X.A X.stack s H ⟨us, ks.zip ws⟩ (us ++ ws) (vs ++ zs) Q _ hr hgu I.env0 (hb.to s us ws I.kIn (r.length.symm.trans l1) (rz.length.symm.trans l2)) (r.append rz) h) fun r s' hq => ?_)
  cases r with
  | error e => exact tk e s' (XE.of_call I (fun _ _ _ z => z) hq)
  | ok fl =>
    cases fl with
    | ret u => exact I.after hq
    | next => exact False.elim hq
    | brk => exact False.elim hq
    | cont => exact False.elim hq
/-- f(e, ..): the last value is the default -/
theorem wE_callD {xk : KG} (hx : XW X W xk) (R : HasD X.prog X.w X.K X.mg X.base x j n ks dd F) (hr : Room m X.A) (hgu : X.A.guards = some []) (h : wA X W (e :: es) G C fun ds C1 => F (ds ++ dd) C1 k fun ed C' => xk ed G C') (hj : j ≤ m := by first | decide | omega) (hg : Gl X x := by rfl)
    (hdb : (x == ("__debug__" : Str)) = false := by decide) (he : starEach (e :: es) X.env = (false, eval e X.env) :: starEach es X.env := by rfl) (hpl : (backTo pos (starEach es X.env)).any (·.1) = false := by rfl) : wE X W (.Call (.Name x p) (e :: es) [] pos) G C k := by
  obtain ⟨f, fd, ps, dv, vs0, hm, hk, _, hb, hv, hr0, _, R⟩ := R
  obtain ⟨wx, tk, hw⟩ := hx.ex
  intro σ P H Q g z pins s I
  refine wpAny_Call_Name_kw (ld_glob I hg hm ?_ hdb)
  refine PySem.W.callWith_K (h₀ := X.base) I.ok.mod.kin hk (thn (h σ P H (fun vs H1 => spD X.K F (vs ++ vs0) H1 Q fun cls dx H' => wx cls dx σ H') g (fun ds C1 vs P1 H1 n1 rs q =>
    spD_all hw n1.good (rs.app (hr0 P1)) q (fun ed C' z => z) fun d C' v P' H' n2 r q => z d C' v P' H' (n1.tr n2) r q) pos pins s I) fun us s1 hq => ?_) he hpl
  obtain ⟨vs, H1, I1, r, q⟩ := hq
  exact ⟨I1.kIn, run_hasD tk R (hr.mono hj) hgu hb hv I1 r q⟩
theorem p_fnD {d : D} {ds : List D} (R : HasD X.prog X.w X.K X.mg X.base x j n ks dd F) (hr : Room m X.A) (hgu : X.A.guards = some []) (ha : pa X W (e :: es) G C ds) (h : ∀ k : KD, k d C → F (ds ++ dd) C k KE0) (hj : j ≤ m := by first | decide | omega) (hg : Gl X x := by rfl)
    (hdb : (x == ("__debug__" : Str)) = false := by decide) (he : starEach (e :: es) X.env = (false, eval e X.env) :: starEach es X.env := by rfl) (hpl : (backTo pos (starEach es X.env)).any (·.1) = false := by rfl) : pv X W (.Call (.Name x p) (e :: es) [] pos) G C d :=
  wE_callD hxn R hr hgu (ha.w (h _ ⟨rfl, rfl⟩)) hj hg hdb he hpl
/-- f(e, .., k = v) -/
theorem wE_callK {xk : KG} {nm : Option Str} (hx : XW X W xk) (R : HasD X.prog X.w X.K X.mg X.base x j n ks dd F) (hr : Room m X.A) (hgu : X.A.guards = some []) (h : wA X W (e :: es) G C fun ds C1 => wE X W e2 G C1 fun d2 C2 => ds.length = n ∧ F (ds ++ [d2]) C2 k fun ed C' => xk ed G C') (hl1 : ks.length = 1 := by rfl) (hj : j ≤ m := by first | decide | omega) (hg : Gl X x := by rfl)
    (hall : (backToKw pos (keywordEach [⟨nm, e2, kpos⟩] X.env)).all (·.1.isSome) = true := by rfl) (hks : (backToKw pos (keywordEach [⟨nm, e2, kpos⟩] X.env)).filterMap (·.1) = ks := by rfl)
    (hdb : (x == ("__debug__" : Str)) = false := by decide) (he : starEach (e :: es) X.env = (false, eval e X.env) :: starEach es X.env := by rfl)
    (hpl : ((backTo pos (starEach (e :: es) X.env)).any (·.1) || (backToKw pos (keywordEach [⟨nm, e2, kpos⟩] X.env)).any (·.1.isNone)) = false := by rfl) : wE X W (.Call (.Name x p) (e :: es) [⟨nm, e2, kpos⟩] pos) G C k := by
  obtain ⟨f, fd, ps, dv, vs0, hm, hk, _, _, hv, hr0, hb, R⟩ := R
  obtain ⟨wx, tk, hw⟩ := hx.ex
  intro σ P H Q g z pins s I
  refine wpAny_Call_Name_kw (ld_glob I hg hm ?_ hdb)
  refine PySem.W.callWith_KW (h₀ := X.base) I.ok.mod.kin hk hall (thn (h σ P H (fun vs H1 => semE X e2 σ H1 fun zv H2 => (fun zs H3 => vs.length = n ∧ zs.length = 1 ∧ spD X.K F (vs ++ zs) H3 Q fun cls dx H' => wx cls dx σ H') [zv] H2) g (fun ds C1 vs P1 H1 n1 rs q =>
    q σ P1 H1 _ n1.good fun d2 C2 zv P2 H2 n2 r2 q2 => ⟨by rw [rs.len]; exact q2.1, rfl, spD_all hw n2.good ((rs.ex' n2.ex).app (.cons r2 .nil)) q2.2 (fun ed C' z => z) fun d C' v P' H' n3 r q => z d C' v P' H' (n1.tr (n2.tr n3)) r q⟩) pos pins s I) fun us s1 hq => ?_) hpl he
  obtain ⟨vs, H1, I1, r, q⟩ := hq
  have q' : tCons (semE X e2) tNil σ H1 (fun zs H3 => vs.length = n ∧ zs.length = 1 ∧ spD X.K F (vs ++ zs) H3 Q fun cls dx H' => wx cls dx σ H') := q
  refine thn ((pk_cons (pe_sem (e := e2)) pk_nil).run pos pins s1 σ H1 _ I1 q') fun ws s2 hq2 => ?_
  obtain ⟨zs, H2, I2, rz, l1, l2, q2⟩ := hq2
  refine ⟨I2.kIn, ?_⟩
  rw [hks]
  exact run_hasK tk R (hr.mono hj) hgu hb I2 r rz l1 (by omega) q2
theorem p_fnK {d d2 : D} {ds : List D} {nm : Option Str} (R : HasD X.prog X.w X.K X.mg X.base x j n ks dd F) (hr : Room m X.A) (hgu : X.A.guards = some []) (ha : pa X W (e :: es) G C ds) (hl : ds.length = n) (ha2 : pv X W e2 G C d2) (h : ∀ k : KD, k d C → F (ds ++ [d2]) C k KE0) (hl1 : ks.length = 1 := by rfl) (hj : j ≤ m := by first | decide | omega) (hg : Gl X x := by rfl)
    (hall : (backToKw pos (keywordEach [⟨nm, e2, kpos⟩] X.env)).all (·.1.isSome) = true := by rfl) (hks : (backToKw pos (keywordEach [⟨nm, e2, kpos⟩] X.env)).filterMap (·.1) = ks := by rfl)
    (hdb : (x == ("__debug__" : Str)) = false := by decide) (he : starEach (e :: es) X.env = (false, eval e X.env) :: starEach es X.env := by rfl)
    (hpl : ((backTo pos (starEach (e :: es) X.env)).any (·.1) || (backToKw pos (keywordEach [⟨nm, e2, kpos⟩] X.env)).any (·.1.isNone)) = false := by rfl) : pv X W (.Call (.Name x p) (e :: es) [⟨nm, e2, kpos⟩] pos) G C d :=
  wE_callK hxn R hr hgu (ha.w (ha2.w ⟨hl, h _ ⟨rfl, rfl⟩⟩)) hl1 hj hg hall hks hdb he hpl
end
theorem kbn_of {K : PySem.W.Frag} {x qual : Str} {params : Arguments} {body : List Stmt} {scope : Scope} {dvs : List V} {f : Addr} {fd : FuncData} {ps ks : List Str} {n : Nat} (F : FunD K x qual params body scope dvs [] f fd) (hd : dvs ≠ [])
    (h : ∀ (T : Addr) (kV doc pm : Value) (an : Option Addr) (cdv ct : Value) (us its ws : List Value), us.length = n → its.length = dvs.length → ws.length = ks.length → ∃ k, bindArgs (PySem.W.fnOf x qual params body scope (.ref T) kV doc pm an cdv ct) ⟨us, ks.zip ws⟩ = seqItems? (.ref T) >>= k ∧ k (some its.toArray) = pure (ps.zip (us ++ ws))) :
    KBn K fd ps n ks (fun us ws => us ++ ws) (fun vs zs => vs ++ zs) := by
  obtain ⟨oc, od, dV, kV, doc, pm, an, cdv, ct, osl, rfl, lk, hcd, hD, hK⟩ := F.ex
  rcases hD with ⟨e, _⟩ | ⟨_, T, o, its, m, rfl, lT, oT, rT⟩
  · exact absurd e hd
  · refine ⟨fun s us ws X l1 l2 => ?_, fun r1 r2 => r1.append r2⟩
    obtain ⟨k, e1, e2⟩ := h T kV doc pm an cdv ct us its ws l1 rT.length.symm l2
    refine BindsTo.of_looks fun M => ?_
    rw [e1]
    exact looks_items X lT oT (.of_pure e2)
/-- a def whose last parameter has the default 0 -/
theorem hasD_mk {P : Program} {w : World} {K : PySem.W.Frag} {mg : Str → Option Value} {base : Heap} {x qual : Str} {st : Stmt} {f : Addr} {fd : FuncData} {ps : List Str} {k n : Nat} {kw : Str} {F : FS} (hm : mg x = some (.ref f)) (Fu : FunD K x qual (defArgs st) (defBody st) (defScope st) [V.int 0] [] f fd) (R : FnG P w K mg base k f fd ps F) (hn : n + 1 = ps.length)
    (h0 : ∀ (T : Addr) (kV doc pm : Value) (an : Option Addr) (cdv ct : Value) (us its : List Value), us.length = n → its.length = 1 → ∃ k, bindArgs (PySem.W.fnOf x qual (defArgs st) (defBody st) (defScope st) (.ref T) kV doc pm an cdv ct) ⟨us, []⟩ = seqItems? (.ref T) >>= k ∧ k (some its.toArray) = pure (ps.zip (us ++ its)))
    (h1 : ∀ (T : Addr) (kV doc pm : Value) (an : Option Addr) (cdv ct : Value) (us its : List Value), us.length = n + 1 → its.length = 1 → ∃ k, bindArgs (PySem.W.fnOf x qual (defArgs st) (defBody st) (defScope st) (.ref T) kV doc pm an cdv ct) ⟨us, []⟩ = seqItems? (.ref T) >>= k ∧ k (some its.toArray) = pure (ps.zip us))
    (h2 : ∀ (T : Addr) (kV doc pm : Value) (an : Option Addr) (cdv ct : Value) (us its ws : List Value), us.length = n → its.length = 1 → ws.length = 1 → ∃ k, bindArgs (PySem.W.fnOf x qual (defArgs st) (defBody st) (defScope st) (.ref T) kV doc pm an cdv ct) ⟨us, [kw].zip ws⟩ = seqItems? (.ref T) >>= k ∧ k (some its.toArray) = pure (ps.zip (us ++ ws))) :
    HasD P w K mg base x k n [kw] [natD 0] F := by
  obtain ⟨d0, v0, b0⟩ := FunD.binds1 (ps := ps) Fu n 0 (by simp) (by simp; omega) fun T kV doc pm an cdv ct us its a b => by
    obtain ⟨k, e1, e2⟩ := h0 T kV doc pm an cdv ct us its a b
    exact ⟨k, e1, e2⟩
  obtain ⟨d1, v1, b1⟩ := FunD.binds1 (ps := ps) Fu (n + 1) 1 (by simp) (by simp; omega) fun T kV doc pm an cdv ct us its a b => by
    obtain ⟨k, e1, e2⟩ := h1 T kV doc pm an cdv ct us its a b
    refine ⟨k, e1, ?_⟩
    rw [e2]
    have : its.drop 1 = [] := List.drop_eq_nil_of_le (by rw [b]; exact Nat.le_refl _)
    rw [this, List.append_nil]
  have v1 : Vals ([] : List V) d1 := v1
  cases v1
  exact ⟨f, fd, ps, d0, [V.int 0], hm, Fu.kp, b1, b0, v0, fun P => .cons (.int 0) .nil, kbn_of Fu (by simp) fun T kV doc pm an cdv ct us its ws a b c => h2 T kV doc pm an cdv ct us its ws a b c, R⟩
theorem v_lenP {X : Cx} {W : Wd} {G : List (Option D)} {C : Cells} {α β : Type} {f : α → D} {g : β → D} {q : α × β} : ∀ k : KD, k (natD 2) C → cD X W (.builtin "len") [prE f g q] G C k := fun k q => c_lenU q
theorem v_intB {X : Cx} {W : Wd} {G : List (Option D)} {C : Cells} {b : Bool} : ∀ k : KD, k (natD (bif b then 1 else 0)) C → cD X W (.type "int") [.bl b] G C k := fun k q => cD_of call_int1 fun σ P H Q vs g rr z => by
  obtain ⟨v, rfl, r⟩ := reps1 rr
  cases r
  refine .inr ⟨b, rfl, ?_⟩
  cases b <;> exact z _ C _ P H g.refl (.int _) q
theorem v_repr {X : Cx} {W : Wd} {G : List (Option D)} {C : Cells} {x : D} {nn : Nat} (hr : Room nn X.A) (hgu : X.A.guards = some []) (o : Ok x) : ∀ k : KD, k (.str (pyD x).shown) C → cD X W (.builtin "repr") [x] G C k := fun k q => by
  obtain ⟨n, d, f, h1, h2⟩ := o
  exact c_repr (by have := room_u hr; omega) hgu f.pl f.fit h1 (by omega) q
/-- list(range(n)) -/
theorem p_lstRg {X : Cx} {W : Wd} {G : List (Option D)} {C : Cells} {a : Expr} {p1 p2 pos pos2 : Pos} {n : Nat} (hc : X.calm = true) (hm : X.mg "list" = none) (hm2 : X.mg "range" = none) (h : pv X W a G C (natD n)) (hn : n ≤ 100000) (hg : Gl X "list" := by rfl) (hg2 : Gl X "range" := by rfl)
    (na2 : starEach [a] X.env = (false, eval a X.env) :: starEach [] X.env := by rfl) (na : starEach [.Call (.Name "range" p2) [a] [] pos2] X.env = (false, eval (.Call (.Name "range" p2) [a] [] pos2) X.env) :: starEach [] X.env := by rfl) :
    pv X W (.Call (.Name "list" p1) [.Call (.Name "range" p2) [a] [] pos2] [] pos) G C (lsE natD (List.range n)) :=
  wE_of (pe_listRg hc hg hm (prg_1 hg2 hm2 pe_sem na2) na) fun σ P H Q g z => h σ P H _ g fun d C1 v P1 H1 n1 r1 q => by
    obtain ⟨rfl, rfl⟩ := q
    cases r1
    refine ⟨_, rfl, RgOk.of_le (by omega) (by omega) (by omega) (by omega), fun p hp => ?_⟩
    have n2 := n1.good.new (o := .lst (rgV 0 (n : Int))) hp
    have rs : ∀ (P : Hp) (l : List Nat), Reps X.K P (l.map fun (i : Nat) => V.int (0 + (i : Nat))) (l.map natD) := fun P l => by
      induction l with
      | nil => exact .nil
      | cons i r ih => exact .cons (by show Rep X.K P (V.int (0 + (i : Nat))) (.int (i : Nat)); rw [Int.zero_add]; exact .int _) ih
    refine z _ _ (.ref p) _ _ (n1.tr n2) (.lst upd_same ?_) ⟨rfl, rfl⟩
    have e : ((n : Int) - 0).toNat = n := by omega
    unfold rgV
    rw [e]
    exact rs _ _
end EW

/-! Single steps to even plans. -/
namespace EW
open PySem PySem.Spec PyProof.Rows L2
open Classical in
/-- the chain of a lesson, as a list -/
noncomputable def chainOf (ps : List (Str × Str)) (hs : List Nat) (a hour : Nat) : List Nat := if h : ∃ r, ChainIs ps hs a hour r then h.choose else []
theorem chainOf_eq {ps : List (Str × Str)} {hs row : List Nat} {a hour : Nat} (h : ChainIs ps hs a hour row) : row = chainOf ps hs a hour := by
  have he : ∃ r, ChainIs ps hs a hour r := ⟨row, h⟩
  unfold chainOf
  rw [dif_pos he]
  exact h.uniq he.choose_spec
theorem chainOf_is {ps : List (Str × Str)} {hs : List Nat} {a hour : Nat} (ha : a < ps.length) (hl : hs.length = ps.length) : ChainIs ps hs a hour (chainOf ps hs a hour) := by
  obtain ⟨row, h⟩ := chain_some ps hs a hour ha hl
  rw [← chainOf_eq h]; exact h
structure EvenerIs (ps : List (Str × Str)) (hs : List Nat) (hours : Nat) (r : Option (Nat × Nat)) : Prop where
  no : maxN (cntL hs hours) - minN (cntL hs hours) < 2 → r = none
  yes : ¬ maxN (cntL hs hours) - minN (cntL hs hours) < 2 → ∃ a, r = some (a, (cntL hs hours).idxOf (minN (cntL hs hours))) ∧ a < hs.length ∧ gt hs a = (cntL hs hours).idxOf (maxN (cntL hs hours)) ∧
    (chainOf ps hs a ((cntL hs hours).idxOf (minN (cntL hs hours)))).length < 2 * hourIn hs (chainOf ps hs a ((cntL hs hours).idxOf (minN (cntL hs hours)))) ((cntL hs hours).idxOf (maxN (cntL hs hours)))
/-- the hours with the most and the fewest lessons -/
structure TwoHours (hs : List Nat) (hours one other : Nat) : Prop where
  l1 : one < hours
  l2 : other < hours
  e1 : hs.count one = maxN (cntL hs hours)
  e2 : hs.count other = minN (cntL hs hours)
theorem twoHours_of {hs : List Nat} {hours : Nat} (h : 0 < hours) : TwoHours hs hours ((cntL hs hours).idxOf (maxN (cntL hs hours))) ((cntL hs hours).idxOf (minN (cntL hs hours))) := by
  have pos := cnt_pos (hs := hs) h
  obtain ⟨a1, _⟩ := idx_spec (maxN_mem pos)
  obtain ⟨a2, _⟩ := idx_spec (minN_mem pos)
  have l1 := (List.getElem?_eq_some_iff.mp a1).1
  have l2 := (List.getElem?_eq_some_iff.mp a2).1
  have g1 := gt_of a1
  have g2 := gt_of a2
  rw [cnt_len] at l1 l2
  rw [cnt_gt l1] at g1
  rw [cnt_gt l2] at g2
  exact ⟨l1, l2, g1, g2⟩
theorem ev_counts {ps : List (Str × Str)} {hs row : List Nat} {a one other : Nat} (c : ClearPlan ps hs) (ha : a < hs.length) (hh : gt hs a = one) (hne : one ≠ other) (hr : ChainIs ps hs a other row) (hf : row.length < 2 * hourIn hs row one) :
    (exch hs row one other).count one + 1 = hs.count one ∧ (exch hs row one other).count other = hs.count other + 1 ∧ ∀ h, h ≠ one → h ≠ other → (exch hs row one other).count h = hs.count h := by
  have hl := c.len
  have hd := chain_diff c hr (by omega) one
  have ht := row_two hr ha hl hh hne
  obtain ⟨c1, c2, c3⟩ := exch_count hr ha hl hh hne
  exact ⟨by omega, by omega, c3⟩
theorem sq_less {hs r : List Nat} {hours one other : Nat} (h1 : one < hours) (h2 : other < hours) (hne : one ≠ other) (e3 : r.count one + 1 = hs.count one) (e4 : r.count other = hs.count other + 1) (e5 : ∀ h, h ≠ one → h ≠ other → r.count h = hs.count h) (far : hs.count other + 1 < hs.count one) : sqN r hours + 2 ≤ sqN hs hours := by
  have := sumN_two (f := fun h => r.count h * r.count h) (g := fun h => hs.count h * hs.count h) h1 h2 hne fun k _ k1 k2 => by rw [e5 k k1 k2]
  have st := sq_step far
  have e6 : hs.count one - 1 = r.count one := by omega
  rw [e6, ← e4] at st
  unfold sqN
  omega
theorem sq_sum (f : Nat → Nat) : ∀ n, sumN (fun h => f h * f h) n ≤ sumN f n * sumN f n
  | 0 => Nat.le_refl _
  | n + 1 => by
    show sumN (fun h => f h * f h) n + f n * f n ≤ (sumN f n + f n) * (sumN f n + f n)
    have := sq_sum f n
    rw [Nat.add_mul, Nat.mul_add, Nat.mul_add]
    omega
theorem sumN_sum (f : Nat → Nat) : ∀ n, sumN f n = ((List.range n).map f).sum
  | 0 => rfl
  | n + 1 => by
    show sumN f n + f n = _
    rw [List.range_succ, List.map_append, List.sum_append, ← sumN_sum f n]; simp
theorem sq_le (hs : List Nat) (hours : Nat) : sqN hs hours ≤ hs.length * hs.length := by
  have h1 := sq_sum (fun h => hs.count h) hours
  have h2 : sumN (fun h => hs.count h) hours ≤ hs.length := by
    rw [sumN_sum]
    have : ((List.range hours).map fun h => hs.count h).sum = (cntL hs hours).sum := rfl
    rw [this, cnt_sum]
    exact List.length_filter_le _ _
  exact Nat.le_trans h1 (Nat.mul_le_mul h2 h2)
end EW

/-! list(d.values()). -/
namespace EW
open PySem PySem.Spec PyProof.Rows L2
theorem vals_kv : ∀ {kvs : List (Key × V)} {vs : List (Key × Value)}, KV kvs vs → Vals (kvs.map (·.2)) (vs.map (·.2))
  | _, _, .nil => .nil
  | _, _, .cons h t => .cons h.2 (vals_kv t)
section
variable {X : Cx} {e : Expr} {te : TE} {p apos cpos pos : Pos}
def tListVals (te : TE) : TE := fun σ H Q => te σ H fun x H1 => ∃ (d : Addr) (kvs : List (Key × V)), x = .ref d ∧ Rd H1 d (.dK kvs) ∧ ∀ p, H1 p = none → Q (.ref p) (upd H1 p (.lst (kvs.map (·.2))))
theorem pe_listVals (hc : X.calm = true) (he : PE X e te) (hg : Gl X "list") (hm : X.mg "list" = none) (hv : bootBuiltins "list" = some (.type "list")) (hbase : attributeBase e "values" X.env (eval e X.env) = eval e X.env := by rfl) (hline : (apos.endLine == cpos.line) = true := by rfl)
    (hs : starEach [.Call (.Attribute e "values" apos) [] [] cpos] X.env = (false, eval (.Call (.Attribute e "values" apos) [] [] cpos) X.env) :: starEach [] X.env := by rfl) :
    PE X (.Call (.Name "list" p) [.Call (.Attribute e "values" apos) [] [] cpos] [] pos) (tListVals te) := by
  refine ⟨fun pins s σ H Q I hq => ?_⟩
  refine wpAny_Call_Name_kw (ld_blt I hg hm hv ?_)
  refine PyProof.Rows.callWith_type1 ?_ hs rfl
  rw [hs]
  show wpAny _ _ (spliced ((false, eval (.Call (.Attribute e "values" apos) [] [] cpos) X.env) :: backTo pos (starEach [] X.env))) _ _ s
  refine Calls.spliced_cons ?_
  refine wpAny_Call_method (T := "dict") (id := "dict.values") hbase rfl hline F.plainAttrs_dict F.slot_dict_values F.type_dict_values (thn (he.run pins s σ H _ I hq) fun u s1 ⟨x, H1, I1, rx, d, kvs, ex, hd, q⟩ => ?_)
  subst ex
  obtain rfl : u = Value.ref d := rx
  obtain ⟨hz, hs0, vs, kv, hdo⟩ := dk_rd I1.hok hd
  obtain ⟨ep, hat⟩ := hdo.dictAt
  have lk : kvs.length = vs.length := Paired.length kv
  have I2 : Inv X pins σ H1 { s1 with heap := s1.heap.push { cls := .type "dict_values", data := .fields #[.ref d] } } := I1.kept (t' := s1.toks) fun b ob q => Heap.get?_push_of_some _ q
  refine ⟨hdo.typeIs, hdo.mapOf.noDict, ?_⟩
  show wpAny _ _ (callWith cpos (.builtin "dict.values") [.ref d] [] []) _ X.xe s1
  refine method_meetsIn F.slot_dict_values F.entry_dict_values rfl (PySem.evalArgs_none ⟨rfl, hdo.typeIs, F.args_dict_values_1 _, _, meets_dict_values (mixKind X.prog X.w) d hs0, ⟨vs, hdo⟩, ?_⟩)
  refine Calls.spliced_nil ?_
  refine PySem.W.kdl_call (PySem.W.kdl_values (knd := mixKind X.prog X.w) (kvs := vs) (d := d) (ep := ep)) (I1.ok.hd hc) ⟨⟨_, Heap.get?_push_size _ rfl, rfl, rfl⟩, hat.push _⟩ (by omega) fun h' tk acc c' hk hD hacc => ?_
  have ea : acc.toList = vs.map (·.2) := PySem.W.kdl_vals_eq acc.toList (by rw [Array.length_toList]; exact hacc.1) fun j v e => hacc.2 j v (by rw [← Array.getElem?_toList]; exact e)
  refine ⟨.ref _, upd H1 _ (.lst (kvs.map (·.2))), I2.laid (t' := tk) hk (Nat.le_refl _)
    (show ObjOk X.prog X.w _ _ _ (.lst (kvs.map (·.2))) from ⟨by rw [List.length_map]; exact hz, acc.toList, c', by rw [ea]; exact vals_kv kv, by rw [Array.toArray_toList]; exact hD⟩), rfl, q _ (I2.hok.fresh (Nat.le_refl _))⟩
end
theorem p_listVals {X : Cx} {W : Wd} {G : List (Option D)} {C : Cells} {e : Expr} {p1 apos cpos pos : Pos} {x : D} {κ α : Type} {kf : κ → Key} {f : α → D} {l : List (κ × α)} (hc : X.calm = true) (hm : X.mg "list" = none) (h : pv X W e G C x) (hd : DctIn C x (l.map fun q => kf q.1) (l.map fun q => f q.2)) (hg : Gl X "list" := by rfl)
    (hbase : attributeBase e "values" X.env (eval e X.env) = eval e X.env := by rfl) (hline : (apos.endLine == cpos.line) = true := by rfl)
    (hs : starEach [.Call (.Attribute e "values" apos) [] [] cpos] X.env = (false, eval (.Call (.Attribute e "values" apos) [] [] cpos) X.env) :: starEach [] X.env := by rfl) :
    pv X W (.Call (.Name "list" p1) [.Call (.Attribute e "values" apos) [] [] cpos] [] pos) G C (lsE f (l.map (·.2))) :=
  wE_of (pe_listVals hc pe_sem hg hm rfl hbase hline hs) fun σ P H Q g z => h σ P H _ g fun d C1 v P1 H1 n1 r1 q => by
    obtain ⟨rfl, rfl⟩ := q
    obtain ⟨a, vs, rfl, ha, hl, rs⟩ := dct_at n1.good r1 hd
    refine ⟨a, _, rfl, ha, fun p hp => ?_⟩
    rw [List.map_snd_zip (by omega)]
    have n2 := n1.good.new (o := .lst vs) hp
    exact z _ _ (.ref p) _ _ (n1.tr n2) (.lst upd_same (rs.ex' n2.ex)) ⟨by unfold lsE; rw [List.map_map]; rfl, rfl⟩
/-! what fit gives, as data -/
def fitK : FitV → Str
  | .person _ => "person"
  | .rooms _ => "rooms"
  | .plan _ => "plan"
theorem v_ixFit {X : Cx} {W : Wd} {G : List (Option D)} {C : Cells} {v : FitV} : ∀ k : KD, k (.str (fitK v)) C → xD X W (fitE v) (natD 0) G C k := fun k q => by
  cases v <;> exact xD_tup (i := 0) rfl q
theorem str_ne {x y : Str} {r : Bool} (h : (x == y) = false) : (PyData.eqv (.str x) (.str y) && r) = true ↔ False := by
  show ((x == y) && r) = true ↔ False
  rw [h]; exact ⟨(fun h => Bool.noConfusion h), False.elim⟩
theorem fit_ne {x y : Str} {d e : D} (h : (x == y) = false) : PyData.eqv (pyD (.tup [.str x, d])) (pyD (.tup [.str y, e])) = true ↔ False := by
  show (PyData.eqv (.str x) (.str y) && (PyData.eqv (pyD d) (pyD e) && true)) = true ↔ False
  exact str_ne h
instance : PlE fitE := ⟨fun v => by
    cases v with
    | person x => exact PlE.pl (f := prE D.str D.str) ("person", x)
    | rooms n => exact PlE.pl (f := prE D.str natD) ("rooms", n)
    | plan l => exact PlE.pl (f := prE D.str (lsE natD)) ("plan", l), fun a b => by
    have no : ∀ {p q : Prop}, (p ↔ False) → ¬ q → (p ↔ q) := fun h1 h2 => h1.trans ⟨False.elim, h2⟩
    cases a with
    | person x =>
      cases b with
      | person y => exact (PlE.eq (f := prE D.str D.str) ("person", x) ("person", y)).trans ⟨(fun h => by cases h; rfl), fun h => by cases h; rfl⟩
      | rooms m => exact no (fit_ne (x := "person") (y := "rooms") (by decide +kernel)) (fun h => by cases h)
      | plan m => exact no (fit_ne (x := "person") (y := "plan") (by decide +kernel)) (fun h => by cases h)
    | rooms n =>
      cases b with
      | person y => exact no (fit_ne (x := "rooms") (y := "person") (by decide +kernel)) (fun h => by cases h)
      | rooms m => exact (PlE.eq (f := prE D.str natD) ("rooms", n) ("rooms", m)).trans ⟨(fun h => by cases h; rfl), fun h => by cases h; rfl⟩
      | plan m => exact no (fit_ne (x := "rooms") (y := "plan") (by decide +kernel)) (fun h => by cases h)
    | plan l =>
      cases b with
      | person y => exact no (fit_ne (x := "plan") (y := "person") (by decide +kernel)) (fun h => by cases h)
      | rooms m => exact no (fit_ne (x := "plan") (y := "rooms") (by decide +kernel)) (fun h => by cases h)
      | plan m => exact (PlE.eq (f := prE D.str (lsE natD)) ("plan", l) ("plan", m)).trans ⟨(fun h => by cases h; rfl), fun h => by cases h; rfl⟩⟩
/-! loads -/
def loadsD (S : Sch) : List (Str × Nat) := (S.ts ++ S.cs).map fun x => (x, (numsOf S.ps x).length)
def mostLoad (S : Sch) : Nat := maxN ((S.ts ++ S.cs).map fun x => (numsOf S.ps x).length)
theorem loads_eq (S : Sch) : dcE keyS natD (loadsD S) = D.dct ((S.ts ++ S.cs).map Sum.inr) ((S.ts ++ S.cs).map fun x => natD (numsOf S.ps x).length) := by
  unfold dcE loadsD
  rw [List.map_map, List.map_map]; rfl
theorem max_is {l : List Nat} {m : Nat} (h : m ∈ l) (h2 : ∀ y ∈ l, y ≤ m) : m = maxN l :=
  Nat.le_antisymm (le_maxN h) (h2 _ (maxN_mem (List.length_pos_of_mem h)))
/-! range(a, b) -/
def rng2 (a b : Nat) : List Nat := (List.range (b - a)).map fun i => a + i
theorem rng2_mem {a b x : Nat} : x ∈ rng2 a b ↔ a ≤ x ∧ x < b := by
  unfold rng2
  rw [List.mem_map]
  exact ⟨fun ⟨i, hi, e⟩ => by have := List.mem_range.mp hi; omega, fun h => ⟨x - a, List.mem_range.mpr (by omega), by omega⟩⟩
theorem i_rg2 {X : Cx} {W : Wd} {G : List (Option D)} {C : Cells} {tg ea eb : Expr} {p' pos : Pos} {a b : Nat} (hm : X.mg "range" = none) (ha : pv X W ea G C (natD a)) (hb : pv X W eb G C (natD b)) (h1 : a ≤ 1000000) (h2 : b ≤ 1000000) (hg : Gl X "range" := by rfl)
    (hs : starEach [ea, eb] X.env = [(false, eval ea X.env), (false, eval eb X.env)] := by rfl) (hs2 : starEach [eb] X.env = [(false, eval eb X.env)] := by rfl) : pi X W tg (.Call (.Name "range" p') [ea, eb] [] pos) G C (rng2 a b) natD :=
  wI_rng2 hm (ha.w (hb.w ⟨(a : Int), (b : Int), rfl, rfl, ⟨by omega, by omega, by omega, by omega⟩, by
    unfold intsD rng2
    rw [List.map_map, show ((b : Int) - (a : Int)).toNat = b - a by omega]
    rfl, rfl⟩)) hg hs hs2
def fewestN (S : Sch) (rooms : Nat) : Nat := if rooms = 0 then max 1 (mostLoad S) else max (max 1 (mostLoad S)) ((S.ps.length + rooms - 1) / rooms)
def fewest (S : Sch) (rooms : Nat) : Int := ((fewestN S rooms : Nat) : Int)
theorem v_divI {X : Cx} {W : Wd} {G : List (Option D)} {C : Cells} {a b : Int} (h : 0 < b) (h2 : b < 1073741824) : ∀ k : KD, k (.int (a / b)) C → oD X W (binaryOp .FloorDiv) (.int a) (.int b) G C k := fun k q => o_fdiv ⟨h, h2⟩ q
theorem ok_bl {b : Bool} : Ok (D.bl b) := ok_of fd_bl (Nat.zero_le _) (Nat.zero_le _)
theorem fdS_name {x : Str} (h : isNameS x = true) : FitD (.str x) 8 0 := fd_str (name_len h) (name_chars h)
theorem okS_names {l : List Str} (h : ∀ x ∈ l, isNameS x = true) (hl : l.length ≤ 1000) : Ok (lsE D.str l) := ok_of (fd_ls (m := 1000) (fun x hx => fdS_name (h x hx)) hl) (by decide) (by decide)
theorem okS_person {x : Str} (h : isNameS x = true) : Ok (fitE (.person x)) :=
  ok_of (fd_pr (f := D.str) (g := D.str) (x := ("person", x)) (n := 8) (show FitD (.str "person") 8 0 from fd_str (by decide) (by decide)) (fdS_name h)) (by decide) (by decide)
end EW

/-! Some plan: by exhaustive search, and when one stands. -/
namespace EW
open PySem PySem.Spec PyProof.Rows L2
/-- a plan of the first n lessons -/
structure AnyIs (ps : List (Str × Str)) (n hours rooms : Nat) (l : List Nat) : Prop where
  len : l.length = n
  lt : ∀ h ∈ l, h < hours
  ok : ∀ a t, a < t → t < n → meetB (gt ps a) (gt ps t) = true → gt l a ≠ gt l t
  rm : rooms = 0 ∨ ∀ h, l.count h ≤ rooms
def AnyPlan (ps : List (Str × Str)) (hours rooms : Nat) : Prop := ∃ l, AnyIs ps ps.length hours rooms l
theorem any_nil {ps : List (Str × Str)} {hours rooms : Nat} {l : List Nat} : AnyIs ps 0 hours rooms l ↔ l = [] :=
  ⟨fun h => List.length_eq_zero_iff.mp h.len, fun h => by
    subst h
    exact ⟨rfl, (fun h hh => by cases hh), (fun a t _ ht => by omega), .inr fun h => by simp⟩⟩
theorem gt_app2 {l : List Nat} {h : Nat} : gt (l ++ [h]) l.length = h := gt_of (by simp)
theorem any_step {ps : List (Str × Str)} {n hours rooms : Nat} {l : List Nat} : AnyIs ps (n + 1) hours rooms l ↔ ∃ p h, l = p ++ [h] ∧ AnyIs ps n hours rooms p ∧ h < hours ∧ (∀ k, k < n → meetB (gt ps k) (gt ps n) = true → gt p k ≠ h) ∧ (rooms = 0 ∨ p.count h < rooms) := by
  constructor
  · intro ⟨h1, h2, h3, h4⟩
    rcases List.eq_nil_or_concat l with rfl | ⟨p, h, rfl⟩
    · cases h1
    · rw [List.concat_eq_append] at *
      have pl : p.length = n := by rw [List.length_append] at h1; simpa using h1
      refine ⟨p, h, rfl, ⟨pl, fun x hx => h2 x (List.mem_append_left _ hx), fun a t ha ht hm => ?_, ?_⟩, h2 h (by simp), fun k hk hm => ?_, ?_⟩
      · have := h3 a t ha (by omega) hm
        rw [gt_app1 (by omega), gt_app1 (by omega)] at this
        exact this
      · rcases h4 with h4 | h4
        · exact .inl h4
        · refine .inr fun x => Nat.le_trans ?_ (h4 x)
          rw [List.count_append]; omega
      · have := h3 k n hk (by omega) hm
        rw [gt_app1 (by omega), ← pl, gt_app2] at this
        exact this
      · rcases h4 with h4 | h4
        · exact .inl h4
        · refine .inr ?_
          have := h4 h
          rw [List.count_append] at this
          simp at this
          omega
  · intro ⟨p, h, e, ⟨h1, h2, h3, h4⟩, h5, h6, h7⟩
    subst e
    refine ⟨by rw [List.length_append, h1]; rfl, fun x hx => ?_, fun a t ha ht hm => ?_, ?_⟩
    · rcases List.mem_append.mp hx with hx | hx
      · exact h2 x hx
      · rw [List.mem_singleton.mp hx]; exact h5
    · by_cases e : t = n
      · subst e
        rw [gt_app1 (by omega)]
        have : gt (p ++ [h]) t = h := by rw [← h1]; exact gt_app2
        rw [this]
        exact h6 a ha hm
      · rw [gt_app1 (by omega), gt_app1 (by omega)]
        exact h3 a t ha (by omega) hm
    · rcases h7 with h7 | h7
      · exact .inl h7
      · rcases h4 with h4 | h4
        · exact .inl h4
        · refine .inr fun x => ?_
          rw [List.count_append, List.count_singleton]
          by_cases e : h = x
          · subst e; simp; omega
          · have : (h == x) = false := by simp [e]
            rw [this]; simp; exact h4 x
/-! when one stands -/
theorem filter_gt {α : Type} [Inhabited α] (l : List α) (q : α → Bool) : (l.filter q).length = ((List.range l.length).filter fun i => q (gt l i)).length := by
  conv => lhs; rw [all_gt l]
  rw [List.filter_map, List.length_map]; rfl
theorem sumR_le {r : Nat} : ∀ {l : List Nat}, (∀ x ∈ l, x ≤ r) → l.sum ≤ l.length * r
  | [], _ => by simp
  | a :: l, h => by
    have i1 := sumR_le (l := l) fun x hx => h x (List.mem_cons_of_mem _ hx)
    have ha := h a (List.mem_cons_self ..)
    rw [List.length_cons, Nat.add_mul, Nat.one_mul, List.sum_cons]
    omega
theorem one_side {S : Sch} (hn : SchNew S) {p : Str} (hp : p ∈ S.ts ++ S.cs) {x y : Str × Str} (hx : x ∈ S.ps) (hy : y ∈ S.ps) (h1 : p ∈ [x.1, x.2]) (h2 : p ∈ [y.1, y.2]) : meetB x y = true := by
  have nd := hn.nd
  rw [List.nodup_append] at nd
  have x1 := hn.ok.les x hx
  have y1 := hn.ok.les y hy
  simp only [List.mem_cons, List.not_mem_nil, or_false] at h1 h2
  refine meet_of ?_
  rcases List.mem_append.mp hp with hp | hp
  · left
    have a1 : p = x.1 := by
      rcases h1 with h1 | h1
      · exact h1
      · exact absurd h1 (nd.2.2 p hp x.2 x1.2)
    have a2 : p = y.1 := by
      rcases h2 with h2 | h2
      · exact h2
      · exact absurd h2 (nd.2.2 p hp y.2 y1.2)
    rw [← a1, ← a2]
  · right
    have a1 : p = x.2 := by
      rcases h1 with h1 | h1
      · exact absurd h1.symm (nd.2.2 x.1 x1.1 p hp)
      · exact h1
    have a2 : p = y.2 := by
      rcases h2 with h2 | h2
      · exact absurd h2.symm (nd.2.2 y.1 y1.1 p hp)
      · exact h2
    rw [← a1, ← a2]
theorem any_load {S : Sch} {hours rooms : Nat} {l : List Nat} (hn : SchNew S) (h : AnyIs S.ps S.ps.length hours rooms l) {p : Str} (hp : p ∈ S.ts ++ S.cs) : (numsOf S.ps p).length ≤ hours := by
  rw [nums_len, filter_gt]
  have hl := h.len
  obtain ⟨q, hq⟩ : ∃ q, q = (List.range S.ps.length).filter fun i => decide (p ∈ [(gt S.ps i).1, (gt S.ps i).2]) := ⟨_, rfl⟩
  rw [← hq]
  have qm : ∀ i ∈ q, i < S.ps.length ∧ p ∈ [(gt S.ps i).1, (gt S.ps i).2] := fun i hi => by
    rw [hq] at hi
    exact ⟨(rmem hi).1, of_decide_eq_true (rmem hi).2⟩
  have hnd : (q.map (gt l)).Nodup := by
    rw [List.nodup_iff_pairwise_ne, List.pairwise_map]
    have qn : q.Pairwise (· < ·) := by rw [hq]; exact List.Pairwise.filter _ List.pairwise_lt_range
    refine List.Pairwise.imp_of_mem (fun {a b} ha hb hab => ?_) qn
    obtain ⟨a1, a2⟩ := qm a ha
    obtain ⟨b1, b2⟩ := qm b hb
    exact h.ok a b hab b1 (one_side hn hp (gt_mem a1) (gt_mem b1) a2 b2)
  have := mem_len hnd fun x hx => by
    obtain ⟨i, hi, rfl⟩ := List.mem_map.mp hx
    exact h.lt _ (gt_mem (by have := (qm i hi).1; omega))
  rw [List.length_map] at this
  exact this
theorem any_none {S : Sch} {hours rooms : Nat} (hn : SchNew S) (h : AnyPlan S.ps hours rooms) : tooFull S hours rooms = none := by
  obtain ⟨l, h⟩ := h
  unfold tooFull
  rw [findF_no fun j z hj hz => decide_eq_false (by have := any_load hn h (List.mem_of_getElem? hz); omega)]
  show (if _ then _ else _) = _
  refine if_neg fun ⟨z1, z2⟩ => ?_
  have hl := h.len
  rcases h.rm with e | e
  · rw [e] at z1; omega
  · have s1 := cnt_sum l hours
    rw [List.filter_eq_self.mpr fun x hx => decide_eq_true (h.lt x hx)] at s1
    have s2 := sumR_le (l := cntL l hours) (r := rooms) fun x hx => by
      obtain ⟨y, _, rfl⟩ := List.mem_map.mp hx
      exact e y
    rw [cnt_len, Nat.mul_comm] at s2
    omega
theorem sumR_gt {r : Nat} : ∀ {l : List Nat}, (∀ x ∈ l, r ≤ x) → l.length * r ≤ l.sum ∧ ((∃ x ∈ l, r < x) → l.length * r < l.sum)
  | [], _ => ⟨by simp, fun ⟨x, hx, _⟩ => by cases hx⟩
  | a :: l, h => by
    obtain ⟨i1, i2⟩ := sumR_gt (l := l) fun x hx => h x (List.mem_cons_of_mem _ hx)
    have ha := h a (List.mem_cons_self ..)
    have e : (a :: l).length * r = l.length * r + r := by rw [List.length_cons, Nat.add_mul, Nat.one_mul]
    have e2 : (a :: l).sum = a + l.sum := by simp
    rw [e, e2]
    refine ⟨by omega, fun ⟨x, hx, hr⟩ => ?_⟩
    rcases List.mem_cons.mp hx with rfl | hx
    · omega
    · have := i2 ⟨x, hx, hr⟩; omega
theorem maxR_rooms {ps : List (Str × Str)} {l : List Nat} {hours rooms : Nat} (pf : PlanFor ps hours l) (ev : EvenN l hours) (h1 : 1 ≤ hours) (hr : 0 < rooms) (h : ¬ (0 < rooms * hours ∧ rooms * hours < ps.length)) : maxN (cntL l hours) ≤ rooms := by
  rcases Nat.lt_or_ge rooms (maxN (cntL l hours)) with hm | hm
  · exfalso
    apply h
    refine ⟨Nat.mul_pos hr h1, ?_⟩
    have e := (even_iff (by omega)).mp ev
    have hs := (sumR_gt (r := rooms) (l := cntL l hours) fun x hx => by have := minN_le hx; omega).2 ⟨_, maxN_mem (cnt_pos (by omega)), hm⟩
    rw [cnt_len, cnt_sum, List.filter_eq_self.mpr fun x hx => decide_eq_true (pf.lt x hx), pf.clear.len, Nat.mul_comm] at hs
    exact hs
  · exact hm
/-- a plan that fit gives -/
theorem fit_any {S : Sch} {hours rooms : Nat} {r : FitV} (h1 : 1 ≤ hours) (hf : FitIs S hours rooms r) (hn : tooFull S hours rooms = none) : AnyPlan S.ps hours rooms := by
  obtain ⟨l, _, pf, ev⟩ := hf.yes hn
  obtain ⟨_, hr⟩ := tooFull_none hn
  have c := pf.clear
  have hl := c.len
  refine ⟨l, hl, pf.lt, fun a t ha ht hm e => ?_, ?_⟩
  · have := c.ok t ht a ha
    rw [clashAt_gt (by omega) ht (by omega) (by omega), decide_eq_true e, hm] at this
    cases this
  · by_cases z : rooms = 0
    · exact .inl z
    · refine .inr fun h => ?_
      have hm := maxR_rooms pf ev h1 (by omega) hr
      by_cases hh : h < hours
      · exact Nat.le_trans (le_maxN (List.mem_map.mpr ⟨h, List.mem_range.mpr hh, rfl⟩)) hm
      · rw [List.count_eq_zero.mpr fun hx => hh (pf.lt h hx)]; exact Nat.zero_le _
theorem fit_kind {S : Sch} {hours rooms : Nat} {r : FitV} (hf : FitIs S hours rooms r) : fitK r = "plan" ↔ tooFull S hours rooms = none := by
  cases e : tooFull S hours rooms with
  | none =>
    obtain ⟨l, rfl, _⟩ := hf.yes e
    exact ⟨fun _ => rfl, fun _ => rfl⟩
  | some v =>
    rw [hf.no v e]
    refine ⟨fun h => ?_, fun h => by cases h⟩
    unfold tooFull at e
    cases e2 : (S.ts ++ S.cs).find? fun p => decide (hours < (numsOf S.ps p).length) with
    | some p =>
      rw [e2] at e
      cases e
      exact absurd (show ("person" : Str) = "plan" from h) (by decide +kernel)
    | none =>
      rw [e2] at e
      have e : (if 0 < rooms * hours ∧ rooms * hours < S.ps.length then some (FitV.rooms (hours * rooms)) else none) = some v := e
      split at e
      · cases e
        exact absurd (show ("rooms" : Str) = "plan" from h) (by decide +kernel)
      · cases e
theorem tooFull_iff {S : Sch} {hours rooms : Nat} (hp : 1 ≤ S.ts.length) (h1 : 1 ≤ hours) : tooFull S hours rooms = none ↔ mostLoad S ≤ hours ∧ (rooms = 0 ∨ S.ps.length ≤ hours * rooms) := by
  constructor
  · intro h
    obtain ⟨a, b⟩ := tooFull_none h
    refine ⟨?_, ?_⟩
    · have hm := maxN_mem (l := (S.ts ++ S.cs).map fun x => (numsOf S.ps x).length) (by rw [List.length_map, List.length_append]; omega)
      obtain ⟨x, hx, e⟩ := List.mem_map.mp hm
      have := a x hx
      unfold mostLoad
      rw [← e]; exact this
    · by_cases z : rooms = 0
      · exact .inl z
      · refine .inr ?_
        rw [Nat.mul_comm rooms hours] at b
        have := Nat.mul_pos h1 (by omega : 0 < rooms)
        omega
  · intro ⟨a, b⟩
    unfold tooFull
    rw [findF_no fun j z hj hz => decide_eq_false (by
      have : (numsOf S.ps z).length ≤ mostLoad S := le_maxN (List.mem_map.mpr ⟨z, List.mem_of_getElem? hz, rfl⟩)
      omega)]
    show (if _ then _ else _) = _
    refine if_neg fun ⟨z1, z2⟩ => ?_
    rw [Nat.mul_comm rooms hours] at z1 z2
    rcases b with b | b
    · rw [b] at z1; simp at z1
    · omega
end EW

/-! Dicts that change: d[k] = x, d.get(k, x), k in d; str(n). -/
namespace EW
open PySem PySem.Spec PyProof.Rows L2
/-- in its place, or at the end -/
def dcSet {κ α : Type} [DecidableEq κ] (l : List (κ × α)) (k : κ) (x : α) : List (κ × α) :=
  if (l.any fun q => decide (q.1 = k)) = true then l.map (fun q => if q.1 = k then (q.1, x) else q) else l ++ [(k, x)]
section
variable {κ α : Type} [DecidableEq κ] {kf : κ → Key} {f : α → D}
theorem any_dc [KyE kf] {l : List (κ × α)} {k : κ} : ∀ {vs : List V}, vs.length = l.length → (((l.map fun q => kf q.1).zip vs).any fun kv => decide (kv.1 = kf k)) = l.any fun q => decide (q.1 = k) := by
  induction l with
  | nil => intro vs _; rfl
  | cons q r ih =>
    intro vs hl
    cases vs with
    | nil => cases hl
    | cons v vs =>
      rw [List.map_cons, List.zip_cons_cons, List.any_cons, List.any_cons, ih (by simpa using hl)]
      congr 1
      exact decide_eq_decide.mpr ⟨fun e => KyE.inj _ _ e, fun e => by show kf q.1 = kf k; rw [e]⟩
theorem map_dc [KyE kf] {K : PySem.W.Frag} {P : Hp} {v : V} {x : α} (r : Rep K P v (f x)) {l : List (κ × α)} {k : κ} : ∀ {vs : List V}, vs.length = l.length → Reps K P vs (l.map fun q => f q.2) →
    ∃ vs' : List V, vs'.length = l.length ∧ ((l.map fun q => kf q.1).zip vs).map (fun kv => if kv.1 = kf k then (kv.1, v) else kv) = (l.map fun q => kf q.1).zip vs' ∧ Reps K P vs' ((l.map fun q => if q.1 = k then (q.1, x) else q).map fun q => f q.2) := by
  induction l with
  | nil => intro vs _ _; exact ⟨[], rfl, rfl, .nil⟩
  | cons q t ih =>
    intro vs hl rs
    cases rs with
    | @cons w _ ws _ r1 rs =>
      obtain ⟨vs', h1, h2, h3⟩ := ih (by simpa using hl) rs
      by_cases e : q.1 = k
      · refine ⟨v :: vs', by simp [h1], ?_, ?_⟩
        · rw [List.map_cons, List.zip_cons_cons, List.map_cons, List.zip_cons_cons, h2]
          show (if kf q.1 = kf k then (kf q.1, v) else (kf q.1, w)) :: _ = _
          rw [if_pos (by rw [e])]
        · rw [List.map_cons, List.map_cons, if_pos e]; exact .cons r h3
      · refine ⟨w :: vs', by simp [h1], ?_, ?_⟩
        · rw [List.map_cons, List.zip_cons_cons, List.map_cons, List.zip_cons_cons, h2]
          show (if kf q.1 = kf k then (kf q.1, v) else (kf q.1, w)) :: _ = _
          rw [if_neg fun z => e (KyE.inj _ _ z)]
        · rw [List.map_cons, List.map_cons, if_neg e]; exact .cons r1 h3
theorem put_dc [KyE kf] {K : PySem.W.Frag} {P : Hp} {v : V} {x : α} {k : κ} {l : List (κ × α)} {vs : List V} (r : Rep K P v (f x)) (hl : vs.length = l.length) (rs : Reps K P vs (l.map fun q => f q.2)) :
    ∃ vs', putK ((l.map fun q => kf q.1).zip vs) (kf k) v = ((dcSet l k x).map fun q => kf q.1).zip vs' ∧ ((dcSet l k x).map fun q => kf q.1).length = vs'.length ∧ Reps K P vs' ((dcSet l k x).map fun q => f q.2) := by
  unfold putK dcSet
  rw [any_dc hl]
  by_cases e : (l.any fun q => decide (q.1 = k)) = true
  · rw [if_pos e, if_pos e]
    obtain ⟨vs', h1, h2, h3⟩ := map_dc (kf := kf) (k := k) r hl rs
    have ek : ((l.map fun q => if q.1 = k then (q.1, x) else q).map fun q => kf q.1) = l.map fun q => kf q.1 := by
      rw [List.map_map]
      refine List.map_congr_left fun q _ => ?_
      show kf (if q.1 = k then (q.1, x) else q).1 = _
      by_cases z : q.1 = k
      · rw [if_pos z]
      · rw [if_neg z]
    exact ⟨vs', by rw [h2, ek], by rw [ek, List.length_map, h1], h3⟩
  · rw [if_neg e, if_neg e]
    refine ⟨vs ++ [v], ?_, by simp [hl], ?_⟩
    · rw [List.map_append, List.zip_append (by rw [List.length_map, hl])]; rfl
    · rw [List.map_append]; exact rs.app (.cons r .nil)
theorem dcSet_look {l : List (κ × α)} {k j : κ} {x : α} : dcLook (dcSet l k x) j = if j = k then some x else dcLook l j := by
  unfold dcSet
  by_cases e : (l.any fun q => decide (q.1 = k)) = true
  · rw [if_pos e]
    by_cases hj : j = k
    · rw [if_pos hj, hj]
      induction l with
      | nil => cases e
      | cons q r ih =>
        unfold dcLook at ih ⊢
        rw [List.map_cons, List.find?_cons]
        by_cases z : q.1 = k
        · rw [if_pos z]; show Option.map _ (match decide (q.1 = k) with | true => _ | false => _) = _; rw [decide_eq_true z]; rfl
        · rw [if_neg z]; show Option.map _ (match decide (q.1 = k) with | true => _ | false => _) = _; rw [decide_eq_false z]
          refine ih ?_
          rw [List.any_cons, decide_eq_false z, Bool.false_or] at e
          exact e
    · rw [if_neg hj]
      clear e
      induction l with
      | nil => rfl
      | cons q r ih =>
        unfold dcLook at ih ⊢
        rw [List.map_cons, List.find?_cons, List.find?_cons]
        have e1 : (if q.1 = k then (q.1, x) else q).1 = q.1 := by
          by_cases z : q.1 = k
          · rw [if_pos z]
          · rw [if_neg z]
        rw [e1]
        by_cases z : q.1 = j
        · have z2 : ¬ q.1 = k := fun w => hj (z.symm.trans w)
          rw [decide_eq_true z, if_neg z2]
        · rw [decide_eq_false z]; exact ih
  · rw [if_neg e]
    have hn : dcLook l k = none := by
      unfold dcLook
      rw [List.find?_eq_none.mpr fun q hq z => e (List.any_eq_true.mpr ⟨q, hq, z⟩)]; rfl
    unfold dcLook at hn ⊢
    rw [List.find?_append]
    by_cases hj : j = k
    · subst hj
      rw [if_pos rfl]
      cases e2 : l.find? fun q => decide (q.1 = j) with
      | some q => rw [e2] at hn; cases hn
      | none => simp
    · rw [if_neg hj]
      have : List.find? (fun q : κ × α => decide (q.1 = j)) [(k, x)] = none := by simp [Ne.symm hj]
      rw [this]
      simp
end
section
variable {X : Cx} {W : Wd} {G : List (Option D)} {C : Cells} {k : KD} {o i e : Expr} {pos apos cpos : Pos} {κ α : Type} [DecidableEq κ] {kf : κ → Key} {f : α → D}
/-- d[k] = x, d a cell -/
theorem wG_ixD [KyE kf] (hu : X.A.units + 1 < cLine) (j : Nat) {d : D} {kg : List (Option D) → Cells → Prop} (h : wE X W o G C fun d1 C1 => wE X W i G C1 fun d2 C2 => ∃ (p : Addr) (l : List (κ × α)) (k : κ) (x : α), d1 = .ref p ∧ d2 = keyD (kf k) ∧ d = f x ∧ C2[j]? = some (p, dcC kf f l) ∧ l.length < 100000 ∧ kg G (C2.set j (p, dcC kf f (dcSet l k x))))
    (ha : ∀ v, assign (.Subscript o i pos) X.env v = (do
      let ov ← holding [v] (eval o X.env)
      let iv ← holding [v, ov] (eval i X.env)
      standAt pos
      holding [v, ov, iv] (setItem ov iv v)
      release [v, ov, iv] []) := by intro _; rfl) : wG X W (.Subscript o i pos) d G C kg := fun σ P H Q v g r z pins s u I rv =>
  (pg_sub pe_sem pe_sem (set_dict hu) ha).run pins s σ H v u Q I rv (h σ P H _ g fun d1 C1 v1 P1 H1 n1 r1 q => q σ P1 H1 _ n1.good fun d2 C2 v2 P2 H2 n2 r2 q2 => by
    obtain ⟨p, l, k, x, rfl, rfl, rfl, hc, hm, q2⟩ := q2
    cases r1
    have hk := rep_key r2
    subst hk
    obtain ⟨o', ho, vs, rfl, hl, rs⟩ := n2.good.cell hc
    have hl2 : vs.length = l.length := by rw [← hl, List.length_map]
    have rx := (r.ex' n1.ex).ex' n2.ex
    obtain ⟨vs', e1, e2, e3⟩ := put_dc (kf := kf) (k := k) rx hl2 rs
    refine ⟨p, _, rfl, DPut.k ho (by rw [List.length_zip, List.length_map, hl2, Nat.min_self, sizeLine_eq]; omega), ?_⟩
    rw [e1]
    exact z G _ σ P2 _ (n1.tr (n2.tr ⟨Ex.rfl' _, n2.good.write (c' := dcC kf f (dcSet l k x)) hc ⟨vs', rfl, e2, e3⟩⟩)) q2)
theorem dcLook_dget [KyE kf] {l : List (κ × α)} {k : κ} {vs : List V} {K : PySem.W.Frag} {P : Hp} (hl : (l.map fun q => kf q.1).length = vs.length) (rs : Reps K P vs (l.map fun q => f q.2)) : (dcLook l k = none → valV ((l.map fun q => kf q.1).zip vs) (kf k) = none) ∧ ∀ x, dcLook l k = some x → ∃ v, valV ((l.map fun q => kf q.1).zip vs) (kf k) = some v ∧ Rep K P v (f x) := by
  refine ⟨fun h => ?_, fun x h => dget_some hl rs (by rw [dget_dc, h]; rfl)⟩
  have e := valV_any (kf k) ((l.map fun q => kf q.1).zip vs)
  rw [any_dc (by rw [← hl, List.length_map])] at e
  have : (l.any fun q => decide (q.1 = k)) = false := by
    unfold dcLook at h
    cases e2 : l.find? fun q => decide (q.1 = k) with
    | some q => rw [e2] at h; cases h
    | none =>
      rw [List.find?_eq_none] at e2
      cases e3 : l.any fun q => decide (q.1 = k) with
      | false => rfl
      | true =>
        obtain ⟨q, hq, z⟩ := List.any_eq_true.mp e3
        exact absurd z (e2 q hq)
  rw [this] at e
  cases e4 : valV ((l.map fun q => kf q.1).zip vs) (kf k) with
  | none => rfl
  | some v => rw [e4] at e; cases e
/-- d.get(k, x) -/
theorem p_dget2 [KyE kf] {e2 : Expr} {x : D} {l : List (κ × α)} {k : κ} {y : α} {nn : Nat} (hr : Room nn X.A) (hd : DctIn C x (l.map fun q => kf q.1) (l.map fun q => f q.2)) (ho : pv X W o G C x) (hi : pv X W i G C (keyD (kf k))) (he : pv X W e2 G C (f y)) (m : M2 X o "get" apos i e2 cpos := by exact ⟨rfl, rfl, rfl, rfl⟩) : pv X W (.Call (.Attribute o "get" apos) [i, e2] [] cpos) G C (f ((dcLook l k).getD y)) :=
  wE_of (pe_dget2 (room_u1 hr) pe_sem pe_sem pe_sem m) fun σ P H Q g z => ho σ P H _ g fun x1 C1 v P1 H1 n1 r1 q => by
    obtain ⟨rfl, rfl⟩ := q
    obtain ⟨a, vs, rfl, ha, hl, rs⟩ := dct_at n1.good r1 hd
    refine ⟨a, rfl, .inl ⟨_, ha⟩, hi σ P1 H1 _ n1.good fun y1 C2 u P2 H2 n2 r2 q => ?_⟩
    obtain ⟨rfl, rfl⟩ := q
    refine he σ P2 H2 _ n2.good fun y2 C3 u2 P3 H3 n3 r3 q => ?_
    obtain ⟨rfl, rfl⟩ := q
    have hk := rep_key r2
    subst hk
    obtain ⟨a2, vs2, ea, ha2, hl2, rs2⟩ := dct_at n3.good ((r1.ex' n2.ex).ex' n3.ex) hd
    cases ea
    obtain ⟨w1, w2⟩ := dcLook_dget (k := k) hl2 rs2
    refine ⟨_, .inl ⟨_, kf k, ha2, rfl, rfl⟩, ?_⟩
    cases e5 : dcLook l k with
    | none => rw [w1 e5]; exact z _ _ _ P3 H3 (n1.tr (n2.tr n3)) r3 ⟨by rw [e5]; rfl, rfl⟩
    | some b =>
      obtain ⟨v, e6, r6⟩ := w2 b e5
      rw [e6]
      exact z _ _ _ P3 H3 (n1.tr (n2.tr n3)) r6 ⟨by rw [e5]; rfl, rfl⟩
end
/-- str(n) -/
def strN (n : Nat) : Str := Str.ofString (toString (n : Int))
theorem v_strN {X : Cx} {W : Wd} {G : List (Option D)} {C : Cells} {n : Nat} (h : n < 1000000) : ∀ k : KD, k (.str (strN n)) C → cD X W (.type "str") [natD n] G C k := fun k q => cD_of call_str_int fun σ P H Q vs g rr z => by
  obtain ⟨v, rfl, r⟩ := reps1 rr
  cases r
  refine ⟨_, rfl, ?_, z _ C _ P H g.refl (.str _) q⟩
  have : (n : Int).natAbs = n := rfl
  rw [this]
  by_cases e : n = 0
  · subst e; decide
  · exact Nat.lt_trans ((Nat.log2_lt (k := 20) e).mpr (by omega)) (by decide)
def strI (i : Int) : Str := Str.ofString (toString i)
theorem v_strI {X : Cx} {W : Wd} {G : List (Option D)} {C : Cells} {i : Int} (h : i.natAbs < 1000000) : ∀ k : KD, k (.str (strI i)) C → cD X W (.type "str") [.int i] G C k := fun k q => cD_of call_str_int fun σ P H Q vs g rr z => by
  obtain ⟨v, rfl, r⟩ := reps1 rr
  cases r
  refine ⟨_, rfl, ?_, z _ C _ P H g.refl (.str _) q⟩
  by_cases e : i.natAbs = 0
  · rw [e]; decide
  · exact Nat.lt_trans ((Nat.log2_lt (k := 20) e).mpr (by omega)) (by decide)
theorem io_at2 {io : List Addr} {R : Cells} {i : Nat} (Z Z2 : Cells) (hZ : Z.length = i + 1) (h : io = R.map (·.1)) : ∀ a ∈ io, ∃ j c, j ≠ i ∧ (Z ++ (Z2 ++ R))[j]? = some (a, c) := fun a ha => by
  rw [h] at ha
  obtain ⟨q, hq, rfl⟩ := List.mem_map.mp ha
  obtain ⟨m, hm⟩ := List.mem_iff_getElem?.mp hq
  refine ⟨Z.length + (Z2.length + m), q.2, by omega, ?_⟩
  rw [List.getElem?_append_right (by omega), List.getElem?_append_right (by omega)]
  rw [show Z.length + (Z2.length + m) - Z.length - Z2.length = m by omega]
  exact hm
theorem v_isB {X : Cx} {W : Wd} {G : List (Option D)} {C : Cells} {s t : Bool} : ∀ k : KD, k (.bl (decide (s = t))) C → oD X W (compareOp .Is) (.bl s) (.bl t) G C k := fun k q => o_isB q
theorem v_isntB {X : Cx} {W : Wd} {G : List (Option D)} {C : Cells} {s t : Bool} : ∀ k : KD, k (.bl (!decide (s = t))) C → oD X W (compareOp .IsNot) (.bl s) (.bl t) G C k := fun k q => oD_of op_notBl fun σ P H Q v u g r1 r2 z => by
  cases r1; cases r2; exact ⟨s, t, rfl, rfl, z _ C _ P H g.refl (.bl _) q⟩
end EW

/-! Lessons with each person split into parts. -/
namespace EW
open PySem PySem.Spec PyProof.Rows L2
/-- the persons of some lessons, in order -/
def flatP (ps : List (Str × Str)) : List Str := ps.flatMap fun q => [q.1, q.2]
def partN (seen : List Str) (x : Str) (days : Nat) : Str := x ++ strI (((seen.count x : Nat) : Int) / ((days : Nat) : Int))
def partedL (ps : List (Str × Str)) (days : Nat) : List (Str × Str) := (List.range ps.length).map fun i => (partN (flatP (ps.take i)) (gt ps i).1 days, partN (flatP (ps.take i) ++ [(gt ps i).1]) (gt ps i).2 days)
def partedS (S : Sch) (days : Nat) : List (Str × Str) := partedL S.ps days
/-- what the dict holds -/
structure CntIs (counts : List (Str × Int)) (seen : List Str) : Prop where
  len : counts.length ≤ seen.length
  get : ∀ x, dcLook counts x = if seen.count x = 0 then none else some (((seen.count x : Nat) : Int) - 1)
theorem cnt_nil : CntIs [] [] := ⟨Nat.le_refl _, fun x => rfl⟩
theorem dcSet_len {κ α : Type} [DecidableEq κ] {l : List (κ × α)} {k : κ} {x : α} : (dcSet l k x).length ≤ l.length + 1 := by
  unfold dcSet
  split
  · rw [List.length_map]; omega
  · rw [List.length_append]; simp
theorem cnt_getD {counts : List (Str × Int)} {seen : List Str} (h : CntIs counts seen) (x : Str) : (dcLook counts x).getD (-1 : Int) + ((1 : Nat) : Int) = ((seen.count x : Nat) : Int) := by
  rw [h.get]
  by_cases e : seen.count x = 0
  · rw [if_pos e, e]; rfl
  · rw [if_neg e]; show _ - 1 + 1 = _; omega
theorem cnt_snoc {counts : List (Str × Int)} {seen : List Str} (h : CntIs counts seen) (x : Str) : CntIs (dcSet counts x ((seen.count x : Nat) : Int)) (seen ++ [x]) := by
  refine ⟨?_, fun y => ?_⟩
  · have := h.len
    have := dcSet_len (l := counts) (k := x) (x := ((seen.count x : Nat) : Int))
    rw [List.length_append]; simp; omega
  · rw [dcSet_look, List.count_append, List.count_singleton]
    by_cases e : y = x
    · subst e
      rw [if_pos rfl]
      have : (y == y) = true := by simp
      rw [this, if_neg (by simp)]
      congr 1
      show _ = ((seen.count y + 1 : Nat) : Int) - 1
      omega
    · have : (x == y) = false := by simp [Ne.symm e]
      rw [if_neg e, this]
      show _ = if seen.count y + 0 = 0 then none else _
      rw [h.get]
      rfl
theorem flatP_snoc {ps : List (Str × Str)} {i : Nat} (h : i < ps.length) : flatP (ps.take (i + 1)) = flatP (ps.take i) ++ [(gt ps i).1] ++ [(gt ps i).2] := by
  unfold flatP
  rw [take_snoc h, List.flatMap_append]
  simp
theorem flatP_len (ps : List (Str × Str)) : (flatP ps).length = 2 * ps.length := by
  unfold flatP
  induction ps with
  | nil => rfl
  | cons q r ih => rw [List.flatMap_cons, List.length_append, ih]; simp; omega
theorem partedL_take {ps : List (Str × Str)} {days i : Nat} (h : i < ps.length) : (partedL ps days).take (i + 1) = (partedL ps days).take i ++ [(partN (flatP (ps.take i)) (gt ps i).1 days, partN (flatP (ps.take i) ++ [(gt ps i).1]) (gt ps i).2 days)] := by
  have hl : (partedL ps days).length = ps.length := by unfold partedL; rw [List.length_map, List.length_range]
  rw [take_snoc (by rw [hl]; exact h)]
  congr 2
  unfold partedL
  rw [gt_map (by rw [List.length_range]; exact h), gt_of (List.getElem?_range h)]
theorem strI_len {i : Int} (h0 : 0 ≤ i) (h : i < 1000) : (strI i).length ≤ 10 := by
  obtain ⟨n, rfl⟩ : ∃ n : Nat, i = n := ⟨i.toNat, by omega⟩
  have key : ∀ n : Fin 1000, (strI ((n.val : Nat) : Int)).length ≤ 10 := by decide +kernel
  exact key ⟨n, by omega⟩
end EW

/-! Days that are even for each person. -/
namespace EW
open PySem PySem.Spec PyProof.Rows L2
/-- distinct within each part of d -/
def Chunky (l : List Nat) (d : Nat) : Prop := ∀ m m', m < m' → m' < l.length → m / d = m' / d → gt l m ≠ gt l m'
theorem nodup_gt {l : List Nat} (h : ∀ m m', m < m' → m' < l.length → gt l m ≠ gt l m') : l.Nodup := by
  rw [List.nodup_iff_pairwise_ne, List.pairwise_iff_getElem]
  intro i j hi hj hij e
  refine h i j hij hj ?_
  rw [gt_of (List.getElem?_eq_getElem hi), gt_of (List.getElem?_eq_getElem hj)]
  exact e
theorem full_count {l : List Nat} {d x : Nat} (hn : l.Nodup) (hl : l.length = d) (hlt : ∀ y ∈ l, y < d) (hx : x < d) : l.count x = 1 := by
  have hm : x ∈ l := by
    apply Classical.byContradiction
    intro hno
    have := mem_len (l := x :: l) (n := d) (List.nodup_cons.mpr ⟨hno, hn⟩) fun y hy => by
      rcases List.mem_cons.mp hy with rfl | hy
      · exact hx
      · exact hlt y hy
    rw [List.length_cons] at this
    omega
  have h1 := List.nodup_iff_count.mp hn x
  have h2 := List.count_pos_iff.mpr hm
  omega
theorem chunky_even : ∀ (n : Nat) (l : List Nat) (d : Nat), l.length ≤ n → 0 < d → (∀ y ∈ l, y < d) → Chunky l d → EvenN l d
  | 0, l, d, hn, hd, hlt, hc => by
    have : l = [] := List.length_eq_zero_iff.mp (by omega)
    subst this
    intro i j _ _; simp
  | n + 1, l, d, hn, hd, hlt, hc => by
    by_cases hl : l.length ≤ d
    · have nd : l.Nodup := nodup_gt fun m m' h1 h2 => hc m m' h1 h2 (by rw [Nat.div_eq_of_lt (by omega), Nat.div_eq_of_lt (by omega)])
      intro i j _ _
      have := List.nodup_iff_count.mp nd i
      omega
    · have e : l = l.take d ++ l.drop d := (List.take_append_drop d l).symm
      have tl : (l.take d).length = d := by rw [List.length_take]; omega
      have dl : (l.drop d).length = l.length - d := List.length_drop
      have gtk : ∀ m, m < d → gt (l.take d) m = gt l m := fun m hm => gt_of (by rw [List.getElem?_take, if_pos hm]; exact gt_some (by omega))
      have gdr : ∀ m, m < l.length - d → gt (l.drop d) m = gt l (m + d) := fun m hm => gt_of (by rw [List.getElem?_drop, Nat.add_comm]; exact gt_some (by omega))
      have nd : (l.take d).Nodup := nodup_gt fun m m' h1 h2 => by
        rw [gtk m (by omega), gtk m' (by omega)]
        exact hc m m' h1 (by omega) (by rw [Nat.div_eq_of_lt (by omega), Nat.div_eq_of_lt (by omega)])
      have ih := chunky_even n (l.drop d) d (by omega) hd (fun y hy => hlt y (List.mem_of_mem_drop hy)) fun m m' h1 h2 h3 => by
        rw [gdr m (by omega), gdr m' (by omega)]
        refine hc (m + d) (m' + d) (by omega) (by omega) ?_
        rw [Nat.add_div_right _ hd, Nat.add_div_right _ hd, h3]
      intro i j hi hj
      have c1 := full_count nd tl (fun y hy => hlt y (List.mem_of_mem_take hy)) hi
      have c2 := full_count nd tl (fun y hy => hlt y (List.mem_of_mem_take hy)) hj
      have h := ih i j hi hj
      rw [e, List.count_append, List.count_append, c1, c2]
      omega
/-- the place of an item of a filtered range -/
theorem filter_rank {q : Nat → Bool} : ∀ {n m i : Nat}, ((List.range n).filter q)[m]? = some i → ((List.range i).filter q).length = m
  | 0, m, i, h => by simp at h
  | n + 1, m, i, h => by
    rw [List.range_succ, List.filter_append] at h
    by_cases hm : m < ((List.range n).filter q).length
    · rw [List.getElem?_append_left hm] at h
      exact filter_rank h
    · rw [List.getElem?_append_right (by omega)] at h
      cases hq : q n with
      | false =>
        rw [List.filter_cons_of_neg (by rw [hq]; simp)] at h
        simp at h
      | true =>
        rw [List.filter_cons_of_pos hq] at h
        have h0 : m - ((List.range n).filter q).length = 0 := by
          have := (List.getElem?_eq_some_iff.mp h).1
          simp at this
          omega
        rw [h0] at h
        cases h
        omega
theorem nums_range (ps : List (Str × Str)) (p : Str) : numsOf ps p = (List.range ps.length).filter fun i => decide (p ∈ [(gt ps i).1, (gt ps i).2]) := by
  unfold numsOf
  have e : ps.zipIdx = (List.range ps.length).map fun i => (gt ps i, i) := by
    apply List.ext_getElem?
    intro i
    rw [List.getElem?_zipIdx, List.getElem?_map]
    by_cases hi : i < ps.length
    · rw [gt_some hi, List.getElem?_range hi]; simp
    · rw [List.getElem?_eq_none (by omega), List.getElem?_eq_none (by rw [List.length_range]; omega)]; rfl
  rw [e, List.filter_map, List.map_map]
  have : ((fun x : (Str × Str) × Nat => x.2) ∘ fun i => (gt ps i, i)) = id := rfl
  rw [this, List.map_id]
  rfl
/-- how often a person stands among the first lessons -/
theorem flat_count {S : Sch} (hn : SchNew S) {p : Str} (hp : p ∈ S.ts ++ S.cs) : ∀ {i : Nat}, i ≤ S.ps.length → (flatP (S.ps.take i)).count p = ((List.range i).filter fun j => decide (p ∈ [(gt S.ps j).1, (gt S.ps j).2])).length
  | 0, _ => rfl
  | i + 1, hi => by
    have ih := flat_count hn hp (i := i) (by omega)
    have il : i < S.ps.length := by omega
    have nd := (List.nodup_append.mp hn.nd).2.2
    have ym := hn.ok.les _ (gt_mem il)
    have hne : (gt S.ps i).1 ≠ (gt S.ps i).2 := nd _ ym.1 _ ym.2
    rw [flatP_snoc il, List.count_append, List.count_append, ih, List.range_succ, List.filter_append, List.length_append, Nat.add_assoc]
    congr 1
    rw [List.count_singleton, List.count_singleton]
    by_cases h1 : (gt S.ps i).1 = p
    · have h2 : ¬ (gt S.ps i).2 = p := fun z => hne (h1.trans z.symm)
      rw [List.filter_cons_of_pos (by rw [decide_eq_true_iff, h1]; simp)]
      simp [h1, h2]
    · by_cases h2 : (gt S.ps i).2 = p
      · rw [List.filter_cons_of_pos (by rw [decide_eq_true_iff, h2]; simp)]
        simp [h1, h2]
      · rw [List.filter_cons_of_neg (by
          rw [decide_eq_true_iff]
          simp only [List.mem_cons, List.not_mem_nil, or_false]
          exact fun z => z.elim (fun z => h1 z.symm) fun z => h2 z.symm)]
        simp [h1, h2]
end EW

/-! Parts and days. -/
namespace EW
open PySem PySem.Spec PyProof.Rows L2
theorem app_inj {A B C D : List Nat} (hA : ∀ x ∈ A, 97 ≤ x) (hC : ∀ x ∈ C, 97 ≤ x) (hB : ∀ x ∈ B, x < 97) (hD : ∀ x ∈ D, x < 97) (h : A ++ B = C ++ D) : A = C ∧ B = D := by
  induction A generalizing C with
  | nil =>
    cases C with
    | nil => exact ⟨rfl, h⟩
    | cons c C =>
      have h : B = c :: (C ++ D) := h
      have h1 := hB c (by rw [h]; exact List.mem_cons_self ..)
      have h2 := hC c (List.mem_cons_self ..)
      omega
  | cons a A ih =>
    cases C with
    | nil =>
      have h : a :: (A ++ B) = D := h
      have h1 := hD a (by rw [← h]; exact List.mem_cons_self ..)
      have h2 := hA a (List.mem_cons_self ..)
      omega
    | cons c C =>
      have h : a :: (A ++ B) = c :: (C ++ D) := h
      injection h with h1 h2
      obtain ⟨e1, e2⟩ := ih (C := C) (fun x hx => hA x (List.mem_cons_of_mem _ hx)) (fun x hx => hC x (List.mem_cons_of_mem _ hx)) h2
      exact ⟨by rw [h1, e1], e2⟩
theorem strI_digits {n : Nat} (h : n < 100) : ∀ x ∈ (strI ((n : Nat) : Int)).cps.toList, x < 97 := by
  have key : ∀ n : Fin 100, ∀ x ∈ (strI ((n.val : Nat) : Int)).cps.toList, x < 97 := by decide +kernel
  exact key ⟨n, h⟩
theorem strI_inj {n m : Nat} (hn : n < 100) (hm : m < 100) (h : (strI ((n : Nat) : Int)).cps.toList = (strI ((m : Nat) : Int)).cps.toList) : n = m := by
  have key : ∀ n m : Fin 100, (strI ((n.val : Nat) : Int)).cps.toList = (strI ((m.val : Nat) : Int)).cps.toList → n = m := by decide +kernel
  have := key ⟨n, hn⟩ ⟨m, hm⟩ h
  exact congrArg Fin.val this
theorem name_big {w : Str} (h : isNameS w = true) : ∀ x ∈ w.cps.toList, 97 ≤ x := by
  unfold isNameS at h
  rw [Bool.and_eq_true] at h
  intro x hx
  have h1 := of_decide_eq_true (List.all_eq_true.mp h.2 x hx)
  have key : ∀ y ∈ lettersS.cps.toList, 97 ≤ y := by decide +kernel
  exact key x h1
theorem part_inj {x y : Str} {n m : Nat} (hx : isNameS x = true) (hy : isNameS y = true) (hn : n < 100) (hm : m < 100) (h : x ++ strI ((n : Nat) : Int) = y ++ strI ((m : Nat) : Int)) : x = y ∧ n = m := by
  have e : (x ++ strI ((n : Nat) : Int)).cps.toList = (y ++ strI ((m : Nat) : Int)).cps.toList := by rw [h]
  have ap : ∀ a b : Str, (a ++ b).cps.toList = a.cps.toList ++ b.cps.toList := fun a b => by
    show (a.cps ++ b.cps).toList = _
    simp
  rw [ap, ap] at e
  obtain ⟨e1, e2⟩ := app_inj (name_big hx) (name_big hy) (strI_digits hn) (strI_digits hm) e
  refine ⟨?_, strI_inj hn hm e2⟩
  cases x; cases y
  congr 1
  exact Array.toList_inj.mp e1
section
variable {S : Sch} {days : Nat}
/-- how many lessons of a person stand ahead -/
def rankP (S : Sch) (p : Str) (i : Nat) : Nat := ((List.range i).filter fun j => decide (p ∈ [(gt S.ps j).1, (gt S.ps j).2])).length
theorem rank_le {S : Sch} {p : Str} {i : Nat} : rankP S p i ≤ i := rlen
theorem rank_mono {S : Sch} {p : Str} {n : Nat} : ∀ k, rankP S p n ≤ rankP S p (n + k)
  | 0 => Nat.le_refl _
  | k + 1 => by
    refine Nat.le_trans (rank_mono k) ?_
    unfold rankP
    rw [← Nat.add_assoc, List.range_succ, List.filter_append, List.length_append]
    exact Nat.le_add_right _ _
theorem rank_lt {S : Sch} {p : Str} {i j : Nat} (hp : p ∈ [(gt S.ps i).1, (gt S.ps i).2]) (h : i < j) : rankP S p i < rankP S p j := by
  have h1 : rankP S p (i + 1) = rankP S p i + 1 := by
    unfold rankP
    rw [List.range_succ, List.filter_append, List.length_append]
    have e : ([i].filter fun j => decide (p ∈ [(gt S.ps j).1, (gt S.ps j).2])) = [i] := by rw [List.filter_cons, if_pos (decide_eq_true hp)]; rfl
    rw [e]; rfl
  have h2 := rank_mono (S := S) (p := p) (n := i + 1) (j - (i + 1))
  rw [show i + 1 + (j - (i + 1)) = j by omega] at h2
  omega
theorem part_t (hn : SchNew S) {i : Nat} (hi : i < S.ps.length) : (gt (partedL S.ps days) i).1 = (gt S.ps i).1 ++ strI ((rankP S (gt S.ps i).1 i / days : Nat) : Int) := by
  have ym := hn.ok.les _ (gt_mem hi)
  unfold partedL
  rw [gt_map (by rw [List.length_range]; exact hi), gt_of (List.getElem?_range hi)]
  show partN _ _ _ = _
  unfold partN
  rw [flat_count hn (List.mem_append_left _ ym.1) (by omega), Int.natCast_ediv]; rfl
theorem part_c (hn : SchNew S) {i : Nat} (hi : i < S.ps.length) : (gt (partedL S.ps days) i).2 = (gt S.ps i).2 ++ strI ((rankP S (gt S.ps i).2 i / days : Nat) : Int) := by
  have ym := hn.ok.les _ (gt_mem hi)
  have nd := (List.nodup_append.mp hn.nd).2.2
  have hne : ¬ (gt S.ps i).1 = (gt S.ps i).2 := nd _ ym.1 _ ym.2
  unfold partedL
  rw [gt_map (by rw [List.length_range]; exact hi), gt_of (List.getElem?_range hi)]
  show partN _ _ _ = _
  unfold partN
  have : (flatP (S.ps.take i) ++ [(gt S.ps i).1]).count (gt S.ps i).2 = (flatP (S.ps.take i)).count (gt S.ps i).2 := by
    rw [List.count_append, List.count_singleton]
    simp [hne]
  rw [this, flat_count hn (List.mem_append_right _ ym.2) (by omega), Int.natCast_ediv]; rfl
theorem parted_len (ps : List (Str × Str)) (days : Nat) : (partedL ps days).length = ps.length := by unfold partedL; rw [List.length_map, List.length_range]
/-- few lessons have one part -/
theorem few_parts (hd : 0 < days) {q : Nat → Bool} {p : Str} {k : Nat} (h : ∀ i, i < S.ps.length → q i = true → p ∈ [(gt S.ps i).1, (gt S.ps i).2] ∧ rankP S p i / days = k) : ((List.range S.ps.length).filter q).length ≤ days := by
  obtain ⟨l, hl⟩ : ∃ l, l = (List.range S.ps.length).filter q := ⟨_, rfl⟩
  rw [← hl]
  have lm : ∀ i ∈ l, p ∈ [(gt S.ps i).1, (gt S.ps i).2] ∧ rankP S p i / days = k := fun i hi => by
    rw [hl] at hi
    exact h i (rmem hi).1 (rmem hi).2
  have nd : (l.map fun i => rankP S p i - k * days).Nodup := by
    rw [List.nodup_iff_pairwise_ne, List.pairwise_map]
    have ln : l.Pairwise (· < ·) := by rw [hl]; exact List.Pairwise.filter _ List.pairwise_lt_range
    refine List.Pairwise.imp_of_mem (fun {a b} ha hb hab => ?_) ln
    have r := rank_lt (lm a ha).1 hab
    have a1 := Nat.div_mul_le_self (rankP S p a) days
    have b1 := Nat.div_mul_le_self (rankP S p b) days
    rw [(lm a ha).2] at a1
    rw [(lm b hb).2] at b1
    omega
  have := mem_len nd (n := days) fun y hy => by
    obtain ⟨i, hi, rfl⟩ := List.mem_map.mp hy
    have b := Nat.lt_mul_div_succ (rankP S p i) hd
    rw [(lm i hi).2, Nat.mul_add, Nat.mul_comm days k] at b
    have a1 := Nat.div_mul_le_self (rankP S p i) days
    rw [(lm i hi).2] at a1
    show rankP S p i - k * days < days
    omega
  rw [List.length_map] at this
  exact this
theorem rank_small (hn : SchNew S) {p : Str} {i : Nat} (hi : i < S.ps.length) : rankP S p i / days < 100 := by
  have := hn.ok.p40
  have h1 := rank_le (S := S) (p := p) (i := i)
  have h2 := Nat.div_le_self (rankP S p i) days
  omega
theorem parted_pre (hn : SchNew S) (hd : 1 ≤ days) (h40 : days ≤ 40) : PlanPre (partedL S.ps days) days := by
  have p40 := hn.ok.p40
  refine ⟨by rw [parted_len]; omega, fun x => ?_, fun x => ?_, h40⟩
  · unfold tlo
    rw [filter_gt, parted_len]
    by_cases he : ((List.range S.ps.length).filter fun i => decide ((gt (partedL S.ps days) i).1 = x)) = []
    · rw [he]; exact Nat.zero_le _
    · obtain ⟨i0, h0⟩ := List.exists_mem_of_ne_nil _ he
      obtain ⟨l0, e0⟩ := rmem h0
      have e0 := of_decide_eq_true e0
      rw [part_t hn l0] at e0
      refine few_parts (S := S) (by omega) (p := (gt S.ps i0).1) (k := rankP S (gt S.ps i0).1 i0 / days) fun i hi hq => ?_
      have hq := of_decide_eq_true hq
      rw [part_t hn hi, ← e0] at hq
      have a1 := (hn.ok.les _ (gt_mem hi)).1
      have a2 := (hn.ok.les _ (gt_mem l0)).1
      obtain ⟨z1, z2⟩ := part_inj (hn.ok.nm _ (List.mem_append_left _ a1)) (hn.ok.nm _ (List.mem_append_left _ a2)) (rank_small hn hi) (rank_small hn l0) hq
      rw [← z1] at z2 ⊢
      exact ⟨by simp, z2⟩
  · unfold clo
    rw [filter_gt, parted_len]
    by_cases he : ((List.range S.ps.length).filter fun i => decide ((gt (partedL S.ps days) i).2 = x)) = []
    · rw [he]; exact Nat.zero_le _
    · obtain ⟨i0, h0⟩ := List.exists_mem_of_ne_nil _ he
      obtain ⟨l0, e0⟩ := rmem h0
      have e0 := of_decide_eq_true e0
      rw [part_c hn l0] at e0
      refine few_parts (S := S) (by omega) (p := (gt S.ps i0).2) (k := rankP S (gt S.ps i0).2 i0 / days) fun i hi hq => ?_
      have hq := of_decide_eq_true hq
      rw [part_c hn hi, ← e0] at hq
      have a1 := (hn.ok.les _ (gt_mem hi)).2
      have a2 := (hn.ok.les _ (gt_mem l0)).2
      obtain ⟨z1, z2⟩ := part_inj (hn.ok.nm _ (List.mem_append_right _ a1)) (hn.ok.nm _ (List.mem_append_right _ a2)) (rank_small hn hi) (rank_small hn l0) hq
      rw [← z1] at z2 ⊢
      exact ⟨by simp, z2⟩
/-- the days of a person's lessons -/
def rowP (S : Sch) (r : List Nat) (p : Str) : List Nat := (numsOf S.ps p).map (gt r)
theorem spread_even (hn : SchNew S) (hd : 1 ≤ days) {r : List Nat} (pf : PlanFor (partedL S.ps days) days r) {p : Str} (hp : p ∈ S.ts ++ S.cs) : EvenN (rowP S r p) days := by
  have rl : r.length = S.ps.length := by rw [pf.clear.len, parted_len]
  obtain ⟨l, hl⟩ : ∃ l, l = numsOf S.ps p := ⟨_, rfl⟩
  have lm : ∀ {m}, m < l.length → gt l m < S.ps.length ∧ p ∈ [(gt S.ps (gt l m)).1, (gt S.ps (gt l m)).2] ∧ rankP S p (gt l m) = m := fun {m} hm => by
    have h2 : ((List.range S.ps.length).filter fun i => decide (p ∈ [(gt S.ps i).1, (gt S.ps i).2]))[m]? = some (gt l m) := by rw [← nums_range, ← hl]; exact gt_some hm
    have hmem := List.mem_of_getElem? h2
    exact ⟨(rmem hmem).1, of_decide_eq_true (rmem hmem).2, filter_rank h2⟩
  unfold rowP
  rw [← hl]
  refine chunky_even _ _ days (Nat.le_refl _) (by omega) (fun y hy => ?_) fun m m' h1 h2 h3 e => ?_
  · obtain ⟨i, hi, rfl⟩ := List.mem_map.mp hy
    obtain ⟨m, hm⟩ := List.mem_iff_getElem?.mp hi
    have ml := (List.getElem?_eq_some_iff.mp hm).1
    have := (lm ml).1
    rw [gt_of hm] at this
    exact pf.lt _ (gt_mem (by omega))
  · rw [List.length_map] at h2
    have hm : m < l.length := by omega
    rw [gt_map hm, gt_map h2] at e
    obtain ⟨a1, a2, a3⟩ := lm hm
    obtain ⟨b1, b2, b3⟩ := lm h2
    have hlt : gt l m < gt l m' := by
      rcases Nat.lt_trichotomy (gt l m) (gt l m') with z | z | z
      · exact z
      · rw [z] at a3; omega
      · have := rank_lt b2 z; omega
    have hm2 : meetB (gt (partedL S.ps days) (gt l m)) (gt (partedL S.ps days) (gt l m')) = true := by
      refine meet_of ?_
      have hs := one_side hn hp (gt_mem a1) (gt_mem b1) a2 b2
      have y1 := hn.ok.les _ (gt_mem a1)
      have y2 := hn.ok.les _ (gt_mem b1)
      have nd := (List.nodup_append.mp hn.nd).2.2
      simp only [List.mem_cons, List.not_mem_nil, or_false] at a2 b2
      rcases a2 with a2 | a2 <;> rcases b2 with b2 | b2
      · left; rw [part_t hn a1, part_t hn b1, ← a2, ← b2, a3, b3, h3]
      · exact absurd (a2.symm.trans b2) (nd _ y1.1 _ y2.2)
      · exact absurd (b2.symm.trans a2) (nd _ y2.1 _ y1.2)
      · right; rw [part_c hn a1, part_c hn b1, ← a2, ← b2, a3, b3, h3]
    have := pf.clear.ok (gt l m') (by rw [parted_len]; exact b1) (gt l m) hlt
    rw [clashAt_gt (by rw [parted_len]; exact a1) (by rw [parted_len]; exact b1) (by omega) (by omega), decide_eq_true e, hm2] at this
    cases this
end
/-- with days enough no two lessons of a person meet -/
theorem spread_free {S : Sch} {days : Nat} (hn : SchNew S) {r : List Nat} (pf : PlanFor (partedL S.ps days) days r) (hl : ∀ p ∈ S.ts ++ S.cs, (numsOf S.ps p).length ≤ days) {a t : Nat} (ha : a < t) (ht : t < S.ps.length) (hm : meetB (gt S.ps a) (gt S.ps t) = true) : gt r a ≠ gt r t := by
  intro e
  have rl : r.length = S.ps.length := by rw [pf.clear.len, parted_len]
  have al : a < S.ps.length := by omega
  have y1 := hn.ok.les _ (gt_mem al)
  have y2 := hn.ok.les _ (gt_mem ht)
  have small : ∀ p ∈ S.ts ++ S.cs, ∀ i, i < S.ps.length → p ∈ [(gt S.ps i).1, (gt S.ps i).2] → rankP S p i / days = 0 := fun p hp i hi hpi => by
    have h1 := rank_lt hpi hi
    have h2 := hl p hp
    rw [nums_range] at h2
    have h3 : rankP S p S.ps.length ≤ days := h2
    exact Nat.div_eq_of_lt (by omega)
  have hm2 : meetB (gt (partedL S.ps days) a) (gt (partedL S.ps days) t) = true := by
    refine meet_of ?_
    rcases meet_or hm with z | z
    · left
      rw [part_t hn al, part_t hn ht, ← z, small _ (List.mem_append_left _ y1.1) a al (by simp), small _ (List.mem_append_left _ y1.1) t ht (by rw [z]; simp)]
    · right
      rw [part_c hn al, part_c hn ht, ← z, small _ (List.mem_append_right _ y1.2) a al (by simp), small _ (List.mem_append_right _ y1.2) t ht (by rw [z]; simp)]
  have := pf.clear.ok t (by rw [parted_len]; exact ht) a ha
  rw [clashAt_gt (by rw [parted_len]; exact al) (by rw [parted_len]; exact ht) (by omega) (by omega), decide_eq_true e, hm2] at this
  cases this
theorem count_inj {f : Nat → Nat} {n d : Nat} (hf : ∀ a b, a < n → b < n → f a = f b → a = b) (hd : d < n) : ∀ {l : List Nat}, (∀ y ∈ l, y < n) → (l.map f).count (f d) = l.count d
  | [], _ => rfl
  | x :: l, h => by
    rw [List.map_cons, List.count_cons, List.count_cons, count_inj hf hd fun y hy => h y (List.mem_cons_of_mem _ hy)]
    congr 1
    by_cases e : x = d
    · subst e; simp
    · have : ¬ f x = f d := fun z => e (hf x d (h x (List.mem_cons_self ..)) hd z)
      simp [e, this]
theorem even_map {order l : List Nat} {n : Nat} (hp : order.Perm (List.range n)) (hl : ∀ y ∈ l, y < n) (he : EvenN l n) : EvenN (l.map (gt order)) n := by
  have ol : order.length = n := by rw [hp.length_eq, List.length_range]
  have on : order.Nodup := hp.nodup_iff.mpr List.nodup_range
  have inj : ∀ a b, a < n → b < n → gt order a = gt order b → a = b := fun a b ha hb e => by
    refine (List.getElem?_inj (by omega) on).mp ?_
    rw [gt_some (by omega : a < order.length), gt_some (by omega : b < order.length), e]
  have sur : ∀ i, i < n → ∃ d, d < n ∧ gt order d = i := fun i hi => by
    obtain ⟨d, hd⟩ := List.mem_iff_getElem?.mp (hp.mem_iff.mpr (List.mem_range.mpr hi))
    have := (List.getElem?_eq_some_iff.mp hd).1
    exact ⟨d, by omega, gt_of hd⟩
  intro i j hi hj
  obtain ⟨a, ha, rfl⟩ := sur i hi
  obtain ⟨b, hb, rfl⟩ := sur j hj
  rw [count_inj inj ha hl, count_inj inj hb hl]
  exact he a b ha hb
structure SpreadIs (S : Sch) (days : Nat) (r : List Nat) : Prop where
  pf : PlanFor (partedL S.ps days) days r
  ev : EvenN r days
/-- even for each person and in total -/
structure EvenlyIs (S : Sch) (r : List Nat) (days : Nat) : Prop where
  lt : ∀ h ∈ r, h < days
  row : ∀ p ∈ S.ts ++ S.cs, EvenN (rowP S r p) days
  all : EvenN r days
end EW

/-! dict(zip(a, b)), d.update(e), l[i] = x. -/
namespace EW
open PySem PySem.Spec PyProof.Rows L2
def dcUpd {κ α : Type} [DecidableEq κ] (l m : List (κ × α)) : List (κ × α) := m.foldl (fun d q => dcSet d q.1 q.2) l
section
variable {κ α : Type} [DecidableEq κ] {kf : κ → Key} {f : α → D}
theorem merge_dc [KyE kf] {K : PySem.W.Frag} {P : Hp} : ∀ {m : List (κ × α)} {ws : List V} {l : List (κ × α)} {vs : List V}, ws.length = m.length → Reps K P ws (m.map fun q => f q.2) → vs.length = l.length → Reps K P vs (l.map fun q => f q.2) →
    ∃ vs', mergeK ((l.map fun q => kf q.1).zip vs) ((m.map fun q => kf q.1).zip ws) = ((dcUpd l m).map fun q => kf q.1).zip vs' ∧ ((dcUpd l m).map fun q => kf q.1).length = vs'.length ∧ Reps K P vs' ((dcUpd l m).map fun q => f q.2)
  | [], ws, l, vs, _, _, h3, h4 => ⟨vs, rfl, by rw [List.length_map]; exact h3.symm, h4⟩
  | q :: m, [], l, vs, h1, _, _, _ => by cases h1
  | q :: m, w :: ws, l, vs, h1, .cons r1 rs, h3, h4 => by
    obtain ⟨vs', e1, e2, e3⟩ := put_dc (kf := kf) (k := q.1) r1 h3 h4
    obtain ⟨vs2, d1, d2, d3⟩ := merge_dc (m := m) (ws := ws) (l := dcSet l q.1 q.2) (vs := vs') (by simpa using h1) rs (by rw [← e2, List.length_map]) e3
    refine ⟨vs2, ?_, d2, d3⟩
    rw [List.map_cons, List.zip_cons_cons]
    show mergeK (putK _ (kf q.1) w) _ = _
    rw [e1]
    exact d1
end
section
variable {X : Cx}
def rUpdate : V → List V → Hp → VK → Prop := fun x xs H Q => ∃ (a b : Addr) (kvs more : List (Key × V)), x = .ref a ∧ xs = [.ref b] ∧ H a = some (.dK kvs) ∧ Rd H b (.dK more) ∧ a ≠ b ∧ kvs.length + more.length ≤ sizeLine ∧ Q .non (upd H a (.dK (mergeK kvs more)))
theorem mt_update : MtR X "dict.update" rUpdate := by
  intro pins s σ H x xs v us Q I rx ru q
  obtain ⟨a, b, kvs, more, rfl, rfl, e, e2, hne, hz, q⟩ := q
  cases rx
  obtain ⟨u, rfl, ru2⟩ := ru.one
  cases ru2
  obtain ⟨z, hd, vs, rel, dd⟩ := dk_of I.hok e
  obtain ⟨z2, hd2, vs2, rel2, dd2⟩ := dk_rd I.hok e2
  refine call_meetsIn PySem.F.slot_dict_update dd.typeIs PySem.F.entry_dict_update (PySem.F.args_dict_update_2 _ _) (meets_dict_update (mixKind X.prog X.w) a b hne hd2) ⟨vs, vs2, dd, dd2, by rw [← rel.length, ← rel2.length]; exact hz, fun h' dd' dd2' hs => ?_⟩
  have he : ∃ q, h'.get? a = some q := let ⟨q, _, _, hq, _⟩ := dd'; ⟨q, hq⟩
  exact ⟨.non, _, d_write (t' := s.toks) I (by rw [e]; exact True.intro) hs he (dk_new (Nat.le_trans (length_mergeK more kvs) hz) hd (KV.merge rel2 rel) dd'), rfl, q⟩
end
section
variable {X : Cx} {W : Wd} {G : List (Option D)} {C : Cells} {k : KD} {κ α : Type} [DecidableEq κ] {kf : κ → Key} {f : α → D}
/-- d.update(e), d a cell, e a dict that stays -/
theorem m_update [KyE kf] (i : Nat) {p : Addr} {l m : List (κ × α)} (hc : C[i]? = some (p, dcC kf f l)) (hz : l.length + m.length ≤ 100000) (q : k .non (C.set i (p, dcC kf f (dcUpd l m)))) : mD X W "dict.update" (.ref p) [dcE kf f m] G C k := mD_of mt_update fun σ P H Q v vs g r1 rs z => by
  obtain ⟨u, rfl, r2⟩ := reps1 rs
  cases r1
  obtain ⟨o, ho, ws, rfl, hl, rs'⟩ := g.cell hc
  obtain ⟨np, _, _⟩ := g.ce _ (List.mem_of_getElem? hc)
  cases r2 with
  | @dct b _ _ us _ hb hl2 rs2 =>
    have hw : ws.length = l.length := by rw [← hl, List.length_map]
    have hu : us.length = m.length := by rw [← hl2, List.length_map]
    obtain ⟨vs', e1, e2, e3⟩ := merge_dc (kf := kf) hu rs2 hw rs'
    refine ⟨p, b, _, _, rfl, rfl, ho, le_frzR g.le hb, fun e => ?_, ?_, ?_⟩
    · subst e
      have np : P p = none := np
      rw [np] at hb; cases hb
    · rw [List.length_zip, List.length_zip, List.length_map, List.length_map, hw, hu, Nat.min_self, Nat.min_self, sizeLine_eq]; omega
    · rw [e1]
      exact z _ _ .non P _ ⟨Ex.rfl' P, g.write (c' := dcC kf f (dcUpd l m)) hc ⟨vs', rfl, e2, e3⟩⟩ .non q
end
section
variable {X : Cx} {e e2 : Expr} {ta : TA} {p p0 pos pos0 : Pos}
def tDictZip (K : PySem.W.Frag) (ta : TA) : TE := fun σ H Q => ta σ H fun vs H1 => ∃ (a b : Addr) (ks : List Key) (ys : List V), vs = [.ref a, .ref b] ∧ SqL K H1 a (ks.map kV) ∧ SqL K H1 b ys ∧ ks.length ≤ 100000 ∧ ∀ p, H1 p = none → Q (.ref p) (upd H1 p (.dK (mergeK [] (ks.zip ys))))
theorem keysD_at {P : Program} {w : World} : ∀ {ks : List Key} {us : List Value}, Vals (ks.map kV) us → ∀ (i : Nat) (u : Value), us[i]? = some u → ∃ k, ks[i]? = some k ∧ (mixKind P w).is k u = true
  | [], [], _, i, u, h => by simp at h
  | k :: ks, u0 :: us, .cons r rs, 0, u, h => by
    cases h
    exact ⟨k, rfl, kV_is r⟩
  | k :: ks, u0 :: us, .cons r rs, i + 1, u, h => by
    obtain ⟨k', h1, h2⟩ := keysD_at (P := P) (w := w) rs i u (by simpa using h)
    exact ⟨k', by simpa using h1, h2⟩
theorem kv_zip : ∀ {ks : List Key} {ys : List V} {us : List Value}, Vals ys us → KV (ks.zip ys) (ks.zip us)
  | [], _, _, _ => .nil
  | _ :: _, _, _, .nil => .nil
  | k :: ks, _, _, .cons r rs => .cons ⟨rfl, r⟩ (kv_zip rs)
theorem pe_dictZip (hcalm : X.calm = true) (hgd : Gl X "dict") (hmd : X.mg "dict" = none) (hgz : Gl X "zip") (hmz : X.mg "zip" = none) (hvd : bootBuiltins "dict" = some (.type "dict")) (ha : PA X [e, e2] ta)
    (hs : starEach [e, e2] X.env = (false, eval e X.env) :: starEach [e2] X.env := by rfl) (hpl : (backTo pos (starEach [e2] X.env)).any (·.1) = false := by rfl)
    (hs0 : starEach [.Call (.Name "zip" p) [e, e2] [] pos] X.env = (false, eval (.Call (.Name "zip" p) [e, e2] [] pos) X.env) :: starEach [] X.env := by rfl) :
    PE X (.Call (.Name "dict" p0) [.Call (.Name "zip" p) [e, e2] [] pos] [] pos0) (tDictZip X.K ta) := by
  refine ⟨fun pins s σ H Q I h => ?_⟩
  refine wpAny_Call_Name_kw (ld_blt I hgd hmd hvd ?_)
  refine PyProof.Rows.callWith_type1 ?_ hs0 rfl
  rw [hs0]
  show wpAny _ _ (spliced ((false, eval (.Call (.Name "zip" p) [e, e2] [] pos) X.env) :: backTo pos0 (starEach [] X.env))) _ _ s
  refine Calls.spliced_cons ?_
  refine Call_ (ld_blt I hgz hmz PyProof.Rows.boot_zip (PyProof.Rows.callWith_type1 (thn (ha.run pos pins s σ H _ I h) fun us s1 ⟨vs, H1, I1, r1, q1⟩ => ?_) hs hpl))
  obtain ⟨a, b, ks, ys, ex, hqx, hqy, hz, q⟩ := q1
  subst ex
  cases r1 with
  | cons r rr =>
    cases rr with
    | cons r' rr =>
      cases rr
      cases r
      cases r'
      obtain ⟨its, rv, p1, _⟩ := I1.list hqx
      obtain ⟨its2, rv2, p2, _⟩ := I1.list hqy
      have l1 := rv.length
      have l2 := rv2.length
      rw [List.length_map] at l1
      refine call_zip_2 p1.isList p2.isList fun h' hz' hTI hTO h1 h2 hsz hk => ?_
      refine Calls.spliced_nil ?_
      have I2 : Inv X pins σ H1 { s1 with heap := h' } := I1.kept (t' := s1.toks) hk
      refine PySem.call_dict_pairs (knd := mixKind X.prog X.w) (kvs := ks.zip its2) (PairArg.zip _ _ _ _ _ a b (PySem.W.ktu_apart s1.heap.objs.size a b p1.lt p2.lt) its.toArray its2.toArray) (I2.ok.hd hcalm) ⟨hz', hTI, ⟨_, _, hTO⟩, h1, h2, p1.isList.at fun o q => hk _ o q, p2.isList.at fun o q => hk _ o q⟩ ⟨?_, ?_⟩ ?_ ?_
      · rw [List.length_zip, List.size_toArray, List.size_toArray, l1]
      · intro i key v hkv
        obtain ⟨k', e1, e2⟩ := keysD_at (P := X.prog) (w := X.w) rv i key (by simpa using hkv.1)
        refine ⟨k', ?_, e2⟩
        rw [List.getElem?_zip_eq_some]
        exact ⟨e1, by simpa using hkv.2⟩
      · rw [List.size_toArray, List.size_toArray, sizeLine_eq]; omega
      · intro h'' tk hd hk2
        have hbig : (h'.objs.size == sysModules) = false := beq_eq_false_iff_ne.mpr (Nat.ne_of_gt I2.big)
        have hle : s1.heap.objs.size ≤ h'.objs.size := by rw [hsz]; exact Nat.le_add_right _ _
        have hlen : (mergeK [] (ks.zip ys)).length ≤ sizeLine := by
          refine Nat.le_trans (length_mergeK _ _) ?_
          rw [List.length_nil, Nat.zero_add, List.length_zip, sizeLine_eq]; omega
        refine ⟨.ref h'.objs.size, upd H1 h'.objs.size (.dK (mergeK [] (ks.zip ys))), I1.laid (t' := tk) (fun c o hc => hk2 c o (fun hm => ?_) (hk c o hc)) hle (show ObjOk X.prog X.w _ _ _ (.dK (mergeK [] (ks.zip ys))) from ⟨hlen, hbig, merged [] (ks.zip its2), KV.merge (kv_zip rv2) .nil, hd⟩), rfl, q _ (I1.hok.fresh hle)⟩
        have := Heap.lt_size hc
        simp only [List.mem_cons, List.not_mem_nil, or_false] at hm
        rcases hm with rfl | rfl | rfl | rfl
        · exact absurd this (Nat.not_lt.mpr (Nat.le_add_right _ _))
        · exact absurd this (Nat.not_lt.mpr (Nat.le_add_right _ _))
        · exact Nat.lt_irrefl _ this
        · exact absurd this (Nat.not_lt.mpr (Nat.le_add_right _ _))
end
section
variable {X : Cx} {W : Wd} {G : List (Option D)} {C : Cells} {k : KD} {κ α : Type} [DecidableEq κ] {kf : κ → Key} {f : α → D} {g : κ → D}
theorem rep_keys {K : PySem.W.Frag} {P : Hp} (hg : ∀ n, g n = keyD (kf n)) : ∀ {ns : List κ} {vs : List V}, Reps K P vs (ns.map g) → vs = (ns.map kf).map kV
  | [], _, .nil => rfl
  | n :: ns, _, .cons r rs => by
    rw [hg] at r
    rw [rep_key r, rep_keys hg rs]; rfl
theorem wE_dictZip [KyE kf] {e e2 : Expr} {p p0 pos pos0 : Pos} (hcalm : X.calm = true) (hmd : X.mg "dict" = none) (hmz : X.mg "zip" = none)
    (h : wA X W [e, e2] G C fun ds C1 => ∃ (ns : List κ) (ys : List α), ds = [lsE g ns, lsE f ys] ∧ (∀ n, g n = keyD (kf n)) ∧ ns.length ≤ 100000 ∧ ns.length = ys.length ∧ k (dcE kf f (dcUpd [] (ns.zip ys))) C1) (hgd : Gl X "dict" := by rfl) (hgz : Gl X "zip" := by rfl)
    (hs : starEach [e, e2] X.env = (false, eval e X.env) :: starEach [e2] X.env := by rfl) (hpl : (backTo pos (starEach [e2] X.env)).any (·.1) = false := by rfl)
    (hs0 : starEach [.Call (.Name "zip" p) [e, e2] [] pos] X.env = (false, eval (.Call (.Name "zip" p) [e, e2] [] pos) X.env) :: starEach [] X.env := by rfl) :
    wE X W (.Call (.Name "dict" p0) [.Call (.Name "zip" p) [e, e2] [] pos] [] pos0) G C k :=
  wE_of (pe_lk (pe_dictZip hcalm hgd hmd hgz hmz (by first | rfl | decide +kernel) pa_sem hs hpl hs0)) fun σ P H Q gd z => h σ P H _ gd fun ds C1 vs P1 H1 n1 rs q => by
    obtain ⟨ns, ys, rfl, hg, hl, hll, q⟩ := q
    obtain ⟨v, u, rfl, r1, r2⟩ := reps2 rs
    cases r1 with
    | @lst a ws _ ha ra =>
      cases r2 with
      | @lst b us _ hb rb =>
        have hk := rep_keys hg ra
        subst hk
        have lu : us.length = ys.length := by rw [rb.len, List.length_map]
        refine ⟨a, b, ns.map kf, us, rfl, .inl (.inl (le_lst n1.good.le ha)), .inl (.inl (le_lst n1.good.le hb)), by rw [List.length_map]; exact hl, fun p hp => ?_⟩
        have lz : us.length = (ns.zip ys).length := by rw [lu, List.length_zip, hll, Nat.min_self]
        have e1 : (ns.zip ys).map (fun q => f q.2) = ys.map f := by
          have := List.map_map (f := Prod.snd) (g := f) (l := ns.zip ys)
          rw [List.map_snd_zip (by omega)] at this
          exact this.symm
        have e2 : (ns.zip ys).map (fun q => kf q.1) = ns.map kf := by
          have := List.map_map (f := Prod.fst) (g := kf) (l := ns.zip ys)
          rw [List.map_fst_zip (by omega)] at this
          exact this.symm
        obtain ⟨vs', d1, d2, d3⟩ := merge_dc (kf := kf) (f := f) (m := ns.zip ys) (ws := us) (l := []) (vs := []) lz (by rw [e1]; exact rb) rfl .nil
        rw [e2] at d1
        have d1 : mergeK [] ((ns.map kf).zip us) = _ := d1
        rw [d1]
        refine ⟨p, _, rfl, upd_same, trivial, fun od => ?_⟩
        rw [upd_upd]
        have n2 := n1.good.new (o := .frz od (.dK (((dcUpd [] (ns.zip ys)).map fun q => kf q.1).zip vs'))) hp
        exact z _ C1 (.ref p) _ _ (n1.tr n2) (.dct upd_same d2 (d3.ex' n2.ex)) q
theorem wA.mono {es : List Expr} {k k' : List D → Cells → Prop} (h : wA X W es G C k) (m : ∀ ds C', k ds C' → k' ds C') : wA X W es G C k' := fun σ P H Q g q => h σ P H Q g fun ds C' vs P' H' n r z => q ds C' vs P' H' n r (m ds C' z)
/-- a list that may change, of items that do more -/
theorem wE_lstFA {es : List Expr} {pos : Pos} (h : wA X W es G C fun ds C1 => ds.length ≤ 100000 ∧ ∀ p, k (.ref p) ((p, .lst ds) :: C1)) : wE X W (.List es pos) G C k :=
  wE_rot (wE_lstC (h.mono fun ds C1 z => ⟨z.1, fun p => ⟨_, List.perm_append_comm, z.2 p⟩⟩))
/-- l[i] = x -/
theorem wG_setL (j : Nat) {o i : Expr} {pos : Pos} {d : D} {α : Type} {f : α → D} {kg : List (Option D) → Cells → Prop} (h : wE X W o G C fun d1 C1 => wE X W i G C1 fun d2 C2 => ∃ (p : Addr) (l : List α) (n : Nat) (x : α), d1 = .ref p ∧ d2 = natD n ∧ d = f x ∧ C2[j]? = some (p, .lst (l.map f)) ∧ n < l.length ∧ kg G (C2.set j (p, .lst ((l.set n x).map f))))
    (ha : ∀ v, assign (.Subscript o i pos) X.env v = (do
      let ov ← holding [v] (eval o X.env)
      let iv ← holding [v, ov] (eval i X.env)
      standAt pos
      holding [v, ov, iv] (setItem ov iv v)
      release [v, ov, iv] []) := by intro _; rfl) : wG X W (.Subscript o i pos) d G C kg :=
  wG_ixC j (fun σ P H Q g z => h σ P H Q g fun d1 C1 v P1 H1 n1 r1 q => z d1 C1 v P1 H1 n1 r1 (fun σ' P' H' Q' g' z' => q σ' P' H' Q' g' fun d2 C2 v2 P2 H2 n2 r2 q2 => z' d2 C2 v2 P2 H2 n2 r2 (by
    obtain ⟨p, l, n, x, rfl, rfl, rfl, hc, hn, q2⟩ := q2
    refine ⟨p, l.map f, (n : Int), n, rfl, rfl, hc, ?_, ?_⟩
    · rw [List.length_map]
      unfold ixN
      rw [if_pos (by omega), if_pos (by omega)]
      simp
    · rw [← List.map_set]; exact q2))) ha
end
/-! ### len(set(l)) -/
def dedN {α : Type} [DecidableEq α] : List α → List α
  | [] => []
  | x :: l => if x ∈ l then dedN l else x :: dedN l
section
variable {α : Type} [DecidableEq α]
theorem dedN_mem {x : α} : ∀ {l : List α}, x ∈ dedN l ↔ x ∈ l
  | [] => Iff.rfl
  | y :: l => by
    unfold dedN
    by_cases h : y ∈ l
    · rw [if_pos h, dedN_mem (l := l), List.mem_cons]
      exact ⟨.inr, fun z => z.elim (fun e => e ▸ h) id⟩
    · rw [if_neg h, List.mem_cons, List.mem_cons, dedN_mem (l := l)]
theorem dedN_nodup : ∀ (l : List α), (dedN l).Nodup
  | [] => List.nodup_nil
  | y :: l => by
    unfold dedN
    by_cases h : y ∈ l
    · rw [if_pos h]; exact dedN_nodup l
    · rw [if_neg h, List.nodup_cons, dedN_mem]; exact ⟨h, dedN_nodup l⟩
theorem dedN_le : ∀ (l : List α), (dedN l).length ≤ l.length
  | [] => Nat.le_refl _
  | y :: l => by
    have := dedN_le l
    unfold dedN
    by_cases h : y ∈ l
    · rw [if_pos h, List.length_cons]; omega
    · rw [if_neg h, List.length_cons, List.length_cons]; omega
theorem dedN_eq : ∀ {l : List α}, (dedN l).length = l.length ↔ l.Nodup
  | [] => ⟨fun _ => List.nodup_nil, fun _ => rfl⟩
  | y :: l => by
    have hle := dedN_le l
    have ih := dedN_eq (l := l)
    unfold dedN
    by_cases h : y ∈ l
    · rw [if_pos h, List.length_cons, List.nodup_cons]
      exact ⟨fun e => by omega, fun z => absurd h z.1⟩
    · rw [if_neg h, List.length_cons, List.length_cons, List.nodup_cons]
      exact ⟨fun e => ⟨h, ih.mp (by omega)⟩, fun z => by rw [ih.mpr z.2]⟩
theorem dedN_lt {l : List α} : (dedN l).length < l.length ↔ ¬ l.Nodup := by
  have := dedN_le l
  rw [← dedN_eq]; omega
end
section
variable {X : Cx}
def tLenSetT (K : PySem.W.Frag) (ta : TE) : TE := fun σ H Q => ta σ H fun x H1 => ∃ (l : Addr) (ks : List (Addr × List Int)), x = V.ref l ∧ SqL K H1 l (ks.map fun p => V.ref p.1) ∧ (∀ p ∈ ks, SqT K H1 p.1 (p.2.map V.int)) ∧ ks.length < 64 ∧
  ∃ m : List (List Int), m.Nodup ∧ (∀ x, x ∈ m ↔ x ∈ ks.map (·.2)) ∧ Q (.int m.length) H1
theorem pe_lenSetT {a : Expr} {ta : TE} {p p2 q pos : Pos} (hc : X.calm = true) (hu : X.A.units + 64 < cLine) (hg : Gl X "len") (hm : X.mg "len" = none) (hg2 : Gl X "set") (hm2 : X.mg "set" = none) (ha : PE X a ta)
    (na : starEach [a] X.env = (false, eval a X.env) :: starEach [] X.env := by rfl) : PE X (.Call (.Name "len" p) [.Call (.Name "set" p2) [a] [] q] [] pos) (tLenSetT X.K ta) := by
  refine ⟨fun pins s σ H Q I h => ?_⟩
  refine Call_ (ld_blt I hg hm PySem.boot_len ?_)
  refine PyProof.Rows.callWith_builtin1 (PyProof.Rows.args_cons ?_ rfl) rfl rfl
  refine Call_ (ld_blt I hg2 hm2 PyProof.Rows.boot_set ?_)
  refine PyProof.Rows.callWith_type1 (PyProof.Rows.args_cons (thn (ha.run pins s σ H _ I h) fun v s1 ⟨x, H1, I1, r1, q1⟩ => PyProof.Rows.args_nil ?_) na) na rfl
  obtain ⟨l, ks, rfl, hl, hk, hf, m, m1, m2, q1⟩ := q1
  cases r1
  obtain ⟨its, rv, pl, hz⟩ := I1.list hl
  refine call_set_tups (P := X.prog) (w := X.w) ks (I1.ok.hd hc) pl.isList (by simpa using refs_of_vals rv) (fun p hp => I1.isT (hk p hp)) hf (by omega) fun h' tk L es ep t R g k => ?_
  refine PyProof.Rows.args_nil ?_
  have I2 : Inv X pins σ H1 { s1 with heap := h', toks := tk } := I1.kept k
  obtain ⟨o, ho, hex, hd⟩ := R.ob
  have R' : SetTR X.prog X.w ({ s1 with heap := h', toks := tk } : Shared).heap s1.heap.objs.size L es ep t := R
  have hlen : L.length = m.length := by
    have hp : (L.map (·.2)).Perm m := (List.perm_ext_iff_of_nodup R.nd m1).mpr fun x => by
      rw [m2]
      refine ⟨fun hx => ?_, fun hx => ?_⟩
      · obtain ⟨p, hp, rfl⟩ := List.mem_map.mp hx
        exact List.mem_map.mpr ⟨p, List.mem_of_mem_take (g.sub p hp), rfl⟩
      · obtain ⟨p, hp, rfl⟩ := List.mem_map.mp hx
        exact g.all p (by rw [List.take_length]; exact hp)
    rw [← hp.length_eq, List.length_map]
  have hsz := R'.size
  have hfew := R.few
  refine call_len_set ho hex hd R'.fits (by rw [hsz]; omega) ⟨.int m.length, H1, I2.tok _, ⟨_, by rw [hsz, hlen]⟩, q1⟩
end
section
variable {X : Cx} {W : Wd} {G : List (Option D)} {C : Cells}
theorem pairs_at {K : PySem.W.Frag} {P H : Hp} (le : Le P H) : ∀ {l : List (Nat × Nat)} {vs : List V}, Reps K P vs (l.map (prE natD natD)) → ∃ ks : List (Addr × List Int), vs = ks.map (fun p => V.ref p.1) ∧ ks.map (·.2) = l.map (fun q => [(q.1 : Int), (q.2 : Int)]) ∧ ∀ p ∈ ks, SqT K H p.1 (p.2.map V.int)
  | [], _, .nil => ⟨[], rfl, rfl, fun _ h => by cases h⟩
  | q :: l, _, .cons r rs => by
    obtain ⟨ks, h1, h2, h3⟩ := pairs_at le rs
    cases r with
    | @tup a ws _ ha rr =>
      obtain ⟨v, u, rfl, q1, q2⟩ := reps2 rr
      cases q1; cases q2
      refine ⟨(a, [(q.1 : Int), (q.2 : Int)]) :: ks, by rw [h1]; rfl, by rw [List.map_cons, h2]; rfl, fun p hp => ?_⟩
      rcases List.mem_cons.mp hp with rfl | hp
      · exact .inl (.inl (le_tup le ha))
      · exact h3 p hp
theorem p_lenSet2 {e : Expr} {p p2 q pos : Pos} {l : List (Nat × Nat)} {nn : Nat} (hr : Room nn X.A) (hc : X.calm = true) (hm : X.mg "len" = none) (hm2 : X.mg "set" = none) (h : pv X W e G C (lsE (prE natD natD) l)) (hl : l.length < 64) (hg : Gl X "len" := by rfl) (hg2 : Gl X "set" := by rfl)
    (na : starEach [e] X.env = (false, eval e X.env) :: starEach [] X.env := by rfl) : pv X W (.Call (.Name "len" p) [.Call (.Name "set" p2) [e] [] q] [] pos) G C (natD (dedN l).length) :=
  wE_of (pe_lenSetT hc (by have := hr.un; omega) hg hm hg2 hm2 pe_sem na) fun σ P H Q g z => h σ P H _ g fun d C1 v P1 H1 n1 r1 q => by
    obtain ⟨rfl, rfl⟩ := q
    cases r1 with
    | @lst a ws _ ha rs =>
      obtain ⟨ks, rfl, h2, h3⟩ := pairs_at n1.good.le rs
      have hlen : ks.length = l.length := by
        have := congrArg List.length h2
        rwa [List.length_map, List.length_map] at this
      refine ⟨a, ks, rfl, .inl (.inl (le_lst n1.good.le ha)), h3, by omega, (dedN l).map (fun q => [(q.1 : Int), (q.2 : Int)]), ?_, fun x => ?_, ?_⟩
      · rw [List.nodup_iff_pairwise_ne, List.pairwise_map]
        refine List.Pairwise.imp (fun {a b} hab e => hab ?_) (List.nodup_iff_pairwise_ne.mp (dedN_nodup l))
        have e := e
        simp only [List.cons.injEq, Int.ofNat_inj, and_true] at e
        exact Prod.ext e.1 e.2
      · rw [h2, List.mem_map, List.mem_map]
        exact ⟨fun ⟨y, hy, e⟩ => ⟨y, dedN_mem.mp hy, e⟩, fun ⟨y, hy, e⟩ => ⟨y, dedN_mem.mpr hy, e⟩⟩
      · rw [List.length_map]
        exact z _ _ _ _ _ n1 (.int _) ⟨rfl, rfl⟩
end
/-! ### == with a list that changes -/
section
variable {X : Cx} {W : Wd} {G : List (Option D)} {C : Cells} {α : Type} {f : α → D} {a b : List α} {x y : D}
theorem plc_of [PlE f] (h : x = lsE f a ∨ ∃ (p : Addr) (j : Nat), x = .ref p ∧ C[j]? = some (p, Cl.lst (a.map f))) : PlC C x (pyD (lsE f a)) := by
  rcases h with rfl | ⟨p, j, rfl, hc⟩
  · exact .pl (PlE.pl a)
  · have h : PlCs C (a.map f) (a.map fun x => pyD (f x)) := PlCs.map fun x _ => .pl (PlE.pl x)
    have e : pyD (lsE f a) = .list (a.map fun x => pyD (f x)) := by show PyData.list (pyDs _) = _; rw [pyDs_map]
    rw [e]; exact .cell j hc h
theorem v_eqC [PlE f] [DecidableEq α] {nn : Nat} (hr : Room nn X.A) (h1 : x = lsE f a ∨ ∃ (p : Addr) (j : Nat), x = .ref p ∧ C[j]? = some (p, Cl.lst (a.map f))) (h2 : y = lsE f b ∨ ∃ (p : Addr) (j : Nat), y = .ref p ∧ C[j]? = some (p, Cl.lst (b.map f))) (o1 : Ok (lsE f a)) (o2 : Ok (lsE f b)) : ∀ k : KD, k (.bl (decide (a = b))) C → oD X W (compareOp .Eq) x y G C k := fun k q => by
  obtain ⟨n1, d1, f1, _, _⟩ := o1
  obtain ⟨n2, d2, f2, _, _⟩ := o2
  exact o_eqC (by have := hr.un; omega) (plc_of h1) (plc_of h2) f1.fit f2.fit (by omega) (by omega) (by rw [PlE.dec (f := lsE f)]; exact q)
theorem v_neC [PlE f] [DecidableEq α] {nn : Nat} (hr : Room nn X.A) (h1 : x = lsE f a ∨ ∃ (p : Addr) (j : Nat), x = .ref p ∧ C[j]? = some (p, Cl.lst (a.map f))) (h2 : y = lsE f b ∨ ∃ (p : Addr) (j : Nat), y = .ref p ∧ C[j]? = some (p, Cl.lst (b.map f))) (o1 : Ok (lsE f a)) (o2 : Ok (lsE f b)) : ∀ k : KD, k (.bl (!decide (a = b))) C → oD X W (compareOp .NotEq) x y G C k := fun k q => by
  obtain ⟨n1, d1, f1, _, _⟩ := o1
  obtain ⟨n2, d2, f2, _, _⟩ := o2
  exact o_neC (by have := hr.un; omega) (plc_of h1) (plc_of h2) f1.fit f2.fit (by omega) (by omega) (by rw [PlE.dec (f := lsE f)]; exact q)
end
/-! ### l.count(x), pairs of numbers -/
section
variable {X : Cx}
theorem countP_keys {e : Value → Bool} {k : List Int} : ∀ {ks : List (Addr × List Int)}, (∀ q ∈ ks, e (.ref q.1) = decide (q.2 = k)) → (ks.map fun q => Value.ref q.1).countP e = (ks.map (·.2)).count k
  | [], _ => rfl
  | q :: ks, h => by
    have ih := countP_keys (ks := ks) fun x hx => h x (List.mem_cons_of_mem _ hx)
    rw [List.map_cons, List.map_cons, List.countP_cons, List.count_cons, ih, h q (List.mem_cons_self ..)]
    congr 1
    by_cases z : q.2 = k
    · simp [z]
    · simp [z]
def rCntT (K : PySem.W.Frag) : V → List V → Hp → VK → Prop := fun x xs H Q => ∃ (p : Addr) (ks : List (Addr × List Int)) (b : Addr) (k : List Int), x = .ref p ∧ xs = [.ref b] ∧ SqL K H p (ks.map fun q => V.ref q.1) ∧ (∀ q ∈ ks, SqT K H q.1 (q.2.map V.int)) ∧ SqT K H b (k.map V.int) ∧ Q (.int ((ks.map (·.2)).count k : Nat)) H
theorem isT_any {pins : List (Addr × Obj)} {σ : L2.St} {H : Hp} {s : Shared} {b : Addr} {k : List Int} (I : Inv X pins σ H s) (h : SqT X.K H b (k.map V.int)) (P : Program) (w : World) : IsTupleKey (intKind P w) s.heap k b := by
  obtain ⟨its, r, ⟨o, ho, hc, n, hd⟩, _⟩ := I.tuple h
  exact ⟨o, its.toArray, n, ho, hc, hd, by simpa using items_of_vals r⟩
theorem mt_countT (hu : X.A.units + 64 < cLine) : MtR X "list.count" (rCntT X.K) := by
  intro pins s σ H x xs v us Q I rx rxs h
  obtain ⟨p, ks, b, k, rfl, rfl, hs, hk, hb, q⟩ := h
  cases rx
  obtain ⟨u, rfl, ru⟩ := rxs.one
  cases ru
  obtain ⟨its, rv, ⟨⟨cls, dd, data, sl⟩, n, ho, hc, hdn, hd⟩, hlen⟩ := I.list hs
  simp only at hc hd
  subst hc hd
  have hit : its = ks.map fun q => Value.ref q.1 := refs_of_vals rv
  have hkT : ∀ q ∈ ks, IsT X.prog X.w s.heap q.2 q.1 := fun q hq => I.isT (hk q hq)
  obtain ⟨e, he⟩ : ∃ e : Value → Bool, e = fun y => @decide (∃ a k', y = Value.ref a ∧ IsT X.prog X.w s.heap k' a ∧ k' = k) (Classical.propDecidable _) := ⟨_, rfl⟩
  have hee : ∀ q ∈ ks, e (.ref q.1) = decide (q.2 = k) := fun q hq => by
    rw [he]
    refine (@decide_eq_decide _ _ (Classical.propDecidable _) _).mpr ⟨fun ⟨a, k', e1, e2, e3⟩ => ?_, fun z => ⟨q.1, q.2, rfl, hkT q hq, z⟩⟩
    cases e1
    rw [← e3]
    exact IsTupleKey.inj (hkT q hq) e2
  refine call_meets PySem.F.slot_list_count ⟨_, ho, rfl⟩ PySem.F.entry_list_count (PySem.F.args_list_count_2 _ _)
    (SeqAt.list_countAt p its.toArray n dd sl (.ref b) e) ⟨ho, fun y hy => ?_, ?_⟩
  · have hy : y ∈ its := by simpa using hy
    rw [hit] at hy
    obtain ⟨z, hz, rfl⟩ := List.mem_map.mp hy
    intro prog w E Q' hQ
    have h1 : IsTupleKey (intKind prog w) s.heap z.2 z.1 := isT_any I (hk z hz) prog w
    have h2 : IsTupleKey (intKind prog w) s.heap k b := isT_any I hb prog w
    refine wpAny_eqBool_tuple (knd := intKind prog w) (by show X.A.units + 1 < cLine; omega) h1 h2 ?_
    rw [hee z hz] at hQ
    exact hQ
  · have ec : its.toArray.toList.countP e = (ks.map (·.2)).count k := by
      show its.countP e = _
      rw [hit]; exact countP_keys hee
    refine ⟨.int ((ks.map (·.2)).count k : Nat), H, I.tok _, ⟨s.toks, ?_⟩, q⟩
    show Value.int ((its.toArray.toList.countP e : Nat) : Int) s.toks = Value.int (((ks.map (·.2)).count k : Nat) : Int) s.toks
    rw [ec]
end
section
variable {X : Cx} {W : Wd} {G : List (Option D)} {C : Cells}
theorem count_pair {q : Nat × Nat} : ∀ {l : List (Nat × Nat)}, (l.map fun q => [(q.1 : Int), (q.2 : Int)]).count [(q.1 : Int), (q.2 : Int)] = l.count q
  | [] => rfl
  | a :: l => by
    rw [List.map_cons, List.count_cons, List.count_cons, count_pair (l := l)]
    congr 1
    by_cases z : a = q
    · subst z; simp
    · have : ¬ [(a.1 : Int), (a.2 : Int)] = [(q.1 : Int), (q.2 : Int)] := fun e => z (by
        simp only [List.cons.injEq, Int.ofNat_inj, and_true] at e
        exact Prod.ext e.1 e.2)
      rw [if_neg (by simpa using this), if_neg (by simpa using z)]
theorem v_count2 {l : List (Nat × Nat)} {x : Nat × Nat} {nn : Nat} (hr : Room nn X.A) : ∀ k : KD, k (natD (l.count x)) C → mD X W "list.count" (lsE (prE natD natD) l) [prE natD natD x] G C k := fun k q => mD_of (mt_countT (by have := hr.un; omega)) fun σ P H Q v vs g r1 rs z => by
  obtain ⟨u, rfl, r2⟩ := reps1 rs
  cases r1 with
  | @lst a ws _ ha ra =>
    obtain ⟨ks, rfl, h2, h3⟩ := pairs_at g.le ra
    cases r2 with
    | @tup b us _ hb rr =>
      obtain ⟨v1, v2, rfl, q1, q2⟩ := reps2 rr
      cases q1; cases q2
      refine ⟨a, ks, b, [(x.1 : Int), (x.2 : Int)], rfl, rfl, .inl (.inl (le_lst g.le ha)), h3, .inl (.inl (le_tup g.le hb)), ?_⟩
      rw [h2, count_pair]
      exact z _ C _ P H g.refl (.int _) q
end
end EW

/-! Weeks. -/
namespace EW
open PySem PySem.Spec PyProof.Rows L2
/-! what week gives, as data -/
inductive WkB where
  | s (x : Str) | n (k : Nat) | pl (l : List Nat) | mm (m : List (Nat × Nat))
def wkbE : WkB → D
  | .s x => .str x
  | .n k => natD k
  | .pl l => lsE natD l
  | .mm m => lsE (prE natD natD) m
inductive WkV where
  | fit (v : FitV) | week (m : List (Nat × Nat))
  deriving DecidableEq
def wkE : WkV → D
  | .fit v => fitE v
  | .week m => prE D.str (lsE (prE natD natD)) ("week", m)
def wkP (q : Str × Str) : WkV := .fit (.person q.2)
def wkR (q : Str × Nat) : WkV := .fit (.rooms q.2)
def wkL (q : Str × List (Nat × Nat)) : WkV := .week q.2
def wkK : WkV → Str
  | .fit v => fitK v
  | .week _ => "week"
def wkB : WkV → WkB
  | .fit (.person x) => .s x
  | .fit (.rooms k) => .n k
  | .fit (.plan l) => .pl l
  | .week m => .mm m
theorem wkE_tup (v : WkV) : wkE v = .tup [.str (wkK v), wkbE (wkB v)] := by
  cases v with
  | fit v => cases v <;> rfl
  | week m => rfl
instance : NN wkE := ⟨fun v => by
  cases v with
  | fit v => cases v <;> rfl
  | week m => rfl⟩
theorem v_ixWk {X : Cx} {W : Wd} {G : List (Option D)} {C : Cells} {v : WkV} : ∀ k : KD, k (.str (wkK v)) C → xD X W (wkE v) (natD 0) G C k := fun k q => by
  rw [wkE_tup]; exact xD_tup (i := 0) rfl q
theorem v_ixWk1 {X : Cx} {W : Wd} {G : List (Option D)} {C : Cells} {v : WkV} : ∀ k : KD, k (wkbE (wkB v)) C → xD X W (wkE v) (natD 1) G C k := fun k q => by
  rw [wkE_tup]; exact xD_tup (i := 1) rfl q
instance : PlE wkE := ⟨fun v => by
    cases v with
    | fit v => exact PlE.pl (f := fitE) v
    | week m => exact PlE.pl (f := prE D.str (lsE (prE natD natD))) ("week", m), fun a b => by
    have no : ∀ {p q : Prop}, (p ↔ False) → ¬ q → (p ↔ q) := fun h1 h2 => h1.trans ⟨False.elim, h2⟩
    cases a with
    | fit v =>
      cases b with
      | fit w => exact (PlE.eq (f := fitE) v w).trans ⟨(fun h => by rw [h]), fun h => by cases h; rfl⟩
      | week m =>
        refine no ?_ (fun h => by cases h)
        cases v with
        | person x => exact fit_ne (x := "person") (y := "week") (by decide +kernel)
        | rooms n => exact fit_ne (x := "rooms") (y := "week") (by decide +kernel)
        | plan l => exact fit_ne (x := "plan") (y := "week") (by decide +kernel)
    | week m =>
      cases b with
      | fit v =>
        refine no ?_ (fun h => by cases h)
        cases v with
        | person x => exact fit_ne (x := "week") (y := "person") (by decide +kernel)
        | rooms n => exact fit_ne (x := "week") (y := "rooms") (by decide +kernel)
        | plan l => exact fit_ne (x := "week") (y := "plan") (by decide +kernel)
      | week m' => exact (PlE.eq (f := prE D.str (lsE (prE natD natD))) ("week", m) ("week", m')).trans ⟨(fun h => by cases h; rfl), fun h => by cases h; rfl⟩⟩
def islB (n lo hi : Nat) : Bool := decide ((lo : Int) ≤ (n : Int)) && decide ((n : Int) ≤ (hi : Int))
/-! ### dicts that are updated -/
section
variable {κ α : Type} [DecidableEq κ]
theorem dcUpd_out {j : κ} : ∀ {m l : List (κ × α)}, (∀ q ∈ m, q.1 ≠ j) → dcLook (dcUpd l m) j = dcLook l j
  | [], _, _ => rfl
  | a :: m, l, h => by
    show dcLook (dcUpd (dcSet l a.1 a.2) m) j = _
    rw [dcUpd_out (m := m) fun q hq => h q (List.mem_cons_of_mem _ hq), dcSet_look, if_neg (Ne.symm (h a (List.mem_cons_self ..)))]
theorem dcUpd_in {q : κ × α} : ∀ {m l : List (κ × α)}, (m.map (·.1)).Nodup → q ∈ m → dcLook (dcUpd l m) q.1 = some q.2
  | a :: m, l, nd, h => by
    rw [List.map_cons, List.nodup_cons] at nd
    show dcLook (dcUpd (dcSet l a.1 a.2) m) q.1 = _
    rcases List.mem_cons.mp h with rfl | h
    · rw [dcUpd_out (m := m) fun x hx e => nd.1 (List.mem_map.mpr ⟨x, hx, e⟩), dcSet_look, if_pos rfl]
    · exact dcUpd_in nd.2 h
theorem dcSet_new {l : List (κ × α)} {k : κ} {x : α} (h : k ∉ l.map (·.1)) : dcSet l k x = l ++ [(k, x)] := by
  unfold dcSet
  rw [if_neg]
  intro e
  obtain ⟨q, hq, e⟩ := List.any_eq_true.mp e
  exact h (List.mem_map.mpr ⟨q, hq, of_decide_eq_true e⟩)
theorem dcUpd_new : ∀ {m l : List (κ × α)}, (m.map (·.1)).Nodup → (∀ q ∈ m, q.1 ∉ l.map (·.1)) → dcUpd l m = l ++ m
  | [], l, _, _ => (List.append_nil l).symm
  | a :: m, l, nd, h => by
    rw [List.map_cons, List.nodup_cons] at nd
    show dcUpd (dcSet l a.1 a.2) m = _
    rw [dcSet_new (h a (List.mem_cons_self ..)), dcUpd_new nd.2 fun q hq => ?_, List.append_assoc]
    · rfl
    · rw [List.map_append, List.mem_append]
      rintro (hh | hh)
      · exact h q (List.mem_cons_of_mem _ hq) hh
      · have hh : q.1 = a.1 := List.mem_singleton.mp hh
        exact nd.1 (List.mem_map.mpr ⟨q, hq, hh⟩)
theorem dcUpd_len : ∀ (m l : List (κ × α)), (dcUpd l m).length ≤ l.length + m.length
  | [], l => Nat.le_refl _
  | a :: m, l => by
    have h1 := dcUpd_len m (dcSet l a.1 a.2)
    have h2 : (dcSet l a.1 a.2).length ≤ l.length + 1 := dcSet_len
    show (dcUpd (dcSet l a.1 a.2) m).length ≤ _
    rw [List.length_cons]; omega
end
/-! ### counts -/
theorem even_max {l : List Nat} {n c : Nat} (ev : EvenN l n) (hlt : ∀ h ∈ l, h < n) (hs : l.length ≤ n * c) (d : Nat) : l.count d ≤ c := by
  rcases Nat.lt_or_ge c (l.count d) with h | h
  · exfalso
    have hd : d ∈ l := List.count_pos_iff.mp (by omega)
    have hn := hlt d hd
    have low : ∀ x ∈ cntL l n, c ≤ x := fun x hx => by
      obtain ⟨j, hj, rfl⟩ := List.mem_map.mp hx
      have := ev d j hn (List.mem_range.mp hj)
      omega
    have := (sumR_gt low).2 ⟨l.count d, List.mem_map.mpr ⟨d, List.mem_range.mpr hn, rfl⟩, h⟩
    rw [cnt_sum, cnt_len, List.filter_eq_self.mpr fun x hx => decide_eq_true (hlt x hx)] at this
    omega
  · exact h
def numsD (r : List Nat) (d : Nat) : List Nat := (List.range r.length).filter fun i => decide (gt r i = d)
def dayL (ps : List (Str × Str)) (r : List Nat) (d : Nat) : List (Str × Str) := (numsD r d).map (gt ps)
theorem numsD_nodup (r : List Nat) (d : Nat) : (numsD r d).Nodup := List.Pairwise.filter _ List.nodup_range
theorem numsD_mem {r : List Nat} {d i : Nat} : i ∈ numsD r d ↔ i < r.length ∧ gt r i = d := by
  unfold numsD
  rw [List.mem_filter, List.mem_range, decide_eq_true_iff]
theorem numsD_len (r : List Nat) (d : Nat) : (numsD r d).length = r.count d := by
  unfold numsD
  rw [← filter_gt r fun x => decide (x = d), List.count_eq_countP, List.countP_eq_length_filter]
  congr 1
theorem numsD_mono {r : List Nat} {d k m : Nat} (h : k < m) (hm : m < (numsD r d).length) : gt (numsD r d) k < gt (numsD r d) m := by
  have p : (numsD r d).Pairwise (· < ·) := List.Pairwise.filter _ List.pairwise_lt_range
  have := List.pairwise_iff_getElem.mp p k m (by omega) hm h
  have e1 := gt_some (l := numsD r d) (i := k) (by omega)
  have e2 := gt_some (l := numsD r d) (i := m) hm
  rw [List.getElem?_eq_getElem (by omega)] at e1 e2
  rw [← Option.some.inj e1, ← Option.some.inj e2]; exact this
theorem row_count {S : Sch} {r : List Nat} {p : Str} {d : Nat} : (rowP S r p).count d = ((numsOf S.ps p).filter fun i => decide (gt r i = d)).length := by
  unfold rowP
  rw [List.count_eq_countP, List.countP_map, List.countP_eq_length_filter]
  congr 1
theorem day_load {S : Sch} {r : List Nat} {x : Str} {d : Nat} (hl : r.length = S.ps.length) : tlo (dayL S.ps r d) x ≤ (rowP S r x).count d ∧ clo (dayL S.ps r d) x ≤ (rowP S r x).count d := by
  have key : ∀ f : Str × Str → Str, (∀ y, f y ∈ [y.1, y.2]) → ((dayL S.ps r d).filter fun y => decide (f y = x)).length ≤ (rowP S r x).count d := fun f hf => by
    unfold dayL
    rw [row_count, nums_range, List.filter_map, List.length_map]
    unfold numsD
    rw [List.filter_filter, List.filter_filter, hl, ← List.countP_eq_length_filter, ← List.countP_eq_length_filter]
    refine List.countP_mono_left fun i _ h => ?_
    rw [Bool.and_eq_true] at h ⊢
    obtain ⟨h1, h2⟩ := h
    have h1 : f (gt S.ps i) = x := of_decide_eq_true h1
    exact ⟨h2, decide_eq_true (h1 ▸ hf _)⟩
  exact ⟨key (·.1) fun y => by simp, key (·.2) fun y => by simp⟩
theorem row_lt {S : Sch} {r : List Nat} {days : Nat} (hl : r.length = S.ps.length) (lt : ∀ h ∈ r, h < days) {p : Str} : (∀ h ∈ rowP S r p, h < days) ∧ (rowP S r p).length = (numsOf S.ps p).length := by
  refine ⟨fun h hh => ?_, by unfold rowP; rw [List.length_map]⟩
  obtain ⟨i, hi, rfl⟩ := List.mem_map.mp hh
  rw [nums_range] at hi
  exact lt _ (gt_mem (by rw [hl]; exact (rmem hi).1))
theorem dayL_len (ps : List (Str × Str)) (r : List Nat) (d : Nat) : (dayL ps r d).length = (numsD r d).length := by unfold dayL; rw [List.length_map]
theorem numsD_le (r : List Nat) (d : Nat) : (numsD r d).length ≤ r.length := by rw [numsD_len]; exact List.count_le_length ..
/-- each day's lessons have a plan -/
theorem day_pre {S : Sch} {r : List Nat} {days hours d : Nat} (hn : SchNew S) (hl : r.length = S.ps.length) (lt : ∀ h ∈ r, h < days) (row : ∀ p ∈ S.ts ++ S.cs, EvenN (rowP S r p) days) (ld : ∀ p ∈ S.ts ++ S.cs, (numsOf S.ps p).length ≤ days * hours) (h40 : hours ≤ 40) : PlanPre (dayL S.ps r d) hours := by
  have p40 := hn.ok.p40
  have few : ∀ p ∈ S.ts ++ S.cs, (rowP S r p).count d ≤ hours := fun p hp => by
    obtain ⟨a, b⟩ := row_lt hl lt (p := p)
    exact even_max (row p hp) a (by rw [b]; exact ld p hp) d
  have mem : ∀ y ∈ dayL S.ps r d, y ∈ S.ps := fun y hy => by
    obtain ⟨i, hi, rfl⟩ := List.mem_map.mp hy
    exact gt_mem (by rw [← hl]; exact (numsD_mem.mp hi).1)
  have nl := numsD_le r d
  refine ⟨by rw [dayL_len]; omega, fun x => ?_, fun x => ?_, h40⟩
  · rcases Nat.eq_zero_or_pos (tlo (dayL S.ps r d) x) with h | h
    · rw [h]; exact Nat.zero_le _
    · obtain ⟨y, hy⟩ := List.exists_mem_of_length_pos h
      obtain ⟨h1, h2⟩ := List.mem_filter.mp hy
      have h2 := of_decide_eq_true h2
      have hx : x ∈ S.ts := by rw [← h2]; exact (hn.ok.les y (mem y h1)).1
      exact Nat.le_trans (day_load hl).1 (few x (List.mem_append_left _ hx))
  · rcases Nat.eq_zero_or_pos (clo (dayL S.ps r d) x) with h | h
    · rw [h]; exact Nat.zero_le _
    · obtain ⟨y, hy⟩ := List.exists_mem_of_length_pos h
      obtain ⟨h1, h2⟩ := List.mem_filter.mp hy
      have h2 := of_decide_eq_true h2
      have hx : x ∈ S.cs := by rw [← h2]; exact (hn.ok.les y (mem y h1)).2
      exact Nat.le_trans (day_load hl).2 (few x (List.mem_append_right _ hx))
structure DayPre (S : Sch) (r : List Nat) (d hours : Nat) : Prop where
  len : r.length = S.ps.length
  s40 : S.ps.length ≤ 40
  pre : PlanPre (dayL S.ps r d) hours
  h1 : 1 ≤ hours
structure DayIs (S : Sch) (r : List Nat) (d hours : Nat) (m : List (Nat × Nat)) : Prop where
  ex : ∃ hs, PlanFor (dayL S.ps r d) hours hs ∧ EvenN hs hours ∧ m = (numsD r d).zip hs
/-- the hours of the days below n are in the dict -/
def HoursOk (S : Sch) (r : List Nat) (hours : Nat) (m : List (Nat × Nat)) (n : Nat) : Prop :=
  ∀ d, d < n → ∃ hs, PlanFor (dayL S.ps r d) hours hs ∧ EvenN hs hours ∧ ∀ k, k < (numsD r d).length → dcLook m (gt (numsD r d) k) = some (gt hs k)
theorem HoursOk.next {S : Sch} {r : List Nat} {hours n : Nat} {m m2 : List (Nat × Nat)} (h : HoursOk S r hours m n) (h2 : DayIs S r n hours m2) : HoursOk S r hours (dcUpd m m2) (n + 1) := by
  obtain ⟨hs, pf, ev, rfl⟩ := h2
  have zl : hs.length = (numsD r n).length := by rw [pf.clear.len, dayL_len]
  have ek : ((numsD r n).zip hs).map (·.1) = numsD r n := List.map_fst_zip (by omega)
  intro d hd
  by_cases e : d = n
  · subst e
    refine ⟨hs, pf, ev, fun k hk => ?_⟩
    have hm : (gt (numsD r d) k, gt hs k) ∈ (numsD r d).zip hs := by
      refine List.mem_of_getElem? (i := k) ?_
      rw [List.getElem?_zip_eq_some]
      exact ⟨gt_some hk, gt_some (by omega)⟩
    exact dcUpd_in (q := (gt (numsD r d) k, gt hs k)) (by rw [ek]; exact numsD_nodup r d) hm
  · obtain ⟨hs', a, b, c⟩ := h d (by omega)
    refine ⟨hs', a, b, fun k hk => ?_⟩
    rw [dcUpd_out fun q hq e2 => ?_]
    · exact c k hk
    · have h1 : q.1 ∈ numsD r n := by rw [← ek]; exact List.mem_map.mpr ⟨q, hq, rfl⟩
      have h2 := (numsD_mem.mp (gt_mem hk)).2
      rw [e2] at h1
      have h3 := (numsD_mem.mp h1).2
      omega
structure MomentsOk (S : Sch) (days hours rooms : Nat) (m : List (Nat × Nat)) : Prop where
  len : m.length = S.ps.length
  lt : ∀ q ∈ m, q.1 < days ∧ q.2 < hours
  row : ∀ p ∈ S.ts ++ S.cs, EvenN (rowP S (m.map (·.1)) p) days
  all : EvenN (m.map (·.1)) days
  free : ∀ a t, a < t → t < S.ps.length → meetB (gt S.ps a) (gt S.ps t) = true → gt m a ≠ gt m t
  room : 0 < rooms → ∀ q ∈ m, m.count q ≤ rooms
structure WeekIs (S : Sch) (days hours rooms : Nat) (r : WkV) : Prop where
  no : ∀ v, tooFull S (days * hours) rooms = some v → r = .fit v
  yes : tooFull S (days * hours) rooms = none → ∃ m, r = .week m ∧ MomentsOk S days hours rooms m
def momL (r : List Nat) (hd : List (Nat × Nat)) : List (Nat × Nat) := (List.range r.length).map fun i => (gt r i, dcGet hd i)
theorem week_ok {S : Sch} {r : List Nat} {days hours rooms : Nat} {hd : List (Nat × Nat)} (hn : SchNew S) (pf : PlanFor (partedL S.ps days) days r) (ev : EvenN r days) (h1 : 1 ≤ days) (hh : HoursOk S r hours hd days) (hr : ¬ (0 < rooms * (days * hours) ∧ rooms * (days * hours) < S.ps.length)) (hh1 : 1 ≤ hours) : (∀ i, i < r.length → dcHas hd i = true) ∧ MomentsOk S days hours rooms (momL r hd) := by
  have rl : r.length = S.ps.length := by rw [pf.clear.len, parted_len]
  have loc : ∀ i, i < r.length → ∃ hs k, PlanFor (dayL S.ps r (gt r i)) hours hs ∧ EvenN hs hours ∧ k < (numsD r (gt r i)).length ∧ gt (numsD r (gt r i)) k = i ∧ dcLook hd i = some (gt hs k) ∧ ∀ j, j < (numsD r (gt r i)).length → dcLook hd (gt (numsD r (gt r i)) j) = some (gt hs j) := fun i hi => by
    obtain ⟨hs, a, b, c⟩ := hh (gt r i) (pf.lt _ (gt_mem hi))
    obtain ⟨k, hk⟩ := List.mem_iff_getElem?.mp (numsD_mem.mpr ⟨hi, rfl⟩ : i ∈ numsD r (gt r i))
    have kl := (List.getElem?_eq_some_iff.mp hk).1
    have e := gt_of hk
    exact ⟨hs, k, a, b, kl, e, by rw [← c k kl, e], c⟩
  have has : ∀ i, i < r.length → dcHas hd i = true := fun i hi => by
    obtain ⟨hs, k, _, _, _, _, h5, _⟩ := loc i hi
    unfold dcHas; rw [h5]; rfl
  have getE : ∀ {i x}, dcLook hd i = some x → dcGet hd i = x := fun h => by unfold dcGet; rw [h]; rfl
  have ml : (momL r hd).length = r.length := by unfold momL; rw [List.length_map, List.length_range]
  have mg : ∀ i, i < r.length → gt (momL r hd) i = (gt r i, dcGet hd i) := fun i hi => by
    unfold momL
    rw [gt_map (by rw [List.length_range]; exact hi), gt_of (List.getElem?_range hi)]
  have m1 : (momL r hd).map (·.1) = r := by
    unfold momL
    rw [List.map_map]
    exact (all_gt r).symm
  have hlt : ∀ i, i < r.length → dcGet hd i < hours := fun i hi => by
    obtain ⟨hs, k, h1, _, h3, _, h5, _⟩ := loc i hi
    rw [getE h5]
    exact h1.lt _ (gt_mem (by rw [h1.clear.len, dayL_len]; exact h3))
  refine ⟨has, ⟨by rw [ml, rl], fun q hq => ?_, fun p hp => ?_, by rw [m1]; exact ev, fun a t hat ht hm e => ?_, fun hr0 q hq => ?_⟩⟩
  · obtain ⟨i, hi, rfl⟩ := List.mem_map.mp hq
    have hi := List.mem_range.mp hi
    exact ⟨pf.lt _ (gt_mem hi), hlt i hi⟩
  · rw [m1]; exact spread_even hn h1 pf hp
  · have hal : a < r.length := by omega
    have htl : t < r.length := by omega
    rw [mg a hal, mg t htl] at e
    have e1 := congrArg Prod.fst e
    have e2 := congrArg Prod.snd e
    have e1 : gt r a = gt r t := e1
    have e2 : dcGet hd a = dcGet hd t := e2
    obtain ⟨hs, k, b1, _, b3, b4, b5, b6⟩ := loc a hal
    have tm : t ∈ numsD r (gt r a) := numsD_mem.mpr ⟨htl, e1.symm⟩
    obtain ⟨j, hj⟩ := List.mem_iff_getElem?.mp tm
    have jl := (List.getElem?_eq_some_iff.mp hj).1
    have je := gt_of hj
    have e3 : gt hs k = gt hs j := by
      rw [← getE b5, e2, ← je]
      exact getE (b6 j jl)
    have kj : k < j := by
      rcases Nat.lt_trichotomy k j with z | z | z
      · exact z
      · rw [z, je] at b4; omega
      · have := numsD_mono z b3
        rw [b4, je] at this; omega
    have dl := dayL_len S.ps r (gt r a)
    have hl := b1.clear.len
    have := b1.clear.ok j (by rw [dl]; exact jl) k kj
    rw [clashAt_gt (by omega) (by omega) (by omega) (by omega), decide_eq_true e3] at this
    have g1 : gt (dayL S.ps r (gt r a)) k = gt S.ps a := by unfold dayL; rw [gt_map b3, b4]
    have g2 : gt (dayL S.ps r (gt r a)) j = gt S.ps t := by unfold dayL; rw [gt_map jl, je]
    rw [g1, g2, hm] at this
    cases this
  · obtain ⟨i, hi, rfl⟩ := List.mem_map.mp hq
    have hi := List.mem_range.mp hi
    obtain ⟨hs, k, b1, b2, b3, b4, b5, b6⟩ := loc i hi
    have hl := b1.clear.len
    rw [dayL_len] at hl
    have ehs : hs = (numsD r (gt r i)).map (dcGet hd) := by
      rw [all_gt hs, hl, all_gt ((numsD r (gt r i)).map (dcGet hd)), List.length_map]
      refine List.map_congr_left fun j hj => ?_
      have hj := List.mem_range.mp hj
      rw [gt_map hj, getE (b6 j hj)]
    have ec : (momL r hd).count (gt r i, dcGet hd i) = hs.count (dcGet hd i) := by
      rw [ehs]
      unfold momL numsD
      rw [List.count_eq_countP, List.countP_map, List.count_eq_countP, List.countP_map, List.countP_filter]
      refine List.countP_congr fun j _ => ?_
      show ((gt r j, dcGet hd j) == (gt r i, dcGet hd i)) = true ↔ ((dcGet hd j == dcGet hd i) && decide (gt r j = gt r i)) = true
      rw [beq_iff_eq, Prod.mk.injEq, Bool.and_eq_true, beq_iff_eq, decide_eq_true_iff]
      exact And.comm
    rw [ec]
    have tot : S.ps.length ≤ days * (hours * rooms) := by
      rcases Nat.lt_or_ge (rooms * (days * hours)) S.ps.length with z | z
      · exact absurd ⟨Nat.mul_pos hr0 (Nat.mul_pos h1 hh1), z⟩ hr
      · rw [show days * (hours * rooms) = rooms * (days * hours) by rw [← Nat.mul_assoc, Nat.mul_comm]]; exact z
    refine even_max b2 b1.lt ?_ _
    rw [hl, numsD_len]
    exact even_max ev pf.lt (by rw [rl]; exact tot) _
/-- what holds asks -/
structure HoldIs (S : Sch) (m : List (Nat × Nat)) (days hours rooms : Nat) : Prop where
  lt : ∀ q ∈ m, q.1 < days ∧ q.2 < hours
  room : 0 < rooms → ∀ q ∈ m, m.count q ≤ rooms
  nd : ∀ p ∈ S.ts ++ S.cs, ((numsOf S.ps p).map (gt m)).Nodup
theorem MomentsOk.nd {S : Sch} {days hours rooms : Nat} {m : List (Nat × Nat)} (hn : SchNew S) (h : MomentsOk S days hours rooms m) {p : Str} (hp : p ∈ S.ts ++ S.cs) : ((numsOf S.ps p).map (gt m)).Nodup := by
  rw [nums_range, List.nodup_iff_pairwise_ne, List.pairwise_map]
  refine List.Pairwise.imp_of_mem (fun {a b} ha hb hab => ?_) (List.Pairwise.filter _ List.pairwise_lt_range)
  obtain ⟨a1, a2⟩ := rmem ha
  obtain ⟨b1, b2⟩ := rmem hb
  exact h.free a b hab b1 (one_side hn hp (gt_mem a1) (gt_mem b1) (of_decide_eq_true a2) (of_decide_eq_true b2))
theorem MomentsOk.hold {S : Sch} {days hours rooms : Nat} {m : List (Nat × Nat)} (hn : SchNew S) (h : MomentsOk S days hours rooms m) : HoldIs S m days hours rooms := ⟨h.lt, h.room, fun p hp => h.nd hn hp⟩
theorem v_max2t {X : Cx} {W : Wd} {G : List (Option D)} {C : Cells} {a x y : Nat} (hc : X.calm = true) : ∀ k : KD, k (natD (max a (x - y))) C → cD X W (.builtin "max") [natD a, .int ((x : Int) - (y : Int))] G C k := fun k q => c_max2 hc (by
  have e : max (a : Int) ((x : Int) - (y : Int)) = ((max a (x - y) : Nat) : Int) := by omega
  rw [e]; exact q)
theorem week_kind {S : Sch} {days hours rooms : Nat} {r : WkV} (h : WeekIs S days hours rooms r) : wkK r = "week" ↔ tooFull S (days * hours) rooms = none := by
  cases e : tooFull S (days * hours) rooms with
  | none =>
    obtain ⟨m, rfl, _⟩ := h.yes e
    exact ⟨fun _ => rfl, fun _ => rfl⟩
  | some v =>
    rw [h.no v e]
    refine ⟨fun z => ?_, fun z => by cases z⟩
    have z : fitK v = "week" := z
    cases v with
    | person x => exact absurd (show ("person" : Str) = "week" from z) (by decide +kernel)
    | rooms x => exact absurd (show ("rooms" : Str) = "week" from z) (by decide +kernel)
    | plan x => exact absurd (show ("plan" : Str) = "week" from z) (by decide +kernel)
theorem okF {S : Sch} {hours rooms : Nat} {v : FitV} (hok : SchOk S) (h40 : hours ≤ 1600) (r40 : rooms ≤ 40) (h : tooFull S hours rooms = some v) : Ok (fitE v) := by
  unfold tooFull at h
  cases e : (S.ts ++ S.cs).find? fun p => decide (hours < (numsOf S.ps p).length) with
  | some p =>
    rw [e] at h
    cases h
    exact okS_person (hok.nm p (List.mem_of_find?_eq_some e))
  | none =>
    rw [e] at h
    have h : (if 0 < rooms * hours ∧ rooms * hours < S.ps.length then some (FitV.rooms (hours * rooms)) else none) = some v := h
    split at h
    · cases h
      have : hours * rooms ≤ 1600 * 40 := Nat.mul_le_mul h40 r40
      exact ok_of (fd_pr (f := D.str) (g := natD) (x := ("rooms", hours * rooms)) (n := 8) (show FitD (.str "rooms") 8 0 from fd_str (by decide) (by decide)) (fd_nat (by show hours * rooms < _; omega))) (by decide) (by decide)
    · cases h
/-- the moments, numbered -/
theorem mom_clear {S : Sch} {days hours rooms : Nat} {m : List (Nat × Nat)} (h : MomentsOk S days hours rooms m) : firstClash S.ps (m.map fun y => y.1 * hours + y.2) = none := by
  rw [firstClash_iff]
  intro t ht a hat
  have ml := h.len
  rw [clashAt_gt (by omega) ht (by rw [List.length_map]; omega) (by rw [List.length_map]; omega), gt_map (by omega), gt_map (by omega)]
  cases hm : meetB (gt S.ps a) (gt S.ps t) with
  | false => simp
  | true =>
    rw [Bool.and_true]
    refine decide_eq_false fun e => h.free a t hat ht hm ?_
    have a2 := (h.lt _ (gt_mem (l := m) (i := a) (by omega))).2
    have t2 := (h.lt _ (gt_mem (l := m) (i := t) (by omega))).2
    have hp : 0 < hours := by omega
    have e1 : ((gt m a).1 * hours + (gt m a).2) / hours = (gt m a).1 := by
      rw [Nat.mul_comm, Nat.mul_add_div hp, Nat.div_eq_of_lt a2, Nat.add_zero]
    have e2 : ((gt m t).1 * hours + (gt m t).2) / hours = (gt m t).1 := by
      rw [Nat.mul_comm, Nat.mul_add_div hp, Nat.div_eq_of_lt t2, Nat.add_zero]
    have e3 : (gt m a).1 = (gt m t).1 := by rw [← e1, ← e2, e]
    refine Prod.ext e3 ?_
    rw [e3] at e; omega
/-- the lessons of one day -/
theorem mom_day {S : Sch} {days hours rooms d : Nat} {m : List (Nat × Nat)} {mine : List Nat} (h : MomentsOk S days hours rooms m) (hmine : mine = (List.range S.ps.length).filter fun i => decide ((gt m i).1 = d)) : firstClash (mine.map fun i => gt S.ps i) (mine.map fun i => (gt m i).2) = none := by
  rw [firstClash_iff]
  intro t ht a hat
  rw [List.length_map] at ht
  rw [clashAt_gt (by rw [List.length_map]; omega) (by rw [List.length_map]; omega) (by rw [List.length_map]; omega) (by rw [List.length_map]; omega), gt_map (by omega), gt_map (by omega), gt_map (by omega), gt_map (by omega)]
  cases hm : meetB (gt S.ps (gt mine a)) (gt S.ps (gt mine t)) with
  | false => simp
  | true =>
    rw [Bool.and_true]
    have am : gt mine a ∈ mine := gt_mem (by omega)
    have tm : gt mine t ∈ mine := gt_mem ht
    have inc : gt mine a < gt mine t := by
      have p : mine.Pairwise (· < ·) := by rw [hmine]; exact List.Pairwise.filter _ List.pairwise_lt_range
      have := List.pairwise_iff_getElem.mp p a t (by omega) ht hat
      have e1 := gt_some (l := mine) (i := a) (by omega)
      have e2 := gt_some (l := mine) (i := t) ht
      rw [List.getElem?_eq_getElem (by omega)] at e1 e2
      rw [← Option.some.inj e1, ← Option.some.inj e2]; exact this
    have am' : gt mine a ∈ (List.range S.ps.length).filter fun i => decide ((gt m i).1 = d) := hmine ▸ am
    have tm' : gt mine t ∈ (List.range S.ps.length).filter fun i => decide ((gt m i).1 = d) := hmine ▸ tm
    obtain ⟨a1, a2⟩ := rmem am'
    obtain ⟨t1, t2⟩ := rmem tm'
    have a2 := of_decide_eq_true a2
    have t2 := of_decide_eq_true t2
    exact decide_eq_false fun e => h.free _ _ inc t1 hm (Prod.ext (a2.trans t2.symm) e)
end EW

/-! Odd values: what they are, that they may change, what repr tells of them. -/
namespace EW
open PySem PySem.Spec PyProof.Rows L2
def moreD : D := .str "more"
/-- what an odd dict may hold -/
def odds : List (List (Key × Nat)) := [[], [(.inr "a", 1)], [(.inl 7, 1)], [(.inr "more", 1)], [(.inr "a", 1), (.inr "more", 1)], [(.inl 7, 1), (.inr "more", 1)]]
inductive OddIn (m : Nat) (C : Cells) : D → Prop
  | non : OddIn m C .non
  | bl (b : Bool) : OddIn m C (.bl b)
  | int (i : Int) : i.natAbs.log2 < 1000 → OddIn m C (.int i)
  | str (x : Str) : FitD (.str x) 40 0 → x.length ≤ 40 → OddIn m C (.str x)
  | tup (ds : List D) : FitD (.tup ds) 100 6 → OddIn m C (.tup ds)
  | lst (p : Addr) (ds : List D) : (p, Cl.lst ds) ∈ C → (∀ x ∈ ds, FitD x 40 4) → ds.length ≤ m → OddIn m C (.ref p)
  | dct (p : Addr) (l : List (Key × Nat)) : (p, dcC id natD l) ∈ C → l ∈ odds → OddIn m C (.ref p)
theorem exm_of {K : PySem.W.Frag} {cA cB : Addr} {b : Bool} (h1 : PySem.W.subIn K (.ref cB) (.type "BaseException") = some true) (h2 : PySem.W.isClsIn K cB = true) (h3 : PySem.W.typeIn K (.ref cB) = some (.type "type")) (h4 : PySem.W.subIn K (.ref cA) (.ref cB) = some b) : PySem.W.exmOne K (.ref cA) (.ref cB) = some b := by
  unfold PySem.W.exmOne PySem.W.kitCls
  have h5 : (PySem.W.clsIn K cB).isSome = true := h2
  rw [h1]
  show (if ((PySem.W.clsIn K cB).isSome && PySem.W.typeIn K (.ref cB) == some (.type "type")) = true then PySem.W.subIn K (.ref cA) (.ref cB) else none) = some b
  rw [h3, h5, h4, if_pos]
  simp
instance : KyE (id : Key → Key) := ⟨fun _ _ h => h⟩
theorem OddIn.mem {m n : Nat} {C C' : Cells} {d : D} (h : OddIn m C d) (hm : m ≤ n) (hs : ∀ q ∈ C, q ∈ C') : OddIn n C' d := by
  cases h with
  | non => exact .non
  | bl b => exact .bl b
  | int i h => exact .int i h
  | str x h h2 => exact .str x h h2
  | tup ds h => exact .tup ds h
  | lst p ds h1 h2 h3 => exact .lst p ds (hs _ h1) h2 (by omega)
  | dct p l h1 h2 => exact .dct p l (hs _ h1) h2
theorem Sub.memq {R C : Cells} (h : Sub R C) : ∀ q ∈ R, q ∈ C := fun q hq => by
  obtain ⟨Z, hp⟩ := h
  exact hp.mem_iff.mpr (List.mem_append_left _ hq)
theorem OddIn.kind {m : Nat} {C : Cells} {d : D} (h : OddIn m C d) : ∃ s, KindC C d s := by
  cases h with
  | non => exact ⟨_, .base rfl⟩
  | bl b => exact ⟨_, .base rfl⟩
  | int i h => exact ⟨_, .base rfl⟩
  | str x h h2 => exact ⟨_, .base rfl⟩
  | tup ds h => exact ⟨_, .base rfl⟩
  | lst p ds h1 h2 h3 =>
    obtain ⟨j, hj⟩ := List.mem_iff_getElem?.mp h1
    exact ⟨_, .lst j hj⟩
  | dct p l h1 h2 =>
    obtain ⟨j, hj⟩ := List.mem_iff_getElem?.mp h1
    exact ⟨_, .dct j hj⟩
theorem OddIn.kc {m : Nat} {C : Cells} {d : D} (h : OddIn m C d) : KC C d := ⟨h.kind, fun x e => by
  subst e
  cases h with
  | str x h h2 => omega⟩
/-- odd values stay odd -/
def Grow (C C' : Cells) : Prop := ∀ m d, OddIn m C d → OddIn (m + 1) C' d
theorem fdMore : FitD moreD 40 4 := (fd_str (n := 40) (by decide) (by decide)).mono (Nat.le_refl _) (by decide)
theorem set_mem {C : Cells} {j : Nat} {q q2 x : Addr × Cl} (hj : C[j]? = some q) (hx : x ∈ C) : x = q ∨ x ∈ C.set j q2 := by
  obtain ⟨i, hi⟩ := List.mem_iff_getElem?.mp hx
  by_cases e : j = i
  · subst e
    rw [hj] at hi
    exact .inl (Option.some.inj hi).symm
  · exact .inr (List.mem_of_getElem? (i := i) (by rw [List.getElem?_set_ne e]; exact hi))
theorem set_self {C : Cells} {j : Nat} {q q2 : Addr × Cl} (hj : C[j]? = some q) : q2 ∈ C.set j q2 :=
  List.mem_of_getElem? (i := j) (by rw [List.getElem?_set_self (List.getElem?_eq_some_iff.mp hj).1])
theorem grow_lst {C : Cells} {j : Nat} {p : Addr} {ds : List D} (hj : C[j]? = some (p, Cl.lst ds)) : Grow C (C.set j (p, Cl.lst (ds ++ [moreD]))) := fun m d h => by
  cases h with
  | non => exact .non
  | bl b => exact .bl b
  | int i h => exact .int i h
  | str x h h2 => exact .str x h h2
  | tup ds h => exact .tup ds h
  | lst p' ds' h1 h2 h3 =>
    rcases set_mem (q2 := (p, Cl.lst (ds ++ [moreD]))) hj h1 with e | e
    · cases e
      refine .lst p _ (set_self hj) (fun x hx => ?_) (by rw [List.length_append]; exact Nat.succ_le_succ h3)
      rcases List.mem_append.mp hx with hx | hx
      · exact h2 x hx
      · rw [List.mem_singleton.mp hx]; exact fdMore
    · exact .lst p' ds' e h2 (by omega)
  | dct p' l h1 h2 =>
    rcases set_mem (q2 := (p, Cl.lst (ds ++ [moreD]))) hj h1 with e | e
    · cases e
    · exact .dct p' l e h2
theorem odds_len : ∀ l ∈ odds, l.length ≤ 2 := fun l hl => by
  have key : (odds.all fun l => decide (l.length ≤ 2)) = true := by decide +kernel
  exact of_decide_eq_true (List.all_eq_true.mp key l hl)
theorem odds_next : ∀ l ∈ odds, dcSet l (Sum.inr "more" : Key) 1 ∈ odds := fun l hl => by
  have key : (odds.all fun l => odds.any fun x => decide (x = dcSet l (Sum.inr "more" : Key) 1)) = true := by decide +kernel
  obtain ⟨x, hx, e⟩ := List.any_eq_true.mp (List.all_eq_true.mp key l hl)
  rw [← of_decide_eq_true e]; exact hx
theorem grow_dct {C : Cells} {j : Nat} {p : Addr} {l : List (Key × Nat)} (hj : C[j]? = some (p, dcC id natD l)) (hl : l ∈ odds) : Grow C (C.set j (p, dcC id natD (dcSet l (Sum.inr "more" : Key) 1))) := fun m d h => by
  cases h with
  | non => exact .non
  | bl b => exact .bl b
  | int i h => exact .int i h
  | str x h h2 => exact .str x h h2
  | tup ds h => exact .tup ds h
  | lst p' ds' h1 h2 h3 =>
    rcases set_mem (q2 := (p, dcC id natD (dcSet l (Sum.inr "more" : Key) 1))) hj h1 with e | e
    · cases e
    · exact .lst p' ds' e h2 (by omega)
  | dct p' l' h1 h2 =>
    rcases set_mem (q2 := (p, dcC id natD (dcSet l (Sum.inr "more" : Key) 1))) hj h1 with e | e
    · have ep : p' = p := congrArg Prod.fst e
      subst ep
      exact .dct p' _ (set_self hj) (odds_next l hl)
    · exact .dct p' l' e h2
theorem room_rep {n : Nat} {A : Around} (hr : Room n A) : A.units + 100 < cLine := by have := hr.un; omega
/-- raised, whatever stands beside -/
abbrev RaiseK (Ke : KE) (C : Cells) (c : Addr) (d : D) : Prop := ∀ C', Sub C C' → Ke ⟨c, some ("found", d)⟩ C'
/-! ### repr -/
def keyP : Key → PyData
  | .inl i => .int i
  | .inr s => .str s
def oddP (l : List (Key × Nat)) : PyData := .dict (l.map fun q => (keyP q.1, .int (q.2 : Int)))
theorem odds_show : ∀ l ∈ odds, (oddP l).showable = true ∧ (oddP l).shown.length ≤ 1000 ∧ (oddP l).depth ≤ 5 := fun l hl => by
  have key : (odds.all fun l => (oddP l).showable && (decide ((oddP l).shown.length ≤ 1000) && decide ((oddP l).depth ≤ 5))) = true := by decide +kernel
  have h := List.all_eq_true.mp key l hl
  rw [Bool.and_eq_true, Bool.and_eq_true] at h
  exact ⟨h.1, of_decide_eq_true h.2.1, of_decide_eq_true h.2.2⟩
theorem dict_reads {P : Program} {w : World} {K : PySem.W.Frag} {Pk : Hp} {h : Heap} : ∀ {l : List (Key × Nat)} {ws : List V} {vs2 : List (Key × Value)} {es : List DictEntry}, ws.length = l.length → Reps K Pk ws (l.map fun q => natD q.2) → KV ((l.map fun q => id q.1).zip ws) vs2 → Pairs (mixKind P w) es vs2 →
    ReadsAll h (es.map (·.key)) (l.map fun q => keyP q.1) [] ∧ ReadsAll h (es.map (·.val)) (l.map fun q => PyData.int (q.2 : Int)) []
  | [], [], _, _, _, _, .nil, .nil => ⟨.nil, .nil⟩
  | q :: l, w0 :: ws, _, _, hl, .cons r rs, .cons (b := b) hk kv, .cons h1 h2 hp => by
    obtain ⟨ih1, ih2⟩ := dict_reads (l := l) (ws := ws) (by simpa using hl) rs kv hp
    cases r
    obtain ⟨e1, e2⟩ := hk
    obtain ⟨t, ht⟩ := (show ∃ t, b.2 = Value.int ((q.2 : Nat) : Int) t from e2)
    have hkey : keyIs b.1 _ = true := h1
    have e1 : q.1 = b.1 := e1
    refine ⟨?_, ?_⟩
    · rw [List.map_cons, List.map_cons]
      refine ReadsAll.cons (as := []) (bs := []) ?_ ih1
      rw [e1]
      rcases keyIs_shape hkey with ⟨i, t, a1, a2⟩ | ⟨x, t, a1, a2⟩
      · rw [a1, a2]; exact .int i t
      · rw [a1, a2]; exact .str x t
    · rw [List.map_cons, List.map_cons]
      refine ReadsAll.cons (as := []) (bs := []) ?_ ih2
      rw [h2, ht]; exact .int _ t
section
variable {X : Cx} {W : Wd} {G : List (Option D)} {C : Cells}
theorem c_reprDct {i : Nat} {p : Addr} {l : List (Key × Nat)} {k : KD} (hu : X.A.units + 100 < cLine) (hgu : X.A.guards = some []) (hi : C[i]? = some (p, dcC id natD l)) (hl : l ∈ odds) (q : k (.str (oddP l).shown) C) : cD X W (.builtin "repr") [.ref p] G C k := fun σ P H Q vs g rs z pins s σ' us I rv => by
  obtain ⟨v, rfl, r⟩ := reps1 rs
  cases r
  obtain ⟨u, rfl, ru⟩ := vals1 rv
  cases ru
  obtain ⟨o, ho, ws, rfl, hlen, rs'⟩ := g.cell hi
  obtain ⟨z1, hd, vs2, kv, ob, es, ep, h1, h2, h3, h4, h5, h6⟩ := dk_of I.hok ho
  obtain ⟨a1, a2, a3⟩ := odds_show l hl
  have hw : ws.length = l.length := by rw [← hlen, List.length_map]
  obtain ⟨q1, q2⟩ := dict_reads (h := s.heap) hw rs' kv h5
  have rd : Reads s.heap (.ref p) (oddP l) [p] := by
    refine Reads.dict (as := []) (bs := []) h1 h2.1 h3 ?_ ?_
    · rw [List.map_map]; exact q1
    · rw [List.map_map]; exact q2
  have fin : ∀ s', Inv X pins σ' H s' → ∀ tk, EP X pins σ' Q (.str (oddP l).shown tk) s' := fun s' I' tk => ⟨.str (oddP l).shown, H, I', ⟨tk, rfl⟩, z _ C _ P H g.refl (.str _) q⟩
  refine repr_of_reads' rd a1 (fun _ hm => ?_) hgu (by omega) (fun b o e => e) (fun h' u tk hk => fin _ (I.kept hk) u) (by rw [sizeLine_eq]; omega)
  rw [List.mem_singleton] at hm
  rw [hm] at hd
  simp at hd
/-- repr gives one text -/
theorem odd_repr {C : Cells} {m : Nat} {d : D} (hm : m ≤ 1000) (h : OddIn m C d) : ∃ x : Str, ∀ {X : Cx} {W : Wd} {G : List (Option D)}, X.A.units + 100 < cLine → X.A.guards = some [] → ∀ (k : KD), k (.str x) C → cD X W (.builtin "repr") [d] G C k := by
  have pl : ∀ {n dep : Nat}, FitD d n dep → n ≤ 1000000 → dep ≤ 64 → ∃ x : Str, ∀ {X : Cx} {W : Wd} {G : List (Option D)}, X.A.units + 100 < cLine → X.A.guards = some [] → ∀ (k : KD), k (.str x) C → cD X W (.builtin "repr") [d] G C k := fun f h1 h2 => ⟨_, fun hu hgu k q => c_repr hu hgu f.pl f.fit h1 h2 q⟩
  cases h with
  | non => exact pl (n := 0) (dep := 0) ⟨rfl, fit_none⟩ (by decide) (by decide)
  | bl b => exact pl fd_bl (by decide) (by decide)
  | int i h =>
    refine ⟨Str.ofString (toString i), fun hu hgu k q => cD_of SkE.call_repr_int fun σ P H Q vs g rr z => ?_⟩
    obtain ⟨v, rfl, r⟩ := reps1 rr
    cases r
    exact ⟨_, rfl, by omega, z _ C _ P H g.refl (.str _) q⟩
  | str x h h2 => exact pl h (by decide) (by decide)
  | tup ds h => exact pl h (by decide) (by decide)
  | lst p ds h1 h2 h3 =>
    obtain ⟨j, hj⟩ := List.mem_iff_getElem?.mp h1
    have f : FitD (lsE id ds) (1000 * (40 + 1)) (4 + 1) := fd_ls (f := id) (fun x hx => h2 x hx) (by omega)
    have e : lsE id ds = .lst ds := by unfold lsE; rw [List.map_id]
    rw [e] at f
    have hp : PlCs C ds (pyDs ds) := by
      have := PlCs.map (C := C) (l := ds) (g := id) (y := pyD) fun x hx => .pl (h2 x hx).pl
      rw [List.map_id] at this
      have e2 : pyDs ds = ds.map pyD := by
        have := pyDs_map ds (id : D → D)
        rw [List.map_id] at this
        exact this
      rw [e2]; exact this
    exact ⟨_, fun hu hgu k q => c_reprC hu hgu (.cell j hj hp) f.fit (by decide) (by decide) q⟩
  | dct p l h1 h2 =>
    obtain ⟨j, hj⟩ := List.mem_iff_getElem?.mp h1
    exact ⟨_, fun hu hgu k q => c_reprDct hu hgu hj h2 q⟩
end
theorem Good.own {K : PySem.W.Frag} {W : Wd} {G : List (Option D)} {C : Cells} {σ : L2.St} {P H : Hp} (g : Good K W G C σ P H) {p : Addr} {o : HO} {c : Cl} (hp : P p = none) (h0 : W.H0 p = none) (hc : p ∉ C.map (·.1)) (hh : H p = some o) (ho : c.ho K P o) : Good K W G (C ++ [(p, c)]) σ P H := by
  refine ⟨g.wf, g.le, g.p0, g.fr, g.hb, g.tr, g.sl, fun q hq => ?_, ?_, g.len⟩
  · rcases List.mem_append.mp hq with hq | hq
    · exact g.ce q hq
    · have e : q = (p, c) := by simpa using hq
      subst e
      exact ⟨hp, .inl h0, o, hh, ho⟩
  · rw [List.map_append, List.nodup_append]
    refine ⟨g.nd, by simp, fun a ha b hb => ?_⟩
    have hb : b = p := by simpa using hb
    rw [hb]
    intro e
    rw [e] at ha
    exact hc ha
section
variable {X : Cx} {W : Wd} {G : List (Option D)} {C : Cells} {k : KD} {pos : Pos}
theorem wE_dct1C {kx vx : Expr} {d2 : D} (key : Key) (h1 : ∀ W', wE X W' kx G C fun d C1 => d = keyD key ∧ C1 = C) (h2 : ∀ W', wE X W' vx G C fun d C1 => d = d2 ∧ C1 = C) (q : ∀ p, k (.ref p) (C ++ [(p, .dct [key] [d2])])) : wE X W (.Dict [some kx] [vx] pos) G C k := by
  refine wE_of (pe_disp (pps_cons pe_sem pe_sem pps_nil) rfl rfl (fun z => by cases z) (by show 1 ≤ 15; decide)) fun σ P H Q g z p np => ?_
  have h0 : W.H0 p = none := by
    cases e : W.H0 p with
    | none => rfl
    | some u => exact absurd np (g.tr p (by rw [e]; intro y; cases y))
  have pc : p ∉ C.map (·.1) := fun w => by
    obtain ⟨q, hq, e⟩ := List.mem_map.mp w
    obtain ⟨_, _, o, ho, _⟩ := g.ce q hq
    rw [e, np] at ho; cases ho
  have pn := g.le.none np
  have gp := g.aside (o := .dK []) pn h0 pc
  have gb := gp.base
  have hbD : (baseW P (upd H p (.dK [])) (C.map (·.1))).Hb p = some (.dK []) := by rw [baseW_hb pc]; exact upd_same
  refine h1 _ σ P _ _ gb fun d C1 v P1 H1 n1 r1 e1 => ?_
  obtain ⟨rfl, rfl⟩ := e1
  refine h2 _ σ P1 H1 _ n1.good fun d C1' v2 P2 H2 n2 r2 e2 => ?_
  obtain ⟨rfl, rfl⟩ := e2
  have nb := n1.tr n2
  have hv : v = kV key := rep_key r1
  have p2 : P2 p = none := (nb.good.fr p (by show upd H p (.dK []) p ≠ none; rw [upd_same]; intro y; cases y)).trans pn
  have gW := gp.back nb.good
  have hp2 : H2 p = some (.dK []) := nb.good.hb _ _ hbD
  have g3 := gW.aside (o := .dK (mergeK [] [(key, v2)])) p2 h0 pc
  have n4 := g3.own (c := .dct [key] [_]) p2 h0 pc upd_same ⟨[v2], rfl, rfl, .cons r2 .nil⟩
  exact ⟨hp2, [(key, v2)], by rw [hv]; rfl, by show 1 ≤ 15; decide, z _ _ (.ref p) _ _ ⟨nb.ex, n4⟩ (.ref p) (q p)⟩
end
end EW

/-! How many plans. -/
namespace EW
open PySem PySem.Spec PyProof.Rows L2
/-- the hours at which the next lesson cannot be -/
def takenN (ps : List (Str × Str)) (plan : List Nat) : List Nat := ((List.range plan.length).filter fun y => meetB (gt ps y) (gt ps plan.length)).map (gt plan)
def cntF (ps : List (Str × Str)) (hours : Nat) : Nat → List Nat → Nat
  | 0, _ => 1
  | n + 1, plan => (((List.range hours).filter fun y => !decide (y ∈ takenN ps plan)).map fun y => cntF ps hours n (plan ++ [y])).sum
def cntP (ps : List (Str × Str)) (plan : List Nat) (hours : Nat) : Nat := cntF ps hours (ps.length - plan.length) plan
theorem cntP_end {ps : List (Str × Str)} {plan : List Nat} {hours : Nat} (h : plan.length = ps.length) : cntP ps plan hours = 1 := by
  unfold cntP
  rw [h, Nat.sub_self]; rfl
theorem cntP_next {ps : List (Str × Str)} {plan : List Nat} {hours : Nat} (h : plan.length < ps.length) : cntP ps plan hours = (((List.range hours).filter fun y => !decide (y ∈ takenN ps plan)).map fun y => cntP ps (plan ++ [y]) hours).sum := by
  unfold cntP
  rw [show ps.length - plan.length = (ps.length - (plan.length + 1)) + 1 by omega]
  show (((List.range hours).filter fun y => !decide (y ∈ takenN ps plan)).map fun y => cntF ps hours (ps.length - (plan.length + 1)) (plan ++ [y])).sum = _
  congr 1
  refine List.map_congr_left fun y _ => ?_
  rw [List.length_append]; rfl
/-- all longer plans by one lesson -/
def extP (ps : List (Str × Str)) (hours : Nat) (plan : List Nat) : List (List Nat) := ((List.range hours).filter fun y => !decide (y ∈ takenN ps plan)).map fun y => plan ++ [y]
def extsP (ps : List (Str × Str)) (hours : Nat) : Nat → List (List Nat)
  | 0 => [[]]
  | i + 1 => (extsP ps hours i).flatMap (extP ps hours)
theorem extP_len {ps : List (Str × Str)} {hours : Nat} {plan : List Nat} : (extP ps hours plan).length ≤ hours := by
  unfold extP
  rw [List.length_map]
  exact Nat.le_trans (List.length_filter_le _ _) (by rw [List.length_range]; exact Nat.le_refl _)
theorem flat_len {ps : List (Str × Str)} {hours : Nat} : ∀ (l : List (List Nat)), (l.flatMap (extP ps hours)).length ≤ l.length * hours
  | [] => by simp
  | a :: l => by
    have h1 := flat_len (ps := ps) (hours := hours) l
    have h2 := extP_len (ps := ps) (hours := hours) (plan := a)
    rw [List.flatMap_cons, List.length_append, List.length_cons, Nat.add_mul, Nat.one_mul]
    omega
theorem exts_len {ps : List (Str × Str)} {hours : Nat} : ∀ i, (extsP ps hours i).length ≤ hours ^ i ∧ ∀ p ∈ extsP ps hours i, p.length = i ∧ ∀ h ∈ p, h < hours
  | 0 => ⟨Nat.le_refl _, fun p hp => by
    have hp : p ∈ [[]] := hp
    rw [List.mem_singleton.mp hp]; exact ⟨rfl, fun h hh => by cases hh⟩⟩
  | i + 1 => by
    obtain ⟨h1, h2⟩ := exts_len (ps := ps) (hours := hours) i
    refine ⟨?_, fun p hp => ?_⟩
    · refine Nat.le_trans (flat_len _) ?_
      rw [Nat.pow_succ]
      exact Nat.mul_le_mul_right _ h1
    · obtain ⟨q, hq, hp⟩ := List.mem_flatMap.mp hp
      obtain ⟨y, hy, rfl⟩ := List.mem_map.mp hp
      obtain ⟨a, b⟩ := h2 q hq
      refine ⟨by rw [List.length_append, a]; rfl, fun h hh => ?_⟩
      rcases List.mem_append.mp hh with hh | hh
      · exact b h hh
      · rw [List.mem_singleton.mp hh]; exact List.mem_range.mp (List.mem_filter.mp hy).1
theorem sum_flat {f : List Nat → Nat} {g : List Nat → List (List Nat)} : ∀ l : List (List Nat), ((l.flatMap g).map f).sum = (l.map fun p => ((g p).map f).sum).sum
  | [] => rfl
  | a :: l => by rw [List.flatMap_cons, List.map_append, List.sum_append, List.map_cons, List.sum_cons, sum_flat l]
theorem exts_sum {ps : List (Str × Str)} {hours : Nat} : ∀ i, i ≤ ps.length → ((extsP ps hours i).map fun p => cntP ps p hours).sum = cntP ps [] hours
  | 0, _ => by show ([[]].map fun p => cntP ps p hours).sum = _; simp
  | i + 1, h => by
    rw [← exts_sum i (by omega)]
    show (((extsP ps hours i).flatMap (extP ps hours)).map fun p => cntP ps p hours).sum = _
    rw [sum_flat]
    congr 1
    refine List.map_congr_left fun p hp => ?_
    obtain ⟨a, _⟩ := (exts_len (ps := ps) (hours := hours) i).2 p hp
    rw [cntP_next (by omega)]
    unfold extP
    rw [List.map_map]; rfl
theorem sum_ones1 {l : List (List Nat)} {f : List Nat → Nat} (h : ∀ p ∈ l, f p = 1) : (l.map f).sum = l.length := by
  induction l with
  | nil => rfl
  | cons a l ih =>
    rw [List.map_cons, List.sum_cons, h a (List.mem_cons_self ..), ih fun p hp => h p (List.mem_cons_of_mem _ hp), List.length_cons]
    omega
theorem exts_count {ps : List (Str × Str)} {hours : Nat} : (extsP ps hours ps.length).length = cntP ps [] hours := by
  rw [← exts_sum ps.length (Nat.le_refl _)]
  exact (sum_ones1 fun p hp => cntP_end ((exts_len (ps := ps) (hours := hours) ps.length).2 p hp).1).symm
/-! [word, number], as data -/
def tnE (q : Str × Nat) : D := .lst [.str q.1, natD q.2]
instance : NN tnE := ⟨fun _ => rfl⟩
instance : PlE tnE := ⟨fun _ => rfl, fun a b => by
  show (PyData.eqv (pyD (D.str a.1)) (pyD (D.str b.1)) && (PyData.eqv (pyD (natD a.2)) (pyD (natD b.2)) && true)) = true ↔ _
  rw [Bool.and_true, Bool.and_eq_true, PlE.eq (f := D.str) a.1 b.1, PlE.eq (f := natD) a.2 b.2]
  exact ⟨fun h => Prod.ext h.1 h.2, fun h => by rw [h]; exact ⟨rfl, rfl⟩⟩⟩
theorem ok_tn {x : Str} {n : Nat} (h1 : x.length ≤ 10) (h2 : ∀ c ∈ x.cps.toList, c < 128) (h : n < 100000000000) : Ok (tnE (x, n)) :=
  ok_of (fd_lst (fds_cons (fd_str h1 h2) (fds_cons (fd_nat h) (fds_nil (dep := 0))))) (by decide) (by decide)
theorem star_tupE {es : List Expr} {kx : Nat} {pos : Pos} {rest : List Expr} {env : Env} : starEach (.Tuple es kx pos :: rest) env = (false, eval (.Tuple es kx pos) env) :: starEach rest env := rfl
theorem cnt_le {ps : List (Str × Str)} {hours : Nat} : cntP ps [] hours ≤ hours ^ ps.length := by
  rw [← exts_count]; exact (exts_len ps.length).1
end EW

/-! A dict's values, keys and pairs; dicts that stay. -/
namespace EW
open PySem PySem.Spec PyProof.Rows L2
/-! ### x in d.values() -/
theorem entry_ci : entryFor table "proto.contains_iter" = some Builtin.«proto.contains_iter» := entryFor_of_fast (by kernel_rfl)
theorem plain_ci : plainId "proto.contains_iter" = true := by decide +kernel
theorem noC_vals : typeLookup (.type "dict_values") "__contains__" = pure none := by rw [typeLookup_type, builtinLookup_eq_fast]; kernel_rfl
def anyFrom (eq : Nat → Bool) (i : Nat) : Nat → Bool
  | 0 => false
  | k + 1 => eq i || anyFrom eq (i + 1) k
section
variable {prog : Program} {w : World} {A : Around} {E : Value → Shared → Prop} {I : Addr} {fp wr : List Addr} {n : Nat} {P : Nat → Value → Prop} {St : Nat → Heap → Prop} {R : Result → Shared → Prop}
theorem ci_loop (W : Walks prog w A.in1 I fp wr n P St) (eq : Nat → Bool) (x : Value) (hx : ∀ i v s, P i v → SeqAt.EqAt A.in1 s v x (eq i)) :
    ∀ (k i : Nat) (s : Shared), n - i = k → i ≤ n → St i s.heap → (∀ h' tk, (∀ b o, b ∉ wr → s.heap.get? b = some o → h'.get? b = some o) → R (.ok (.ret (.bool (anyFrom eq i k)))) { s with heap := h', toks := tk }) →
    codeAny (model prog w) A (.builtin "proto.contains_iter" ⟨[.ref I, x], []⟩) R s := by
  intro k
  induction k with
  | zero =>
    intro i s hk hi hst hR
    have hin : i = n := by omega
    subst hin
    refine codeAny_builtin entry_ci ?_
    rw [Around.under_plainId plain_ci _]
    show wpAny _ A.in1 (pyNext (.ref I) >>= _) _ _ s
    refine wpAny_bind (W.done s _ _ hst fun h' tk hm => ?_)
    show wpAny _ A.in1 (rule "in.by-iteration.exhausted" >>= fun _ => ret (.bool false)) _ _ _
    refine wpAny_bind (wpAny_rule ?_)
    show wpAny _ A.in1 (pure (Fin.done (.ret (.bool false)))) _ _ _
    exact wpAny_pure (hR h' tk hm)
  | succ k ih =>
    intro i s hk hi hst hR
    have hlt : i < n := by omega
    refine codeAny_builtin entry_ci ?_
    rw [Around.under_plainId plain_ci _]
    show wpAny _ A.in1 (pyNext (.ref I) >>= _) _ _ s
    refine wpAny_bind (W.item i s _ _ hlt hst fun v h' tk hP hst' hm => ?_)
    show wpAny _ A.in1 (eqBool v x >>= _) _ _ _
    refine wpAny_bind (hx i v _ hP _ _ _ _ ?_)
    cases he : eq i with
    | true =>
      show wpAny _ A.in1 (rule "in.by-iteration.found" >>= fun _ => ret (.bool true)) _ _ _
      refine wpAny_bind (wpAny_rule ?_)
      show wpAny _ A.in1 (pure (Fin.done (.ret (.bool true)))) _ _ _
      refine wpAny_pure ?_
      have := hR h' tk hm
      rw [anyFrom, he, Bool.true_or] at this
      exact this
    | false =>
      show wpAny _ A.in1 (pure (Fin.again (.builtin "proto.contains_iter" ⟨[.ref I, x], []⟩))) _ _ _
      refine wpAny_pure ⟨plainId_quiet plain_ci _, ih (i + 1) _ (by omega) hlt hst' fun h2 tk2 hm2 => ?_⟩
      have := hR h2 tk2 fun b o hb e => hm2 b o hb (hm b o hb e)
      rw [anyFrom, he, Bool.false_or] at this
      exact this
theorem contains_vals {K : Type} [DecidableEq K] {knd : KeyKind prog w K} {s : Shared} {r d : Addr} {kvs : List (K × Value)} {ep : Nat} {Q : Bool → Shared → Prop} (hh : A.handled = none) (hv : s.heap.IsValuesView r d) (hd : s.heap.DictAt knd d kvs ep) (eq : Nat → Bool) (x : Value)
    (hx : ∀ i v s, (∃ k, kvs[i]? = some (k, v)) → SeqAt.EqAt A.in1 s v x (eq i)) (hQ : ∀ h' tk, (∀ b o, s.heap.get? b = some o → h'.get? b = some o) → Q (anyFrom eq 0 kvs.length) { s with heap := h', toks := tk }) : wpAny (model prog w) A (contains (.ref r) x) Q E s := by
  have S := PySem.W.kdl_values (knd := knd) (kvs := kvs) (d := d) (r := r) (ep := ep)
  have hT : s.TypeIs (.ref r) "dict_values" := S.type s ⟨hv, hd⟩
  unfold contains
  refine wpAny_holding ?_
  rw [stdlibNamesSay?_of_typeIs hT]
  refine wpAny_bind (wpAny_specialOf hT noC_vals ?_)
  show wpAny _ A (if ((none : Option Value) == some Value.none) = true then _ else _) Q E s
  rw [if_neg (by decide)]
  refine wpAny_bind (wpAny_callSpecialUnlessNone?_none hT noC_vals ?_)
  show wpAny _ A (rule "in.by-iteration" >>= _) Q E s
  refine wpAny_bind (wpAny_rule ?_)
  refine wpAny_bind (wpAny_tryCatch (wpAny_pyIter_values hv hd ?_))
  have hlt : d < s.heap.objs.size := hd.lt_size
  refine wpAny_bind (wpAny_runValue (ci_loop (Walks.dictValues (knd := knd) (A := A.in1) hh s.heap.objs.size d (Nat.ne_of_lt hlt) kvs ep) eq x hx kvs.length 0 _ (Nat.sub_zero _) (Nat.zero_le _) ⟨⟨_, Heap.get?_push_size _ rfl, rfl, rfl⟩, hd.push _⟩ fun h' tk hm => ?_))
  refine wpAny_pure (hQ h' tk fun b o e => hm b o ?_ (Heap.get?_push_of_some _ e))
  have hb := Heap.lt_size e
  intro hm2
  rw [List.mem_singleton.mp hm2] at hb
  exact Nat.lt_irrefl _ hb
end
theorem any_from {α : Type} (p : α → Bool) (eq : Nat → Bool) : ∀ (l : List α) (i : Nat), (∀ j y, l[j]? = some y → eq (i + j) = p y) → anyFrom eq i l.length = l.any p
  | [], _, _ => rfl
  | y :: l, i, h => by
    show (eq i || anyFrom eq (i + 1) l.length) = (p y || l.any p)
    rw [show eq i = p y from h 0 y rfl, any_from p eq l (i + 1) fun j z hz => by rw [Nat.add_assoc, Nat.add_comm 1 j]; exact h (j + 1) z hz]
section
variable {X : Cx} {a e : Expr} {ta te : TE} {p apos cpos pos : Pos}
def tInVals (neg : Bool) (ta te : TE) : TE := fun σ H Q => ta σ H fun x H1 => te σ H1 fun y H2 => ∃ (d : Addr) (kvs : List (Key × V)), y = .ref d ∧ Rd H2 d (.dK kvs) ∧ flatV x = true ∧ (kvs.map (·.2)).all flatV = true ∧ Q (.bl (neg ^^ inV x (kvs.map (·.2)))) H2
theorem vals_view {s1 : Shared} {pins : List (Addr × Obj)} {σ : L2.St} {H1 : Hp} {d : Addr} {kvs : List (Key × V)} {x : V} {v : Value} {Q : Bool → Shared → Prop} (hc : X.calm = true) (I1 : Inv X pins σ H1 s1) (hd : Rd H1 d (.dK kvs)) (rx : RelV x v) (fx : flatV x = true) (fs : (kvs.map (·.2)).all flatV = true)
    (q : ∀ s', Inv X pins σ H1 s' → Q (inV x (kvs.map (·.2))) s') : wpAny (model X.prog X.w) X.A (contains (.ref s1.heap.objs.size) v) Q X.xe { s1 with heap := s1.heap.push { cls := .type "dict_values", data := .fields #[.ref d] } } := by
  obtain ⟨hz, hs0, vs, kv, hdo⟩ := dk_rd I1.hok hd
  obtain ⟨ep, hat⟩ := hdo.dictAt
  have lk : kvs.length = vs.length := Paired.length kv
  have I2 : Inv X pins σ H1 { s1 with heap := s1.heap.push { cls := .type "dict_values", data := .fields #[.ref d] } } := I1.kept (t' := s1.toks) fun b ob q => Heap.get?_push_of_some _ q
  have rel : ∀ (i : Nat) (u : Value) (k : Key), vs[i]? = some (k, u) → ∃ y, (kvs.map (·.2))[i]? = some y ∧ RelV y u := fun i u k h => by
    obtain ⟨z, hz⟩ : ∃ z, kvs[i]? = some z := ⟨_, List.getElem?_eq_getElem (by rw [lk]; exact (List.getElem?_eq_some_iff.mp h).1)⟩
    refine ⟨z.2, by rw [List.getElem?_map, hz]; rfl, ?_⟩
    obtain ⟨w', h2, _, r2⟩ := paired_get kv hz
    rw [h] at h2; cases h2; exact r2
  refine contains_vals (knd := mixKind X.prog X.w) (kvs := vs) (ep := ep) (I1.ok.hd hc) ⟨_, Heap.get?_push_size _ rfl, rfl, rfl⟩ (hat.push _) (fun i => ((kvs.map (·.2))[i]?.map fun y => eqV y x).getD false) v (fun i u s hu => ?_) fun h' tk hk => ?_
  · obtain ⟨k, hu⟩ := hu
    obtain ⟨y, hy, ry⟩ := rel i u k hu
    show SeqAt.EqAt _ s u v (((kvs.map (·.2))[i]?.map fun y => eqV y x).getD false)
    rw [hy]
    exact eqAt_V ry rx (List.all_eq_true.mp fs y (List.mem_of_getElem? hy)) fx
  · rw [← lk]
    have e : anyFrom (fun i => ((kvs.map (·.2))[i]?.map fun y => eqV y x).getD false) 0 kvs.length = inV x (kvs.map (·.2)) := by
      have := any_from (fun y => eqV y x) (fun i => ((kvs.map (·.2))[i]?.map fun y => eqV y x).getD false) (kvs.map (·.2)) 0 fun j y hy => by
        rw [Nat.zero_add]
        show ((kvs.map (·.2))[j]?.map fun y => eqV y x).getD false = _
        rw [hy]; rfl
      rw [List.length_map] at this
      exact this
    rw [e]
    exact q _ (I2.kept (t' := tk) hk)
theorem pc_inVals (hc : X.calm = true) (ha : PE X a ta) (he : PE X e te) (hbase : attributeBase e "values" X.env (eval e X.env) = eval e X.env := by rfl) (hline : (apos.endLine == cpos.line) = true := by rfl)
:
    PC X .In a (.Call (.Attribute e "values" apos) [] [] cpos) (tInVals false ta te) := by
  refine ⟨fun pins s σ H Q I hq => ?_⟩
  refine thn (ha.run pins s σ H _ I hq) fun v s0 ⟨x, H0, I0, rx, q0⟩ => ?_
  refine wpAny_Call_method (T := "dict") (id := "dict.values") hbase rfl hline F.plainAttrs_dict F.slot_dict_values F.type_dict_values (thn (he.run pins s0 σ H0 _ I0 q0) fun u s1 ⟨y, H1, I1, ry, d, kvs, ey, hd, fx, fs, q⟩ => ?_)
  subst ey
  obtain rfl : u = Value.ref d := ry
  obtain ⟨hz, hs0, vs, kv, hdo⟩ := dk_rd I1.hok hd
  refine ⟨hdo.typeIs, hdo.mapOf.noDict, ?_⟩
  show wpAny _ _ (callWith cpos (.builtin "dict.values") [.ref d] [] []) _ X.xe s1
  refine method_meetsIn F.slot_dict_values F.entry_dict_values rfl (PySem.evalArgs_none ⟨rfl, hdo.typeIs, F.args_dict_values_1 _, _, meets_dict_values (mixKind X.prog X.w) d hs0, ⟨vs, hdo⟩, ?_⟩)
  show wpAny _ _ (do return Value.bool (← contains (Value.ref s1.heap.objs.size) v)) _ _ _
  refine wpAny_bind (vals_view hc I1 hd rx fx fs fun s' I' => wpAny_pure ⟨.bl _, H1, I', rfl, ?_⟩)
  rw [Bool.false_xor] at q
  exact q
end
section
variable {X : Cx} {W : Wd} {G : List (Option D)} {C : Cells} {k : KD} {a o e : Expr} {pos apos cpos p1 : Pos} {κ α : Type} [DecidableEq κ] {kf : κ → Key} {f : α → D} {x : D} {E : DE} {sts : List Stmt}
theorem reps_flatS {K : PySem.W.Frag} {P : Hp} : ∀ {l : List Str} {vs : List V}, Reps K P vs (l.map D.str) → vs = l.map V.str
  | [], _, .nil => rfl
  | s :: l, _, .cons r rs => by
    have e := reps_flatS rs
    cases r
    rw [e]; rfl
theorem p_inValsS {s : Str} {l : List (κ × Str)} (hc : X.calm = true) (ha : pv X W a G C (.str s)) (ho : pv X W o G C x) (hd : DctIn C x (l.map fun q => kf q.1) (l.map fun q => D.str q.2)) (hbase : attributeBase o "values" X.env (eval o X.env) = eval o X.env := by rfl) (hline : (apos.endLine == cpos.line) = true := by rfl)
    (hm : behindInMarks .In (.Call (.Attribute o "values" apos) [] [] cpos) = false := by first | exact nomark _ | rfl) : pv X W (.Compare a [.In] [.Call (.Attribute o "values" apos) [] [] cpos] pos) G C (.bl (decide (s ∈ l.map (·.2)))) :=
  wE_of (pe_cmp (pc_inVals hc pe_sem pe_sem hbase hline) hm) fun σ P H Q g z => ha σ P H _ g fun d0 C0 v0 P0 H0 n0 r0 q0 => by
    obtain ⟨rfl, rfl⟩ := q0
    refine ho σ P0 H0 _ n0.good fun d C1 v P1 H1 n1 r1 q => ?_
    obtain ⟨rfl, rfl⟩ := q
    obtain ⟨b, vs, rfl, hb, hl, rs⟩ := dct_at n1.good r1 hd
    have rs2 : Reps X.K P1 vs ((l.map (·.2)).map D.str) := by rw [List.map_map]; exact rs
    have ev := reps_flatS rs2
    cases r0
    have e3 : (((l.map fun q => kf q.1).zip vs).map (·.2)) = (l.map (·.2)).map V.str := by rw [List.map_snd_zip (by omega), ev]
    refine ⟨b, _, rfl, hb, rfl, by rw [e3]; exact flat_strs _, ?_⟩
    rw [e3, eqV_strs, Bool.false_xor]
    exact z _ _ _ P1 H1 (n0.tr n1) (.bl _) ⟨rfl, rfl⟩
theorem t_inValsS {s : Str} {l : List (κ × Str)} (hc : X.calm = true) (ha : pv X W a G C (.str s)) (ho : pv X W o G C x) (hd : DctIn C x (l.map fun q => kf q.1) (l.map fun q => D.str q.2)) (hbase : attributeBase o "values" X.env (eval o X.env) = eval o X.env := by rfl) (hline : (apos.endLine == cpos.line) = true := by rfl)
    (hm : behindInMarks .In (.Call (.Attribute o "values" apos) [] [] cpos) = false := by first | exact nomark _ | rfl) : pt X W (.Compare a [.In] [.Call (.Attribute o "values" apos) [] [] cpos] pos) G C (decide (s ∈ l.map (·.2))) :=
  wT_of (pt_cmp (pc_inVals hc pe_sem pe_sem hbase hline) hm) fun σ P H Q g z => ha σ P H _ g fun d0 C0 v0 P0 H0 n0 r0 q0 => by
    obtain ⟨rfl, rfl⟩ := q0
    refine ho σ P0 H0 _ n0.good fun d C1 v P1 H1 n1 r1 q => ?_
    obtain ⟨rfl, rfl⟩ := q
    obtain ⟨b, vs, rfl, hb, hl, rs⟩ := dct_at n1.good r1 hd
    have rs2 : Reps X.K P1 vs ((l.map (·.2)).map D.str) := by rw [List.map_map]; exact rs
    have ev := reps_flatS rs2
    cases r0
    have e3 : (((l.map fun q => kf q.1).zip vs).map (·.2)) = (l.map (·.2)).map V.str := by rw [List.map_snd_zip (by omega), ev]
    refine ⟨b, _, rfl, hb, rfl, by rw [e3]; exact flat_strs _, ?_⟩
    rw [e3, eqV_strs, Bool.false_xor]
    exact ⟨_, rfl, z _ _ P1 H1 (n0.tr n1) ⟨rfl, rfl⟩⟩
/-! ### a dict of one's own stays from now on as it is -/
theorem wSs_frzD (i j : Nat) {p : Addr} {ks : List Key} {ds : List D} (hi : G[i]? = some (some (.ref p))) (hj : C[j]? = some (p, Cl.dct ks ds)) (hio : ∀ a ∈ W.io, ∃ j' c, j' ≠ j ∧ C[j']? = some (a, c)) (h : wSs X W sts (G.set i (some (.dct ks ds))) (C.eraseIdx j) E) : wSs X W sts G C E := fun σ P H T g f pins s I => by
  obtain ⟨v, hv, rv⟩ := g.sl i _ hi
  cases rv
  have il := (List.getElem?_eq_some_iff.mp hj).1
  have spl : C = C.take j ++ (p, Cl.dct ks ds) :: C.drop (j + 1) := by
    have h2 := (List.getElem?_eq_some_iff.mp hj).2
    conv => lhs; rw [← List.take_append_drop j C, List.drop_eq_getElem_cons il, h2]
  have erase : C.eraseIdx j = C.take j ++ C.drop (j + 1) := List.eraseIdx_eq_take_drop_succ _ _
  have nd := g.nd
  have h0 : W.H0 p = none := by
    rcases (g.ce _ (List.mem_of_getElem? hj)).2.1 with h | h
    · exact h
    · obtain ⟨j', c, hj', hjc⟩ := hio _ h
      have e1 : (C.map (·.1))[j]? = some p := by rw [List.getElem?_map, hj]; rfl
      have e2 : (C.map (·.1))[j']? = some p := by rw [List.getElem?_map, hjc]; rfl
      exact absurd ((List.getElem?_inj (by rw [List.length_map]; exact il) nd).mp (e1.trans e2.symm)).symm hj'
  have g' := g
  rw [spl] at g'
  obtain ⟨gd, hc, pn, o, ho, vs, rfl, hl, rs⟩ := g'.drop rfl
  obtain ⟨od, I2⟩ := I.lock ho trivial
  have g5 := gd.aside (o := .frz od (.dK (ks.zip vs))) pn h0 hc
  have n3 := g5.know pn h0 hc upd_same
  rw [← erase] at n3
  have g4 := n3.good.slot (i := i) (v := .ref p) (d := .dct ks ds) (.dct upd_same hl (rs.ex' n3.ex))
  have hσ : σ.set i (some (.ref p)) = σ := by
    apply List.ext_getElem?
    intro m
    by_cases hm : i = m
    · subst hm
      rw [List.getElem?_set_self (List.getElem?_eq_some_iff.mp hv).1, hv]
    · rw [List.getElem?_set_ne hm]
  rw [hσ] at g4
  exact h σ _ _ T g4 (f.mono n3.ex) pins s I2
/-! ### for over a dict that stays: its keys, its pairs -/
theorem rep_keyD {K : PySem.W.Frag} {P : Hp} (k : Key) : Rep K P (kV k) (keyD k) := by
  cases k
  · exact .int _
  · exact .str _
theorem gives_keys {K : PySem.W.Frag} {P : Hp} {d : Addr} {od : Obj} {ks : List Key} {vs : List V} (h : P d = some (.frz od (.dK (ks.zip vs)))) (hl : ks.length = vs.length) : Gives K (Itk d od (ks.zip vs)) (ks.map keyD) P := by
  have hz : (ks.zip vs).length = (ks.map keyD).length := by rw [List.length_zip, List.length_map]; omega
  refine ⟨⟨_, _, hz ▸ walk_keys (kvs := ks.zip vs), fun P2 H2 e l => le_frz l (e _ _ h), fun i P2 H2 x H3 hi e l y => ?_⟩⟩
  obtain ⟨rfl, k, v, h1, rfl⟩ := y
  rw [List.getElem?_zip_eq_some] at h1
  exact ⟨P2, keyD k, by rw [List.getElem?_map, h1.1]; rfl, rep_keyD k, .inl ⟨rfl, rfl⟩⟩
def pairsD : List Key → List D → List D
  | k :: ks, d :: ds => .tup [keyD k, d] :: pairsD ks ds
  | _, _ => []
theorem pairsD_len : ∀ (ks : List Key) (ds : List D), ks.length = ds.length → (pairsD ks ds).length = ks.length
  | [], [], _ => rfl
  | k :: ks, d :: ds, h => by show (pairsD ks ds).length + 1 = _; rw [pairsD_len ks ds (by simpa using h)]; rfl
theorem pairsD_get : ∀ (ks : List Key) (ds : List D) (i : Nat) (k : Key) (d : D), ks[i]? = some k → ds[i]? = some d → (pairsD ks ds)[i]? = some (.tup [keyD k, d])
  | [], _, _, _, _, h, _ => by simp at h
  | _ :: _, [], _, _, _, _, h => by simp at h
  | k :: ks, d :: ds, 0, _, _, h, h2 => by cases h; cases h2; rfl
  | k :: ks, d :: ds, i + 1, _, _, h, h2 => pairsD_get ks ds i _ _ (by simpa using h) (by simpa using h2)
theorem gives_items {K : PySem.W.Frag} {P : Hp} {d : Addr} {od : Obj} {ks : List Key} {vs : List V} {ds : List D} (h : P d = some (.frz od (.dK (ks.zip vs)))) (hl : ks.length = vs.length) (rs : Reps K P vs ds) : Gives K (Iti d od (ks.zip vs)) (pairsD ks ds) P := by
  have hds : ks.length = ds.length := by rw [hl, rs.len]
  have hz : (ks.zip vs).length = (pairsD ks ds).length := by rw [List.length_zip, pairsD_len ks ds hds]; omega
  refine ⟨⟨_, _, hz ▸ walk_items (kvs := ks.zip vs), fun P2 H2 e l => le_frz l (e _ _ h), fun i P2 H2 x H3 hi e l y => ?_⟩⟩
  obtain ⟨T, x1, x2, rfl, hT, rfl, e1, e2⟩ := y
  obtain ⟨⟨k, v⟩, hkv⟩ : ∃ z, (ks.zip vs)[i]? = some z := ⟨_, List.getElem?_eq_getElem (by rw [hz]; exact hi)⟩
  have e1 : ((ks.zip vs)[i]?.map fun kv => kV kv.1) = some x1 := e1
  have e2 : (ks.zip vs)[i]?.map Prod.snd = some x2 := e2
  rw [hkv] at e1 e2
  cases e1; cases e2
  rw [List.getElem?_zip_eq_some] at hkv
  obtain ⟨dd, h1, h2⟩ := rs.getV hkv.2
  have ex : Ex P2 (upd P2 T (.tup [kV k, v])) := Ex.fresh (l.none hT)
  exact ⟨_, _, pairsD_get ks ds i k dd hkv.1 h1, .tup upd_same (.cons (rep_keyD k) (.cons ((h2.ex' e).ex' ex) .nil)), .inr ⟨T, _, hT, rfl, rfl⟩⟩
theorem wI_keys {tg : Expr} {kk : List D → Cells → Prop} (h : wE X W e G C fun d C1 => ∃ ks ds, d = .dct ks ds ∧ kk (ks.map keyD) C1) : wI X W tg e G C kk := fun σ P H R g z pins s I =>
  (pi_keys pe_sem).run pins s σ H R I (h σ P H _ g fun d C1 v P1 H1 n1 r1 q => by
    obtain ⟨ks, ds, rfl, q⟩ := q
    cases r1 with
    | @dct b od _ vs _ hb hl rs => exact ⟨b, od, rfl, .inl ⟨_, le_frz n1.good.le hb, z _ C1 P1 H1 _ n1 (gives_keys hb hl) q⟩⟩)
theorem wI_items {tpos : Pos} {elts : List Expr} {kx : Nat} {kk : List D → Cells → Prop} (h : wE X W e G C fun d C1 => ∃ ks ds, d = .dct ks ds ∧ kk (pairsD ks ds) C1) (hbase : attributeBase e "items" X.env (eval e X.env) = eval e X.env := by rfl) (hline : (apos.endLine == cpos.line) = true := by rfl) : wI X W (.Tuple elts kx tpos) (.Call (.Attribute e "items" apos) [] [] cpos) G C kk := fun σ P H R g z pins s I =>
  (pi_items pe_sem hbase hline).run pins s σ H R I (h σ P H _ g fun d C1 v P1 H1 n1 r1 q => by
    obtain ⟨ks, ds, rfl, q⟩ := q
    cases r1 with
    | @dct b od _ vs _ hb hl rs => exact ⟨b, od, _, rfl, le_frz n1.good.le hb, z _ C1 P1 H1 _ n1 (gives_items hb hl rs) q⟩)
theorem pairsD_map (kd : κ → D) (hk : ∀ x, keyD (kf x) = kd x) : ∀ l : List (κ × α), pairsD (l.map fun q => kf q.1) (l.map fun q => f q.2) = l.map (prE kd f)
  | [] => rfl
  | q :: l => by show D.tup [keyD (kf q.1), f q.2] :: pairsD _ _ = _; rw [pairsD_map kd hk l, hk]; rfl
theorem i_keys {tg : Expr} {l : List (κ × α)} (kd : κ → D) (hk : ∀ x, keyD (kf x) = kd x) (h : pv X W e G C (dcE kf f l)) : pi X W tg e G C (l.map (·.1)) kd :=
  wI_keys (h.w ⟨_, _, rfl, by rw [List.map_map, List.map_map]; exact List.map_congr_left fun q _ => hk q.1, rfl⟩)
theorem i_items {tpos : Pos} {elts : List Expr} {kx : Nat} {l : List (κ × α)} (kd : κ → D) (hk : ∀ x, keyD (kf x) = kd x) (h : pv X W e G C (dcE kf f l)) (hbase : attributeBase e "items" X.env (eval e X.env) = eval e X.env := by rfl) (hline : (apos.endLine == cpos.line) = true := by rfl) :
    pi X W (.Tuple elts kx tpos) (.Call (.Attribute e "items" apos) [] [] cpos) G C l (prE kd f) :=
  wI_items (h.w ⟨_, _, rfl, pairsD_map kd hk l, rfl⟩) hbase hline
/-! ### dict(pairs), d.get(k, None), k in d where k may be None -/
theorem dictL_at [KyE kf] {K : PySem.W.Frag} {P H : Hp} {l : List (κ × α)} (kd : κ → D) (hk : ∀ x, keyD (kf x) = kd x) (le : Le P H) {vs : List V} (rs : Reps K P vs (l.map (prE kd f))) :
    ∃ (ps : List Addr) (kws : List (Key × V)) (vs' : List V), vs = ps.map V.ref ∧ Paired (fun p kv => SqT K H p [kV kv.1, kv.2]) ps kws ∧ mergeK [] kws = ((dcUpd [] l).map fun q => kf q.1).zip vs' ∧ ((dcUpd [] l).map fun q => kf q.1).length = vs'.length ∧ Reps K P vs' ((dcUpd [] l).map fun q => f q.2) := by
  have e : l.map (prE kd f) = (l.map fun q => (kf q.1, f q.2)).map kvD := by
    rw [List.map_map]
    refine List.map_congr_left fun q _ => ?_
    show D.tup [kd q.1, f q.2] = .tup [keyD (kf q.1), f q.2]
    rw [hk]
  rw [e] at rs
  obtain ⟨ps, kws, h0, h1, h2, h3⟩ := kvs_at le rs
  rw [List.map_map] at h1 h2
  have hl : (kws.map (·.2)).length = l.length := by
    have := congrArg List.length h1
    rw [List.length_map, List.length_map] at this
    rw [List.length_map, this]
  obtain ⟨vs', d1, d2, d3⟩ := merge_dc (kf := kf) (f := f) (m := l) (ws := kws.map (·.2)) (l := []) (vs := []) hl h2 rfl .nil
  refine ⟨ps, kws, vs', h0, h3, ?_, d2, d3⟩
  rw [← d1]
  have h1 : kws.map (·.1) = l.map fun q => kf q.1 := h1
  rw [← h1, zip_keys]; rfl
theorem v_dictL [KyE kf] {l : List (κ × α)} (kd : κ → D) (hk : ∀ x, keyD (kf x) = kd x) (hc : X.calm = true) : ∀ k : KD, k (dcE kf f (dcUpd [] l)) C → cD X W (.type "dict") [lsE (prE kd f) l] G C k := fun k q => cD_of (cr_lk (call_dictP hc)) fun σ P H Q vs g rr z => by
  obtain ⟨v, rfl, r⟩ := reps1 rr
  cases r with
  | @lst a ws _ ha rs =>
    obtain ⟨ps, kws, vs', rfl, h3, e, e2, e3⟩ := dictL_at kd hk g.le rs
    refine ⟨a, ps, kws, rfl, .inl (.inl (le_lst g.le ha)), h3, fun p hp => ⟨p, _, rfl, upd_same, trivial, fun od => ?_⟩⟩
    rw [upd_upd, e]
    have n := g.new (o := .frz od (.dK (((dcUpd [] l).map fun q => kf q.1).zip vs'))) hp
    exact z _ C (.ref p) _ _ n (.dct upd_same e2 (e3.ex' n.ex)) q
theorem t_dictLC [KyE kf] {l : List (κ × α)} (kd : κ → D) (hk : ∀ x, keyD (kf x) = kd x) (hc : X.calm = true) (q : ∀ p, k (.ref p) (C ++ [(p, dcC kf f (dcUpd [] l))])) : cD X W (.type "dict") [lsE (prE kd f) l] G C k := cD_of (call_dictP hc) fun σ P H Q vs g rr z => by
  obtain ⟨v, rfl, r⟩ := reps1 rr
  cases r with
  | @lst a ws _ ha rs =>
    obtain ⟨ps, kws, vs', rfl, h3, e, e2, e3⟩ := dictL_at kd hk g.le rs
    refine ⟨a, ps, kws, rfl, .inl (.inl (le_lst g.le ha)), h3, fun p hp => ?_⟩
    rw [e]
    exact z _ _ (.ref p) P _ ⟨Ex.rfl' P, g.newCell (c := dcC kf f (dcUpd [] l)) hp ⟨vs', rfl, e2, e3⟩⟩ (.ref p) (q p)
theorem wE_dictF [KyE kf] {l : List (κ × α)} {es : List Expr} (kd : κ → D) (hk : ∀ x, keyD (kf x) = kd x) (hc : X.calm = true) (hm : X.mg "dict" = none) (ha : pa X W (e :: es) G C [lsE (prE kd f) l]) (q : ∀ p, k (.ref p) ((p, dcC kf f (dcUpd [] l)) :: C)) (hv : bootBuiltins "dict" = some (.type "dict") := by decide +kernel) (hg : Gl X "dict" := by rfl)
    (he : starEach (e :: es) X.env = (false, eval e X.env) :: starEach es X.env := by rfl) (hp : (backTo pos (starEach es X.env)).any (·.1) = false := by rfl) : wE X W (.Call (.Name "dict" p1) (e :: es) [] pos) G C k :=
  wE_rot (wE_callT "dict" hv hm (ha.w (t_dictLC kd hk hc fun p => ⟨_, List.perm_append_comm, q p⟩)) hg (by decide) (by decide) he hp)
theorem valV_has [KyE kf] {l : List (κ × α)} {k : κ} {vs : List V} {K : PySem.W.Frag} {P : Hp} (hl : (l.map fun q => kf q.1).length = vs.length) (rs : Reps K P vs (l.map fun q => f q.2)) : (valV ((l.map fun q => kf q.1).zip vs) (kf k)).isSome = dcHas l k := by
  obtain ⟨w1, w2⟩ := dcLook_dget (kf := kf) (k := k) hl rs
  unfold dcHas
  cases e5 : dcLook l k with
  | none => rw [w1 e5]; rfl
  | some b => obtain ⟨v, e6, _⟩ := w2 b e5; rw [e6]; rfl
theorem op_inN (hu : X.A.units + 1 < cLine) : OpR X (compareOp .In) (fun y x H Q => (∃ a o, x = .ref a ∧ DGet H a y o ∧ Q (.bl o.isSome) H) ∨ ∃ a kvs, x = .ref a ∧ y = .non ∧ Rd H a (.dK kvs) ∧ Q (.bl false) H) := by
  intro pins s σ H y x iv u Q I ry rx h
  rcases h with ⟨a, ov, ex, g, q2⟩ | ⟨a, kvs, ex, ey, g, q2⟩
  · subst ex
    obtain rfl : u = Value.ref a := rx
    exact d_in hu I g ry fun s3 I3 => ⟨.bl ov.isSome, H, I3, rfl, q2⟩
  · subst ex ey
    obtain rfl : u = Value.ref a := rx
    obtain rfl : iv = Value.none := ry
    exact d_inNone I g fun s3 I3 => ⟨.bl false, H, I3, rfl, q2⟩
theorem op_niN (hu : X.A.units + 1 < cLine) : OpR X (compareOp .NotIn) (fun y x H Q => (∃ a o, x = .ref a ∧ DGet H a y o ∧ Q (.bl (!o.isSome)) H) ∨ ∃ a kvs, x = .ref a ∧ y = .non ∧ Rd H a (.dK kvs) ∧ Q (.bl true) H) := by
  intro pins s σ H y x iv u Q I ry rx h
  rcases h with ⟨a, ov, ex, g, q2⟩ | ⟨a, kvs, ex, ey, g, q2⟩
  · subst ex
    obtain rfl : u = Value.ref a := rx
    exact d_notIn hu I g ry fun s3 I3 => ⟨.bl (!ov.isSome), H, I3, rfl, q2⟩
  · subst ex ey
    obtain rfl : u = Value.ref a := rx
    obtain rfl : iv = Value.none := ry
    exact d_notInNone I g fun s3 I3 => ⟨.bl true, H, I3, rfl, q2⟩
theorem v_inDc [KyE kf] {nn : Nat} (hr : Room nn X.A) {l : List (κ × α)} {key : κ} (hd : DctIn C x (l.map fun q => kf q.1) (l.map fun q => f q.2)) : ∀ k : KD, k (.bl (dcHas l key)) C → oD X W (compareOp .In) (keyD (kf key)) x G C k := fun k q => oD_of (op_inN (room_u1 hr)) fun σ P H Q v u g r1 r2 z => by
  obtain ⟨a, vs, rfl, ha, hl, rs⟩ := dct_at g r2 hd
  have hk := rep_key r1
  subst hk
  exact .inl ⟨a, _, rfl, .inl ⟨_, kf key, ha, rfl, rfl⟩, by rw [valV_has hl rs]; exact z _ C _ P H g.refl (.bl _) q⟩
theorem v_niDc [KyE kf] {nn : Nat} (hr : Room nn X.A) {l : List (κ × α)} {key : κ} (hd : DctIn C x (l.map fun q => kf q.1) (l.map fun q => f q.2)) : ∀ k : KD, k (.bl (!dcHas l key)) C → oD X W (compareOp .NotIn) (keyD (kf key)) x G C k := fun k q => oD_of (op_niN (room_u1 hr)) fun σ P H Q v u g r1 r2 z => by
  obtain ⟨a, vs, rfl, ha, hl, rs⟩ := dct_at g r2 hd
  have hk := rep_key r1
  subst hk
  exact .inl ⟨a, _, rfl, .inl ⟨_, kf key, ha, rfl, rfl⟩, by rw [valV_has hl rs]; exact z _ C _ P H g.refl (.bl _) q⟩
def dcHasO {κ α : Type} [DecidableEq κ] (l : List (κ × α)) : Option κ → Bool
  | none => false
  | some x => dcHas l x
theorem v_inDO [KyE kf] {nn : Nat} (hr : Room nn X.A) {l : List (κ × α)} {key : Option κ} (kd : κ → D) (hk : ∀ x, keyD (kf x) = kd x) (hd : DctIn C x (l.map fun q => kf q.1) (l.map fun q => f q.2)) : ∀ k : KD, k (.bl (dcHasO l key)) C → oD X W (compareOp .In) (opE kd key) x G C k := fun k q => by
  cases key with
  | some y =>
    show oD X W (compareOp .In) (kd y) x G C k
    rw [← hk]
    exact v_inDc hr hd k q
  | none =>
    refine oD_of (op_inN (room_u1 hr)) fun σ P H Q v u g r1 r2 z => ?_
    obtain ⟨a, vs, rfl, ha, hl, rs⟩ := dct_at g r2 hd
    cases r1
    exact .inr ⟨a, _, rfl, rfl, ha, z _ C _ P H g.refl (.bl _) q⟩
/-- d.get(k, None) -/
theorem p_dgetO [KyE kf] {i e2 : Expr} {l : List (κ × α)} {key : κ} {nn : Nat} (hr : Room nn X.A) (hd : DctIn C x (l.map fun q => kf q.1) (l.map fun q => f q.2)) (ho : pv X W o G C x) (hi : pv X W i G C (keyD (kf key))) (he : pv X W e2 G C .non) (m : M2 X o "get" apos i e2 cpos := by exact ⟨rfl, rfl, rfl, rfl⟩) : pv X W (.Call (.Attribute o "get" apos) [i, e2] [] cpos) G C (opE f (dcLook l key)) :=
  wE_of (pe_dget2 (room_u1 hr) pe_sem pe_sem pe_sem m) fun σ P H Q g z => ho σ P H _ g fun x1 C1 v P1 H1 n1 r1 q => by
    obtain ⟨rfl, rfl⟩ := q
    obtain ⟨a, vs, rfl, ha, hl, rs⟩ := dct_at n1.good r1 hd
    refine ⟨a, rfl, .inl ⟨_, ha⟩, hi σ P1 H1 _ n1.good fun y1 C2 u P2 H2 n2 r2 q => ?_⟩
    obtain ⟨rfl, rfl⟩ := q
    refine he σ P2 H2 _ n2.good fun y2 C3 u2 P3 H3 n3 r3 q => ?_
    obtain ⟨rfl, rfl⟩ := q
    have hk := rep_key r2
    subst hk
    cases r3
    obtain ⟨a2, vs2, ea, ha2, hl2, rs2⟩ := dct_at n3.good ((r1.ex' n2.ex).ex' n3.ex) hd
    cases ea
    obtain ⟨w1, w2⟩ := dcLook_dget (k := key) hl2 rs2
    refine ⟨_, .inl ⟨_, kf key, ha2, rfl, rfl⟩, ?_⟩
    cases e5 : dcLook l key with
    | none => rw [w1 e5]; exact z _ _ _ P3 H3 (n1.tr (n2.tr n3)) .non ⟨by rw [e5]; rfl, rfl⟩
    | some b =>
      obtain ⟨v, e6, r6⟩ := w2 b e5
      rw [e6]
      exact z _ _ _ P3 H3 (n1.tr (n2.tr n3)) r6 ⟨by rw [e5]; rfl, rfl⟩
end
end EW

/-! Matchings of teachers and classes: the mathematics. -/
namespace EW
open PySem PySem.Spec PyProof.Rows L2
section
variable {α β : Type}
theorem mt_le [DecidableEq α] : ∀ {l m : List α}, l.Nodup → (∀ x ∈ l, x ∈ m) → l.length ≤ m.length
  | [], _, _, _ => Nat.zero_le _
  | x :: l, m, nd, h => by
    rw [List.nodup_cons] at nd
    have hx := h x (List.mem_cons_self ..)
    have h1 := mt_le (l := l) (m := m.erase x) nd.2 fun y hy => (List.mem_erase_of_ne (fun z => nd.1 (by rw [← z]; exact hy))).mpr (h y (List.mem_cons_of_mem _ hy))
    rw [List.length_erase_of_mem hx] at h1
    have := List.length_pos_of_mem hx
    rw [List.length_cons]; omega
theorem mt_len [DecidableEq α] {l m : List α} (h1 : l.Nodup) (h2 : m.Nodup) (h : ∀ x, x ∈ l ↔ x ∈ m) : l.length = m.length :=
  Nat.le_antisymm (mt_le h1 fun x hx => (h x).mp hx) (mt_le h2 fun x hx => (h x).mpr hx)
theorem nd_inj {f : α → β} : ∀ {l : List α}, (l.map f).Nodup → ∀ {x y : α}, x ∈ l → y ∈ l → f x = f y → x = y
  | [], _, _, _, hx, _, _ => by cases hx
  | a :: l, h, x, y, hx, hy, e => by
    rw [List.map_cons, List.nodup_cons] at h
    rcases List.mem_cons.mp hx with e1 | h1
    · rcases List.mem_cons.mp hy with e2 | h2
      · rw [e1, e2]
      · exact absurd (List.mem_map.mpr ⟨y, h2, by rw [← e, e1]⟩) h.1
    · rcases List.mem_cons.mp hy with e2 | h2
      · exact absurd (List.mem_map.mpr ⟨x, h1, by rw [e, e2]⟩) h.1
      · exact nd_inj h.2 h1 h2 e
theorem nd_map {f : α → β} : ∀ {l : List α}, l.Nodup → (∀ x ∈ l, ∀ y ∈ l, f x = f y → x = y) → (l.map f).Nodup
  | [], _, _ => List.nodup_nil
  | a :: l, h, hi => by
    rw [List.nodup_cons] at h
    rw [List.map_cons, List.nodup_cons]
    refine ⟨fun hm => ?_, nd_map h.2 fun x hx y hy => hi x (List.mem_cons_of_mem _ hx) y (List.mem_cons_of_mem _ hy)⟩
    obtain ⟨b, hb, e⟩ := List.mem_map.mp hm
    exact h.1 (hi b (List.mem_cons_of_mem _ hb) a (List.mem_cons_self ..) e ▸ hb)
theorem nd_ofmap {f : α → β} : ∀ {l : List α}, (l.map f).Nodup → l.Nodup
  | [], _ => List.nodup_nil
  | a :: l, h => by
    rw [List.map_cons, List.nodup_cons] at h
    rw [List.nodup_cons]
    exact ⟨fun hm => h.1 (List.mem_map.mpr ⟨a, hm, rfl⟩), nd_ofmap h.2⟩
theorem nd_fil {l : List α} (p : α → Bool) (h : l.Nodup) : (l.filter p).Nodup := List.Pairwise.filter p h
theorem nd_filmap {f : α → β} {l : List α} (p : α → Bool) (h : (l.map f).Nodup) : ((l.filter p).map f).Nodup :=
  nd_map (nd_fil p (nd_ofmap h)) fun x hx y hy e => nd_inj h (List.mem_filter.mp hx).1 (List.mem_filter.mp hy).1 e
theorem fil_add (p : α → Bool) : ∀ l : List α, (l.filter p).length + (l.filter fun x => !p x).length = l.length
  | [] => rfl
  | a :: l => by
    have ih := fil_add p l
    cases h : p a
    · rw [List.filter_cons_of_neg (by rw [h]; decide), List.filter_cons_of_pos (by rw [h]; rfl)]; simp only [List.length_cons]; omega
    · rw [List.filter_cons_of_pos h, List.filter_cons_of_neg (by rw [h]; decide)]; simp only [List.length_cons]; omega
theorem mem_take1 {l : List α} {i : Nat} {x y : α} (hy : l[i]? = some y) (h : x ∈ l.take (i + 1)) : x ∈ l.take i ∨ x = y := by
  rw [List.take_add_one, hy] at h
  rcases List.mem_append.mp h with h | h
  · exact .inl h
  · exact .inr (by simpa using h)
theorem mem_take0 {l : List α} {i : Nat} {x : α} (h : x ∈ l.take i) : x ∈ l.take (i + 1) := by
  rw [List.take_add_one]; exact List.mem_append_left _ h
theorem mem_takeI {l : List α} {i : Nat} {y : α} (hy : l[i]? = some y) : y ∈ l.take (i + 1) := by
  rw [List.take_add_one, hy]; exact List.mem_append_right _ (by simp)
end
section
variable {κ α : Type} [DecidableEq κ]
theorem dcHas_iff {l : List (κ × α)} {k : κ} : dcHas l k = true ↔ k ∈ l.map (·.1) := by
  unfold dcHas dcLook
  rw [Option.isSome_map, List.find?_isSome]
  exact ⟨fun ⟨q, hq, e⟩ => List.mem_map.mpr ⟨q, hq, of_decide_eq_true e⟩, fun h => by
    obtain ⟨q, hq, e⟩ := List.mem_map.mp h
    exact ⟨q, hq, decide_eq_true e⟩⟩
theorem dcLook_mem {l : List (κ × α)} {k : κ} {x : α} (h : dcLook l k = some x) : (k, x) ∈ l := by
  unfold dcLook at h
  cases e : l.find? fun q => decide (q.1 = k) with
  | none => rw [e] at h; cases h
  | some q =>
    rw [e] at h
    have e2 : q.1 = k := of_decide_eq_true (List.find?_some (p := fun q : κ × α => decide (q.1 = k)) e)
    have h : some q.2 = some x := h
    cases h
    rw [← e2]
    exact List.mem_of_find?_eq_some e
theorem dcGet_mem [Inhabited α] {l : List (κ × α)} {k : κ} (h : dcHas l k = true) : (k, dcGet l k) ∈ l := dcLook_mem (dcHas_get h)
theorem dcLook_in {l : List (κ × α)} (nd : (l.map (·.1)).Nodup) {q : κ × α} (h : q ∈ l) : dcLook l q.1 = some q.2 := by
  have hh : dcHas l q.1 = true := dcHas_iff.mpr (List.mem_map.mpr ⟨q, h, rfl⟩)
  cases e : dcLook l q.1 with
  | none => unfold dcHas at hh; rw [e] at hh; cases hh
  | some x =>
    have := nd_inj nd h (dcLook_mem e) rfl
    rw [this]
theorem dcSet_old {l : List (κ × α)} {k : κ} {x : α} (h : k ∈ l.map (·.1)) : dcSet l k x = l.map fun q => if q.1 = k then (q.1, x) else q := by
  unfold dcSet
  rw [if_pos]
  obtain ⟨q, hq, e⟩ := List.mem_map.mp h
  exact List.any_eq_true.mpr ⟨q, hq, decide_eq_true e⟩
theorem dcSet_keys {l : List (κ × α)} {k : κ} {x : α} (h : k ∈ l.map (·.1)) : (dcSet l k x).map (·.1) = l.map (·.1) := by
  rw [dcSet_old h, List.map_map]
  refine List.map_congr_left fun q _ => ?_
  show (if q.1 = k then (q.1, x) else q).1 = q.1
  split <;> rfl
theorem dcSet_mem {l : List (κ × α)} {k : κ} {x : α} {q : κ × α} (hq : q ∈ dcSet l k x) : q = (k, x) ∨ (q ∈ l ∧ q.1 ≠ k) := by
  by_cases h : k ∈ l.map (·.1)
  · rw [dcSet_old h] at hq
    obtain ⟨r, hr, e⟩ := List.mem_map.mp hq
    by_cases e2 : r.1 = k
    · rw [if_pos e2] at e; exact .inl (by rw [← e, e2])
    · rw [if_neg e2] at e; subst e; exact .inr ⟨hr, e2⟩
  · rw [dcSet_new h] at hq
    rcases List.mem_append.mp hq with hq | hq
    · exact .inr ⟨hq, fun e => h (List.mem_map.mpr ⟨q, hq, e⟩)⟩
    · exact .inl (List.mem_singleton.mp hq)
theorem dcSet_stay {l : List (κ × α)} {k : κ} {x : α} {q : κ × α} (hq : q ∈ l) (hn : q.1 ≠ k) : q ∈ dcSet l k x := by
  by_cases h : k ∈ l.map (·.1)
  · rw [dcSet_old h]; exact List.mem_map.mpr ⟨q, hq, if_neg hn⟩
  · rw [dcSet_new h]; exact List.mem_append_left _ hq
theorem dcSet_here {l : List (κ × α)} {k : κ} {x : α} : (k, x) ∈ dcSet l k x := by
  by_cases h : k ∈ l.map (·.1)
  · rw [dcSet_old h]
    obtain ⟨q, hq, e⟩ := List.mem_map.mp h
    exact List.mem_map.mpr ⟨q, hq, by rw [if_pos e, e]⟩
  · rw [dcSet_new h]; exact List.mem_append_right _ (List.mem_singleton.mpr rfl)
theorem map_noset {k : κ} {x : α} : ∀ {l : List (κ × α)}, k ∉ l.map (·.1) → (l.map fun q => if q.1 = k then (q.1, x) else q) = l
  | [], _ => rfl
  | q :: l, h => by
    rw [List.map_cons, List.mem_cons, not_or] at h
    rw [List.map_cons, if_neg (fun e => h.1 e.symm), map_noset h.2]
theorem set_perm {k : κ} {x w : α} : ∀ {l : List (κ × α)}, (l.map (·.1)).Nodup → (k, w) ∈ l → (w :: (l.map fun q => if q.1 = k then (q.1, x) else q).map (·.2)).Perm (x :: l.map (·.2))
  | [], _, h => by cases h
  | q :: l, nd, h => by
    rw [List.map_cons, List.nodup_cons] at nd
    by_cases e : q.1 = k
    · have hk : k ∉ l.map (·.1) := e ▸ nd.1
      have eq : q = (k, w) := by
        rcases List.mem_cons.mp h with h | h
        · exact h.symm
        · exact absurd (List.mem_map.mpr ⟨_, h, rfl⟩) hk
      rw [List.map_cons, if_pos e, map_noset hk, List.map_cons, List.map_cons, eq]
      exact List.Perm.swap ..
    · have h2 : (k, w) ∈ l := by
        rcases List.mem_cons.mp h with h | h
        · exact absurd (by rw [← h]) e
        · exact h
      rw [List.map_cons, if_neg e, List.map_cons, List.map_cons]
      exact (List.Perm.swap ..).trans (((set_perm nd.2 h2).cons _).trans (List.Perm.swap ..))
end
/-! ### partners -/
def pfound (ps : List (Str × Str)) (p : Str) : List Str := (ps.filter fun l => decide (p ∈ ([l.1, l.2] : List Str))).map fun l => bif decide (p = l.1) then l.2 else l.1
def partnersL (S : Sch) (p : Str) : List Str := (S.ts ++ S.cs).filter fun o => decide (o ∈ pfound S.ps p)
theorem pfound_mem {ps : List (Str × Str)} {p o : Str} : o ∈ pfound ps p ↔ (p, o) ∈ ps ∨ ∃ a, (a, p) ∈ ps ∧ a = o ∧ p ≠ a := by
  unfold pfound
  rw [List.mem_map]
  constructor
  · rintro ⟨⟨a, b⟩, h, e⟩
    obtain ⟨h1, h2⟩ := List.mem_filter.mp h
    have h2 : p ∈ ([a, b] : List Str) := of_decide_eq_true h2
    by_cases e1 : p = a
    · subst e1
      have e : (bif decide (p = p) then b else p) = o := e
      rw [decide_eq_true rfl] at e
      have e : b = o := e
      exact .inl (e ▸ h1)
    · have e : (bif decide (p = a) then b else a) = o := e
      rw [decide_eq_false e1] at e
      have e : a = o := e
      have : p = b := by simpa [e1] using h2
      exact .inr ⟨a, this ▸ h1, e, e1⟩
  · rintro (h | ⟨a, h, rfl, hn⟩)
    · refine ⟨(p, o), List.mem_filter.mpr ⟨h, decide_eq_true (List.mem_cons_self ..)⟩, ?_⟩
      show (bif decide (p = p) then o else p) = o
      rw [decide_eq_true rfl]; rfl
    · refine ⟨(a, p), List.mem_filter.mpr ⟨h, decide_eq_true (by simp)⟩, ?_⟩
      show (bif decide (p = a) then p else a) = a
      rw [decide_eq_false hn]; rfl
theorem ts_cs {S : Sch} (h : SchNew S) {x : Str} (h1 : x ∈ S.ts) (h2 : x ∈ S.cs) : False := (List.nodup_append.mp h.nd).2.2 x h1 x h2 rfl
theorem adj_t {S : Sch} (h : SchNew S) {t o : Str} (ht : t ∈ S.ts) : o ∈ partnersL S t ↔ (t, o) ∈ S.ps := by
  unfold partnersL
  rw [List.mem_filter]
  constructor
  · rintro ⟨_, h2⟩
    rcases pfound_mem.mp (of_decide_eq_true h2) with h2 | ⟨a, h2, _, _⟩
    · exact h2
    · exact (ts_cs h ht (h.ok.les _ h2).2).elim
  · intro h2
    exact ⟨List.mem_append_right _ (h.ok.les _ h2).2, decide_eq_true (pfound_mem.mpr (.inl h2))⟩
theorem adj_c {S : Sch} (h : SchNew S) {c o : Str} (hc : c ∈ S.cs) : o ∈ partnersL S c ↔ (o, c) ∈ S.ps := by
  unfold partnersL
  rw [List.mem_filter]
  constructor
  · rintro ⟨_, h2⟩
    rcases pfound_mem.mp (of_decide_eq_true h2) with h2 | ⟨a, h2, e, _⟩
    · exact (ts_cs h (h.ok.les _ h2).1 hc).elim
    · exact e ▸ h2
  · intro h2
    have ho := (h.ok.les _ h2).1
    exact ⟨List.mem_append_left _ ho, decide_eq_true (pfound_mem.mpr (.inr ⟨o, h2, rfl, fun e => ts_cs h ho (e ▸ hc)⟩))⟩
/-! ### augmenting -/
structure Mt (nb : Str → List Str) (M : List (Str × Str)) : Prop where
  kn : (M.map (·.1)).Nodup
  on : (M.map (·.2)).Nodup
  ed : ∀ q ∈ M, q.1 ∈ nb q.2
def Clo (nb : Str → List Str) (M : List (Str × Str)) (Z : List Str) : Prop := ∀ z ∈ Z, ∀ c ∈ nb z, ∃ t ∈ Z, (c, t) ∈ M
structure Aug (nb : Str → List Str) (M : List (Str × Str)) (p : Str) (kn : List Str) (M' : List (Str × Str)) : Prop where
  ky : ∃ c, c ∉ M.map (·.1) ∧ M'.map (·.1) = M.map (·.1) ++ [c]
  ow : (M'.map (·.2)).Perm (p :: M.map (·.2))
  ed : ∀ q ∈ M', q.1 ∈ nb q.2
  kp : ∀ q ∈ M, q.2 = p ∨ q.2 ∈ kn → q ∈ M'
  cl : ∀ Z, Clo nb M Z → p ∉ Z ∧ ∀ q ∈ M, q.2 ∈ Z → q ∈ M'
structure Stuck (nb : Str → List Str) (M : List (Str × Str)) (p : Str) (kn kn' : List Str) : Prop where
  ex : ∃ new, kn' = kn ++ new ∧ p ∈ new ∧ ∀ x ∈ new, x = p ∨ x ∈ M.map (·.2)
  nd : kn'.Nodup
  cl : ∀ x ∈ kn', x ∉ kn → ∀ c ∈ nb x, ∃ t ∈ kn', (c, t) ∈ M
def LedIs (nb : Str → List Str) (M : List (Str × Str)) (p : Str) (kn : List Str) (r : Bool) (M' : List (Str × Str)) (kn' : List Str) : Prop :=
  (r = true → Aug nb M p kn M') ∧ (r = false → M' = M ∧ Stuck nb M p kn kn')
structure LedPre (S : Sch) (k : Nat) (M : List (Str × Str)) (p : Str) (kn : List Str) : Prop where
  s : S.ts.length ≤ 1000 ∧ S.cs.length ≤ 1000 ∧ S.ps.length ≤ 1000
  mt : Mt (partnersL S) M
  nd : kn.Nodup
  np : p ∉ kn
  us : ∃ us : List Str, us.length ≤ 8 ∧ p ∈ us ∧ (∀ x ∈ kn, x ∈ us) ∧ (∀ q ∈ M, q.2 ∈ us) ∧ us.length < k + kn.length
section
variable {nb : Str → List Str} {M M2 : List (Str × Str)} {p y w : Str} {kn kn1 kn2 : List Str}
theorem aug_new (mt : Mt nb M) (hy : y ∈ nb p) (hn : y ∉ M.map (·.1)) : Aug nb M p kn (dcSet M y p) := by
  rw [dcSet_new hn]
  refine ⟨⟨y, hn, by rw [List.map_append]; rfl⟩, by rw [List.map_append]; exact List.perm_append_comm, fun q hq => ?_, fun q hq _ => List.mem_append_left _ hq, fun Z hZ => ⟨fun hp => ?_, fun q hq _ => List.mem_append_left _ hq⟩⟩
  · rcases List.mem_append.mp hq with hq | hq
    · exact mt.ed q hq
    · rw [List.mem_singleton.mp hq]; exact hy
  · obtain ⟨t, _, ht⟩ := hZ p hp y hy
    exact hn (List.mem_map.mpr ⟨_, ht, rfl⟩)
theorem aug_in (mt : Mt nb M) (hyw : (y, w) ∈ M) (hy : y ∈ nb p) (hw : w ∉ kn1) (hk : ∀ x, x = p ∨ x ∈ kn → x ∈ kn1) (A : Aug nb M w kn1 M2) : Aug nb M p kn (dcSet M2 y p) := by
  have h2 : (y, w) ∈ M2 := A.kp _ hyw (.inl rfl)
  have yk : y ∈ M2.map (·.1) := List.mem_map.mpr ⟨_, h2, rfl⟩
  obtain ⟨c, hc, ek⟩ := A.ky
  have nd2 : (M2.map (·.1)).Nodup := by
    rw [ek, List.nodup_append]
    refine ⟨mt.kn, by simp, fun a ha b hb e => hc ?_⟩
    rw [← List.mem_singleton.mp hb, ← e]; exact ha
  have uniq : ∀ q ∈ M, q.1 = y → q.2 = w := fun q hq e => by
    have := nd_inj mt.kn hq hyw e
    rw [this]
  refine ⟨⟨c, hc, by rw [dcSet_keys yk, ek]⟩, ?_, fun q hq => ?_, fun q hq hq2 => ?_, fun Z hZ => ?_⟩
  · have h3 := set_perm (x := p) nd2 h2
    rw [← dcSet_old yk] at h3
    exact (h3.trans ((A.ow.cons p).trans (List.Perm.swap ..))).cons_inv
  · rcases dcSet_mem hq with rfl | ⟨hq, _⟩
    · exact hy
    · exact A.ed q hq
  · have h4 := hk q.2 hq2
    exact dcSet_stay (A.kp q hq (.inr h4)) fun e => hw (uniq q hq e ▸ h4)
  · obtain ⟨z1, z2⟩ := A.cl Z hZ
    refine ⟨fun hp => ?_, fun q hq hz => dcSet_stay (z2 q hq hz) fun e => z1 (uniq q hq e ▸ hz)⟩
    obtain ⟨t, ht, hm⟩ := hZ p hp y hy
    exact z1 ((uniq _ hm rfl : t = w) ▸ ht)
structure Half (nb : Str → List Str) (M : List (Str × Str)) (p : Str) (kn : List Str) (i : Nat) (kn1 : List Str) : Prop where
  ex : ∃ new, kn1 = kn ++ [p] ++ new ∧ ∀ x ∈ new, x ∈ M.map (·.2)
  nd : kn1.Nodup
  cl : ∀ x ∈ kn1, x ∉ kn → x ≠ p → ∀ c ∈ nb x, ∃ t ∈ kn1, (c, t) ∈ M
  pr : ∀ c ∈ (nb p).take i, ∃ t ∈ kn1, (c, t) ∈ M
theorem half_0 (nd : kn.Nodup) (np : p ∉ kn) : Half nb M p kn 0 (kn ++ [p]) := by
  refine ⟨⟨[], by rw [List.append_nil], fun x hx => by cases hx⟩, ?_, fun x hx h1 h2 => ?_, fun c hc => by simp at hc⟩
  · rw [List.nodup_append]
    exact ⟨nd, by simp, fun a ha b hb e => np (by rw [← List.mem_singleton.mp hb, ← e]; exact ha)⟩
  · rcases List.mem_append.mp hx with hx | hx
    · exact absurd hx h1
    · exact absurd (List.mem_singleton.mp hx) h2
theorem half_in {i : Nat} (H : Half nb M p kn i kn1) (hy : (nb p)[i]? = some y) (hyw : (y, w) ∈ M) (hw : w ∈ kn1) : Half nb M p kn (i + 1) kn1 :=
  ⟨H.ex, H.nd, H.cl, fun c hc => by
    rcases mem_take1 hy hc with hc | rfl
    · exact H.pr c hc
    · exact ⟨w, hw, hyw⟩⟩
theorem half_more {i : Nat} (H : Half nb M p kn i kn1) (hy : (nb p)[i]? = some y) (hyw : (y, w) ∈ M) (K : Stuck nb M w kn1 kn2) : Half nb M p kn (i + 1) kn2 := by
  obtain ⟨new, e1, o1⟩ := H.ex
  obtain ⟨new2, e2, hw, o2⟩ := K.ex
  have sub : ∀ t ∈ kn1, t ∈ kn2 := fun t ht => by rw [e2]; exact List.mem_append_left _ ht
  refine ⟨⟨new ++ new2, by rw [e2, e1, List.append_assoc], fun x hx => ?_⟩, K.nd, fun x hx h1 h2 c hc => ?_, fun c hc => ?_⟩
  · rcases List.mem_append.mp hx with hx | hx
    · exact o1 x hx
    · rcases o2 x hx with rfl | hx
      · exact List.mem_map.mpr ⟨_, hyw, rfl⟩
      · exact hx
  · by_cases hx1 : x ∈ kn1
    · obtain ⟨t, ht, hm⟩ := H.cl x hx1 h1 h2 c hc
      exact ⟨t, sub t ht, hm⟩
    · exact K.cl x hx hx1 c hc
  · rcases mem_take1 hy hc with hc | rfl
    · obtain ⟨t, ht, hm⟩ := H.pr c hc
      exact ⟨t, sub t ht, hm⟩
    · exact ⟨w, by rw [e2]; exact List.mem_append_right _ hw, hyw⟩
theorem half_end (H : Half nb M p kn (nb p).length kn1) : Stuck nb M p kn kn1 := by
  obtain ⟨new, e1, o1⟩ := H.ex
  refine ⟨⟨p :: new, by rw [e1, List.append_assoc]; rfl, List.mem_cons_self .., fun x hx => ?_⟩, H.nd, fun x hx h1 c hc => ?_⟩
  · rcases List.mem_cons.mp hx with hx | hx
    · exact .inl hx
    · exact .inr (o1 x hx)
  · by_cases e : x = p
    · subst e
      have := H.pr
      rw [List.take_length] at this
      exact this c hc
    · exact H.cl x hx h1 e c hc
end
/-! ### the first lesson of two persons -/
def lessonOf (S : Sch) (one other : Str) : Nat := gt ((S.ps.zipIdx.filter fun y => decide (one ∈ ([y.1.1, y.1.2] : List Str)) && decide (other ∈ ([y.1.1, y.1.2] : List Str))).map fun y => y.2) 0
theorem lessonOf_ne {S : Sch} {t c : Str} (ht : (t, c) ∈ S.ps) : 0 < ((S.ps.zipIdx.filter fun y => decide (t ∈ ([y.1.1, y.1.2] : List Str)) && decide (c ∈ ([y.1.1, y.1.2] : List Str))).map fun y => y.2).length := by
  obtain ⟨i, hi⟩ := List.mem_iff_getElem?.mp ht
  rw [List.length_map]
  refine List.length_pos_of_mem (a := ((t, c), i)) (List.mem_filter.mpr ⟨List.mem_iff_getElem?.mpr ⟨i, by rw [List.getElem?_zipIdx, hi]; simp⟩, ?_⟩)
  show (decide (t ∈ ([t, c] : List Str)) && decide (c ∈ ([t, c] : List Str))) = true
  rw [decide_eq_true (by simp), decide_eq_true (by simp)]; rfl
theorem lessonOf_at {S : Sch} (h : SchNew S) {t c : Str} (ht : (t, c) ∈ S.ps) : lessonOf S t c < S.ps.length ∧ gt S.ps (lessonOf S t c) = (t, c) := by
  have h0 := lessonOf_ne ht
  have hm : lessonOf S t c ∈ (S.ps.zipIdx.filter fun y => decide (t ∈ ([y.1.1, y.1.2] : List Str)) && decide (c ∈ ([y.1.1, y.1.2] : List Str))).map fun y => y.2 := by
    unfold lessonOf
    exact List.mem_of_getElem? (gt_some h0)
  obtain ⟨⟨⟨a, b⟩, j⟩, hy, e⟩ := List.mem_map.mp hm
  obtain ⟨hz, hb⟩ := List.mem_filter.mp hy
  obtain ⟨b1, b2⟩ := and_t hb
  have b1 : t ∈ ([a, b] : List Str) := of_decide_eq_true b1
  have b2 : c ∈ ([a, b] : List Str) := of_decide_eq_true b2
  obtain ⟨m, hm2⟩ := List.mem_iff_getElem?.mp hz
  rw [List.getElem?_zipIdx] at hm2
  cases e3 : S.ps[m]? with
  | none => rw [e3] at hm2; cases hm2
  | some q =>
    rw [e3] at hm2
    have hm2 : some (q, 0 + m) = some ((a, b), j) := hm2
    rw [Nat.zero_add] at hm2
    have e4 := Option.some.inj hm2
    have e5 : q = (a, b) := congrArg Prod.fst e4
    have e6 : m = j := congrArg Prod.snd e4
    have e : j = lessonOf S t c := e
    subst e5
    rw [← e, ← e6]
    have hl := List.getElem?_eq_some_iff.mp e3
    obtain ⟨ka, kb⟩ := h.ok.les _ (List.mem_of_getElem? e3)
    obtain ⟨kt, kc⟩ := h.ok.les _ ht
    have et : t = a := by
      rcases (by simpa using b1 : t = a ∨ t = b) with e | e
      · exact e
      · exact (ts_cs h kt (e ▸ kb)).elim
    have ec : c = b := by
      rcases (by simpa using b2 : c = a ∨ c = b) with e | e
      · exact (ts_cs h (e ▸ ka) kc).elim
      · exact e
    exact ⟨hl.1, by rw [gt_of e3, et, ec]⟩
/-! ### lots and covers -/
structure LotOk (S : Sch) (lot : List Nat) : Prop where
  lt : ∀ a ∈ lot, a < S.ps.length
  d1 : (lot.map fun a => (gt S.ps a).1).Nodup
  d2 : (lot.map fun a => (gt S.ps a).2).Nodup
def Meets1 (S : Sch) (a : Nat) (p : Str) : Prop := p = (gt S.ps a).1 ∨ p = (gt S.ps a).2
def Serves (S : Sch) (lot : List Nat) (some_ : List Str) : Prop := ∀ p ∈ some_, ∃ a ∈ lot, Meets1 S a p
structure MostIs (S : Sch) (lot : List Nat) (cover : List Str) : Prop where
  ok : LotOk S lot
  asc : lot.Pairwise (· < ·)
  cn : cover.Nodup
  cp : ∀ p ∈ cover, p ∈ S.ts ++ S.cs
  ln : cover.length = lot.length
  cv : ∀ q ∈ S.ps, q.1 ∈ cover ∨ q.2 ∈ cover
/-- a lot of the pairs (teacher, class) -/
structure LotOf (S : Sch) (T : List (Str × Str)) (lot : List Nat) : Prop where
  ok : LotOk S lot
  asc : lot.Pairwise (· < ·)
  ln : lot.length = T.length
  to : ∀ a ∈ lot, gt S.ps a ∈ T
  of : ∀ q ∈ T, ∃ a ∈ lot, gt S.ps a = q
theorem lotOf {S : Sch} (h : SchNew S) {T : List (Str × Str)} (h1 : (T.map (·.1)).Nodup) (h2 : (T.map (·.2)).Nodup) (hp : ∀ q ∈ T, q ∈ S.ps) : LotOf S T (sortN (T.map fun q => lessonOf S q.1 q.2)) := by
  have at_ : ∀ q ∈ T, lessonOf S q.1 q.2 < S.ps.length ∧ gt S.ps (lessonOf S q.1 q.2) = q := fun q hq => lessonOf_at h (t := q.1) (c := q.2) (hp q hq)
  have pm := sortN_perm (T.map fun q => lessonOf S q.1 q.2)
  have m1 : ((T.map fun q => lessonOf S q.1 q.2).map fun a => (gt S.ps a).1) = T.map (·.1) := by
    rw [List.map_map]; exact List.map_congr_left fun q hq => by show (gt S.ps (lessonOf S q.1 q.2)).1 = q.1; rw [(at_ q hq).2]
  have m2 : ((T.map fun q => lessonOf S q.1 q.2).map fun a => (gt S.ps a).2) = T.map (·.2) := by
    rw [List.map_map]; exact List.map_congr_left fun q hq => by show (gt S.ps (lessonOf S q.1 q.2)).2 = q.2; rw [(at_ q hq).2]
  refine ⟨⟨fun a ha => ?_, ?_, ?_⟩, sortN_asc ?_, by rw [sortN_len, List.length_map], fun a ha => ?_, fun q hq => ⟨lessonOf S q.1 q.2, sortN_mem.mpr (List.mem_map.mpr ⟨q, hq, rfl⟩), (at_ q hq).2⟩⟩
  · obtain ⟨q, hq, rfl⟩ := List.mem_map.mp (sortN_mem.mp ha); exact (at_ q hq).1
  · exact ((pm.map _).nodup_iff).mpr (by rw [m1]; exact h1)
  · exact ((pm.map _).nodup_iff).mpr (by rw [m2]; exact h2)
  · exact nd_ofmap (f := fun a => (gt S.ps a).1) (by rw [m1]; exact h1)
  · obtain ⟨q, hq, rfl⟩ := List.mem_map.mp (sortN_mem.mp ha); rw [(at_ q hq).2]; exact hq
/-! ### the largest lot -/
structure MaxSt (S : Sch) (i : Nat) (M : List (Str × Str)) (re : List Str) : Prop where
  mt : Mt (partnersL S) M
  ow : ∀ q ∈ M, q.2 ∈ S.ts.take i
  al : ∀ t ∈ S.ts.take i, t ∈ M.map (·.2) ∨ t ∈ re
  cl : Clo (partnersL S) M re
  rt : ∀ t ∈ re, t ∈ S.ts
  rn : re.Nodup
theorem max_0 {S : Sch} : MaxSt S 0 [] [] :=
  ⟨⟨List.nodup_nil, List.nodup_nil, fun q hq => (by cases hq)⟩, fun q hq => (by cases hq), fun t ht => (by simp at ht), fun z hz => (by cases hz), fun t ht => (by cases ht), List.nodup_nil⟩
theorem ts_nd {S : Sch} (h : SchNew S) : S.ts.Nodup := (List.nodup_append.mp h.nd).1
theorem cs_nd {S : Sch} (h : SchNew S) : S.cs.Nodup := (List.nodup_append.mp h.nd).2.1
theorem led_pre {S : Sch} (h : SchNew S) {M : List (Str × Str)} {p : Str} {us : List Str} (mt : Mt (partnersL S) M) (hu : us.length ≤ 8) (hp : p ∈ us) (ho : ∀ q ∈ M, q.2 ∈ us) : LedPre S 9 M p [] :=
  ⟨⟨by have := h.ok.t8; omega, by have := h.ok.c8; omega, by have := h.ok.p40; omega⟩, mt, List.nodup_nil, fun z => (by cases z), us, hu, hp, fun x hx => (by cases hx), ho, (by show us.length < 9 + 0; omega)⟩
theorem not_take {l : List Str} {i : Nat} {y : Str} (nd : l.Nodup) (hy : l[i]? = some y) : y ∉ l.take i := fun hm => by
  obtain ⟨j, hj⟩ := List.mem_iff_getElem?.mp hm
  have hlt : j < i := by
    have := (List.getElem?_eq_some_iff.mp hj).1
    rw [List.length_take] at this; omega
  rw [List.getElem?_take_of_lt hlt] at hj
  have := (List.getElem?_inj (List.getElem?_eq_some_iff.mp hy).1 nd).mp (hy.trans hj.symm)
  omega
theorem mt_aug {nb : Str → List Str} {M M' : List (Str × Str)} {p : Str} {kn : List Str} (mt : Mt nb M) (hp : p ∉ M.map (·.2)) (A : Aug nb M p kn M') : Mt nb M' := by
  obtain ⟨c, hc, ek⟩ := A.ky
  refine ⟨?_, A.ow.nodup_iff.mpr (List.nodup_cons.mpr ⟨hp, mt.on⟩), A.ed⟩
  rw [ek, List.nodup_append]
  exact ⟨mt.kn, by simp, fun a ha b hb e => hc (by rw [← List.mem_singleton.mp hb, ← e]; exact ha)⟩
theorem max_yes {S : Sch} (h : SchNew S) {i : Nat} {M M' : List (Str × Str)} {re : List Str} {y : Str} (st : MaxSt S i M re) (hy : S.ts[i]? = some y) (A : Aug (partnersL S) M y [] M') : MaxSt S (i + 1) M' re := by
  have hn : y ∉ M.map (·.2) := fun hm => by
    obtain ⟨q, hq, e⟩ := List.mem_map.mp hm
    exact not_take (ts_nd h) hy (e ▸ st.ow q hq)
  refine ⟨mt_aug st.mt hn A, fun q hq => ?_, fun t ht => ?_, fun z hz c hc => ?_, st.rt, st.rn⟩
  · have := A.ow.mem_iff.mp (List.mem_map.mpr ⟨q, hq, rfl⟩)
    rcases List.mem_cons.mp this with e | hm
    · rw [e]; exact mem_takeI hy
    · obtain ⟨r, hr, e⟩ := List.mem_map.mp hm
      rw [← e]; exact mem_take0 (st.ow r hr)
  · rcases mem_take1 hy ht with ht | rfl
    · rcases st.al t ht with hm | hm
      · exact .inl (A.ow.mem_iff.mpr (List.mem_cons_of_mem _ hm))
      · exact .inr hm
    · exact .inl (A.ow.mem_iff.mpr (List.mem_cons_self ..))
  · obtain ⟨t, ht, hm⟩ := st.cl z hz c hc
    exact ⟨t, ht, (A.cl re st.cl).2 _ hm ht⟩
theorem stuck_ts {S : Sch} {i : Nat} {M : List (Str × Str)} {re kn' : List Str} {y : Str} (st : MaxSt S i M re) (hy : S.ts[i]? = some y) (K : Stuck (partnersL S) M y [] kn') : ∀ x ∈ kn', x ∈ S.ts := fun x hx => by
  obtain ⟨new, e, _, o⟩ := K.ex
  rw [e, List.nil_append] at hx
  rcases o x hx with rfl | hm
  · exact List.mem_of_getElem? hy
  · obtain ⟨q, hq, e⟩ := List.mem_map.mp hm
    exact List.mem_of_mem_take (e ▸ st.ow q hq)
theorem max_no {S : Sch} (h : SchNew S) {i : Nat} {M : List (Str × Str)} {re kn' : List Str} {y : Str} (st : MaxSt S i M re) (hy : S.ts[i]? = some y) (K : Stuck (partnersL S) M y [] kn') : MaxSt S (i + 1) M (re ++ kn'.filter fun x => !decide (x ∈ re)) := by
  have inn : ∀ x ∈ kn', x ∈ re ++ kn'.filter fun x => !decide (x ∈ re) := fun x hx => by
    by_cases hr : x ∈ re
    · exact List.mem_append_left _ hr
    · exact List.mem_append_right _ (List.mem_filter.mpr ⟨hx, by rw [decide_eq_false hr]; rfl⟩)
  refine ⟨st.mt, fun q hq => mem_take0 (st.ow q hq), fun t ht => ?_, fun z hz c hc => ?_, fun t ht => ?_, ?_⟩
  · rcases mem_take1 hy ht with ht | rfl
    · rcases st.al t ht with hm | hm
      · exact .inl hm
      · exact .inr (List.mem_append_left _ hm)
    · obtain ⟨new, e, hp, _⟩ := K.ex
      exact .inr (inn _ (by rw [e]; exact List.mem_append_right _ hp))
  · rcases List.mem_append.mp hz with hz | hz
    · obtain ⟨t, ht, hm⟩ := st.cl z hz c hc
      exact ⟨t, List.mem_append_left _ ht, hm⟩
    · obtain ⟨t, ht, hm⟩ := K.cl z (List.mem_filter.mp hz).1 (fun z => by cases z) c hc
      exact ⟨t, inn t ht, hm⟩
  · rcases List.mem_append.mp ht with ht | ht
    · exact st.rt t ht
    · exact stuck_ts st hy K t (List.mem_filter.mp ht).1
  · rw [List.nodup_append]
    refine ⟨st.rn, nd_fil _ K.nd, fun a ha b hb e => ?_⟩
    exact nd_t (List.mem_filter.mp hb).2 (e ▸ ha)
def busyL (S : Sch) (M : List (Str × Str)) (re : List Str) : List Str := S.ts.filter fun t => (!decide (t ∈ re)) && decide (t ∈ M.map (·.2))
def heardL (S : Sch) (re : List Str) : List Str := S.cs.filter fun c => (re.map fun r => decide (c ∈ partnersL S r)).any id
theorem most_is {S : Sch} (h : SchNew S) {M : List (Str × Str)} {re : List Str} (st : MaxSt S S.ts.length M re) : MostIs S (sortN (M.map fun q => lessonOf S q.2 q.1)) (busyL S M re ++ heardL S re) := by
  have tsM : ∀ q ∈ M, q.2 ∈ S.ts := fun q hq => List.mem_of_mem_take (st.ow q hq)
  have psM : ∀ q ∈ M, (q.2, q.1) ∈ S.ps := fun q hq => (adj_t h (tsM q hq)).mp (st.mt.ed q hq)
  have L := lotOf h (T := M.map fun q => (q.2, q.1)) (by rw [List.map_map]; exact st.mt.on) (by rw [List.map_map]; exact st.mt.kn) (fun q hq => by
    obtain ⟨r, hr, rfl⟩ := List.mem_map.mp hq
    exact psM r hr)
  have e1 : ((M.map fun q => (q.2, q.1)).map fun q => lessonOf S q.1 q.2) = M.map fun q => lessonOf S q.2 q.1 := by rw [List.map_map]; rfl
  rw [e1] at L
  have hb : ∀ t, t ∈ busyL S M re ↔ t ∈ (M.filter fun q => !decide (q.2 ∈ re)).map (·.2) := fun t => by
    unfold busyL
    rw [List.mem_filter]
    refine Iff.trans ?_ List.mem_map.symm
    constructor
    · rintro ⟨_, hh⟩
      obtain ⟨h1, h2⟩ := and_t hh
      obtain ⟨q, hq, e⟩ := List.mem_map.mp (of_decide_eq_true h2)
      exact ⟨q, List.mem_filter.mpr ⟨hq, by rw [e]; exact h1⟩, e⟩
    · rintro ⟨q, hq, rfl⟩
      obtain ⟨h1, h2⟩ := List.mem_filter.mp hq
      have h2 : (!decide (q.2 ∈ re)) = true := h2
      exact ⟨tsM q h1, by rw [h2, decide_eq_true (List.mem_map.mpr ⟨q, h1, rfl⟩)]; rfl⟩
  have hh : ∀ c, c ∈ heardL S re ↔ c ∈ (M.filter fun q => decide (q.2 ∈ re)).map (·.1) := fun c => by
    unfold heardL
    rw [List.mem_filter]
    refine Iff.trans ?_ List.mem_map.symm
    constructor
    · rintro ⟨_, hh⟩
      obtain ⟨b, hb, e⟩ := List.any_eq_true.mp hh
      obtain ⟨r, hr, rfl⟩ := List.mem_map.mp hb
      obtain ⟨t, ht, hm⟩ := st.cl r hr c (of_decide_eq_true e)
      exact ⟨(c, t), List.mem_filter.mpr ⟨hm, decide_eq_true ht⟩, rfl⟩
    · rintro ⟨q, hq, rfl⟩
      obtain ⟨h1, h2⟩ := List.mem_filter.mp hq
      exact ⟨(h.ok.les _ (psM q h1)).2, List.any_eq_true.mpr ⟨_, List.mem_map.mpr ⟨q.2, of_decide_eq_true h2, rfl⟩, decide_eq_true (st.mt.ed q h1)⟩⟩
  have bt : ∀ t ∈ busyL S M re, t ∈ S.ts := fun t ht => (List.mem_filter.mp ht).1
  have hc : ∀ t ∈ heardL S re, t ∈ S.cs := fun t ht => (List.mem_filter.mp ht).1
  have nb : (busyL S M re).Nodup := nd_fil _ (ts_nd h)
  have nh : (heardL S re).Nodup := nd_fil _ (cs_nd h)
  refine ⟨L.ok, L.asc, ?_, fun p hp => ?_, ?_, fun q hq => ?_⟩
  · rw [List.nodup_append]
    exact ⟨nb, nh, fun a ha b hb e => ts_cs h (bt a ha) (e ▸ hc b hb)⟩
  · rcases List.mem_append.mp hp with hp | hp
    · exact List.mem_append_left _ (bt p hp)
    · exact List.mem_append_right _ (hc p hp)
  · rw [L.ln, List.length_map, List.length_append, mt_len nb (nd_filmap _ st.mt.on) hb, mt_len nh (nd_filmap _ st.mt.kn) hh, List.length_map, List.length_map]
    have := fil_add (fun q : Str × Str => decide (q.2 ∈ re)) M
    omega
  · obtain ⟨k1, k2⟩ := h.ok.les q hq
    by_cases hr : q.1 ∈ re
    · refine .inr (List.mem_append_right _ (List.mem_filter.mpr ⟨k2, List.any_eq_true.mpr ⟨_, List.mem_map.mpr ⟨q.1, hr, rfl⟩, decide_eq_true ((adj_t h k1).mpr hq)⟩⟩))
    · have := st.al q.1 (by rw [List.take_length]; exact k1)
      rcases this with hm | hm
      · exact .inl (List.mem_append_left _ (List.mem_filter.mpr ⟨k1, by rw [decide_eq_false hr, decide_eq_true hm]; rfl⟩))
      · exact absurd hm hr
end EW

/-! sum(lists, []). -/
namespace EW
open PySem PySem.Spec PyProof.Rows L2
theorem args_sum2 (a b : Value) : argsOk "sum" ⟨[a, b], []⟩ := by unfold argsOk; kernel_rfl
def totL (its : List (List Value)) (i : Nat) : List Value := (its.take i).flatten
theorem totL_next {its : List (List Value)} {i : Nat} {y : List Value} (h : its[i]? = some y) : totL its (i + 1) = totL its i ++ y := by
  unfold totL
  rw [List.take_add_one, h, List.flatten_append]; simp
theorem totL_all {its : List (List Value)} : totL its its.length = its.flatten := by unfold totL; rw [List.take_length]
theorem totL_len {its : List (List Value)} {n : Nat} (i : Nat) (h : its.flatten.length ≤ n) : (totL its i).length ≤ n := by
  refine Nat.le_trans ?_ h
  unfold totL
  conv => rhs; rw [← List.take_append_drop i its, List.flatten_append]
  rw [List.length_append]; omega
section
variable {prog : Program} {w : World} {A : Around} {E : Value → Shared → Prop} {R : Result → Shared → Prop} {I l S a : Addr} {items : Array Value} {its : List (List Value)}
/-- what stands in the state list -/
def TotAt (h : Heap) (I a T : Addr) (i : Nat) (its : List (List Value)) : Prop :=
  (i = 0 ∧ T = a ∧ h.IsList a #[]) ∨ (I < T ∧ ∃ m, h.get? T = some { cls := .type "list", data := .seq (totL its i).toArray m })
theorem TotAt.isList {h : Heap} {T : Addr} {i : Nat} (t : TotAt h I a T i its) : h.IsList T (totL its i).toArray := by
  rcases t with ⟨rfl, rfl, h1⟩ | ⟨_, m, h1⟩
  · exact h1
  · exact ⟨_, h1, rfl, m, rfl⟩
theorem sumL_loop (W : Walks prog w A.in1 I [I, l] [I] items.size (fun i v => items[i]? = some v) (fun i h => h.IsListIter I l i ∧ h.IsList l items)) (h0 : Heap) (hlen : its.length = items.size) (hz : its.flatten.length ≤ sizeLine)
    (hP : ∀ (i : Nat) (v : Value), items[i]? = some v → ∃ (b : Addr) (y : List Value), v = Value.ref b ∧ b ≠ I ∧ b ≠ S ∧ its[i]? = some y ∧ h0.IsList b y.toArray) (hSI : I < S) (hSl : S ≠ l) (ha : a ≠ I ∧ a ≠ S) :
    ∀ (k i : Nat) (s : Shared) (T : Addr) (c : Nat), items.size - i = k → i ≤ items.size → (s.heap.IsListIter I l i ∧ s.heap.IsList l items) → s.heap.get? S = some { cls := .type "list", dict := none, data := .seq #[.ref T] c, slots := #[] } →
    T ≠ I ∧ T ≠ S → TotAt s.heap I a T i its → (∀ b o, b ≠ I → b ≠ S → h0.get? b = some o → s.heap.get? b = some o) →
    (∀ h' tk T', T' ≠ S → TotAt h' I a T' items.size its → (∀ b o, b ≠ I → b ≠ S → h0.get? b = some o → h'.get? b = some o) → R (.ok (.ret (.ref T'))) { s with heap := h', toks := tk }) →
    ∀ stage comp, stage = 2 → comp = 0 → codeAny (model prog w) A (.builtin "sum.loop" ⟨[.ref I, .ref S, rawInt stage, rawInt comp], []⟩) R s := by
  have hSw : S ∉ [I] := fun h => by rw [List.mem_singleton.mp h] at hSI; exact Nat.lt_irrefl _ hSI
  have hSf : S ∉ [I, l] := fun h => by
    simp only [List.mem_cons, List.not_mem_nil, or_false] at h
    rcases h with h | h
    · rw [h] at hSI; exact Nat.lt_irrefl _ hSI
    · exact hSl h
  intro k
  induction k with
  | zero =>
    intro i s T c hk hi hst hS hT hTa hkeep hR stage comp e1 e2
    subst e1 e2
    have hin : i = items.size := by omega
    subst hin
    refine codeAny_builtin F.entry_sum_loop ?_
    rw [Around.under_plainId F.plain_sum_loop _]
    show wpAny _ A.in1 (seqItems? (.ref S) >>= _) _ _ s
    refine wpAny_bind (wpAny_seqItems hS rfl ?_)
    show wpAny _ A.in1 (tryCatch (pyNext (.ref I)) _ >>= _) _ _ s
    refine wpAny_bind (wpAny_tryCatch (W.done s _ _ hst fun h' tk hk' => ?_))
    refine wpAny_pure (hR h' tk T hT.2 ?_ fun b o hb1 hb2 e => hk' b o (fun h => hb1 (List.mem_singleton.mp h)) (hkeep b o hb1 hb2 e))
    rcases hTa with ⟨h1, h2, o, h3, h4⟩ | ⟨h1, m, h2⟩
    · subst h2
      exact .inl ⟨h1, rfl, o, hk' _ o (fun h => ha.1 (List.mem_singleton.mp h)) h3, h4⟩
    · exact .inr ⟨h1, m, hk' _ _ (fun h => hT.1 (List.mem_singleton.mp h)) h2⟩
  | succ k ih =>
    intro i s T c hk hi hst hS hT hTa hkeep hR stage comp e1 e2
    subst e1 e2
    have hlt : i < items.size := by omega
    refine codeAny_builtin F.entry_sum_loop ?_
    rw [Around.under_plainId F.plain_sum_loop _]
    show wpAny _ A.in1 (seqItems? (.ref S) >>= _) _ _ s
    refine wpAny_bind (wpAny_seqItems hS rfl ?_)
    show wpAny _ A.in1 (tryCatch (pyNext (.ref I)) _ >>= _) _ _ s
    refine wpAny_bind (wpAny_tryCatch (W.item i s _ _ hlt hst fun v h' tk hP' hst' hk' => ?_))
    obtain ⟨b, y, rfl, hbI, hbS, hy, hb⟩ := hP i v hP'
    have hS' := hk' S _ hSw hS
    have keep1 : ∀ b o, b ≠ I → b ≠ S → h0.get? b = some o → h'.get? b = some o := fun b o h1 h2 e => hk' b o (fun h => h1 (List.mem_singleton.mp h)) (hkeep b o h1 h2 e)
    have hIt : h'.IsList T (totL its i).toArray := by
      obtain ⟨o, h1, h2⟩ := hTa.isList
      exact ⟨o, hk' _ o (fun h => hT.1 (List.mem_singleton.mp h)) h1, h2⟩
    have hIb : h'.IsList b y.toArray := by
      obtain ⟨o, h1, h2⟩ := hb
      exact ⟨o, keep1 b o hbI hbS h1, h2⟩
    obtain ⟨⟨cls, dd, data, sl⟩, ho, hc, n1, hd⟩ := id hIt
    obtain ⟨⟨cls2, dd2, data2, sl2⟩, ho2, hc2, n2, hd2⟩ := id hIb
    simp only at hc hd hc2 hd2
    subst hc hd hc2 hd2
    have e : (totL its i).toArray ++ y.toArray = (totL its (i + 1)).toArray := by rw [totL_next hy]; simp
    have hsz : (totL its i).toArray.size + y.toArray.size ≤ sizeLine := by
      have := totL_len (its := its) (n := sizeLine) (i + 1) hz
      rw [totL_next hy, List.length_append] at this
      simpa using this
    show wpAny _ A.in1 ((holding [Value.ref b] (binaryOp .Add (.ref T) (.ref b))).attempt >>= _) _ _ _
    refine wpAny_bind (wpAny_attempt (wpAny_holding ?_))
    refine concat_meets ⟨_, ho, rfl⟩ ⟨_, ho2, rfl⟩ noFill_list_add seq_list_add PySem.F.slot_list_add PySem.F.entry_list_add (PySem.F.args_list_add_2 _ _) (list_addW T b (totL its i).toArray y.toArray n1 n2 dd dd2 sl sl2 hsz) ⟨ho, ho2, ?_⟩
    rw [e]
    show wpAny _ A.in1 (updateSeq S (fun _ => #[.ref h'.objs.size]) >>= _) _ _ _
    have hS1 := Heap.get?_push_of_some { cls := .type "list", data := .seq (totL its (i + 1)).toArray } hS'
    have hTn : (h'.push { cls := .type "list", data := .seq (totL its (i + 1)).toArray }).get? h'.objs.size = some { cls := .type "list", data := .seq (totL its (i + 1)).toArray } := Heap.get?_push_size _ rfl
    have hSlt : S < h'.objs.size := Heap.lt_size hS'
    have hIlt : I < h'.objs.size := by obtain ⟨⟨_, e, _⟩, _⟩ := hst'; exact Heap.lt_size e
    refine wpAny_bind ?_
    refine wpAny_updateSeq hS1 rfl ?_
    have hS2 := Heap.get?_update_self (Obj.mapSeq fun _ => #[Value.ref h'.objs.size]) hS1 rfl
    refine wpAny_bind (wpAny_letGo ?_)
    refine wpAny_bind ?_
    have oth : ∀ b o, b ≠ S → h'.get? b = some o → (((h'.push { cls := .type "list", data := .seq (totL its (i + 1)).toArray }).update S (Obj.mapSeq fun _ => #[Value.ref h'.objs.size])).update S (Obj.mapSeq fun _ => #[Value.ref h'.objs.size])).get? b = some o := fun b o hb e =>
      (Heap.get?_update_other _ _ (Ne.symm hb)).trans ((Heap.get?_update_other _ _ (Ne.symm hb)).trans (Heap.get?_push_of_some _ e))
    refine wpAny_updateSeq hS2 rfl (wpAny_pure ⟨plainId_quiet F.plain_sum_loop _, ?_⟩)
    have key := ih (i + 1) { s with heap := ((h'.push { cls := .type "list", data := .seq (totL its (i + 1)).toArray }).update S (Obj.mapSeq fun _ => #[Value.ref h'.objs.size])).update S (Obj.mapSeq fun _ => #[Value.ref h'.objs.size]), toks := tk } h'.objs.size _ (by omega) hlt (W.frame _ _ _ hst' fun b hb o e => oth b o (fun h => hSf (h ▸ hb)) e) (Heap.get?_update_self _ hS2 rfl) ⟨Nat.ne_of_gt hIlt, Nat.ne_of_gt hSlt⟩
      (.inr ⟨hIlt, _, (Heap.get?_update_other _ _ (Nat.ne_of_lt hSlt)).trans ((Heap.get?_update_other _ _ (Nat.ne_of_lt hSlt)).trans hTn)⟩) (fun b o h1 h2 e => oth b o h2 (keep1 b o h1 h2 e)) (fun h'' tk'' T' h1 h2 h3 => hR h'' tk'' T' h1 h2 h3) 2 0 rfl rfl
    exact key
theorem sub_list_str' : isSubtype (.type "list") (.type "str") = pure false := by rw [isSubtype_type]; kernel_rfl
theorem sub_list_bytes' : isSubtype (.type "list") (.type "bytes") = pure false := by rw [isSubtype_type]; kernel_rfl
theorem sub_list_bytearray' : isSubtype (.type "list") (.type "bytearray") = pure false := by rw [isSubtype_type]; kernel_rfl
theorem call_sumL {s : Shared} {Q : Value → Shared → Prop} (hh : A.handled = none) (hl : s.heap.IsList l items) (ha : s.heap.IsList a #[]) (hlen : its.length = items.size) (hz : its.flatten.length ≤ sizeLine)
    (hP : ∀ (i : Nat) (v : Value), items[i]? = some v → ∃ (b : Addr) (y : List Value), v = Value.ref b ∧ its[i]? = some y ∧ s.heap.IsList b y.toArray)
    (h : ∀ h' tk T', TotAt h' s.heap.objs.size a T' items.size its → (∀ b o, s.heap.get? b = some o → h'.get? b = some o) → Q (.ref T') { s with heap := h', toks := tk }) :
    wpAny (model prog w) A (call (.builtin "sum") [.ref l, .ref a]) Q E s := by
  have lt : ∀ {b : Addr} {xs : Array Value}, s.heap.IsList b xs → b < s.heap.objs.size := fun h => by obtain ⟨_, e, _⟩ := h; exact Heap.lt_size e
  refine call_function_tree F.kind_sum F.plain_sum F.entry_sum (args_sum2 _ _) ?_
  unfold Builtin.«sum»
  simp only [List.length_cons, List.length_nil]
  rw [if_neg (by decide)]
  refine wpAny_bind (wpAny_of_eq (show Builtin.Builtins.bindParams "sum" ["start"] 0 { pos := [Value.ref a] } = pure [some (Value.ref a)] from rfl) ?_)
  refine wpAny_bind (wpAny_pyIter_list hl ?_)
  refine wpAny_bind (wpAny_pure ?_)
  have tI : ∀ (s' : Shared), (∀ o, s.heap.get? a = some o → s'.heap.get? a = some o) → s'.TypeIs (.ref a) "list" := fun s' k => by
    obtain ⟨o, e, c, _⟩ := ha; exact ⟨o, k o e, c⟩
  have k1 : ∀ o, s.heap.get? a = some o → (s.heap.push { cls := .type "list_iterator", data := .fields #[.ref l, .int 0 0] }).get? a = some o := fun o e => Heap.get?_push_of_some _ e
  simp only [List.forIn_cons, List.forIn_nil]
  refine wpAny_bind (wpAny_bind (wpAny_bind (wpAny_isInstance (T := "list") (b := false) (tI _ k1) sub_list_str' ?_)))
  simp only [Bool.false_eq_true, if_false]
  refine wpAny_pure (wpAny_bind (wpAny_bind (wpAny_isInstance (T := "list") (b := false) (tI _ k1) sub_list_bytes' ?_)))
  simp only [Bool.false_eq_true, if_false]
  refine wpAny_pure (wpAny_bind (wpAny_bind (wpAny_isInstance (T := "list") (b := false) (tI _ k1) sub_list_bytearray' ?_)))
  simp only [Bool.false_eq_true, if_false]
  refine wpAny_pure (wpAny_pure ?_)
  refine wpAny_bind (wpAny_newObj_type ?_)
  have z1 : (s.heap.push { cls := .type "list_iterator", data := .fields #[.ref l, .int 0 0] }).objs.size = s.heap.objs.size + 1 := Heap.size_push ..
  have l1 := lt hl
  have l2 := lt ha
  have all : ∀ b o, s.heap.get? b = some o → ((s.heap.push { cls := .type "list_iterator", data := .fields #[.ref l, .int 0 0] }).push { cls := .type "list", data := .seq #[.ref a] }).get? b = some o := fun b o e => Heap.get?_push_of_some _ (Heap.get?_push_of_some _ e)
  refine wpAny_pure ⟨plainId_quiet F.plain_sum_loop _, sumL_loop (I := s.heap.objs.size) (S := (s.heap.push { cls := .type "list_iterator", data := .fields #[.ref l, .int 0 0] }).objs.size) (a := a) (its := its) (Walks.list (A := A.in1) hh _ l (Nat.ne_of_lt l1) items) s.heap hlen hz (fun i v hv => ?_) (by rw [z1]; exact Nat.lt_succ_self _) (by rw [z1]; exact Nat.ne_of_gt (Nat.lt_succ_of_lt l1)) ⟨Nat.ne_of_lt l2, by rw [z1]; exact Nat.ne_of_lt (Nat.lt_succ_of_lt l2)⟩ items.size 0 _ a _ (Nat.sub_zero _) (Nat.zero_le _)
    ⟨⟨_, Heap.get?_push_of_some _ (Heap.get?_push_size _ rfl), rfl, rfl⟩, (hl.push _).push _⟩ (Heap.get?_push_size _ rfl) ⟨Nat.ne_of_lt l2, by rw [z1]; exact Nat.ne_of_lt (Nat.lt_succ_of_lt l2)⟩ (.inl ⟨rfl, rfl, (ha.push _).push _⟩) (fun b o _ _ e => all b o e) (fun h' tk T' _ ht hk => h h' tk T' ht fun b o e => hk b o ?_ ?_ e) 2 0 rfl rfl⟩
  · obtain ⟨b, y, e, hy, hb⟩ := hP i v hv
    have := lt hb
    exact ⟨b, y, e, Nat.ne_of_lt this, by rw [z1]; exact Nat.ne_of_lt (Nat.lt_succ_of_lt this), hy, hb⟩
  · exact Nat.ne_of_lt (Heap.lt_size e)
  · rw [z1]; exact Nat.ne_of_lt (Nat.lt_succ_of_lt (Heap.lt_size e))
end
section
variable {X : Cx} {W : Wd} {G : List (Option D)} {C : Cells} {k : KD}
theorem flatten_map {α β : Type} (f : α → β) (l : List (List α)) : (l.map fun x => x.map f).flatten = l.flatten.map f := by rw [List.map_flatten]
/-- the items' lists, as they stand in the heap -/
theorem lists_at {P H : Hp} {pins : List (Addr × Obj)} {σ : L2.St} {s : Shared} (I : L2.Inv X pins σ H s) (le : Le P H) {α : Type} {f : α → D} : ∀ {l : List (List α)} {vs : List V} {us : List Value}, Reps X.K P vs (l.map (lsE f)) → Vals vs us →
    ∃ (xs : List (List V)) (its : List (List Value)), xs.length = l.length ∧ its.length = us.length ∧ Reps X.K P xs.flatten (l.flatten.map f) ∧ Vals xs.flatten its.flatten ∧ ∀ (i : Nat) (v : Value), us[i]? = some v → ∃ (b : Addr) (y : List Value), v = Value.ref b ∧ its[i]? = some y ∧ s.heap.IsList b y.toArray
  | [], _, _, .nil, .nil => ⟨[], [], rfl, rfl, .nil, .nil, fun i v h => by simp at h⟩
  | x :: l, _, _, .cons r rs, .cons rv rvs => by
    obtain ⟨xs, its, h1, h2, h3, h4, h5⟩ := lists_at I le (f := f) rs rvs
    cases r with
    | @lst b ws _ hb rb =>
      obtain ⟨ys, ry, pl, _⟩ := I.list (.inl (.inl (le_lst le hb)) : SqL X.K H b ws)
      cases rv
      refine ⟨ws :: xs, ys :: its, by simp [h1], by simp [h2], ?_, ?_, fun i v h => ?_⟩
      · rw [List.flatten_cons, List.flatten_cons, List.map_append]; exact rb.app h3
      · rw [List.flatten_cons, List.flatten_cons]; exact Vals.append ry h4
      · cases i with
        | zero => cases h; exact ⟨b, ys, rfl, rfl, pl.isList⟩
        | succ i => exact h5 i v (by simpa using h)
theorem v_sumL {α : Type} {f : α → D} {l : List (List α)} (hc : X.calm = true) (hz : l.flatten.length ≤ 100000) : ∀ k : KD, k (lsE f l.flatten) C → cD X W (.builtin "sum") [lsE (lsE f) l, lsE f []] G C k := fun k q => by
  intro σ P H Q vs g rr z pins s σ' us I rs
  obtain ⟨v, u, rfl, r1, r2⟩ := reps2 rr
  cases r1 with
  | @lst a ws _ ha ra =>
    cases r2 with
    | @lst b us0 _ hb rb =>
      cases rb
      obtain ⟨w1, w2, rfl, q1, q2⟩ := vals2 rs
      cases q1; cases q2
      obtain ⟨its0, rv, pl, _⟩ := I.list (.inl (.inl (le_lst g.le ha)) : SqL X.K H a ws)
      obtain ⟨its1, rv1, pl1, _⟩ := I.list (.inl (.inl (le_lst g.le hb)) : SqL X.K H b [])
      cases rv1
      obtain ⟨xs, its, h1, h2, h3, h4, h5⟩ := lists_at I g.le ra rv
      have hlen : its.flatten.length = l.flatten.length := by rw [← h4.length, h3.len, List.length_map]
      refine call_sumL (A := X.A) (I.ok.hd hc) pl.isList pl1.isList (its := its) (by rw [h2]; simp) (by rw [hlen]; exact small_le hz) (fun i v hv => h5 i v (by simpa using hv)) fun h' tk T' ht hk => ?_
      rcases ht with ⟨h0, rfl, _⟩ | ⟨hT, m, ho⟩
      · have e0 : l = [] := by
          have : its0.length = 0 := by simpa using h0
          have e1 := rv.length
          have e2 := ra.len
          rw [List.length_map] at e2
          exact List.length_eq_zero_iff.mp (by omega)
        subst e0
        exact ⟨.ref T', H, I.kept (t' := tk) hk, rfl, z _ C _ P H g.refl (.lst hb .nil) q⟩
      · have hn : H T' = none := I.hok.fresh (Nat.le_of_lt hT)
        have n := g.new (o := .lst xs.flatten) hn
        rw [show totL its (its0.toArray).size = its.flatten by rw [← totL_all]; congr 1; rw [h2]; simp] at ho
        exact ⟨.ref T', _, I.laid (t' := tk) hk (Nat.le_of_lt hT) (show ObjOk X.prog X.w _ _ _ (.lst xs.flatten) from ⟨by rw [h4.length, hlen]; exact small_le hz, its.flatten, m, h4, ho⟩), rfl, z _ C _ _ _ n (.lst upd_same (h3.ex' n.ex)) q⟩
end
end EW

/-! Persons served at one hour: the mathematics. -/
namespace EW
open PySem PySem.Spec PyProof.Rows L2
/-! ### what serve gives, as data -/
inductive SrvB where
  | names (l : List Str) | lot (l : List Nat)
def srvbE : SrvB → D
  | .names l => lsE D.str l
  | .lot l => lsE natD l
inductive SrvV where
  | lack (l : List Str) | lot (l : List Nat)
  deriving DecidableEq
def srvE : SrvV → D
  | .lack l => prE D.str (lsE D.str) ("lack", l)
  | .lot l => prE D.str (lsE natD) ("lot", l)
def srvL (q : Str × List Str) : SrvV := .lack q.2
def srvO (q : Str × List Nat) : SrvV := .lot q.2
def srvK : SrvV → Str
  | .lack _ => "lack"
  | .lot _ => "lot"
def srvB : SrvV → SrvB
  | .lack l => .names l
  | .lot l => .lot l
theorem srvE_tup (v : SrvV) : srvE v = .tup [.str (srvK v), srvbE (srvB v)] := by cases v <;> rfl
instance : NN srvE := ⟨fun v => by cases v <;> rfl⟩
theorem v_ixSrv {X : Cx} {W : Wd} {G : List (Option D)} {C : Cells} {v : SrvV} : ∀ k : KD, k (.str (srvK v)) C → xD X W (srvE v) (natD 0) G C k := fun k q => by
  rw [srvE_tup]; exact xD_tup (i := 0) rfl q
/-! ### one side -/
structure LackIs (nb : Str → List Str) (persons l : List Str) : Prop where
  sl : ∃ z : List Str, l = persons.filter fun p => decide (p ∈ z)
  few : ∃ N : List Str, N.length < l.length ∧ ∀ p ∈ l, ∀ o ∈ nb p, o ∈ N
structure PairedIs (nb : Str → List Str) (persons : List Str) (r : List (Str × Str) × Option (List Str)) : Prop where
  yes : r.2 = none → Mt nb r.1 ∧ ∀ t, t ∈ r.1.map (·.2) ↔ t ∈ persons
  no : ∀ l, r.2 = some l → LackIs nb persons l
structure PairSt (nb : Str → List Str) (persons : List Str) (i : Nat) (M : List (Str × Str)) : Prop where
  mt : Mt nb M
  ow : ∀ t, t ∈ M.map (·.2) ↔ t ∈ persons.take i
theorem pair_0 {nb : Str → List Str} {persons : List Str} : PairSt nb persons 0 [] := ⟨⟨List.nodup_nil, List.nodup_nil, fun q hq => (by cases hq)⟩, fun t => (by simp)⟩
theorem pair_yes {nb : Str → List Str} {persons : List Str} {i : Nat} {M M' : List (Str × Str)} {y : Str} (nd : persons.Nodup) (st : PairSt nb persons i M) (hy : persons[i]? = some y) (A : Aug nb M y [] M') : PairSt nb persons (i + 1) M' := by
  have hn : y ∉ M.map (·.2) := fun hm => not_take nd hy ((st.ow y).mp hm)
  refine ⟨mt_aug st.mt hn A, fun t => ?_⟩
  rw [A.ow.mem_iff, List.mem_cons, st.ow t]
  constructor
  · rintro (rfl | h)
    · exact mem_takeI hy
    · exact mem_take0 h
  · intro h
    rcases mem_take1 hy h with h | h
    · exact .inr h
    · exact .inl h
theorem pair_no {nb : Str → List Str} {persons : List Str} {i : Nat} {M : List (Str × Str)} {y : Str} {kn' : List Str} (nd : persons.Nodup) (st : PairSt nb persons i M) (hy : persons[i]? = some y) (K : Stuck nb M y [] kn') : LackIs nb persons (persons.filter fun p => decide (p ∈ kn')) := by
  have hn : y ∉ M.map (·.2) := fun hm => not_take nd hy ((st.ow y).mp hm)
  obtain ⟨new, e, hp, ho⟩ := K.ex
  rw [List.nil_append] at e
  subst e
  have ykn : y ∈ kn' := hp
  have sub : ∀ x ∈ kn', x ∈ persons := fun x hx => by
    rcases ho x hx with rfl | hx
    · exact List.mem_of_getElem? hy
    · exact List.mem_of_mem_take ((st.ow x).mp hx)
  have cl : ∀ x ∈ kn', ∀ c ∈ nb x, ∃ t ∈ kn', (c, t) ∈ M := fun x hx => K.cl x hx (fun z => by cases z)
  have l1 : (persons.filter fun p => decide (p ∈ kn')).length = kn'.length := mt_len (nd_fil _ nd) K.nd fun x => by
    rw [List.mem_filter]
    exact ⟨fun h => of_decide_eq_true h.2, fun h => ⟨sub x h, decide_eq_true h⟩⟩
  refine ⟨⟨kn', rfl⟩, (M.filter fun q => decide (q.2 ∈ kn')).map (·.1), ?_, fun p hp c hc => ?_⟩
  · rw [l1, List.length_map]
    have h2 := mt_le (l := y :: (M.filter fun q => decide (q.2 ∈ kn')).map (·.2)) (m := kn') (List.nodup_cons.mpr ⟨fun hm => ?_, nd_filmap _ st.mt.on⟩) fun x hx => ?_
    · rw [List.length_cons, List.length_map] at h2; omega
    · obtain ⟨q, hq, e⟩ := List.mem_map.mp hm
      exact hn (List.mem_map.mpr ⟨q, (List.mem_filter.mp hq).1, e⟩)
    · rcases List.mem_cons.mp hx with rfl | hx
      · exact ykn
      · obtain ⟨q, hq, rfl⟩ := List.mem_map.mp hx
        exact of_decide_eq_true (List.mem_filter.mp hq).2
  · obtain ⟨t, ht, hm⟩ := cl p (of_decide_eq_true (List.mem_filter.mp hp).2) c hc
    exact List.mem_map.mpr ⟨(c, t), List.mem_filter.mpr ⟨hm, decide_eq_true ht⟩, rfl⟩
/-! ### both sides -/
structure BothPre (ours theirs : List (Str × Str)) : Prop where
  o1 : (ours.map (·.1)).Nodup
  o2 : (ours.map (·.2)).Nodup
  t1 : (theirs.map (·.1)).Nodup
  t2 : (theirs.map (·.2)).Nodup
  ol : ours.length ≤ 1000
  tl : theirs.length ≤ 1000
structure BothIs (ours theirs r : List (Str × Str)) : Prop where
  k : (r.map (·.1)).Nodup
  v : (r.map (·.2)).Nodup
  ed : ∀ q ∈ r, (q.2, q.1) ∈ ours ∨ q ∈ theirs
  ks : ∀ t ∈ ours.map (·.2), t ∈ r.map (·.1)
  vs : ∀ c ∈ theirs.map (·.2), c ∈ r.map (·.2)
/-- on the way: TO the teachers of their classes -/
structure BSt (O TO F : List (Str × Str)) : Prop where
  k : (F.map (·.1)).Nodup
  v : (F.map (·.2)).Nodup
  ed : ∀ q ∈ F, q ∈ O ∨ (q.2, q.1) ∈ TO
  ks : ∀ t ∈ O.map (·.1), t ∈ F.map (·.1)
def cntB (TO F : List (Str × Str)) : Nat := (TO.filter fun q => decide ((q.2, q.1) ∈ F)).length
structure BWh (O TO : List (Str × Str)) (i : Nat) (m : Nat) (now : Option Str) (F : List (Str × Str)) : Prop where
  st : BSt O TO F
  dn : ∀ c ∈ (TO.map (·.1)).take (i + 1), c ∈ F.map (·.2) ∨ now = some c
  nw : ∀ n, now = some n → n ∈ TO.map (·.1) ∧ n ∉ F.map (·.2)
  ms : m + cntB TO F = TO.length
theorem cnt_le_b (TO F : List (Str × Str)) : cntB TO F ≤ TO.length := List.length_filter_le _ _
theorem both_step {O TO F : List (Str × Str)} {i m : Nat} {n t : Str} (k1 : (TO.map (·.1)).Nodup) (k2 : (TO.map (·.2)).Nodup) (B : BWh O TO i m (some n) F) (hnt : (n, t) ∈ TO) :
    ∃ m', m' < m ∧ BWh O TO i m' (bif dcHasO TO (dcLook F t) then dcLook F t else none) (dcSet F t n) := by
  obtain ⟨hn1, hn2⟩ := B.nw n rfl
  have S := B.st
  have mem' : ∀ q ∈ dcSet F t n, q = (t, n) ∨ (q ∈ F ∧ q.1 ≠ t) := fun q hq => dcSet_mem hq
  have kN : ((dcSet F t n).map (·.1)).Nodup := by
    by_cases h : t ∈ F.map (·.1)
    · rw [dcSet_keys h]; exact S.k
    · rw [dcSet_new h, List.map_append, List.nodup_append]
      exact ⟨S.k, by simp, fun a ha b hb e => h (by have hb : b = t := List.mem_singleton.mp hb; rw [← hb, ← e]; exact ha)⟩
  have vN : ((dcSet F t n).map (·.2)).Nodup := nd_map (nd_ofmap kN) fun x hx y hy e => by
    rcases mem' x hx with rfl | ⟨hx, _⟩
    · rcases mem' y hy with rfl | ⟨hy, _⟩
      · rfl
      · exact absurd (List.mem_map.mpr ⟨y, hy, e.symm⟩) hn2
    · rcases mem' y hy with rfl | ⟨hy, _⟩
      · exact absurd (List.mem_map.mpr ⟨x, hx, e⟩) hn2
      · exact nd_inj S.v hx hy e
  have keep : ∀ c ∈ F.map (·.2), c ∈ (dcSet F t n).map (·.2) ∨ dcLook F t = some c := fun c hc => by
    obtain ⟨q, hq, rfl⟩ := List.mem_map.mp hc
    by_cases e : q.1 = t
    · right; rw [← e]; exact dcLook_in S.k hq
    · left; exact List.mem_map.mpr ⟨q, dcSet_stay hq e, rfl⟩
  have stN : BSt O TO (dcSet F t n) := by
    refine ⟨kN, vN, fun q hq => ?_, fun x hx => ?_⟩
    · rcases mem' q hq with rfl | ⟨hq, _⟩
      · exact .inr hnt
      · exact S.ed q hq
    · obtain ⟨q, hq, rfl⟩ := List.mem_map.mp (S.ks x hx)
      by_cases e : q.1 = t
      · exact List.mem_map.mpr ⟨(t, n), dcSet_here, e.symm⟩
      · exact List.mem_map.mpr ⟨q, dcSet_stay hq e, rfl⟩
  have cnt : cntB TO F < cntB TO (dcSet F t n) := by
    have h2 := mt_le (l := (n, t) :: TO.filter fun q => decide ((q.2, q.1) ∈ F)) (m := TO.filter fun q => decide ((q.2, q.1) ∈ dcSet F t n)) (List.nodup_cons.mpr ⟨fun hm => ?_, nd_fil _ (nd_ofmap k1)⟩) fun x hx => ?_
    · rw [List.length_cons] at h2; exact h2
    · exact hn2 (List.mem_map.mpr ⟨(t, n), of_decide_eq_true (List.mem_filter.mp hm).2, rfl⟩)
    · rcases List.mem_cons.mp hx with rfl | hx
      · exact List.mem_filter.mpr ⟨hnt, decide_eq_true dcSet_here⟩
      · obtain ⟨h1, h3⟩ := List.mem_filter.mp hx
        have h3 : (x.2, x.1) ∈ F := of_decide_eq_true h3
        refine List.mem_filter.mpr ⟨h1, decide_eq_true (dcSet_stay h3 fun e => ?_)⟩
        have e : x.2 = t := e
        have := nd_inj k2 h1 hnt e
        rw [this] at h3
        exact hn2 (List.mem_map.mpr ⟨_, h3, rfl⟩)
  have le := cnt_le_b TO (dcSet F t n)
  have ms := B.ms
  refine ⟨TO.length - cntB TO (dcSet F t n), by omega, stN, fun c hc => ?_, fun g hg => ?_, by omega⟩
  · rcases B.dn c hc with h | h
    · rcases keep c h with h | h
      · exact .inl h
      · right
        have : dcHasO TO (dcLook F t) = true := by rw [h]; exact dcHas_iff.mpr (List.mem_of_mem_take hc)
        rw [this]; exact h
    · have h : n = c := Option.some.inj h
      subst h
      exact .inl (List.mem_map.mpr ⟨_, dcSet_here, rfl⟩)
  · cases e : dcHasO TO (dcLook F t) with
    | false => rw [e] at hg; cases hg
    | true =>
      rw [e] at hg
      have hg : dcLook F t = some g := hg
      rw [hg] at e
      refine ⟨dcHas_iff.mp e, fun hm => ?_⟩
      have htg := dcLook_mem hg
      obtain ⟨q, hq, e2⟩ := List.mem_map.mp hm
      rcases mem' q hq with rfl | ⟨hq, hne⟩
      · exact hn2 (List.mem_map.mpr ⟨_, htg, e2.symm⟩)
      · have := nd_inj S.v hq htg e2
        exact hne (by rw [this])
/-! ### serve -/
structure ServeIs (S : Sch) (persons : List Str) (r : SrvV) : Prop where
  yes : ∀ l, r = .lot l → LotOk S l ∧ l.Pairwise (· < ·) ∧ Serves S l persons
  no : ∀ l, r = .lack l → ∃ nm, (nm = S.ts ∨ nm = S.cs) ∧ LackIs (partnersL S) (nm.filter fun p => decide (p ∈ persons)) l
/-- who lacks partners can't be served -/
theorem lack_core {S : Sch} (h : SchNew S) {l : List Str} {lot : List Nat} {nm : List Str} (hnm : nm = S.ts ∨ nm = S.cs) (lnd : l.Nodup) (inl : ∀ p ∈ l, p ∈ nm) (few : ∃ N : List Str, N.length < l.length ∧ ∀ p ∈ l, ∀ o ∈ partnersL S p, o ∈ N) (hl : LotOk S lot) (hs : Serves S lot l) : False := by
  obtain ⟨N, hN, hb⟩ := few
  have les : ∀ a ∈ lot, gt S.ps a ∈ S.ps := fun a ha => gt_mem (hl.lt a ha)
  rcases hnm with rfl | rfl
  · have A1 := mt_le (l := l) (m := (lot.filter fun a => decide ((gt S.ps a).1 ∈ l)).map fun a => (gt S.ps a).1) lnd fun p hp => by
      have h1 := inl p hp
      obtain ⟨a, ha, h3 | h3⟩ := hs p hp
      · exact List.mem_map.mpr ⟨a, List.mem_filter.mpr ⟨ha, decide_eq_true (h3 ▸ hp)⟩, h3.symm⟩
      · exact (ts_cs h h1 (h3 ▸ (h.ok.les _ (les a ha)).2)).elim
    have A2 := mt_le (l := (lot.filter fun a => decide ((gt S.ps a).1 ∈ l)).map fun a => (gt S.ps a).2) (m := N) (nd_filmap _ hl.d2) fun c hc => by
      obtain ⟨a, ha, rfl⟩ := List.mem_map.mp hc
      obtain ⟨h1, h2⟩ := List.mem_filter.mp ha
      exact hb _ (of_decide_eq_true h2) _ ((adj_t h (inl _ (of_decide_eq_true h2))).mpr (les a h1))
    rw [List.length_map] at A1 A2
    omega
  · have A1 := mt_le (l := l) (m := (lot.filter fun a => decide ((gt S.ps a).2 ∈ l)).map fun a => (gt S.ps a).2) lnd fun p hp => by
      have h1 := inl p hp
      obtain ⟨a, ha, h3 | h3⟩ := hs p hp
      · exact (ts_cs h (h3 ▸ (h.ok.les _ (les a ha)).1) h1).elim
      · exact List.mem_map.mpr ⟨a, List.mem_filter.mpr ⟨ha, decide_eq_true (h3 ▸ hp)⟩, h3.symm⟩
    have A2 := mt_le (l := (lot.filter fun a => decide ((gt S.ps a).2 ∈ l)).map fun a => (gt S.ps a).1) (m := N) (nd_filmap _ hl.d1) fun c hc => by
      obtain ⟨a, ha, rfl⟩ := List.mem_map.mp hc
      obtain ⟨h1, h2⟩ := List.mem_filter.mp ha
      exact hb _ (of_decide_eq_true h2) _ ((adj_c h (inl _ (of_decide_eq_true h2))).mpr (les a h1))
    rw [List.length_map] at A1 A2
    omega
theorem lack_nd {S : Sch} (h : SchNew S) {nb : Str → List Str} {persons l : List Str} {nm : List Str} (hnm : nm = S.ts ∨ nm = S.cs) (L : LackIs nb (nm.filter fun p => decide (p ∈ persons)) l) : l.Nodup ∧ ∀ p ∈ l, p ∈ nm ∧ p ∈ persons := by
  obtain ⟨z, e⟩ := L.sl
  refine ⟨?_, fun p hp => ?_⟩
  · rw [e]
    rcases hnm with rfl | rfl
    · exact nd_fil _ (nd_fil _ (ts_nd h))
    · exact nd_fil _ (nd_fil _ (cs_nd h))
  · rw [e] at hp
    have h1 := List.mem_filter.mp (List.mem_filter.mp hp).1
    exact ⟨h1.1, of_decide_eq_true h1.2⟩
theorem lack_no {S : Sch} (h : SchNew S) {persons l : List Str} {lot : List Nat} {nm : List Str} (hnm : nm = S.ts ∨ nm = S.cs) (L : LackIs (partnersL S) (nm.filter fun p => decide (p ∈ persons)) l) (hl : LotOk S lot) (hs : Serves S lot persons) : False :=
  lack_core h hnm (lack_nd h hnm L).1 (fun p hp => ((lack_nd h hnm L).2 p hp).1) L.few hl fun p hp => hs p ((lack_nd h hnm L).2 p hp).2
theorem serve_is {S : Sch} (h : SchNew S) {persons : List Str} (hp : ∀ p ∈ persons, p ∈ S.ts ++ S.cs) {M1 M2 r : List (Str × Str)} (m1 : Mt (partnersL S) M1) (o1 : ∀ t, t ∈ M1.map (·.2) ↔ t ∈ S.ts.filter fun p => decide (p ∈ persons)) (m2 : Mt (partnersL S) M2) (o2 : ∀ t, t ∈ M2.map (·.2) ↔ t ∈ S.cs.filter fun p => decide (p ∈ persons)) (B : BothIs M1 M2 r) :
    (∀ q ∈ r, q ∈ S.ps) ∧ ServeIs S persons (.lot (sortN (r.map fun q => lessonOf S q.1 q.2))) := by
  have hr : ∀ q ∈ r, q ∈ S.ps := fun q hq => by
    rcases B.ed q hq with hm | hm
    · have ht := (List.mem_filter.mp ((o1 q.1).mp (List.mem_map.mpr ⟨_, hm, rfl⟩))).1
      exact (adj_t h ht).mp (m1.ed _ hm)
    · have hc := (List.mem_filter.mp ((o2 q.2).mp (List.mem_map.mpr ⟨_, hm, rfl⟩))).1
      exact (adj_c h hc).mp (m2.ed _ hm)
  have L := lotOf h B.k B.v hr
  refine ⟨hr, fun l e => ?_, fun l e => by cases e⟩
  cases e
  refine ⟨L.ok, L.asc, fun p hpp => ?_⟩
  rcases List.mem_append.mp (hp p hpp) with ht | hc
  · obtain ⟨q, hq, rfl⟩ := List.mem_map.mp (B.ks p ((o1 p).mpr (List.mem_filter.mpr ⟨ht, decide_eq_true hpp⟩)))
    obtain ⟨a, ha, e⟩ := L.of q hq
    exact ⟨a, ha, .inl (by rw [e])⟩
  · obtain ⟨q, hq, rfl⟩ := List.mem_map.mp (B.vs p ((o2 p).mpr (List.mem_filter.mpr ⟨hc, decide_eq_true hpp⟩)))
    obtain ⟨a, ha, e⟩ := L.of q hq
    exact ⟨a, ha, .inr (by rw [e])⟩
/-- some lot serves them: so does serve's -/
theorem serve_lot {S : Sch} (h : SchNew S) {persons : List Str} {r : SrvV} (R : ServeIs S persons r) {lot : List Nat} (hl : LotOk S lot) (hs : Serves S lot persons) : ∃ l, r = .lot l ∧ LotOk S l ∧ l.Pairwise (· < ·) ∧ Serves S l persons := by
  cases r with
  | lot l => exact ⟨l, rfl, R.yes l rfl⟩
  | lack l =>
    obtain ⟨nm, hnm, L⟩ := R.no l rfl
    exact (lack_no h hnm L hl hs).elim
/-! ### lots against covers -/
def MostOf (S : Sch) (n : Nat) : Prop := ∃ lot cover, MostIs S lot cover ∧ n = lot.length
def pickC (S : Sch) (cover : List Str) (a : Nat) : Str := if (gt S.ps a).1 ∈ cover then (gt S.ps a).1 else (gt S.ps a).2
theorem pick_cover {S : Sch} (h : SchNew S) {lot : List Nat} {cover : List Str} (hl : LotOk S lot) (hc : ∀ q ∈ S.ps, q.1 ∈ cover ∨ q.2 ∈ cover) : (lot.map (pickC S cover)).Nodup ∧ ∀ a ∈ lot, pickC S cover a ∈ cover ∧ Meets1 S a (pickC S cover a) := by
  have les : ∀ a ∈ lot, gt S.ps a ∈ S.ps := fun a ha => gt_mem (hl.lt a ha)
  refine ⟨nd_map (nd_ofmap hl.d1) fun a ha b hb e => ?_, fun a ha => ?_⟩
  · unfold pickC at e
    split at e <;> split at e
    · exact nd_inj hl.d1 ha hb e
    · exact (ts_cs h (h.ok.les _ (les a ha)).1 (e ▸ (h.ok.les _ (les b hb)).2)).elim
    · exact (ts_cs h (h.ok.les _ (les b hb)).1 (e ▸ (h.ok.les _ (les a ha)).2)).elim
    · exact nd_inj hl.d2 ha hb e
  · unfold pickC
    split
    · exact ⟨by assumption, .inl rfl⟩
    · rename_i hn
      rcases hc _ (les a ha) with h1 | h1
      · exact absurd h1 hn
      · exact ⟨h1, .inr rfl⟩
theorem cover_le {S : Sch} (h : SchNew S) {lot : List Nat} {cover : List Str} (hl : LotOk S lot) (hc : ∀ q ∈ S.ps, q.1 ∈ cover ∨ q.2 ∈ cover) : lot.length ≤ cover.length := by
  obtain ⟨h1, h2⟩ := pick_cover h hl hc
  have := mt_le h1 fun x hx => by
    obtain ⟨a, ha, rfl⟩ := List.mem_map.mp hx
    exact (h2 a ha).1
  rw [List.length_map] at this; exact this
theorem cover_served {S : Sch} (h : SchNew S) {lot : List Nat} {cover : List Str} (m : MostIs S lot cover) : Serves S lot cover := fun p hp => by
  obtain ⟨h1, h2⟩ := pick_cover h m.ok m.cv
  by_cases hm : p ∈ lot.map (pickC S cover)
  · obtain ⟨a, ha, rfl⟩ := List.mem_map.mp hm
    exact ⟨a, ha, (h2 a ha).2⟩
  · have := mt_le (l := p :: lot.map (pickC S cover)) (m := cover) (List.nodup_cons.mpr ⟨hm, h1⟩) fun x hx => by
      rcases List.mem_cons.mp hx with rfl | hx
      · exact hp
      · obtain ⟨a, ha, rfl⟩ := List.mem_map.mp hx
        exact (h2 a ha).1
    rw [List.length_cons, List.length_map] at this
    have := m.ln
    omega
theorem sch_less {ts cs : List Str} {ps qs : List (Str × Str)} (h : SchNew ⟨ts, cs, ps⟩) (hl : qs.length ≤ 40) (hs : ∀ q ∈ qs, q ∈ ps) : SchNew ⟨ts, cs, qs⟩ :=
  ⟨⟨h.ok.t8, h.ok.c8, hl, h.ok.nm, fun x hx => h.ok.les x (hs x hx)⟩, h.t1, h.c1, h.nd⟩
theorem sch_fil {ts cs : List Str} {ps : List (Str × Str)} (p : Str × Str → Bool) (h : SchNew ⟨ts, cs, ps⟩) : SchNew ⟨ts, cs, ps.filter p⟩ :=
  sch_less h (Nat.le_trans (List.length_filter_le _ _) h.ok.p40) fun q hq => (List.mem_filter.mp hq).1
/-- one person less -/
theorem without {ts cs : List Str} {ps : List (Str × Str)} (h : SchNew ⟨ts, cs, ps⟩) {lot : List Nat} {cover : List Str} (m : MostIs ⟨ts, cs, ps⟩ lot cover) {p : Str} {n : Nat} (hn : MostOf ⟨ts, cs, ps.filter fun l => !decide (p ∈ ([l.1, l.2] : List Str))⟩ n) :
    n ≤ lot.length ∧ lot.length ≤ n + 1 ∧ (p ∈ cover → n + 1 ≤ lot.length) := by
  obtain ⟨lot', cover', m', rfl⟩ := hn
  have h' := sch_fil (fun l => !decide (p ∈ ([l.1, l.2] : List Str))) h
  have out : ∀ q ∈ ps.filter fun l => !decide (p ∈ ([l.1, l.2] : List Str)), q ∈ ps ∧ q.1 ≠ p ∧ q.2 ≠ p := fun q hq => by
    obtain ⟨h1, h2⟩ := List.mem_filter.mp hq
    have h2 : ¬ p ∈ ([q.1, q.2] : List Str) := nd_t h2
    exact ⟨h1, fun e => h2 (by rw [e]; simp), fun e => h2 (by rw [e]; simp)⟩
  refine ⟨?_, ?_, fun hp => ?_⟩
  · rw [← m.ln]
    exact cover_le h' m'.ok fun q hq => m.cv q (out q hq).1
  · rw [← m'.ln]
    have := cover_le h m.ok (cover := p :: cover') fun q hq => by
      by_cases e : p ∈ ([q.1, q.2] : List Str)
      · rcases (by simpa using e : p = q.1 ∨ p = q.2) with e | e
        · exact .inl (by rw [e]; exact List.mem_cons_self ..)
        · exact .inr (by rw [e]; exact List.mem_cons_self ..)
      · rcases m'.cv q (List.mem_filter.mpr ⟨hq, by rw [decide_eq_false e]; rfl⟩) with h1 | h1
        · exact .inl (List.mem_cons_of_mem _ h1)
        · exact .inr (List.mem_cons_of_mem _ h1)
    rw [List.length_cons] at this; exact this
  · have := cover_le h' m'.ok (cover := cover.erase p) fun q hq => by
      obtain ⟨h1, h2, h3⟩ := out q hq
      rcases m.cv q h1 with h4 | h4
      · exact .inl ((List.mem_erase_of_ne h2).mpr h4)
      · exact .inr ((List.mem_erase_of_ne h3).mpr h4)
    rw [List.length_erase_of_mem hp] at this
    have h5 := List.length_pos_of_mem hp
    have := m.ln
    omega
/-- the persons of a lot's lessons -/
def lotP (ps : List (Str × Str)) (lot : List Nat) : List Str := (lot.map fun a => [(gt ps a).1, (gt ps a).2]).flatten
theorem lotP_mem {ps : List (Str × Str)} {lot : List Nat} {p : Str} : p ∈ lotP ps lot ↔ ∃ a ∈ lot, p = (gt ps a).1 ∨ p = (gt ps a).2 := by
  unfold lotP
  rw [List.mem_flatten]
  constructor
  · rintro ⟨l, hl, hp⟩
    obtain ⟨a, ha, rfl⟩ := List.mem_map.mp hl
    exact ⟨a, ha, by simpa using hp⟩
  · rintro ⟨a, ha, hp⟩
    exact ⟨_, List.mem_map.mpr ⟨a, ha, rfl⟩, by simpa using hp⟩
theorem lotP_len (ps : List (Str × Str)) (lot : List Nat) : (lotP ps lot).length = 2 * lot.length := by
  unfold lotP
  induction lot with
  | nil => rfl
  | cons a r ih => rw [List.map_cons, List.flatten_cons, List.length_append, ih]; simp; omega
theorem cover_16 {S : Sch} (h : SchNew S) {l : List Str} (nd : l.Nodup) (hp : ∀ p ∈ l, p ∈ S.ts ++ S.cs) : l.length ≤ 16 := by
  have := mt_le nd hp
  rw [List.length_append] at this
  have := h.ok.t8; have := h.ok.c8
  omega
section
variable {X : Cx} {W : Wd} {G : List (Option D)} {C : Cells} {k : KD}
/-- a comprehension whose test changes objects -/
theorem C_lcIF {x : Str} {p' : Pos} {elt c iter : Expr} {scope : Scope} (j : Nat) (own : List (Str × Nat)) (nd : X.N.Nodup) (hc : X.calm = true)
    (h : wI X W (.Name x p') iter G C fun ds C1 => ∃ (α : Type) (l : List α) (g : α → D) (Iv : Nat → List D → Cells → Prop), ds = l.map g ∧ l.length ≤ 100000 ∧ Iv 0 [] C1 ∧
      (∀ i y acc C', l[i]? = some y → y ∈ l → i < l.length → Iv i acc C' → ∀ (W : Wd) (s : Shared) (H : Hp) (Cl : Addr) (cl : List (Str × Addr)) (fp : List Addr), wT (blkX X s H scope Cl cl fp) W c ((wipeG G (own.map (·.2))).set j (some (g y))) C' fun t C2 =>
        (t = true → ∀ (s : Shared) (H : Hp) (Cl : Addr) (cl : List (Str × Addr)) (fp : List Addr), wE (blkX X s H scope Cl cl fp) W elt ((wipeG G (own.map (·.2))).set j (some (g y))) C2 fun d C3 => Iv (i + 1) (acc ++ [d]) C3) ∧ (t = false → Iv (i + 1) acc C2)) ∧
      (∀ acc C', Iv l.length acc C' → k (.lst acc) C'))
    (ok : BlkOk X.N X.env.scope scope own := by exact blkOk_by (by kernel_rfl)) (hj : j ∈ own.map (·.2) := by decide)
    (hgp : ∀ (s : Shared) (H : Hp) (Cl : Addr) (cl : List (Str × Addr)) (fp : List Addr), PG (blkX X s H scope Cl cl fp) (.Name x p') (gName j) := by exact fun _ _ _ _ _ => pg_name (by assumption) rfl (Or.inl rfl))
    (hf : ∀ x, foldedSetIterable iter X.env x = pure x := by intro _; rfl) : wC X W elt (.Name x p') iter [c] scope G C k := by
  refine C_lc j own nd hc (fun σ P H R gd z => h σ P H R gd fun ds C1 P' H' J n gv e => z ds C1 P' H' J n gv ?_) ok hj hgp hf
  obtain ⟨α, l, g, Iv, rfl, hz, i0, is, id⟩ := e
  refine ⟨by rw [List.length_map]; exact hz, Iv, i0, fun i d acc C' hd iv => ?_, fun acc C' iv => id acc C' (by rw [List.length_map] at iv; exact iv)⟩
  obtain ⟨y, hy, ym, rfl⟩ := get_map hd
  intro W' s H Cl cl fp
  exact wIf_one (is i y acc C' hy ym (List.getElem?_eq_some_iff.mp hy).1 iv W' s H Cl cl fp)
end
end EW

/-! Who can be served: subsets, largest loads, exhaustive search. -/
namespace EW
open PySem PySem.Spec PyProof.Rows L2
/-- some lot serves them -/
def Srv (S : Sch) (persons : List Str) : Prop := ∃ lot, LotOk S lot ∧ Serves S lot persons
theorem Srv.sub {S : Sch} {a b : List Str} (h : Srv S b) (hs : ∀ p ∈ a, p ∈ b) : Srv S a := by
  obtain ⟨lot, h1, h2⟩ := h
  exact ⟨lot, h1, fun p hp => h2 p (hs p hp)⟩
theorem srv_iff {S : Sch} (h : SchNew S) {persons : List Str} {r : SrvV} (R : ServeIs S persons r) : srvK r = "lot" ↔ Srv S persons := by
  constructor
  · intro e
    cases r with
    | lack l => exact absurd e (show ¬ ("lack" : Str) = "lot" by decide)
    | lot l => obtain ⟨h1, _, h2⟩ := R.yes l rfl; exact ⟨l, h1, h2⟩
  · rintro ⟨lot, h1, h2⟩
    obtain ⟨l, rfl, _⟩ := serve_lot h R h1 h2
    rfl
theorem lack_sub {nb : Str → List Str} {P l : List Str} (L : LackIs nb P l) : ∀ p ∈ l, p ∈ P := fun p hp => by
  obtain ⟨z, e⟩ := L.sl
  rw [e] at hp
  exact (List.mem_filter.mp hp).1
/-- who lack partners are not served -/
theorem lack_no2 {S : Sch} (h : SchNew S) {persons l : List Str} {nm : List Str} (hnm : nm = S.ts ∨ nm = S.cs) (L : LackIs (partnersL S) (nm.filter fun p => decide (p ∈ persons)) l) : ¬ Srv S l := fun ⟨lot, hl, hs⟩ =>
  lack_core h hnm (lack_nd h hnm L).1 (fun p hp => ((lack_nd h hnm L).2 p hp).1) L.few hl hs
/-- the teachers and the classes alone: both at once -/
theorem srv_both {S : Sch} (h : SchNew S) {ours theirs : List Str} (ho : ∀ p ∈ ours, p ∈ S.ts) (ht : ∀ p ∈ theirs, p ∈ S.cs) {r : SrvV} (R : ServeIs S (ours ++ theirs) r) : Srv S (ours ++ theirs) ↔ Srv S ours ∧ Srv S theirs := by
  refine ⟨fun q => ⟨q.sub fun p hp => List.mem_append_left _ hp, q.sub fun p hp => List.mem_append_right _ hp⟩, fun ⟨q1, q2⟩ => ?_⟩
  cases r with
  | lot l => obtain ⟨h1, _, h2⟩ := R.yes l rfl; exact ⟨l, h1, h2⟩
  | lack l =>
    obtain ⟨nm, hnm, L⟩ := R.no l rfl
    have inl := lack_sub L
    refine (lack_no2 h hnm L ?_).elim
    rcases hnm with rfl | rfl
    · refine q1.sub fun p hp => ?_
      obtain ⟨h1, h2⟩ := List.mem_filter.mp (inl p hp)
      rcases List.mem_append.mp (of_decide_eq_true h2) with h3 | h3
      · exact h3
      · exact (ts_cs h h1 (ht p h3)).elim
    · refine q2.sub fun p hp => ?_
      obtain ⟨h1, h2⟩ := List.mem_filter.mp (inl p hp)
      rcases List.mem_append.mp (of_decide_eq_true h2) with h3 | h3
      · exact (ts_cs h (ho p h3) h1).elim
      · exact h3
/-! ### the busiest -/
theorem fil_cons {α : Type} {p : α → Bool} {x : α} {l : List α} : ((x :: l).filter p).length = (bif p x then 1 else 0) + (l.filter p).length := by
  cases h : p x
  · rw [List.filter_cons_of_neg (by rw [h]; decide)]; simp
  · rw [List.filter_cons_of_pos h, List.length_cons]; simp; omega
theorem fil_low {α : Type} (f : α → Str) (d : Nat) (ps : List α) : ∀ l : List Str, l.Nodup → (∀ t ∈ l, d ≤ (ps.filter fun q => decide (f q = t)).length) → d * l.length ≤ (ps.filter fun q => decide (f q ∈ l)).length
  | [], _, _ => Nat.zero_le _
  | t :: l, nd, h => by
    rw [List.nodup_cons] at nd
    have ih := fil_low f d ps l nd.2 fun x hx => h x (List.mem_cons_of_mem _ hx)
    have h1 := h t (List.mem_cons_self ..)
    have key : (ps.filter fun q => decide (f q = t)).length + (ps.filter fun q => decide (f q ∈ l)).length ≤ (ps.filter fun q => decide (f q ∈ t :: l)).length := by
      clear h1 ih h
      induction ps with
      | nil => exact Nat.le_refl _
      | cons q r ih =>
        rw [fil_cons, fil_cons, fil_cons]
        by_cases e : f q = t
        · have b1 : decide (f q = t) = true := decide_eq_true e
          have b2 : decide (f q ∈ l) = false := decide_eq_false fun hm => nd.1 (e ▸ hm)
          have b3 : decide (f q ∈ t :: l) = true := decide_eq_true (by rw [e]; exact List.mem_cons_self ..)
          simp only [b1, b2, b3, cond_true, cond_false]; omega
        · have b1 : decide (f q = t) = false := decide_eq_false e
          by_cases m : f q ∈ l
          · have b2 : decide (f q ∈ l) = true := decide_eq_true m
            have b3 : decide (f q ∈ t :: l) = true := decide_eq_true (List.mem_cons_of_mem _ m)
            simp only [b1, b2, b3, cond_true, cond_false]; omega
          · have b2 : decide (f q ∈ l) = false := decide_eq_false m
            simp only [b1, b2, cond_false]; omega
    rw [List.length_cons, Nat.mul_add, Nat.mul_one]; omega
theorem fil_up {α : Type} (f : α → Str) (d : Nat) (ps : List α) : ∀ l : List Str, (∀ t ∈ l, (ps.filter fun q => decide (f q = t)).length ≤ d) → (ps.filter fun q => decide (f q ∈ l)).length ≤ d * l.length
  | [], _ => by
    have : (ps.filter fun q => decide (f q ∈ ([] : List Str))) = [] := List.filter_eq_nil_iff.mpr fun q _ => by simp
    rw [this]; exact Nat.le_refl _
  | t :: l, h => by
    have ih := fil_up f d ps l fun x hx => h x (List.mem_cons_of_mem _ hx)
    have h1 := h t (List.mem_cons_self ..)
    have key : (ps.filter fun q => decide (f q ∈ t :: l)).length ≤ (ps.filter fun q => decide (f q = t)).length + (ps.filter fun q => decide (f q ∈ l)).length := by
      clear h1 ih h
      induction ps with
      | nil => exact Nat.le_refl _
      | cons q r ih =>
        rw [fil_cons, fil_cons, fil_cons]
        by_cases e : f q = t
        · have b1 : decide (f q = t) = true := decide_eq_true e
          have b3 : decide (f q ∈ t :: l) = true := decide_eq_true (by rw [e]; exact List.mem_cons_self ..)
          simp only [b1, b3, cond_true]; omega
        · by_cases m : f q ∈ l
          · have b2 : decide (f q ∈ l) = true := decide_eq_true m
            have b3 : decide (f q ∈ t :: l) = true := decide_eq_true (List.mem_cons_of_mem _ m)
            simp only [b2, b3, cond_true]; omega
          · have b3 : decide (f q ∈ t :: l) = false := decide_eq_false fun hm => by
              rcases List.mem_cons.mp hm with hm | hm
              · exact e hm
              · exact m hm
            simp only [b3, cond_false]; omega
    rw [List.length_cons, Nat.mul_add, Nat.mul_one]; omega
theorem fil_mono {α : Type} {p q : α → Bool} : ∀ {l : List α}, (∀ x ∈ l, p x = true → q x = true) → (l.filter p).length ≤ (l.filter q).length
  | [], _ => Nat.le_refl _
  | x :: l, h => by
    have ih := fil_mono (p := p) (q := q) (l := l) fun y hy => h y (List.mem_cons_of_mem _ hy)
    by_cases e : p x = true
    · rw [List.filter_cons_of_pos e, List.filter_cons_of_pos (h x (List.mem_cons_self ..) e)]
      simp only [List.length_cons]; omega
    · rw [List.filter_cons_of_neg e]
      by_cases e2 : q x = true
      · rw [List.filter_cons_of_pos e2]; simp only [List.length_cons]; omega
      · rw [List.filter_cons_of_neg e2]; exact ih
theorem load_t {S : Sch} (h : SchNew S) {t : Str} (ht : t ∈ S.ts) : (numsOf S.ps t).length = (S.ps.filter fun q => decide (q.1 = t)).length := by
  rw [nums_len]
  congr 1
  refine List.filter_congr fun q hq => ?_
  have hc := (h.ok.les q hq).2
  have n : ¬ t = q.2 := fun e => ts_cs h ht (e ▸ hc)
  refine decide_eq_decide.mpr ⟨fun hm => ?_, fun e => by rw [e]; simp⟩
  rcases (by simpa using hm : t = q.1 ∨ t = q.2) with e | e
  · exact e.symm
  · exact absurd e n
theorem load_c {S : Sch} (h : SchNew S) {c : Str} (hc : c ∈ S.cs) : (numsOf S.ps c).length = (S.ps.filter fun q => decide (q.2 = c)).length := by
  rw [nums_len]
  congr 1
  refine List.filter_congr fun q hq => ?_
  have ht := (h.ok.les q hq).1
  have n : ¬ c = q.1 := fun e => ts_cs h (e ▸ ht) hc
  refine decide_eq_decide.mpr ⟨fun hm => ?_, fun e => by rw [e]; simp⟩
  rcases (by simpa using hm : c = q.1 ∨ c = q.2) with e | e
  · exact absurd e n
  · exact e.symm
theorem le_most {S : Sch} {p : Str} (hp : p ∈ S.ts ++ S.cs) : (numsOf S.ps p).length ≤ mostLoad S := le_maxN (List.mem_map.mpr ⟨p, hp, rfl⟩)
/-- persons of the largest load are served -/
theorem busy_srv {S : Sch} (h : SchNew S) {d : Nat} {persons : List Str} (hm : ∀ p ∈ S.ts ++ S.cs, (numsOf S.ps p).length ≤ d) (h0 : 0 < d) (hp : ∀ p ∈ persons, p ∈ S.ts ++ S.cs ∧ (numsOf S.ps p).length = d) {r : SrvV} (R : ServeIs S persons r) : Srv S persons := by
  cases r with
  | lot l => obtain ⟨h1, _, h2⟩ := R.yes l rfl; exact ⟨l, h1, h2⟩
  | lack l =>
    obtain ⟨nm, hnm, L⟩ := R.no l rfl
    exfalso
    have inl : ∀ p ∈ l, p ∈ nm ∧ p ∈ persons := fun p hp => by
      obtain ⟨h1, h2⟩ := List.mem_filter.mp (lack_sub L p hp)
      exact ⟨h1, of_decide_eq_true h2⟩
    obtain ⟨N, hN, hb⟩ := L.few
    have ndl : nm.Nodup → l.Nodup := fun nd => by
      obtain ⟨z, e⟩ := L.sl
      rw [e]; exact nd_fil _ (nd_fil _ nd)
    rcases hnm with rfl | rfl
    · have A := fil_low (fun q : Str × Str => q.1) d S.ps l (ndl (ts_nd h)) fun t ht => by
        rw [← load_t h (inl t ht).1, (hp t (inl t ht).2).2]; exact Nat.le_refl _
      have B := fil_up (fun q : Str × Str => q.2) d S.ps N fun c hc => by
        by_cases hcs : c ∈ S.cs
        · rw [← load_c h hcs]; exact hm c (List.mem_append_right _ hcs)
        · have : (S.ps.filter fun q => decide (q.2 = c)) = [] := List.filter_eq_nil_iff.mpr fun q hq z => hcs (of_decide_eq_true z ▸ (h.ok.les q hq).2)
          rw [this]; exact Nat.zero_le _
      have C := fil_mono (p := fun q : Str × Str => decide (q.1 ∈ l)) (q := fun q => decide (q.2 ∈ N)) (l := S.ps) fun q hq e => by
        have e : q.1 ∈ l := of_decide_eq_true e
        exact decide_eq_true (hb q.1 e q.2 ((adj_t h (inl _ e).1).mpr hq))
      have := Nat.le_of_mul_le_mul_left (Nat.le_trans A (Nat.le_trans C B)) h0
      omega
    · have A := fil_low (fun q : Str × Str => q.2) d S.ps l (ndl (cs_nd h)) fun t ht => by
        rw [← load_c h (inl t ht).1, (hp t (inl t ht).2).2]; exact Nat.le_refl _
      have B := fil_up (fun q : Str × Str => q.1) d S.ps N fun c hc => by
        by_cases hcs : c ∈ S.ts
        · rw [← load_t h hcs]; exact hm c (List.mem_append_left _ hcs)
        · have : (S.ps.filter fun q => decide (q.1 = c)) = [] := List.filter_eq_nil_iff.mpr fun q hq z => hcs (of_decide_eq_true z ▸ (h.ok.les q hq).1)
          rw [this]; exact Nat.zero_le _
      have C := fil_mono (p := fun q : Str × Str => decide (q.2 ∈ l)) (q := fun q => decide (q.1 ∈ N)) (l := S.ps) fun q hq e => by
        have e : q.2 ∈ l := of_decide_eq_true e
        exact decide_eq_true (hb q.2 e q.1 ((adj_c h (inl _ e).1).mpr hq))
      have := Nat.le_of_mul_le_mul_left (Nat.le_trans A (Nat.le_trans C B)) h0
      omega
/-! ### lots as ascending lists of numbers, one by one -/
structure IxLot (ps : List (Str × Str)) (i : Nat) (I : List Nat) : Prop where
  asc : I.Pairwise (· < ·)
  lt : ∀ a ∈ I, a < i
  ap : ∀ a ∈ I, ∀ b ∈ I, a < b → (gt ps b).1 ≠ (gt ps a).1 ∧ (gt ps b).1 ≠ (gt ps a).2 ∧ (gt ps b).2 ≠ (gt ps a).1 ∧ (gt ps b).2 ≠ (gt ps a).2
def LotsAt (ps : List (Str × Str)) (i : Nat) (lots : List (List Str)) : Prop := ∀ L, L ∈ lots ↔ ∃ I, IxLot ps i I ∧ L = lotP ps I
theorem ix_nil {ps : List (Str × Str)} {i : Nat} : IxLot ps i [] := ⟨List.Pairwise.nil, fun a ha => (by cases ha), fun a ha => (by cases ha)⟩
theorem lots_0 {ps : List (Str × Str)} : LotsAt ps 0 [[]] := fun L => by
  rw [List.mem_singleton]
  constructor
  · intro e; exact ⟨[], ix_nil, by rw [e]; rfl⟩
  · rintro ⟨I, h, rfl⟩
    cases I with
    | nil => rfl
    | cons a r => exact absurd (h.lt a (List.mem_cons_self ..)) (Nat.not_lt_zero _)
theorem lotP_app (ps : List (Str × Str)) (I : List Nat) (i : Nat) : lotP ps (I ++ [i]) = lotP ps I ++ [(gt ps i).1, (gt ps i).2] := by
  unfold lotP
  rw [List.map_append, List.flatten_append]; rfl
theorem ix_last {ps : List (Str × Str)} {i : Nat} {I : List Nat} (h : IxLot ps (i + 1) I) : IxLot ps i I ∨ ∃ I', I = I' ++ [i] ∧ IxLot ps i I' := by
  by_cases hi : i ∈ I
  · right
    rcases List.eq_nil_or_concat I with e | ⟨I', b, e⟩
    · rw [e] at hi; cases hi
    · rw [List.concat_eq_append] at e
      have asc := h.asc
      rw [e, List.pairwise_append] at asc
      have hb : b < i + 1 := h.lt b (by rw [e]; simp)
      have eb : b = i := by
        rw [e] at hi
        rcases List.mem_append.mp hi with hi | hi
        · have := asc.2.2 i hi b (by simp); omega
        · exact (List.mem_singleton.mp hi).symm
      subst eb
      refine ⟨I', e, asc.1, fun a ha => asc.2.2 a ha b (by simp), fun a ha c hc => h.ap a (by rw [e]; exact List.mem_append_left _ ha) c (by rw [e]; exact List.mem_append_left _ hc)⟩
  · left
    exact ⟨h.asc, fun a ha => by have := h.lt a ha; have : a ≠ i := fun e => hi (e ▸ ha); omega, h.ap⟩
theorem ix_more {ps : List (Str × Str)} {i : Nat} {I : List Nat} (h : IxLot ps i I) : IxLot ps (i + 1) I := ⟨h.asc, fun a ha => Nat.lt_succ_of_lt (h.lt a ha), h.ap⟩
theorem ix_next {ps : List (Str × Str)} {i : Nat} {I : List Nat} (h : IxLot ps i I) : IxLot ps (i + 1) (I ++ [i]) ↔ (gt ps i).1 ∉ lotP ps I ∧ (gt ps i).2 ∉ lotP ps I := by
  constructor
  · intro h2
    refine ⟨fun hm => ?_, fun hm => ?_⟩
    · obtain ⟨a, ha, e⟩ := lotP_mem.mp hm
      have := h2.ap a (List.mem_append_left _ ha) i (by simp) (h.lt a ha)
      rcases e with e | e
      · exact this.1 e
      · exact this.2.1 e
    · obtain ⟨a, ha, e⟩ := lotP_mem.mp hm
      have := h2.ap a (List.mem_append_left _ ha) i (by simp) (h.lt a ha)
      rcases e with e | e
      · exact this.2.2.1 e
      · exact this.2.2.2 e
  · rintro ⟨n1, n2⟩
    refine ⟨?_, fun a ha => ?_, fun a ha b hb hab => ?_⟩
    · rw [List.pairwise_append]
      exact ⟨h.asc, by simp, fun a ha b hb => by rw [List.mem_singleton.mp hb]; exact h.lt a ha⟩
    · rcases List.mem_append.mp ha with ha | ha
      · exact Nat.lt_succ_of_lt (h.lt a ha)
      · rw [List.mem_singleton.mp ha]; exact Nat.lt_succ_self _
    · rcases List.mem_append.mp hb with hb | hb
      · have lb := h.lt b hb
        rcases List.mem_append.mp ha with ha | ha
        · exact h.ap a ha b hb hab
        · rw [List.mem_singleton.mp ha] at hab; omega
      · have eb := List.mem_singleton.mp hb
        subst eb
        rcases List.mem_append.mp ha with ha | ha
        · exact ⟨fun e => n1 (lotP_mem.mpr ⟨a, ha, .inl e⟩), fun e => n1 (lotP_mem.mpr ⟨a, ha, .inr e⟩), fun e => n2 (lotP_mem.mpr ⟨a, ha, .inl e⟩), fun e => n2 (lotP_mem.mpr ⟨a, ha, .inr e⟩)⟩
        · rw [List.mem_singleton.mp ha] at hab; omega
def lotsNext (lots : List (List Str)) (y : Str × Str) : List (List Str) := lots ++ ((lots.filter fun l => ((!decide (y.1 ∈ l)) && (!decide (y.2 ∈ l)))).map fun l => l ++ ([y.1, y.2] : List Str))
theorem lots_next {ps : List (Str × Str)} {i : Nat} {lots : List (List Str)} {y : Str × Str} (h : LotsAt ps i lots) (hy : ps[i]? = some y) : LotsAt ps (i + 1) (lotsNext lots y) := fun L => by
  have eg : gt ps i = y := gt_of hy
  unfold lotsNext
  rw [List.mem_append, h L, List.mem_map]
  constructor
  · rintro (⟨I, hI, e⟩ | ⟨L', hL, e⟩)
    · exact ⟨I, ix_more hI, e⟩
    · obtain ⟨h1, h2⟩ := List.mem_filter.mp hL
      obtain ⟨n1, n2⟩ := and_t h2
      obtain ⟨I, hI, rfl⟩ := (h L').mp h1
      exact ⟨I ++ [i], (ix_next hI).mpr (by rw [eg]; exact ⟨nd_t n1, nd_t n2⟩), by rw [lotP_app, eg]; exact e.symm⟩
  · rintro ⟨I, hI, rfl⟩
    rcases ix_last hI with h1 | ⟨I', rfl, h1⟩
    · exact .inl ⟨I, h1, rfl⟩
    · obtain ⟨n1, n2⟩ := (ix_next h1).mp hI
      rw [eg] at n1 n2
      refine .inr ⟨lotP ps I', List.mem_filter.mpr ⟨(h _).mpr ⟨I', h1, rfl⟩, ?_⟩, by rw [lotP_app, eg]⟩
      rw [decide_eq_false n1, decide_eq_false n2]; rfl
theorem lotsNext_len {lots : List (List Str)} {y : Str × Str} : (lotsNext lots y).length ≤ 2 * lots.length := by
  unfold lotsNext
  rw [List.length_append, List.length_map]
  have := List.length_filter_le (fun l => ((!decide (y.1 ∈ l)) && (!decide (y.2 ∈ l)))) lots
  omega
theorem asc_len {I : List Nat} {i : Nat} (asc : I.Pairwise (· < ·)) (lt : ∀ a ∈ I, a < i) : I.length ≤ i :=
  mem_len (by rw [List.nodup_iff_pairwise_ne]; exact asc.imp fun h => Nat.ne_of_lt h) lt
/-- an ascending list of lessons without common persons is a lot, and the other way round -/
theorem ix_lot {S : Sch} (h : SchNew S) {I : List Nat} : IxLot S.ps S.ps.length I ↔ LotOk S I ∧ I.Pairwise (· < ·) := by
  constructor
  · intro x
    have nd : I.Nodup := by rw [List.nodup_iff_pairwise_ne]; exact x.asc.imp fun h => Nat.ne_of_lt h
    refine ⟨⟨x.lt, nd_map nd fun a ha b hb e => ?_, nd_map nd fun a ha b hb e => ?_⟩, x.asc⟩
    · rcases Nat.lt_trichotomy a b with hab | hab | hab
      · exact absurd e.symm (x.ap a ha b hb hab).1
      · exact hab
      · exact absurd e (x.ap b hb a ha hab).1
    · rcases Nat.lt_trichotomy a b with hab | hab | hab
      · exact absurd e.symm (x.ap a ha b hb hab).2.2.2
      · exact hab
      · exact absurd e (x.ap b hb a ha hab).2.2.2
  · rintro ⟨l, asc⟩
    have les : ∀ a ∈ I, (gt S.ps a).1 ∈ S.ts ∧ (gt S.ps a).2 ∈ S.cs := fun a ha => h.ok.les _ (gt_mem (l.lt a ha))
    refine ⟨asc, l.lt, fun a ha b hb hab => ⟨fun e => ?_, fun e => ?_, fun e => ?_, fun e => ?_⟩⟩
    · have := nd_inj l.d1 ha hb e.symm; omega
    · exact ts_cs h (les b hb).1 (e ▸ (les a ha).2)
    · exact ts_cs h (les a ha).1 (e ▸ (les b hb).2)
    · have := nd_inj l.d2 ha hb e.symm; omega
theorem LotOk.perm {S : Sch} {l m : List Nat} (h : LotOk S l) (p : l.Perm m) : LotOk S m :=
  ⟨fun a ha => h.lt a (p.mem_iff.mpr ha), (p.map _).nodup_iff.mp h.d1, (p.map _).nodup_iff.mp h.d2⟩
theorem LotOk.sort {S : Sch} (hS : SchNew S) {l : List Nat} (h : LotOk S l) : IxLot S.ps S.ps.length (sortN l) := (ix_lot hS).mpr ⟨h.perm (sortN_perm l).symm, sortN_asc (nd_ofmap h.d1)⟩
def AnyServes (ps : List (Str × Str)) (persons : List Str) : Prop := ∃ I, IxLot ps ps.length I ∧ ∀ p ∈ persons, p ∈ lotP ps I
theorem any_srv {S : Sch} (h : SchNew S) {persons : List Str} : AnyServes S.ps persons ↔ Srv S persons := by
  constructor
  · rintro ⟨I, hI, hp⟩
    exact ⟨I, ((ix_lot h).mp hI).1, fun p hpp => lotP_mem.mp (hp p hpp)⟩
  · rintro ⟨lot, hl, hs⟩
    refine ⟨sortN lot, hl.sort h, fun p hp => ?_⟩
    obtain ⟨a, ha, e⟩ := hs p hp
    exact lotP_mem.mpr ⟨a, sortN_mem.mpr ha, e⟩
theorem lotP_nd {S : Sch} (h : SchNew S) {lot : List Nat} (hl : LotOk S lot) : (lotP S.ps lot).Nodup := by
  have key : ∀ l : List Nat, (∀ a ∈ l, a ∈ lot) → (l.map fun a => (gt S.ps a).1).Nodup → (l.map fun a => (gt S.ps a).2).Nodup → (lotP S.ps l).Nodup := fun l => by
    induction l with
    | nil => intro _ _ _; exact List.nodup_nil
    | cons a r ih =>
      intro hm n1 n2
      rw [List.map_cons, List.nodup_cons] at n1 n2
      have les : ∀ b ∈ a :: r, (gt S.ps b).1 ∈ S.ts ∧ (gt S.ps b).2 ∈ S.cs := fun b hb => h.ok.les _ (gt_mem (hl.lt b (hm b hb)))
      have la := les a (List.mem_cons_self ..)
      have e : lotP S.ps (a :: r) = (gt S.ps a).1 :: (gt S.ps a).2 :: lotP S.ps r := rfl
      rw [e, List.nodup_cons, List.nodup_cons]
      refine ⟨fun hx => ?_, fun hx => ?_, ih (fun b hb => hm b (List.mem_cons_of_mem _ hb)) n1.2 n2.2⟩
      · rcases List.mem_cons.mp hx with hx | hx
        · exact ts_cs h la.1 (hx ▸ la.2)
        · obtain ⟨b, hb, e | e⟩ := lotP_mem.mp hx
          · exact n1.1 (List.mem_map.mpr ⟨b, hb, e.symm⟩)
          · exact ts_cs h la.1 (e ▸ (les b (List.mem_cons_of_mem _ hb)).2)
      · obtain ⟨b, hb, e | e⟩ := lotP_mem.mp hx
        · exact ts_cs h (les b (List.mem_cons_of_mem _ hb)).1 (e ▸ la.2)
        · exact n2.1 (List.mem_map.mpr ⟨b, hb, e.symm⟩)
  exact key lot (fun a ha => ha) hl.d1 hl.d2
theorem okS_names2 {l : List (List Str)} (h : ∀ x ∈ l, x.length ≤ 100 ∧ ∀ y ∈ x, isNameS y = true) (hl : l.length ≤ 600) : Ok (lsE (lsE D.str) l) :=
  ok_of (fd_ls (m := 600) (fun x hx => fd_ls (m := 100) (fun y hy => fdS_name ((h x hx).2 y hy)) (h x hx).1) hl) (by decide) (by decide)
end EW

/-! Comprehensions of two clauses; sets of texts. -/
namespace EW
open PySem PySem.Spec PyProof.Rows L2
def lcI (X : Cx) (scope : Scope) (tg iter : Expr) : TI := fun σ H R => ∀ (s : Shared) (H0 : Hp) (Cl : Addr) (cl : List (Str × Addr)) (fp : List Addr), semI (blkX X s H0 scope Cl cl fp) tg iter σ H R
theorem tYes_if {σ : L2.St} {H : Hp} {A B : Hp → Prop} (h : A H) : tYes σ H fun b H3 => if b = true then A H3 else B H3 := by
  show (if true = true then A H else B H)
  rw [if_pos rfl]; exact h
theorem flat_pre {α γ : Type} (F : α → List γ) {l : List α} {i : Nat} {y : α} (hy : l[i]? = some y) (k : List γ) (hk : k.length ≤ (F y).length) : ((l.take i).flatMap F ++ k).length ≤ (l.flatMap F).length := by
  have e : (l.take (i + 1)).flatMap F = (l.take i).flatMap F ++ F y := by rw [List.take_add_one, hy, List.flatMap_append]; simp
  have e2 : l.flatMap F = (l.take (i + 1)).flatMap F ++ (l.drop (i + 1)).flatMap F := by rw [← List.flatMap_append, List.take_append_drop]
  rw [e2, e]
  simp only [List.length_append]
  omega
section
variable {X : Cx} {W : Wd} {G : List (Option D)} {C : Cells} {pos : Pos}
theorem p_lc2 {x x1 : Str} {p' p1' : Pos} {elt iter iter1 : Expr} {scope : Scope} {α β γ : Type} {l : List α} {g : α → D} {l1 : α → List β} {g1 : β → D} (f : α → β → γ) (fe : γ → D) (j j1 : Nat) (own : List (Str × Nat)) (vs1 : List Nat) (nd : X.N.Nodup) (hc : X.calm = true)
    (hi : pi X W (.Name x p') iter G C l g) (hz : (l.flatMap fun y => (l1 y).map (f y)).length ≤ 100000)
    (h1 : ∀ y ∈ l, ∀ (W : Wd) (s : Shared) (H : Hp) (Cl : Addr) (cl : List (Str × Addr)) (fp : List Addr), pi (blkX X s H scope Cl cl fp) W (.Name x1 p1') iter1 ((wipeG G (own.map (·.2))).set j (some (g y))) C (l1 y) g1)
    (he : ∀ y ∈ l, ∀ z ∈ l1 y, ∀ (W : Wd) (s : Shared) (H : Hp) (Cl : Addr) (cl : List (Str × Addr)) (fp : List Addr), pv (blkX X s H scope Cl cl fp) W elt ((wipeG ((wipeG G (own.map (·.2))).set j (some (g y))) vs1).set j1 (some (g1 z))) C (fe (f y z)))
    (ok : BlkOk X.N X.env.scope scope own := by exact blkOk_by (by kernel_rfl)) (hj : j ∈ own.map (·.2) := by decide) (hv : ∀ i ∈ vs1, i ∈ own.map (·.2) := by decide) (hj1 : j1 ∈ vs1 := by decide)
    (hgp : ∀ (s : Shared) (H : Hp) (Cl : Addr) (cl : List (Str × Addr)) (fp : List Addr), PG (blkX X s H scope Cl cl fp) (.Name x p') (gName j) := by exact fun _ _ _ _ _ => pg_name (by assumption) rfl (by first | exact Or.inl rfl | exact Or.inr rfl))
    (hgp1 : ∀ (s : Shared) (H : Hp) (Cl : Addr) (cl : List (Str × Addr)) (fp : List Addr), PG (blkX X s H scope Cl cl fp) (.Name x1 p1') (gName j1) := by exact fun _ _ _ _ _ => pg_name (by assumption) rfl (by first | exact Or.inl rfl | exact Or.inr rfl))
    (hf : ∀ x, foldedSetIterable iter X.env x = pure x := by intro _; rfl) (hf1 : ∀ env x, foldedSetIterable iter1 env x = pure x := by intro _ _; rfl) :
    pv X W (.ListComp elt [⟨.Name x p', iter, [], 0⟩, ⟨.Name x1 p1', iter1, [], 0⟩] scope pos) G C (lsE fe (l.flatMap fun y => (l1 y).map (f y))) := by
  refine wE_of (pe_lc2 (wi := semI X (.Name x p') iter) (wi1 := lcI X scope (.Name x1 p1') iter1) (g := gName j) (g1 := gName j1) (tt := tYes) (tt1 := tYes) (te := lcE X scope elt) hc nd pi_sem ok hv hgp (fun _ _ _ _ _ => pts_nil) (fun s H0 Cl cl fp => ⟨fun pins s' σ H R I h => h s H0 Cl cl fp pins s' I⟩) hgp1 (fun _ _ _ _ _ => pts_nil) (fun s H0 Cl cl fp => ⟨fun pins s' σ H Q I h => h s H0 Cl cl fp pins s' I⟩) hf hf1) fun σ P H Q gd zz => ?_
  refine hi σ P H _ gd fun ds C1 P1 H1 J n1 gv e => ?_
  obtain ⟨rfl, rfl⟩ := e
  intro Dl hD
  obtain ⟨Gc, Y, wk, hG, hY⟩ := gv.wk
  have gd1 := n1.good
  have D0 : W.H0 Dl = none := by
    cases e : W.H0 Dl with
    | none => rfl
    | some u => exact absurd hD (gd1.tr Dl (by rw [e]; intro y; cases y))
  have c0 : Dl ∉ C1.map (·.1) := fun z => by
    obtain ⟨q, hq, e⟩ := List.mem_map.mp z
    obtain ⟨_, _, o, ho, _⟩ := gd1.ce q hq
    rw [e, hD] at ho; cases ho
  -- from a turn's own world back, the list under way untouched
  have back : ∀ {Ga Gb Gc : List (Option D)} {σa σb σc : L2.St} {Pa Ha Pb Hb : Hp} {vs : List V}, Good X.K W Ga C1 σa Pa Ha → Pa Dl = none → Ha Dl = some (.lst vs) → Good X.K (baseW Pa Ha (C1.map (·.1))) Gb C1 σb Pb Hb → (∀ (i : Nat) (d : D), Gc[i]? = some (some d) → ∃ v, σc[i]? = some (some v) ∧ Rep X.K Pa v d) → σc.length = Gc.length →
      Good X.K W Gc C1 σc Pb Hb ∧ Pb Dl = none ∧ Hb Dl = some (.lst vs) ∧ Ex Pa Pb := fun {Ga Gb Gc σa σb σc Pa Ha Pb Hb vs} ga pa ha gb hs hl => by
    have ex5 : Ex Pa Pb := gb.p0
    have hbD : (baseW Pa Ha (C1.map (·.1))).Hb Dl = some (.lst vs) := by rw [baseW_hb c0]; exact ha
    refine ⟨ga.back (gb.fewer (G' := Gc) (σ' := σc) (fun i d h => ?_) hl), ?_, gb.hb _ _ hbD, ex5⟩
    · obtain ⟨v, h1, h2⟩ := hs i d h
      exact ⟨v, h1, h2.ex' ex5⟩
    · exact (gb.fr Dl (by show Ha Dl ≠ none; rw [ha]; intro y; cases y)).trans pa
  refine ⟨fun i m H' => m = (l.map g).length - i ∧ i ≤ (l.map g).length ∧ ∃ P' vs, Ex P1 P' ∧ Good X.K W G C1 σ P' H' ∧ P' Dl = none ∧ H' Dl = some (.lst vs) ∧ Reps X.K P' vs (((l.take i).flatMap fun y => (l1 y).map (f y)).map fe),
    ⟨_, rfl, Nat.zero_le _, P1, [], Ex.rfl' _, gd1.aside (gd1.le.none hD) D0 c0, gd1.le.none hD, upd_same, .nil⟩, fun i m H' w => ?_⟩
  obtain ⟨hm, hil, P', vs, e, gg, pD, hD', rs⟩ := w
  by_cases hlt : i < (l.map g).length
  · right
    refine ⟨wk.goes i H' hlt (hG P' H' e gg.le), fun H'' => ∃ P' vs, Ex P1 P' ∧ Good X.K W G C1 σ P' H'' ∧ P' Dl = none ∧ H'' Dl = some (.lst vs) ∧ Reps X.K P' vs (((l.take (i + 1)).flatMap fun y => (l1 y).map (f y)).map fe), fun H'' s => ⟨(l.map g).length - (i + 1), by omega, rfl, hlt, s⟩, fun x H2 hy => ?_⟩
    obtain ⟨P3, d, hd, rd, hh⟩ := hY i P' H' x H2 hlt e gg.le (wk.yields i H' x H2 hlt (hG P' H' e gg.le) hy)
    have n3 : Next X.K W G C1 σ P' P3 H2 ∧ P3 Dl = none ∧ H2 Dl = some (.lst vs) := by
      rcases hh with ⟨rfl, rfl⟩ | ⟨T', o, hn, rfl, rfl⟩
      · exact ⟨gg.refl, pD, hD'⟩
      · have ne : Dl ≠ T' := ne_of_none hD' hn
        exact ⟨gg.new hn, by rw [upd_ne ne]; exact pD, by rw [upd_ne ne]; exact hD'⟩
    obtain ⟨n3, pD3, hD3⟩ := n3
    obtain ⟨y, hy, ym, rfl⟩ := get_map hd
    refine ⟨wipe_set hj, ?_⟩
    refine tYes_if ?_
    intro s0 H0 Cl0 cl0 fp0
    have gB := n3.good.base
    have slot1 : Good X.K (baseW P3 H2 (C1.map (·.1))) ((wipeG G (own.map (·.2))).set j (some (g y))) C1 ((wipe σ (own.map (·.2))).set j (some x)) P3 H2 := (gB.fewer (wipe_good gB.sl _) (by rw [wipeG_len, wipe_length]; exact gB.len)).slot rd
    refine h1 y ym _ s0 H0 Cl0 cl0 fp0 _ P3 H2 _ slot1 fun ds1 C5 P4 H4 J1 n4 gv1 e1 => ?_
    obtain ⟨rfl, rfl⟩ := e1
    obtain ⟨g4, pD4, hD4, ex4⟩ := back n3.good pD3 hD3 n4.good (Gc := (wipeG G (own.map (·.2))).set j (some (g y))) (σc := (wipe σ (own.map (·.2))).set j (some x)) slot1.sl slot1.len
    obtain ⟨Gc1, Y1, wk1, hG1, hY1⟩ := gv1.wk
    refine ⟨fun j2 k H' => k = ((l1 y).map g1).length - j2 ∧ j2 ≤ ((l1 y).map g1).length ∧ ∃ P' vs, Ex P4 P' ∧ Good X.K W ((wipeG G (own.map (·.2))).set j (some (g y))) C5 ((wipe σ (own.map (·.2))).set j (some x)) P' H' ∧ P' Dl = none ∧ H' Dl = some (.lst vs) ∧ Reps X.K P' vs (((l.take i).flatMap fun y => (l1 y).map (f y)).map fe ++ ((l1 y).take j2).map fun z => fe (f y z)),
      ⟨_, rfl, Nat.zero_le _, P4, vs, Ex.rfl' _, g4, pD4, hD4, by simpa using rs.ex' (n3.ex.tr ex4)⟩, fun j2 k H5 w => ?_⟩
    obtain ⟨hk, hjl, P5, vs5, e5, g5, pD5, hD5, rs5⟩ := w
    by_cases hlt1 : j2 < ((l1 y).map g1).length
    · right
      refine ⟨wk1.goes j2 H5 hlt1 (hG1 P5 H5 e5 g5.le), fun H'' => ∃ P' vs, Ex P4 P' ∧ Good X.K W ((wipeG G (own.map (·.2))).set j (some (g y))) C5 ((wipe σ (own.map (·.2))).set j (some x)) P' H'' ∧ P' Dl = none ∧ H'' Dl = some (.lst vs) ∧ Reps X.K P' vs (((l.take i).flatMap fun y => (l1 y).map (f y)).map fe ++ ((l1 y).take (j2 + 1)).map fun z => fe (f y z)), fun H'' s => ⟨((l1 y).map g1).length - (j2 + 1), by omega, rfl, hlt1, s⟩, fun x1 H6 hy1 => ?_⟩
      obtain ⟨P6, d1, hd1, rd1, hh1⟩ := hY1 j2 P5 H5 x1 H6 hlt1 e5 g5.le (wk1.yields j2 H5 x1 H6 hlt1 (hG1 P5 H5 e5 g5.le) hy1)
      have n6 : Next X.K W ((wipeG G (own.map (·.2))).set j (some (g y))) C5 ((wipe σ (own.map (·.2))).set j (some x)) P5 P6 H6 ∧ P6 Dl = none ∧ H6 Dl = some (.lst vs5) := by
        rcases hh1 with ⟨rfl, rfl⟩ | ⟨T', o, hn, rfl, rfl⟩
        · exact ⟨g5.refl, pD5, hD5⟩
        · have ne : Dl ≠ T' := ne_of_none hD5 hn
          exact ⟨g5.new hn, by rw [upd_ne ne]; exact pD5, by rw [upd_ne ne]; exact hD5⟩
      obtain ⟨n6, pD6, hD6⟩ := n6
      obtain ⟨z, hzz, zm, rfl⟩ := get_map hd1
      refine ⟨wipe_set hj1, ?_⟩
      refine tYes_if ?_
      intro s2 H0' Cl2 cl2 fp2
      have gB6 := n6.good.base
      have slot2 := (gB6.fewer (wipe_good gB6.sl vs1) (by rw [wipeG_len, wipe_length]; exact gB6.len)).slot (i := j1) rd1
      refine he y ym z zm _ s2 H0' Cl2 cl2 fp2 _ P6 H6 _ slot2 fun d2 C7 v P7 H7 n7 r7 e7 => ?_
      obtain ⟨rfl, rfl⟩ := e7
      obtain ⟨g7, pD7, hD7, ex7⟩ := back n6.good pD6 hD6 n7.good (Gc := (wipeG G (own.map (·.2))).set j (some (g y))) (σc := (wipe σ (own.map (·.2))).set j (some x)) n6.good.sl n6.good.len
      refine ⟨vs5, hD7, ?_, P7, vs5 ++ [v], (e5.tr n6.ex).tr ex7, g7.aside pD7 D0 c0, pD7, upd_same, ?_⟩
      · have hl5 : vs5.length = (((l.take i).flatMap fun y => (l1 y).map (f y)) ++ ((l1 y).take j2).map (f y)).length := by
          rw [rs5.len]; simp only [List.length_append, List.length_map]
        have := flat_pre (fun y => (l1 y).map (f y)) hy (((l1 y).take (j2 + 1)).map (f y)) (by rw [List.length_map, List.length_map]; exact List.length_take_le' _ _)
        have e8 : (l1 y).take (j2 + 1) = (l1 y).take j2 ++ [z] := by rw [List.take_add_one, hzz]; rfl
        rw [e8] at this
        simp only [List.length_append, List.length_map, List.length_singleton, List.length_cons, List.length_nil, List.map_append] at this hl5
        rw [hl5]
        exact small_lt (by omega)
      · have e8 : (l1 y).take (j2 + 1) = (l1 y).take j2 ++ [z] := by rw [List.take_add_one, hzz]; rfl
        rw [e8, List.map_append, ← List.append_assoc]
        exact (rs5.ex' (n6.ex.tr ex7)).app (.cons r7 .nil)
    · left
      have ej : j2 = ((l1 y).map g1).length := by omega
      subst ej
      refine ⟨wk1.stops H5 (hG1 P5 H5 e5 g5.le), P5, vs5, ((e.tr n3.ex).tr ex4).tr e5, ?_, pD5, hD5, ?_⟩
      · refine g5.fewer (G' := G) (σ' := σ) (fun i d h => ?_) gg.len
        obtain ⟨v, q1, q2⟩ := gg.sl i d h
        exact ⟨v, q1, q2.ex' ((n3.ex.tr ex4).tr e5)⟩
      · have e8 : ((l.take (i + 1)).flatMap fun y => (l1 y).map (f y)) = ((l.take i).flatMap fun y => (l1 y).map (f y)) ++ (l1 y).map (f y) := by rw [List.take_add_one, hy, List.flatMap_append]; simp
        rw [List.length_map, List.take_length] at rs5
        rw [e8, List.map_append, List.map_map]
        exact rs5
  · left
    have ei : i = (l.map g).length := by omega
    subst ei
    refine ⟨wk.stops H' (hG P' H' e gg.le), ?_⟩
    have n := gg.know pD D0 c0 hD'
    rw [List.length_map, List.take_length] at rs
    exact zz _ C1 (.ref Dl) _ H' ⟨(n1.ex.tr e).tr n.ex, n.good⟩ (.lst upd_same (rs.ex' n.ex)) ⟨rfl, rfl⟩
end
end EW

namespace EW
open PySem PySem.Spec PyProof.Rows L2
def top (i : Nat) : Stmt := PySem.Challenge.pw_evenweek_k53_whole_covers_are_served.main.body.getD i (.Pass ⟨0, 0, 0, 0⟩)
structure Ad where
  SchoolError : Addr
  BadNames : Addr
  Doubled : Addr
  BadLessons : Addr
  BadLesson : Addr
  BadSchool : Addr
  BadPersons : Addr
  School : Addr
structure Bn (K : PySem.W.Frag) (mg : Str → Option Value) (ad : Ad) : Prop where
  isinstance_ : mg "isinstance" = none
  str_ : mg "str" = none
  len_ : mg "len" = none
  max_ : mg "max" = none
  min_ : mg "min" = none
  all_ : mg "all" = none
  any_ : mg "any" = none
  sum_ : mg "sum" = none
  sorted_ : mg "sorted" = none
  range_ : mg "range" = none
  list_ : mg "list" = none
  tuple_ : mg "tuple" = none
  dict_ : mg "dict" = none
  enumerate_ : mg "enumerate" = none
  ValueError_ : mg "ValueError" = none
  LETTERS_ : ∃ u, mg "LETTERS" = some u ∧ RelV (.str "abcdefghijklmnopqrstuvwxyz") u
  LONGEST_NAME_ : ∃ u, mg "LONGEST_NAME" = some u ∧ RelV (.int 8) u
  MOST_NAMES_ : ∃ u, mg "MOST_NAMES" = some u ∧ RelV (.int 8) u
  MOST_LESSONS_ : ∃ u, mg "MOST_LESSONS" = some u ∧ RelV (.int 40) u
  g_SchoolError : mg "SchoolError" = some (.ref ad.SchoolError)
  g_BadNames : mg "BadNames" = some (.ref ad.BadNames)
  g_Doubled : mg "Doubled" = some (.ref ad.Doubled)
  g_BadLessons : mg "BadLessons" = some (.ref ad.BadLessons)
  g_BadLesson : mg "BadLesson" = some (.ref ad.BadLesson)
  g_BadSchool : mg "BadSchool" = some (.ref ad.BadSchool)
  g_BadPersons : mg "BadPersons" = some (.ref ad.BadPersons)
  g_School : mg "School" = some (.ref ad.School)
  K_School : ClT K ad.School
  nf_School_school_teachers : NoAttr K ad.School "school_teachers"
  nf_School_school_classes : NoAttr K ad.School "school_classes"
  nf_School_school_lessons : NoAttr K ad.School "school_lessons"
  ne_School : PySem.W.findIn K (.ref ad.School) "__ne__" = some (some (.builtin "object.__ne__"))
section
variable {P : Program} {w : World} {K : PySem.W.Frag} {mg : Str → Option Value} {base : Heap} {ad : Ad}
theorem sc_BadNames_init : FnScope ["self", "found"] ["self", "found"] (defScope (inner (top 3) 0)) := ⟨rfl, rfl, rfl, by decide +kernel, rfl, by decide +kernel, by decide +kernel⟩
theorem ok_BadNames_init {fI : Addr} {fd : FuncData} (Fu : Fun K "__init__" "BadNames.__init__" (inner (top 3) 0) fI fd) (T : Bn K mg ad) (ek : ErK K ad.BadNames "ValueError.__init__") (rd : PySem.W.readsIn K ad.SchoolError (.type "type") = true) (hv : PySem.W.findCls K (.ref ad.SchoolError) (.type "type") "__init__" = some (.val (.builtin "ValueError.__init__")))
    (hga : PySem.W.specialIn K (.ref ad.SchoolError) "__getattribute__" = some (some (.builtin "type.__getattribute__"))) (nf : PySem.W.findIn K (.ref ad.BadNames) "found" = some none) : FnOk P w K mg base (L2.CX P w) 1 fI fd ["self", "found"] (spErI ad.BadNames "found") := by
  refine Fu.okX sc_BadNames_init (fun vs H Q E h => ?_) (fun cdv A outer s H vs Q E hr h => ?_)
  · obtain ⟨a, v, rfl, _⟩ := h; rfl
  · obtain ⟨a, v, rfl, ha, q⟩ := h
    refine ⟨_, pss_cons (ps_expr (pe_uinit (I := "ValueError.__init__") (by rfl) T.g_SchoolError rd hv hga (by decide +kernel) (pa_cons (pe_var (i := 0) rfl (.inl rfl)) (pa_cons pe_str pa_nil))) (by rfl)) (pss_cons (ps_erF (I := "ValueError.__init__") (pe_var (i := 0) rfl (.inl rfl)) (pe_var (i := 1) rfl (.inl rfl))) pss_nil), ?_⟩
    refine ⟨_, rfl, a, ad.BadNames, [.str _], rfl, by decide, ek, ha, ?_⟩
    exact ⟨_, rfl, _, rfl, a, ad.BadNames, rfl, ek, nf, ha, fun dx h1 h2 => q dx h1 h2⟩
theorem sc_Doubled_init : FnScope ["self", "found"] ["self", "found"] (defScope (inner (top 4) 0)) := ⟨rfl, rfl, rfl, by decide +kernel, rfl, by decide +kernel, by decide +kernel⟩
theorem ok_Doubled_init {fI : Addr} {fd : FuncData} (Fu : Fun K "__init__" "Doubled.__init__" (inner (top 4) 0) fI fd) (T : Bn K mg ad) (ek : ErK K ad.Doubled "ValueError.__init__") (rd : PySem.W.readsIn K ad.SchoolError (.type "type") = true) (hv : PySem.W.findCls K (.ref ad.SchoolError) (.type "type") "__init__" = some (.val (.builtin "ValueError.__init__")))
    (hga : PySem.W.specialIn K (.ref ad.SchoolError) "__getattribute__" = some (some (.builtin "type.__getattribute__"))) (nf : PySem.W.findIn K (.ref ad.Doubled) "found" = some none) : FnOk P w K mg base (L2.CX P w) 1 fI fd ["self", "found"] (spErI ad.Doubled "found") := by
  refine Fu.okX sc_Doubled_init (fun vs H Q E h => ?_) (fun cdv A outer s H vs Q E hr h => ?_)
  · obtain ⟨a, v, rfl, _⟩ := h; rfl
  · obtain ⟨a, v, rfl, ha, q⟩ := h
    refine ⟨_, pss_cons (ps_expr (pe_uinit (I := "ValueError.__init__") (by rfl) T.g_SchoolError rd hv hga (by decide +kernel) (pa_cons (pe_var (i := 0) rfl (.inl rfl)) (pa_cons pe_str pa_nil))) (by rfl)) (pss_cons (ps_erF (I := "ValueError.__init__") (pe_var (i := 0) rfl (.inl rfl)) (pe_var (i := 1) rfl (.inl rfl))) pss_nil), ?_⟩
    refine ⟨_, rfl, a, ad.Doubled, [.str _], rfl, by decide, ek, ha, ?_⟩
    exact ⟨_, rfl, _, rfl, a, ad.Doubled, rfl, ek, nf, ha, fun dx h1 h2 => q dx h1 h2⟩
theorem sc_BadLessons_init : FnScope ["self", "found"] ["self", "found"] (defScope (inner (top 5) 0)) := ⟨rfl, rfl, rfl, by decide +kernel, rfl, by decide +kernel, by decide +kernel⟩
theorem ok_BadLessons_init {fI : Addr} {fd : FuncData} (Fu : Fun K "__init__" "BadLessons.__init__" (inner (top 5) 0) fI fd) (T : Bn K mg ad) (ek : ErK K ad.BadLessons "ValueError.__init__") (rd : PySem.W.readsIn K ad.SchoolError (.type "type") = true) (hv : PySem.W.findCls K (.ref ad.SchoolError) (.type "type") "__init__" = some (.val (.builtin "ValueError.__init__")))
    (hga : PySem.W.specialIn K (.ref ad.SchoolError) "__getattribute__" = some (some (.builtin "type.__getattribute__"))) (nf : PySem.W.findIn K (.ref ad.BadLessons) "found" = some none) : FnOk P w K mg base (L2.CX P w) 1 fI fd ["self", "found"] (spErI ad.BadLessons "found") := by
  refine Fu.okX sc_BadLessons_init (fun vs H Q E h => ?_) (fun cdv A outer s H vs Q E hr h => ?_)
  · obtain ⟨a, v, rfl, _⟩ := h; rfl
  · obtain ⟨a, v, rfl, ha, q⟩ := h
    refine ⟨_, pss_cons (ps_expr (pe_uinit (I := "ValueError.__init__") (by rfl) T.g_SchoolError rd hv hga (by decide +kernel) (pa_cons (pe_var (i := 0) rfl (.inl rfl)) (pa_cons pe_str pa_nil))) (by rfl)) (pss_cons (ps_erF (I := "ValueError.__init__") (pe_var (i := 0) rfl (.inl rfl)) (pe_var (i := 1) rfl (.inl rfl))) pss_nil), ?_⟩
    refine ⟨_, rfl, a, ad.BadLessons, [.str _], rfl, by decide, ek, ha, ?_⟩
    exact ⟨_, rfl, _, rfl, a, ad.BadLessons, rfl, ek, nf, ha, fun dx h1 h2 => q dx h1 h2⟩
theorem sc_BadLesson_init : FnScope ["self", "found"] ["self", "found"] (defScope (inner (top 6) 0)) := ⟨rfl, rfl, rfl, by decide +kernel, rfl, by decide +kernel, by decide +kernel⟩
theorem ok_BadLesson_init {fI : Addr} {fd : FuncData} (Fu : Fun K "__init__" "BadLesson.__init__" (inner (top 6) 0) fI fd) (T : Bn K mg ad) (ek : ErK K ad.BadLesson "ValueError.__init__") (rd : PySem.W.readsIn K ad.SchoolError (.type "type") = true) (hv : PySem.W.findCls K (.ref ad.SchoolError) (.type "type") "__init__" = some (.val (.builtin "ValueError.__init__")))
    (hga : PySem.W.specialIn K (.ref ad.SchoolError) "__getattribute__" = some (some (.builtin "type.__getattribute__"))) (nf : PySem.W.findIn K (.ref ad.BadLesson) "found" = some none) : FnOk P w K mg base (L2.CX P w) 1 fI fd ["self", "found"] (spErI ad.BadLesson "found") := by
  refine Fu.okX sc_BadLesson_init (fun vs H Q E h => ?_) (fun cdv A outer s H vs Q E hr h => ?_)
  · obtain ⟨a, v, rfl, _⟩ := h; rfl
  · obtain ⟨a, v, rfl, ha, q⟩ := h
    refine ⟨_, pss_cons (ps_expr (pe_uinit (I := "ValueError.__init__") (by rfl) T.g_SchoolError rd hv hga (by decide +kernel) (pa_cons (pe_var (i := 0) rfl (.inl rfl)) (pa_cons pe_str pa_nil))) (by rfl)) (pss_cons (ps_erF (I := "ValueError.__init__") (pe_var (i := 0) rfl (.inl rfl)) (pe_var (i := 1) rfl (.inl rfl))) pss_nil), ?_⟩
    refine ⟨_, rfl, a, ad.BadLesson, [.str _], rfl, by decide, ek, ha, ?_⟩
    exact ⟨_, rfl, _, rfl, a, ad.BadLesson, rfl, ek, nf, ha, fun dx h1 h2 => q dx h1 h2⟩
theorem sc_BadSchool_init : FnScope ["self", "found"] ["self", "found"] (defScope (inner (top 7) 0)) := ⟨rfl, rfl, rfl, by decide +kernel, rfl, by decide +kernel, by decide +kernel⟩
theorem ok_BadSchool_init {fI : Addr} {fd : FuncData} (Fu : Fun K "__init__" "BadSchool.__init__" (inner (top 7) 0) fI fd) (T : Bn K mg ad) (ek : ErK K ad.BadSchool "ValueError.__init__") (rd : PySem.W.readsIn K ad.SchoolError (.type "type") = true) (hv : PySem.W.findCls K (.ref ad.SchoolError) (.type "type") "__init__" = some (.val (.builtin "ValueError.__init__")))
    (hga : PySem.W.specialIn K (.ref ad.SchoolError) "__getattribute__" = some (some (.builtin "type.__getattribute__"))) (nf : PySem.W.findIn K (.ref ad.BadSchool) "found" = some none) : FnOk P w K mg base (L2.CX P w) 1 fI fd ["self", "found"] (spErI ad.BadSchool "found") := by
  refine Fu.okX sc_BadSchool_init (fun vs H Q E h => ?_) (fun cdv A outer s H vs Q E hr h => ?_)
  · obtain ⟨a, v, rfl, _⟩ := h; rfl
  · obtain ⟨a, v, rfl, ha, q⟩ := h
    refine ⟨_, pss_cons (ps_expr (pe_uinit (I := "ValueError.__init__") (by rfl) T.g_SchoolError rd hv hga (by decide +kernel) (pa_cons (pe_var (i := 0) rfl (.inl rfl)) (pa_cons pe_str pa_nil))) (by rfl)) (pss_cons (ps_erF (I := "ValueError.__init__") (pe_var (i := 0) rfl (.inl rfl)) (pe_var (i := 1) rfl (.inl rfl))) pss_nil), ?_⟩
    refine ⟨_, rfl, a, ad.BadSchool, [.str _], rfl, by decide, ek, ha, ?_⟩
    exact ⟨_, rfl, _, rfl, a, ad.BadSchool, rfl, ek, nf, ha, fun dx h1 h2 => q dx h1 h2⟩
theorem sc_BadPersons_init : FnScope ["self", "found"] ["self", "found"] (defScope (inner (top 8) 0)) := ⟨rfl, rfl, rfl, by decide +kernel, rfl, by decide +kernel, by decide +kernel⟩
theorem ok_BadPersons_init {fI : Addr} {fd : FuncData} (Fu : Fun K "__init__" "BadPersons.__init__" (inner (top 8) 0) fI fd) (T : Bn K mg ad) (ek : ErK K ad.BadPersons "ValueError.__init__") (rd : PySem.W.readsIn K ad.SchoolError (.type "type") = true) (hv : PySem.W.findCls K (.ref ad.SchoolError) (.type "type") "__init__" = some (.val (.builtin "ValueError.__init__")))
    (hga : PySem.W.specialIn K (.ref ad.SchoolError) "__getattribute__" = some (some (.builtin "type.__getattribute__"))) (nf : PySem.W.findIn K (.ref ad.BadPersons) "found" = some none) : FnOk P w K mg base (L2.CX P w) 1 fI fd ["self", "found"] (spErI ad.BadPersons "found") := by
  refine Fu.okX sc_BadPersons_init (fun vs H Q E h => ?_) (fun cdv A outer s H vs Q E hr h => ?_)
  · obtain ⟨a, v, rfl, _⟩ := h; rfl
  · obtain ⟨a, v, rfl, ha, q⟩ := h
    refine ⟨_, pss_cons (ps_expr (pe_uinit (I := "ValueError.__init__") (by rfl) T.g_SchoolError rd hv hga (by decide +kernel) (pa_cons (pe_var (i := 0) rfl (.inl rfl)) (pa_cons pe_str pa_nil))) (by rfl)) (pss_cons (ps_erF (I := "ValueError.__init__") (pe_var (i := 0) rfl (.inl rfl)) (pe_var (i := 1) rfl (.inl rfl))) pss_nil), ?_⟩
    refine ⟨_, rfl, a, ad.BadPersons, [.str _], rfl, by decide, ek, ha, ?_⟩
    exact ⟨_, rfl, _, rfl, a, ad.BadPersons, rfl, ek, nf, ha, fun dx h1 h2 => q dx h1 h2⟩

/-! law_box -/
theorem sc_law_box : FnScope ["cell"] ["cell"] (defScope (top 32)) := ⟨rfl, rfl, rfl, by decide +kernel, rfl, by decide +kernel, by decide +kernel⟩
def fBox : FS := fun ds C Kn _ => ∃ i : Int, ds = [.int i] ∧ C = [] ∧ ∀ p, Kn (.ref p) [(p, .box 0)]
theorem ok_law_box {f : Addr} {fd : FuncData} (Fu : Fun K "_law_box" "_law_box" (top 32) f fd) (T : Bn K mg ad) : FnG P w K mg base 1 f fd ["cell"] (fBox) := by
  refine fnG_of Fu sc_law_box (fun ds C Kn Ke h => ?_) (fun cdv A outer s H E W ds C Kn Ke hr hgu hx hF hio => ?_)
  · obtain ⟨i, rfl, rfl, q⟩ := h; rfl
  · obtain ⟨i, rfl, rfl, q⟩ := hF
    have nd := sc_law_box.nd
    -- 1
    refine wSs_cons ?_
    refine wS_ret ?_
    refine wE_box 0 ?_
    refine wE_lstC ?_
    refine wA_cons ?_
    refine wE_callB "max" (by decide +kernel) T.max_ ?_
    refine wA_cons ?_
    refine wE_int ?_
    refine wA_cons ?_
    refine wE_bin ?_
    refine wE_nm 0 rfl ?_
    refine wE_bin ?_
    refine wE_int ?_
    refine wE_int ?_
    first | refine o_pow (by decide) ?_ | refine o_pow ⟨by decide, by decide, by omega⟩ ?_  --@1:pow
    refine o_sub ?_  --@1:sub
    refine wA_nil ?_
    refine c_max2 rfl ?_  --@1:max
    refine wA_cons ?_
    refine wE_bin ?_
    refine wE_nm 0 rfl ?_
    refine wE_int ?_
    refine o_mod (by first | decide | omega) ?_  --@1:mod
    refine wA_cons ?_
    refine wE_int ?_
    refine wA_nil ?_
    refine ⟨by simp, fun p => ?_⟩  --@1:dis
    refine ⟨p, _, _, _, rfl, rfl, Int.emod_nonneg _ (by decide), Int.emod_lt_of_pos _ (by decide), by decide, by decide, q p⟩  --@1:ret


/-! is_name -/
theorem sc_is_name : FnScope ["value", "sign"] ["value"] (defScope (top 12)) := ⟨rfl, rfl, rfl, by decide +kernel, rfl, by decide +kernel, by decide +kernel⟩
def fIsName : FS := fun ds C Kn _ => ∃ d, ds = [d] ∧ KC C d ∧ Kn (.bl (isNameB d)) C
theorem ok_is_name {f : Addr} {fd : FuncData} (Fu : Fun K "is_name" "is_name" (top 12) f fd) (T : Bn K mg ad) : FnG P w K mg base 1 f fd ["value"] fIsName := by
  refine fnG_of Fu sc_is_name (fun ds C Kn Ke h => ?_) (fun cdv A outer s H E W ds C Kn Ke hr hgu hx hF hio => ?_)
  · obtain ⟨d, rfl, _⟩ := h; rfl
  · obtain ⟨d, rfl, ⟨⟨s1, hk⟩, hs⟩, q⟩ := hF
    have nd := sc_is_name.nd
    refine wSs_cons (wS_if (wB.wt ?_))
    by_cases hd : ∃ x, d = .str x
    · obtain ⟨x, rfl⟩ := hd
      have hl := hs x rfl
      refine wB_orP (p := false) (q := !(decide ((1 : Int) ≤ x.length) && decide ((x.length : Int) ≤ 8))) ?_ (fun _ => ?_) ?_
      · refine wT_not (wT_val (wE_isiK "str" T.isinstance_ T.str_ (by decide +kernel) (wE_nm 0 rfl ?_)))
        exact ⟨_, .base rfl, _, rfl, rfl, rfl⟩
      · refine wB_or1 (wT_not (wT_chain (wE_int (wE_callB "len" (by decide +kernel) T.len_ (wA_cons (wE_nm 0 rfl (wA_nil (c_lenS hl (o_le ?_)))))))))
        obtain ⟨u, hu, ru⟩ := T.LONGEST_NAME_
        refine wE_chainP (u := decide ((x.length : Int) ≤ 8)) (fun _ => wE_gl hu ru (fun P => .int _) (o_le ⟨rfl, rfl⟩)) ?_
        exact ⟨_, rfl, rfl, rfl⟩
      · refine ⟨fun h => wSs_cons (wS_ret (wE_bl ?_)), fun h => wSs_nil ?_⟩
        · have e : isNameB (.str x) = false := by
            show isNameS x = false
            unfold isNameS
            simp only [Bool.false_or, Bool.not_eq_true', Bool.and_eq_false_iff, decide_eq_false_iff_not] at h
            rcases h with h | h
            · rw [decide_eq_false (show ¬ 1 ≤ x.length by omega)]; rfl
            · rw [decide_eq_false (show ¬ x.length ≤ 8 by omega), Bool.and_false]; rfl
          rw [e] at q; exact q
        · refine wSs_cons (wS_ret (wE_callB "all" (by decide +kernel) T.all_ (wA_cons (wE_C ?_))))
          refine C_lcM 1 [("sign", 1)] nd rfl x.cps.toList sgD (fun c => .bl (decide (c ∈ lettersS.cps.toList))) ?_ ?_ ?_ ?_
          · exact wI_str (wE_nm 0 rfl ⟨x, rfl, rfl, rfl⟩)
          · rw [Array.length_toList]; exact hl
          · intro y hy W s H Cl cl fp
            obtain ⟨u, hu, ru⟩ := T.LETTERS_
            refine wE_cmp (wE_nm 1 rfl (wE_gl hu ru (fun P => .str _) (o_inS ⟨rfl, rfl⟩)))
          · refine wA_nil ?_
            have e : x.cps.toList.map (fun c => D.bl (decide (c ∈ lettersS.cps.toList))) = (x.cps.toList.map fun c => decide (c ∈ lettersS.cps.toList)).map D.bl := by rw [List.map_map]; rfl
            rw [e]
            refine c_all rfl ?_
            have e2 : isNameB (.str x) = (x.cps.toList.map fun c => decide (c ∈ lettersS.cps.toList)).all id := by
              show isNameS x = _
              unfold isNameS
              simp only [Bool.false_or, Bool.not_eq_false', Bool.and_eq_true, decide_eq_true_eq] at h
              rw [decide_eq_true (show 1 ≤ x.length by omega), decide_eq_true (show x.length ≤ 8 by omega), List.all_map]; rfl
            rw [e2] at q; exact q
    · have e0 : instT s1 "str" = false := by
        cases hk with
        | base hk => cases d <;> first | (cases hk; done) | (exact absurd ⟨_, rfl⟩ hd) | (cases hk; decide)
        | lst i hk => decide
        | dct i hk => decide
      have e1 : isNameB d = false := by
        cases d <;> first | rfl | (exact absurd ⟨_, rfl⟩ hd)
      refine wB_orP (p := true) (q := true) ?_ (fun h => by cases h) ?_
      · refine wT_not (wT_val (wE_isiK "str" T.isinstance_ T.str_ (by decide +kernel) (wE_nm 0 rfl ?_)))
        exact ⟨_, hk, _, rfl, by rw [e0]; rfl, rfl⟩
      · refine ⟨fun h => wSs_cons (wS_ret (wE_bl ?_)), fun h => by cases h⟩
        rw [e1] at q; exact q


/-! law_take -/
theorem sc_law_take : FnScope ["box", "many", "one", "two", "digit"] ["box", "many"] (defScope (top 33)) := ⟨rfl, rfl, rfl, by decide +kernel, rfl, by decide +kernel, by decide +kernel⟩
def fTake : FS := fun ds C Kn _ => ∃ (p : Addr) (m : Nat) (n : Nat), ds = [.ref p, natD m] ∧ C = [(p, .box n)] ∧ 0 < m ∧ m < 1073741824 ∧ n < 1000000 ∧ ∀ d : Nat, d < m → Kn (natD d) [(p, .box (n + 1))]
theorem c_sq {c : Int} (h0 : 0 ≤ c) (h : c ≤ 1000000) : 0 ≤ c * c ∧ c * c ≤ 1000000000000 := ⟨Int.mul_nonneg h0 h0, by have := Int.mul_le_mul h h h0 (by decide : (0 : Int) ≤ 1000000); omega⟩
theorem mod_nat (z : Int) {m : Nat} (h : 0 < m) : ∃ d : Nat, z % (m : Int) = d ∧ d < m := ⟨(z % (m : Int)).toNat, by have := Int.emod_nonneg z (show (m : Int) ≠ 0 by omega); omega, by have := Int.emod_nonneg z (show (m : Int) ≠ 0 by omega); have := Int.emod_lt_of_pos z (show (0 : Int) < m by omega); omega⟩
theorem ok_law_take {f : Addr} {fd : FuncData} (Fu : Fun K "_law_take" "_law_take" (top 33) f fd) (T : Bn K mg ad) : FnG P w K mg base 1 f fd ["box", "many"] (fTake) := by
  refine fnG_of Fu sc_law_take (fun ds C Kn Ke h => ?_) (fun cdv A outer s H E W ds C Kn Ke hr hgu hx hF hio => ?_)
  · obtain ⟨p, m, n, rfl, rfl, hm, hm2, hn, q⟩ := h; rfl
  · obtain ⟨p, m, n, rfl, rfl, hm, hm2, hn, q⟩ := hF
    have nd := sc_law_take.nd
    refine wSs_open 0 rfl fun x y c hy hy2 hc hc2 => ?_
    -- 1
    refine wSs_cons ?_
    refine wS_if ?_
    refine wT_cmp ?_
    refine wE_ix ?_
    refine wE_nm 0 rfl ?_
    refine wE_int ?_
    first | refine xD_lst rfl ?_ | refine xD_tup rfl ?_ | refine xD_cell 0 rfl rfl ?_  --@1:ix
    refine wE_int ?_
    refine o_gt ?_  --@1:gt
    refine ⟨_, rfl, ?_⟩
    refine ⟨fun hi1 => ?_, fun hi1 => ?_⟩  --@1:if
    · skip
      -- 2
      refine wSs_cons ?_
      refine wS_set 4 ?_ nd
      refine wE_bin ?_
      refine wE_ix ?_
      refine wE_nm 0 rfl ?_
      refine wE_int ?_
      first | refine xD_lst rfl ?_ | refine xD_tup rfl ?_ | refine xD_cell 0 rfl rfl ?_  --@2:ix
      refine wE_nm 1 rfl ?_
      refine o_mod (by first | decide | omega) ?_  --@2:mod
      -- 3
      refine wSs_cons ?_
      refine wS_asg ?_
      refine wE_bin ?_
      refine wE_ix ?_
      refine wE_nm 0 rfl ?_
      refine wE_int ?_
      first | refine xD_lst rfl ?_ | refine xD_tup rfl ?_ | refine xD_cell 0 rfl rfl ?_  --@3:ix
      refine wE_nm 1 rfl ?_
      refine o_fdiv (by first | decide | omega) ?_  --@3:div
      skip  --@3:asg
      refine wG_ixC 0 ?_  --@3:tg0
      refine wE_nm 0 rfl ?_
      refine wE_int ?_
      refine ⟨_, _, _, _, rfl, rfl, rfl, rfl, ?_⟩  --@3:tg
      -- 4
      refine wSs_close 0 (n + 1) rfl hy hy2 hc (by omega) ?_
      refine wSs_cons ?_
      refine wS_ret ?_
      refine wE_nm 4 rfl ?_
      obtain ⟨d, hd, hd2⟩ := mod_nat x hm
      rw [hd]
      exact q d hd2  --@4:ret
    refine wSs_nil ?_
    -- 5
    refine wSs_cons ?_
    refine wS_asg ?_
    refine wE_bin ?_
    refine wE_ix ?_
    refine wE_nm 0 rfl ?_
    refine wE_int ?_
    first | refine xD_lst rfl ?_ | refine xD_tup rfl ?_ | refine xD_cell 0 rfl rfl ?_  --@5:ix
    refine wE_int ?_
    first | refine o_add ?_ | refine o_cat (by simp) ?_ | refine o_addS (by simp) ?_  --@5:add
    skip  --@5:asg
    refine wG_ixC 0 ?_  --@5:tg0
    refine wE_nm 0 rfl ?_
    refine wE_int ?_
    refine ⟨_, _, _, _, rfl, rfl, rfl, rfl, ?_⟩  --@5:tg
    -- 6
    refine wSs_cons ?_
    refine wS_set 2 ?_ nd
    refine wE_bin ?_
    refine wE_bin ?_
    refine wE_bin ?_
    refine wE_bin ?_
    refine wE_ix ?_
    refine wE_nm 0 rfl ?_
    refine wE_int ?_
    first | refine xD_lst rfl ?_ | refine xD_tup rfl ?_ | refine xD_cell 0 rfl rfl ?_  --@6:ix
    refine wE_bin ?_
    refine wE_int ?_
    refine wE_ix ?_
    refine wE_nm 0 rfl ?_
    refine wE_int ?_
    first | refine xD_lst rfl ?_ | refine xD_tup rfl ?_ | refine xD_cell 0 rfl rfl ?_  --@6:ix2
    first | refine o_mul (.inl ⟨by decide, by decide⟩) ?_ | refine o_mul (.inr ⟨by decide, by decide⟩) ?_ | refine o_mul (.inl ⟨by omega, by omega⟩) ?_ | refine o_mul (.inr ⟨by omega, by omega⟩) ?_  --@6:mul
    first | refine o_add ?_ | refine o_cat (by simp) ?_ | refine o_addS (by simp) ?_  --@6:add
    refine wE_int ?_
    first | refine o_add ?_ | refine o_cat (by simp) ?_ | refine o_addS (by simp) ?_  --@6:add2
    refine wE_int ?_
    first | refine o_pow (by decide) ?_ | refine o_pow ⟨by decide, by decide, by omega⟩ ?_  --@6:pow
    refine wE_int ?_
    refine o_mod (by first | decide | omega) ?_  --@6:mod
    generalize hone : (_ : Int) ^ _ % (2147483647 : Int) = one
    have h1 : 0 ≤ one := by rw [← hone]; exact Int.emod_nonneg _ (by decide)
    have h2 : one < 2147483647 := by rw [← hone]; exact Int.emod_lt_of_pos _ (by decide)
    obtain ⟨sq1, sq2⟩ := c_sq (c := c + 1) (by omega) (by omega)
    -- 7
    refine wSs_cons ?_
    refine wS_set 3 ?_ nd
    refine wE_bin ?_
    refine wE_bin ?_
    refine wE_bin ?_
    refine wE_bin ?_
    refine wE_bin ?_
    refine wE_nm 2 rfl ?_
    refine wE_int ?_
    refine o_fdiv (by first | decide | omega) ?_  --@7:div
    refine wE_bin ?_
    refine wE_bin ?_
    refine wE_int ?_
    refine wE_ix ?_
    refine wE_nm 0 rfl ?_
    refine wE_int ?_
    first | refine xD_lst rfl ?_ | refine xD_tup rfl ?_ | refine xD_cell 0 rfl rfl ?_  --@7:ix
    first | refine o_mul (.inl ⟨by decide, by decide⟩) ?_ | refine o_mul (.inr ⟨by decide, by decide⟩) ?_ | refine o_mul (.inl ⟨by omega, by omega⟩) ?_ | refine o_mul (.inr ⟨by omega, by omega⟩) ?_  --@7:mul
    refine wE_ix ?_
    refine wE_nm 0 rfl ?_
    refine wE_int ?_
    first | refine xD_lst rfl ?_ | refine xD_tup rfl ?_ | refine xD_cell 0 rfl rfl ?_  --@7:ix2
    refine o_mul (.inr ⟨by omega, by omega⟩) ?_  --@7:mul2
    first | refine o_add ?_ | refine o_cat (by simp) ?_ | refine o_addS (by simp) ?_  --@7:add
    refine wE_int ?_
    first | refine o_add ?_ | refine o_cat (by simp) ?_ | refine o_addS (by simp) ?_  --@7:add2
    refine wE_int ?_
    have sq3 : 104729 * (c + 1) * (c + 1) = 104729 * ((c + 1) * (c + 1)) := Int.mul_assoc _ _ _
    refine o_pow (by refine ⟨by decide, by decide, ?_⟩; rw [sq3]; omega) ?_  --@7:pow
    refine wE_int ?_
    refine o_mod (by first | decide | omega) ?_  --@7:mod
    generalize htwo : (_ : Int) ^ _ % (2147483587 : Int) = two
    have h3 : 0 ≤ two := by rw [← htwo]; exact Int.emod_nonneg _ (by decide)
    have h4 : two < 2147483587 := by rw [← htwo]; exact Int.emod_lt_of_pos _ (by decide)
    refine wSs_close 0 (n + 1) rfl hy hy2 (by omega) (by omega) ?_
    -- 8
    refine wSs_cons ?_
    refine wS_ret ?_
    refine wE_bin ?_
    refine wE_bin ?_
    refine wE_bin ?_
    refine wE_nm 2 rfl ?_
    refine wE_int ?_
    refine o_fdiv (by first | decide | omega) ?_  --@8:div
    refine wE_bin ?_
    refine wE_int ?_
    refine wE_bin ?_
    refine wE_nm 3 rfl ?_
    refine wE_int ?_
    refine o_fdiv (by first | decide | omega) ?_  --@8:div2
    first | refine o_mul (.inl ⟨by decide, by decide⟩) ?_ | refine o_mul (.inr ⟨by decide, by decide⟩) ?_ | refine o_mul (.inl ⟨by omega, by omega⟩) ?_ | refine o_mul (.inr ⟨by omega, by omega⟩) ?_  --@8:mul
    first | refine o_add ?_ | refine o_cat (by simp) ?_ | refine o_addS (by simp) ?_  --@8:add
    refine wE_nm 1 rfl ?_
    refine o_mod (by first | decide | omega) ?_  --@8:mod
    obtain ⟨d, hd, hd2⟩ := mod_nat (one / 4 + 536870909 * (two / 4)) hm
    rw [hd]
    exact q d hd2  --@8:ret


/-- distinct names -/
def NamesOk (ws : List Str) : Prop := ws.Nodup ∧ ∀ w ∈ ws, isNameS w = true
def sgS (c : Nat) : Str := ⟨#[c]⟩
theorem letter_at : ∀ i : Nat, i < 26 → lettersS.cps.toList[i]? = some (97 + i) := by decide +kernel
theorem letter_in : ∀ c : Nat, c < 26 → (97 + c) ∈ lettersS.cps.toList := by decide +kernel
theorem tl_app (x y : Str) : (x ++ y).cps.toList = x.cps.toList ++ y.cps.toList := TL.tl_append x y
theorem len_tl (x : Str) : x.length = x.cps.toList.length := Array.length_toList.symm
theorem isName_of {x : Str} (h1 : 1 ≤ x.length) (h8 : x.length ≤ 8) (h : ∀ c ∈ x.cps.toList, c ∈ lettersS.cps.toList) : isNameS x = true := by
  unfold isNameS
  rw [decide_eq_true h1, decide_eq_true h8, List.all_eq_true.mpr fun c hc => decide_eq_true (h c hc)]; rfl
theorem cutS_len (z : Str) (lo hi : Option Int) : (cutS z lo hi).length ≤ z.length := by
  rw [len_tl, len_tl]
  show ((z.cps.toList.drop _).take _).length ≤ _
  rw [List.length_take, List.length_drop]; omega
theorem app_len (x y : Str) : (x ++ y).length = x.length + y.length := by rw [len_tl, len_tl, len_tl, tl_app, List.length_append]
def nameA (a k : Nat) : Str := repS (sgS (97 + a)) (k + 1)
theorem nameA_ok {a : Nat} (ha : a < 26) {m : Nat} (hm : m < 9) : NamesOk ((List.range m).map (nameA a)) := by
  refine ⟨?_, fun w hw => ?_⟩
  · rw [List.nodup_iff_pairwise_ne, List.pairwise_map]
    refine List.Pairwise.imp ?_ List.nodup_range
    intro i j hij e
    have := congrArg Str.length e
    unfold nameA at this
    rw [repS_len, repS_len] at this
    have l1 : (sgS (97 + a)).length = 1 := rfl
    rw [l1] at this; omega
  · obtain ⟨k, hk, rfl⟩ := List.mem_map.mp hw
    have hk := List.mem_range.mp hk
    have l1 : (sgS (97 + a)).length = 1 := rfl
    refine isName_of (by unfold nameA; rw [repS_len, l1]; omega) (by unfold nameA; rw [repS_len, l1]; omega) fun c hc => ?_
    unfold nameA repS at hc
    simp only [List.mem_flatten, List.mem_replicate] at hc
    obtain ⟨l, ⟨_, rfl⟩, hc⟩ := hc
    have : c = 97 + a := by simpa [sgS] using hc
    rw [this]; exact letter_in a ha
def nameB (a at' : Nat) (stem : Str) (k : Nat) : Str := cutS stem none (some (at' : Int)) ++ (sgS (97 + (a + 7 * k) % 26) ++ sgS 97) ++ cutS stem (some (at' : Int)) none
theorem nameB_ok {a at' : Nat} {stem : Str} {m : Nat} (hm : m ≤ 16) (hs : stem.length ≤ 6) (hc : ∀ c ∈ stem.cps.toList, c ∈ lettersS.cps.toList) : NamesOk ((List.range m).map (nameB a at' stem)) := by
  have part : ∀ k, (nameB a at' stem k).cps.toList = (cutS stem none (some (at' : Int))).cps.toList ++ ([97 + (a + 7 * k) % 26, 97] ++ (cutS stem (some (at' : Int)) none).cps.toList) := fun k => by
    unfold nameB
    rw [tl_app, tl_app, tl_app, List.append_assoc]; rfl
  have c1 : (cutS stem none (some (at' : Int))).cps.toList = stem.cps.toList.take (HT.sIx stem.length stem.length (some (at' : Int))) := by
    show (stem.cps.toList.drop 0).take _ = _
    rfl
  have c2 : (cutS stem (some (at' : Int)) none).cps.toList = stem.cps.toList.drop (HT.sIx stem.length 0 (some (at' : Int))) := by
    show (stem.cps.toList.drop _).take (stem.length - _) = _
    refine List.take_of_length_le ?_
    rw [List.length_drop, ← len_tl]; exact Nat.le_refl _
  have same : HT.sIx stem.length stem.length (some (at' : Int)) = HT.sIx stem.length 0 (some (at' : Int)) := rfl
  refine ⟨?_, fun w hw => ?_⟩
  · rw [List.nodup_iff_pairwise_ne, List.pairwise_map]
    refine List.Pairwise.imp_of_mem ?_ List.nodup_range
    intro i j hi hj hij e
    have hi := List.mem_range.mp hi
    have hj := List.mem_range.mp hj
    have e2 := congrArg (fun x : Str => x.cps.toList) e
    simp only [part] at e2
    have e3 := List.append_cancel_left e2
    have e4 : 97 + (a + 7 * i) % 26 = 97 + (a + 7 * j) % 26 := by
      have := List.append_cancel_right e3
      simpa using this
    exact hij (by omega)
  · obtain ⟨k, hk, rfl⟩ := List.mem_map.mp hw
    have ln : (nameB a at' stem k).length ≤ 8 ∧ 1 ≤ (nameB a at' stem k).length := by
      rw [len_tl, part, c1, c2, same, List.length_append, List.length_append, List.length_take, List.length_drop, ← len_tl]
      show _ + (2 + _) ≤ 8 ∧ _
      simp only [List.length_cons, List.length_nil]
      omega
    refine isName_of ln.2 ln.1 fun c hcm => ?_
    rw [part, c1, c2, List.mem_append, List.mem_append] at hcm
    rcases hcm with h | h | h
    · exact hc c (List.mem_of_mem_take h)
    · simp only [List.mem_cons, List.not_mem_nil, or_false] at h
      rcases h with rfl | rfl
      · exact letter_in _ (Nat.mod_lt _ (by decide))
      · exact letter_in 0 (by decide)
    · exact hc c (List.mem_of_mem_drop h)

/-! law_names -/
theorem sc_law_names : FnScope ["box", "many", "letters", "stem", "words", "first", "at", "way", "k", "word"] ["box", "many"] (defScope (top 34)) := ⟨rfl, rfl, rfl, by decide +kernel, rfl, by decide +kernel, by decide +kernel⟩
def fNames : FS := fun ds C Kn _ => ∃ (p : Addr) (n many : Nat), ds = [.ref p, natD many] ∧ C = [(p, .box n)] ∧ n < 900000 ∧ many ≤ 16 ∧ ∀ ws m, NamesOk ws → ws.length = many → m ≤ n + 20 → Kn (.lst (ws.map D.str)) [(p, .box m)]
theorem ok_law_names {f : Addr} {fd : FuncData} (Fu : Fun K "_law_names" "_law_names" (top 34) f fd) (T : Bn K mg ad) (H_law_take : Has P w K mg base "_law_take" 1 (fTake)) : FnG P w K mg base 2 f fd ["box", "many"] (fNames) := by
  refine fnG_of Fu sc_law_names (fun ds C Kn Ke h => ?_) (fun cdv A outer s H E W ds C Kn Ke hr hgu hx hF hio => ?_)
  · obtain ⟨p, n, many, rfl, rfl, hn, hm, q⟩ := h; rfl
  · obtain ⟨p, n, many, rfl, rfl, hn, hm, q⟩ := hF
    have nd := sc_law_names.nd
    -- 1
    refine wSs_cons ?_
    refine wS_set 2 ?_ nd
    refine wE_str ?_
    -- 2
    refine wSs_cons ?_
    refine wS_asg ?_
    refine wE_tup ?_
    refine wA_cons ?_
    refine wE_call H_law_take hr hgu ?_
    refine wA_cons ?_
    refine wE_nm 0 rfl ?_
    refine wA_cons ?_
    refine wE_int ?_
    refine wA_nil ?_
    refine ⟨[(p, .box _)], _, List.Perm.refl _, p, 26, _, rfl, rfl, by omega, by omega, by omega, fun t1 ht1 => ?_⟩  --@2:_law_take
    refine wA_cons ?_
    refine wE_call H_law_take hr hgu ?_
    refine wA_cons ?_
    refine wE_nm 0 rfl ?_
    refine wA_cons ?_
    refine wE_int ?_
    refine wA_nil ?_
    refine ⟨[(p, .box _)], _, List.Perm.refl _, p, 6, _, rfl, rfl, by omega, by omega, by omega, fun t2 ht2 => ?_⟩  --@2:_law_take2
    refine wA_cons ?_
    refine wE_call H_law_take hr hgu ?_
    refine wA_cons ?_
    refine wE_nm 0 rfl ?_
    refine wA_cons ?_
    refine wE_int ?_
    refine wA_nil ?_
    refine ⟨[(p, .box _)], _, List.Perm.refl _, p, 3, _, rfl, rfl, by omega, by omega, by omega, fun t3 ht3 => ?_⟩  --@2:_law_take3
    refine wA_nil ?_
    refine ⟨by simp, ?_⟩  --@2:dis
    skip  --@2:asg
    refine wG_tup ?_ rfl rfl
    refine wTs_cons ?_
    refine wG_nm 5 ?_ nd
    refine wTs_cons ?_
    refine wG_nm 6 ?_ nd
    refine wTs_cons ?_
    refine wG_nm 7 ?_ nd
    refine wTs_nil ?_
    -- 3
    refine wSs_cons ?_
    refine wS_set 3 ?_ nd
    refine wE_join ?_
    refine wE_str ?_
    refine ⟨⟨_, rfl⟩, ?_⟩
    refine wE_C ?_
    refine C_lcI 8 [("k", 8)] nd rfl ?_
    refine wI_rg T.range_ ?_
    refine wE_call H_law_take hr hgu ?_
    refine wA_cons ?_
    refine wE_nm 0 rfl ?_
    refine wA_cons ?_
    refine wE_int ?_
    refine wA_nil ?_
    refine ⟨[(p, .box _)], _, List.Perm.refl _, p, 7, _, rfl, rfl, by omega, by omega, by omega, fun t4 ht4 => ?_⟩  --@3:_law_take
    refine ⟨_, rfl, by omega, ?_⟩  --@3:rng
    refine ⟨_, _, _, fun i acc C' => ∃ (ys : List Str) (m : Nat), acc = ys.map D.str ∧ ys.length = i ∧ (∀ y ∈ ys, ∃ c, c ∈ lettersS.cps.toList ∧ y = sgS c) ∧ m ≤ n + 4 + i ∧ C' = [(p, .box m)], rfl, by rw [List.length_range]; omega, ⟨[], n + 4, rfl, rfl, by simp, by omega, rfl⟩, ?_, ?_⟩  --@3:comp
    · intro i y acc C' hy ym hi iv W s H Cl cl fp
      rw [List.length_range] at hi
      obtain ⟨ys, m, rfl, hl, h1, hm2, rfl⟩ := iv
      refine wE_ix ?_
      refine wE_nm 2 rfl ?_
      refine wE_call H_law_take hr hgu ?_
      refine wA_cons ?_
      refine wE_nm 0 rfl ?_
      refine wA_cons ?_
      refine wE_int ?_
      refine wA_nil ?_
      refine ⟨[(p, .box _)], _, List.Perm.refl _, p, 26, _, rfl, rfl, by omega, by omega, by omega, fun t5 ht5 => ?_⟩  --@3:_law_take2
      refine xD_str (by decide) (atI_nat (letter_at t5 ht5)) ?_  --@3:ix
      exact ⟨ys ++ [sgS (97 + t5)], m + 1, by rw [List.map_append]; rfl, by rw [List.length_append, hl]; rfl, fun y hy => (List.mem_append.mp hy).elim (h1 y) (fun z => ⟨_, letter_in t5 ht5, List.mem_singleton.mp z⟩), by omega, rfl⟩  --@3:compnext
    intro acc C' iv
    rw [List.length_range] at iv
    obtain ⟨ys, m, rfl, hl, h1, hm2, rfl⟩ := iv
    have ones : ∀ y ∈ ys, y.length = 1 := fun y hy => by obtain ⟨c, _, rfl⟩ := h1 y hy; rfl
    refine ⟨_, ys, rfl, rfl, ?_, ?_⟩
    · rw [sum_ones ones, hl]; show t4 + t4 * 0 ≤ _; omega  --@3:join
    generalize hst : Txt.join _ ys = stem
    have hs6 : stem.length ≤ 6 := by rw [← hst, len_joinE rfl, sum_ones ones, hl]; omega
    have hsc : ∀ c ∈ stem.cps.toList, c ∈ lettersS.cps.toList := fun c hc => by
      rw [← hst, tl_joinE rfl, List.mem_flatten] at hc
      obtain ⟨l, hl2, hc⟩ := hc
      obtain ⟨y, hy, rfl⟩ := List.mem_map.mp hl2
      obtain ⟨c2, h2, rfl⟩ := h1 y hy
      have : c = c2 := by simpa [sgS] using hc
      rw [this]; exact h2
    -- 4
    refine wSs_cons ?_
    refine wS_if ?_
    refine wB.wt ?_
    refine' wB_andP ?_ (fun h1 => ?_) ?_
    rotate_left 2
    · skip
      refine wT_cmp ?_
      refine wE_nm 7 rfl ?_
      refine wE_int ?_
      first | refine o_eqI ?_ | refine o_eqS ?_  --@4:eq
      refine ⟨_, rfl, ?_⟩
      exact ⟨rfl, rfl⟩  --@4:bo
    · skip
      refine wB_and1 ?_
      refine wT_cmp ?_
      refine wE_nm 1 rfl ?_
      refine wE_int ?_
      refine o_lt ?_  --@4:lt
      refine ⟨_, rfl, ?_⟩
      exact ⟨rfl, rfl⟩  --@4:bo2
    refine ⟨fun hi2 => ?_, fun hi2 => ?_⟩  --@4:if
    · skip
      -- 5
      refine wSs_cons ?_
      refine wS_ret ?_
      refine wE_C ?_
      refine C_lcM 8 [("k", 8)] nd rfl (List.range many) natD (fun k => .str (nameA t1 k)) ?_ ?_ ?_ ?_  --@5:comp
      · skip
        refine wI_rg T.range_ ?_
        refine wE_nm 1 rfl ?_
        refine ⟨_, rfl, by omega, ?_⟩  --@5:rng
        exact ⟨rfl, rfl⟩  --@5:src
      · skip
        rw [List.length_range]; omega  --@5:siz
      · intro y1 hy1 W s H Cl cl fp
        skip  --@5:pel
        refine wE_bin ?_
        refine wE_ix ?_
        refine wE_nm 2 rfl ?_
        refine wE_nm 5 rfl ?_
        refine xD_str (by decide) (atI_nat (letter_at t1 ht1)) ?_  --@5:ix
        refine wE_bin ?_
        refine wE_nm 8 rfl ?_
        refine wE_int ?_
        first | refine o_add ?_ | refine o_cat (by simp) ?_ | refine o_addS (by simp) ?_  --@5:add
        refine o_mulS (n := y1 + 1) (by have := List.mem_range.mp hy1; omega) (by have := List.mem_range.mp hy1; show 1 * (y1 + 1) ≤ _; omega) ?_  --@5:mul
        exact ⟨rfl, rfl⟩  --@5:fin
      have h9 : many < 9 := by simp at hi2; omega
      have e : (List.range many).map (fun k => D.str (nameA t1 k)) = ((List.range many).map (nameA t1)).map D.str := by rw [List.map_map]; rfl
      rw [e]
      exact q _ _ (nameA_ok ht1 h9) (by rw [List.length_map, List.length_range]) (by omega)  --@5:ret
    refine wSs_nil ?_
    -- 6
    refine wSs_cons ?_
    refine wS_C 4 ?_ nd
    refine C_lcM 8 [("k", 8)] nd rfl (List.range many) natD (fun k => .str (sgS (97 + (t1 + 7 * k) % 26) ++ sgS 97)) ?_ ?_ ?_ ?_  --@6:comp
    · skip
      refine wI_rg T.range_ ?_
      refine wE_nm 1 rfl ?_
      refine ⟨_, rfl, by omega, ?_⟩  --@6:rng
      exact ⟨rfl, rfl⟩  --@6:src
    · skip
      rw [List.length_range]; omega  --@6:siz
    · intro y1 hy1 W s H Cl cl fp
      have hk := List.mem_range.mp hy1  --@6:pel
      refine wE_bin ?_
      refine wE_ix ?_
      refine wE_nm 2 rfl ?_
      refine wE_bin ?_
      refine wE_bin ?_
      refine wE_nm 5 rfl ?_
      refine wE_bin ?_
      refine wE_int ?_
      refine wE_nm 8 rfl ?_
      first | refine o_mul (.inl ⟨by decide, by decide⟩) ?_ | refine o_mul (.inr ⟨by decide, by decide⟩) ?_ | refine o_mul (.inl ⟨by omega, by omega⟩) ?_ | refine o_mul (.inr ⟨by omega, by omega⟩) ?_  --@6:mul
      refine o_add ?_  --@6:add
      refine wE_int ?_
      refine o_mod (by first | decide | omega) ?_  --@6:mod
      have e6 : (((t1 : Int) + 7 * (y1 : Int)) % 26) = (((t1 + 7 * y1) % 26 : Nat) : Int) := by omega
      rw [e6]
      refine xD_str (by decide) (atI_nat (letter_at _ (Nat.mod_lt _ (by decide)))) ?_  --@6:ix
      refine wE_ix ?_
      refine wE_nm 2 rfl ?_
      refine wE_bin ?_
      refine wE_nm 8 rfl ?_
      refine wE_int ?_
      refine o_fdiv (by first | decide | omega) ?_  --@6:div
      have e7 : ((y1 : Int) / 26) = ((0 : Nat) : Int) := by omega
      rw [e7]
      refine xD_str (by decide) (atI_nat (letter_at 0 (by decide))) ?_  --@6:ix2
      refine o_addS (by show 1 + 1 ≤ 100000; decide) ?_  --@6:add2
      exact ⟨rfl, rfl⟩  --@6:fin
    -- 7
    refine wSs_cons ?_
    refine wS_ret ?_
    refine wE_C ?_
    refine C_lcM 9 [("word", 9)] nd rfl (List.range many) (fun k => .str (sgS (97 + (t1 + 7 * k) % 26) ++ sgS 97)) (fun k => .str (nameB t1 t2 stem k)) ?_ ?_ ?_ ?_  --@7:comp
    · skip
      refine wI_lst ?_
      refine wE_nm 4 rfl ?_
      refine ⟨_, .inl rfl, ?_⟩  --@7:it
      exact ⟨rfl, rfl⟩  --@7:src
    · skip
      rw [List.length_range]; omega  --@7:siz
    · intro y1 hy1 W s H Cl cl fp
      have q1 := cutS_len stem none (some (t2 : Int))
      have q2 := cutS_len stem (some (t2 : Int)) none
      have q3 : (sgS (97 + (t1 + 7 * y1) % 26) ++ sgS 97).length = 2 := by rw [app_len]; rfl  --@7:pel
      refine wE_bin ?_
      refine wE_bin ?_
      refine wE_sl ?_
      refine wE_nm 3 rfl ?_
      refine pO_none ?_
      refine pO_some ?_
      refine wE_nm 6 rfl ?_
      refine ⟨_, rfl, ?_⟩
      refine sD_str (by omega) ?_  --@7:sl
      refine wE_nm 9 rfl ?_
      refine o_addS (by omega) ?_  --@7:add
      refine wE_sl ?_
      refine wE_nm 3 rfl ?_
      refine pO_some ?_
      refine wE_nm 6 rfl ?_
      refine ⟨_, rfl, ?_⟩
      refine pO_none ?_
      refine sD_str (by omega) ?_  --@7:sl2
      refine o_addS (by rw [app_len]; omega) ?_  --@7:add2
      exact ⟨rfl, rfl⟩  --@7:fin
    have e : (List.range many).map (fun k => D.str (nameB t1 t2 stem k)) = ((List.range many).map (nameB t1 t2 stem)).map D.str := by rw [List.map_map]; rfl
    rw [e]
    exact q _ _ (nameB_ok hm hs6 hsc) (by rw [List.length_map, List.length_range]) (by omega)  --@7:ret


structure PeopleOk (ts cs : List Str) : Prop where
  t1 : 1 ≤ ts.length
  t8 : ts.length ≤ 8
  c1 : 1 ≤ cs.length
  c8 : cs.length ≤ 8
  ok : NamesOk (ts ++ cs)
/-! law_people -/
theorem sc_law_people : FnScope ["box", "names", "ours", "theirs"] ["box"] (defScope (top 35)) := ⟨rfl, rfl, rfl, by decide +kernel, rfl, by decide +kernel, by decide +kernel⟩
def fPeople : FS := fun ds C Kn _ => ∃ (p : Addr) (n : Nat), ds = [.ref p] ∧ C = [(p, .box n)] ∧ n < 800000 ∧ ∀ ts cs m, PeopleOk ts cs → m ≤ n + 30 → Kn (.tup [.lst (ts.map D.str), .lst (cs.map D.str)]) [(p, .box m)]
theorem ok_law_people {f : Addr} {fd : FuncData} (Fu : Fun K "_law_people" "_law_people" (top 35) f fd) (T : Bn K mg ad) (H_law_names : Has P w K mg base "_law_names" 2 (fNames)) (H_law_take : Has P w K mg base "_law_take" 1 (fTake)) : FnG P w K mg base 3 f fd ["box"] (fPeople) := by
  refine fnG_of Fu sc_law_people (fun ds C Kn Ke h => ?_) (fun cdv A outer s H E W ds C Kn Ke hr hgu hx hF hio => ?_)
  · obtain ⟨p, n, rfl, rfl, hn, q⟩ := h; rfl
  · obtain ⟨p, n, rfl, rfl, hn, q⟩ := hF
    have nd := sc_law_people.nd
    -- 1
    refine wSs_cons ?_
    refine wS_par 2 3 ?_ nd
    refine wA_cons ?_
    refine wE_ix ?_
    refine wE_lst ?_
    refine wA_cons ?_
    refine wE_bin ?_
    refine wE_int ?_
    refine wE_call H_law_take hr hgu ?_
    refine wA_cons ?_
    refine wE_nm 0 rfl ?_
    refine wA_cons ?_
    refine wE_int ?_
    refine wA_nil ?_
    refine ⟨[(p, .box _)], _, List.Perm.refl _, p, 8, _, rfl, rfl, by omega, by omega, by omega, fun t1 ht1 => ?_⟩  --@1:_law_take
    first | refine o_add ?_ | refine o_cat (by simp) ?_ | refine o_addS (by simp) ?_  --@1:add
    refine wA_cons ?_
    refine wE_bin ?_
    refine wE_int ?_
    refine wE_call H_law_take hr hgu ?_
    refine wA_cons ?_
    refine wE_nm 0 rfl ?_
    refine wA_cons ?_
    refine wE_int ?_
    refine wA_nil ?_
    refine ⟨[(p, .box _)], _, List.Perm.refl _, p, 4, _, rfl, rfl, by omega, by omega, by omega, fun t2 ht2 => ?_⟩  --@1:_law_take2
    first | refine o_add ?_ | refine o_cat (by simp) ?_ | refine o_addS (by simp) ?_  --@1:add2
    refine wA_nil ?_
    refine ⟨by simp, ?_⟩  --@1:dis
    refine wE_call H_law_take hr hgu ?_
    refine wA_cons ?_
    refine wE_nm 0 rfl ?_
    refine wA_cons ?_
    refine wE_int ?_
    refine wA_nil ?_
    refine ⟨[(p, .box _)], _, List.Perm.refl _, p, 2, _, rfl, rfl, by omega, by omega, by omega, fun t3 ht3 => ?_⟩  --@1:_law_take3
    refine xD_ints ht3 rfl fun z hz => ?_
    obtain ⟨o, rfl, ho1, ho8⟩ : ∃ o : Nat, z = o ∧ 1 ≤ o ∧ o ≤ 8 := by
      simp only [List.mem_cons, List.not_mem_nil, or_false, D.int.injEq] at hz
      rcases hz with h | h
      · exact ⟨1 + t1, by omega, by omega, by omega⟩
      · exact ⟨1 + t2, by omega, by omega, by omega⟩  --@1:ix
    refine wA_cons ?_
    refine wE_bin ?_
    refine wE_int ?_
    refine wE_call H_law_take hr hgu ?_
    refine wA_cons ?_
    refine wE_nm 0 rfl ?_
    refine wA_cons ?_
    refine wE_int ?_
    refine wA_nil ?_
    refine ⟨[(p, .box _)], _, List.Perm.refl _, p, 8, _, rfl, rfl, by omega, by omega, by omega, fun t4 ht4 => ?_⟩  --@1:_law_take4
    first | refine o_add ?_ | refine o_cat (by simp) ?_ | refine o_addS (by simp) ?_  --@1:add3
    refine wA_nil ?_
    refine ⟨_, _, rfl, ?_⟩
    -- 2
    refine wSs_cons ?_
    refine wS_set 1 ?_ nd
    refine wE_call H_law_names hr hgu ?_
    refine wA_cons ?_
    refine wE_nm 0 rfl ?_
    refine wA_cons ?_
    refine wE_bin ?_
    refine wE_nm 2 rfl ?_
    refine wE_nm 3 rfl ?_
    first | refine o_add ?_ | refine o_cat (by simp) ?_ | refine o_addS (by simp) ?_  --@2:add
    refine wA_nil ?_
    refine ⟨[(p, .box _)], _, List.Perm.refl _, p, _, o + (1 + t4), congrArg (fun z => [D.ref p, D.int z]) (by omega), rfl, by omega, by omega, fun ws m hws hwl hm => ?_⟩  --@2:_law_names
    -- 3
    refine wSs_cons ?_
    refine wS_ret ?_
    refine wE_tup ?_
    refine wA_cons ?_
    refine wE_sl ?_
    refine wE_nm 1 rfl ?_
    refine pO_none ?_
    refine pO_some ?_
    refine wE_nm 2 rfl ?_
    refine ⟨_, rfl, ?_⟩
    refine sD_lst ?_  --@3:sl
    refine wA_cons ?_
    refine wE_sl ?_
    refine wE_nm 1 rfl ?_
    refine pO_some ?_
    refine wE_nm 2 rfl ?_
    refine ⟨_, rfl, ?_⟩
    refine pO_none ?_
    refine sD_lst ?_  --@3:sl2
    refine wA_nil ?_
    refine ⟨by simp, ?_⟩  --@3:dis
    rw [cutD_to, cutD_from]
    exact q _ _ _ ⟨by rw [List.length_take]; omega, by rw [List.length_take]; omega, by rw [List.length_drop]; omega, by rw [List.length_drop]; omega, by rw [List.take_append_drop]; exact hws⟩ (by omega)  --@3:ret


/-! is_list -/
theorem sc_is_list : FnScope ["value", "least", "most"] ["value", "least", "most"] (defScope (top 13)) := ⟨rfl, rfl, rfl, by decide +kernel, rfl, by decide +kernel, by decide +kernel⟩
/-- a list or tuple of so many items -/
def ListV (C : Cells) (d : D) (lo hi : Int) (b : Bool) : Prop := (∃ xs, SeqIn C d xs ∧ b = (decide (lo ≤ xs.length) && decide ((xs.length : Int) ≤ hi))) ∨ (∃ s, KindC C d s ∧ instT s "list" = false ∧ instT s "tuple" = false ∧ b = false)
theorem ListV.cons {C : Cells} {d : D} {lo hi : Int} {b : Bool} (q : Addr × Cl) (h : ListV C d lo hi b) : ListV (q :: C) d lo hi b := by
  rcases h with ⟨xs, h, e⟩ | ⟨s, h, r⟩
  · exact .inl ⟨xs, h.cons q, e⟩
  · exact .inr ⟨s, h.cons q, r⟩
def fIsList : FS := fun ds C Kn _ => ∃ d lo hi b, ds = [d, .int lo, .int hi] ∧ ListV C d lo hi b ∧ Kn (.bl b) C
theorem ok_is_list {f : Addr} {fd : FuncData} (Fu : Fun K "is_list" "is_list" (top 13) f fd) (T : Bn K mg ad) : FnG P w K mg base 1 f fd ["value", "least", "most"] fIsList := by
  refine fnG_of Fu sc_is_list (fun ds C Kn Ke h => ?_) (fun cdv A outer s H E W ds C Kn Ke hr hgu hx hF hio => ?_)
  · obtain ⟨d, lo, hi, b, rfl, _⟩ := h; rfl
  · obtain ⟨d, lo, hi, b, rfl, hv, q⟩ := hF
    refine wSs_cons (wS_ret ?_)
    rcases hv with ⟨xs, hs, rfl⟩ | ⟨s1, hk, h1, h2, rfl⟩
    · obtain ⟨s1, hk, hs1⟩ := hs.kind
      refine wE_andP (p := true) (q := (decide (lo ≤ xs.length) && decide ((xs.length : Int) ≤ hi))) ?_ (fun _ => ?_) (by rw [Bool.true_and]; exact q)
      · refine wE_callB "isinstance" (by decide +kernel) T.isinstance_ (wA_cons (wE_nm 0 rfl (wA_cons (wE_tup (wA_cons (wE_ty T.list_ (T := "list") (by decide +kernel) (wA_cons (wE_ty T.tuple_ (T := "tuple") (by decide +kernel) (wA_nil ⟨by simp, wA_nil (c_isi2K hk ⟨?_, rfl⟩)⟩)))))))))
        rcases hs1 with rfl | rfl <;> rfl
      · refine wE_one (wE_chain (wE_nm 1 rfl (wE_callB "len" (by decide +kernel) T.len_ (wA_cons (wE_nm 0 rfl (wA_nil (c_lenQ hs (o_le ?_))))))))
        exact wE_chainP (u := decide ((xs.length : Int) ≤ hi)) (fun _ => wE_nm 2 rfl (o_le ⟨rfl, rfl⟩)) ⟨rfl, rfl⟩
    · refine wE_andP (p := false) (q := false) ?_ (fun h => by cases h) q
      refine wE_callB "isinstance" (by decide +kernel) T.isinstance_ (wA_cons (wE_nm 0 rfl (wA_cons (wE_tup (wA_cons (wE_ty T.list_ (T := "list") (by decide +kernel) (wA_cons (wE_ty T.tuple_ (T := "tuple") (by decide +kernel) (wA_nil ⟨by simp, wA_nil (c_isi2K hk ⟨?_, rfl⟩)⟩)))))))))
      rw [h1, h2]; rfl

inductive NRes where
  | ok (ss : List Str) | bad (d : D) | twice (d : D)
/-- names, one by one: those seen so far -/
def scanN (ss : List Str) : List D → NRes
  | [] => .ok ss
  | .str x :: r => if isNameS x = true then (if x ∈ ss then .twice (.str x) else scanN (ss ++ [x]) r) else .bad (.str x)
  | d :: _ => .bad d
theorem scanN_bad {ss : List Str} {y : D} {r : List D} (h : isNameB y = false) : scanN ss (y :: r) = .bad y := by
  cases y <;> first | rfl | skip
  rename_i x
  have h' : isNameS x = false := h
  show (if isNameS x = true then _ else _) = _
  rw [if_neg (by rw [h']; decide)]
theorem scanN_twice {ss : List Str} {x : Str} {r : List D} (h : isNameS x = true) (h2 : x ∈ ss) : scanN ss (.str x :: r) = .twice (.str x) := by
  show (if isNameS x = true then _ else _) = _
  rw [if_pos h, if_pos h2]
theorem scanN_next {ss : List Str} {x : Str} {r : List D} (h : isNameS x = true) (h2 : x ∉ ss) : scanN ss (.str x :: r) = scanN (ss ++ [x]) r := by
  show (if isNameS x = true then _ else _) = _
  rw [if_pos h, if_neg h2]
theorem nameB_str {y : D} (h : isNameB y = true) : ∃ x, y = .str x ∧ isNameS x = true := by
  cases y <;> first | (cases h; done) | exact ⟨_, rfl, h⟩
theorem drop_next {α : Type} {xs : List α} {i : Nat} {y : α} (h : xs[i]? = some y) : xs.drop i = y :: xs.drop (i + 1) := by
  have := (List.getElem?_eq_some_iff.mp h)
  rw [List.drop_eq_getElem_cons this.1, this.2]
/-! need_names -/
theorem sc_need_names : FnScope ["names", "seen", "name"] ["names", "seen"] (defScope (top 17)) := ⟨rfl, rfl, rfl, by decide +kernel, rfl, by decide +kernel, by decide +kernel⟩
/-- the names of a list, checked: r is what comes of it -/
def NamesR (R : Cells) (d : D) (ss : List Str) (r : NRes) : Prop := ∃ b, ListV R d 1 8 b ∧ (b = false → r = .bad d) ∧ (b = true → ∃ xs, SeqF d xs ∧ xs.length ≤ 8 ∧ (∀ y ∈ xs, KC R y) ∧ r = scanN ss xs)
def fNeedNames (ad : Ad) : FS := fun ds C Kn Ke => ∃ d q ss R r b, ds = [d, .ref q] ∧ C = (q, .lst (ss.map D.str)) :: R ∧ ss.length ≤ 1000 ∧ ListV R d 1 8 b ∧ (b = false → r = .bad d) ∧ (b = true → ∃ xs, SeqF d xs ∧ xs.length ≤ 8 ∧ (∀ y ∈ xs, KC R y) ∧ r = scanN ss xs) ∧
  (∀ ss', r = .ok ss' → Kn .non ((q, .lst (ss'.map D.str)) :: R)) ∧ (∀ y, r = .bad y → ∀ C', Sub R C' → Ke ⟨ad.BadNames, some ("found", y)⟩ C') ∧ (∀ y, r = .twice y → ∀ C', Sub R C' → Ke ⟨ad.Doubled, some ("found", y)⟩ C')
theorem ok_need_names {f : Addr} {fd : FuncData} (Fu : Fun K "need_names" "need_names" (top 17) f fd) (T : Bn K mg ad) (HE_BadNames : ErT P w K mg base "BadNames" ad.BadNames "found") (His_list : Has P w K mg base "is_list" 1 (fIsList)) (HE_Doubled : ErT P w K mg base "Doubled" ad.Doubled "found") (His_name : Has P w K mg base "is_name" 1 (fIsName)) : FnG P w K mg base 3 f fd ["names", "seen"] (fNeedNames ad) := by
  refine fnG_of Fu sc_need_names (fun ds C Kn Ke h => ?_) (fun cdv A outer s H E W ds C Kn Ke hr hgu hx hF hio => ?_)
  · obtain ⟨d, q, ss, R, r, b, rfl, rfl, hss, hb, hbF, hbT, q1, q2, q3⟩ := h; rfl
  · obtain ⟨d, q, ss, R, r, b, rfl, rfl, hss, hb, hbF, hbT, q1, q2, q3⟩ := hF
    have nd := sc_need_names.nd
    -- 1
    refine wSs_cons ?_
    refine wS_if ?_
    refine wT_not ?_
    refine wT_val ?_
    refine wE_callA hx His_list hr hgu ?_
    refine wA_cons ?_
    refine wE_nm 0 rfl ?_
    refine wA_cons ?_
    refine wE_int ?_
    refine wA_cons ?_
    obtain ⟨u_, hu_, ru_⟩ := T.MOST_NAMES_
    refine wE_gl hu_ ru_ (fun P => .int _) ?_
    refine wA_nil ?_
    refine ⟨_, _, _, b, rfl, hb.cons _, ?_⟩  --@1:is_list
    refine ⟨_, rfl, ?_⟩
    refine ⟨fun hi1 => ?_, fun hi1 => ?_⟩  --@1:if
    · skip
      -- 2
      refine wSs_cons ?_
      refine wS_raise hx HE_BadNames hr ?_
      refine wA_cons ?_
      refine wE_nm 0 rfl ?_
      refine wA_nil ?_
      refine ⟨_, rfl, ?_⟩
      exact q2 d (hbF (by simpa using hi1)) _ Sub.cons  --@2:raise
    refine wSs_nil ?_
    -- 3
    obtain ⟨xs, hsF, h8, hit, hr⟩ := hbT (by simpa using hi1)
    subst hr
    refine wSs_cons ?_
    refine wS_forI ?_ bX_own rfl
    refine wI_seqF hsF ?_
    refine wE_nm 0 rfl ?_
    refine ⟨rfl, ?_⟩
    refine ⟨D, xs, id, fun i G' C' => ∃ g ss', G' = [some d, some (.ref q), g] ∧ C' = (q, .lst (ss'.map D.str)) :: R ∧ ss'.length ≤ ss.length + i ∧ scanN ss xs = scanN ss' (xs.drop i), (List.map_id _).symm, ⟨_, ss, rfl, rfl, by omega, rfl⟩, ?_, ?_⟩  --@3:for
    · intro i y G' C' hy ym hi iv
      obtain ⟨g, ss', rfl, rfl, hl, hsc⟩ := iv
      rw [drop_next hy] at hsc
      refine wG_nm 2 ?_ nd
      skip  --@3:tgt
      -- 4
      refine wSs_cons ?_
      refine wS_if ?_
      refine wT_not ?_
      refine wT_val ?_
      refine wE_callA hx His_name hr hgu ?_
      refine wA_cons ?_
      refine wE_nm 2 rfl ?_
      refine wA_nil ?_
      refine ⟨_, rfl, (hit y ym).cons _, ?_⟩  --@4:is_name
      refine ⟨_, rfl, ?_⟩
      refine ⟨fun hi2 => ?_, fun hi2 => ?_⟩  --@4:if
      · skip
        -- 5
        refine wSs_cons ?_
        refine wS_raise hx HE_BadNames hr ?_
        refine wA_cons ?_
        refine wE_nm 2 rfl ?_
        refine wA_nil ?_
        refine ⟨_, rfl, ?_⟩
        exact q2 y (by rw [hsc]; exact scanN_bad (by simpa using hi2)) _ Sub.cons  --@5:raise
      refine wSs_nil ?_
      -- 6
      obtain ⟨x, rfl, hxn⟩ := nameB_str (by simpa using hi2 : isNameB y = true)
      refine wSs_cons ?_
      refine wS_if ?_
      refine wT_cmp ?_
      refine wE_nm 2 rfl ?_
      refine wE_nm 1 rfl ?_
      refine o_inStrs (.inr (.inr ⟨q, 0, rfl, rfl⟩)) ?_  --@6:in
      refine ⟨_, rfl, ?_⟩
      refine ⟨fun hi3 => ?_, fun hi3 => ?_⟩  --@6:if
      · skip
        -- 7
        refine wSs_cons ?_
        refine wS_raise hx HE_Doubled hr ?_
        refine wA_cons ?_
        refine wE_nm 2 rfl ?_
        refine wA_nil ?_
        refine ⟨_, rfl, ?_⟩
        exact q3 (.str x) (by rw [hsc]; exact scanN_twice hxn (by simpa using hi3)) _ Sub.cons  --@7:raise
      refine wSs_nil ?_
      -- 8
      refine wSs_cons ?_
      refine wS_expr ?_
      refine wE_m PySem.F.plainAttrs_list PySem.F.slot_list_append PySem.F.type_list_append ?_
      refine wE_nm 1 rfl ?_
      refine ⟨by first | rfl | exact .inl ⟨rfl, _, List.mem_cons_self⟩ | exact .inl ⟨rfl, _, List.mem_cons_of_mem _ List.mem_cons_self⟩ | exact .inl ⟨rfl, _, by simp⟩, ?_⟩  --@8:ty
      refine wA_cons ?_
      refine wE_nm 2 rfl ?_
      refine wA_nil ?_
      refine m_append 0 rfl (by rw [List.length_map]; omega) ?_  --@8:append
      refine wSs_nil ?_
      exact ⟨_, ss' ++ [x], rfl, by rw [List.map_append]; rfl, by rw [List.length_append]; show ss'.length + 1 ≤ _; omega, by rw [hsc]; exact scanN_next hxn (by simpa using hi3)⟩  --@3:next
    intro G' C' iv
    obtain ⟨g, ss', rfl, rfl, hl, hsc⟩ := iv
    rw [List.drop_length] at hsc  --@3:done
    refine wSs_nil ?_
    exact q1 ss' hsc

def isLessonB (ts cs : List Str) : D → Bool
  | .tup [.str a, .str b] => isNameS a && isNameS b && decide (a ∈ ts) && decide (b ∈ cs)
  | _ => false
theorem lessonB_no {ts cs : List Str} {v : D} (h : ∀ a b, v ≠ .tup [.str a, .str b]) : isLessonB ts cs v = false := by
  unfold isLessonB
  split
  · exact absurd rfl (h _ _)
  · rfl
theorem kind_tup {C : Cells} {v : D} {s : String} (h : KindC C v s) (e : instT s "tuple" = true) : ∃ ys, v = .tup ys := by
  cases h with
  | base h => cases v <;> first | exact ⟨_, rfl⟩ | (cases h; done) | (cases h; exact absurd e (by decide))
  | lst i h => exact absurd e (by decide)
  | dct i h => exact absurd e (by decide)
theorem not_tup {C : Cells} {ys : List D} {s : String} (h : KindC C (.tup ys) s) : s = "tuple" := by
  cases h with
  | base h => cases h; rfl
theorem lessonB_ab {ts cs : List Str} {a b : D} (h : isNameB a = false ∨ isNameB b = false) : isLessonB ts cs (.tup [a, b]) = false := by
  by_cases ha : ∃ x, a = .str x
  · by_cases hb : ∃ y, b = .str y
    · obtain ⟨x, rfl⟩ := ha
      obtain ⟨y, rfl⟩ := hb
      show (isNameS x && isNameS y && _ && _) = false
      rcases h with h | h
      · rw [show isNameS x = false from h]; rfl
      · rw [show isNameS y = false from h, Bool.and_false]; rfl
    · exact lessonB_no fun x y e => hb ⟨y, by cases e; rfl⟩
  · exact lessonB_no fun x y e => ha ⟨x, by cases e; rfl⟩
theorem two_of {α : Type} {l : List α} (h : l.length = 2) : ∃ a b, l = [a, b] := by
  match l, h with
  | [a, b], _ => exact ⟨a, b, rfl⟩
/-! School_is_lesson -/
theorem sc_School_is_lesson : FnScope ["self", "value"] ["self", "value"] (defScope (inner (top 18) 4)) := ⟨rfl, rfl, rfl, by decide +kernel, rfl, by decide +kernel, by decide +kernel⟩
def fIsLesson (ad : Ad) : FS := fun ds C Kn _ => ∃ d v ts cs ns dd, ds = [d, v] ∧ InsD C d ad.School ns dd ∧ (ns.zip dd).lookup ("school_teachers" : Str) = some (D.lst (ts.map D.str)) ∧ (ns.zip dd).lookup ("school_classes" : Str) = some (D.lst (cs.map D.str)) ∧ KC C v ∧ (∀ ys, v = .tup ys → ∀ y ∈ ys, KC C y) ∧ Kn (.bl (isLessonB ts cs v)) C
theorem ok_School_is_lesson {f : Addr} {fd : FuncData} (Fu : Fun K "is_lesson" "School.is_lesson" (inner (top 18) 4) f fd) (T : Bn K mg ad) (His_name : Has P w K mg base "is_name" 1 (fIsName)) : FnG P w K mg base 2 f fd ["self", "value"] (fIsLesson ad) := by
  refine fnG_of Fu sc_School_is_lesson (fun ds C Kn Ke h => ?_) (fun cdv A outer s H E W ds C Kn Ke hr hgu hx hF hio => ?_)
  · obtain ⟨d, v, ts, cs, ns, dd, rfl, hi, l1, l2, ⟨⟨s1, hk⟩, hs⟩, hit, q⟩ := h; rfl
  · obtain ⟨d, v, ts, cs, ns, dd, rfl, hi, l1, l2, ⟨⟨s1, hk⟩, hs⟩, hit, q⟩ := hF
    have nd := sc_School_is_lesson.nd
    -- 1
    refine wSs_cons ?_
    refine wS_if ?_
    refine wB.wt ?_
    refine wB_or ?_
    refine wT_not ?_
    refine wT_val ?_
    refine wE_isiK "tuple" T.isinstance_ T.tuple_ (by decide +kernel) ?_
    refine wE_nm 1 rfl ?_
    refine ⟨_, hk, ?_⟩  --@1:isi
    refine ⟨_, rfl, ?_⟩
    refine ⟨fun hc1 => ?_, fun hc1 => ?_⟩  --@1:bo
    · skip
      refine ⟨fun _ => ?_, (fun h => by cases h)⟩
      -- 2
      refine wSs_cons ?_
      refine wS_ret ?_
      refine wE_bl ?_
      rw [lessonB_no fun a b e => by subst e; obtain rfl := not_tup hk; revert hc1; decide] at q; exact q  --@2:ret
    refine wB_or ?_
    refine wT_cmp ?_
    refine wE_callB "len" (by decide +kernel) T.len_ ?_
    refine wA_cons ?_
    refine wE_nm 1 rfl ?_
    refine wA_nil ?_
    obtain ⟨ys, rfl⟩ := kind_tup hk (by simpa using hc1)
    refine c_lenU ?_  --@1:len
    refine wE_int ?_
    first | refine o_neI ?_ | refine o_neS ?_  --@1:ne
    refine ⟨_, rfl, ?_⟩
    refine ⟨fun hc2 => ?_, fun hc2 => ?_⟩  --@1:bo2
    · skip
      refine ⟨fun _ => ?_, (fun h => by cases h)⟩
      -- 2
      refine wSs_cons ?_
      refine wS_ret ?_
      refine wE_bl ?_
      rw [lessonB_no fun a b e => by cases e; simp at hc2] at q; exact q  --@2:ret2
    refine wB_or ?_
    refine wT_not ?_
    refine wT_val ?_
    refine wE_callA hx His_name hr hgu ?_
    refine wA_cons ?_
    refine wE_ix ?_
    refine wE_nm 1 rfl ?_
    refine wE_int ?_
    obtain ⟨a, b, rfl⟩ := two_of (l := ys) (by simp at hc2; omega)
    have ka := hit _ rfl a (by simp)
    have kb := hit _ rfl b (by simp)
    refine xD_tup (i := 0) (d := a) rfl ?_  --@1:ix
    refine wA_nil ?_
    refine ⟨_, rfl, ka, ?_⟩  --@1:is_name
    refine ⟨_, rfl, ?_⟩
    refine ⟨fun hc3 => ?_, fun hc3 => ?_⟩  --@1:bo3
    · skip
      refine ⟨fun _ => ?_, (fun h => by cases h)⟩
      -- 2
      refine wSs_cons ?_
      refine wS_ret ?_
      refine wE_bl ?_
      rw [lessonB_ab (.inl (by simpa using hc3))] at q; exact q  --@2:ret3
    refine wB_or1 ?_
    refine wT_not ?_
    refine wT_val ?_
    refine wE_callA hx His_name hr hgu ?_
    refine wA_cons ?_
    refine wE_ix ?_
    refine wE_nm 1 rfl ?_
    refine wE_int ?_
    refine xD_tup (i := 1) (d := b) rfl ?_  --@1:ix2
    refine wA_nil ?_
    refine ⟨_, rfl, kb, ?_⟩  --@1:is_name2
    refine ⟨_, rfl, ?_⟩
    refine ⟨fun hi4 => ?_, fun hi4 => ?_⟩  --@1:if
    · skip
      -- 2
      refine wSs_cons ?_
      refine wS_ret ?_
      refine wE_bl ?_
      rw [lessonB_ab (.inr (by simpa using hi4))] at q; exact q  --@2:ret4
    refine wSs_nil ?_
    -- 3
    obtain ⟨x, rfl, hx1⟩ := nameB_str (by simpa using hc3 : isNameB a = true)
    obtain ⟨y, rfl, hy1⟩ := nameB_str (by simpa using hi4 : isNameB b = true)
    refine wSs_cons ?_
    refine wS_ret ?_
    refine' wE_andP ?_ (fun h5 => ?_) ?_
    rotate_left 2
    · skip
      refine wE_cmp ?_
      refine wE_ix ?_
      refine wE_nm 1 rfl ?_
      refine wE_int ?_
      refine xD_tup (i := 0) rfl ?_  --@3:ix
      refine wE_fld ?_
      refine wE_nm 0 rfl ?_
      refine ⟨_, _, _, _, hi, T.K_School.cls, T.nf_School_school_teachers, l1, ?_⟩  --@3:fld
      refine o_inStrs (.inl rfl) ?_  --@3:in
      exact ⟨rfl, rfl⟩  --@3:bo
    · skip
      refine wE_one ?_
      refine wE_cmp ?_
      refine wE_ix ?_
      refine wE_nm 1 rfl ?_
      refine wE_int ?_
      refine xD_tup (i := 1) rfl ?_  --@3:ix2
      refine wE_fld ?_
      refine wE_nm 0 rfl ?_
      refine ⟨_, _, _, _, hi, T.K_School.cls, T.nf_School_school_classes, l2, ?_⟩  --@3:fld2
      refine o_inStrs (.inl rfl) ?_  --@3:in2
      exact ⟨rfl, rfl⟩  --@3:bo2
    have e : isLessonB ts cs (.tup [.str x, .str y]) = (decide (x ∈ ts) && decide (y ∈ cs)) := by show (isNameS x && isNameS y && _ && _) = _; rw [hx1, hy1]; rfl
    rw [e] at q; exact q  --@3:ret

theorem NamesR.cons {R : Cells} {d : D} {ss : List Str} {r : NRes} (q : Addr × Cl) (h : NamesR R d ss r) : NamesR (q :: R) d ss r := by
  obtain ⟨b, h1, h2, h3⟩ := h
  exact ⟨b, h1.cons q, h2, fun e => by obtain ⟨xs, a, b, c, d⟩ := h3 e; exact ⟨xs, a, b, fun y hy => (c y hy).cons q, d⟩⟩
theorem scanN_ok : ∀ {xs : List D} {ss ss' : List Str}, scanN ss xs = .ok ss' → ∃ ts, xs = ts.map D.str ∧ ss' = ss ++ ts
  | [], ss, ss', h => ⟨[], rfl, by cases h; rw [List.append_nil]⟩
  | y :: r, ss, ss', h => by
    cases hy : isNameB y with
    | false => rw [scanN_bad hy] at h; cases h
    | true =>
      obtain ⟨x, rfl, hx⟩ := nameB_str hy
      by_cases hm : x ∈ ss
      · rw [scanN_twice hx hm] at h; cases h
      · rw [scanN_next hx hm] at h
        obtain ⟨ts, rfl, e⟩ := scanN_ok h
        exact ⟨x :: ts, rfl, by rw [e, List.append_assoc]; rfl⟩
theorem NamesR.ok {R : Cells} {d : D} {ss ss' : List Str} (h : NamesR R d ss (.ok ss')) : ∃ ts, SeqF d (ts.map D.str) ∧ ts.length ≤ 8 ∧ ss' = ss ++ ts := by
  obtain ⟨b, h1, h2, h3⟩ := h
  cases b with
  | false => cases h2 rfl
  | true =>
    obtain ⟨xs, a, hl, c, d⟩ := h3 rfl
    obtain ⟨ts, rfl, e⟩ := scanN_ok d.symm
    exact ⟨ts, a, by rw [List.length_map] at hl; exact hl, e⟩
inductive SRes where
  | names (y : D) | twice (y : D) | lessons (y : D) | lesson (y : D) | ok (ts cs : List Str) (ps : List (Str × Str))
def lesP : D → Str × Str
  | .tup [.str a, .str b] => (a, b)
  | _ => (⟨#[]⟩, ⟨#[]⟩)
def scanL (ts cs : List Str) (ls : List D) : SRes := match ls.find? (fun y => !isLessonB ts cs y) with
  | some y => .lesson y
  | none => .ok ts cs (ls.map lesP)
theorem lessonB_is {ts cs : List Str} {y : D} (h : isLessonB ts cs y = true) : y = lesD (lesP y) := by
  by_cases hv : ∃ a b, y = .tup [.str a, .str b]
  · obtain ⟨a, b, rfl⟩ := hv; rfl
  · rw [lessonB_no fun a b e => hv ⟨a, b, e⟩] at h; cases h
theorem scanL_bad {ts cs : List Str} {ls : List D} {i : Nat} {y : D} (hi : ls[i]? = some y) (hb : ∀ j z, j < i → ls[j]? = some z → isLessonB ts cs z = true) (hy : isLessonB ts cs y = false) : scanL ts cs ls = .lesson y := by
  have e : ls.find? (fun y => !isLessonB ts cs y) = some y := by
    have spl : ls = ls.take i ++ y :: ls.drop (i + 1) := by rw [← drop_next hi, List.take_append_drop]
    rw [spl, List.find?_append]
    have n : (ls.take i).find? (fun y => !isLessonB ts cs y) = none := by
      rw [List.find?_eq_none]
      intro z hz
      obtain ⟨j, hj⟩ := List.mem_iff_getElem?.mp hz
      have hlt : j < i := by
        have := (List.getElem?_eq_some_iff.mp hj).1
        rw [List.length_take] at this; omega
      rw [List.getElem?_take_of_lt hlt] at hj
      rw [hb j z hlt hj]; decide
    rw [n]
    simp [List.find?, hy]
  unfold scanL; rw [e]
theorem scanL_ok {ts cs : List Str} {ls : List D} (hb : ∀ z ∈ ls, isLessonB ts cs z = true) : scanL ts cs ls = .ok ts cs (ls.map lesP) ∧ ls = (ls.map lesP).map lesD := by
  have e : ls.find? (fun y => !isLessonB ts cs y) = none := by
    rw [List.find?_eq_none]
    intro z hz; rw [hb z hz]; decide
  refine ⟨by unfold scanL; rw [e], ?_⟩
  rw [List.map_map]
  exact (List.map_id ls).symm.trans (List.map_congr_left fun z hz => lessonB_is (hb z hz))
/-! School___init__ -/
theorem sc_School___init__ : FnScope ["self", "teachers", "classes", "lessons", "seen", "lesson"] ["self", "teachers", "classes", "lessons"] (defScope (inner (top 18) 0)) := ⟨rfl, rfl, rfl, by decide +kernel, rfl, by decide +kernel, by decide +kernel⟩
/-- what comes of School(t, c, l) -/
def SchoolR (R : Cells) (t c l : D) (r : SRes) : Prop := ∃ r1, NamesR R t [] r1 ∧ (∀ y, r1 = .bad y → r = .names y) ∧ (∀ y, r1 = .twice y → r = .twice y) ∧ ∀ s1, r1 = .ok s1 → ∃ r2, NamesR R c s1 r2 ∧ (∀ y, r2 = .bad y → r = .names y) ∧ (∀ y, r2 = .twice y → r = .twice y) ∧
  ∀ s2, r2 = .ok s2 → ∃ b, ListV R l 0 40 b ∧ (b = false → r = .lessons l) ∧ (b = true → ∃ ls, SeqF l ls ∧ ls.length ≤ 40 ∧ (∀ y ∈ ls, KC R y ∧ ∀ ys, y = .tup ys → ∀ z ∈ ys, KC R z) ∧ ∀ ts cs, SeqF t (ts.map D.str) → SeqF c (cs.map D.str) → r = scanL ts cs ls)
def fSchoolInit (ad : Ad) : FS := fun ds C Kn Ke => ∃ p t c l R r, ds = [.ref p, t, c, l] ∧ C = (p, .ins ad.School [] []) :: R ∧ SchoolR R t c l r ∧ (∀ y, r = .names y → ∀ C', Sub R C' → Ke ⟨ad.BadNames, some ("found", y)⟩ C') ∧ (∀ y, r = .twice y → ∀ C', Sub R C' → Ke ⟨ad.Doubled, some ("found", y)⟩ C') ∧
  (∀ y, r = .lessons y → ∀ C', Sub R C' → Ke ⟨ad.BadLessons, some ("found", y)⟩ C') ∧ (∀ y, r = .lesson y → ∀ C', Sub R C' → Ke ⟨ad.BadLesson, some ("found", y)⟩ C') ∧
  (∀ ts cs ps, r = .ok ts cs ps → Kn .non ((p, .ins ad.School ["school_teachers", "school_classes", "school_lessons"] [.lst (ts.map D.str), .lst (cs.map D.str), .lst (ps.map lesD)]) :: R))
theorem ok_School___init__ {f : Addr} {fd : FuncData} (Fu : Fun K "__init__" "School.__init__" (inner (top 18) 0) f fd) (T : Bn K mg ad) (Hneed_names : Has P w K mg base "need_names" 3 (fNeedNames ad)) (HE_BadLessons : ErT P w K mg base "BadLessons" ad.BadLessons "found") (His_list : Has P w K mg base "is_list" 1 (fIsList)) (HE_BadLesson : ErT P w K mg base "BadLesson" ad.BadLesson "found") (HM_School_is_lesson : HasM P w K mg base ad.School "is_lesson" 2 (fIsLesson ad)) : FnG P w K mg base 4 f fd ["self", "teachers", "classes", "lessons"] (fSchoolInit ad) := by
  refine fnG_of Fu sc_School___init__ (fun ds C Kn Ke h => ?_) (fun cdv A outer s H E W ds C Kn Ke hr hgu hx hF hio => ?_)
  · obtain ⟨p, t, c, l, R, r, rfl, rfl, hS, q1, q2, q3, q4, q5⟩ := h; rfl
  · obtain ⟨p, t, c, l, R, r, rfl, rfl, hS, q1, q2, q3, q4, q5⟩ := hF
    have nd := sc_School___init__.nd
    obtain ⟨r1, hn1, hb1, ht1, hS⟩ := hS
    -- 1
    refine wSs_cons ?_
    refine wS_set 4 ?_ nd
    refine wE_lstC ?_
    refine wA_nil ?_
    refine ⟨by simp, fun q => ?_⟩  --@1:dis
    refine wSs_sub (R := (q, .lst (([] : List Str).map D.str)) :: (p, .ins ad.School [] []) :: R) (Sub.perm List.perm_append_comm) ?_
    obtain ⟨b1, lv1, f1, g1⟩ := hn1.cons (p, .ins ad.School [] [])
    -- 2
    refine wSs_cons ?_
    refine wS_expr ?_
    refine wE_callA hx Hneed_names hr hgu ?_
    refine wA_cons ?_
    refine wE_nm 1 rfl ?_
    refine wA_cons ?_
    refine wE_nm 4 rfl ?_
    refine wA_nil ?_
    refine ⟨t, q, [], (p, .ins ad.School [] []) :: R, r1, b1, rfl, rfl, by simp, lv1, f1, g1, fun s1 e1 => ?_, fun y e C' hs => q1 y (hb1 y e) C' (Sub.cons.tr hs), fun y e C' hs => q2 y (ht1 y e) C' (Sub.cons.tr hs)⟩  --@2:need_names
    subst e1
    obtain ⟨ts, hts, tl, hs1⟩ := hn1.ok
    obtain ⟨r2, hn2, hb2, ht2, hS⟩ := hS _ rfl
    obtain ⟨b2, lv2, f2, g2⟩ := hn2.cons (p, .ins ad.School [] [])
    -- 3
    refine wSs_cons ?_
    refine wS_expr ?_
    refine wE_callA hx Hneed_names hr hgu ?_
    refine wA_cons ?_
    refine wE_nm 2 rfl ?_
    refine wA_cons ?_
    refine wE_nm 4 rfl ?_
    refine wA_nil ?_
    refine ⟨c, q, s1, (p, .ins ad.School [] []) :: R, r2, b2, rfl, rfl, by rw [hs1]; simp; omega, lv2, f2, g2, fun s2 e2 => ?_, fun y e C' hs => q1 y (hb2 y e) C' (Sub.cons.tr hs), fun y e C' hs => q2 y (ht2 y e) C' (Sub.cons.tr hs)⟩  --@3:need_names
    subst e2
    obtain ⟨cs, hcs, cl', hs2⟩ := hn2.ok
    obtain ⟨b3, lv3, f3, g3⟩ := hS _ rfl
    refine wSs_sub Sub.cons ?_
    -- 4
    refine wSs_cons ?_
    refine wS_if ?_
    refine wT_not ?_
    refine wT_val ?_
    refine wE_callA hx His_list hr hgu ?_
    refine wA_cons ?_
    refine wE_nm 3 rfl ?_
    refine wA_cons ?_
    refine wE_int ?_
    refine wA_cons ?_
    obtain ⟨u_, hu_, ru_⟩ := T.MOST_LESSONS_
    refine wE_gl hu_ ru_ (fun P => .int _) ?_
    refine wA_nil ?_
    refine ⟨_, _, _, b3, rfl, lv3.cons _, ?_⟩  --@4:is_list
    refine ⟨_, rfl, ?_⟩
    refine ⟨fun hi1 => ?_, fun hi1 => ?_⟩  --@4:if
    · skip
      -- 5
      refine wSs_cons ?_
      refine wS_raise hx HE_BadLessons hr ?_
      refine wA_cons ?_
      refine wE_nm 3 rfl ?_
      refine wA_nil ?_
      refine ⟨_, rfl, ?_⟩
      exact q3 l (f3 (by simpa using hi1)) _ Sub.cons  --@5:raise
    refine wSs_nil ?_
    -- 6
    obtain ⟨ls, hls, l40, hit, hres⟩ := g3 (by simpa using hi1)
    have hres := hres ts cs hts hcs
    refine wSs_cons ?_
    refine wS_fldN ?_
    refine wE_callT "list" (by decide +kernel) T.list_ ?_
    refine wA_cons ?_
    refine wE_nm 1 rfl ?_
    refine wA_nil ?_
    refine t_listQ hts.seq ?_  --@6:list
    refine wE_nm 0 rfl ?_
    refine ⟨_, 0, _, _, _, rfl, rfl, T.K_School.cls, T.nf_School_school_teachers, by decide, by decide, ?_⟩  --@6:tg
    -- 7
    refine wSs_cons ?_
    refine wS_fldN ?_
    refine wE_callT "list" (by decide +kernel) T.list_ ?_
    refine wA_cons ?_
    refine wE_nm 2 rfl ?_
    refine wA_nil ?_
    refine t_listQ hcs.seq ?_  --@7:list
    refine wE_nm 0 rfl ?_
    refine ⟨_, 0, _, _, _, rfl, rfl, T.K_School.cls, T.nf_School_school_classes, by decide, by decide, ?_⟩  --@7:tg
    -- 8
    refine wSs_cons ?_
    refine wS_forI ?_ bX_own rfl
    refine wI_seqF hls ?_
    refine wE_nm 3 rfl ?_
    refine ⟨rfl, ?_⟩
    refine ⟨D, ls, id, fun i G' C' => ∃ g, G' = [some (.ref p), some t, some c, some l, some (.ref q), g] ∧ C' = (p, .ins ad.School ["school_teachers", "school_classes"] [.lst (ts.map D.str), .lst (cs.map D.str)]) :: R ∧ ∀ j z, j < i → ls[j]? = some z → isLessonB ts cs z = true, (List.map_id _).symm, ⟨_, rfl, rfl, fun j z h => absurd h (Nat.not_lt_zero _)⟩, ?_, ?_⟩  --@8:for
    · intro i y G' C' hy ym hi iv
      obtain ⟨g, rfl, rfl, hgood⟩ := iv
      obtain ⟨ky, kys⟩ := hit y ym
      refine wG_nm 5 ?_ nd
      skip  --@8:tgt
      -- 9
      refine wSs_cons ?_
      refine wS_if ?_
      refine wT_not ?_
      refine wT_val ?_
      refine wE_methA hx T.K_School.cls HM_School_is_lesson hr hgu ?_
      refine wE_nm 0 rfl ?_
      refine ⟨_, _, .inr ⟨p, 0, rfl, rfl⟩, by decide, ?_⟩  --@9:rcv
      refine wA_cons ?_
      refine wE_nm 5 rfl ?_
      refine wA_nil ?_
      refine ⟨_, _, ts, cs, _, _, rfl, .inr ⟨p, 0, rfl, rfl⟩, rfl, rfl, ky.cons _, fun ys e z hz => (kys ys e z hz).cons _, ?_⟩  --@9:is_lesson
      refine ⟨_, rfl, ?_⟩
      refine ⟨fun hi2 => ?_, fun hi2 => ?_⟩  --@9:if
      · skip
        -- 10
        refine wSs_cons ?_
        refine wS_raise hx HE_BadLesson hr ?_
        refine wA_cons ?_
        refine wE_nm 5 rfl ?_
        refine wA_nil ?_
        refine ⟨_, rfl, ?_⟩
        exact q4 y (by rw [hres]; exact scanL_bad hy hgood (by simpa using hi2)) _ Sub.cons  --@10:raise
      refine wSs_nil ?_
      refine wSs_nil ?_
      refine ⟨_, rfl, rfl, fun j z hj hz => ?_⟩
      by_cases hji : j = i
      · subst hji; rw [hy] at hz; cases hz; simpa using hi2
      · exact hgood j z (by omega) hz  --@8:next
    intro G' C' iv
    obtain ⟨g, rfl, rfl, hgood⟩ := iv
    obtain ⟨ok1, ok2⟩ := scanL_ok (ts := ts) (cs := cs) (ls := ls) fun z hz => by
      obtain ⟨j, hj⟩ := List.mem_iff_getElem?.mp hz
      exact hgood j z (List.getElem?_eq_some_iff.mp hj).1 hj  --@8:done
    -- 11
    refine wSs_cons ?_
    refine wS_fldN ?_
    refine wE_callT "list" (by decide +kernel) T.list_ ?_
    refine wA_cons ?_
    refine wE_nm 3 rfl ?_
    refine wA_nil ?_
    refine t_listQ hls.seq ?_  --@11:list
    refine wE_nm 0 rfl ?_
    refine ⟨_, 0, _, _, _, rfl, rfl, T.K_School.cls, T.nf_School_school_lessons, by decide, by decide, ?_⟩  --@11:tg
    refine wSs_nil ?_
    rw [ok2]
    exact q5 _ _ _ (by rw [hres]; exact ok1)
theorem scanN_all : ∀ {ws ss : List Str}, (∀ w ∈ ws, isNameS w = true) → (ss ++ ws).Nodup → scanN ss (ws.map D.str) = .ok (ss ++ ws)
  | [], ss, _, _ => by rw [List.append_nil]; rfl
  | w :: ws, ss, h, nd => by
    have hw := h w (List.mem_cons_self ..)
    have hn : w ∉ ss := fun hm => by
      rw [List.nodup_append] at nd
      exact nd.2.2 w hm w (List.mem_cons_self ..) rfl
    show scanN ss (D.str w :: ws.map D.str) = _
    rw [scanN_next hw hn, scanN_all (fun z hz => h z (List.mem_cons_of_mem _ hz)) (by rw [List.append_assoc]; exact nd), List.append_assoc]; rfl
theorem kc_flat {C : Cells} {d : D} {s : String} (h : kindD d = some s) (hs : ∀ x, d = .str x → x.length ≤ 100000) : KC C d := ⟨⟨s, .base h⟩, hs⟩
theorem namesR_ok {R : Cells} {q : Bool × List Str} {ss : List Str} (h1 : 1 ≤ q.2.length) (h8 : q.2.length ≤ 8) (hn : ∀ w ∈ q.2, isNameS w = true) (nd : (ss ++ q.2).Nodup) : NamesR R (sqE D.str q) ss (.ok (ss ++ q.2)) := by
  refine ⟨true, .inl ⟨_, (sqF q).seq, ?_⟩, (fun h => by cases h), fun _ => ⟨_, sqF q, by rw [List.length_map]; exact h8, fun y hy => ?_, (scanN_all hn nd).symm⟩⟩
  · rw [List.length_map, decide_eq_true (by omega), decide_eq_true (by omega)]; rfl
  · obtain ⟨w, hw, rfl⟩ := List.mem_map.mp hy
    exact kc_str (Nat.le_trans (name_len (hn w hw)) (by decide))
theorem strs_inj {a b : List Str} (h : a.map D.str = b.map D.str) : a = b := by
  induction a generalizing b with
  | nil => cases b with
    | nil => rfl
    | cons y b => cases h
  | cons x a ih => cases b with
    | nil => cases h
    | cons y b =>
      rw [List.map_cons, List.map_cons, List.cons.injEq] at h
      rw [D.str.inj h.1, ih h.2]
theorem seqF_strs {q : Bool × List Str} {a : List Str} (h : SeqF (sqE D.str q) (a.map D.str)) : a = q.2 := by
  obtain ⟨b, l⟩ := q
  cases b
  · rcases h with h | h
    · exact (strs_inj (D.lst.inj h)).symm
    · cases h
  · rcases h with h | h
    · cases h
    · exact (strs_inj (D.tup.inj h)).symm
theorem schoolR_ok {R : Cells} {t c : Bool × List Str} {l : Bool × List (Str × Str)} (h : SchNew ⟨t.2, c.2, l.2⟩) : SchoolR R (sqE D.str t) (sqE D.str c) (sqE lesD l) (.ok t.2 c.2 l.2) := by
  have hok := h.ok
  have nm := hok.nm
  refine ⟨_, namesR_ok (ss := []) h.t1 hok.t8 (fun w hw => nm w (List.mem_append_left _ hw)) (List.nodup_append.mp h.nd).1, (fun y e => by cases e), (fun y e => by cases e), fun s1 e1 => ?_⟩
  cases e1
  refine ⟨_, namesR_ok (ss := [] ++ t.2) h.c1 hok.c8 (fun w hw => nm w (List.mem_append_right _ hw)) h.nd, (fun y e => by cases e), (fun y e => by cases e), fun s2 e2 => ?_⟩
  cases e2
  refine ⟨true, .inl ⟨_, (sqF l).seq, ?_⟩, (fun h => by cases h), fun _ => ⟨_, sqF l, by rw [List.length_map]; exact hok.p40, fun y hy => ?_, fun ts cs ht hc => ?_⟩⟩
  · have h40 : l.2.length ≤ 40 := hok.p40
    rw [List.length_map, decide_eq_true (by omega), decide_eq_true (by omega)]; rfl
  · obtain ⟨x, hx, rfl⟩ := List.mem_map.mp hy
    have hx2 := hok.les x hx
    refine ⟨kc_flat rfl (fun x e => by cases e), fun ys e z hz => ?_⟩
    cases e
    simp only [List.mem_cons, List.not_mem_nil, or_false] at hz
    rcases hz with rfl | rfl
    · exact kc_str (Nat.le_trans (name_len (nm _ (List.mem_append_left _ hx2.1))) (by decide))
    · exact kc_str (Nat.le_trans (name_len (nm _ (List.mem_append_right _ hx2.2))) (by decide))
  · rw [seqF_strs ht, seqF_strs hc]
    have hb : ∀ z ∈ l.2.map lesD, isLessonB t.2 c.2 z = true := fun z hz => by
      obtain ⟨x, hx, rfl⟩ := List.mem_map.mp hz
      have hx2 := hok.les x hx
      show (isNameS x.1 && isNameS x.2 && decide (x.1 ∈ t.2) && decide (x.2 ∈ c.2)) = true
      rw [nm _ (List.mem_append_left _ hx2.1), nm _ (List.mem_append_right _ hx2.2), decide_eq_true hx2.1, decide_eq_true hx2.2]; rfl
    rw [(scanL_ok hb).1]
    congr 1
    rw [List.map_map]
    exact (List.map_id _).symm
theorem school_new {ad : Ad} {C : Cells} {p : Addr} {t c : Bool × List Str} {l : Bool × List (Str × Str)} {k : KD} {Ke : KE} (h : SchNew ⟨t.2, c.2, l.2⟩) (q : k (schA ad.School ⟨t.2, c.2, l.2⟩) C) :
    fSchoolInit ad [.ref p, sqE D.str t, sqE D.str c, sqE lesD l] ((p, .ins ad.School [] []) :: C) (fun d C' => d = .non ∧ (k (.ref p) C' ∨ ∃ ns ds Cr, C' = (p, Cl.ins ad.School ns ds) :: Cr ∧ k (.obj ad.School ns ds) Cr)) Ke :=
  ⟨p, _, _, _, C, _, rfl, rfl, schoolR_ok h, (fun y e => by cases e), (fun y e => by cases e), (fun y e => by cases e), (fun y e => by cases e), fun ts cs ps e => by cases e; exact ⟨rfl, .inr ⟨_, _, _, rfl, q⟩⟩⟩
theorem wE_school {ad : Ad} {X : Cx} {W : Wd} {G : List (Option D)} {C : Cells} {k : KD} {e : Expr} {es : List Expr} {pos p1 : Pos} {x : Str} {j n : Nat} {xk : KG} (hx : XW X W xk) (R : HasC X.prog X.w X.K X.mg X.base x ad.School j (fSchoolInit ad)) (hr : Room n X.A) (hgu : X.A.guards = some [])
    (h : wA X W (e :: es) G C fun ds C1 => ∃ (t c : Bool × List Str) (l : Bool × List (Str × Str)) (S : Sch), ds = [sqE D.str t, sqE D.str c, sqE lesD l] ∧ S = ⟨t.2, c.2, l.2⟩ ∧ SchNew S ∧ k (schA ad.School S) C1) (hj : j + 1 ≤ n := by decide) (hg : Gl X x := by rfl) (hdb : (x == ("__debug__" : Str)) = false := by decide)
    (he : starEach (e :: es) X.env = (false, eval e X.env) :: starEach es X.env := by rfl) (hpl : (backTo pos (starEach es X.env)).any (·.1) = false := by rfl) : wE X W (.Call (.Name x p1) (e :: es) [] pos) G C k :=
  wE_makeA hx R hr hgu (fun σ P H Q g z => h σ P H Q g fun ds C' vs P' H' nx rs q => z ds C' vs P' H' nx rs fun p => by
    obtain ⟨t, c, l, S, rfl, rfl, hn, q⟩ := q
    exact school_new hn q) hj hg hdb he hpl
def schD (ad : Ad) (S : Sch) : D := .obj ad.School ["school_teachers", "school_classes", "school_lessons"] [.lst (S.ts.map D.str), .lst (S.cs.map D.str), .lst (S.ps.map lesD)]
/-! School___len__ -/
theorem sc_School___len__ : FnScope ["self"] ["self"] (defScope (inner (top 18) 1)) := ⟨rfl, rfl, rfl, by decide +kernel, rfl, by decide +kernel, by decide +kernel⟩
def fSchLen (ad : Ad) : FS := fun ds C Kn _ => ∃ S : Sch, ds = [schD ad S] ∧ Kn (.int S.ps.length) C
theorem ok_School___len__ {f : Addr} {fd : FuncData} (Fu : Fun K "__len__" "School.__len__" (inner (top 18) 1) f fd) (T : Bn K mg ad) : FnG P w K mg base 1 f fd ["self"] (fSchLen ad) := by
  refine fnG_of Fu sc_School___len__ (fun ds C Kn Ke h => ?_) (fun cdv A outer s H E W ds C Kn Ke hr hgu hx hF hio => ?_)
  · obtain ⟨S, rfl, q⟩ := h; rfl
  · obtain ⟨S, rfl, q⟩ := hF
    have nd := sc_School___len__.nd
    -- 1
    refine wSs_cons ?_
    refine wS_ret ?_
    refine wE_callB "len" (by decide +kernel) T.len_ ?_
    refine wA_cons ?_
    refine wE_fld ?_
    refine wE_nm 0 rfl ?_
    refine ⟨_, _, _, _, .inl rfl, T.K_School.cls, T.nf_School_school_lessons, rfl, ?_⟩  --@1:fld
    refine wA_nil ?_
    first | refine c_lenL ?_ | refine c_lenC 0 rfl ?_ | refine c_lenC 1 rfl ?_ | refine c_lenR ?_ | refine c_lenU ?_ | refine c_lenS (by omega) ?_  --@1:len
    rw [List.length_map]; exact q  --@1:ret


def LessonsOk (ts cs : List Str) (ps : List (Str × Str)) : Prop := ∀ x ∈ ps, x.1 ∈ ts ∧ x.2 ∈ cs
theorem eqv_nil (ys : List PyData) : PyData.eqv (.list ys) (.list []) = ys.isEmpty := by
  cases ys <;> rfl
theorem cast1 (a : Addr) {z : Int} {m : Nat} (h : z = m) : [D.ref a, D.int z] = [D.ref a, natD m] := by rw [h]; rfl
/-! law_lessons -/
theorem sc_law_lessons : FnScope ["box", "teachers", "classes", "most", "found", "turn", "ours", "theirs", "one"] ["box", "teachers", "classes", "most"] (defScope (top 36)) := ⟨rfl, rfl, rfl, by decide +kernel, rfl, by decide +kernel, by decide +kernel⟩
def fLessons : FS := fun ds C Kn _ => ∃ (p : Addr) (n : Nat) (ts cs : List Str) (most : Nat), ds = [.ref p, .lst (ts.map D.str), .lst (cs.map D.str), natD most] ∧ C = [(p, .box n)] ∧ n < 800000 ∧ (1 ≤ ts.length ∧ ts.length ≤ 1000) ∧ (1 ≤ cs.length ∧ cs.length ≤ 1000) ∧ most ≤ 40 ∧ (∀ w ∈ ts ++ cs, isNameS w = true) ∧ ∀ ps m, LessonsOk ts cs ps → ps.length ≤ most → m ≤ n + 300 → Kn (.lst (ps.map lesD)) [(p, .box m)]
theorem ok_law_lessons {f : Addr} {fd : FuncData} (Fu : Fun K "_law_lessons" "_law_lessons" (top 36) f fd) (T : Bn K mg ad) (H_law_take : Has P w K mg base "_law_take" 1 (fTake)) : FnG P w K mg base 2 f fd ["box", "teachers", "classes", "most"] (fLessons) := by
  refine fnG_of Fu sc_law_lessons (fun ds C Kn Ke h => ?_) (fun cdv A outer s H E W ds C Kn Ke hr hgu hx hF hio => ?_)
  · obtain ⟨p, n, ts, cs, most, rfl, rfl, hn, ht, hc, hm40, hnm, q⟩ := h; rfl
  · obtain ⟨p, n, ts, cs, most, rfl, rfl, hn, ht, hc, hm40, hnm, q⟩ := hF
    have nd := sc_law_lessons.nd
    have hu : A.units + 3 + 200 < cLine := by have := hr.un; have e : (A.deeper (envOfC "_law_lessons" (defScope (top 36)) s.heap.objs.size f cdv)).units = A.units + 3 := rfl; omega
    -- 1
    refine wSs_cons ?_
    refine wS_set 4 ?_ nd
    refine wE_lstC ?_
    refine wA_nil ?_
    refine ⟨by simp, fun q2 => ?_⟩  --@1:dis
    -- 2
    refine wSs_cons ?_
    refine wS_par 6 7 ?_ nd
    refine wA_cons ?_
    refine wE_bin ?_
    refine wE_int ?_
    refine wE_call H_law_take hr hgu ?_
    refine wA_cons ?_
    refine wE_nm 0 rfl ?_
    refine wA_cons ?_
    refine wE_callB "len" (by decide +kernel) T.len_ ?_
    refine wA_cons ?_
    refine wE_nm 1 rfl ?_
    refine wA_nil ?_
    first | refine c_lenL ?_ | refine c_lenC 0 rfl ?_ | refine c_lenC 1 rfl ?_ | refine c_lenR ?_ | refine c_lenU ?_ | refine c_lenS (by omega) ?_  --@2:len
    refine wA_nil ?_
    refine ⟨[(p, .box _)], _, List.Perm.refl _, p, _, _, rfl, rfl, by rw [List.length_map]; omega, by rw [List.length_map]; omega, by omega, fun t1 ht1 => ?_⟩
    rw [List.length_map] at ht1  --@2:_law_take
    first | refine o_add ?_ | refine o_cat (by simp) ?_ | refine o_addS (by simp) ?_  --@2:add
    refine wA_cons ?_
    refine wE_bin ?_
    refine wE_int ?_
    refine wE_call H_law_take hr hgu ?_
    refine wA_cons ?_
    refine wE_nm 0 rfl ?_
    refine wA_cons ?_
    refine wE_callB "len" (by decide +kernel) T.len_ ?_
    refine wA_cons ?_
    refine wE_nm 2 rfl ?_
    refine wA_nil ?_
    first | refine c_lenL ?_ | refine c_lenC 0 rfl ?_ | refine c_lenC 1 rfl ?_ | refine c_lenR ?_ | refine c_lenU ?_ | refine c_lenS (by omega) ?_  --@2:len2
    refine wA_nil ?_
    refine ⟨[(p, .box _)], _, List.Perm.refl _, p, _, _, rfl, rfl, by rw [List.length_map]; omega, by rw [List.length_map]; omega, by omega, fun t2 ht2 => ?_⟩
    rw [List.length_map] at ht2  --@2:_law_take2
    first | refine o_add ?_ | refine o_cat (by simp) ?_ | refine o_addS (by simp) ?_  --@2:add2
    refine wA_nil ?_
    refine ⟨_, _, rfl, ?_⟩
    -- 3
    refine wSs_cons ?_
    refine wS_forI ?_ bX_own rfl
    refine wI_rg T.range_ ?_
    refine wE_ix ?_
    refine wE_lst ?_
    refine wA_cons ?_
    refine wE_call H_law_take hr hgu ?_
    refine wA_cons ?_
    refine wE_nm 0 rfl ?_
    refine wA_cons ?_
    refine wE_bin ?_
    refine wE_nm 3 rfl ?_
    refine wE_int ?_
    first | refine o_add ?_ | refine o_cat (by simp) ?_ | refine o_addS (by simp) ?_  --@3:add
    refine wA_nil ?_
    refine ⟨[(p, .box _)], _, List.Perm.refl _, p, most + 1, _, cast1 p (by omega), rfl, by omega, by omega, by omega, fun t3 ht3 => ?_⟩  --@3:_law_take
    refine wA_cons ?_
    refine wE_nm 3 rfl ?_
    refine wA_cons ?_
    refine wE_call H_law_take hr hgu ?_
    refine wA_cons ?_
    refine wE_nm 0 rfl ?_
    refine wA_cons ?_
    refine wE_bin ?_
    refine wE_callB "min" (by decide +kernel) T.min_ ?_
    refine wA_cons ?_
    refine wE_nm 3 rfl ?_
    refine wA_cons ?_
    refine wE_int ?_
    refine wA_nil ?_
    refine c_min2 rfl ?_  --@3:min
    refine wE_int ?_
    first | refine o_add ?_ | refine o_cat (by simp) ?_ | refine o_addS (by simp) ?_  --@3:add2
    refine wA_nil ?_
    refine ⟨[(p, .box _)], _, List.Perm.refl _, p, min most 6 + 1, _, cast1 p (by omega), rfl, by omega, by omega, by omega, fun t4 ht4 => ?_⟩  --@3:_law_take2
    refine wA_nil ?_
    refine ⟨by simp, ?_⟩  --@3:dis
    refine wE_call H_law_take hr hgu ?_
    refine wA_cons ?_
    refine wE_nm 0 rfl ?_
    refine wA_cons ?_
    refine wE_int ?_
    refine wA_nil ?_
    refine ⟨[(p, .box _)], _, List.Perm.refl _, p, 3, _, rfl, rfl, by omega, by omega, by omega, fun t5 ht5 => ?_⟩  --@3:_law_take3
    refine xD_ints ht5 rfl fun z hz => ?_
    obtain ⟨r, rfl, hrm⟩ : ∃ r : Nat, z = r ∧ r ≤ most := by
      simp only [List.mem_cons, List.not_mem_nil, or_false, D.int.injEq, natD] at hz
      rcases hz with h | h | h
      · exact ⟨t3, by omega, by omega⟩
      · exact ⟨most, by omega, by omega⟩
      · exact ⟨t4, by omega, by omega⟩  --@3:ix
    refine ⟨_, rfl, by omega, ?_⟩  --@3:rng
    refine ⟨_, _, _, fun i G' C' => ∃ g5 g8 ps m, G' = [some (.ref p), some (.lst (ts.map D.str)), some (.lst (cs.map D.str)), some (natD most), some (.ref q2), g5, some (.int (1 + (t1 : Int))), some (.int (1 + (t2 : Int))), g8] ∧ C' = [(p, .box m), (q2, .lst (ps.map lesD))] ∧ LessonsOk ts cs ps ∧ ps.length = i ∧ m ≤ n + 6 + 4 * i, rfl, ⟨_, _, [], n + 5, rfl, rfl, (fun x hx => by cases hx), rfl, by omega⟩, ?_, ?_⟩  --@3:for
    · intro i y G' C' hy ym hi iv
      rw [List.length_range] at hi
      obtain ⟨g5, g8, ps, m, rfl, rfl, hps, hpl, hmb⟩ := iv
      have hnames : ∀ x ∈ ps, isNameS x.1 = true ∧ isNameS x.2 = true := fun x hx => ⟨hnm _ (List.mem_append_left _ (hps x hx).1), hnm _ (List.mem_append_right _ (hps x hx).2)⟩
      refine wG_nm 5 ?_ nd
      skip  --@3:tgt
      -- 4
      refine wSs_cons ?_
      refine wS_set 8 ?_ nd
      refine wE_tup ?_
      refine wA_cons ?_
      refine wE_ix ?_
      refine wE_nm 1 rfl ?_
      refine wE_call H_law_take hr hgu ?_
      refine wA_cons ?_
      refine wE_nm 0 rfl ?_
      refine wA_cons ?_
      refine wE_nm 6 rfl ?_
      refine wA_nil ?_
      refine ⟨[(p, .box _)], _, List.Perm.refl _, p, 1 + t1, _, cast1 p (by omega), rfl, by omega, by omega, by omega, fun t6 ht6 => ?_⟩  --@4:_law_take
      obtain ⟨x, hx⟩ : ∃ x, ts[t6]? = some x := ⟨_, List.getElem?_eq_getElem (by omega)⟩
      refine xD_lst (d := .str x) (atI_nat (by rw [List.getElem?_map, hx]; rfl)) ?_  --@4:ix
      refine wA_cons ?_
      refine wE_ix ?_
      refine wE_nm 2 rfl ?_
      refine wE_call H_law_take hr hgu ?_
      refine wA_cons ?_
      refine wE_nm 0 rfl ?_
      refine wA_cons ?_
      refine wE_nm 7 rfl ?_
      refine wA_nil ?_
      refine ⟨[(p, .box _)], _, List.Perm.refl _, p, 1 + t2, _, cast1 p (by omega), rfl, by omega, by omega, by omega, fun t7 ht7 => ?_⟩  --@4:_law_take2
      obtain ⟨y, hy2⟩ : ∃ y, cs[t7]? = some y := ⟨_, List.getElem?_eq_getElem (by omega)⟩
      refine xD_lst (d := .str y) (atI_nat (by rw [List.getElem?_map, hy2]; rfl)) ?_  --@4:ix2
      refine wA_nil ?_
      refine ⟨by simp, ?_⟩  --@4:dis
      -- 5
      refine wSs_cons ?_
      refine wS_expr ?_
      refine wE_m PySem.F.plainAttrs_list PySem.F.slot_list_append PySem.F.type_list_append ?_
      refine wE_nm 4 rfl ?_
      refine ⟨by first | rfl | exact .inl ⟨rfl, _, List.mem_cons_self⟩ | exact .inl ⟨rfl, _, List.mem_cons_of_mem _ List.mem_cons_self⟩ | exact .inl ⟨rfl, _, by simp⟩, ?_⟩  --@5:ty
      refine wA_cons ?_
      refine wE.mono (k := fun d C' => ∃ z m2, d = lesD z ∧ z.1 ∈ ts ∧ z.2 ∈ cs ∧ m2 ≤ m + 4 ∧ C' = [(p, .box m2), (q2, .lst (ps.map lesD))]) ?_ ?_
      · skip
        refine wE_if ?_
        refine wB.wt ?_
        refine wB_and ?_
        refine wT_cmp ?_
        refine wE_nm 4 rfl ?_
        refine wE_lst ?_
        refine wA_nil ?_
        refine ⟨by simp, ?_⟩  --@5:dis
        refine o_neC (a := .list (pyDs (ps.map lesD))) (b := .list []) (n := 19000) (dep := 2) (n' := 0) (dep' := 1) (by show A.units + 3 + 64 < cLine; omega) (.cell 1 rfl (by rw [pyDs_map]; exact .map fun x _ => .pl rfl)) (.pl rfl) (fit_less hnames (by omega)) (fit_list fits_nil) (by decide) (by decide) ?_  --@5:ne
        refine ⟨_, rfl, ?_⟩
        refine And.symm ⟨fun hc1 => ?_, fun hc1 => ?_⟩  --@5:bo
        · skip
          refine ⟨(fun h => by cases h), fun _ => ?_⟩
          refine wE_nm 8 rfl ?_
          exact ⟨(x, y), m + 2, rfl, List.mem_of_getElem? hx, List.mem_of_getElem? hy2, by omega, rfl⟩  --@5:ifn
        refine wB_and1 ?_
        refine wT_cmp ?_
        refine wE_call H_law_take hr hgu ?_
        refine wA_cons ?_
        refine wE_nm 0 rfl ?_
        refine wA_cons ?_
        refine wE_int ?_
        refine wA_nil ?_
        refine ⟨[(p, .box _)], _, List.Perm.refl _, p, 8, _, rfl, rfl, by omega, by omega, by omega, fun t8 ht8 => ?_⟩  --@5:_law_take
        refine wE_int ?_
        first | refine o_eqI ?_ | refine o_eqS ?_  --@5:eq
        refine ⟨_, rfl, ?_⟩
        refine ⟨fun hi2 => ?_, fun hi2 => ?_⟩
        · skip
          refine wE_ix ?_
          refine wE_nm 4 rfl ?_
          refine wE_call H_law_take hr hgu ?_
          refine wA_cons ?_
          refine wE_nm 0 rfl ?_
          refine wA_cons ?_
          refine wE_callB "len" (by decide +kernel) T.len_ ?_
          refine wA_cons ?_
          refine wE_nm 4 rfl ?_
          refine wA_nil ?_
          refine c_lenC 1 rfl ?_  --@5:len
          refine wA_nil ?_
          have hne : 0 < ps.length := by
            cases ps with
            | nil => exact absurd hc1 (by decide)
            | cons a r => exact Nat.succ_pos _
          refine ⟨[(p, .box _)], _, List.Perm.refl _, p, _, _, rfl, rfl, by rw [List.length_map]; omega, by rw [List.length_map]; omega, by omega, fun t9 ht9 => ?_⟩
          rw [List.length_map] at ht9  --@5:_law_take2
          obtain ⟨w, hw⟩ : ∃ w, ps[t9]? = some w := ⟨_, List.getElem?_eq_getElem ht9⟩
          refine xD_cell 1 rfl (d := lesD w) (atI_nat (by rw [List.getElem?_map, hw]; rfl)) ?_  --@5:ix
          exact ⟨w, m + 4, rfl, (hps w (List.mem_of_getElem? hw)).1, (hps w (List.mem_of_getElem? hw)).2, by omega, rfl⟩  --@5:ify
        · skip
          refine wE_nm 8 rfl ?_
          exact ⟨(x, y), m + 3, rfl, List.mem_of_getElem? hx, List.mem_of_getElem? hy2, by omega, rfl⟩  --@5:ifn2
      intro d C' iv
      obtain ⟨z, m2, rfl, hz1, hz2, hm2, rfl⟩ := iv  --@5:ifr
      refine wA_nil ?_
      refine m_append 1 rfl (by rw [List.length_map]; omega) ?_  --@5:append
      refine wSs_nil ?_
      refine ⟨_, _, ps ++ [z], m2, rfl, by rw [List.map_append]; rfl, fun x hx => ?_, by rw [List.length_append, hpl]; rfl, by omega⟩
      rcases List.mem_append.mp hx with h | h
      · exact hps x h
      · rw [List.mem_singleton.mp h]; exact ⟨hz1, hz2⟩  --@3:next
    intro G' C' iv
    rw [List.length_range] at iv
    obtain ⟨g5, g8, ps, m, rfl, rfl, hps, hpl, hmb⟩ := iv  --@3:done
    -- 6
    refine wSs_cons ?_
    refine wS_ret ?_
    refine wE_frz 1 ?_
    refine wE_nm 4 rfl ?_
    refine ⟨q2, _, rfl, rfl, fun a ha => ⟨0, .box m, by decide, ?_⟩, q _ _ hps (by omega) (by omega)⟩
    rw [hio] at ha
    rw [show a = p by simpa using ha]; rfl  --@6:ret
theorem schNew_of {ts cs : List Str} {ps : List (Str × Str)} (hp : PeopleOk ts cs) (hl : LessonsOk ts cs ps) (h : ps.length ≤ 40) : SchNew ⟨ts, cs, ps⟩ := ⟨⟨hp.t8, hp.c8, h, hp.ok.2, hl⟩, hp.t1, hp.c1, hp.ok.1⟩

/-! need_school -/
theorem sc_need_school : FnScope ["school"] ["school"] (defScope (top 19)) := ⟨rfl, rfl, rfl, by decide +kernel, rfl, by decide +kernel, by decide +kernel⟩
def fNeedSchool (ad : Ad) : FS := fun ds C Kn Ke => ∃ d, ds = [d] ∧ ((∃ S : Sch, d = schD ad S ∧ Kn .non C) ∨ (KC C d ∧ ∀ C', Sub C C' → Ke ⟨ad.BadSchool, some ("found", d)⟩ C'))
theorem ok_need_school {f : Addr} {fd : FuncData} (Fu : Fun K "need_school" "need_school" (top 19) f fd) (T : Bn K mg ad) (HE_BadSchool : ErT P w K mg base "BadSchool" ad.BadSchool "found") : FnG P w K mg base 3 f fd ["school"] (fNeedSchool ad) := by
  refine fnG_of Fu sc_need_school (fun ds C Kn Ke h => ?_) (fun cdv A outer s H E W ds C Kn Ke hr hgu hx hF hio => ?_)
  · obtain ⟨d, rfl, _⟩ := h; rfl
  · obtain ⟨d, rfl, hd⟩ := hF
    refine wSs_cons (wS_if (wT_not (wT_val (wE_isiO T.isinstance_ T.g_School T.K_School (wE_nm 0 rfl ?_)))))
    rcases hd with ⟨S, rfl, q⟩ | ⟨⟨⟨s1, hk⟩, _⟩, q⟩
    · exact .inr ⟨_, _, .inl rfl, true, rfl, fun h => by (cases h), fun _ => wSs_nil (wSs_nil q)⟩
    · refine .inl ⟨_, hk, false, rfl, fun _ => ?_, fun h => by cases h⟩
      refine wSs_cons (wS_raise hx HE_BadSchool hr (wA_cons (wE_nm 0 rfl (wA_nil ⟨_, rfl, ?_⟩))))
      exact q _ Sub.rfl'


/-! School_teachers -/
theorem sc_School_teachers : FnScope ["self"] ["self"] (defScope (inner (top 18) 5)) := ⟨rfl, rfl, rfl, by decide +kernel, rfl, by decide +kernel, by decide +kernel⟩
def fSchTeachers (ad : Ad) : FS := fun ds C Kn _ => ∃ S : Sch, ds = [schD ad S] ∧ Kn (.lst (S.ts.map D.str)) C
theorem ok_School_teachers {f : Addr} {fd : FuncData} (Fu : Fun K "teachers" "School.teachers" (inner (top 18) 5) f fd) (T : Bn K mg ad) : FnG P w K mg base 1 f fd ["self"] (fSchTeachers ad) := by
  refine fnG_of Fu sc_School_teachers (fun ds C Kn Ke h => ?_) (fun cdv A outer s H E W ds C Kn Ke hr hgu hx hF hio => ?_)
  · obtain ⟨S, rfl, q⟩ := h; rfl
  · obtain ⟨S, rfl, q⟩ := hF
    have nd := sc_School_teachers.nd
    -- 1
    refine wSs_cons ?_
    refine wS_ret ?_
    refine wE_callT "list" (by decide +kernel) T.list_ ?_
    refine wA_cons ?_
    refine wE_fld ?_
    refine wE_nm 0 rfl ?_
    refine ⟨_, _, _, _, .inl rfl, T.K_School.cls, T.nf_School_school_teachers, rfl, ?_⟩  --@1:fld
    refine wA_nil ?_
    refine t_listQ (.inl rfl) ?_  --@1:list
    exact q  --@1:ret


/-! School_lessons -/
theorem sc_School_lessons : FnScope ["self"] ["self"] (defScope (inner (top 18) 8)) := ⟨rfl, rfl, rfl, by decide +kernel, rfl, by decide +kernel, by decide +kernel⟩
def fSchLessons (ad : Ad) : FS := fun ds C Kn _ => ∃ S : Sch, ds = [schD ad S] ∧ Kn (.lst (S.ps.map lesD)) C
theorem ok_School_lessons {f : Addr} {fd : FuncData} (Fu : Fun K "lessons" "School.lessons" (inner (top 18) 8) f fd) (T : Bn K mg ad) : FnG P w K mg base 1 f fd ["self"] (fSchLessons ad) := by
  refine fnG_of Fu sc_School_lessons (fun ds C Kn Ke h => ?_) (fun cdv A outer s H E W ds C Kn Ke hr hgu hx hF hio => ?_)
  · obtain ⟨S, rfl, q⟩ := h; rfl
  · obtain ⟨S, rfl, q⟩ := hF
    have nd := sc_School_lessons.nd
    -- 1
    refine wSs_cons ?_
    refine wS_ret ?_
    refine wE_callT "list" (by decide +kernel) T.list_ ?_
    refine wA_cons ?_
    refine wE_fld ?_
    refine wE_nm 0 rfl ?_
    refine ⟨_, _, _, _, .inl rfl, T.K_School.cls, T.nf_School_school_lessons, rfl, ?_⟩  --@1:fld
    refine wA_nil ?_
    refine t_listQ (.inl rfl) ?_  --@1:list
    exact q  --@1:ret


/-! School_persons -/
theorem sc_School_persons : FnScope ["self"] ["self"] (defScope (inner (top 18) 7)) := ⟨rfl, rfl, rfl, by decide +kernel, rfl, by decide +kernel, by decide +kernel⟩
def fSchPersons (ad : Ad) : FS := fun ds C Kn _ => ∃ S : Sch, ds = [schD ad S] ∧ S.ts.length ≤ 1000 ∧ S.cs.length ≤ 1000 ∧ Kn (.lst ((S.ts ++ S.cs).map D.str)) C
theorem ok_School_persons {f : Addr} {fd : FuncData} (Fu : Fun K "persons" "School.persons" (inner (top 18) 7) f fd) (T : Bn K mg ad) : FnG P w K mg base 1 f fd ["self"] (fSchPersons ad) := by
  refine fnG_of Fu sc_School_persons (fun ds C Kn Ke h => ?_) (fun cdv A outer s H E W ds C Kn Ke hr hgu hx hF hio => ?_)
  · obtain ⟨S, rfl, h1, h2, q⟩ := h; rfl
  · obtain ⟨S, rfl, h1, h2, q⟩ := hF
    have nd := sc_School_persons.nd
    -- 1
    refine wSs_cons ?_
    refine wS_ret ?_
    refine wE_bin ?_
    refine wE_fld ?_
    refine wE_nm 0 rfl ?_
    refine ⟨_, _, _, _, .inl rfl, T.K_School.cls, T.nf_School_school_teachers, rfl, ?_⟩  --@1:fld
    refine wE_fld ?_
    refine wE_nm 0 rfl ?_
    refine ⟨_, _, _, _, .inl rfl, T.K_School.cls, T.nf_School_school_classes, rfl, ?_⟩  --@1:fld2
    refine o_cat (by rw [List.length_map, List.length_map]; omega) ?_  --@1:add
    rw [← List.map_append]; exact q  --@1:ret


/-! partners -/
def pre_partners (school_ : Sch) (person_ : Str) : Prop := school_.ts.length ≤ 1000 ∧ school_.cs.length ≤ 1000 ∧ school_.ps.length ≤ 1000
def post_partners (school_ : Sch) (person_ : Str) (r : (List Str)) : Prop := r = partnersL school_ person_
def vc_partners (school_ : Sch) (person_ : Str) : Prop :=
  ∃ I2 : Nat → (List Str) → Prop, I2 0 ([] : List Str) ∧ (∀ (i5 : Nat) (y4 : (Str × Str)) (found_8 : (List Str)), school_.ps[i5]? = some y4 → I2 i5 found_8 → (((decide (person_ ∈ ([y4.1, y4.2] : List Str))) = true → found_8.length < 100000 ∧ (I2 (i5 + 1) (found_8 ++ [(bif (decide (person_ = y4.1)) then y4.2 else y4.1)]))) ∧ ((decide (person_ ∈ ([y4.1, y4.2] : List Str))) = false → I2 (i5 + 1) found_8))) ∧ (∀ (found_12 : (List Str)), I2 school_.ps.length found_12 → (school_.ts.length ≤ 1000 ∧ school_.cs.length ≤ 1000 ∧ (school_.ts ++ school_.cs).length ≤ 100000 ∧ (post_partners school_ person_ ((school_.ts ++ school_.cs).filter fun y15 => (decide (y15 ∈ found_12))))))
def F_partners (ad : Ad) : FS := fun ds C Kn Ke => ∃ (school_ : Sch) (person_ : Str), ds = [(schD ad) school_, D.str person_] ∧ pre_partners school_ person_ ∧ (∀ (r : (List Str)), post_partners school_ person_ r → Kn ((lsE D.str) r) C)
theorem v_partners (school_ : Sch) (person_ : Str) (h : pre_partners school_ person_) : vc_partners school_ person_ := by
  obtain ⟨ht, hc, hp⟩ := h
  have len : ∀ i, (pfound (school_.ps.take i) person_).length ≤ 1000 := fun i => by
    unfold pfound
    rw [List.length_map]
    refine Nat.le_trans (List.length_filter_le _ _) ?_
    rw [List.length_take]; omega
  have next : ∀ (i : Nat) (y : Str × Str), school_.ps[i]? = some y → pfound (school_.ps.take (i + 1)) person_ = pfound (school_.ps.take i) person_ ++ pfound [y] person_ := fun i y hy => by
    unfold pfound
    rw [List.take_add_one, hy, List.filter_append, List.map_append]; rfl
  refine ⟨fun i found => found = pfound (school_.ps.take i) person_, rfl, fun i y found hy hi => ⟨fun hb => ⟨?_, ?_⟩, fun hb => ?_⟩, fun found hf => ⟨ht, hc, by rw [List.length_append]; omega, ?_⟩⟩
  · have hi : found = _ := hi
    have := len i
    rw [← hi] at this; omega
  · have hi : found = _ := hi
    show found ++ _ = _
    rw [next i y hy, hi]
    congr 1
    unfold pfound
    rw [List.filter_cons_of_pos (p := fun l : Str × Str => decide (person_ ∈ ([l.1, l.2] : List Str))) hb]; rfl
  · have hi : found = _ := hi
    show found = _
    rw [next i y hy, hi]
    unfold pfound
    rw [List.filter_cons_of_neg (p := fun l : Str × Str => decide (person_ ∈ ([l.1, l.2] : List Str))) (l := []) (by show ¬ decide (person_ ∈ ([y.1, y.2] : List Str)) = true; rw [hb]; decide), List.filter_nil, List.map_nil, List.append_nil]
  · have hf : found = _ := hf
    rw [List.take_length] at hf
    show _ = partnersL school_ person_
    unfold partnersL
    rw [hf]

theorem sc_partners : FnScope ["school", "person", "found", "one", "other"] ["school", "person"] (defScope (top 21)) := ⟨rfl, rfl, rfl, by decide +kernel, rfl, by decide +kernel, by decide +kernel⟩
theorem ok_partners {f : Addr} {fd : FuncData} (Fu : Fun K "partners" "partners" (top 21) f fd) (T : Bn K mg ad) (HM_School_lessons : HasM P w K mg base ad.School "lessons" 1 (fSchLessons ad)) (HM_School_persons : HasM P w K mg base ad.School "persons" 1 (fSchPersons ad)) : FnG P w K mg base 2 f fd ["school", "person"] (F_partners ad) := by
  refine fnG_of Fu sc_partners (fun ds C Kn Ke h => ?_) (fun cdv A outer s H E W ds C Kn Ke hr hgu hx hF hio => ?_)
  · obtain ⟨school_, person_, rfl, _⟩ := h; rfl
  · obtain ⟨school_, person_, rfl, hpre, hq⟩ := hF
    have hV := v_partners school_ person_ hpre
    unfold vc_partners at hV
    have nd := sc_partners.nd
    -- 1: found = []
    refine wSs_cons ?_
    refine wS_set 2 ?_ nd
    refine wE_lstF (ds := ([] : List Str).map D.str) a_nil fun pfound1 => ?_
    -- 2: for one, other in school.lessons():
    refine wSs_cons ?_
    obtain ⟨I2, hI30, hI3s, hI3e⟩ := hV
    refine wS_forL school_.ps lesD (fun i_ G' C' => ∃ (g6 : Option D) (g7 : Option D) (found_8 : (List Str)), G' = [some ((schD ad) school_), some (D.str person_), some (.ref pfound1), g6, g7] ∧ C' = (pfound1, Cl.lst (found_8.map D.str)) :: C ∧ I2 i_ found_8) (i_ls (f := lesD) (l := school_.ps) (p_m0 T.K_School.cls HM_School_lessons hr hgu (p_nm 0 rfl) (.inl rfl) (by decide) (fun k q => ⟨school_, rfl, q⟩))) ⟨_, _, _, rfl, rfl, hI30⟩ ?_ ?_ bX_own rfl
    · intro i5 y4 G' C' hy_ ym_ hi_ iv_
      obtain ⟨g6, g7, found_8, rfl, hC_, iv_⟩ := iv_
      subst C'
      have hV := hI3s i5 y4 found_8 hy_ iv_
      refine wG_tup ?_ rfl rfl
      refine wTs_cons ?_
      refine wG_nm 3 ?_ nd
      refine wTs_cons ?_
      refine wG_nm 4 ?_ nd
      refine wTs_nil ?_
      -- 3: if person in (one, other):
      refine wSs_cons ?_
      refine wS_if ?_
      refine pt.w (t_cmp (p_nm 1 rfl) (p_tup (a_cons (p_nm 3 rfl) (a_cons (p_nm 4 rfl) a_nil)) rfl) (v_inS (s_tp (f := D.str) (l := [y4.1, y4.2]) rfl))) ?_
      refine ⟨fun h9 => ?_, fun h9 => ?_⟩
      · skip
        replace hV := hV.1 h9
        -- 4: found.append(other if person == one else one)
        refine wSs_cons ?_
        refine wS_expr ?_
        refine wE_m PySem.F.plainAttrs_list PySem.F.slot_list_append PySem.F.type_list_append ?_
        refine pv.w (p_nm 2 rfl) ?_
        refine ⟨.inl ⟨rfl, _, List.mem_of_getElem? (i := 0) rfl⟩, ?_⟩
        refine wA_cons ?_
        refine pv.w (p_if (f := D.str) (u := y4.2) (v := y4.1) (t_cmp (p_nm 1 rfl) (p_nm 3 rfl) v_eqS) (fun h10 => (p_nm 4 rfl)) (fun h10 => (p_nm 3 rfl))) ?_
        refine wA_nil ?_
        obtain ⟨hd11, hV⟩ := hV
        refine v_append (f := D.str) (l := found_8) (x := (bif (decide (person_ = y4.1)) then y4.2 else y4.1)) 0 rfl hd11 _ ?_
        refine wSs_nil ?_
        refine wSs_nil ?_
        exact ⟨_, _, _, rfl, rfl, hV⟩
      replace hV := hV.2 h9
      refine wSs_nil ?_
      refine wSs_nil ?_
      exact ⟨_, _, _, rfl, rfl, hV⟩
    intro G' C' iv_
    obtain ⟨g13, g14, found_12, rfl, hC_, iv_⟩ := iv_
    subst C'
    have hV := hI3e found_12 iv_
    refine wSs_frz (ds := found_12.map D.str) 2 0 rfl rfl (io_at (i := 0) (Z := [(pfound1, Cl.lst (found_12.map D.str))]) rfl (hio.trans rfl)) ?_
    -- 5: return [one for one in school.persons() if one in found]
    refine wSs_cons ?_
    refine wS_ret ?_
    obtain ⟨hd18, hd19, hd20, hV⟩ := hV
    refine pv.w (p_C (p_lcF (fun y15 => (decide (y15 ∈ found_12))) 3 [("one", 3)] nd rfl (i_ls (f := D.str) (l := (school_.ts ++ school_.cs)) (p_m0 T.K_School.cls HM_School_persons hr hgu (p_nm 0 rfl) (.inl rfl) (by decide) (fun k q => ⟨school_, rfl, hd18, hd19, q⟩))) hd20 (fun y15 hy16 W s H Cl cl fp => (t_cmp (p_nm 3 rfl) (p_nm 2 rfl) (v_inS s_ls))) (fun y15 hy16 hp17 W s H Cl cl fp => (p_nm 3 rfl)))) ?_
    exact hq ((school_.ts ++ school_.cs).filter fun y15 => (decide (y15 ∈ found_12))) hV


/-! led -/
def pre_led (k_ : Nat) (school_ : Sch) (taken_ : (List (Str × Str))) (person_ : Str) (known_ : (List Str)) : Prop := 1 ≤ k_ ∧ LedPre school_ k_ taken_ person_ known_
def post_led (school_ : Sch) (taken_ : (List (Str × Str))) (person_ : Str) (known_ : (List Str)) (r : Bool) (taken_' : (List (Str × Str))) (known_' : (List Str)) : Prop := LedIs (partnersL school_) taken_ person_ known_ r taken_' known_'
def vc_led (k_ : Nat) (school_ : Sch) (taken_ : (List (Str × Str))) (person_ : Str) (known_ : (List Str)) : Prop :=
  known_.length < 100000 ∧ (pre_partners school_ person_ ∧ (∃ I3 : Nat → (List (Str × Str)) → Prop, I3 0 taken_ ∧ (∀ (i6 : Nat) (y5 : Str) (taken_8 : (List (Str × Str))), (partnersL school_ person_)[i6]? = some y5 → I3 i6 taken_8 → (((!dcHas taken_8 y5) = true → taken_8.length < 100000 ∧ (post_led school_ taken_ person_ known_ true (dcSet taken_8 y5 person_) (known_ ++ [person_]))) ∧ ((!dcHas taken_8 y5) = false → I3 (i6 + 1) taken_8))) ∧ (∀ (taken_11 : (List (Str × Str))), I3 (partnersL school_ person_).length taken_11 → (pre_partners school_ person_ ∧ (∃ I14 : Nat → (List (Str × Str)) → (List Str) → Prop, I14 0 taken_11 (known_ ++ [person_]) ∧ (∀ (i17 : Nat) (y16 : Str) (taken_19 : (List (Str × Str))) (known_20 : (List Str)), (partnersL school_ person_)[i17]? = some y16 → I14 i17 taken_19 known_20 → (dcHas taken_19 y16 = true ∧ (((!decide ((dcGet taken_19 y16) ∈ known_20)) = true → dcHas taken_19 y16 = true ∧ (pre_led (k_ - 1) school_ taken_19 (dcGet taken_19 y16) known_20 ∧ (∀ (r25 : Bool) (taken27 : (List (Str × Str))) (known28 : (List Str)), post_led school_ taken_19 (dcGet taken_19 y16) known_20 r25 taken27 known28 → ((r25 = true → taken27.length < 100000 ∧ (post_led school_ taken_ person_ known_ true (dcSet taken27 y16 person_) known28)) ∧ (r25 = false → I14 (i17 + 1) taken27 known28))))) ∧ ((!decide ((dcGet taken_19 y16) ∈ known_20)) = false → I14 (i17 + 1) taken_19 known_20)))) ∧ (∀ (taken_32 : (List (Str × Str))) (known_33 : (List Str)), I14 (partnersL school_ person_).length taken_32 known_33 → (post_led school_ taken_ person_ known_ false taken_32 known_33)))))))
def F_led (ad : Ad) (k_ : Nat) : FS := fun ds C Kn Ke => ∃ (school_ : Sch) (taken_ : (List (Str × Str))) (person_ : Str) (known_ : (List Str)) (ptaken_ : Addr) (pknown_ : Addr), ds = [(schD ad) school_, .ref ptaken_, D.str person_, .ref pknown_] ∧ C = [(ptaken_, dcC keyS D.str taken_), (pknown_, Cl.lst (known_.map D.str))] ∧ pre_led k_ school_ taken_ person_ known_ ∧ (∀ (r : Bool) (taken_' : (List (Str × Str))) (known_' : (List Str)), post_led school_ taken_ person_ known_ r taken_' known_' → Kn (D.bl r) [(ptaken_, dcC keyS D.str taken_'), (pknown_, Cl.lst (known_'.map D.str))])
theorem v_led (k_ : Nat) (school_ : Sch) (taken_ : (List (Str × Str))) (person_ : Str) (known_ : (List Str)) (h : pre_led k_ school_ taken_ person_ known_) : vc_led k_ school_ taken_ person_ known_ := by
  obtain ⟨hk, P⟩ := h
  obtain ⟨us, u8, pu, ku, ou, hl⟩ := P.us
  have mt := P.mt
  have k8 : known_.length ≤ 8 := Nat.le_trans (mt_le P.nd ku) u8
  have t8 : taken_.length ≤ 8 := by
    have := mt_le (l := taken_.map (·.2)) (m := us) mt.on fun x hx => by
      obtain ⟨q, hq, rfl⟩ := List.mem_map.mp hx
      exact ou q hq
    rw [List.length_map] at this; omega
  refine ⟨by omega, P.s, fun i M1 => M1 = taken_ ∧ ∀ c ∈ (partnersL school_ person_).take i, c ∈ taken_.map (·.1), ⟨rfl, fun c hc => by simp at hc⟩, fun i y M1 hy hi => ?_, fun M1 hi => ?_⟩
  · obtain ⟨rfl, hi⟩ := hi
    refine ⟨fun hb => ⟨by omega, ⟨fun _ => aug_new mt (List.mem_of_getElem? hy) fun hm => ?_, fun h => by cases h⟩⟩, fun hb => ⟨rfl, fun c hc => ?_⟩⟩
    · rw [dcHas_iff.mpr hm] at hb; cases hb
    · rcases mem_take1 hy hc with hc | rfl
      · exact hi c hc
      · refine dcHas_iff.mp ?_
        cases e : dcHas M1 c
        · rw [e] at hb; cases hb
        · rfl
  · obtain ⟨rfl, hi⟩ := hi
    rw [List.take_length] at hi
    refine ⟨P.s, fun i M2 kn1 => M2 = M1 ∧ Half (partnersL school_) M1 person_ known_ i kn1, ⟨rfl, half_0 P.nd P.np⟩, fun i y M2 kn1 hy hI => ?_, fun M2 kn1 hI => ?_⟩
    · obtain ⟨rfl, H⟩ := hI
      have yin := List.mem_of_getElem? hy
      have hh : dcHas M2 y = true := dcHas_iff.mpr (hi y yin)
      have hyw := dcGet_mem hh
      have usk : ∀ x ∈ kn1, x ∈ us := fun x hx => by
        obtain ⟨new, e, o⟩ := H.ex
        rw [e] at hx
        rcases List.mem_append.mp hx with hx | hx
        · rcases List.mem_append.mp hx with hx | hx
          · exact ku x hx
          · rw [List.mem_singleton.mp hx]; exact pu
        · obtain ⟨q, hq, rfl⟩ := List.mem_map.mp (o x hx)
          exact ou q hq
      have kl : known_.length + 1 ≤ kn1.length := by
        obtain ⟨new, e, _⟩ := H.ex
        rw [e]; simp only [List.length_append, List.length_singleton]; omega
      refine ⟨hh, fun hb => ⟨hh, ?_, fun r M3 kn2 hp => ⟨fun hr => ?_, fun hr => ?_⟩⟩, fun hb => ⟨rfl, half_in H hy hyw (nd_f hb)⟩⟩
      · have hw : dcGet M2 y ∉ kn1 := nd_t hb
        have wu : dcGet M2 y ∈ us := ou _ hyw
        have lt : kn1.length < us.length := by
          have := mt_le (l := dcGet M2 y :: kn1) (m := us) (List.nodup_cons.mpr ⟨hw, H.nd⟩) fun x hx => by
            rcases List.mem_cons.mp hx with rfl | hx
            · exact wu
            · exact usk x hx
          rw [List.length_cons] at this; omega
        exact ⟨by omega, P.s, mt, H.nd, hw, us, u8, wu, usk, ou, by omega⟩
      · subst hr
        have A := hp.1 rfl
        have l3 : M3.length = M2.length + 1 := by
          have := A.ow.length_eq
          simpa using this
        refine ⟨by omega, ⟨fun _ => aug_in mt hyw yin (nd_t hb) (fun x hx => ?_) A, fun h => by cases h⟩⟩
        obtain ⟨new, e, _⟩ := H.ex
        rw [e]
        rcases hx with rfl | hx
        · exact List.mem_append_left _ (List.mem_append_right _ (List.mem_singleton.mpr rfl))
        · exact List.mem_append_left _ (List.mem_append_left _ hx)
      · subst hr
        obtain ⟨rfl, K⟩ := hp.2 rfl
        exact ⟨rfl, half_more H hy hyw K⟩
    · obtain ⟨rfl, H⟩ := hI
      exact ⟨fun h => (by cases h), fun _ => ⟨rfl, half_end H⟩⟩

theorem sc_led : FnScope ["school", "taken", "person", "known", "other"] ["school", "taken", "person", "known"] (defScope (top 22)) := ⟨rfl, rfl, rfl, by decide +kernel, rfl, by decide +kernel, by decide +kernel⟩
theorem ok_led0 {f : Addr} {fd : FuncData} (Fu : Fun K "led" "led" (top 22) f fd) (T : Bn K mg ad) (Hpartners : Has P w K mg base "partners" 2 (F_partners ad)) : FnG P w K mg base 3 f fd ["school", "taken", "person", "known"] (F_led ad 0) := by
  refine fnG_of Fu sc_led (fun ds C Kn Ke h => ?_) (fun cdv A outer s H E W ds C Kn Ke hr hgu hx hF hio => ?_)
  · obtain ⟨school_, taken_, person_, known_, ptaken_, pknown_, rfl, _⟩ := h; rfl
  · obtain ⟨school_, taken_, person_, known_, ptaken_, pknown_, rfl, rfl, hpre, _⟩ := hF
    exact absurd hpre.1 (by decide)
theorem ok_ledS {m_ : Nat} {f : Addr} {fd : FuncData} (Fu : Fun K "led" "led" (top 22) f fd) (T : Bn K mg ad) (Hpartners : Has P w K mg base "partners" 2 (F_partners ad)) (Hled : Has P w K mg base "led" (3 + m_) (F_led ad m_)) : FnG P w K mg base (3 + m_ + 1) f fd ["school", "taken", "person", "known"] (F_led ad (m_ + 1)) := by
  refine fnG_of Fu sc_led (fun ds C Kn Ke h => ?_) (fun cdv A outer s H E W ds C Kn Ke hr hgu hx hF hio => ?_)
  · obtain ⟨school_, taken_, person_, known_, ptaken_, pknown_, rfl, _⟩ := h; rfl
  · obtain ⟨school_, taken_, person_, known_, ptaken_, pknown_, rfl, rfl, hpre, hq⟩ := hF
    have hV := v_led (m_ + 1) school_ taken_ person_ known_ hpre
    unfold vc_led at hV
    have nd := sc_led.nd
    -- 1: known.append(person)
    refine wSs_cons ?_
    refine wS_expr ?_
    refine wE_m PySem.F.plainAttrs_list PySem.F.slot_list_append PySem.F.type_list_append ?_
    refine pv.w (p_nm 3 rfl) ?_
    refine ⟨.inl ⟨rfl, _, List.mem_of_getElem? (i := 1) rfl⟩, ?_⟩
    refine wA_cons ?_
    refine pv.w (p_nm 2 rfl) ?_
    refine wA_nil ?_
    obtain ⟨hd1, hV⟩ := hV
    refine v_append (f := D.str) (l := known_) (x := person_) 1 rfl hd1 _ ?_
    -- 2: for other in partners(school, person):
    obtain ⟨hd2, hV⟩ := hV
    refine wSs_cons ?_
    obtain ⟨I3, hI40, hI4s, hI4e⟩ := hV
    refine wS_forL (partnersL school_ person_) D.str (fun i_ G' C' => ∃ (g7 : Option D) (taken_8 : (List (Str × Str))), G' = [some ((schD ad) school_), some (.ref ptaken_), some (D.str person_), some (.ref pknown_), g7] ∧ C' = [(ptaken_, dcC keyS D.str taken_8), (pknown_, Cl.lst ((known_ ++ [person_]).map D.str))] ∧ I3 i_ taken_8) (i_ls (f := D.str) (l := (partnersL school_ person_)) (p_fn Hpartners hr hgu (a_cons (p_nm 0 rfl) (a_cons (p_nm 2 rfl) a_nil)) (fun k q => ⟨school_, person_, rfl, hd2, fun r_ e_ => by cases (show r_ = _ from e_); exact q⟩))) ⟨_, _, rfl, rfl, hI40⟩ ?_ ?_ bX_own rfl
    · intro i6 y5 G' C' hy_ ym_ hi_ iv_
      obtain ⟨g7, taken_8, rfl, hC_, iv_⟩ := iv_
      subst C'
      have hV := hI4s i6 y5 taken_8 hy_ iv_
      refine wG_nm 4 ?_ nd
      -- 3: if other not in taken:
      refine wSs_cons ?_
      refine wS_if ?_
      refine pt.w (t_cmp (p_nm 4 rfl) (p_nm 1 rfl) (v_niDc (kf := keyS) (f := D.str) (l := taken_8) (key := y5) hr (.inr ⟨_, 0, rfl, rfl⟩))) ?_
      refine ⟨fun h9 => ?_, fun h9 => ?_⟩
      · skip
        replace hV := hV.1 h9
        -- 4: taken[other] = person
        refine wSs_cons ?_
        refine wS_asg ?_
        refine pv.w (p_nm 2 rfl) ?_
        refine wG_ixD (kf := keyS) (f := D.str) (room_u1 hr) 0 ?_
        refine pv.w (p_nm 1 rfl) ?_
        refine pv.w (p_nm 4 rfl) ?_
        obtain ⟨hd10, hV⟩ := hV
        refine ⟨_, taken_8, y5, person_, rfl, rfl, rfl, rfl, hd10, ?_⟩
        -- 5: return True
        refine wSs_cons ?_
        refine wS_ret ?_
        refine pv.w p_bl ?_
        exact hq true (dcSet taken_8 y5 person_) (known_ ++ [person_]) hV
      replace hV := hV.2 h9
      refine wSs_nil ?_
      refine wSs_nil ?_
      exact ⟨_, _, rfl, rfl, hV⟩
    intro G' C' iv_
    obtain ⟨g12, taken_11, rfl, hC_, iv_⟩ := iv_
    subst C'
    have hV := hI4e taken_11 iv_
    -- 6: for other in partners(school, person):
    obtain ⟨hd13, hV⟩ := hV
    refine wSs_cons ?_
    obtain ⟨I14, hI150, hI15s, hI15e⟩ := hV
    refine wS_forL (partnersL school_ person_) D.str (fun i_ G' C' => ∃ (g18 : Option D) (taken_19 : (List (Str × Str))) (known_20 : (List Str)), G' = [some ((schD ad) school_), some (.ref ptaken_), some (D.str person_), some (.ref pknown_), g18] ∧ C' = [(ptaken_, dcC keyS D.str taken_19), (pknown_, Cl.lst (known_20.map D.str))] ∧ I14 i_ taken_19 known_20) (i_ls (f := D.str) (l := (partnersL school_ person_)) (p_fn Hpartners hr hgu (a_cons (p_nm 0 rfl) (a_cons (p_nm 2 rfl) a_nil)) (fun k q => ⟨school_, person_, rfl, hd13, fun r_ e_ => by cases (show r_ = _ from e_); exact q⟩))) ⟨_, _, _, rfl, rfl, hI150⟩ ?_ ?_ bX_own rfl
    · intro i17 y16 G' C' hy_ ym_ hi_ iv_
      obtain ⟨g18, taken_19, known_20, rfl, hC_, iv_⟩ := iv_
      subst C'
      have hV := hI15s i17 y16 taken_19 known_20 hy_ iv_
      refine wG_nm 4 ?_ nd
      -- 7: if taken[other] not in known and led(school, taken, taken[other], known):
      refine wSs_cons ?_
      refine wS_if ?_
      refine wB.wt ?_
      refine wB_and ?_
      obtain ⟨hd21, hV⟩ := hV
      refine pt.w (t_cmp (p_dix (kf := keyS) (f := D.str) (l := taken_19) (k := y16) hr (.inr ⟨_, 0, rfl, rfl⟩) (p_nm 1 rfl) (p_nm 4 rfl) hd21) (p_nm 3 rfl) (v_niS (s_ce (f := D.str) (l := known_20) 1 rfl))) ?_
      refine ⟨fun h22 => ?_, fun h22 => ?_⟩
      · skip
        replace hV := hV.1 h22
        refine wB_and1 ?_
        refine wT_val ?_
        refine wE_callX hx Hled hr hgu ?_
        refine wA_cons ?_
        refine pv.w (p_nm 0 rfl) ?_
        refine wA_cons ?_
        refine pv.w (p_nm 1 rfl) ?_
        refine wA_cons ?_
        obtain ⟨hd23, hV⟩ := hV
        refine pv.w (p_dix (kf := keyS) (f := D.str) (l := taken_19) (k := y16) hr (.inr ⟨_, 0, rfl, rfl⟩) (p_nm 1 rfl) (p_nm 4 rfl) hd23) ?_
        refine wA_cons ?_
        refine pv.w (p_nm 3 rfl) ?_
        refine wA_nil ?_
        obtain ⟨hd24, hV⟩ := hV
        refine ⟨[(ptaken_, dcC keyS D.str taken_19), (pknown_, Cl.lst (known_20.map D.str))], _, (perm_pick (i := 0) rfl (perm_pick (i := 0) rfl perm_done)), school_, taken_19, (dcGet taken_19 y16), known_20, ptaken_, pknown_, rfl, rfl, hd24, fun r25 taken27 known28 hp26 => ?_⟩
        replace hV := hV r25 taken27 known28 hp26
        refine ⟨_, rfl, ?_⟩
        refine ⟨fun h29 => ?_, fun h29 => ?_⟩
        · skip
          replace hV := hV.1 h29
          -- 8: taken[other] = person
          refine wSs_cons ?_
          refine wS_asg ?_
          refine pv.w (p_nm 2 rfl) ?_
          refine wG_ixD (kf := keyS) (f := D.str) (room_u1 hr) 0 ?_
          refine pv.w (p_nm 1 rfl) ?_
          refine pv.w (p_nm 4 rfl) ?_
          obtain ⟨hd30, hV⟩ := hV
          refine ⟨_, taken27, y16, person_, rfl, rfl, rfl, rfl, hd30, ?_⟩
          -- 9: return True
          refine wSs_cons ?_
          refine wS_ret ?_
          refine pv.w p_bl ?_
          exact hq true (dcSet taken27 y16 person_) known28 hV
        replace hV := hV.2 h29
        refine wSs_nil ?_
        refine wSs_nil ?_
        exact ⟨_, _, _, rfl, rfl, hV⟩
      replace hV := hV.2 h22
      refine ⟨(fun h => by cases h), (fun _ => ?_)⟩
      refine wSs_nil ?_
      refine wSs_nil ?_
      exact ⟨_, _, _, rfl, rfl, hV⟩
    intro G' C' iv_
    obtain ⟨g34, taken_32, known_33, rfl, hC_, iv_⟩ := iv_
    subst C'
    have hV := hI15e taken_32 known_33 iv_
    -- 10: return False
    refine wSs_cons ?_
    refine wS_ret ?_
    refine pv.w p_bl ?_
    exact hq false taken_32 known_33 hV
theorem ok_led {f : Addr} {fd : FuncData} (Fu : Fun K "led" "led" (top 22) f fd) (T : Bn K mg ad) (Hpartners : Has P w K mg base "partners" 2 (F_partners ad)) (mk : ∀ {j : Nat} {F : FS}, FnG P w K mg base j f fd ["school", "taken", "person", "known"] F → Has P w K mg base "led" j F) : FnG P w K mg base 12 f fd ["school", "taken", "person", "known"] (F_led ad 9) := ok_ledS (m_ := 8) Fu T Hpartners (mk (ok_ledS (m_ := 7) Fu T Hpartners (mk (ok_ledS (m_ := 6) Fu T Hpartners (mk (ok_ledS (m_ := 5) Fu T Hpartners (mk (ok_ledS (m_ := 4) Fu T Hpartners (mk (ok_ledS (m_ := 3) Fu T Hpartners (mk (ok_ledS (m_ := 2) Fu T Hpartners (mk (ok_ledS (m_ := 1) Fu T Hpartners (mk (ok_ledS (m_ := 0) Fu T Hpartners (mk (ok_led0 Fu T Hpartners))))))))))))))))))


/-! lesson_of -/
def pre_lesson_of (school_ : Sch) (one_ : Str) (other_ : Str) : Prop := school_.ps.length ≤ 1000 ∧ (one_, other_) ∈ school_.ps
def post_lesson_of (school_ : Sch) (one_ : Str) (other_ : Str) (r : Nat) : Prop := r = lessonOf school_ one_ other_
def vc_lesson_of (school_ : Sch) (one_ : Str) (other_ : Str) : Prop :=
  school_.ps.zipIdx.length ≤ 100000 ∧ 0 < ((school_.ps.zipIdx.filter fun y1 => ((decide (one_ ∈ [y1.1.1, y1.1.2])) && (decide (other_ ∈ [y1.1.1, y1.1.2])))).map (fun y1 => y1.2)).length ∧ (post_lesson_of school_ one_ other_ (gt ((school_.ps.zipIdx.filter fun y1 => ((decide (one_ ∈ [y1.1.1, y1.1.2])) && (decide (other_ ∈ [y1.1.1, y1.1.2])))).map (fun y1 => y1.2)) 0))
def F_lesson_of (ad : Ad) : FS := fun ds C Kn Ke => ∃ (school_ : Sch) (one_ : Str) (other_ : Str), ds = [(schD ad) school_, D.str one_, D.str other_] ∧ pre_lesson_of school_ one_ other_ ∧ (∀ (r : Nat), post_lesson_of school_ one_ other_ r → Kn (natD r) C)
theorem v_lesson_of (school_ : Sch) (one_ : Str) (other_ : Str) (h : pre_lesson_of school_ one_ other_) : vc_lesson_of school_ one_ other_ := by
  obtain ⟨hp, hm⟩ := h
  exact ⟨by rw [List.length_zipIdx]; omega, lessonOf_ne hm, rfl⟩

theorem sc_lesson_of : FnScope ["school", "one", "other", "at", "lesson"] ["school", "one", "other"] (defScope (top 24)) := ⟨rfl, rfl, rfl, by decide +kernel, rfl, by decide +kernel, by decide +kernel⟩
theorem ok_lesson_of {f : Addr} {fd : FuncData} (Fu : Fun K "lesson_of" "lesson_of" (top 24) f fd) (T : Bn K mg ad) (HM_School_lessons : HasM P w K mg base ad.School "lessons" 1 (fSchLessons ad)) : FnG P w K mg base 2 f fd ["school", "one", "other"] (F_lesson_of ad) := by
  refine fnG_of Fu sc_lesson_of (fun ds C Kn Ke h => ?_) (fun cdv A outer s H E W ds C Kn Ke hr hgu hx hF hio => ?_)
  · obtain ⟨school_, one_, other_, rfl, _⟩ := h; rfl
  · obtain ⟨school_, one_, other_, rfl, hpre, hq⟩ := hF
    have hV := v_lesson_of school_ one_ other_ hpre
    unfold vc_lesson_of at hV
    have nd := sc_lesson_of.nd
    -- 1: return [at for at, lesson in enumerate(school.lessons()) if one in lesson and other in les
    refine wSs_cons ?_
    refine wS_ret ?_
    obtain ⟨hd5, hd6, hV⟩ := hV
    refine pv.w (p_ix (p_C (p_lcP2 (fun q_ => natD q_.2) (fun q_ => lesD q_.1) natD (fun y1 => ((decide (one_ ∈ [y1.1.1, y1.1.2])) && (decide (other_ ∈ [y1.1.1, y1.1.2])))) (fun y1 => y1.2) 3 4 [("at", 3), ("lesson", 4)] nd rfl (i_en T.enumerate_ (p_m0 T.K_School.cls HM_School_lessons hr hgu (p_nm 0 rfl) (.inl rfl) (by decide) (fun k q => ⟨school_, rfl, q⟩))) (fun _ => rfl) hd5 (fun y1 hy3 W s H Cl cl fp => (t_b (b_and (t_cmp (p_nm 1 rfl) (p_nm 4 rfl) (v_inS (s_pr (f := D.str) (q := y1.1)))) (fun h2 => (b_and1 (t_cmp (p_nm 2 rfl) (p_nm 4 rfl) (v_inS (s_pr (f := D.str) (q := y1.1))))))))) (fun y1 hy3 hp4 W s H Cl cl fp => (p_nm 3 rfl)))) (p_lit 0) (v_ix (f := natD) (l := ((school_.ps.zipIdx.filter fun y1 => ((decide (one_ ∈ [y1.1.1, y1.1.2])) && (decide (other_ ∈ [y1.1.1, y1.1.2])))).map (fun y1 => y1.2))) hd6)) ?_
    exact hq (gt ((school_.ps.zipIdx.filter fun y1 => ((decide (one_ ∈ [y1.1.1, y1.1.2])) && (decide (other_ ∈ [y1.1.1, y1.1.2])))).map (fun y1 => y1.2)) 0) hV


/-! School_classes -/
theorem sc_School_classes : FnScope ["self"] ["self"] (defScope (inner (top 18) 6)) := ⟨rfl, rfl, rfl, by decide +kernel, rfl, by decide +kernel, by decide +kernel⟩
def fSchClasses (ad : Ad) : FS := fun ds C Kn _ => ∃ S : Sch, ds = [schD ad S] ∧ Kn (.lst (S.cs.map D.str)) C
theorem ok_School_classes {f : Addr} {fd : FuncData} (Fu : Fun K "classes" "School.classes" (inner (top 18) 6) f fd) (T : Bn K mg ad) : FnG P w K mg base 1 f fd ["self"] (fSchClasses ad) := by
  refine fnG_of Fu sc_School_classes (fun ds C Kn Ke h => ?_) (fun cdv A outer s H E W ds C Kn Ke hr hgu hx hF hio => ?_)
  · obtain ⟨S, rfl, q⟩ := h; rfl
  · obtain ⟨S, rfl, q⟩ := hF
    have nd := sc_School_classes.nd
    -- 1
    refine wSs_cons ?_
    refine wS_ret ?_
    refine wE_callT "list" (by decide +kernel) T.list_ ?_
    refine wA_cons ?_
    refine wE_fld ?_
    refine wE_nm 0 rfl ?_
    refine ⟨_, _, _, _, .inl rfl, T.K_School.cls, T.nf_School_school_classes, rfl, ?_⟩  --@1:fld
    refine wA_nil ?_
    refine t_listQ (.inl rfl) ?_  --@1:list
    exact q  --@1:ret


/-! most_at_once -/
def pre_most_at_once (school_ : Sch) : Prop := SchNew school_
def post_most_at_once (school_ : Sch) (r : ((List Nat) × (List Str))) : Prop := MostIs school_ r.1 r.2
def vc_most_at_once (school_ : Sch) : Prop :=
  ∃ I3 : Nat → (List (Str × Str)) → (List Str) → Prop, I3 0 ([] : (List (Str × Str))) ([] : List Str) ∧ (∀ (i6 : Nat) (y5 : Str) (taken_9 : (List (Str × Str))) (reached_10 : (List Str)), school_.ts[i6]? = some y5 → I3 i6 taken_9 reached_10 → (pre_led 9 school_ taken_9 y5 ([] : List Str) ∧ (∀ (r13 : Bool) (taken15 : (List (Str × Str))) (known16 : (List Str)), post_led school_ taken_9 y5 ([] : List Str) r13 taken15 known16 → (((!r13) = true → known16.length ≤ 100000 ∧ (reached_10.length + (known16.filter fun y18 => (!decide (y18 ∈ reached_10))).length ≤ 100000 ∧ (I3 (i6 + 1) taken15 (reached_10 ++ (known16.filter fun y18 => (!decide (y18 ∈ reached_10))))))) ∧ ((!r13) = false → I3 (i6 + 1) taken15 reached_10))))) ∧ (∀ (taken_23 : (List (Str × Str))) (reached_24 : (List Str)), I3 school_.ts.length taken_23 reached_24 → (taken_23.length ≤ 100000 ∧ (∀ y27 ∈ taken_23, pre_lesson_of school_ y27.2 y27.1) ∧ (taken_23.map (fun y27 => (lessonOf school_ y27.2 y27.1))).length < 64 ∧ (∀ lot_33 : (List Nat), lot_33 = (sortN (taken_23.map (fun y27 => (lessonOf school_ y27.2 y27.1)))) → (school_.cs.length ≤ 100000 ∧ (∀ y34 ∈ school_.cs, reached_24.length ≤ 100000 ∧ (∀ y35 ∈ reached_24, pre_partners school_ y35)) ∧ (∀ heard_48 : (List Str), heard_48 = (school_.cs.filter fun y34 => ((reached_24.map (fun y35 => (decide (y34 ∈ (partnersL school_ y35))))).any id)) → (school_.ts.length ≤ 100000 ∧ (∀ busy_58 : (List Str), busy_58 = (school_.ts.filter fun y49 => ((!decide (y49 ∈ reached_24)) && (decide (y49 ∈ taken_23.map (·.2))))) → (busy_58.length + heard_48.length ≤ 100000 ∧ (post_most_at_once school_ (lot_33, (busy_58 ++ heard_48)))))))))))
def F_most_at_once (ad : Ad) : FS := fun ds C Kn Ke => ∃ (school_ : Sch), ds = [(schD ad) school_] ∧ pre_most_at_once school_ ∧ (∀ (r : ((List Nat) × (List Str))), post_most_at_once school_ r → Kn ((prE (lsE natD) (lsE D.str)) r) C)
theorem v_most_at_once (school_ : Sch) (h : pre_most_at_once school_) : vc_most_at_once school_ := by
  have h : SchNew school_ := h
  have t8 := h.ok.t8; have c8 := h.ok.c8; have p40 := h.ok.p40
  refine ⟨fun i M re => MaxSt school_ i M re, max_0, fun i y M re hy st => ⟨⟨by decide, led_pre h st.mt t8 (List.mem_of_getElem? hy) fun q hq => List.mem_of_mem_take (st.ow q hq)⟩, fun r M' kn' hp => ⟨fun hr => ?_, fun hr => ?_⟩⟩, fun M re st => ?_⟩
  · have hr : r = false := by cases r <;> first | rfl | cases hr
    subst hr
    obtain ⟨rfl, K⟩ := hp.2 rfl
    have l1 := mt_le K.nd (stuck_ts st hy K)
    have l2 := mt_le st.rn st.rt
    have l3 : (kn'.filter fun x => !decide (x ∈ re)).length ≤ kn'.length := List.length_filter_le _ _
    exact ⟨by omega, by omega, max_no h st hy K⟩
  · have hr : r = true := by cases r <;> first | rfl | cases hr
    subst hr
    exact max_yes h st hy (hp.1 rfl)
  · have tsM : ∀ q ∈ M, q.2 ∈ school_.ts := fun q hq => List.mem_of_mem_take (st.ow q hq)
    have lM : M.length ≤ 8 := by
      have := mt_le (l := M.map (·.2)) (m := school_.ts) st.mt.on fun x hx => by
        obtain ⟨q, hq, rfl⟩ := List.mem_map.mp hx
        exact tsM q hq
      rw [List.length_map] at this; omega
    have l2 := mt_le st.rn st.rt
    refine ⟨by omega, fun y hy => ⟨by omega, (adj_t h (tsM y hy)).mp (st.mt.ed y hy)⟩, by rw [List.length_map]; omega, fun lot hlot => ⟨by omega, fun c hc => ⟨by omega, fun r hr => ⟨by omega, by omega, by omega⟩⟩, fun heard hh => ⟨by omega, fun busy hb => ⟨?_, ?_⟩⟩⟩⟩
    · have b1 : busy.length ≤ school_.ts.length := by rw [hb]; exact List.length_filter_le _ _
      have b2 : heard.length ≤ school_.cs.length := by rw [hh]; exact List.length_filter_le _ _
      omega
    · subst hlot hh hb
      exact most_is h st

theorem sc_most_at_once : FnScope ["school", "taken", "reached", "teacher", "lot", "heard", "busy", "known", "group", "one"] ["school"] (defScope (top 25)) := ⟨rfl, rfl, rfl, by decide +kernel, rfl, by decide +kernel, by decide +kernel⟩
theorem ok_most_at_once {f : Addr} {fd : FuncData} (Fu : Fun K "most_at_once" "most_at_once" (top 25) f fd) (T : Bn K mg ad) (Hneed_school : Has P w K mg base "need_school" 3 (fNeedSchool ad)) (HM_School_teachers : HasM P w K mg base ad.School "teachers" 1 (fSchTeachers ad)) (Hled : Has P w K mg base "led" 12 (F_led ad 9)) (Hlesson_of : Has P w K mg base "lesson_of" 2 (F_lesson_of ad)) (HM_School_classes : HasM P w K mg base ad.School "classes" 1 (fSchClasses ad)) (Hpartners : Has P w K mg base "partners" 2 (F_partners ad)) : FnG P w K mg base 13 f fd ["school"] (F_most_at_once ad) := by
  refine fnG_of Fu sc_most_at_once (fun ds C Kn Ke h => ?_) (fun cdv A outer s H E W ds C Kn Ke hr hgu hx hF hio => ?_)
  · obtain ⟨school_, rfl, _⟩ := h; rfl
  · obtain ⟨school_, rfl, hpre, hq⟩ := hF
    have hV := v_most_at_once school_ hpre
    unfold vc_most_at_once at hV
    have nd := sc_most_at_once.nd
    -- 1: need_school(school)
    refine wSs_cons ?_
    refine wS_expr ?_
    refine pv.w (p_fn Hneed_school hr hgu (a_cons (p_nm 0 rfl) a_nil) (fun k q => ⟨_, rfl, .inl ⟨school_, rfl, q⟩⟩)) ?_
    -- 2: taken = {}
    refine wSs_cons ?_
    refine wS_set 1 ?_ nd
    refine wE_dctF fun ptaken1 => ?_
    -- 3: reached = []
    refine wSs_cons ?_
    refine wS_set 2 ?_ nd
    refine wE_lstF (ds := ([] : List Str).map D.str) a_nil fun preached2 => ?_
    -- 4: for teacher in school.teachers():
    refine wSs_cons ?_
    obtain ⟨I3, hI40, hI4s, hI4e⟩ := hV
    refine wS_forL school_.ts D.str (fun i_ G' C' => ∃ (g7 : Option D) (g8 : Option D) (taken_9 : (List (Str × Str))) (reached_10 : (List Str)), G' = [some ((schD ad) school_), some (.ref ptaken1), some (.ref preached2), g8, none, none, none, g7, none, none] ∧ C' = (preached2, Cl.lst (reached_10.map D.str)) :: (ptaken1, dcC keyS D.str taken_9) :: C ∧ I3 i_ taken_9 reached_10) (i_ls (f := D.str) (l := school_.ts) (p_m0 T.K_School.cls HM_School_teachers hr hgu (p_nm 0 rfl) (.inl rfl) (by decide) (fun k q => ⟨school_, rfl, q⟩))) ⟨_, _, _, _, rfl, rfl, hI40⟩ ?_ ?_ bX_own rfl
    · intro i6 y5 G' C' hy_ ym_ hi_ iv_
      obtain ⟨g7, g8, taken_9, reached_10, rfl, hC_, iv_⟩ := iv_
      subst C'
      have hV := hI4s i6 y5 taken_9 reached_10 hy_ iv_
      refine wG_nm 3 ?_ nd
      -- 5: known = []
      refine wSs_cons ?_
      refine wS_set 7 ?_ nd
      refine wE_lstF (ds := ([] : List Str).map D.str) a_nil fun pknown11 => ?_
      -- 6: if not led(school, taken, teacher, known):
      refine wSs_cons ?_
      refine wS_if ?_
      refine wT_not ?_
      refine wT_val ?_
      refine wE_callX hx Hled hr hgu ?_
      refine wA_cons ?_
      refine pv.w (p_nm 0 rfl) ?_
      refine wA_cons ?_
      refine pv.w (p_nm 1 rfl) ?_
      refine wA_cons ?_
      refine pv.w (p_nm 3 rfl) ?_
      refine wA_cons ?_
      refine pv.w (p_nm 7 rfl) ?_
      refine wA_nil ?_
      obtain ⟨hd12, hV⟩ := hV
      refine ⟨[(ptaken1, dcC keyS D.str taken_9), (pknown11, Cl.lst (([] : List Str).map D.str))], _, (perm_pick (i := 2) rfl (perm_pick (i := 0) rfl perm_done)), school_, taken_9, y5, ([] : List Str), ptaken1, pknown11, rfl, rfl, hd12, fun r13 taken15 known16 hp14 => ?_⟩
      replace hV := hV r13 taken15 known16 hp14
      refine ⟨_, rfl, ?_⟩
      refine ⟨fun h17 => ?_, fun h17 => ?_⟩
      · skip
        replace hV := hV.1 h17
        -- 7: reached.extend([one for one in known if one not in reached])
        refine wSs_frz (ds := known16.map D.str) 7 1 rfl rfl (io_at2 (i := 1) [(ptaken1, dcC keyS D.str taken15), (pknown11, Cl.lst (known16.map D.str))] [(preached2, Cl.lst (reached_10.map D.str))] rfl (hio.trans rfl)) ?_
        refine wSs_cons ?_
        refine wS_expr ?_
        refine wE_m PySem.F.plainAttrs_list PySem.F.slot_list_extend PySem.F.type_list_extend ?_
        refine pv.w (p_nm 2 rfl) ?_
        refine ⟨.inl ⟨rfl, _, List.mem_of_getElem? (i := 1) rfl⟩, ?_⟩
        refine wA_cons ?_
        obtain ⟨hd21, hV⟩ := hV
        refine pv.w (p_C (p_lcF (fun y18 => (!decide (y18 ∈ reached_10))) 9 [("one", 9)] nd rfl (i_ls (f := D.str) (l := known16) (p_nm 7 rfl)) hd21 (fun y18 hy19 W s H Cl cl fp => (t_cmp (p_nm 9 rfl) (p_nm 2 rfl) (v_niS (s_ce (f := D.str) (l := reached_10) 1 rfl)))) (fun y18 hy19 hp20 W s H Cl cl fp => (p_nm 9 rfl)))) ?_
        refine wA_nil ?_
        obtain ⟨hd22, hV⟩ := hV
        refine v_extend (f := D.str) (l := reached_10) (m := (known16.filter fun y18 => (!decide (y18 ∈ reached_10)))) 1 rfl hd22 _ ?_
        refine wSs_nil ?_
        refine wSs_sub (R := (preached2, Cl.lst ((reached_10 ++ (known16.filter fun y18 => (!decide (y18 ∈ reached_10)))).map D.str)) :: (ptaken1, dcC keyS D.str taken15) :: C) (sub_pick (i := 1) rfl (sub_pick (i := 0) rfl (sub_own (Z := [])))) ?_
        refine wSs_nil ?_
        exact ⟨_, _, _, _, rfl, rfl, hV⟩
      replace hV := hV.2 h17
      refine wSs_nil ?_
      refine wSs_frz (ds := known16.map D.str) 7 1 rfl rfl (io_at2 (i := 1) [(ptaken1, dcC keyS D.str taken15), (pknown11, Cl.lst (known16.map D.str))] [(preached2, Cl.lst (reached_10.map D.str))] rfl (hio.trans rfl)) ?_
      refine wSs_sub (R := (preached2, Cl.lst (reached_10.map D.str)) :: (ptaken1, dcC keyS D.str taken15) :: C) (sub_pick (i := 1) rfl (sub_pick (i := 0) rfl (sub_own (Z := [])))) ?_
      refine wSs_nil ?_
      exact ⟨_, _, _, _, rfl, rfl, hV⟩
    intro G' C' iv_
    obtain ⟨g25, g26, taken_23, reached_24, rfl, hC_, iv_⟩ := iv_
    subst C'
    have hV := hI4e taken_23 reached_24 iv_
    refine wSs_frz (ds := reached_24.map D.str) 2 0 rfl rfl (io_at2 (i := 0) [(preached2, Cl.lst (reached_24.map D.str))] [(ptaken1, dcC keyS D.str taken_23)] rfl (hio.trans rfl)) ?_
    -- 8: lot = sorted([lesson_of(school, teacher, group) for group, teacher in taken.items()])
    refine wSs_frzD 1 0 rfl rfl (io_at (i := 0) (Z := [(ptaken1, dcC keyS D.str taken_23)]) rfl (hio.trans rfl)) ?_
    obtain ⟨hd30, hd31, hd32, hV⟩ := hV
    refine wSs_cons ?_
    obtain ⟨lot_33, hlot_33⟩ : ∃ x_ : (List Nat), x_ = (sortN (taken_23.map (fun y27 => (lessonOf school_ y27.2 y27.1)))) := ⟨_, rfl⟩
    replace hV := hV lot_33 hlot_33
    refine wS_set 4 (pv.w (pv.as (f := (lsE natD)) hlot_33 (p_B "sorted" (by decide +kernel) T.sorted_ (a_cons (p_C (p_lcM2 (fun q_ => D.str q_.1) (fun q_ => D.str q_.2) natD (fun y27 => (lessonOf school_ y27.2 y27.1)) 8 3 [("group", 8), ("teacher", 3)] nd rfl (i_items (kf := keyS) (f := D.str) (l := taken_23) D.str (fun _ => rfl) (p_nm 1 rfl)) (fun _ => rfl) hd30 (fun y27 hy28 W s H Cl cl fp => (p_fn Hlesson_of hr hgu (a_cons (p_nm 0 rfl) (a_cons (p_nm 3 rfl) (a_cons (p_nm 8 rfl) a_nil))) (fun k q => ⟨school_, y27.2, y27.1, rfl, (hd31 y27 hy28), fun r_ e_ => by cases (show r_ = _ from e_); exact q⟩))))) a_nil) (v_sort s_ls (fun xs h => by cases h) hd32))) ?_) nd
    -- 9: heard = [group for group in school.classes() if any([group in partners(school, one) for on
    obtain ⟨hd40, hd41, hV⟩ := hV
    refine wSs_cons ?_
    obtain ⟨heard_48, hheard_48⟩ : ∃ x_ : (List Str), x_ = (school_.cs.filter fun y34 => ((reached_24.map (fun y35 => (decide (y34 ∈ (partnersL school_ y35))))).any id)) := ⟨_, rfl⟩
    replace hV := hV heard_48 hheard_48
    refine wS_CP 5 (f := (lsE D.str)) hheard_48 (p_lcF (fun y42 => ((reached_24.map (fun y43 => (decide (y42 ∈ (partnersL school_ y43))))).any id)) 8 [("group", 8)] nd rfl (i_ls (f := D.str) (l := school_.cs) (p_m0 T.K_School.cls HM_School_classes hr hgu (p_nm 0 rfl) (.inl rfl) (by decide) (fun k q => ⟨school_, rfl, q⟩))) hd40 (fun y42 hy46 W s H Cl cl fp => (t_val (p_B "any" (by decide +kernel) T.any_ (a_cons (p_C (p_lcM D.bl (fun y43 => (decide (y42 ∈ (partnersL school_ y43)))) 9 [("one", 9)] nd rfl (i_ls (f := D.str) (l := reached_24) (p_nm 2 rfl)) (hd41 y42 hy46).1 (fun y43 hy44 W s H Cl cl fp => (p_cmp (p_nm 8 rfl) (p_fn Hpartners hr hgu (a_cons (p_nm 0 rfl) (a_cons (p_nm 9 rfl) a_nil)) (fun k q => ⟨school_, y43, rfl, ((hd41 y42 hy46).2 y43 hy44), fun r_ e_ => by cases (show r_ = _ from e_); exact q⟩)) (v_inS s_ls))))) a_nil) (v_any rfl)))) (fun y42 hy46 hp47 W s H Cl cl fp => (p_nm 8 rfl))) ?_ nd
    -- 10: busy = [one for one in school.teachers() if one not in reached and one in taken.values()]
    obtain ⟨hd53, hV⟩ := hV
    refine wSs_cons ?_
    obtain ⟨busy_58, hbusy_58⟩ : ∃ x_ : (List Str), x_ = (school_.ts.filter fun y49 => ((!decide (y49 ∈ reached_24)) && (decide (y49 ∈ taken_23.map (·.2))))) := ⟨_, rfl⟩
    replace hV := hV busy_58 hbusy_58
    refine wS_CP 6 (f := (lsE D.str)) hbusy_58 (p_lcF (fun y54 => ((!decide (y54 ∈ reached_24)) && (decide (y54 ∈ taken_23.map (·.2))))) 9 [("one", 9)] nd rfl (i_ls (f := D.str) (l := school_.ts) (p_m0 T.K_School.cls HM_School_teachers hr hgu (p_nm 0 rfl) (.inl rfl) (by decide) (fun k q => ⟨school_, rfl, q⟩))) hd53 (fun y54 hy56 W s H Cl cl fp => (t_b (b_and (t_cmp (p_nm 9 rfl) (p_nm 2 rfl) (v_niS s_ls)) (fun h55 => (b_and1 (t_inValsS (kf := keyS) (l := taken_23) rfl (p_nm 9 rfl) (p_nm 1 rfl) (.inl rfl))))))) (fun y54 hy56 hp57 W s H Cl cl fp => (p_nm 9 rfl))) ?_ nd
    -- 11: return (lot, busy + heard)
    refine wSs_cons ?_
    refine wS_ret ?_
    obtain ⟨hd59, hV⟩ := hV
    refine pv.w (p_tup (z := (prE (lsE natD) (lsE D.str)) (lot_33, (busy_58 ++ heard_48))) (a_cons (p_nm 4 rfl) (a_cons (p_bin (p_nm 6 rfl) (p_nm 5 rfl) (v_cat (f := D.str) (l := busy_58) (m := heard_48) hd59)) a_nil)) rfl) ?_
    exact hq (lot_33, (busy_58 ++ heard_48)) hV


/-! law_cell -/
theorem sc_law_cell : FnScope ["script", "k"] ["script", "k"] (defScope (top 31)) := ⟨rfl, rfl, rfl, by decide +kernel, rfl, by decide +kernel, by decide +kernel⟩
def fCell : FS := fun ds C Kn _ => ∃ (ns : List Int) (i : Nat), ds = [.scr (ns.map D.int), natD i] ∧ i ≤ 1000 ∧ ∀ z : Int, Kn (.int z) C
theorem ok_law_cell {f : Addr} {fd : FuncData} (Fu : Fun K "_law_cell" "_law_cell" (top 31) f fd) (T : Bn K mg ad) : FnG P w K mg base 1 f fd ["script", "k"] (fCell) := by
  refine fnG_of Fu sc_law_cell (fun ds C Kn Ke h => ?_) (fun cdv A outer s H E W ds C Kn Ke hr hgu hx hF hio => ?_)
  · obtain ⟨ns, i, rfl, hi, q⟩ := h; rfl
  · obtain ⟨ns, i, rfl, hi, q⟩ := hF
    have nd := sc_law_cell.nd
    -- 1
    refine wSs_cons ?_
    refine wS_if ?_
    refine wT_cmp ?_
    refine wE_nm 1 rfl ?_
    refine wE_callB "len" (by decide +kernel) T.len_ ?_
    refine wA_cons ?_
    refine wE_nm 0 rfl ?_
    refine wA_nil ?_
    refine c_lenR ?_  --@1:len
    refine o_lt ?_  --@1:lt
    refine ⟨_, rfl, ?_⟩
    refine ⟨fun hi1 => ?_, fun hi1 => ?_⟩  --@1:if
    · skip
      -- 2
      refine wSs_cons ?_
      refine wS_ret ?_
      refine wE_ix ?_
      refine wE_nm 0 rfl ?_
      refine wE_nm 1 rfl ?_
      obtain ⟨z, hz⟩ : ∃ z, (ns.map D.int)[i]? = some (.int z) := by
        have hlt : i < ns.length := by have := of_decide_eq_true hi1; simp only [List.length_map] at this; omega
        exact ⟨ns[i], by rw [List.getElem?_map, List.getElem?_eq_getElem hlt]; rfl⟩
      refine xD_scr (atI_nat hz) ?_  --@2:ix
      exact q _  --@2:ret
    refine wSs_nil ?_
    -- 3
    refine wSs_cons ?_
    refine wS_ret ?_
    refine wE_bin ?_
    refine wE_bin ?_
    refine wE_int ?_
    refine wE_nm 1 rfl ?_
    first | refine o_mul (.inl ⟨by decide, by decide⟩) ?_ | refine o_mul (.inr ⟨by decide, by decide⟩) ?_ | refine o_mul (.inl ⟨by omega, by omega⟩) ?_ | refine o_mul (.inr ⟨by omega, by omega⟩) ?_  --@3:mul
    refine wE_int ?_
    first | refine o_add ?_ | refine o_cat (by simp) ?_ | refine o_addS (by simp) ?_  --@3:add
    exact q _  --@3:ret


/-! need_persons -/
def pre_need_persons (school_ : Sch) (persons_ : (List Str)) : Prop := SchNew school_ ∧ persons_.length ≤ 16 ∧ persons_.Nodup ∧ ∀ p ∈ persons_, p ∈ school_.ts ++ school_.cs
def post_need_persons (school_ : Sch) (persons_ : (List Str)) (r : Unit) : Prop := True
def vc_need_persons (school_ : Sch) (persons_ : (List Str)) : Prop :=
  ((!(islB persons_.length 0 16)) = true → False) ∧ ((!(islB persons_.length 0 16)) = false → ∃ I2 : Nat → Prop, I2 0 ∧ (∀ (i5 : Nat) (y4 : (Str × Nat)), persons_.zipIdx[i5]? = some y4 → I2 i5 → (((!true) = false → school_.ts.length ≤ 1000 ∧ school_.cs.length ≤ 1000) ∧ ((((!true) || ((!decide (y4.1 ∈ (school_.ts ++ school_.cs))) || (decide (y4.1 ∈ (persons_.take y4.2))))) = true → False) ∧ (((!true) || ((!decide (y4.1 ∈ (school_.ts ++ school_.cs))) || (decide (y4.1 ∈ (persons_.take y4.2))))) = false → I2 (i5 + 1) )))) ∧ (I2 persons_.zipIdx.length → (post_need_persons school_ persons_ ())))
def F_need_persons (ad : Ad) : FS := fun ds C Kn Ke => ∃ (school_ : Sch) (persons_ : (List Str)), ds = [(schD ad) school_, (lsE D.str) persons_] ∧ pre_need_persons school_ persons_ ∧ (∀ (r : Unit), post_need_persons school_ persons_ r → Kn (unE r) C)
theorem v_need_persons (school_ : Sch) (persons_ : (List Str)) (h : pre_need_persons school_ persons_) : vc_need_persons school_ persons_ := by
  obtain ⟨h, l16, nd, hp⟩ := h
  have t8 := h.ok.t8; have c8 := h.ok.c8
  have isl : islB persons_.length 0 16 = true := by unfold islB; rw [dec_nat.2.1, dec_nat.2.1, decide_eq_true (Nat.zero_le _), decide_eq_true l16]; rfl
  rw [vc_need_persons, isl]
  refine ⟨fun z => (by cases z), fun _ => ⟨fun _ => True, trivial, fun i y hy _ => ?_, fun _ => trivial⟩⟩
  have hm := List.mem_of_getElem? hy
  rw [List.getElem?_zipIdx] at hy
  cases e : persons_[i]? with
  | none => rw [e] at hy; cases hy
  | some p =>
    rw [e] at hy
    have hy : some (p, 0 + i) = some y := hy
    rw [Nat.zero_add] at hy
    cases hy
    have h1 := hp p (List.mem_of_getElem? e)
    have h2 : p ∉ persons_.take i := not_take nd e
    refine ⟨fun _ => ⟨by omega, by omega⟩, fun z => ?_, fun _ => trivial⟩
    have z : ((!true) || ((!decide (p ∈ (school_.ts ++ school_.cs))) || decide (p ∈ persons_.take i))) = true := z
    rw [decide_eq_true h1, decide_eq_false h2] at z
    cases z

theorem sc_need_persons : FnScope ["school", "persons", "at", "person"] ["school", "persons"] (defScope (top 26)) := ⟨rfl, rfl, rfl, by decide +kernel, rfl, by decide +kernel, by decide +kernel⟩
theorem ok_need_persons {f : Addr} {fd : FuncData} (Fu : Fun K "need_persons" "need_persons" (top 26) f fd) (T : Bn K mg ad) (His_list : Has P w K mg base "is_list" 1 (fIsList)) (HM_School_persons : HasM P w K mg base ad.School "persons" 1 (fSchPersons ad)) : FnG P w K mg base 2 f fd ["school", "persons"] (F_need_persons ad) := by
  refine fnG_of Fu sc_need_persons (fun ds C Kn Ke h => ?_) (fun cdv A outer s H E W ds C Kn Ke hr hgu hx hF hio => ?_)
  · obtain ⟨school_, persons_, rfl, _⟩ := h; rfl
  · obtain ⟨school_, persons_, rfl, hpre, hq⟩ := hF
    have hV := v_need_persons school_ persons_ hpre
    unfold vc_need_persons at hV
    have nd := sc_need_persons.nd
    -- 1: if not is_list(persons, 0, 16):
    refine wSs_cons ?_
    refine wS_if ?_
    refine pt.w (t_not (t_val (p_fn His_list hr hgu (a_cons (p_nm 1 rfl) (a_cons (p_lit 0) (a_cons (p_lit 16) a_nil))) (fun k q => ⟨_, _, _, islB persons_.length 0 16, rfl, .inl ⟨_, .inl rfl, by unfold islB; rw [List.length_map]⟩, q⟩)))) ?_
    refine ⟨fun h1 => ?_, fun h1 => ?_⟩
    · skip
      replace hV := hV.1 h1
      -- 2: raise BadPersons(persons)
      exact hV.elim
    replace hV := hV.2 h1
    refine wSs_nil ?_
    -- 3: for at, person in enumerate(persons):
    refine wSs_cons ?_
    obtain ⟨I2, hI30, hI3s, hI3e⟩ := hV
    refine wS_forL persons_.zipIdx (enE D.str) (fun i_ G' C' => ∃ (g6 : Option D) (g7 : Option D), G' = [some ((schD ad) school_), some ((lsE D.str) persons_), g6, g7] ∧ C' = C ∧ I2 i_) (i_en T.enumerate_ (p_nm 1 rfl)) ⟨_, _, rfl, rfl, hI30⟩ ?_ ?_ bX_own rfl
    · intro i5 y4 G' C' hy_ ym_ hi_ iv_
      obtain ⟨g6, g7, rfl, hC_, iv_⟩ := iv_
      subst C'
      have hV := hI3s i5 y4  hy_ iv_
      refine wG_tup ?_ rfl rfl
      refine wTs_cons ?_
      refine wG_nm 2 ?_ nd
      refine wTs_cons ?_
      refine wG_nm 3 ?_ nd
      refine wTs_nil ?_
      -- 4: if not isinstance(person, str) or person not in school.persons() or person in persons[:at]
      refine wSs_cons ?_
      refine wS_if ?_
      obtain ⟨hd10, hV⟩ := hV
      refine pt.w (t_b (b_or (t_not (t_val (p_isB "str" T.isinstance_ T.str_ (by decide +kernel) (p_nm 3 rfl) rfl rfl))) (fun h9 => (b_or (t_cmp (p_nm 3 rfl) (p_m0 T.K_School.cls HM_School_persons hr hgu (p_nm 0 rfl) (.inl rfl) (by decide) (fun k q => ⟨school_, rfl, (hd10 h9).1, (hd10 h9).2, q⟩)) (v_niS s_ls)) (fun h8 => (b_or1 (t_cmp (p_nm 3 rfl) (p_sl (p_nm 1 rfl) po_none (po_nat (p_nm 2 rfl)) v_slTo) (v_inS s_ls)))))))) ?_
      refine ⟨fun h11 => ?_, fun h11 => ?_⟩
      · skip
        replace hV := hV.1 h11
        -- 5: raise BadPersons(person)
        exact hV.elim
      replace hV := hV.2 h11
      refine wSs_nil ?_
      refine wSs_nil ?_
      exact ⟨_, _, rfl, rfl, hV⟩
    intro G' C' iv_
    obtain ⟨g12, g13, rfl, hC_, iv_⟩ := iv_
    subst C'
    have hV := hI3e  iv_
    refine wSs_nil ?_
    exact hq ()  hV


/-! paired -/
def pre_paired (school_ : Sch) (persons_ : (List Str)) : Prop := SchNew school_ ∧ persons_.Nodup ∧ persons_.length ≤ 8
def post_paired (school_ : Sch) (persons_ : (List Str)) (r : ((List (Str × Str)) × (Option (List Str)))) : Prop := PairedIs (partnersL school_) persons_ r
def vc_paired (school_ : Sch) (persons_ : (List Str)) : Prop :=
  ∃ I2 : Nat → (List (Str × Str)) → Prop, I2 0 ([] : (List (Str × Str))) ∧ (∀ (i5 : Nat) (y4 : Str) (taken_8 : (List (Str × Str))), persons_[i5]? = some y4 → I2 i5 taken_8 → (pre_led 9 school_ taken_8 y4 ([] : List Str) ∧ (∀ (r11 : Bool) (taken13 : (List (Str × Str))) (known14 : (List Str)), post_led school_ taken_8 y4 ([] : List Str) r11 taken13 known14 → (((!r11) = true → persons_.length ≤ 100000 ∧ (post_paired school_ persons_ (taken13, (some (persons_.filter fun y16 => (decide (y16 ∈ known14))))))) ∧ ((!r11) = false → I2 (i5 + 1) taken13))))) ∧ (∀ (taken_20 : (List (Str × Str))), I2 persons_.length taken_20 → (post_paired school_ persons_ (taken_20, (none : (Option (List Str))))))
def F_paired (ad : Ad) : FS := fun ds C Kn Ke => ∃ (school_ : Sch) (persons_ : (List Str)), ds = [(schD ad) school_, (lsE D.str) persons_] ∧ pre_paired school_ persons_ ∧ (∀ (r : ((List (Str × Str)) × (Option (List Str)))), post_paired school_ persons_ r → Kn ((prE (dcE keyS D.str) (opE (lsE D.str))) r) C)
theorem v_paired (school_ : Sch) (persons_ : (List Str)) (h : pre_paired school_ persons_) : vc_paired school_ persons_ := by
  obtain ⟨h, nd, p8⟩ := h
  refine ⟨fun i M => PairSt (partnersL school_) persons_ i M, pair_0, fun i y M hy st => ⟨⟨by decide, led_pre h st.mt p8 (List.mem_of_getElem? hy) fun q hq => List.mem_of_mem_take ((st.ow _).mp (List.mem_map.mpr ⟨q, hq, rfl⟩))⟩, fun r M' kn' hp => ⟨fun hr => ?_, fun hr => ?_⟩⟩, fun M st => ?_⟩
  · have hr : r = false := by cases r <;> first | rfl | cases hr
    subst hr
    obtain ⟨rfl, K⟩ := hp.2 rfl
    refine ⟨by omega, ⟨fun e => (by cases e), fun l e => ?_⟩⟩
    cases e
    exact pair_no nd st hy K
  · have hr : r = true := by cases r <;> first | rfl | cases hr
    subst hr
    exact pair_yes nd st hy (hp.1 rfl)
  · have st : PairSt (partnersL school_) persons_ persons_.length M := st
    have ow := st.ow
    rw [List.take_length] at ow
    exact ⟨fun _ => ⟨st.mt, ow⟩, fun l e => (by cases e)⟩

theorem sc_paired : FnScope ["school", "persons", "taken", "person", "known", "one"] ["school", "persons"] (defScope (top 23)) := ⟨rfl, rfl, rfl, by decide +kernel, rfl, by decide +kernel, by decide +kernel⟩
theorem ok_paired {f : Addr} {fd : FuncData} (Fu : Fun K "paired" "paired" (top 23) f fd) (T : Bn K mg ad) (Hled : Has P w K mg base "led" 12 (F_led ad 9)) : FnG P w K mg base 13 f fd ["school", "persons"] (F_paired ad) := by
  refine fnG_of Fu sc_paired (fun ds C Kn Ke h => ?_) (fun cdv A outer s H E W ds C Kn Ke hr hgu hx hF hio => ?_)
  · obtain ⟨school_, persons_, rfl, _⟩ := h; rfl
  · obtain ⟨school_, persons_, rfl, hpre, hq⟩ := hF
    have hV := v_paired school_ persons_ hpre
    unfold vc_paired at hV
    have nd := sc_paired.nd
    -- 1: taken = {}
    refine wSs_cons ?_
    refine wS_set 2 ?_ nd
    refine wE_dctF fun ptaken1 => ?_
    -- 2: for person in persons:
    refine wSs_cons ?_
    obtain ⟨I2, hI30, hI3s, hI3e⟩ := hV
    refine wS_forL persons_ D.str (fun i_ G' C' => ∃ (g6 : Option D) (g7 : Option D) (taken_8 : (List (Str × Str))), G' = [some ((schD ad) school_), some ((lsE D.str) persons_), some (.ref ptaken1), g7, g6, none] ∧ C' = (ptaken1, dcC keyS D.str taken_8) :: C ∧ I2 i_ taken_8) (i_ls (f := D.str) (l := persons_) (p_nm 1 rfl)) ⟨_, _, _, rfl, rfl, hI30⟩ ?_ ?_ bX_own rfl
    · intro i5 y4 G' C' hy_ ym_ hi_ iv_
      obtain ⟨g6, g7, taken_8, rfl, hC_, iv_⟩ := iv_
      subst C'
      have hV := hI3s i5 y4 taken_8 hy_ iv_
      refine wG_nm 3 ?_ nd
      -- 3: known = []
      refine wSs_cons ?_
      refine wS_set 4 ?_ nd
      refine wE_lstF (ds := ([] : List Str).map D.str) a_nil fun pknown9 => ?_
      -- 4: if not led(school, taken, person, known):
      refine wSs_cons ?_
      refine wS_if ?_
      refine wT_not ?_
      refine wT_val ?_
      refine wE_callX hx Hled hr hgu ?_
      refine wA_cons ?_
      refine pv.w (p_nm 0 rfl) ?_
      refine wA_cons ?_
      refine pv.w (p_nm 2 rfl) ?_
      refine wA_cons ?_
      refine pv.w (p_nm 3 rfl) ?_
      refine wA_cons ?_
      refine pv.w (p_nm 4 rfl) ?_
      refine wA_nil ?_
      obtain ⟨hd10, hV⟩ := hV
      refine ⟨[(ptaken1, dcC keyS D.str taken_8), (pknown9, Cl.lst (([] : List Str).map D.str))], _, (perm_pick (i := 1) rfl (perm_pick (i := 0) rfl perm_done)), school_, taken_8, y4, ([] : List Str), ptaken1, pknown9, rfl, rfl, hd10, fun r11 taken13 known14 hp12 => ?_⟩
      replace hV := hV r11 taken13 known14 hp12
      refine ⟨_, rfl, ?_⟩
      refine ⟨fun h15 => ?_, fun h15 => ?_⟩
      · skip
        replace hV := hV.1 h15
        -- 5: return (taken, [one for one in persons if one in known])
        refine wSs_frzD 2 0 rfl rfl (io_at2 (i := 0) [(ptaken1, dcC keyS D.str taken13)] [(pknown9, Cl.lst (known14.map D.str))] rfl (hio.trans rfl)) ?_
        refine wSs_cons ?_
        refine wS_ret (wE_less ?_)
        obtain ⟨hd19, hV⟩ := hV
        refine pv.w (p_tup (z := (prE (dcE keyS D.str) (opE (lsE D.str))) (taken13, (some (persons_.filter fun y16 => (decide (y16 ∈ known14)))))) (a_cons (p_nm 2 rfl) (a_cons (p_C (p_lcF (fun y16 => (decide (y16 ∈ known14))) 5 [("one", 5)] nd rfl (i_ls (f := D.str) (l := persons_) (p_nm 1 rfl)) hd19 (fun y16 hy17 W s H Cl cl fp => (t_cmp (p_nm 5 rfl) (p_nm 4 rfl) (v_inS (s_ce (f := D.str) (l := known14) 0 rfl)))) (fun y16 hy17 hp18 W s H Cl cl fp => (p_nm 5 rfl)))) a_nil)) rfl) ?_
        refine ⟨_, (sub_own (Z := [(pknown9, Cl.lst (known14.map D.str))])), ?_⟩
        exact hq (taken13, (some (persons_.filter fun y16 => (decide (y16 ∈ known14))))) hV
      replace hV := hV.2 h15
      refine wSs_nil ?_
      refine wSs_frz (ds := known14.map D.str) 4 1 rfl rfl (io_at (i := 1) (Z := [(ptaken1, dcC keyS D.str taken13), (pknown9, Cl.lst (known14.map D.str))]) rfl (hio.trans rfl)) ?_
      refine wSs_nil ?_
      exact ⟨_, _, _, rfl, rfl, hV⟩
    intro G' C' iv_
    obtain ⟨g21, g22, taken_20, rfl, hC_, iv_⟩ := iv_
    subst C'
    have hV := hI3e taken_20 iv_
    -- 6: return (taken, None)
    refine wSs_frzD 2 0 rfl rfl (io_at (i := 0) (Z := [(ptaken1, dcC keyS D.str taken_20)]) rfl (hio.trans rfl)) ?_
    refine wSs_cons ?_
    refine wS_ret ?_
    refine pv.w (p_tup (z := (prE (dcE keyS D.str) (opE (lsE D.str))) (taken_20, (none : (Option (List Str))))) (a_cons (p_nm 2 rfl) (a_cons p_non a_nil)) rfl) ?_
    exact hq (taken_20, (none : (Option (List Str)))) hV


/-! both_sides -/
def pre_both_sides (ours_ : (List (Str × Str))) (theirs_ : (List (Str × Str))) : Prop := BothPre ours_ theirs_
def post_both_sides (ours_ : (List (Str × Str))) (theirs_ : (List (Str × Str))) (r : (List (Str × Str))) : Prop := BothIs ours_ theirs_ r
def vc_both_sides (ours_ : (List (Str × Str))) (theirs_ : (List (Str × Str))) : Prop :=
  ours_.length ≤ 100000 ∧ (theirs_.length ≤ 100000 ∧ (∀ teacher_of_10 : (List (Str × Str)), teacher_of_10 = (dcUpd [] (theirs_.map (fun y6 => (y6.2, y6.1)))) → (∃ I11 : Nat → (List (Str × Str)) → Prop, I11 0 (dcUpd [] (ours_.map (fun y2 => (y2.2, y2.1)))) ∧ (∀ (i14 : Nat) (y13 : Str) (found_19 : (List (Str × Str))), (teacher_of_10.map (·.1))[i14]? = some y13 → I11 i14 found_19 → (∀ now_21 : (Option Str), now_21 = (bif (decide (y13 ∈ (found_19.map (·.2)))) then (none : (Option Str)) else (some y13)) → (∃ I22 : Nat → (Option Str) → (List (Str × Str)) → Prop, (∃ m240, I22 m240 now_21 found_19) ∧ ∀ (m24 : Nat) (now_27 : (Option Str)) (found_28 : (List (Str × Str))), I22 m24 now_27 found_28 → ((!now_27.isNone) = true → (∃ now_31 : Str, now_27 = some now_31 ∧ (dcHas teacher_of_10 now_31 = true ∧ (∀ teacher_33 : Str, teacher_33 = (dcGet teacher_of_10 now_31) → (∀ gone_34 : (Option Str), gone_34 = (dcLook found_28 teacher_33) → (found_28.length < 100000 ∧ (∀ now_37 : (Option Str), now_37 = (bif (dcHasO teacher_of_10 gone_34) then gone_34 else (none : (Option Str))) → (∃ m30, m30 < m24 ∧ I22 m30 now_37 (dcSet found_28 teacher_33 now_31))))))))) ∧ ((!now_27.isNone) = false → (I11 (i14 + 1) found_28))))) ∧ (∀ (found_38 : (List (Str × Str))), I11 (teacher_of_10.map (·.1)).length found_38 → (post_both_sides ours_ theirs_ found_38)))))
def F_both_sides (ad : Ad) : FS := fun ds C Kn Ke => ∃ (ours_ : (List (Str × Str))) (theirs_ : (List (Str × Str))), ds = [(dcE keyS D.str) ours_, (dcE keyS D.str) theirs_] ∧ pre_both_sides ours_ theirs_ ∧ (∀ (r : (List (Str × Str))), post_both_sides ours_ theirs_ r → Kn ((dcE keyS D.str) r) C)
theorem v_both_sides (ours_ : (List (Str × Str))) (theirs_ : (List (Str × Str))) (h : pre_both_sides ours_ theirs_) : vc_both_sides ours_ theirs_ := by
  have h : BothPre ours_ theirs_ := h
  have ol := h.ol; have tl := h.tl
  have eo : ∀ l : List (Str × Str), (l.map (·.2)).Nodup → dcUpd [] (l.map fun y => (y.2, y.1)) = l.map fun y => (y.2, y.1) := fun l nd => by
    rw [dcUpd_new (by rw [List.map_map]; exact nd) (fun q _ hq => by cases hq), List.nil_append]
  refine ⟨by omega, by omega, fun TO hTO => ?_⟩
  rw [eo theirs_ h.t2] at hTO
  have e1 : TO.map (·.1) = theirs_.map (·.2) := by rw [hTO, List.map_map]; rfl
  have e2 : TO.map (·.2) = theirs_.map (·.1) := by rw [hTO, List.map_map]; rfl
  have k1 : (TO.map (·.1)).Nodup := by rw [e1]; exact h.t2
  have k2 : (TO.map (·.2)).Nodup := by rw [e2]; exact h.t1
  have tlen : TO.length = theirs_.length := by rw [hTO, List.length_map]
  rw [eo ours_ h.o2]
  have len : ∀ F, BSt (ours_.map fun y => (y.2, y.1)) TO F → F.length ≤ 3000 := fun F S => by
    have := mt_le (l := F) (m := (ours_.map fun y => (y.2, y.1)) ++ TO.map fun y => (y.2, y.1)) (nd_ofmap S.k) fun q hq => by
      rcases S.ed q hq with hm | hm
      · exact List.mem_append_left _ hm
      · exact List.mem_append_right _ (List.mem_map.mpr ⟨_, hm, rfl⟩)
    rw [List.length_append, List.length_map, List.length_map] at this; omega
  refine ⟨fun i F => BSt (ours_.map fun y => (y.2, y.1)) TO F ∧ ∀ c ∈ (TO.map (·.1)).take i, c ∈ F.map (·.2), ⟨⟨by rw [List.map_map]; exact h.o2, by rw [List.map_map]; exact h.o1, fun q hq => .inl hq, fun t ht => ht⟩, fun c hc => by simp at hc⟩, fun i y F hy hi now hnow => ?_, fun F hi => ?_⟩
  · obtain ⟨S, dn⟩ := hi
    have start : BWh (ours_.map fun y => (y.2, y.1)) TO i (TO.length - cntB TO F) now F := by
      have := cnt_le_b TO F
      by_cases hm : y ∈ F.map (·.2)
      · have hn : now = none := by rw [hnow, decide_eq_true hm]; rfl
        refine ⟨S, fun c hc => ?_, fun n e => (by rw [hn] at e; cases e), by omega⟩
        rcases mem_take1 hy hc with hc | rfl
        · exact .inl (dn c hc)
        · exact .inl hm
      · have hn : now = some y := by rw [hnow, decide_eq_false hm]; rfl
        refine ⟨S, fun c hc => ?_, fun n e => ?_, by omega⟩
        · rcases mem_take1 hy hc with hc | rfl
          · exact .inl (dn c hc)
          · exact .inr hn
        · rw [hn] at e; cases e
          exact ⟨List.mem_of_getElem? hy, hm⟩
    refine ⟨fun m now F => BWh (ours_.map fun y => (y.2, y.1)) TO i m now F, ⟨_, start⟩, fun m now F B => ⟨fun hb => ?_, fun hb => ?_⟩⟩
    · cases now with
      | none => cases hb
      | some n =>
        have hh : dcHas TO n = true := dcHas_iff.mpr (B.nw n rfl).1
        refine ⟨n, rfl, hh, fun t ht gone hg => ⟨by have := len F B.st; omega, fun now' hn' => ?_⟩⟩
        subst ht hg hn'
        exact both_step k1 k2 B (dcGet_mem hh)
    · cases now with
      | some n => cases hb
      | none =>
        refine ⟨B.st, fun c hc => ?_⟩
        rcases B.dn c hc with h | h
        · exact h
        · cases h
  · obtain ⟨S, dn⟩ := hi
    rw [List.take_length] at dn
    refine ⟨S.k, S.v, fun q hq => ?_, fun t ht => S.ks t (by rw [List.map_map]; exact ht), fun c hc => dn c (by rw [e1]; exact hc)⟩
    rcases S.ed q hq with hm | hm
    · obtain ⟨r, hr, e⟩ := List.mem_map.mp hm
      exact .inl (by rw [← e]; exact hr)
    · rw [hTO] at hm
      obtain ⟨r, hr, e⟩ := List.mem_map.mp hm
      have e3 : r.2 = q.2 := congrArg Prod.fst e
      have e4 : r.1 = q.1 := congrArg Prod.snd e
      have : r = q := Prod.ext e4 e3
      exact .inr (this ▸ hr)

theorem sc_both_sides : FnScope ["ours", "theirs", "found", "teacher_of", "group", "now", "teacher", "gone"] ["ours", "theirs"] (defScope (top 28)) := ⟨rfl, rfl, rfl, by decide +kernel, rfl, by decide +kernel, by decide +kernel⟩
theorem ok_both_sides {f : Addr} {fd : FuncData} (Fu : Fun K "both_sides" "both_sides" (top 28) f fd) (T : Bn K mg ad) : FnG P w K mg base 1 f fd ["ours", "theirs"] (F_both_sides ad) := by
  refine fnG_of Fu sc_both_sides (fun ds C Kn Ke h => ?_) (fun cdv A outer s H E W ds C Kn Ke hr hgu hx hF hio => ?_)
  · obtain ⟨ours_, theirs_, rfl, _⟩ := h; rfl
  · obtain ⟨ours_, theirs_, rfl, hpre, hq⟩ := hF
    have hV := v_both_sides ours_ theirs_ hpre
    unfold vc_both_sides at hV
    have nd := sc_both_sides.nd
    -- 1: found = dict([(teacher, group) for group, teacher in ours.items()])
    refine wSs_cons ?_
    refine wS_set 2 ?_ nd
    obtain ⟨hd5, hV⟩ := hV
    refine wE_dictF (kf := keyS) (f := D.str) (l := (ours_.map (fun y2 => (y2.2, y2.1)))) D.str (fun _ => rfl) rfl T.dict_ (a_cons (p_C (p_lcM2 (fun q_ => D.str q_.1) (fun q_ => D.str q_.2) lesD (fun y2 => (y2.2, y2.1)) 4 6 [("group", 4), ("teacher", 6)] nd rfl (i_items (kf := keyS) (f := D.str) (l := ours_) D.str (fun _ => rfl) (p_nm 0 rfl)) (fun _ => rfl) hd5 (fun y2 hy3 W s H Cl cl fp => (p_tup (z := lesD (y2.2, y2.1)) (a_cons (p_nm 6 rfl) (a_cons (p_nm 4 rfl) a_nil)) rfl)))) a_nil) fun pfound1 => ?_
    -- 2: teacher_of = dict([(group, teacher) for teacher, group in theirs.items()])
    obtain ⟨hd9, hV⟩ := hV
    refine wSs_cons ?_
    obtain ⟨teacher_of_10, hteacher_of_10⟩ : ∃ x_ : (List (Str × Str)), x_ = (dcUpd [] (theirs_.map (fun y6 => (y6.2, y6.1)))) := ⟨_, rfl⟩
    replace hV := hV teacher_of_10 hteacher_of_10
    refine wS_set 3 (pv.w (pv.as (f := (dcE keyS D.str)) hteacher_of_10 (p_T "dict" (by decide +kernel) T.dict_ (a_cons (p_C (p_lcM2 (fun q_ => D.str q_.1) (fun q_ => D.str q_.2) lesD (fun y6 => (y6.2, y6.1)) 6 4 [("teacher", 6), ("group", 4)] nd rfl (i_items (kf := keyS) (f := D.str) (l := theirs_) D.str (fun _ => rfl) (p_nm 1 rfl)) (fun _ => rfl) hd9 (fun y6 hy7 W s H Cl cl fp => (p_tup (z := lesD (y6.2, y6.1)) (a_cons (p_nm 4 rfl) (a_cons (p_nm 6 rfl) a_nil)) rfl)))) a_nil) (v_dictL (kf := keyS) (f := D.str) (l := (theirs_.map (fun y6 => (y6.2, y6.1)))) D.str (fun _ => rfl) rfl))) ?_) nd
    -- 3: for group in teacher_of:
    refine wSs_cons ?_
    obtain ⟨I11, hI120, hI12s, hI12e⟩ := hV
    refine @wS_forL _ _ _ _ _ _ _ _ _ _ (teacher_of_10.map (·.1)) D.str (fun i_ G' C' => ∃ (g15 : Option D) (g16 : Option D) (g17 : Option D) (g18 : Option D) (found_19 : (List (Str × Str))), G' = [some ((dcE keyS D.str) ours_), some ((dcE keyS D.str) theirs_), some (.ref pfound1), some ((dcE keyS D.str) teacher_of_10), g18, g15, g16, g17] ∧ C' = (pfound1, dcC keyS D.str found_19) :: C ∧ I11 i_ found_19) ?_ ⟨_, _, _, _, _, rfl, rfl, hI120⟩ ?_ ?_ bX_own rfl (fun _ => rfl)
    · exact (i_keys (kf := keyS) (f := D.str) (l := teacher_of_10) D.str (fun _ => rfl) (p_nm 3 rfl))
    · intro i14 y13 G' C' hy_ ym_ hi_ iv_
      obtain ⟨g15, g16, g17, g18, found_19, rfl, hC_, iv_⟩ := iv_
      subst C'
      have hV := hI12s i14 y13 found_19 hy_ iv_
      refine wG_nm 4 ?_ nd
      -- 4: now = None if group in list(found.values()) else group
      refine wSs_cons ?_
      obtain ⟨now_21, hnow_21⟩ : ∃ x_ : (Option Str), x_ = (bif (decide (y13 ∈ (found_19.map (·.2)))) then (none : (Option Str)) else (some y13)) := ⟨_, rfl⟩
      replace hV := hV now_21 hnow_21
      refine wS_set 5 (pv.w (pv.as (f := (opE D.str)) hnow_21 (p_if (f := (opE D.str)) (u := (none : (Option Str))) (v := (some y13)) (t_cmp (p_nm 4 rfl) (p_listVals (f := D.str) (l := found_19) rfl T.list_ (p_nm 2 rfl) (.inr ⟨_, 0, rfl, rfl⟩)) (v_inS s_ls)) (fun h20 => p_non) (fun h20 => (p_nm 4 rfl)))) ?_) nd
      -- 5: while now is not None:
      refine wSs_cons ?_
      obtain ⟨I22, ⟨m240, hI230⟩, hI23s⟩ := hV
      refine wS_while (fun m_ G' C' => ∃ (g25 : Option D) (g26 : Option D) (now_27 : (Option Str)) (found_28 : (List (Str × Str))), G' = [some ((dcE keyS D.str) ours_), some ((dcE keyS D.str) theirs_), some (.ref pfound1), some ((dcE keyS D.str) teacher_of_10), some (D.str y13), some ((opE D.str) now_27), g25, g26] ∧ C' = (pfound1, dcC keyS D.str found_28) :: C ∧ I22 m_ now_27 found_28) m240 ⟨_, _, _, _, rfl, rfl, hI230⟩ ?_ bX_own
      intro m24 G' C' iv_
      obtain ⟨g25, g26, now_27, found_28, rfl, hC_, iv_⟩ := iv_
      subst C'
      have hV := hI23s m24 now_27 found_28 iv_
      refine pt.w (t_cmp (p_nm 5 rfl) p_non (v_notO (f := D.str) (a := now_27))) ⟨fun h29 => ?_, fun h29 => ?_⟩
      · replace hV := hV.1 h29
        -- 6: teacher = teacher_of[now]
        obtain ⟨now_31, hq_, hV⟩ := hV
        subst hq_
        obtain ⟨hd32, hV⟩ := hV
        refine wSs_cons ?_
        obtain ⟨teacher_33, hteacher_33⟩ : ∃ x_ : Str, x_ = (dcGet teacher_of_10 now_31) := ⟨_, rfl⟩
        replace hV := hV teacher_33 hteacher_33
        refine wS_set 6 (pv.w (pv.as (f := D.str) hteacher_33 (p_dix (kf := keyS) (f := D.str) (l := teacher_of_10) (k := now_31) hr (.inl rfl) (p_nm 3 rfl) (p_nm 5 rfl) hd32)) ?_) nd
        -- 7: gone = found.get(teacher, None)
        refine wSs_cons ?_
        obtain ⟨gone_34, hgone_34⟩ : ∃ x_ : (Option Str), x_ = (dcLook found_28 teacher_33) := ⟨_, rfl⟩
        replace hV := hV gone_34 hgone_34
        refine wS_set 7 (pv.w (pv.as (f := (opE D.str)) hgone_34 (p_dgetO (kf := keyS) (f := D.str) (l := found_28) (key := teacher_33) hr (.inr ⟨_, 0, rfl, rfl⟩) (p_nm 2 rfl) (p_nm 6 rfl) p_non)) ?_) nd
        -- 8: found[teacher] = now
        refine wSs_cons ?_
        refine wS_asg ?_
        refine pv.w (p_nm 5 rfl) ?_
        refine wG_ixD (kf := keyS) (f := D.str) (room_u1 hr) 0 ?_
        refine pv.w (p_nm 2 rfl) ?_
        refine pv.w (p_nm 6 rfl) ?_
        obtain ⟨hd35, hV⟩ := hV
        refine ⟨_, found_28, teacher_33, now_31, rfl, rfl, rfl, rfl, hd35, ?_⟩
        -- 9: now = gone if gone in teacher_of else None
        refine wSs_cons ?_
        obtain ⟨now_37, hnow_37⟩ : ∃ x_ : (Option Str), x_ = (bif (dcHasO teacher_of_10 gone_34) then gone_34 else (none : (Option Str))) := ⟨_, rfl⟩
        replace hV := hV now_37 hnow_37
        refine wS_set 5 (pv.w (pv.as (f := (opE D.str)) hnow_37 (p_if (f := (opE D.str)) (u := gone_34) (v := (none : (Option Str))) (t_cmp (p_nm 7 rfl) (p_nm 3 rfl) (v_inDO (kf := keyS) (f := D.str) (l := teacher_of_10) (key := gone_34) hr D.str (fun _ => rfl) (.inl rfl))) (fun h36 => (p_nm 7 rfl)) (fun h36 => p_non))) ?_) nd
        refine wSs_nil ?_
        obtain ⟨m30, hm30, hV⟩ := hV
        exact ⟨m30, hm30, _, _, _, _, rfl, rfl, hV⟩
      replace hV := hV.2 h29
      refine wSs_nil ?_
      exact ⟨_, _, _, _, _, rfl, rfl, hV⟩
    intro G' C' iv_
    obtain ⟨g39, g40, g41, g42, found_38, rfl, hC_, iv_⟩ := iv_
    subst C'
    have hV := hI12e found_38 iv_
    -- 10: return found
    refine wSs_frzD 2 0 rfl rfl (io_at (i := 0) (Z := [(pfound1, dcC keyS D.str found_38)]) rfl (hio.trans rfl)) ?_
    refine wSs_cons ?_
    refine wS_ret ?_
    refine pv.w (p_nm 2 rfl) ?_
    exact hq found_38 hV


/-! side -/
def m_side (school_ : Sch) (persons_ : (List Str)) (names_ : (List Str)) : (List Str) := (names_.filter fun y1 => (decide (y1 ∈ persons_)))
def dom_side (school_ : Sch) (persons_ : (List Str)) (names_ : (List Str)) : Prop := names_.length ≤ 100000
def F_side (ad : Ad) : FS := fun ds C Kn Ke => ∃ (school_ : Sch) (persons_ : (List Str)) (names_ : (List Str)), ds = [(schD ad) school_, (lsE D.str) persons_, (lsE D.str) names_] ∧ dom_side school_ persons_ names_ ∧ Kn ((lsE D.str) (m_side school_ persons_ names_)) C
theorem sc_side : FnScope ["school", "persons", "names", "name"] ["school", "persons", "names"] (defScope (top 27)) := ⟨rfl, rfl, rfl, by decide +kernel, rfl, by decide +kernel, by decide +kernel⟩
theorem ok_side {f : Addr} {fd : FuncData} (Fu : Fun K "side" "side" (top 27) f fd) (T : Bn K mg ad) : FnG P w K mg base 1 f fd ["school", "persons", "names"] (F_side ad) := by
  refine fnG_of Fu sc_side (fun ds C Kn Ke h => ?_) (fun cdv A outer s H E W ds C Kn Ke hr hgu hx hF hio => ?_)
  · obtain ⟨school_, persons_, names_, rfl, _⟩ := h; rfl
  · obtain ⟨school_, persons_, names_, rfl, hd4, hq⟩ := hF
    have nd := sc_side.nd
    refine wSs_cons (wS_ret (pv.w (p_C (p_lcF (fun y1 => (decide (y1 ∈ persons_))) 3 [("name", 3)] nd rfl (i_ls (f := D.str) (l := names_) (p_nm 2 rfl)) hd4 (fun y1 hy2 W s H Cl cl fp => (t_cmp (p_nm 3 rfl) (p_nm 1 rfl) (v_inS s_ls))) (fun y1 hy2 hp3 W s H Cl cl fp => (p_nm 3 rfl)))) ?_))
    exact hq


/-! serve -/
def pre_serve (school_ : Sch) (persons_ : (List Str)) : Prop := SchNew school_ ∧ persons_.length ≤ 16 ∧ persons_.Nodup ∧ ∀ p ∈ persons_, p ∈ school_.ts ++ school_.cs
def post_serve (school_ : Sch) (persons_ : (List Str)) (r : SrvV) : Prop := ServeIs school_ persons_ r
def vc_serve (school_ : Sch) (persons_ : (List Str)) : Prop :=
  pre_need_persons school_ persons_ ∧ (∀ (r2 : Unit), post_need_persons school_ persons_ r2 → (dom_side school_ persons_ school_.ts ∧ (pre_paired school_ (m_side school_ persons_ school_.ts) ∧ (∀ (r6 : ((List (Str × Str)) × (Option (List Str)))), post_paired school_ (m_side school_ persons_ school_.ts) r6 → (((!r6.2.isNone) = true → ∃ lack_9 : (List Str), r6.2 = some lack_9 ∧ (post_serve school_ persons_ (srvL (("lack" : Str), lack_9)))) ∧ ((!r6.2.isNone) = false → dom_side school_ persons_ school_.cs ∧ (pre_paired school_ (m_side school_ persons_ school_.cs) ∧ (∀ (r12 : ((List (Str × Str)) × (Option (List Str)))), post_paired school_ (m_side school_ persons_ school_.cs) r12 → (((!r12.2.isNone) = true → ∃ lack_15 : (List Str), r12.2 = some lack_15 ∧ (post_serve school_ persons_ (srvL (("lack" : Str), lack_15)))) ∧ ((!r12.2.isNone) = false → pre_both_sides r6.1 r12.1 ∧ (∀ (r17 : (List (Str × Str))), post_both_sides r6.1 r12.1 r17 → (r17.length ≤ 100000 ∧ (∀ y19 ∈ r17, pre_lesson_of school_ y19.1 y19.2) ∧ (r17.map (fun y19 => (lessonOf school_ y19.1 y19.2))).length < 64 ∧ (post_serve school_ persons_ (srvO (("lot" : Str), (sortN (r17.map (fun y19 => (lessonOf school_ y19.1 y19.2)))))))))))))))))))
def F_serve (ad : Ad) : FS := fun ds C Kn Ke => ∃ (school_ : Sch) (persons_ : (List Str)), ds = [(schD ad) school_, (lsE D.str) persons_] ∧ pre_serve school_ persons_ ∧ (∀ (r : SrvV), post_serve school_ persons_ r → Kn (srvE r) C)
theorem v_serve (school_ : Sch) (persons_ : (List Str)) (h : pre_serve school_ persons_) : vc_serve school_ persons_ := by
  obtain ⟨h, l16, nd, hp⟩ := h
  have t8 := h.ok.t8; have c8 := h.ok.c8; have p40 := h.ok.p40
  have side : ∀ nm : List Str, nm.Nodup → nm.length ≤ 8 → SchNew school_ ∧ (m_side school_ persons_ nm).Nodup ∧ (m_side school_ persons_ nm).length ≤ 8 := fun nm h1 h2 => ⟨h, nd_fil _ h1, Nat.le_trans (List.length_filter_le _ _) h2⟩
  refine ⟨⟨h, l16, nd, hp⟩, fun _ _ => ⟨(show school_.ts.length ≤ 100000 by omega), side _ (ts_nd h) t8, fun r1 P1 => ⟨fun hb => ?_, fun hb => ⟨(show school_.cs.length ≤ 100000 by omega), side _ (cs_nd h) c8, fun r2 P2 => ⟨fun hb2 => ?_, fun hb2 => ?_⟩⟩⟩⟩⟩
  · cases e : r1.2 with
    | none => rw [e] at hb; cases hb
    | some l => exact ⟨l, rfl, ⟨fun _ z => (by cases z), fun l' z => (by cases z; exact ⟨school_.ts, .inl rfl, P1.no l e⟩)⟩⟩
  · cases e : r2.2 with
    | none => rw [e] at hb2; cases hb2
    | some l => exact ⟨l, rfl, ⟨fun _ z => (by cases z), fun l' z => (by cases z; exact ⟨school_.cs, .inr rfl, P2.no l e⟩)⟩⟩
  · have n1 : r1.2 = none := by cases e : r1.2 <;> first | rfl | (rw [e] at hb; cases hb)
    have n2 : r2.2 = none := by cases e : r2.2 <;> first | rfl | (rw [e] at hb2; cases hb2)
    obtain ⟨m1, o1⟩ := P1.yes n1
    obtain ⟨m2, o2⟩ := P2.yes n2
    have len : ∀ (M : List (Str × Str)) (nm : List Str), Mt (partnersL school_) M → nm.length ≤ 8 → (∀ t, t ∈ M.map (·.2) ↔ t ∈ m_side school_ persons_ nm) → M.length ≤ 8 := fun M nm m h2 o => by
      have := mt_le (l := M.map (·.2)) (m := m_side school_ persons_ nm) m.on fun x hx => (o x).mp hx
      have h3 : (m_side school_ persons_ nm).length ≤ nm.length := List.length_filter_le _ _
      rw [List.length_map] at this; omega
    have l1 := len _ _ m1 t8 o1
    have l2 := len _ _ m2 c8 o2
    refine ⟨⟨m1.kn, m1.on, m2.kn, m2.on, by omega, by omega⟩, fun r B => ?_⟩
    obtain ⟨hr, R⟩ := serve_is h hp m1 o1 m2 o2 B
    have lr : r.length ≤ 16 := by
      have := mt_le (l := r) (m := (r1.1.map fun q => (q.2, q.1)) ++ r2.1) (nd_ofmap B.k) fun q hq => by
        rcases B.ed q hq with hm | hm
        · exact List.mem_append_left _ (List.mem_map.mpr ⟨_, hm, rfl⟩)
        · exact List.mem_append_right _ hm
      rw [List.length_append, List.length_map] at this; omega
    exact ⟨by omega, fun y hy => ⟨by omega, hr y hy⟩, by rw [List.length_map]; omega, R⟩

theorem sc_serve : FnScope ["school", "persons", "pairs", "ours", "lack", "theirs", "teacher", "group"] ["school", "persons"] (defScope (top 29)) := ⟨rfl, rfl, rfl, by decide +kernel, rfl, by decide +kernel, by decide +kernel⟩
theorem ok_serve {f : Addr} {fd : FuncData} (Fu : Fun K "serve" "serve" (top 29) f fd) (T : Bn K mg ad) (Hneed_school : Has P w K mg base "need_school" 3 (fNeedSchool ad)) (Hneed_persons : Has P w K mg base "need_persons" 2 (F_need_persons ad)) (Hpaired : Has P w K mg base "paired" 13 (F_paired ad)) (HM_School_teachers : HasM P w K mg base ad.School "teachers" 1 (fSchTeachers ad)) (Hside : Has P w K mg base "side" 1 (F_side ad)) (HM_School_classes : HasM P w K mg base ad.School "classes" 1 (fSchClasses ad)) (Hboth_sides : Has P w K mg base "both_sides" 1 (F_both_sides ad)) (Hlesson_of : Has P w K mg base "lesson_of" 2 (F_lesson_of ad)) : FnG P w K mg base 14 f fd ["school", "persons"] (F_serve ad) := by
  refine fnG_of Fu sc_serve (fun ds C Kn Ke h => ?_) (fun cdv A outer s H E W ds C Kn Ke hr hgu hx hF hio => ?_)
  · obtain ⟨school_, persons_, rfl, _⟩ := h; rfl
  · obtain ⟨school_, persons_, rfl, hpre, hq⟩ := hF
    have hV := v_serve school_ persons_ hpre
    unfold vc_serve at hV
    have nd := sc_serve.nd
    -- 1: need_school(school)
    refine wSs_cons ?_
    refine wS_expr ?_
    refine pv.w (p_fn Hneed_school hr hgu (a_cons (p_nm 0 rfl) a_nil) (fun k q => ⟨_, rfl, .inl ⟨school_, rfl, q⟩⟩)) ?_
    -- 2: need_persons(school, persons)
    refine wSs_cons ?_
    refine wS_expr ?_
    refine wE_callA hx Hneed_persons hr hgu ?_
    refine wA_cons ?_
    refine pv.w (p_nm 0 rfl) ?_
    refine wA_cons ?_
    refine pv.w (p_nm 1 rfl) ?_
    refine wA_nil ?_
    obtain ⟨hd1, hV⟩ := hV
    refine ⟨school_, persons_, rfl, hd1, fun r2 hp3 => ?_⟩
    replace hV := hV r2 hp3
    -- 3: ours, lack = paired(school, side(school, persons, school.teachers()))
    refine wSs_cons ?_
    refine wS_asg ?_
    refine wE_callA hx Hpaired hr hgu ?_
    refine wA_cons ?_
    refine pv.w (p_nm 0 rfl) ?_
    refine wA_cons ?_
    obtain ⟨hd4, hV⟩ := hV
    refine pv.w (p_fn Hside hr hgu (a_cons (p_nm 0 rfl) (a_cons (p_nm 1 rfl) (a_cons (p_m0 T.K_School.cls HM_School_teachers hr hgu (p_nm 0 rfl) (.inl rfl) (by decide) (fun k q => ⟨school_, rfl, q⟩)) a_nil))) (fun k q => ⟨school_, persons_, school_.ts, rfl, hd4, q⟩)) ?_
    refine wA_nil ?_
    obtain ⟨hd5, hV⟩ := hV
    refine ⟨school_, (m_side school_ persons_ school_.ts), rfl, hd5, fun r6 hp7 => ?_⟩
    replace hV := hV r6 hp7
    refine wG_tup ?_ rfl rfl
    refine wTs_cons ?_
    refine wG_nm 3 ?_ nd
    refine wTs_cons ?_
    refine wG_nm 4 ?_ nd
    refine wTs_nil ?_
    -- 4: if lack is not None:
    refine wSs_cons ?_
    refine wS_if ?_
    refine pt.w (t_cmp (p_nm 4 rfl) p_non (v_notO (f := (lsE D.str)) (a := r6.2))) ?_
    refine ⟨fun h8 => ?_, fun h8 => ?_⟩
    · skip
      replace hV := hV.1 h8
      -- 5: return ('lack', lack)
      obtain ⟨lack_9, hq_, hV⟩ := hV
      rw [hq_]
      refine wSs_cons ?_
      refine wS_ret ?_
      refine pv.w (p_tup (z := (prE D.str (lsE D.str)) (("lack" : Str), lack_9)) (a_cons p_str (a_cons (p_nm 4 rfl) a_nil)) rfl) ?_
      exact hq (srvL (("lack" : Str), lack_9)) hV
    replace hV := hV.2 h8
    refine wSs_nil ?_
    -- 6: theirs, lack = paired(school, side(school, persons, school.classes()))
    refine wSs_cons ?_
    refine wS_asg ?_
    refine wE_callA hx Hpaired hr hgu ?_
    refine wA_cons ?_
    refine pv.w (p_nm 0 rfl) ?_
    refine wA_cons ?_
    obtain ⟨hd10, hV⟩ := hV
    refine pv.w (p_fn Hside hr hgu (a_cons (p_nm 0 rfl) (a_cons (p_nm 1 rfl) (a_cons (p_m0 T.K_School.cls HM_School_classes hr hgu (p_nm 0 rfl) (.inl rfl) (by decide) (fun k q => ⟨school_, rfl, q⟩)) a_nil))) (fun k q => ⟨school_, persons_, school_.cs, rfl, hd10, q⟩)) ?_
    refine wA_nil ?_
    obtain ⟨hd11, hV⟩ := hV
    refine ⟨school_, (m_side school_ persons_ school_.cs), rfl, hd11, fun r12 hp13 => ?_⟩
    replace hV := hV r12 hp13
    refine wG_tup ?_ rfl rfl
    refine wTs_cons ?_
    refine wG_nm 5 ?_ nd
    refine wTs_cons ?_
    refine wG_nm 4 ?_ nd
    refine wTs_nil ?_
    -- 7: if lack is not None:
    refine wSs_cons ?_
    refine wS_if ?_
    refine pt.w (t_cmp (p_nm 4 rfl) p_non (v_notO (f := (lsE D.str)) (a := r12.2))) ?_
    refine ⟨fun h14 => ?_, fun h14 => ?_⟩
    · skip
      replace hV := hV.1 h14
      -- 8: return ('lack', lack)
      obtain ⟨lack_15, hq_, hV⟩ := hV
      rw [hq_]
      refine wSs_cons ?_
      refine wS_ret ?_
      refine pv.w (p_tup (z := (prE D.str (lsE D.str)) (("lack" : Str), lack_15)) (a_cons p_str (a_cons (p_nm 4 rfl) a_nil)) rfl) ?_
      exact hq (srvL (("lack" : Str), lack_15)) hV
    replace hV := hV.2 h14
    refine wSs_nil ?_
    -- 9: pairs = both_sides(ours, theirs)
    refine wSs_cons ?_
    refine wS_set 2 ?_ nd
    refine wE_callA hx Hboth_sides hr hgu ?_
    refine wA_cons ?_
    refine pv.w (p_nm 3 rfl) ?_
    refine wA_cons ?_
    refine pv.w (p_nm 5 rfl) ?_
    refine wA_nil ?_
    obtain ⟨hd16, hV⟩ := hV
    refine ⟨r6.1, r12.1, rfl, hd16, fun r17 hp18 => ?_⟩
    replace hV := hV r17 hp18
    -- 10: return ('lot', sorted([lesson_of(school, teacher, group) for teacher, group in pairs.items
    refine wSs_cons ?_
    refine wS_ret ?_
    obtain ⟨hd22, hd23, hd24, hV⟩ := hV
    refine pv.w (p_tup (z := (prE D.str (lsE natD)) (("lot" : Str), (sortN (r17.map (fun y19 => (lessonOf school_ y19.1 y19.2)))))) (a_cons p_str (a_cons (p_B "sorted" (by decide +kernel) T.sorted_ (a_cons (p_C (p_lcM2 (fun q_ => D.str q_.1) (fun q_ => D.str q_.2) natD (fun y19 => (lessonOf school_ y19.1 y19.2)) 6 7 [("teacher", 6), ("group", 7)] nd rfl (i_items (kf := keyS) (f := D.str) (l := r17) D.str (fun _ => rfl) (p_nm 2 rfl)) (fun _ => rfl) hd22 (fun y19 hy20 W s H Cl cl fp => (p_fn Hlesson_of hr hgu (a_cons (p_nm 0 rfl) (a_cons (p_nm 6 rfl) (a_cons (p_nm 7 rfl) a_nil))) (fun k q => ⟨school_, y19.1, y19.2, rfl, (hd23 y19 hy20), fun r_ e_ => by cases (show r_ = _ from e_); exact q⟩))))) a_nil) (v_sort s_ls (fun xs h => by cases h) hd24)) a_nil)) rfl) ?_
    exact hq (srvO (("lot" : Str), (sortN (r17.map (fun y19 => (lessonOf school_ y19.1 y19.2)))))) hV


/-! law_without -/
def pre_law_without (teachers_ : (List Str)) (classes_ : (List Str)) (lessons_ : (List (Str × Str))) (person_ : Str) : Prop := SchNew (Sch.mk teachers_ classes_ lessons_)
def post_law_without (teachers_ : (List Str)) (classes_ : (List Str)) (lessons_ : (List (Str × Str))) (person_ : Str) (r : Nat) : Prop := MostOf (Sch.mk teachers_ classes_ (lessons_.filter fun l => !decide (person_ ∈ ([l.1, l.2] : List Str)))) r
def vc_law_without (teachers_ : (List Str)) (classes_ : (List Str)) (lessons_ : (List (Str × Str))) (person_ : Str) : Prop :=
  lessons_.length ≤ 100000 ∧ (∀ S5 : Sch, S5 = (Sch.mk teachers_ classes_ (lessons_.filter fun y1 => (!decide (person_ ∈ [y1.1, y1.2])))) → (SchNew S5 ∧ (pre_most_at_once S5 ∧ (∀ (r7 : ((List Nat) × (List Str))), post_most_at_once S5 r7 → (post_law_without teachers_ classes_ lessons_ person_ r7.1.length)))))
def F_law_without (ad : Ad) : FS := fun ds C Kn Ke => ∃ (teachers_ : (List Str)) (classes_ : (List Str)) (lessons_ : (List (Str × Str))) (person_ : Str), ds = [(lsE D.str) teachers_, (lsE D.str) classes_, (lsE lesD) lessons_, D.str person_] ∧ pre_law_without teachers_ classes_ lessons_ person_ ∧ (∀ (r : Nat), post_law_without teachers_ classes_ lessons_ person_ r → Kn (natD r) C)
theorem v_law_without (teachers_ : (List Str)) (classes_ : (List Str)) (lessons_ : (List (Str × Str))) (person_ : Str) (h : pre_law_without teachers_ classes_ lessons_ person_) : vc_law_without teachers_ classes_ lessons_ person_ := by
  have h : SchNew (Sch.mk teachers_ classes_ lessons_) := h
  have p40 : lessons_.length ≤ 40 := h.ok.p40
  refine ⟨by omega, fun S hS => ?_⟩
  subst hS
  have h' := sch_fil (fun y1 => (!decide (person_ ∈ ([y1.1, y1.2] : List Str)))) h
  exact ⟨h', h', fun r hr => ⟨r.1, r.2, hr, rfl⟩⟩

theorem sc_law_without : FnScope ["teachers", "classes", "lessons", "person", "lesson"] ["teachers", "classes", "lessons", "person"] (defScope (top 37)) := ⟨rfl, rfl, rfl, by decide +kernel, rfl, by decide +kernel, by decide +kernel⟩
theorem ok_law_without {f : Addr} {fd : FuncData} (Fu : Fun K "_law_without" "_law_without" (top 37) f fd) (T : Bn K mg ad) (Hmost_at_once : Has P w K mg base "most_at_once" 13 (F_most_at_once ad)) (HC_School : HasC P w K mg base "School" ad.School 4 (fSchoolInit ad)) : FnG P w K mg base 14 f fd ["teachers", "classes", "lessons", "person"] (F_law_without ad) := by
  refine fnG_of Fu sc_law_without (fun ds C Kn Ke h => ?_) (fun cdv A outer s H E W ds C Kn Ke hr hgu hx hF hio => ?_)
  · obtain ⟨teachers_, classes_, lessons_, person_, rfl, _⟩ := h; rfl
  · obtain ⟨teachers_, classes_, lessons_, person_, rfl, hpre, hq⟩ := hF
    have hV := v_law_without teachers_ classes_ lessons_ person_ hpre
    unfold vc_law_without at hV
    have nd := sc_law_without.nd
    -- 1: return len(most_at_once(School(teachers, classes, [lesson for lesson in lessons if person 
    refine wSs_cons ?_
    refine wS_ret ?_
    refine wE_callB "len" (by decide +kernel) T.len_ ?_
    refine wA_cons ?_
    refine wE_ix ?_
    refine wE_callA hx Hmost_at_once hr hgu ?_
    refine wA_cons ?_
    refine wE_school (ad := ad) hx HC_School hr hgu ?_
    refine wA_cons ?_
    refine pv.w (p_nm 0 rfl) ?_
    refine wA_cons ?_
    refine pv.w (p_nm 1 rfl) ?_
    refine wA_cons ?_
    obtain ⟨hd4, hV⟩ := hV
    refine pv.w (p_C (p_lcF (fun y1 => (!decide (person_ ∈ [y1.1, y1.2]))) 4 [("lesson", 4)] nd rfl (i_ls (f := lesD) (l := lessons_) (p_nm 2 rfl)) hd4 (fun y1 hy2 W s H Cl cl fp => (t_cmp (p_nm 3 rfl) (p_nm 4 rfl) (v_niS (s_pr (f := D.str) (q := y1))))) (fun y1 hy2 hp3 W s H Cl cl fp => (p_nm 4 rfl)))) ?_
    refine wA_nil ?_
    obtain ⟨S5, hS5⟩ : ∃ S_ : Sch, S_ = (Sch.mk teachers_ classes_ (lessons_.filter fun y1 => (!decide (person_ ∈ [y1.1, y1.2])))) := ⟨_, rfl⟩
    replace hV := hV S5 hS5
    obtain ⟨hnS5, hV⟩ := hV
    refine ⟨(false, teachers_), (false, classes_), (false, (lessons_.filter fun y1 => (!decide (person_ ∈ [y1.1, y1.2])))), S5, rfl, hS5, hnS5, ?_⟩
    refine wA_nil ?_
    obtain ⟨hd6, hV⟩ := hV
    refine ⟨S5, rfl, hd6, fun r7 hp8 => ?_⟩
    replace hV := hV r7 hp8
    refine pv.w (p_lit 0) ?_
    refine v_ixP1 (f := (lsE natD)) (g := (lsE D.str)) (q := r7) _ ?_
    refine wA_nil ?_
    refine v_lenL _ ?_
    exact hq r7.1.length hV


/-! law -/
def pre_law (script_ : (List Int)) : Prop := script_.length ≤ 63
def vc_law (script_ : (List Int)) : Prop :=
  (max 2 (min 6 script_.length)) ≤ 1000000 ∧ (∃ I2 : Nat → Prop, I2 0 ∧ (∀ (i5 : Nat) (y4 : Nat), (List.range (max 2 (min 6 script_.length)))[i5]? = some y4 → I2 i5 → (y4 ≤ 1000 ∧ (0 < 800000 ∧ (∀ (ts23 cs24 : List Str) (n25 : Nat), PeopleOk ts23 cs24 → n25 ≤ 0 + 30 → ((n25 < 800000) ∧ (1 ≤ ts23.length ∧ ts23.length ≤ 1000) ∧ (1 ≤ cs24.length ∧ cs24.length ≤ 1000) ∧ (25 ≤ 40) ∧ ((∀ w ∈ ts23 ++ cs24, isNameS w = true)) ∧ (∀ (ps33 : List (Str × Str)) (n34 : Nat), LessonsOk ts23 cs24 ps33 → ps33.length ≤ 25 → n34 ≤ n25 + 300 → (∀ S38 : Sch, S38 = (Sch.mk ts23 cs24 ps33) → (SchNew S38 ∧ (pre_most_at_once S38 ∧ (∀ (r40 : ((List Nat) × (List Str))), post_most_at_once S38 r40 → (r40.2.length ≤ 100000 ∧ r40.2.length ≤ 100000 ∧ (∃ I50 : Nat → Prop, I50 0 ∧ (∀ (i53 : Nat) (y52 : (List Str)), ([r40.2, (r40.2.filter fun y42 => (decide (y42 ∈ ts23))), (r40.2.filter fun y45 => (decide (y45 ∈ cs24))), (r40.2.drop 1)] : List (List Str))[i53]? = some y52 → I50 i53 → (pre_serve S38 y52 ∧ (∀ (r59 : SrvV), post_serve S38 y52 r59 → (∃ found_61 : (List Nat), (srvB r59) = SrvB.lot found_61 ∧ (((decide ((srvK r59) = ("lot" : Str))) = true → found_61.length ≤ 100000 ∧ (∀ y65 ∈ found_61, y65 < ps33.length) ∧ (found_61.map (fun y62 => [(gt ps33 y62).1, (gt ps33 y62).2])).flatten.length ≤ 100000) ∧ (∀ persons_70 : (List Str), persons_70 = (bif (decide ((srvK r59) = ("lot" : Str))) then (found_61.map (fun y62 => [(gt ps33 y62).1, (gt ps33 y62).2])).flatten else ([] : (List Str))) → (((!decide ((srvK r59) = ("lot" : Str))) = false → y52.length ≤ 100000 ∧ Ok ((lsE D.str) (y52.filter fun y71 => (!decide (y71 ∈ persons_70)))) ∧ Ok ((lsE D.str) ([] : (List Str)))) ∧ ((((!decide ((srvK r59) = ("lot" : Str))) || ((!decide ((y52.filter fun y71 => (!decide (y71 ∈ persons_70))) = ([] : (List Str)))) || (decide ((2 * found_61.length) < y52.length)))) = true → False) ∧ (((!decide ((srvK r59) = ("lot" : Str))) || ((!decide ((y52.filter fun y71 => (!decide (y71 ∈ persons_70))) = ([] : (List Str)))) || (decide ((2 * found_61.length) < y52.length)))) = false → I50 (i53 + 1) ))))))))) ∧ (I50 ([r40.2, (r40.2.filter fun y42 => (decide (y42 ∈ ts23))), (r40.2.filter fun y45 => (decide (y45 ∈ cs24))), (r40.2.drop 1)] : List (List Str)).length → (ts23.length + cs24.length ≤ 100000 ∧ (∃ I83 : Nat → Prop, I83 0 ∧ (∀ (i86 : Nat) (y85 : Str), (ts23 ++ cs24)[i86]? = some y85 → I83 i86 → (pre_law_without ts23 cs24 ps33 y85 ∧ (∀ (r90 : Nat), post_law_without ts23 cs24 ps33 y85 r90 → (((((decide (y85 ∈ r40.2)) && (!decide (((r90 : Nat) : Int) = (((r40.1.length : Nat) : Int) - ((1 : Nat) : Int))))) || (!((decide ((((r40.1.length : Nat) : Int) - ((1 : Nat) : Int)) ≤ ((r90 : Nat) : Int))) && (decide (r90 ≤ r40.1.length))))) = true → False) ∧ ((((decide (y85 ∈ r40.2)) && (!decide (((r90 : Nat) : Int) = (((r40.1.length : Nat) : Int) - ((1 : Nat) : Int))))) || (!((decide ((((r40.1.length : Nat) : Int) - ((1 : Nat) : Int)) ≤ ((r90 : Nat) : Int))) && (decide (r90 ≤ r40.1.length))))) = false → I83 (i86 + 1) ))))) ∧ (I83 (ts23 ++ cs24).length → (I2 (i5 + 1) ))))))))))))))))) ∧ (I2 (List.range (max 2 (min 6 script_.length))).length → (True)))
theorem v_law (script_ : (List Int)) (h : pre_law script_) : vc_law script_ := by
  refine ⟨by omega, fun _ => True, trivial, ?_, fun _ => trivial⟩
  intro k0 k hk _
  obtain ⟨rfl, hkl⟩ := rng_at hk
  refine ⟨by omega, by decide, fun ts cs n1 hp hn1 => ?_⟩
  have t1 := hp.t1; have t8 := hp.t8; have c1 := hp.c1; have c8 := hp.c8
  refine ⟨by omega, ⟨t1, by omega⟩, ⟨c1, by omega⟩, by decide, hp.ok.2, fun ps n2 hl h40 hn2 S hS => ?_⟩
  have hn : SchNew S := by rw [hS]; exact schNew_of hp hl (Nat.le_trans h40 (by decide))
  have Sps : S.ps = ps := by rw [hS]
  have Sts : S.ts = ts := by rw [hS]
  have Scs : S.cs = cs := by rw [hS]
  refine ⟨hn, hn, fun r hr => ?_⟩
  obtain ⟨lot, cover⟩ := r
  have m : MostIs S lot cover := hr
  have c16 := cover_16 hn m.cn m.cp
  have l16 : lot.length ≤ 16 := by have := m.ln; omega
  refine ⟨(show cover.length ≤ 100000 by omega), (show cover.length ≤ 100000 by omega), fun _ => True, trivial, fun i some hs _ => ?_, fun _ => ⟨by omega, fun _ => True, trivial, fun i p hpi _ => ?_, fun _ => trivial⟩⟩
  · have hsub : (∀ p ∈ some, p ∈ cover) ∧ some.Nodup := by
      have hin := List.mem_of_getElem? hs
      simp only [List.mem_cons, List.not_mem_nil, or_false] at hin
      rcases hin with h | h | h | h
      · rw [h]; exact ⟨fun p hp => hp, m.cn⟩
      · rw [h]; exact ⟨fun p hp => (List.mem_filter.mp hp).1, nd_fil _ m.cn⟩
      · rw [h]; exact ⟨fun p hp => (List.mem_filter.mp hp).1, nd_fil _ m.cn⟩
      · rw [h]; exact ⟨fun p hp => List.mem_of_mem_drop hp, List.Pairwise.sublist (List.drop_sublist 1 cover) m.cn⟩
    have s16 : some.length ≤ 16 := cover_16 hn hsub.2 fun p hp => m.cp p (hsub.1 p hp)
    refine ⟨⟨hn, s16, hsub.2, fun p hp => m.cp p (hsub.1 p hp)⟩, fun r hr => ?_⟩
    obtain ⟨l, rfl, lok, lasc, lsv⟩ := serve_lot hn hr m.ok (fun p hp => cover_served hn m p (hsub.1 p hp))
    have l16' : l.length ≤ 16 := by
      have := cover_le hn lok m.cv
      omega
    have lt : ∀ a ∈ l, a < ps.length := fun a ha => by rw [← Sps]; exact lok.lt a ha
    have e0 : (l.map fun y62 => [(gt ps y62).1, (gt ps y62).2]).flatten = lotP ps l := rfl
    refine ⟨l, rfl, fun _ => ⟨by omega, lt, by rw [e0, lotP_len]; omega⟩, fun persons hpers => ?_⟩
    have hpers : persons = lotP ps l := hpers
    have inp : ∀ p ∈ some, p ∈ persons := fun p hp => by
      rw [hpers]
      obtain ⟨a, ha, h1⟩ := lsv p hp
      rw [← Sps]
      exact lotP_mem.mpr ⟨a, ha, h1⟩
    have fe : (some.filter fun y71 => (!decide (y71 ∈ persons))) = [] := List.filter_eq_nil_iff.mpr fun p hp z => nd_t z (inp p hp)
    have few : some.length ≤ 2 * l.length := by
      have := mt_le hsub.2 inp
      rw [hpers, lotP_len] at this; exact this
    rw [fe]
    refine ⟨fun _ => ⟨by omega, ok_nil, ok_nil⟩, fun e => ?_, fun _ => trivial⟩
    have e : ((!decide (("lot" : Str) = "lot")) || ((!decide (([] : List Str) = [])) || decide (2 * l.length < some.length))) = true := e
    rw [decide_eq_true rfl, decide_eq_true rfl, decide_eq_false (by omega)] at e
    cases e
  · have hn2 : SchNew ⟨ts, cs, ps⟩ := hS ▸ hn
    refine ⟨hn2, fun n hw => ⟨fun e => ?_, fun _ => trivial⟩⟩
    have m2 : MostIs ⟨ts, cs, ps⟩ lot cover := hS ▸ m
    obtain ⟨w1, w2, w3⟩ := without hn2 m2 hw
    rcases or_t e with e | e
    · obtain ⟨e1, e2⟩ := and_t e
      have e1 : p ∈ cover := of_decide_eq_true e1
      have := w3 e1
      refine nd_t e2 ?_
      show ((n : Nat) : Int) = ((lot.length : Nat) : Int) - ((1 : Nat) : Int)
      omega
    · have e3 : (decide ((((lot.length : Nat) : Int) - ((1 : Nat) : Int)) ≤ ((n : Nat) : Int)) && decide (n ≤ lot.length)) = true := by
        rw [decide_eq_true (show (((lot.length : Nat) : Int) - ((1 : Nat) : Int)) ≤ ((n : Nat) : Int) by omega), decide_eq_true w1]; rfl
      rw [e3] at e; cases e

theorem sc_law : FnScope ["script", "k", "box", "lessons", "school", "some", "person", "teachers", "classes", "lot", "cover", "persons", "less", "way", "found", "one", "at"] ["script"] (defScope (top 38)) := ⟨rfl, rfl, rfl, by decide +kernel, rfl, by decide +kernel, by decide +kernel⟩
theorem ok_law {f : Addr} {fd : FuncData} (Fu : Fun K "law" "law" (top 38) f fd) (T : Bn K mg ad) (H_law_box : Has P w K mg base "_law_box" 1 (fBox)) (H_law_cell : Has P w K mg base "_law_cell" 1 (fCell)) (H_law_people : Has P w K mg base "_law_people" 3 (fPeople)) (H_law_lessons : Has P w K mg base "_law_lessons" 2 (fLessons)) (HC_School : HasC P w K mg base "School" ad.School 4 (fSchoolInit ad)) (Hmost_at_once : Has P w K mg base "most_at_once" 13 (F_most_at_once ad)) (Hserve : Has P w K mg base "serve" 14 (F_serve ad)) (H_law_without : Has P w K mg base "_law_without" 14 (F_law_without ad)) : FnG P w K mg base 15 f fd ["script"] (lawF) := by
  refine fnG_of Fu sc_law (fun ds C Kn Ke h => ?_) (fun cdv A outer s H E W ds C Kn Ke hr hgu hx hF hio => ?_)
  · obtain ⟨script_, rfl, _⟩ := h; rfl
  · obtain ⟨script_, rfl, rfl, hpre, hq⟩ := hF
    have hV := v_law script_ hpre
    unfold vc_law at hV
    have nd := sc_law.nd
    -- 1: for k in range(max(2, min(6, len(script)))):
    obtain ⟨hd1, hV⟩ := hV
    refine wSs_cons ?_
    obtain ⟨I2, hI30, hI3s, hI3e⟩ := hV
    refine wS_forL (List.range (max 2 (min 6 script_.length))) natD (fun i_ G' C' => ∃ (g6 : Option D) (g7 : Option D) (g8 : Option D) (g9 : Option D) (g10 : Option D) (g11 : Option D) (g12 : Option D) (g13 : Option D) (g14 : Option D) (g15 : Option D) (g16 : Option D) (g17 : Option D) (g18 : Option D) (g19 : Option D), G' = [some (scE script_), g19, g6, g9, g10, g13, g17, g7, g8, g11, g12, g16, g18, g14, g15, none, none] ∧ C' = [] ∧ I2 i_) (i_rg T.range_ (p_B "max" (by decide +kernel) T.max_ (a_cons (p_lit 2) (a_cons (p_B "min" (by decide +kernel) T.min_ (a_cons (p_lit 6) (a_cons (p_B "len" (by decide +kernel) T.len_ (a_cons (p_nm 0 rfl) a_nil) v_lenR) a_nil)) (v_min2 rfl)) a_nil)) (v_max2 rfl)) hd1) ⟨_, _, _, _, _, _, _, _, _, _, _, _, _, _, rfl, rfl, hI30⟩ ?_ ?_ bX_own rfl
    · intro i5 y4 G' C' hy_ ym_ hi_ iv_
      obtain ⟨g6, g7, g8, g9, g10, g11, g12, g13, g14, g15, g16, g17, g18, g19, rfl, hC_, iv_⟩ := iv_
      subst C'
      have hV := hI3s i5 y4  hy_ iv_
      refine wG_nm 1 ?_ nd
      -- 2: box = _law_box(_law_cell(script, k))
      refine wSs_cons ?_
      refine wS_set 2 ?_ nd
      obtain ⟨hd20, hV⟩ := hV
      refine wE_call H_law_box hr hgu ?_
      refine wA_cons ?_
      refine wE_call H_law_cell hr hgu ?_
      refine wA_cons (pv.w (p_nm 0 rfl) ?_)
      refine wA_cons (pv.w (p_nm 1 rfl) ?_)
      refine wA_nil ?_
      refine ⟨[], _, List.Perm.refl _, script_, y4, rfl, hd20, fun z_ => ?_⟩
      refine wA_nil ?_
      refine ⟨[], _, List.Perm.refl _, z_, rfl, rfl, fun pbox21 => ?_⟩
      -- 3: teachers, classes = _law_people(box)
      refine wSs_cons ?_
      refine wS_asg ?_
      refine wE_call H_law_people hr hgu ?_
      refine wA_cons ?_
      refine pv.w (p_nm 2 rfl) ?_
      refine wA_nil ?_
      obtain ⟨hd22, hV⟩ := hV
      refine ⟨[(pbox21, .box 0)], _, (perm_pick (i := 0) rfl perm_done), pbox21, 0, rfl, rfl, hd22, fun ts23 cs24 n25 hp26 hn27 => ?_⟩
      replace hV := hV ts23 cs24 n25 hp26 hn27
      refine wG_tup ?_ rfl rfl
      refine wTs_cons ?_
      refine wG_nm 7 ?_ nd
      refine wTs_cons ?_
      refine wG_nm 8 ?_ nd
      refine wTs_nil ?_
      -- 4: lessons = _law_lessons(box, teachers, classes, 25)
      refine wSs_cons ?_
      refine wS_set 3 ?_ nd
      refine wE_call H_law_lessons hr hgu ?_
      refine wA_cons ?_
      refine pv.w (p_nm 2 rfl) ?_
      refine wA_cons ?_
      refine pv.w (p_nm 7 rfl) ?_
      refine wA_cons ?_
      refine pv.w (p_nm 8 rfl) ?_
      refine wA_cons ?_
      refine pv.w (p_lit 25) ?_
      refine wA_nil ?_
      obtain ⟨hd28, hd29, hd30, hd31, hd32, hV⟩ := hV
      refine ⟨[(pbox21, .box n25)], _, (perm_pick (i := 0) rfl perm_done), pbox21, n25, ts23, cs24, 25, rfl, rfl, hd28, hd29, hd30, hd31, hd32, fun ps33 n34 hl35 hz36 hn37 => ?_⟩
      replace hV := hV ps33 n34 hl35 hz36 hn37
      -- 5: school = School(teachers, classes, lessons)
      refine wSs_cons ?_
      refine wS_set 4 ?_ nd
      refine wE_school (ad := ad) hx HC_School hr hgu ?_
      refine wA_cons ?_
      refine pv.w (p_nm 7 rfl) ?_
      refine wA_cons ?_
      refine pv.w (p_nm 8 rfl) ?_
      refine wA_cons ?_
      refine pv.w (p_nm 3 rfl) ?_
      refine wA_nil ?_
      obtain ⟨S38, hS38⟩ : ∃ S_ : Sch, S_ = (Sch.mk ts23 cs24 ps33) := ⟨_, rfl⟩
      replace hV := hV S38 hS38
      obtain ⟨hnS38, hV⟩ := hV
      refine ⟨(false, ts23), (false, cs24), (false, ps33), S38, rfl, hS38, hnS38, ?_⟩
      -- 6: lot, cover = most_at_once(school)
      refine wSs_cons ?_
      refine wS_asg ?_
      refine wE_callA hx Hmost_at_once hr hgu ?_
      refine wA_cons ?_
      refine pv.w (p_nm 4 rfl) ?_
      refine wA_nil ?_
      obtain ⟨hd39, hV⟩ := hV
      refine ⟨S38, rfl, hd39, fun r40 hp41 => ?_⟩
      replace hV := hV r40 hp41
      refine wG_tup ?_ rfl rfl
      refine wTs_cons ?_
      refine wG_nm 9 ?_ nd
      refine wTs_cons ?_
      refine wG_nm 10 ?_ nd
      refine wTs_nil ?_
      -- 7: for some in [cover, [one for one in cover if one in teachers], [one for one in cover if on
      obtain ⟨hd48, hd49, hV⟩ := hV
      refine wSs_cons ?_
      obtain ⟨I50, hI510, hI51s, hI51e⟩ := hV
      refine wS_forL ([r40.2, (r40.2.filter fun y42 => (decide (y42 ∈ ts23))), (r40.2.filter fun y45 => (decide (y45 ∈ cs24))), (r40.2.drop 1)] : List (List Str)) (lsE D.str) (fun i_ G' C' => ∃ (g54 : Option D) (g55 : Option D) (g56 : Option D) (g57 : Option D), G' = [some (scE script_), some (natD y4), some (.ref pbox21), some ((lsE lesD) ps33), some ((schD ad) S38), g57, g17, some ((lsE D.str) ts23), some ((lsE D.str) cs24), some ((lsE natD) r40.1), some ((lsE D.str) r40.2), g56, g18, g54, g55, none, none] ∧ C' = [(pbox21, .box n34)] ∧ I50 i_) (i_ls (f := (lsE D.str)) (l := ([r40.2, (r40.2.filter fun y42 => (decide (y42 ∈ ts23))), (r40.2.filter fun y45 => (decide (y45 ∈ cs24))), (r40.2.drop 1)] : List (List Str))) (p_lst (z := lsE (lsE D.str) ([r40.2, (r40.2.filter fun y42 => (decide (y42 ∈ ts23))), (r40.2.filter fun y45 => (decide (y45 ∈ cs24))), (r40.2.drop 1)] : List (List Str))) (a_cons (p_nm 10 rfl) (a_cons (p_C (p_lcF (fun y42 => (decide (y42 ∈ ts23))) 15 [("one", 15)] nd rfl (i_ls (f := D.str) (l := r40.2) (p_nm 10 rfl)) hd48 (fun y42 hy43 W s H Cl cl fp => (t_cmp (p_nm 15 rfl) (p_nm 7 rfl) (v_inS s_ls))) (fun y42 hy43 hp44 W s H Cl cl fp => (p_nm 15 rfl)))) (a_cons (p_C (p_lcF (fun y45 => (decide (y45 ∈ cs24))) 15 [("one", 15)] nd rfl (i_ls (f := D.str) (l := r40.2) (p_nm 10 rfl)) hd49 (fun y45 hy46 W s H Cl cl fp => (t_cmp (p_nm 15 rfl) (p_nm 8 rfl) (v_inS s_ls))) (fun y45 hy46 hp47 W s H Cl cl fp => (p_nm 15 rfl)))) (a_cons (p_sl (p_nm 10 rfl) (po_nat (p_lit 1)) po_none v_slFrom) a_nil)))) rfl)) ⟨_, _, _, _, rfl, rfl, hI510⟩ ?_ ?_ bX_own rfl
      · intro i53 y52 G' C' hy_ ym_ hi_ iv_
        obtain ⟨g54, g55, g56, g57, rfl, hC_, iv_⟩ := iv_
        subst C'
        have hV := hI51s i53 y52  hy_ iv_
        refine wG_nm 5 ?_ nd
        -- 8: way, found = serve(school, list(some))
        refine wSs_cons ?_
        refine wS_asg ?_
        refine wE_callA hx Hserve hr hgu ?_
        refine wA_cons ?_
        refine pv.w (p_nm 4 rfl) ?_
        refine wA_cons ?_
        refine pv.w (p_T "list" (by decide +kernel) T.list_ (a_cons (p_nm 5 rfl) a_nil) (v_list s_ls)) ?_
        refine wA_nil ?_
        obtain ⟨hd58, hV⟩ := hV
        refine ⟨S38, y52, rfl, hd58, fun r59 hp60 => ?_⟩
        replace hV := hV r59 hp60
        rw [srvE_tup]
        refine wG_tup ?_ rfl rfl
        refine wTs_cons ?_
        refine wG_nm 13 ?_ nd
        refine wTs_cons ?_
        refine wG_nm 14 ?_ nd
        refine wTs_nil ?_
        -- 9: persons = sum([list(lessons[at]) for at in found], []) if way == 'lot' else []
        obtain ⟨found_61, hq_, hV⟩ := hV
        rw [hq_]
        obtain ⟨hd69, hV⟩ := hV
        refine wSs_cons ?_
        obtain ⟨persons_70, hpersons_70⟩ : ∃ x_ : (List Str), x_ = (bif (decide ((srvK r59) = ("lot" : Str))) then (found_61.map (fun y62 => [(gt ps33 y62).1, (gt ps33 y62).2])).flatten else ([] : (List Str))) := ⟨_, rfl⟩
        replace hV := hV persons_70 hpersons_70
        refine wS_set 11 (pv.w (pv.as (f := (lsE D.str)) hpersons_70 (p_if (f := (lsE D.str)) (u := (found_61.map (fun y62 => [(gt ps33 y62).1, (gt ps33 y62).2])).flatten) (v := ([] : (List Str))) (t_cmp (p_nm 13 rfl) p_str v_eqS) (fun h68 => (p_B "sum" (by decide +kernel) T.sum_ (a_cons (p_C (p_lcM (lsE D.str) (fun y65 => [(gt ps33 y65).1, (gt ps33 y65).2]) 16 [("at", 16)] nd rfl (i_ls (f := natD) (l := found_61) (p_nm 14 rfl)) (hd69 h68).1 (fun y65 hy66 W s H Cl cl fp => (p_T "list" (by decide +kernel) T.list_ (a_cons (p_ix (p_nm 3 rfl) (p_nm 16 rfl) (v_ix (f := lesD) (l := ps33) ((hd69 h68).2.1 y65 hy66))) a_nil) (v_list (s_pr (f := D.str) (q := (gt ps33 y65)))))))) (a_cons (p_lst (z := (lsE D.str) ([] : (List Str))) a_nil rfl) a_nil)) (v_sumL (f := D.str) (l := (found_61.map (fun y62 => [(gt ps33 y62).1, (gt ps33 y62).2]))) rfl (hd69 h68).2.2))) (fun h68 => (p_lst a_nil rfl)))) ?_) nd
        -- 10: if way != 'lot' or [person for person in some if person not in persons] != [] or 2 * len(f
        refine wSs_cons ?_
        refine wS_if ?_
        obtain ⟨hd76, hV⟩ := hV
        refine pt.w (t_b (b_or (t_cmp (p_nm 13 rfl) p_str v_neS) (fun h75 => (b_or (t_cmp (p_C (p_lcF (fun y71 => (!decide (y71 ∈ persons_70))) 6 [("person", 6)] nd rfl (i_ls (f := D.str) (l := y52) (p_nm 5 rfl)) (hd76 h75).1 (fun y71 hy72 W s H Cl cl fp => (t_cmp (p_nm 6 rfl) (p_nm 11 rfl) (v_niS s_ls))) (fun y71 hy72 hp73 W s H Cl cl fp => (p_nm 6 rfl)))) (p_lst (z := (lsE D.str) ([] : (List Str))) a_nil rfl) (v_neP (f := (lsE D.str)) (a := (y52.filter fun y71 => (!decide (y71 ∈ persons_70)))) (b := ([] : (List Str))) hr (hd76 h75).2.1 (hd76 h75).2.2)) (fun h74 => (b_or1 (t_cmp (p_bin (p_lit 2) (p_B "len" (by decide +kernel) T.len_ (a_cons (p_nm 14 rfl) a_nil) v_lenL) (v_mulN (.inl (by decide)))) (p_B "len" (by decide +kernel) T.len_ (a_cons (p_nm 5 rfl) a_nil) v_lenL) v_ltN))))))) ?_
        refine ⟨fun h77 => ?_, fun h77 => ?_⟩
        · skip
          replace hV := hV.1 h77
          -- 11: return False
          refine wSs_cons ?_
          refine wS_ret ?_
          refine pv.w p_bl ?_
          exact hV.elim
        replace hV := hV.2 h77
        refine wSs_nil ?_
        refine wSs_nil ?_
        exact ⟨_, _, _, _, rfl, rfl, hV⟩
      intro G' C' iv_
      obtain ⟨g78, g79, g80, g81, rfl, hC_, iv_⟩ := iv_
      subst C'
      have hV := hI51e  iv_
      -- 12: for person in teachers + classes:
      obtain ⟨hd82, hV⟩ := hV
      refine wSs_cons ?_
      obtain ⟨I83, hI840, hI84s, hI84e⟩ := hV
      refine wS_forL (ts23 ++ cs24) D.str (fun i_ G' C' => ∃ (g87 : Option D) (g88 : Option D), G' = [some (scE script_), some (natD y4), some (.ref pbox21), some ((lsE lesD) ps33), some ((schD ad) S38), g81, g88, some ((lsE D.str) ts23), some ((lsE D.str) cs24), some ((lsE natD) r40.1), some ((lsE D.str) r40.2), g80, g87, g78, g79, none, none] ∧ C' = [(pbox21, .box n34)] ∧ I83 i_) (i_ls (f := D.str) (l := (ts23 ++ cs24)) (p_bin (p_nm 7 rfl) (p_nm 8 rfl) (v_cat (f := D.str) (l := ts23) (m := cs24) hd82))) ⟨_, _, rfl, rfl, hI840⟩ ?_ ?_ bX_own rfl
      · intro i86 y85 G' C' hy_ ym_ hi_ iv_
        obtain ⟨g87, g88, rfl, hC_, iv_⟩ := iv_
        subst C'
        have hV := hI84s i86 y85  hy_ iv_
        refine wG_nm 6 ?_ nd
        -- 13: less = _law_without(teachers, classes, lessons, person)
        refine wSs_cons ?_
        refine wS_set 12 ?_ nd
        refine wE_callA hx H_law_without hr hgu ?_
        refine wA_cons ?_
        refine pv.w (p_nm 7 rfl) ?_
        refine wA_cons ?_
        refine pv.w (p_nm 8 rfl) ?_
        refine wA_cons ?_
        refine pv.w (p_nm 3 rfl) ?_
        refine wA_cons ?_
        refine pv.w (p_nm 6 rfl) ?_
        refine wA_nil ?_
        obtain ⟨hd89, hV⟩ := hV
        refine ⟨ts23, cs24, ps33, y85, rfl, hd89, fun r90 hp91 => ?_⟩
        replace hV := hV r90 hp91
        -- 14: if person in cover and less != len(lot) - 1 or not len(lot) - 1 <= less <= len(lot):
        refine wSs_cons ?_
        refine wS_if ?_
        refine pt.w (t_b (b_or (t_b (b_and (t_cmp (p_nm 6 rfl) (p_nm 10 rfl) (v_inS s_ls)) (fun h92 => (b_and1 (t_cmp (p_nm 12 rfl) (p_bin (p_B "len" (by decide +kernel) T.len_ (a_cons (p_nm 9 rfl) a_nil) v_lenL) (p_lit 1) (v_subI (a := ((r40.1.length : Nat) : Int)) (b := ((1 : Nat) : Int)))) (v_neI (a := ((r90 : Nat) : Int)) (b := (((r40.1.length : Nat) : Int) - ((1 : Nat) : Int))))))))) (fun h93 => (b_or1 (t_not (t_chain (p_bin (p_B "len" (by decide +kernel) T.len_ (a_cons (p_nm 9 rfl) a_nil) v_lenL) (p_lit 1) (v_subI (a := ((r40.1.length : Nat) : Int)) (b := ((1 : Nat) : Int)))) (p_nm 12 rfl) (v_leI (a := (((r40.1.length : Nat) : Int) - ((1 : Nat) : Int))) (b := ((r90 : Nat) : Int))) (fun h_ => (p_B "len" (by decide +kernel) T.len_ (a_cons (p_nm 9 rfl) a_nil) v_lenL)) (fun h_ => v_leN))))))) ?_
        refine ⟨fun h94 => ?_, fun h94 => ?_⟩
        · skip
          replace hV := hV.1 h94
          -- 15: return False
          refine wSs_cons ?_
          refine wS_ret ?_
          refine pv.w p_bl ?_
          exact hV.elim
        replace hV := hV.2 h94
        refine wSs_nil ?_
        refine wSs_nil ?_
        exact ⟨_, _, rfl, rfl, hV⟩
      intro G' C' iv_
      obtain ⟨g95, g96, rfl, hC_, iv_⟩ := iv_
      subst C'
      have hV := hI84e  iv_
      refine wSs_sub (R := []) sub_nil ?_
      refine wSs_nil ?_
      exact ⟨_, _, _, _, _, _, _, _, _, _, _, _, _, _, rfl, rfl, hV⟩
    intro G' C' iv_
    obtain ⟨g97, g98, g99, g100, g101, g102, g103, g104, g105, g106, g107, g108, g109, g110, rfl, hC_, iv_⟩ := iv_
    subst C'
    have hV := hI3e  iv_
    -- 16: return True
    refine wSs_cons ?_
    refine wS_ret ?_
    refine pv.w p_bl ?_
    exact hq _

end
theorem all_mk {l : PySem.W.OpenLaw} {w : World} {K : PySem.W.Frag} {h : Heap} {mg : Str → Option Value} {fa : Addr} (X : K.In h) (G : h.Ns mainGlobals mg) (hfa : mg "law" = some (.ref fa))
    {cSchoolError : Addr}
    {cBadNames : Addr}
    {cDoubled : Addr}
    {cBadLessons : Addr}
    {cBadLesson : Addr}
    {cBadSchool : Addr}
    {cBadPersons : Addr}
    {cSchool : Addr}
    {fxBadNames : Addr} {nmBadNames qBadNames : Str} {NBadNames : Addr} {bsBadNames bmBadNames subBadNames : List Value} {snBadNames : List Str} {abBadNames : Bool} {colBadNames : Option Bool} {ddBadNames : Option Addr} {kaBadNames kbBadNames kcBadNames kdBadNames keBadNames : Option Value}
    {od_BadNames an_BadNames : Option Addr} {sl_BadNames : Array (Option Value)} {oc_BadNames kV_BadNames dc_BadNames pm_BadNames cd_BadNames ct_BadNames : Value}
    {fxDoubled : Addr} {nmDoubled qDoubled : Str} {NDoubled : Addr} {bsDoubled bmDoubled subDoubled : List Value} {snDoubled : List Str} {abDoubled : Bool} {colDoubled : Option Bool} {ddDoubled : Option Addr} {kaDoubled kbDoubled kcDoubled kdDoubled keDoubled : Option Value}
    {od_Doubled an_Doubled : Option Addr} {sl_Doubled : Array (Option Value)} {oc_Doubled kV_Doubled dc_Doubled pm_Doubled cd_Doubled ct_Doubled : Value}
    {fxBadLessons : Addr} {nmBadLessons qBadLessons : Str} {NBadLessons : Addr} {bsBadLessons bmBadLessons subBadLessons : List Value} {snBadLessons : List Str} {abBadLessons : Bool} {colBadLessons : Option Bool} {ddBadLessons : Option Addr} {kaBadLessons kbBadLessons kcBadLessons kdBadLessons keBadLessons : Option Value}
    {od_BadLessons an_BadLessons : Option Addr} {sl_BadLessons : Array (Option Value)} {oc_BadLessons kV_BadLessons dc_BadLessons pm_BadLessons cd_BadLessons ct_BadLessons : Value}
    {fxBadLesson : Addr} {nmBadLesson qBadLesson : Str} {NBadLesson : Addr} {bsBadLesson bmBadLesson subBadLesson : List Value} {snBadLesson : List Str} {abBadLesson : Bool} {colBadLesson : Option Bool} {ddBadLesson : Option Addr} {kaBadLesson kbBadLesson kcBadLesson kdBadLesson keBadLesson : Option Value}
    {od_BadLesson an_BadLesson : Option Addr} {sl_BadLesson : Array (Option Value)} {oc_BadLesson kV_BadLesson dc_BadLesson pm_BadLesson cd_BadLesson ct_BadLesson : Value}
    {fxBadSchool : Addr} {nmBadSchool qBadSchool : Str} {NBadSchool : Addr} {bsBadSchool bmBadSchool subBadSchool : List Value} {snBadSchool : List Str} {abBadSchool : Bool} {colBadSchool : Option Bool} {ddBadSchool : Option Addr} {kaBadSchool kbBadSchool kcBadSchool kdBadSchool keBadSchool : Option Value}
    {od_BadSchool an_BadSchool : Option Addr} {sl_BadSchool : Array (Option Value)} {oc_BadSchool kV_BadSchool dc_BadSchool pm_BadSchool cd_BadSchool ct_BadSchool : Value}
    {fxBadPersons : Addr} {nmBadPersons qBadPersons : Str} {NBadPersons : Addr} {bsBadPersons bmBadPersons subBadPersons : List Value} {snBadPersons : List Str} {abBadPersons : Bool} {colBadPersons : Option Bool} {ddBadPersons : Option Addr} {kaBadPersons kbBadPersons kcBadPersons kdBadPersons keBadPersons : Option Value}
    {od_BadPersons an_BadPersons : Option Addr} {sl_BadPersons : Array (Option Value)} {oc_BadPersons kV_BadPersons dc_BadPersons pm_BadPersons cd_BadPersons ct_BadPersons : Value}
    {f0 : Addr}
    {od0 an0 : Option Addr} {sl0 : Array (Option Value)} {oc0 kV0 dc0 pm0 cd0 ct0 : Value}
    {f1 : Addr}
    {od1 an1 : Option Addr} {sl1 : Array (Option Value)} {oc1 kV1 dc1 pm1 cd1 ct1 : Value}
    {f2 : Addr}
    {od2 an2 : Option Addr} {sl2 : Array (Option Value)} {oc2 kV2 dc2 pm2 cd2 ct2 : Value}
    {f3 : Addr}
    {od3 an3 : Option Addr} {sl3 : Array (Option Value)} {oc3 kV3 dc3 pm3 cd3 ct3 : Value}
    {f4 : Addr}
    {od4 an4 : Option Addr} {sl4 : Array (Option Value)} {oc4 kV4 dc4 pm4 cd4 ct4 : Value}
    {f5 : Addr}
    {od5 an5 : Option Addr} {sl5 : Array (Option Value)} {oc5 kV5 dc5 pm5 cd5 ct5 : Value}
    {f6 : Addr}
    {od6 an6 : Option Addr} {sl6 : Array (Option Value)} {oc6 kV6 dc6 pm6 cd6 ct6 : Value}
    {f7 : Addr}
    {od7 an7 : Option Addr} {sl7 : Array (Option Value)} {oc7 kV7 dc7 pm7 cd7 ct7 : Value}
    {f8 : Addr}
    {od8 an8 : Option Addr} {sl8 : Array (Option Value)} {oc8 kV8 dc8 pm8 cd8 ct8 : Value}
    {f9 : Addr}
    {od9 an9 : Option Addr} {sl9 : Array (Option Value)} {oc9 kV9 dc9 pm9 cd9 ct9 : Value}
    {f10 : Addr}
    {od10 an10 : Option Addr} {sl10 : Array (Option Value)} {oc10 kV10 dc10 pm10 cd10 ct10 : Value}
    {f11 : Addr}
    {od11 an11 : Option Addr} {sl11 : Array (Option Value)} {oc11 kV11 dc11 pm11 cd11 ct11 : Value}
    {f12 : Addr}
    {od12 an12 : Option Addr} {sl12 : Array (Option Value)} {oc12 kV12 dc12 pm12 cd12 ct12 : Value}
    {f13 : Addr}
    {od13 an13 : Option Addr} {sl13 : Array (Option Value)} {oc13 kV13 dc13 pm13 cd13 ct13 : Value}
    {f14 : Addr}
    {od14 an14 : Option Addr} {sl14 : Array (Option Value)} {oc14 kV14 dc14 pm14 cd14 ct14 : Value}
    {f15 : Addr}
    {od15 an15 : Option Addr} {sl15 : Array (Option Value)} {oc15 kV15 dc15 pm15 cd15 ct15 : Value}
    {f16 : Addr}
    {od16 an16 : Option Addr} {sl16 : Array (Option Value)} {oc16 kV16 dc16 pm16 cd16 ct16 : Value}
    {f17 : Addr}
    {od17 an17 : Option Addr} {sl17 : Array (Option Value)} {oc17 kV17 dc17 pm17 cd17 ct17 : Value}
    {f18 : Addr}
    {od18 an18 : Option Addr} {sl18 : Array (Option Value)} {oc18 kV18 dc18 pm18 cd18 ct18 : Value}
    {f19 : Addr}
    {od19 an19 : Option Addr} {sl19 : Array (Option Value)} {oc19 kV19 dc19 pm19 cd19 ct19 : Value}
    {f20 : Addr}
    {od20 an20 : Option Addr} {sl20 : Array (Option Value)} {oc20 kV20 dc20 pm20 cd20 ct20 : Value}
    {f21 : Addr}
    {od21 an21 : Option Addr} {sl21 : Array (Option Value)} {oc21 kV21 dc21 pm21 cd21 ct21 : Value}
    {f22 : Addr}
    {od22 an22 : Option Addr} {sl22 : Array (Option Value)} {oc22 kV22 dc22 pm22 cd22 ct22 : Value}
    {f23 : Addr}
    {od23 an23 : Option Addr} {sl23 : Array (Option Value)} {oc23 kV23 dc23 pm23 cd23 ct23 : Value}
    {f24 : Addr}
    {od24 an24 : Option Addr} {sl24 : Array (Option Value)} {oc24 kV24 dc24 pm24 cd24 ct24 : Value}
    {f25 : Addr}
    {od25 an25 : Option Addr} {sl25 : Array (Option Value)} {oc25 kV25 dc25 pm25 cd25 ct25 : Value}
    {f26 : Addr}
    {od26 an26 : Option Addr} {sl26 : Array (Option Value)} {oc26 kV26 dc26 pm26 cd26 ct26 : Value}
    {f27 : Addr}
    {od27 an27 : Option Addr} {sl27 : Array (Option Value)} {oc27 kV27 dc27 pm27 cd27 ct27 : Value}
    {tk_LETTERS : Tok}
    {tk_LONGEST_NAME : Tok}
    {tk_MOST_NAMES : Tok}
    {tk_MOST_LESSONS : Tok}
    (a_SchoolError : PySem.W.nsIn K mainGlobals "SchoolError" = some (some (.ref cSchoolError)))
    (a_BadNames : PySem.W.nsIn K mainGlobals "BadNames" = some (some (.ref cBadNames)))
    (a_Doubled : PySem.W.nsIn K mainGlobals "Doubled" = some (some (.ref cDoubled)))
    (a_BadLessons : PySem.W.nsIn K mainGlobals "BadLessons" = some (some (.ref cBadLessons)))
    (a_BadLesson : PySem.W.nsIn K mainGlobals "BadLesson" = some (some (.ref cBadLesson)))
    (a_BadSchool : PySem.W.nsIn K mainGlobals "BadSchool" = some (some (.ref cBadSchool)))
    (a_BadPersons : PySem.W.nsIn K mainGlobals "BadPersons" = some (some (.ref cBadPersons)))
    (a_School : PySem.W.nsIn K mainGlobals "School" = some (some (.ref cSchool)))
    (lo_BadNames : K.lookup cBadNames = some (excClassObj nmBadNames qBadNames cBadNames NBadNames bsBadNames bmBadNames true snBadNames subBadNames abBadNames colBadNames ddBadNames kaBadNames kbBadNames kcBadNames kdBadNames keBadNames "ValueError.__new__"))
    (bm_BadNames : bmBadNames = List.map Value.ref [cSchoolError] ++ tlV)
    (sa_BadNames : PySem.W.findIn K (.ref cBadNames) "__setattr__" = some (some (.builtin "object.__setattr__")))
    (ex_BadNames : PySem.W.subIn K (.ref cBadNames) (.type "BaseException") = some true)
    (ty_BadNames : PySem.W.typeIn K (.ref cBadNames) = some (.type "type"))
    (ke_BadNames : PySem.W.keepIn K (.ref cBadNames) = true)
    (in_BadNames : PySem.W.findIn K (.ref cBadNames) "__init__" = some (some (.ref fxBadNames)))
    (ti_BadNames : PySem.W.typeIn K (.ref fxBadNames) = some (.type "function"))
    (ga_BadNames : PySem.W.findIn K (.ref cBadNames) "__getattribute__" = some (some (.builtin "BaseException.__getattribute__")))
    (gg_BadNames : PySem.W.findIn K (.ref cBadNames) "__getattr__" = some none)
    (nf_BadNames : PySem.W.findIn K (.ref cBadNames) "found" = some none)
    (hd_BadNames : PySem.W.hasDictIn K cBadNames = true)
    (l_BadNames : K.lookup fxBadNames = some ⟨oc_BadNames, od_BadNames, .func (PySem.W.fnOf "__init__" "BadNames.__init__" (defArgs (inner (top 3) 0)) (defBody (inner (top 3) 0)) (defScope (inner (top 3) 0)) .none kV_BadNames dc_BadNames pm_BadNames an_BadNames cd_BadNames ct_BadNames), sl_BadNames⟩)
    (c_BadNames : PySem.W.codeIn K cd_BadNames "BadNames.__init__" = true)
    (k_BadNames : PySem.W.keepIn K (.ref fxBadNames) = true)
    (lo_Doubled : K.lookup cDoubled = some (excClassObj nmDoubled qDoubled cDoubled NDoubled bsDoubled bmDoubled true snDoubled subDoubled abDoubled colDoubled ddDoubled kaDoubled kbDoubled kcDoubled kdDoubled keDoubled "ValueError.__new__"))
    (bm_Doubled : bmDoubled = List.map Value.ref [cSchoolError] ++ tlV)
    (sa_Doubled : PySem.W.findIn K (.ref cDoubled) "__setattr__" = some (some (.builtin "object.__setattr__")))
    (ex_Doubled : PySem.W.subIn K (.ref cDoubled) (.type "BaseException") = some true)
    (ty_Doubled : PySem.W.typeIn K (.ref cDoubled) = some (.type "type"))
    (ke_Doubled : PySem.W.keepIn K (.ref cDoubled) = true)
    (in_Doubled : PySem.W.findIn K (.ref cDoubled) "__init__" = some (some (.ref fxDoubled)))
    (ti_Doubled : PySem.W.typeIn K (.ref fxDoubled) = some (.type "function"))
    (ga_Doubled : PySem.W.findIn K (.ref cDoubled) "__getattribute__" = some (some (.builtin "BaseException.__getattribute__")))
    (gg_Doubled : PySem.W.findIn K (.ref cDoubled) "__getattr__" = some none)
    (nf_Doubled : PySem.W.findIn K (.ref cDoubled) "found" = some none)
    (hd_Doubled : PySem.W.hasDictIn K cDoubled = true)
    (l_Doubled : K.lookup fxDoubled = some ⟨oc_Doubled, od_Doubled, .func (PySem.W.fnOf "__init__" "Doubled.__init__" (defArgs (inner (top 4) 0)) (defBody (inner (top 4) 0)) (defScope (inner (top 4) 0)) .none kV_Doubled dc_Doubled pm_Doubled an_Doubled cd_Doubled ct_Doubled), sl_Doubled⟩)
    (c_Doubled : PySem.W.codeIn K cd_Doubled "Doubled.__init__" = true)
    (k_Doubled : PySem.W.keepIn K (.ref fxDoubled) = true)
    (lo_BadLessons : K.lookup cBadLessons = some (excClassObj nmBadLessons qBadLessons cBadLessons NBadLessons bsBadLessons bmBadLessons true snBadLessons subBadLessons abBadLessons colBadLessons ddBadLessons kaBadLessons kbBadLessons kcBadLessons kdBadLessons keBadLessons "ValueError.__new__"))
    (bm_BadLessons : bmBadLessons = List.map Value.ref [cSchoolError] ++ tlV)
    (sa_BadLessons : PySem.W.findIn K (.ref cBadLessons) "__setattr__" = some (some (.builtin "object.__setattr__")))
    (ex_BadLessons : PySem.W.subIn K (.ref cBadLessons) (.type "BaseException") = some true)
    (ty_BadLessons : PySem.W.typeIn K (.ref cBadLessons) = some (.type "type"))
    (ke_BadLessons : PySem.W.keepIn K (.ref cBadLessons) = true)
    (in_BadLessons : PySem.W.findIn K (.ref cBadLessons) "__init__" = some (some (.ref fxBadLessons)))
    (ti_BadLessons : PySem.W.typeIn K (.ref fxBadLessons) = some (.type "function"))
    (ga_BadLessons : PySem.W.findIn K (.ref cBadLessons) "__getattribute__" = some (some (.builtin "BaseException.__getattribute__")))
    (gg_BadLessons : PySem.W.findIn K (.ref cBadLessons) "__getattr__" = some none)
    (nf_BadLessons : PySem.W.findIn K (.ref cBadLessons) "found" = some none)
    (hd_BadLessons : PySem.W.hasDictIn K cBadLessons = true)
    (l_BadLessons : K.lookup fxBadLessons = some ⟨oc_BadLessons, od_BadLessons, .func (PySem.W.fnOf "__init__" "BadLessons.__init__" (defArgs (inner (top 5) 0)) (defBody (inner (top 5) 0)) (defScope (inner (top 5) 0)) .none kV_BadLessons dc_BadLessons pm_BadLessons an_BadLessons cd_BadLessons ct_BadLessons), sl_BadLessons⟩)
    (c_BadLessons : PySem.W.codeIn K cd_BadLessons "BadLessons.__init__" = true)
    (k_BadLessons : PySem.W.keepIn K (.ref fxBadLessons) = true)
    (lo_BadLesson : K.lookup cBadLesson = some (excClassObj nmBadLesson qBadLesson cBadLesson NBadLesson bsBadLesson bmBadLesson true snBadLesson subBadLesson abBadLesson colBadLesson ddBadLesson kaBadLesson kbBadLesson kcBadLesson kdBadLesson keBadLesson "ValueError.__new__"))
    (bm_BadLesson : bmBadLesson = List.map Value.ref [cSchoolError] ++ tlV)
    (sa_BadLesson : PySem.W.findIn K (.ref cBadLesson) "__setattr__" = some (some (.builtin "object.__setattr__")))
    (ex_BadLesson : PySem.W.subIn K (.ref cBadLesson) (.type "BaseException") = some true)
    (ty_BadLesson : PySem.W.typeIn K (.ref cBadLesson) = some (.type "type"))
    (ke_BadLesson : PySem.W.keepIn K (.ref cBadLesson) = true)
    (in_BadLesson : PySem.W.findIn K (.ref cBadLesson) "__init__" = some (some (.ref fxBadLesson)))
    (ti_BadLesson : PySem.W.typeIn K (.ref fxBadLesson) = some (.type "function"))
    (ga_BadLesson : PySem.W.findIn K (.ref cBadLesson) "__getattribute__" = some (some (.builtin "BaseException.__getattribute__")))
    (gg_BadLesson : PySem.W.findIn K (.ref cBadLesson) "__getattr__" = some none)
    (nf_BadLesson : PySem.W.findIn K (.ref cBadLesson) "found" = some none)
    (hd_BadLesson : PySem.W.hasDictIn K cBadLesson = true)
    (l_BadLesson : K.lookup fxBadLesson = some ⟨oc_BadLesson, od_BadLesson, .func (PySem.W.fnOf "__init__" "BadLesson.__init__" (defArgs (inner (top 6) 0)) (defBody (inner (top 6) 0)) (defScope (inner (top 6) 0)) .none kV_BadLesson dc_BadLesson pm_BadLesson an_BadLesson cd_BadLesson ct_BadLesson), sl_BadLesson⟩)
    (c_BadLesson : PySem.W.codeIn K cd_BadLesson "BadLesson.__init__" = true)
    (k_BadLesson : PySem.W.keepIn K (.ref fxBadLesson) = true)
    (lo_BadSchool : K.lookup cBadSchool = some (excClassObj nmBadSchool qBadSchool cBadSchool NBadSchool bsBadSchool bmBadSchool true snBadSchool subBadSchool abBadSchool colBadSchool ddBadSchool kaBadSchool kbBadSchool kcBadSchool kdBadSchool keBadSchool "ValueError.__new__"))
    (bm_BadSchool : bmBadSchool = List.map Value.ref [cSchoolError] ++ tlV)
    (sa_BadSchool : PySem.W.findIn K (.ref cBadSchool) "__setattr__" = some (some (.builtin "object.__setattr__")))
    (ex_BadSchool : PySem.W.subIn K (.ref cBadSchool) (.type "BaseException") = some true)
    (ty_BadSchool : PySem.W.typeIn K (.ref cBadSchool) = some (.type "type"))
    (ke_BadSchool : PySem.W.keepIn K (.ref cBadSchool) = true)
    (in_BadSchool : PySem.W.findIn K (.ref cBadSchool) "__init__" = some (some (.ref fxBadSchool)))
    (ti_BadSchool : PySem.W.typeIn K (.ref fxBadSchool) = some (.type "function"))
    (ga_BadSchool : PySem.W.findIn K (.ref cBadSchool) "__getattribute__" = some (some (.builtin "BaseException.__getattribute__")))
    (gg_BadSchool : PySem.W.findIn K (.ref cBadSchool) "__getattr__" = some none)
    (nf_BadSchool : PySem.W.findIn K (.ref cBadSchool) "found" = some none)
    (hd_BadSchool : PySem.W.hasDictIn K cBadSchool = true)
    (l_BadSchool : K.lookup fxBadSchool = some ⟨oc_BadSchool, od_BadSchool, .func (PySem.W.fnOf "__init__" "BadSchool.__init__" (defArgs (inner (top 7) 0)) (defBody (inner (top 7) 0)) (defScope (inner (top 7) 0)) .none kV_BadSchool dc_BadSchool pm_BadSchool an_BadSchool cd_BadSchool ct_BadSchool), sl_BadSchool⟩)
    (c_BadSchool : PySem.W.codeIn K cd_BadSchool "BadSchool.__init__" = true)
    (k_BadSchool : PySem.W.keepIn K (.ref fxBadSchool) = true)
    (lo_BadPersons : K.lookup cBadPersons = some (excClassObj nmBadPersons qBadPersons cBadPersons NBadPersons bsBadPersons bmBadPersons true snBadPersons subBadPersons abBadPersons colBadPersons ddBadPersons kaBadPersons kbBadPersons kcBadPersons kdBadPersons keBadPersons "ValueError.__new__"))
    (bm_BadPersons : bmBadPersons = List.map Value.ref [cSchoolError] ++ tlV)
    (sa_BadPersons : PySem.W.findIn K (.ref cBadPersons) "__setattr__" = some (some (.builtin "object.__setattr__")))
    (ex_BadPersons : PySem.W.subIn K (.ref cBadPersons) (.type "BaseException") = some true)
    (ty_BadPersons : PySem.W.typeIn K (.ref cBadPersons) = some (.type "type"))
    (ke_BadPersons : PySem.W.keepIn K (.ref cBadPersons) = true)
    (in_BadPersons : PySem.W.findIn K (.ref cBadPersons) "__init__" = some (some (.ref fxBadPersons)))
    (ti_BadPersons : PySem.W.typeIn K (.ref fxBadPersons) = some (.type "function"))
    (ga_BadPersons : PySem.W.findIn K (.ref cBadPersons) "__getattribute__" = some (some (.builtin "BaseException.__getattribute__")))
    (gg_BadPersons : PySem.W.findIn K (.ref cBadPersons) "__getattr__" = some none)
    (nf_BadPersons : PySem.W.findIn K (.ref cBadPersons) "found" = some none)
    (hd_BadPersons : PySem.W.hasDictIn K cBadPersons = true)
    (l_BadPersons : K.lookup fxBadPersons = some ⟨oc_BadPersons, od_BadPersons, .func (PySem.W.fnOf "__init__" "BadPersons.__init__" (defArgs (inner (top 8) 0)) (defBody (inner (top 8) 0)) (defScope (inner (top 8) 0)) .none kV_BadPersons dc_BadPersons pm_BadPersons an_BadPersons cd_BadPersons ct_BadPersons), sl_BadPersons⟩)
    (c_BadPersons : PySem.W.codeIn K cd_BadPersons "BadPersons.__init__" = true)
    (k_BadPersons : PySem.W.keepIn K (.ref fxBadPersons) = true)
    (rd_SchoolError : PySem.W.readsIn K cSchoolError (.type "type") = true)
    (hv_SchoolError : PySem.W.findCls K (.ref cSchoolError) (.type "type") "__init__" = some (.val (.builtin "ValueError.__init__")))
    (hg_SchoolError : PySem.W.specialIn K (.ref cSchoolError) "__getattribute__" = some (some (.builtin "type.__getattribute__")))
    (cn : PySem.W.specialIn K (.builtin "object.__class__") "__get__" = some (some (.builtin "getset_descriptor.__get__")))
    (ctk : PySem.W.takesIn K (.builtin "object.__class__") = some true)
    (pg_School : PySem.W.plainGet K cSchool Str.empty = true)
    (hd_School : PySem.W.hasDictIn K cSchool = true)
    (po_School : PySem.W.plainOver K cSchool = true)
    (sa_School : PySem.W.findIn K (.ref cSchool) "__setattr__" = some (some (.builtin "object.__setattr__")))
    (mk_School : PySem.W.makesIn K cSchool = true)
    (kp_School : PySem.W.keepIn K (.ref cSchool) = true)
    (ic_School : PySem.W.isClsIn K cSchool = true)
    (ty_School : PySem.W.typeIn K (.ref cSchool) = some (.type "type"))
    (ha_School : PySem.W.findIn K (.ref cSchool) "__class__" = some (some (.builtin "object.__class__")))
    (hm_School : PySem.W.mroIn K cSchool (.type "object") = some true)
    (nf_School_school_teachers : PySem.W.findIn K (.ref cSchool) "school_teachers" = some none)
    (nf_School_school_classes : PySem.W.findIn K (.ref cSchool) "school_classes" = some none)
    (nf_School_school_lessons : PySem.W.findIn K (.ref cSchool) "school_lessons" = some none)
    (ne_School : PySem.W.findIn K (.ref cSchool) "__ne__" = some (some (.builtin "object.__ne__")))
    (a0 : PySem.W.nsIn K mainGlobals "_law_box" = some (some (.ref f0)))
    (l0 : K.lookup f0 = some ⟨oc0, od0, .func (PySem.W.fnOf "_law_box" "_law_box" (defArgs (top 32)) (defBody (top 32)) (defScope (top 32)) .none kV0 dc0 pm0 an0 cd0 ct0), sl0⟩)
    (c0 : PySem.W.codeIn K cd0 "_law_box" = true)
    (k0 : PySem.W.keepIn K (.ref f0) = true)
    (a1 : PySem.W.nsIn K mainGlobals "is_name" = some (some (.ref f1)))
    (l1 : K.lookup f1 = some ⟨oc1, od1, .func (PySem.W.fnOf "is_name" "is_name" (defArgs (top 12)) (defBody (top 12)) (defScope (top 12)) .none kV1 dc1 pm1 an1 cd1 ct1), sl1⟩)
    (c1 : PySem.W.codeIn K cd1 "is_name" = true)
    (k1 : PySem.W.keepIn K (.ref f1) = true)
    (a2 : PySem.W.nsIn K mainGlobals "_law_take" = some (some (.ref f2)))
    (l2 : K.lookup f2 = some ⟨oc2, od2, .func (PySem.W.fnOf "_law_take" "_law_take" (defArgs (top 33)) (defBody (top 33)) (defScope (top 33)) .none kV2 dc2 pm2 an2 cd2 ct2), sl2⟩)
    (c2 : PySem.W.codeIn K cd2 "_law_take" = true)
    (k2 : PySem.W.keepIn K (.ref f2) = true)
    (a3 : PySem.W.nsIn K mainGlobals "_law_names" = some (some (.ref f3)))
    (l3 : K.lookup f3 = some ⟨oc3, od3, .func (PySem.W.fnOf "_law_names" "_law_names" (defArgs (top 34)) (defBody (top 34)) (defScope (top 34)) .none kV3 dc3 pm3 an3 cd3 ct3), sl3⟩)
    (c3 : PySem.W.codeIn K cd3 "_law_names" = true)
    (k3 : PySem.W.keepIn K (.ref f3) = true)
    (a4 : PySem.W.nsIn K mainGlobals "_law_people" = some (some (.ref f4)))
    (l4 : K.lookup f4 = some ⟨oc4, od4, .func (PySem.W.fnOf "_law_people" "_law_people" (defArgs (top 35)) (defBody (top 35)) (defScope (top 35)) .none kV4 dc4 pm4 an4 cd4 ct4), sl4⟩)
    (c4 : PySem.W.codeIn K cd4 "_law_people" = true)
    (k4 : PySem.W.keepIn K (.ref f4) = true)
    (a5 : PySem.W.nsIn K mainGlobals "is_list" = some (some (.ref f5)))
    (l5 : K.lookup f5 = some ⟨oc5, od5, .func (PySem.W.fnOf "is_list" "is_list" (defArgs (top 13)) (defBody (top 13)) (defScope (top 13)) .none kV5 dc5 pm5 an5 cd5 ct5), sl5⟩)
    (c5 : PySem.W.codeIn K cd5 "is_list" = true)
    (k5 : PySem.W.keepIn K (.ref f5) = true)
    (a6 : PySem.W.nsIn K mainGlobals "need_names" = some (some (.ref f6)))
    (l6 : K.lookup f6 = some ⟨oc6, od6, .func (PySem.W.fnOf "need_names" "need_names" (defArgs (top 17)) (defBody (top 17)) (defScope (top 17)) .none kV6 dc6 pm6 an6 cd6 ct6), sl6⟩)
    (c6 : PySem.W.codeIn K cd6 "need_names" = true)
    (k6 : PySem.W.keepIn K (.ref f6) = true)
    (a7 : PySem.W.findIn K (.ref cSchool) "is_lesson" = some (some (.ref f7)))
    (i7 : PySem.W.isFn K (.ref f7) = true)
    (l7 : K.lookup f7 = some ⟨oc7, od7, .func (PySem.W.fnOf "is_lesson" "School.is_lesson" (defArgs (inner (top 18) 4)) (defBody (inner (top 18) 4)) (defScope (inner (top 18) 4)) .none kV7 dc7 pm7 an7 cd7 ct7), sl7⟩)
    (c7 : PySem.W.codeIn K cd7 "School.is_lesson" = true)
    (k7 : PySem.W.keepIn K (.ref f7) = true)
    (a8 : PySem.W.findIn K (.ref cSchool) "__init__" = some (some (.ref f8)))
    (i8 : PySem.W.isFn K (.ref f8) = true)
    (l8 : K.lookup f8 = some ⟨oc8, od8, .func (PySem.W.fnOf "__init__" "School.__init__" (defArgs (inner (top 18) 0)) (defBody (inner (top 18) 0)) (defScope (inner (top 18) 0)) .none kV8 dc8 pm8 an8 cd8 ct8), sl8⟩)
    (c8 : PySem.W.codeIn K cd8 "School.__init__" = true)
    (k8 : PySem.W.keepIn K (.ref f8) = true)
    (a9 : PySem.W.findIn K (.ref cSchool) "__len__" = some (some (.ref f9)))
    (i9 : PySem.W.isFn K (.ref f9) = true)
    (l9 : K.lookup f9 = some ⟨oc9, od9, .func (PySem.W.fnOf "__len__" "School.__len__" (defArgs (inner (top 18) 1)) (defBody (inner (top 18) 1)) (defScope (inner (top 18) 1)) .none kV9 dc9 pm9 an9 cd9 ct9), sl9⟩)
    (c9 : PySem.W.codeIn K cd9 "School.__len__" = true)
    (k9 : PySem.W.keepIn K (.ref f9) = true)
    (a10 : PySem.W.nsIn K mainGlobals "_law_lessons" = some (some (.ref f10)))
    (l10 : K.lookup f10 = some ⟨oc10, od10, .func (PySem.W.fnOf "_law_lessons" "_law_lessons" (defArgs (top 36)) (defBody (top 36)) (defScope (top 36)) .none kV10 dc10 pm10 an10 cd10 ct10), sl10⟩)
    (c10 : PySem.W.codeIn K cd10 "_law_lessons" = true)
    (k10 : PySem.W.keepIn K (.ref f10) = true)
    (a11 : PySem.W.nsIn K mainGlobals "need_school" = some (some (.ref f11)))
    (l11 : K.lookup f11 = some ⟨oc11, od11, .func (PySem.W.fnOf "need_school" "need_school" (defArgs (top 19)) (defBody (top 19)) (defScope (top 19)) .none kV11 dc11 pm11 an11 cd11 ct11), sl11⟩)
    (c11 : PySem.W.codeIn K cd11 "need_school" = true)
    (k11 : PySem.W.keepIn K (.ref f11) = true)
    (a12 : PySem.W.findIn K (.ref cSchool) "teachers" = some (some (.ref f12)))
    (i12 : PySem.W.isFn K (.ref f12) = true)
    (l12 : K.lookup f12 = some ⟨oc12, od12, .func (PySem.W.fnOf "teachers" "School.teachers" (defArgs (inner (top 18) 5)) (defBody (inner (top 18) 5)) (defScope (inner (top 18) 5)) .none kV12 dc12 pm12 an12 cd12 ct12), sl12⟩)
    (c12 : PySem.W.codeIn K cd12 "School.teachers" = true)
    (k12 : PySem.W.keepIn K (.ref f12) = true)
    (a13 : PySem.W.findIn K (.ref cSchool) "lessons" = some (some (.ref f13)))
    (i13 : PySem.W.isFn K (.ref f13) = true)
    (l13 : K.lookup f13 = some ⟨oc13, od13, .func (PySem.W.fnOf "lessons" "School.lessons" (defArgs (inner (top 18) 8)) (defBody (inner (top 18) 8)) (defScope (inner (top 18) 8)) .none kV13 dc13 pm13 an13 cd13 ct13), sl13⟩)
    (c13 : PySem.W.codeIn K cd13 "School.lessons" = true)
    (k13 : PySem.W.keepIn K (.ref f13) = true)
    (a14 : PySem.W.findIn K (.ref cSchool) "persons" = some (some (.ref f14)))
    (i14 : PySem.W.isFn K (.ref f14) = true)
    (l14 : K.lookup f14 = some ⟨oc14, od14, .func (PySem.W.fnOf "persons" "School.persons" (defArgs (inner (top 18) 7)) (defBody (inner (top 18) 7)) (defScope (inner (top 18) 7)) .none kV14 dc14 pm14 an14 cd14 ct14), sl14⟩)
    (c14 : PySem.W.codeIn K cd14 "School.persons" = true)
    (k14 : PySem.W.keepIn K (.ref f14) = true)
    (a15 : PySem.W.nsIn K mainGlobals "partners" = some (some (.ref f15)))
    (l15 : K.lookup f15 = some ⟨oc15, od15, .func (PySem.W.fnOf "partners" "partners" (defArgs (top 21)) (defBody (top 21)) (defScope (top 21)) .none kV15 dc15 pm15 an15 cd15 ct15), sl15⟩)
    (c15 : PySem.W.codeIn K cd15 "partners" = true)
    (k15 : PySem.W.keepIn K (.ref f15) = true)
    (a16 : PySem.W.nsIn K mainGlobals "led" = some (some (.ref f16)))
    (l16 : K.lookup f16 = some ⟨oc16, od16, .func (PySem.W.fnOf "led" "led" (defArgs (top 22)) (defBody (top 22)) (defScope (top 22)) .none kV16 dc16 pm16 an16 cd16 ct16), sl16⟩)
    (c16 : PySem.W.codeIn K cd16 "led" = true)
    (k16 : PySem.W.keepIn K (.ref f16) = true)
    (a17 : PySem.W.nsIn K mainGlobals "lesson_of" = some (some (.ref f17)))
    (l17 : K.lookup f17 = some ⟨oc17, od17, .func (PySem.W.fnOf "lesson_of" "lesson_of" (defArgs (top 24)) (defBody (top 24)) (defScope (top 24)) .none kV17 dc17 pm17 an17 cd17 ct17), sl17⟩)
    (c17 : PySem.W.codeIn K cd17 "lesson_of" = true)
    (k17 : PySem.W.keepIn K (.ref f17) = true)
    (a18 : PySem.W.findIn K (.ref cSchool) "classes" = some (some (.ref f18)))
    (i18 : PySem.W.isFn K (.ref f18) = true)
    (l18 : K.lookup f18 = some ⟨oc18, od18, .func (PySem.W.fnOf "classes" "School.classes" (defArgs (inner (top 18) 6)) (defBody (inner (top 18) 6)) (defScope (inner (top 18) 6)) .none kV18 dc18 pm18 an18 cd18 ct18), sl18⟩)
    (c18 : PySem.W.codeIn K cd18 "School.classes" = true)
    (k18 : PySem.W.keepIn K (.ref f18) = true)
    (a19 : PySem.W.nsIn K mainGlobals "most_at_once" = some (some (.ref f19)))
    (l19 : K.lookup f19 = some ⟨oc19, od19, .func (PySem.W.fnOf "most_at_once" "most_at_once" (defArgs (top 25)) (defBody (top 25)) (defScope (top 25)) .none kV19 dc19 pm19 an19 cd19 ct19), sl19⟩)
    (c19 : PySem.W.codeIn K cd19 "most_at_once" = true)
    (k19 : PySem.W.keepIn K (.ref f19) = true)
    (a20 : PySem.W.nsIn K mainGlobals "_law_cell" = some (some (.ref f20)))
    (l20 : K.lookup f20 = some ⟨oc20, od20, .func (PySem.W.fnOf "_law_cell" "_law_cell" (defArgs (top 31)) (defBody (top 31)) (defScope (top 31)) .none kV20 dc20 pm20 an20 cd20 ct20), sl20⟩)
    (c20 : PySem.W.codeIn K cd20 "_law_cell" = true)
    (k20 : PySem.W.keepIn K (.ref f20) = true)
    (a21 : PySem.W.nsIn K mainGlobals "need_persons" = some (some (.ref f21)))
    (l21 : K.lookup f21 = some ⟨oc21, od21, .func (PySem.W.fnOf "need_persons" "need_persons" (defArgs (top 26)) (defBody (top 26)) (defScope (top 26)) .none kV21 dc21 pm21 an21 cd21 ct21), sl21⟩)
    (c21 : PySem.W.codeIn K cd21 "need_persons" = true)
    (k21 : PySem.W.keepIn K (.ref f21) = true)
    (a22 : PySem.W.nsIn K mainGlobals "paired" = some (some (.ref f22)))
    (l22 : K.lookup f22 = some ⟨oc22, od22, .func (PySem.W.fnOf "paired" "paired" (defArgs (top 23)) (defBody (top 23)) (defScope (top 23)) .none kV22 dc22 pm22 an22 cd22 ct22), sl22⟩)
    (c22 : PySem.W.codeIn K cd22 "paired" = true)
    (k22 : PySem.W.keepIn K (.ref f22) = true)
    (a23 : PySem.W.nsIn K mainGlobals "both_sides" = some (some (.ref f23)))
    (l23 : K.lookup f23 = some ⟨oc23, od23, .func (PySem.W.fnOf "both_sides" "both_sides" (defArgs (top 28)) (defBody (top 28)) (defScope (top 28)) .none kV23 dc23 pm23 an23 cd23 ct23), sl23⟩)
    (c23 : PySem.W.codeIn K cd23 "both_sides" = true)
    (k23 : PySem.W.keepIn K (.ref f23) = true)
    (a24 : PySem.W.nsIn K mainGlobals "side" = some (some (.ref f24)))
    (l24 : K.lookup f24 = some ⟨oc24, od24, .func (PySem.W.fnOf "side" "side" (defArgs (top 27)) (defBody (top 27)) (defScope (top 27)) .none kV24 dc24 pm24 an24 cd24 ct24), sl24⟩)
    (c24 : PySem.W.codeIn K cd24 "side" = true)
    (k24 : PySem.W.keepIn K (.ref f24) = true)
    (a25 : PySem.W.nsIn K mainGlobals "serve" = some (some (.ref f25)))
    (l25 : K.lookup f25 = some ⟨oc25, od25, .func (PySem.W.fnOf "serve" "serve" (defArgs (top 29)) (defBody (top 29)) (defScope (top 29)) .none kV25 dc25 pm25 an25 cd25 ct25), sl25⟩)
    (c25 : PySem.W.codeIn K cd25 "serve" = true)
    (k25 : PySem.W.keepIn K (.ref f25) = true)
    (a26 : PySem.W.nsIn K mainGlobals "_law_without" = some (some (.ref f26)))
    (l26 : K.lookup f26 = some ⟨oc26, od26, .func (PySem.W.fnOf "_law_without" "_law_without" (defArgs (top 37)) (defBody (top 37)) (defScope (top 37)) .none kV26 dc26 pm26 an26 cd26 ct26), sl26⟩)
    (c26 : PySem.W.codeIn K cd26 "_law_without" = true)
    (k26 : PySem.W.keepIn K (.ref f26) = true)
    (a27 : PySem.W.nsIn K mainGlobals "law" = some (some (.ref f27)))
    (l27 : K.lookup f27 = some ⟨oc27, od27, .func (PySem.W.fnOf "law" "law" (defArgs (top 38)) (defBody (top 38)) (defScope (top 38)) .none kV27 dc27 pm27 an27 cd27 ct27), sl27⟩)
    (c27 : PySem.W.codeIn K cd27 "law" = true)
    (k27 : PySem.W.keepIn K (.ref f27) = true)
    (z_isinstance : PySem.W.nsIn K mainGlobals "isinstance" = some none)
    (z_str : PySem.W.nsIn K mainGlobals "str" = some none)
    (z_len : PySem.W.nsIn K mainGlobals "len" = some none)
    (z_max : PySem.W.nsIn K mainGlobals "max" = some none)
    (z_min : PySem.W.nsIn K mainGlobals "min" = some none)
    (z_all : PySem.W.nsIn K mainGlobals "all" = some none)
    (z_any : PySem.W.nsIn K mainGlobals "any" = some none)
    (z_sum : PySem.W.nsIn K mainGlobals "sum" = some none)
    (z_sorted : PySem.W.nsIn K mainGlobals "sorted" = some none)
    (z_range : PySem.W.nsIn K mainGlobals "range" = some none)
    (z_list : PySem.W.nsIn K mainGlobals "list" = some none)
    (z_tuple : PySem.W.nsIn K mainGlobals "tuple" = some none)
    (z_dict : PySem.W.nsIn K mainGlobals "dict" = some none)
    (z_enumerate : PySem.W.nsIn K mainGlobals "enumerate" = some none)
    (z_ValueError : PySem.W.nsIn K mainGlobals "ValueError" = some none)
    (z_LETTERS : PySem.W.nsIn K mainGlobals "LETTERS" = some (some (.str "abcdefghijklmnopqrstuvwxyz" tk_LETTERS)))
    (z_LONGEST_NAME : PySem.W.nsIn K mainGlobals "LONGEST_NAME" = some (some (.int 8 tk_LONGEST_NAME)))
    (z_MOST_NAMES : PySem.W.nsIn K mainGlobals "MOST_NAMES" = some (some (.int 8 tk_MOST_NAMES)))
    (z_MOST_LESSONS : PySem.W.nsIn K mainGlobals "MOST_LESSONS" = some (some (.int 40 tk_MOST_LESSONS)))
    : ∃ fd : FuncData, (∀ (s : Shared) (v : Value), BindsTo s fd ⟨[v], []⟩ [("script", v)]) ∧ ∀ base : Heap, K.In base → base.Ns mainGlobals mg → FnG l.prog w K mg base 15 fa fd ["script"] lawF := by
  have e := hfa.symm.trans (PySem.W.mg_of X G a27)
  cases e
  have T : Bn K mg (⟨cSchoolError, cBadNames, cDoubled, cBadLessons, cBadLesson, cBadSchool, cBadPersons, cSchool⟩ : Ad) := ⟨PySem.W.mg_none_of X G z_isinstance, PySem.W.mg_none_of X G z_str, PySem.W.mg_none_of X G z_len, PySem.W.mg_none_of X G z_max, PySem.W.mg_none_of X G z_min, PySem.W.mg_none_of X G z_all, PySem.W.mg_none_of X G z_any, PySem.W.mg_none_of X G z_sum, PySem.W.mg_none_of X G z_sorted, PySem.W.mg_none_of X G z_range, PySem.W.mg_none_of X G z_list, PySem.W.mg_none_of X G z_tuple, PySem.W.mg_none_of X G z_dict, PySem.W.mg_none_of X G z_enumerate, PySem.W.mg_none_of X G z_ValueError, ⟨_, PySem.W.mg_of X G z_LETTERS, ⟨_, rfl⟩⟩, ⟨_, PySem.W.mg_of X G z_LONGEST_NAME, ⟨_, rfl⟩⟩, ⟨_, PySem.W.mg_of X G z_MOST_NAMES, ⟨_, rfl⟩⟩, ⟨_, PySem.W.mg_of X G z_MOST_LESSONS, ⟨_, rfl⟩⟩, PySem.W.mg_of X G a_SchoolError, PySem.W.mg_of X G a_BadNames, PySem.W.mg_of X G a_Doubled, PySem.W.mg_of X G a_BadLessons, PySem.W.mg_of X G a_BadLesson, PySem.W.mg_of X G a_BadSchool, PySem.W.mg_of X G a_BadPersons, PySem.W.mg_of X G a_School, ⟨⟨pg_School, hd_School, po_School, sa_School⟩, ic_School, ty_School, ha_School, cn, ctk, hm_School⟩, nf_School_school_teachers, nf_School_school_classes, nf_School_school_lessons, ne_School⟩
  have ek_BadNames : ErK K cBadNames "ValueError.__init__" := ⟨⟨_, _, _, _, _, _, _, _, [cSchoolError], _, _, _, _, _, _, _, _, _, _, erV, by rw [← bm_BadNames]; exact lo_BadNames⟩, sa_BadNames, ex_BadNames, ty_BadNames, ke_BadNames⟩
  have Fu_BadNames := fun_mk (st := inner (top 3) 0) l_BadNames c_BadNames k_BadNames
  have bi_BadNames := Fu_BadNames.binds (ps := ["self", "found"]) fun _ _ _ _ _ _ us hl => match us, hl with | [_, _], _ => rfl
  have ek_Doubled : ErK K cDoubled "ValueError.__init__" := ⟨⟨_, _, _, _, _, _, _, _, [cSchoolError], _, _, _, _, _, _, _, _, _, _, erV, by rw [← bm_Doubled]; exact lo_Doubled⟩, sa_Doubled, ex_Doubled, ty_Doubled, ke_Doubled⟩
  have Fu_Doubled := fun_mk (st := inner (top 4) 0) l_Doubled c_Doubled k_Doubled
  have bi_Doubled := Fu_Doubled.binds (ps := ["self", "found"]) fun _ _ _ _ _ _ us hl => match us, hl with | [_, _], _ => rfl
  have ek_BadLessons : ErK K cBadLessons "ValueError.__init__" := ⟨⟨_, _, _, _, _, _, _, _, [cSchoolError], _, _, _, _, _, _, _, _, _, _, erV, by rw [← bm_BadLessons]; exact lo_BadLessons⟩, sa_BadLessons, ex_BadLessons, ty_BadLessons, ke_BadLessons⟩
  have Fu_BadLessons := fun_mk (st := inner (top 5) 0) l_BadLessons c_BadLessons k_BadLessons
  have bi_BadLessons := Fu_BadLessons.binds (ps := ["self", "found"]) fun _ _ _ _ _ _ us hl => match us, hl with | [_, _], _ => rfl
  have ek_BadLesson : ErK K cBadLesson "ValueError.__init__" := ⟨⟨_, _, _, _, _, _, _, _, [cSchoolError], _, _, _, _, _, _, _, _, _, _, erV, by rw [← bm_BadLesson]; exact lo_BadLesson⟩, sa_BadLesson, ex_BadLesson, ty_BadLesson, ke_BadLesson⟩
  have Fu_BadLesson := fun_mk (st := inner (top 6) 0) l_BadLesson c_BadLesson k_BadLesson
  have bi_BadLesson := Fu_BadLesson.binds (ps := ["self", "found"]) fun _ _ _ _ _ _ us hl => match us, hl with | [_, _], _ => rfl
  have ek_BadSchool : ErK K cBadSchool "ValueError.__init__" := ⟨⟨_, _, _, _, _, _, _, _, [cSchoolError], _, _, _, _, _, _, _, _, _, _, erV, by rw [← bm_BadSchool]; exact lo_BadSchool⟩, sa_BadSchool, ex_BadSchool, ty_BadSchool, ke_BadSchool⟩
  have Fu_BadSchool := fun_mk (st := inner (top 7) 0) l_BadSchool c_BadSchool k_BadSchool
  have bi_BadSchool := Fu_BadSchool.binds (ps := ["self", "found"]) fun _ _ _ _ _ _ us hl => match us, hl with | [_, _], _ => rfl
  have ek_BadPersons : ErK K cBadPersons "ValueError.__init__" := ⟨⟨_, _, _, _, _, _, _, _, [cSchoolError], _, _, _, _, _, _, _, _, _, _, erV, by rw [← bm_BadPersons]; exact lo_BadPersons⟩, sa_BadPersons, ex_BadPersons, ty_BadPersons, ke_BadPersons⟩
  have Fu_BadPersons := fun_mk (st := inner (top 8) 0) l_BadPersons c_BadPersons k_BadPersons
  have bi_BadPersons := Fu_BadPersons.binds (ps := ["self", "found"]) fun _ _ _ _ _ _ us hl => match us, hl with | [_, _], _ => rfl
  have F0 := fun_mk (st := top 32) l0 c0 k0
  have F1 := fun_mk (st := top 12) l1 c1 k1
  have F2 := fun_mk (st := top 33) l2 c2 k2
  have F3 := fun_mk (st := top 34) l3 c3 k3
  have F4 := fun_mk (st := top 35) l4 c4 k4
  have F5 := fun_mk (st := top 13) l5 c5 k5
  have F6 := fun_mk (st := top 17) l6 c6 k6
  have F7 := fun_mk (st := inner (top 18) 4) l7 c7 k7
  have F8 := fun_mk (st := inner (top 18) 0) l8 c8 k8
  have F9 := fun_mk (st := inner (top 18) 1) l9 c9 k9
  have F10 := fun_mk (st := top 36) l10 c10 k10
  have F11 := fun_mk (st := top 19) l11 c11 k11
  have F12 := fun_mk (st := inner (top 18) 5) l12 c12 k12
  have F13 := fun_mk (st := inner (top 18) 8) l13 c13 k13
  have F14 := fun_mk (st := inner (top 18) 7) l14 c14 k14
  have F15 := fun_mk (st := top 21) l15 c15 k15
  have F16 := fun_mk (st := top 22) l16 c16 k16
  have F17 := fun_mk (st := top 24) l17 c17 k17
  have F18 := fun_mk (st := inner (top 18) 6) l18 c18 k18
  have F19 := fun_mk (st := top 25) l19 c19 k19
  have F20 := fun_mk (st := top 31) l20 c20 k20
  have F21 := fun_mk (st := top 26) l21 c21 k21
  have F22 := fun_mk (st := top 23) l22 c22 k22
  have F23 := fun_mk (st := top 28) l23 c23 k23
  have F24 := fun_mk (st := top 27) l24 c24 k24
  have F25 := fun_mk (st := top 29) l25 c25 k25
  have F26 := fun_mk (st := top 37) l26 c26 k26
  have F27 := fun_mk (st := top 38) l27 c27 k27
  refine ⟨PySem.W.fnOf "law" "law" (defArgs (top 38)) (defBody (top 38)) (defScope (top 38)) .none kV27 dc27 pm27 an27 cd27 ct27, fun s v => .of_eq rfl, fun base _ _ => ?_⟩
  have HE_BadNames : ErT l.prog w K mg base "BadNames" cBadNames "found" := ⟨PySem.W.mg_of X G a_BadNames, ⟨_, _, _, _, ek_BadNames, in_BadNames, ti_BadNames, ok_BadNames_init (ad := (⟨cSchoolError, cBadNames, cDoubled, cBadLessons, cBadLesson, cBadSchool, cBadPersons, cSchool⟩ : Ad)) Fu_BadNames T ek_BadNames rd_SchoolError hv_SchoolError hg_SchoolError nf_BadNames, bi_BadNames⟩, ga_BadNames, gg_BadNames, nf_BadNames, hd_BadNames⟩
  have HE_Doubled : ErT l.prog w K mg base "Doubled" cDoubled "found" := ⟨PySem.W.mg_of X G a_Doubled, ⟨_, _, _, _, ek_Doubled, in_Doubled, ti_Doubled, ok_Doubled_init (ad := (⟨cSchoolError, cBadNames, cDoubled, cBadLessons, cBadLesson, cBadSchool, cBadPersons, cSchool⟩ : Ad)) Fu_Doubled T ek_Doubled rd_SchoolError hv_SchoolError hg_SchoolError nf_Doubled, bi_Doubled⟩, ga_Doubled, gg_Doubled, nf_Doubled, hd_Doubled⟩
  have HE_BadLessons : ErT l.prog w K mg base "BadLessons" cBadLessons "found" := ⟨PySem.W.mg_of X G a_BadLessons, ⟨_, _, _, _, ek_BadLessons, in_BadLessons, ti_BadLessons, ok_BadLessons_init (ad := (⟨cSchoolError, cBadNames, cDoubled, cBadLessons, cBadLesson, cBadSchool, cBadPersons, cSchool⟩ : Ad)) Fu_BadLessons T ek_BadLessons rd_SchoolError hv_SchoolError hg_SchoolError nf_BadLessons, bi_BadLessons⟩, ga_BadLessons, gg_BadLessons, nf_BadLessons, hd_BadLessons⟩
  have HE_BadLesson : ErT l.prog w K mg base "BadLesson" cBadLesson "found" := ⟨PySem.W.mg_of X G a_BadLesson, ⟨_, _, _, _, ek_BadLesson, in_BadLesson, ti_BadLesson, ok_BadLesson_init (ad := (⟨cSchoolError, cBadNames, cDoubled, cBadLessons, cBadLesson, cBadSchool, cBadPersons, cSchool⟩ : Ad)) Fu_BadLesson T ek_BadLesson rd_SchoolError hv_SchoolError hg_SchoolError nf_BadLesson, bi_BadLesson⟩, ga_BadLesson, gg_BadLesson, nf_BadLesson, hd_BadLesson⟩
  have HE_BadSchool : ErT l.prog w K mg base "BadSchool" cBadSchool "found" := ⟨PySem.W.mg_of X G a_BadSchool, ⟨_, _, _, _, ek_BadSchool, in_BadSchool, ti_BadSchool, ok_BadSchool_init (ad := (⟨cSchoolError, cBadNames, cDoubled, cBadLessons, cBadLesson, cBadSchool, cBadPersons, cSchool⟩ : Ad)) Fu_BadSchool T ek_BadSchool rd_SchoolError hv_SchoolError hg_SchoolError nf_BadSchool, bi_BadSchool⟩, ga_BadSchool, gg_BadSchool, nf_BadSchool, hd_BadSchool⟩
  have HE_BadPersons : ErT l.prog w K mg base "BadPersons" cBadPersons "found" := ⟨PySem.W.mg_of X G a_BadPersons, ⟨_, _, _, _, ek_BadPersons, in_BadPersons, ti_BadPersons, ok_BadPersons_init (ad := (⟨cSchoolError, cBadNames, cDoubled, cBadLessons, cBadLesson, cBadSchool, cBadPersons, cSchool⟩ : Ad)) Fu_BadPersons T ek_BadPersons rd_SchoolError hv_SchoolError hg_SchoolError nf_BadPersons, bi_BadPersons⟩, ga_BadPersons, gg_BadPersons, nf_BadPersons, hd_BadPersons⟩
  have G0 := ok_law_box (ad := (⟨cSchoolError, cBadNames, cDoubled, cBadLessons, cBadLesson, cBadSchool, cBadPersons, cSchool⟩ : Ad)) (P := l.prog) (w := w) (base := base) F0 T 
  have b0 := F0.binds (ps := ["cell"]) fun _ _ _ _ _ _ us hl => match us, hl with | [_], _ => rfl
  have H_law_box : Has l.prog w K mg base "_law_box" 1 (fBox) := ⟨_, _, _, PySem.W.mg_of X G a0, k0, b0, G0⟩
  have G1 := ok_is_name (ad := (⟨cSchoolError, cBadNames, cDoubled, cBadLessons, cBadLesson, cBadSchool, cBadPersons, cSchool⟩ : Ad)) (P := l.prog) (w := w) (base := base) F1 T 
  have b1 := F1.binds (ps := ["value"]) fun _ _ _ _ _ _ us hl => match us, hl with | [_], _ => rfl
  have His_name : Has l.prog w K mg base "is_name" 1 (fIsName) := ⟨_, _, _, PySem.W.mg_of X G a1, k1, b1, G1⟩
  have G2 := ok_law_take (ad := (⟨cSchoolError, cBadNames, cDoubled, cBadLessons, cBadLesson, cBadSchool, cBadPersons, cSchool⟩ : Ad)) (P := l.prog) (w := w) (base := base) F2 T 
  have b2 := F2.binds (ps := ["box", "many"]) fun _ _ _ _ _ _ us hl => match us, hl with | [_, _], _ => rfl
  have H_law_take : Has l.prog w K mg base "_law_take" 1 (fTake) := ⟨_, _, _, PySem.W.mg_of X G a2, k2, b2, G2⟩
  have G3 := ok_law_names (ad := (⟨cSchoolError, cBadNames, cDoubled, cBadLessons, cBadLesson, cBadSchool, cBadPersons, cSchool⟩ : Ad)) (P := l.prog) (w := w) (base := base) F3 T H_law_take
  have b3 := F3.binds (ps := ["box", "many"]) fun _ _ _ _ _ _ us hl => match us, hl with | [_, _], _ => rfl
  have H_law_names : Has l.prog w K mg base "_law_names" 2 (fNames) := ⟨_, _, _, PySem.W.mg_of X G a3, k3, b3, G3⟩
  have G4 := ok_law_people (ad := (⟨cSchoolError, cBadNames, cDoubled, cBadLessons, cBadLesson, cBadSchool, cBadPersons, cSchool⟩ : Ad)) (P := l.prog) (w := w) (base := base) F4 T H_law_names H_law_take
  have b4 := F4.binds (ps := ["box"]) fun _ _ _ _ _ _ us hl => match us, hl with | [_], _ => rfl
  have H_law_people : Has l.prog w K mg base "_law_people" 3 (fPeople) := ⟨_, _, _, PySem.W.mg_of X G a4, k4, b4, G4⟩
  have G5 := ok_is_list (ad := (⟨cSchoolError, cBadNames, cDoubled, cBadLessons, cBadLesson, cBadSchool, cBadPersons, cSchool⟩ : Ad)) (P := l.prog) (w := w) (base := base) F5 T 
  have b5 := F5.binds (ps := ["value", "least", "most"]) fun _ _ _ _ _ _ us hl => match us, hl with | [_, _, _], _ => rfl
  have His_list : Has l.prog w K mg base "is_list" 1 (fIsList) := ⟨_, _, _, PySem.W.mg_of X G a5, k5, b5, G5⟩
  have G6 := ok_need_names (ad := (⟨cSchoolError, cBadNames, cDoubled, cBadLessons, cBadLesson, cBadSchool, cBadPersons, cSchool⟩ : Ad)) (P := l.prog) (w := w) (base := base) F6 T HE_BadNames His_list HE_Doubled His_name
  have b6 := F6.binds (ps := ["names", "seen"]) fun _ _ _ _ _ _ us hl => match us, hl with | [_, _], _ => rfl
  have Hneed_names : Has l.prog w K mg base "need_names" 3 (fNeedNames (⟨cSchoolError, cBadNames, cDoubled, cBadLessons, cBadLesson, cBadSchool, cBadPersons, cSchool⟩ : Ad)) := ⟨_, _, _, PySem.W.mg_of X G a6, k6, b6, G6⟩
  have G7 := ok_School_is_lesson (ad := (⟨cSchoolError, cBadNames, cDoubled, cBadLessons, cBadLesson, cBadSchool, cBadPersons, cSchool⟩ : Ad)) (P := l.prog) (w := w) (base := base) F7 T His_name
  have b7 := F7.binds (ps := ["self", "value"]) fun _ _ _ _ _ _ us hl => match us, hl with | [_, _], _ => rfl
  have HM_School_is_lesson : HasM l.prog w K mg base cSchool "is_lesson" 2 (fIsLesson (⟨cSchoolError, cBadNames, cDoubled, cBadLessons, cBadLesson, cBadSchool, cBadPersons, cSchool⟩ : Ad)) := ⟨_, _, _, ⟨a7, i7, k7⟩, b7, G7⟩
  have G8 := ok_School___init__ (ad := (⟨cSchoolError, cBadNames, cDoubled, cBadLessons, cBadLesson, cBadSchool, cBadPersons, cSchool⟩ : Ad)) (P := l.prog) (w := w) (base := base) F8 T Hneed_names HE_BadLessons His_list HE_BadLesson HM_School_is_lesson
  have b8 := F8.binds (ps := ["self", "teachers", "classes", "lessons"]) fun _ _ _ _ _ _ us hl => match us, hl with | [_, _, _, _], _ => rfl
  have HC_School : HasC l.prog w K mg base "School" cSchool 4 (fSchoolInit (⟨cSchoolError, cBadNames, cDoubled, cBadLessons, cBadLesson, cBadSchool, cBadPersons, cSchool⟩ : Ad)) := ⟨_, _, _, PySem.W.mg_of X G a_School, ⟨mk_School, a8, i8, kp_School⟩, b8, G8⟩
  have G9 := ok_School___len__ (ad := (⟨cSchoolError, cBadNames, cDoubled, cBadLessons, cBadLesson, cBadSchool, cBadPersons, cSchool⟩ : Ad)) (P := l.prog) (w := w) (base := base) F9 T 
  have b9 := F9.binds (ps := ["self"]) fun _ _ _ _ _ _ us hl => match us, hl with | [_], _ => rfl
  have HM_School___len__ : HasM l.prog w K mg base cSchool "__len__" 1 (fSchLen (⟨cSchoolError, cBadNames, cDoubled, cBadLessons, cBadLesson, cBadSchool, cBadPersons, cSchool⟩ : Ad)) := ⟨_, _, _, ⟨a9, i9, k9⟩, b9, G9⟩
  have G10 := ok_law_lessons (ad := (⟨cSchoolError, cBadNames, cDoubled, cBadLessons, cBadLesson, cBadSchool, cBadPersons, cSchool⟩ : Ad)) (P := l.prog) (w := w) (base := base) F10 T H_law_take
  have b10 := F10.binds (ps := ["box", "teachers", "classes", "most"]) fun _ _ _ _ _ _ us hl => match us, hl with | [_, _, _, _], _ => rfl
  have H_law_lessons : Has l.prog w K mg base "_law_lessons" 2 (fLessons) := ⟨_, _, _, PySem.W.mg_of X G a10, k10, b10, G10⟩
  have G11 := ok_need_school (ad := (⟨cSchoolError, cBadNames, cDoubled, cBadLessons, cBadLesson, cBadSchool, cBadPersons, cSchool⟩ : Ad)) (P := l.prog) (w := w) (base := base) F11 T HE_BadSchool
  have b11 := F11.binds (ps := ["school"]) fun _ _ _ _ _ _ us hl => match us, hl with | [_], _ => rfl
  have Hneed_school : Has l.prog w K mg base "need_school" 3 (fNeedSchool (⟨cSchoolError, cBadNames, cDoubled, cBadLessons, cBadLesson, cBadSchool, cBadPersons, cSchool⟩ : Ad)) := ⟨_, _, _, PySem.W.mg_of X G a11, k11, b11, G11⟩
  have G12 := ok_School_teachers (ad := (⟨cSchoolError, cBadNames, cDoubled, cBadLessons, cBadLesson, cBadSchool, cBadPersons, cSchool⟩ : Ad)) (P := l.prog) (w := w) (base := base) F12 T 
  have b12 := F12.binds (ps := ["self"]) fun _ _ _ _ _ _ us hl => match us, hl with | [_], _ => rfl
  have HM_School_teachers : HasM l.prog w K mg base cSchool "teachers" 1 (fSchTeachers (⟨cSchoolError, cBadNames, cDoubled, cBadLessons, cBadLesson, cBadSchool, cBadPersons, cSchool⟩ : Ad)) := ⟨_, _, _, ⟨a12, i12, k12⟩, b12, G12⟩
  have G13 := ok_School_lessons (ad := (⟨cSchoolError, cBadNames, cDoubled, cBadLessons, cBadLesson, cBadSchool, cBadPersons, cSchool⟩ : Ad)) (P := l.prog) (w := w) (base := base) F13 T 
  have b13 := F13.binds (ps := ["self"]) fun _ _ _ _ _ _ us hl => match us, hl with | [_], _ => rfl
  have HM_School_lessons : HasM l.prog w K mg base cSchool "lessons" 1 (fSchLessons (⟨cSchoolError, cBadNames, cDoubled, cBadLessons, cBadLesson, cBadSchool, cBadPersons, cSchool⟩ : Ad)) := ⟨_, _, _, ⟨a13, i13, k13⟩, b13, G13⟩
  have G14 := ok_School_persons (ad := (⟨cSchoolError, cBadNames, cDoubled, cBadLessons, cBadLesson, cBadSchool, cBadPersons, cSchool⟩ : Ad)) (P := l.prog) (w := w) (base := base) F14 T 
  have b14 := F14.binds (ps := ["self"]) fun _ _ _ _ _ _ us hl => match us, hl with | [_], _ => rfl
  have HM_School_persons : HasM l.prog w K mg base cSchool "persons" 1 (fSchPersons (⟨cSchoolError, cBadNames, cDoubled, cBadLessons, cBadLesson, cBadSchool, cBadPersons, cSchool⟩ : Ad)) := ⟨_, _, _, ⟨a14, i14, k14⟩, b14, G14⟩
  have G15 := ok_partners (ad := (⟨cSchoolError, cBadNames, cDoubled, cBadLessons, cBadLesson, cBadSchool, cBadPersons, cSchool⟩ : Ad)) (P := l.prog) (w := w) (base := base) F15 T HM_School_lessons HM_School_persons
  have b15 := F15.binds (ps := ["school", "person"]) fun _ _ _ _ _ _ us hl => match us, hl with | [_, _], _ => rfl
  have Hpartners : Has l.prog w K mg base "partners" 2 (F_partners (⟨cSchoolError, cBadNames, cDoubled, cBadLessons, cBadLesson, cBadSchool, cBadPersons, cSchool⟩ : Ad)) := ⟨_, _, _, PySem.W.mg_of X G a15, k15, b15, G15⟩
  have b16 := F16.binds (ps := ["school", "taken", "person", "known"]) fun _ _ _ _ _ _ us hl => match us, hl with | [_, _, _, _], _ => rfl
  have G16 := ok_led (ad := (⟨cSchoolError, cBadNames, cDoubled, cBadLessons, cBadLesson, cBadSchool, cBadPersons, cSchool⟩ : Ad)) (P := l.prog) (w := w) (base := base) F16 T Hpartners (fun {j_ F_} G_ => ⟨_, _, _, PySem.W.mg_of X G a16, k16, b16, G_⟩)
  have b16 := F16.binds (ps := ["school", "taken", "person", "known"]) fun _ _ _ _ _ _ us hl => match us, hl with | [_, _, _, _], _ => rfl
  have Hled : Has l.prog w K mg base "led" 12 (F_led (⟨cSchoolError, cBadNames, cDoubled, cBadLessons, cBadLesson, cBadSchool, cBadPersons, cSchool⟩ : Ad) 9) := ⟨_, _, _, PySem.W.mg_of X G a16, k16, b16, G16⟩
  have G17 := ok_lesson_of (ad := (⟨cSchoolError, cBadNames, cDoubled, cBadLessons, cBadLesson, cBadSchool, cBadPersons, cSchool⟩ : Ad)) (P := l.prog) (w := w) (base := base) F17 T HM_School_lessons
  have b17 := F17.binds (ps := ["school", "one", "other"]) fun _ _ _ _ _ _ us hl => match us, hl with | [_, _, _], _ => rfl
  have Hlesson_of : Has l.prog w K mg base "lesson_of" 2 (F_lesson_of (⟨cSchoolError, cBadNames, cDoubled, cBadLessons, cBadLesson, cBadSchool, cBadPersons, cSchool⟩ : Ad)) := ⟨_, _, _, PySem.W.mg_of X G a17, k17, b17, G17⟩
  have G18 := ok_School_classes (ad := (⟨cSchoolError, cBadNames, cDoubled, cBadLessons, cBadLesson, cBadSchool, cBadPersons, cSchool⟩ : Ad)) (P := l.prog) (w := w) (base := base) F18 T 
  have b18 := F18.binds (ps := ["self"]) fun _ _ _ _ _ _ us hl => match us, hl with | [_], _ => rfl
  have HM_School_classes : HasM l.prog w K mg base cSchool "classes" 1 (fSchClasses (⟨cSchoolError, cBadNames, cDoubled, cBadLessons, cBadLesson, cBadSchool, cBadPersons, cSchool⟩ : Ad)) := ⟨_, _, _, ⟨a18, i18, k18⟩, b18, G18⟩
  have G19 := ok_most_at_once (ad := (⟨cSchoolError, cBadNames, cDoubled, cBadLessons, cBadLesson, cBadSchool, cBadPersons, cSchool⟩ : Ad)) (P := l.prog) (w := w) (base := base) F19 T Hneed_school HM_School_teachers Hled Hlesson_of HM_School_classes Hpartners
  have b19 := F19.binds (ps := ["school"]) fun _ _ _ _ _ _ us hl => match us, hl with | [_], _ => rfl
  have Hmost_at_once : Has l.prog w K mg base "most_at_once" 13 (F_most_at_once (⟨cSchoolError, cBadNames, cDoubled, cBadLessons, cBadLesson, cBadSchool, cBadPersons, cSchool⟩ : Ad)) := ⟨_, _, _, PySem.W.mg_of X G a19, k19, b19, G19⟩
  have G20 := ok_law_cell (ad := (⟨cSchoolError, cBadNames, cDoubled, cBadLessons, cBadLesson, cBadSchool, cBadPersons, cSchool⟩ : Ad)) (P := l.prog) (w := w) (base := base) F20 T 
  have b20 := F20.binds (ps := ["script", "k"]) fun _ _ _ _ _ _ us hl => match us, hl with | [_, _], _ => rfl
  have H_law_cell : Has l.prog w K mg base "_law_cell" 1 (fCell) := ⟨_, _, _, PySem.W.mg_of X G a20, k20, b20, G20⟩
  have G21 := ok_need_persons (ad := (⟨cSchoolError, cBadNames, cDoubled, cBadLessons, cBadLesson, cBadSchool, cBadPersons, cSchool⟩ : Ad)) (P := l.prog) (w := w) (base := base) F21 T His_list HM_School_persons
  have b21 := F21.binds (ps := ["school", "persons"]) fun _ _ _ _ _ _ us hl => match us, hl with | [_, _], _ => rfl
  have Hneed_persons : Has l.prog w K mg base "need_persons" 2 (F_need_persons (⟨cSchoolError, cBadNames, cDoubled, cBadLessons, cBadLesson, cBadSchool, cBadPersons, cSchool⟩ : Ad)) := ⟨_, _, _, PySem.W.mg_of X G a21, k21, b21, G21⟩
  have G22 := ok_paired (ad := (⟨cSchoolError, cBadNames, cDoubled, cBadLessons, cBadLesson, cBadSchool, cBadPersons, cSchool⟩ : Ad)) (P := l.prog) (w := w) (base := base) F22 T Hled
  have b22 := F22.binds (ps := ["school", "persons"]) fun _ _ _ _ _ _ us hl => match us, hl with | [_, _], _ => rfl
  have Hpaired : Has l.prog w K mg base "paired" 13 (F_paired (⟨cSchoolError, cBadNames, cDoubled, cBadLessons, cBadLesson, cBadSchool, cBadPersons, cSchool⟩ : Ad)) := ⟨_, _, _, PySem.W.mg_of X G a22, k22, b22, G22⟩
  have G23 := ok_both_sides (ad := (⟨cSchoolError, cBadNames, cDoubled, cBadLessons, cBadLesson, cBadSchool, cBadPersons, cSchool⟩ : Ad)) (P := l.prog) (w := w) (base := base) F23 T 
  have b23 := F23.binds (ps := ["ours", "theirs"]) fun _ _ _ _ _ _ us hl => match us, hl with | [_, _], _ => rfl
  have Hboth_sides : Has l.prog w K mg base "both_sides" 1 (F_both_sides (⟨cSchoolError, cBadNames, cDoubled, cBadLessons, cBadLesson, cBadSchool, cBadPersons, cSchool⟩ : Ad)) := ⟨_, _, _, PySem.W.mg_of X G a23, k23, b23, G23⟩
  have G24 := ok_side (ad := (⟨cSchoolError, cBadNames, cDoubled, cBadLessons, cBadLesson, cBadSchool, cBadPersons, cSchool⟩ : Ad)) (P := l.prog) (w := w) (base := base) F24 T 
  have b24 := F24.binds (ps := ["school", "persons", "names"]) fun _ _ _ _ _ _ us hl => match us, hl with | [_, _, _], _ => rfl
  have Hside : Has l.prog w K mg base "side" 1 (F_side (⟨cSchoolError, cBadNames, cDoubled, cBadLessons, cBadLesson, cBadSchool, cBadPersons, cSchool⟩ : Ad)) := ⟨_, _, _, PySem.W.mg_of X G a24, k24, b24, G24⟩
  have G25 := ok_serve (ad := (⟨cSchoolError, cBadNames, cDoubled, cBadLessons, cBadLesson, cBadSchool, cBadPersons, cSchool⟩ : Ad)) (P := l.prog) (w := w) (base := base) F25 T Hneed_school Hneed_persons Hpaired HM_School_teachers Hside HM_School_classes Hboth_sides Hlesson_of
  have b25 := F25.binds (ps := ["school", "persons"]) fun _ _ _ _ _ _ us hl => match us, hl with | [_, _], _ => rfl
  have Hserve : Has l.prog w K mg base "serve" 14 (F_serve (⟨cSchoolError, cBadNames, cDoubled, cBadLessons, cBadLesson, cBadSchool, cBadPersons, cSchool⟩ : Ad)) := ⟨_, _, _, PySem.W.mg_of X G a25, k25, b25, G25⟩
  have G26 := ok_law_without (ad := (⟨cSchoolError, cBadNames, cDoubled, cBadLessons, cBadLesson, cBadSchool, cBadPersons, cSchool⟩ : Ad)) (P := l.prog) (w := w) (base := base) F26 T Hmost_at_once HC_School
  have b26 := F26.binds (ps := ["teachers", "classes", "lessons", "person"]) fun _ _ _ _ _ _ us hl => match us, hl with | [_, _, _, _], _ => rfl
  have H_law_without : Has l.prog w K mg base "_law_without" 14 (F_law_without (⟨cSchoolError, cBadNames, cDoubled, cBadLessons, cBadLesson, cBadSchool, cBadPersons, cSchool⟩ : Ad)) := ⟨_, _, _, PySem.W.mg_of X G a26, k26, b26, G26⟩
  exact ok_law (ad := (⟨cSchoolError, cBadNames, cDoubled, cBadLessons, cBadLesson, cBadSchool, cBadPersons, cSchool⟩ : Ad)) F27 T H_law_box H_law_cell H_law_people H_law_lessons HC_School Hmost_at_once Hserve H_law_without
end EW
open PySem PySem.W PyProof.Rows
set_option maxHeartbeats 0 in
theorem PySem.Challenge.cw_evenweek_k53_whole_covers_are_served_holds : PySem.Challenge.rw_evenweek_k53_whole_covers_are_served.Holds := by
  w_on; o_law; k_head; (case hw => w_witness2)
  k_fill
  refine EW.law_end (l := PySem.Challenge.rw_evenweek_k53_whole_covers_are_served) (k := 15) (x := "script") rfl rfl ⟨rfl, by decide, by decide⟩ (fun w h Y => PySem.W.kIn_of Y) ?F
  case F =>
    intro w mg fa h KX G hmg
    refine' EW.all_mk KX G hmg ?a_SchoolError ?a_BadNames ?a_Doubled ?a_BadLessons ?a_BadLesson ?a_BadSchool ?a_BadPersons ?a_School ?lo_BadNames ?bm_BadNames ?sa_BadNames ?ex_BadNames ?ty_BadNames ?ke_BadNames ?in_BadNames ?ti_BadNames ?ga_BadNames ?gg_BadNames ?nf_BadNames ?hd_BadNames ?l_BadNames ?c_BadNames ?k_BadNames ?lo_Doubled ?bm_Doubled ?sa_Doubled ?ex_Doubled ?ty_Doubled ?ke_Doubled ?in_Doubled ?ti_Doubled ?ga_Doubled ?gg_Doubled ?nf_Doubled ?hd_Doubled ?l_Doubled ?c_Doubled ?k_Doubled ?lo_BadLessons ?bm_BadLessons ?sa_BadLessons ?ex_BadLessons ?ty_BadLessons ?ke_BadLessons ?in_BadLessons ?ti_BadLessons ?ga_BadLessons ?gg_BadLessons ?nf_BadLessons ?hd_BadLessons ?l_BadLessons ?c_BadLessons ?k_BadLessons ?lo_BadLesson ?bm_BadLesson ?sa_BadLesson ?ex_BadLesson ?ty_BadLesson ?ke_BadLesson ?in_BadLesson ?ti_BadLesson ?ga_BadLesson ?gg_BadLesson ?nf_BadLesson ?hd_BadLesson ?l_BadLesson ?c_BadLesson ?k_BadLesson ?lo_BadSchool ?bm_BadSchool ?sa_BadSchool ?ex_BadSchool ?ty_BadSchool ?ke_BadSchool ?in_BadSchool ?ti_BadSchool ?ga_BadSchool ?gg_BadSchool ?nf_BadSchool ?hd_BadSchool ?l_BadSchool ?c_BadSchool ?k_BadSchool ?lo_BadPersons ?bm_BadPersons ?sa_BadPersons ?ex_BadPersons ?ty_BadPersons ?ke_BadPersons ?in_BadPersons ?ti_BadPersons ?ga_BadPersons ?gg_BadPersons ?nf_BadPersons ?hd_BadPersons ?l_BadPersons ?c_BadPersons ?k_BadPersons ?rd_SchoolError ?hv_SchoolError ?hg_SchoolError ?cn ?ctk ?pg_School ?hd_School ?po_School ?sa_School ?mk_School ?kp_School ?ic_School ?ty_School ?ha_School ?hm_School ?nf_School_school_teachers ?nf_School_school_classes ?nf_School_school_lessons ?ne_School ?a0 ?l0 ?c0 ?k0 ?a1 ?l1 ?c1 ?k1 ?a2 ?l2 ?c2 ?k2 ?a3 ?l3 ?c3 ?k3 ?a4 ?l4 ?c4 ?k4 ?a5 ?l5 ?c5 ?k5 ?a6 ?l6 ?c6 ?k6 ?a7 ?i7 ?l7 ?c7 ?k7 ?a8 ?i8 ?l8 ?c8 ?k8 ?a9 ?i9 ?l9 ?c9 ?k9 ?a10 ?l10 ?c10 ?k10 ?a11 ?l11 ?c11 ?k11 ?a12 ?i12 ?l12 ?c12 ?k12 ?a13 ?i13 ?l13 ?c13 ?k13 ?a14 ?i14 ?l14 ?c14 ?k14 ?a15 ?l15 ?c15 ?k15 ?a16 ?l16 ?c16 ?k16 ?a17 ?l17 ?c17 ?k17 ?a18 ?i18 ?l18 ?c18 ?k18 ?a19 ?l19 ?c19 ?k19 ?a20 ?l20 ?c20 ?k20 ?a21 ?l21 ?c21 ?k21 ?a22 ?l22 ?c22 ?k22 ?a23 ?l23 ?c23 ?k23 ?a24 ?l24 ?c24 ?k24 ?a25 ?l25 ?c25 ?k25 ?a26 ?l26 ?c26 ?k26 ?a27 ?l27 ?c27 ?k27 ?z_isinstance ?z_str ?z_len ?z_max ?z_min ?z_all ?z_any ?z_sum ?z_sorted ?z_range ?z_list ?z_tuple ?z_dict ?z_enumerate ?z_ValueError ?z_LETTERS ?z_LONGEST_NAME ?z_MOST_NAMES ?z_MOST_LESSONS
    (case a_SchoolError => k_is)
    (case a_BadNames => k_is)
    (case a_Doubled => k_is)
    (case a_BadLessons => k_is)
    (case a_BadLesson => k_is)
    (case a_BadSchool => k_is)
    (case a_BadPersons => k_is)
    (case a_School => k_is)
    (case lo_BadNames => k_is)
    (case bm_BadNames => rfl)
    (case sa_BadNames => k_is)
    (case ex_BadNames => k_is)
    (case ty_BadNames => k_is)
    (case ke_BadNames => k_is)
    (case in_BadNames => k_is)
    (case ti_BadNames => k_is)
    (case ga_BadNames => k_is)
    (case gg_BadNames => k_is)
    (case nf_BadNames => k_is)
    (case hd_BadNames => k_is)
    (case l_BadNames => k_is)
    (case c_BadNames => k_is)
    (case k_BadNames => k_is)
    (case lo_Doubled => k_is)
    (case bm_Doubled => rfl)
    (case sa_Doubled => k_is)
    (case ex_Doubled => k_is)
    (case ty_Doubled => k_is)
    (case ke_Doubled => k_is)
    (case in_Doubled => k_is)
    (case ti_Doubled => k_is)
    (case ga_Doubled => k_is)
    (case gg_Doubled => k_is)
    (case nf_Doubled => k_is)
    (case hd_Doubled => k_is)
    (case l_Doubled => k_is)
    (case c_Doubled => k_is)
    (case k_Doubled => k_is)
    (case lo_BadLessons => k_is)
    (case bm_BadLessons => rfl)
    (case sa_BadLessons => k_is)
    (case ex_BadLessons => k_is)
    (case ty_BadLessons => k_is)
    (case ke_BadLessons => k_is)
    (case in_BadLessons => k_is)
    (case ti_BadLessons => k_is)
    (case ga_BadLessons => k_is)
    (case gg_BadLessons => k_is)
    (case nf_BadLessons => k_is)
    (case hd_BadLessons => k_is)
    (case l_BadLessons => k_is)
    (case c_BadLessons => k_is)
    (case k_BadLessons => k_is)
    (case lo_BadLesson => k_is)
    (case bm_BadLesson => rfl)
    (case sa_BadLesson => k_is)
    (case ex_BadLesson => k_is)
    (case ty_BadLesson => k_is)
    (case ke_BadLesson => k_is)
    (case in_BadLesson => k_is)
    (case ti_BadLesson => k_is)
    (case ga_BadLesson => k_is)
    (case gg_BadLesson => k_is)
    (case nf_BadLesson => k_is)
    (case hd_BadLesson => k_is)
    (case l_BadLesson => k_is)
    (case c_BadLesson => k_is)
    (case k_BadLesson => k_is)
    (case lo_BadSchool => k_is)
    (case bm_BadSchool => rfl)
    (case sa_BadSchool => k_is)
    (case ex_BadSchool => k_is)
    (case ty_BadSchool => k_is)
    (case ke_BadSchool => k_is)
    (case in_BadSchool => k_is)
    (case ti_BadSchool => k_is)
    (case ga_BadSchool => k_is)
    (case gg_BadSchool => k_is)
    (case nf_BadSchool => k_is)
    (case hd_BadSchool => k_is)
    (case l_BadSchool => k_is)
    (case c_BadSchool => k_is)
    (case k_BadSchool => k_is)
    (case lo_BadPersons => k_is)
    (case bm_BadPersons => rfl)
    (case sa_BadPersons => k_is)
    (case ex_BadPersons => k_is)
    (case ty_BadPersons => k_is)
    (case ke_BadPersons => k_is)
    (case in_BadPersons => k_is)
    (case ti_BadPersons => k_is)
    (case ga_BadPersons => k_is)
    (case gg_BadPersons => k_is)
    (case nf_BadPersons => k_is)
    (case hd_BadPersons => k_is)
    (case l_BadPersons => k_is)
    (case c_BadPersons => k_is)
    (case k_BadPersons => k_is)
    (case rd_SchoolError => k_is)
    (case hv_SchoolError => k_is)
    (case hg_SchoolError => k_is)
    (case cn => k_is)
    (case ctk => k_is)
    (case pg_School => k_is)
    (case hd_School => k_is)
    (case po_School => k_is)
    (case sa_School => k_is)
    (case mk_School => k_is)
    (case kp_School => k_is)
    (case ic_School => k_is)
    (case ty_School => k_is)
    (case ha_School => k_is)
    (case hm_School => k_is)
    (case nf_School_school_teachers => k_is)
    (case nf_School_school_classes => k_is)
    (case nf_School_school_lessons => k_is)
    (case ne_School => k_is)
    (case a0 => k_is)
    (case l0 => k_is)
    (case c0 => k_is)
    (case k0 => k_is)
    (case a1 => k_is)
    (case l1 => k_is)
    (case c1 => k_is)
    (case k1 => k_is)
    (case a2 => k_is)
    (case l2 => k_is)
    (case c2 => k_is)
    (case k2 => k_is)
    (case a3 => k_is)
    (case l3 => k_is)
    (case c3 => k_is)
    (case k3 => k_is)
    (case a4 => k_is)
    (case l4 => k_is)
    (case c4 => k_is)
    (case k4 => k_is)
    (case a5 => k_is)
    (case l5 => k_is)
    (case c5 => k_is)
    (case k5 => k_is)
    (case a6 => k_is)
    (case l6 => k_is)
    (case c6 => k_is)
    (case k6 => k_is)
    (case a7 => k_is)
    (case i7 => k_is)
    (case l7 => k_is)
    (case c7 => k_is)
    (case k7 => k_is)
    (case a8 => k_is)
    (case i8 => k_is)
    (case l8 => k_is)
    (case c8 => k_is)
    (case k8 => k_is)
    (case a9 => k_is)
    (case i9 => k_is)
    (case l9 => k_is)
    (case c9 => k_is)
    (case k9 => k_is)
    (case a10 => k_is)
    (case l10 => k_is)
    (case c10 => k_is)
    (case k10 => k_is)
    (case a11 => k_is)
    (case l11 => k_is)
    (case c11 => k_is)
    (case k11 => k_is)
    (case a12 => k_is)
    (case i12 => k_is)
    (case l12 => k_is)
    (case c12 => k_is)
    (case k12 => k_is)
    (case a13 => k_is)
    (case i13 => k_is)
    (case l13 => k_is)
    (case c13 => k_is)
    (case k13 => k_is)
    (case a14 => k_is)
    (case i14 => k_is)
    (case l14 => k_is)
    (case c14 => k_is)
    (case k14 => k_is)
    (case a15 => k_is)
    (case l15 => k_is)
    (case c15 => k_is)
    (case k15 => k_is)
    (case a16 => k_is)
    (case l16 => k_is)
    (case c16 => k_is)
    (case k16 => k_is)
    (case a17 => k_is)
    (case l17 => k_is)
    (case c17 => k_is)
    (case k17 => k_is)
    (case a18 => k_is)
    (case i18 => k_is)
    (case l18 => k_is)
    (case c18 => k_is)
    (case k18 => k_is)
    (case a19 => k_is)
    (case l19 => k_is)
    (case c19 => k_is)
    (case k19 => k_is)
    (case a20 => k_is)
    (case l20 => k_is)
    (case c20 => k_is)
    (case k20 => k_is)
    (case a21 => k_is)
    (case l21 => k_is)
    (case c21 => k_is)
    (case k21 => k_is)
    (case a22 => k_is)
    (case l22 => k_is)
    (case c22 => k_is)
    (case k22 => k_is)
    (case a23 => k_is)
    (case l23 => k_is)
    (case c23 => k_is)
    (case k23 => k_is)
    (case a24 => k_is)
    (case l24 => k_is)
    (case c24 => k_is)
    (case k24 => k_is)
    (case a25 => k_is)
    (case l25 => k_is)
    (case c25 => k_is)
    (case k25 => k_is)
    (case a26 => k_is)
    (case l26 => k_is)
    (case c26 => k_is)
    (case k26 => k_is)
    (case a27 => k_is)
    (case l27 => k_is)
    (case c27 => k_is)
    (case k27 => k_is)
    (case z_isinstance => k_is)
    (case z_str => k_is)
    (case z_len => k_is)
    (case z_max => k_is)
    (case z_min => k_is)
    (case z_all => k_is)
    (case z_any => k_is)
    (case z_sum => k_is)
    (case z_sorted => k_is)
    (case z_range => k_is)
    (case z_list => k_is)
    (case z_tuple => k_is)
    (case z_dict => k_is)
    (case z_enumerate => k_is)
    (case z_ValueError => k_is)
    (case z_LETTERS => k_is)
    (case z_LONGEST_NAME => k_is)
    (case z_MOST_NAMES => k_is)
    (case z_MOST_LESSONS => k_is)
