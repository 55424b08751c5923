import PyProof.Rows.All
import Wide.All
import OpenK.AllK
import Wide.FinOn
import HandS.ForMost
import HandS.IsInst
import HandS.Walk
import HandS.Zip
import HandS.WordsExc
import HandS.Ends
import HandS.Style
import HandS.SetFor
import PySem.Challenge.RW_evenweek_k01_integers_and_names
set_option Elab.async false
set_option linter.all false
set_option maxRecDepth 100000
set_option maxHeartbeats 4000000
/-! A program logic over plain data: values as trees of data, changing objects as cells. -/
namespace EW
open PySem PySem.Spec PyProof.Rows L2

inductive D where
  | non | bl (b : Bool) | int (i : Int) | str (s : Str)
  | lst (xs : List D) | tup (xs : List D)
  | dct (ks : List Key) (ds : List D)
  | obj (C : Addr) (ns : List Str) (ds : List D)
  | ref (a : Addr) | ty (n : String)
  | scr (xs : List D)

def Ex (P P' : Hp) : Prop := ∀ a o, P a = some o → P' a = some o
def Le (P H : Hp) : Prop := ∀ a o, P a = some o → H a = some o ∨ ∃ kvs ob, o = .dK kvs ∧ H a = some (.frz ob (.dK kvs))

theorem Ex.rfl' (P : Hp) : Ex P P := fun _ _ h => h
theorem Ex.tr {P Q R : Hp} (a : Ex P Q) (b : Ex Q R) : Ex P R := fun x o h => b x o (a x o h)
theorem Ex.fresh {P : Hp} {p : Addr} {o : HO} (h : P p = none) : Ex P (upd P p o) := fun a u e => by
  rw [upd_ne (ne_of_none e h)]; exact e
theorem Ex.le {P Q : Hp} (a : Ex P Q) : Le P Q := fun x o h => .inl (a x o h)
theorem Ex.back {P Q : Hp} {p : Addr} (e : Ex P Q) (h : Q p = none) : P p = none := by
  cases h1 : P p with
  | none => rfl
  | some o => rw [e p o h1] at h; cases h

mutual
inductive Rep (K : PySem.W.Frag) (P : Hp) : V → D → Prop
  | non : Rep K P .non .non
  | bl (b : Bool) : Rep K P (.bl b) (.bl b)
  | int (i : Int) : Rep K P (.int i) (.int i)
  | str (x : Str) : Rep K P (.str x) (.str x)
  | lst {a : Addr} {vs : List V} {ds : List D} : P a = some (.lst vs) → Reps K P vs ds → Rep K P (.ref a) (.lst ds)
  | scr {a : Addr} {vs : List V} {ds : List D} : SqL K P a vs → Reps K P vs ds → Rep K P (.ref a) (.scr ds)
  | tup {a : Addr} {vs : List V} {ds : List D} : P a = some (.tup vs) → Reps K P vs ds → Rep K P (.ref a) (.tup ds)
  | dct {a : Addr} {ks : List Key} {vs : List V} {ds : List D} : P a = some (.dK (ks.zip vs)) → ks.length = vs.length → Reps K P vs ds → Rep K P (.ref a) (.dct ks ds)
  | obj {a C dx : Addr} {ns : List Str} {vs : List V} {ds : List D} : P a = some (.ins C dx (ns.zip vs)) → ns.length = vs.length → Reps K P vs ds → Rep K P (.ref a) (.obj C ns ds)
  | ref (a : Addr) : Rep K P (.ref a) (.ref a)
  | ty (n : String) : Rep K P (.ty n) (.ty n)
inductive Reps (K : PySem.W.Frag) (P : Hp) : List V → List D → Prop
  | nil : Reps K P [] []
  | cons {v : V} {vs : List V} {d : D} {ds : List D} : Rep K P v d → Reps K P vs ds → Reps K P (v :: vs) (d :: ds)
end

theorem rd_ex {P P' : Hp} {a : Addr} {u : HO} (e : Ex P P') (h : Rd P a u) : Rd P' a u := by
  rcases h with h | ⟨o, h⟩
  · exact .inl (e _ _ h)
  · exact .inr ⟨o, e _ _ h⟩
theorem sqL_ex {K : PySem.W.Frag} {P P' : Hp} {a : Addr} {xs : List V} (e : Ex P P') (h : SqL K P a xs) : SqL K P' a xs := by
  rcases h with h | h
  · exact .inl (rd_ex e h)
  · exact .inr h
theorem sqT_ex {K : PySem.W.Frag} {P P' : Hp} {a : Addr} {xs : List V} (e : Ex P P') (h : SqT K P a xs) : SqT K P' a xs := by
  rcases h with h | h
  · exact .inl (rd_ex e h)
  · exact .inr h
theorem le_lst {P H : Hp} {a : Addr} {xs : List V} (l : Le P H) (h : P a = some (.lst xs)) : H a = some (.lst xs) := by
  rcases l _ _ h with h | ⟨_, _, z, _⟩
  · exact h
  · cases z
theorem le_tup {P H : Hp} {a : Addr} {xs : List V} (l : Le P H) (h : P a = some (.tup xs)) : H a = some (.tup xs) := by
  rcases l _ _ h with h | ⟨_, _, z, _⟩
  · exact h
  · cases z
theorem le_ins {P H : Hp} {a C dx : Addr} {fs : List (Str × V)} (l : Le P H) (h : P a = some (.ins C dx fs)) : H a = some (.ins C dx fs) := by
  rcases l _ _ h with h | ⟨_, _, z, _⟩
  · exact h
  · cases z
theorem le_frz {P H : Hp} {a : Addr} {o : Obj} {u : HO} (l : Le P H) (h : P a = some (.frz o u)) : H a = some (.frz o u) := by
  rcases l _ _ h with h | ⟨_, _, z, _⟩
  · exact h
  · cases z
theorem le_sqL {K : PySem.W.Frag} {P H : Hp} {a : Addr} {xs : List V} (l : Le P H) (h : SqL K P a xs) : SqL K H a xs := by
  rcases h with (h | ⟨o, h⟩) | h
  · exact .inl (.inl (le_lst l h))
  · exact .inl (.inr ⟨o, le_frz l h⟩)
  · exact .inr h
theorem le_sqT {K : PySem.W.Frag} {P H : Hp} {a : Addr} {xs : List V} (l : Le P H) (h : SqT K P a xs) : SqT K H a xs := by
  rcases h with (h | ⟨o, h⟩) | h
  · exact .inl (.inl (le_tup l h))
  · exact .inl (.inr ⟨o, le_frz l h⟩)
  · exact .inr h
theorem le_dK {P H : Hp} {a : Addr} {kvs : List (Key × V)} (l : Le P H) (h : P a = some (.dK kvs)) : Rd H a (.dK kvs) := by
  rcases l _ _ h with h | ⟨k, ob, z, h⟩
  · exact .inl h
  · cases z; exact .inr ⟨ob, h⟩
theorem Le.ex {P Q H : Hp} (a : Ex P Q) (l : Le Q H) : Le P H := fun x o h => l x o (a x o h)
theorem Le.tr' {P H H' : Hp} (l : Le P H) (e : Ex H H') : Le P H' := fun x o h => by
  rcases l x o h with h | ⟨k, ob, z, h⟩
  · exact .inl (e _ _ h)
  · exact .inr ⟨k, ob, z, e _ _ h⟩
theorem Le.none {P H : Hp} {a : Addr} (l : Le P H) (h : H a = none) : P a = none := by
  cases q : P a with
  | none => rfl
  | some o =>
    rcases l _ _ q with z | ⟨_, _, _, z⟩ <;> (rw [h] at z; cases z)

mutual
theorem Rep.ex {K : PySem.W.Frag} {P P' : Hp} (e : Ex P P') : ∀ (d : D) {v : V}, Rep K P v d → Rep K P' v d
  | .non, _, .non => .non
  | .bl _, _, .bl b => .bl b
  | .int _, _, .int i => .int i
  | .str _, _, .str x => .str x
  | .lst ds, _, .lst h r => .lst (e _ _ h) (Reps.ex e ds r)
  | .scr ds, _, .scr h r => .scr (sqL_ex e h) (Reps.ex e ds r)
  | .tup ds, _, .tup h r => .tup (e _ _ h) (Reps.ex e ds r)
  | .dct ks ds, _, .dct h l r => .dct (e _ _ h) l (Reps.ex e ds r)
  | .obj C ns ds, _, .obj h l r => .obj (e _ _ h) l (Reps.ex e ds r)
  | .ref _, _, .ref a => .ref a
  | .ty _, _, .ty n => .ty n
theorem Reps.ex {K : PySem.W.Frag} {P P' : Hp} (e : Ex P P') : ∀ (ds : List D) {vs : List V}, Reps K P vs ds → Reps K P' vs ds
  | [], _, .nil => .nil
  | d :: ds, _, .cons h r => .cons (Rep.ex e d h) (Reps.ex e ds r)
end
theorem Reps.len {K : PySem.W.Frag} {P : Hp} : ∀ {ds : List D} {vs : List V}, Reps K P vs ds → vs.length = ds.length
  | [], _, .nil => rfl
  | _ :: _, _, .cons _ r => by rw [List.length_cons, List.length_cons, r.len]
theorem Reps.get {K : PySem.W.Frag} {P : Hp} : ∀ {ds : List D} {vs : List V} {i : Nat} {d : D}, Reps K P vs ds → ds[i]? = some d → ∃ v, vs[i]? = some v ∧ Rep K P v d
  | _ :: _, _, 0, _, .cons h _, e => by cases e; exact ⟨_, rfl, h⟩
  | _ :: _, _, i + 1, _, .cons _ r, e => r.get (i := i) (by simpa using e)
theorem Reps.getV {K : PySem.W.Frag} {P : Hp} : ∀ {ds : List D} {vs : List V} {i : Nat} {v : V}, Reps K P vs ds → vs[i]? = some v → ∃ d, ds[i]? = some d ∧ Rep K P v d
  | [], _, _, _, .nil, e => by simp at e
  | _ :: _, _ :: _, 0, _, .cons h _, e => by cases e; exact ⟨_, rfl, h⟩
  | _ :: _, _ :: _, i + 1, _, .cons _ r, e => r.getV (i := i) (by simpa using e)
theorem Reps.app {K : PySem.W.Frag} {P : Hp} : ∀ {ds es : List D} {vs ws : List V}, Reps K P vs ds → Reps K P ws es → Reps K P (vs ++ ws) (ds ++ es)
  | [], _, _, _, .nil, s => s
  | _ :: _, _, _, _, .cons h r, s => .cons h (r.app s)
theorem Reps.setAt {K : PySem.W.Frag} {P : Hp} {v : V} {d : D} (h : Rep K P v d) : ∀ (ds : List D) (vs : List V) (i : Nat), Reps K P vs ds → Reps K P (vs.set i v) (ds.set i d) := by
  intro ds
  induction ds with
  | nil => intro vs i r; cases r; exact .nil
  | cons e es ih =>
    intro vs i r
    cases r with
    | cons g r =>
      cases i with
      | zero => exact .cons h r
      | succ i => exact .cons g (ih _ i r)
theorem Reps.take {K : PySem.W.Frag} {P : Hp} : ∀ {ds : List D} {vs : List V} (n : Nat), Reps K P vs ds → Reps K P (vs.take n) (ds.take n)
  | _, _, 0, _ => .nil
  | [], _, _ + 1, .nil => .nil
  | _ :: _, _, n + 1, .cons h r => .cons h (r.take n)
theorem Reps.drop {K : PySem.W.Frag} {P : Hp} : ∀ {ds : List D} {vs : List V} (n : Nat), Reps K P vs ds → Reps K P (vs.drop n) (ds.drop n)
  | _, _, 0, r => r
  | [], _, _ + 1, .nil => .nil
  | _ :: _, _, n + 1, .cons _ r => r.drop n

/-! ### cells -/
inductive Cl where
  | lst (ds : List D) | dct (ks : List Key) (ds : List D) | box (n : Nat) | ins (C : Addr) (ns : List Str) (ds : List D)
abbrev Cells := List (Addr × Cl)
def Cl.ho (K : PySem.W.Frag) (P : Hp) (o : HO) : Cl → Prop
  | .lst ds => ∃ vs, o = .lst vs ∧ Reps K P vs ds
  | .dct ks ds => ∃ vs, o = .dK (ks.zip vs) ∧ ks.length = vs.length ∧ Reps K P vs ds
  | .box n => ∃ x y c : Int, o = .lst [.int x, .int y, .int c] ∧ 0 ≤ y ∧ y < 2147483629 ∧ 0 ≤ c ∧ c ≤ n
  | .ins C ns ds => ∃ dx vs, o = .ins C dx (ns.zip vs) ∧ ns.length = vs.length ∧ Reps K P vs ds
theorem Cl.ho_ex {K : PySem.W.Frag} {P P' : Hp} {o : HO} (e : Ex P P') : ∀ {c : Cl}, c.ho K P o → c.ho K P' o
  | .lst ds, ⟨vs, h, r⟩ => ⟨vs, h, r.ex e⟩
  | .dct ks ds, ⟨vs, h, l, r⟩ => ⟨vs, h, l, r.ex e⟩
  | .box n, h => h
  | .ins C ns ds, ⟨dx, vs, h, l, r⟩ => ⟨dx, vs, h, l, r.ex e⟩

/-- the world of a body: what is known at its entry (P0), the entry heap (H0), what of it stays (Hb), the objects handed in to be changed (io) -/
structure Wd where
  P0 : Hp
  H0 : Hp
  Hb : Hp
  io : List Addr

abbrev Gam : Type := List (Option D)
structure Good (K : PySem.W.Frag) (W : Wd) (G : Gam) (C : Cells) (σ : L2.St) (P H : Hp) : Prop where
  wf : ∀ a o, W.Hb a = some o → W.H0 a ≠ none ∧ a ∉ W.io
  le : Le P H
  p0 : Ex W.P0 P
  fr : ∀ a, W.H0 a ≠ none → P a = W.P0 a
  hb : Ex W.Hb H
  tr : ∀ a, W.H0 a ≠ none → H a ≠ none
  sl : ∀ (i : Nat) (d : D), G[i]? = some (some d) → ∃ v, σ[i]? = some (some v) ∧ Rep K P v d
  ce : ∀ p ∈ C, P p.1 = none ∧ (W.H0 p.1 = none ∨ p.1 ∈ W.io) ∧ ∃ o, H p.1 = some o ∧ p.2.ho K P o
  nd : (C.map (·.1)).Nodup
  len : σ.length = G.length

/-- one step's outcome: knowledge grows -/
structure Next (K : PySem.W.Frag) (W : Wd) (G : Gam) (C' : Cells) (σ : L2.St) (P P' H' : Hp) : Prop where
  ex : Ex P P'
  good : Good K W G C' σ P' H'

section
variable {K : PySem.W.Frag} {W : Wd} {G : Gam} {C : Cells} {σ : L2.St} {P H : Hp}
/-- a new object that is known from now on -/
theorem Good.new (g : Good K W G C σ P H) {p : Addr} {o : HO} (hp : H p = none) : Next K W G C σ P (upd P p o) (upd H p o) := by
  have pn := g.le.none hp
  have e := Ex.fresh (o := o) pn
  have eh := Ex.fresh (o := o) hp
  refine ⟨e, g.wf, fun a u h => ?_, g.p0.tr e, fun a h => ?_, g.hb.tr eh, fun a h => ?_, fun i d h => ?_, fun q hq => ?_, g.nd, g.len⟩
  · by_cases ha : a = p
    · subst ha; rw [upd_same] at h ⊢; exact .inl h
    · rw [upd_ne ha] at h ⊢; exact g.le a u h
  · have ha : a ≠ p := fun z => g.tr a h (by rw [z]; exact hp)
    rw [upd_ne ha]; exact g.fr a h
  · by_cases ha : a = p
    · subst ha; rw [upd_same]; intro z; cases z
    · rw [upd_ne ha]; exact g.tr a h
  · obtain ⟨v, h1, h2⟩ := g.sl i d h
    exact ⟨v, h1, h2.ex e⟩
  · obtain ⟨h1, h2, o', h3, h4⟩ := g.ce q hq
    have ha : q.1 ≠ p := ne_of_none h3 hp
    refine ⟨?_, h2, o', ?_, Cl.ho_ex e h4⟩
    · rw [upd_ne ha]; exact h1
    · rw [upd_ne ha]; exact h3
/-- a new object that may change: a cell -/
theorem Good.newCell (g : Good K W G C σ P H) {p : Addr} {o : HO} {c : Cl} (hp : H p = none) (hc : c.ho K P o) : Good K W G (C ++ [(p, c)]) σ P (upd H p o) := by
  have pn := g.le.none hp
  have eh := Ex.fresh (o := o) hp
  refine ⟨g.wf, g.le.tr' eh, g.p0, g.fr, g.hb.tr eh, fun a h => ?_, g.sl, fun q hq => ?_, ?_, g.len⟩
  · by_cases ha : a = p
    · subst ha; rw [upd_same]; intro z; cases z
    · rw [upd_ne ha]; exact g.tr a h
  · rcases List.mem_append.mp hq with hq | hq
    · obtain ⟨h1, h2, o', h3, h4⟩ := g.ce q hq
      have ha : q.1 ≠ p := ne_of_none h3 hp
      exact ⟨h1, h2, o', by rw [upd_ne ha]; exact h3, h4⟩
    · have e : q = (p, c) := by simpa using hq
      subst e
      refine ⟨pn, .inl ?_, o, upd_same, hc⟩
      cases z : W.H0 p with
      | none => rfl
      | some u => exact absurd hp (g.tr p (by rw [z]; intro q; cases q))
  · rw [List.map_append, List.nodup_append]
    refine ⟨g.nd, by simp, fun a ha b hb => ?_⟩
    obtain ⟨q, hq, rfl⟩ := List.mem_map.mp ha
    have e : b = p := by simpa using hb
    subst e
    obtain ⟨_, _, o', h3, _⟩ := g.ce q hq
    exact ne_of_none h3 hp
/-- a cell is written -/
theorem Good.write (g : Good K W G C σ P H) {i : Nat} {a : Addr} {c c' : Cl} {o : HO} (hi : C[i]? = some (a, c)) (hc : c'.ho K P o) : Good K W G (C.set i (a, c')) σ P (upd H a o) := by
  have hm : (a, c) ∈ C := List.mem_of_getElem? hi
  obtain ⟨h1, h2, o0, h3, h4⟩ := g.ce _ hm
  have il : i < C.length := (List.getElem?_eq_some_iff.mp hi).1
  have mapeq : (C.set i (a, c')).map (·.1) = C.map (·.1) := by
    rw [List.map_set]
    apply List.ext_getElem?
    intro j
    by_cases hj : i = j
    · subst hj
      rw [List.getElem?_set_self (by simpa using il), List.getElem?_map, hi]; rfl
    · rw [List.getElem?_set_ne hj]
  refine ⟨g.wf, fun b u h => ?_, g.p0, g.fr, fun b u h => ?_, fun b h => ?_, g.sl, fun q hq => ?_, by rw [mapeq]; exact g.nd, g.len⟩
  · have hb : b ≠ a := ne_of_none h h1
    rw [upd_ne hb]; exact g.le b u h
  · have hb : b ≠ a := fun z => by
      obtain ⟨w1, w2⟩ := g.wf b u h
      rcases h2 with z2 | z2
      · rw [z] at w1; exact w1 z2
      · rw [z] at w2; exact w2 z2
    rw [upd_ne hb]; exact g.hb b u h
  · by_cases hb : b = a
    · subst hb; rw [upd_same]; intro z; cases z
    · rw [upd_ne hb]; exact g.tr b h
  · obtain ⟨j, hj⟩ := List.getElem?_of_mem hq
    by_cases e : i = j
    · subst e
      rw [List.getElem?_set_self il] at hj
      cases hj
      exact ⟨h1, h2, o, upd_same, hc⟩
    · rw [List.getElem?_set_ne e] at hj
      obtain ⟨q1, q2, o', q3, q4⟩ := g.ce q (List.mem_of_getElem? hj)
      have hne : q.1 ≠ a := fun z => by
        have a1 : (C.map (·.1))[i]? = some a := by rw [List.getElem?_map, hi]; rfl
        have a2 : (C.map (·.1))[j]? = some a := by rw [List.getElem?_map, hj]; exact congrArg some z
        obtain ⟨l1, e1⟩ := List.getElem?_eq_some_iff.mp a1
        obtain ⟨l2, e2⟩ := List.getElem?_eq_some_iff.mp a2
        exact e ((List.getElem_inj g.nd).mp (e1.trans e2.symm))
      exact ⟨q1, q2, o', by rw [upd_ne hne]; exact q3, q4⟩
theorem Good.cell (g : Good K W G C σ P H) {i : Nat} {a : Addr} {c : Cl} (hi : C[i]? = some (a, c)) : ∃ o, H a = some o ∧ c.ho K P o :=
  let ⟨_, _, h⟩ := g.ce _ (List.mem_of_getElem? hi); h
theorem Good.refl (g : Good K W G C σ P H) : Next K W G C σ P P H := ⟨Ex.rfl' P, g⟩
/-- a slot is set -/
theorem Good.slot (g : Good K W G C σ P H) {i : Nat} {v : V} {d : D} (r : Rep K P v d) : Good K W (G.set i (some d)) C (σ.set i (some v)) P H := by
  have hl := g.len
  refine ⟨g.wf, g.le, g.p0, g.fr, g.hb, g.tr, fun j e h => ?_, g.ce, g.nd, by rw [List.length_set, List.length_set]; exact hl⟩
  by_cases hj : i = j
  · subst hj
    by_cases il : i < G.length
    · rw [List.getElem?_set_self il] at h; cases h
      exact ⟨v, by rw [List.getElem?_set_self (by omega)], r⟩
    · rw [List.getElem?_eq_none (by simp only [List.length_set]; omega)] at h; cases h
  · rw [List.getElem?_set_ne hj] at h ⊢
    exact g.sl j e h
/-- the slots are forgotten, or fewer of them kept -/
theorem Good.fewer (g : Good K W G C σ P H) {G' : Gam} {σ' : L2.St} (h : ∀ (i : Nat) (d : D), G'[i]? = some (some d) → ∃ v, σ'[i]? = some (some v) ∧ Rep K P v d) (hl : σ'.length = G'.length) : Good K W G' C σ' P H :=
  ⟨g.wf, g.le, g.p0, g.fr, g.hb, g.tr, h, g.ce, g.nd, hl⟩
theorem Good.nil (g : Good K W G C σ P H) : Good K W [] C [] P H := g.fewer (fun i d h => by simp at h) rfl
/-- an object that nobody tracks is laid or written -/
theorem Good.aside (g : Good K W G C σ P H) {p : Addr} {o : HO} (hp : P p = none) (h0 : W.H0 p = none) (hc : p ∉ C.map (·.1)) : Good K W G C σ P (upd H p o) := by
  refine ⟨g.wf, fun a u h => ?_, g.p0, g.fr, fun a u h => ?_, fun a h => ?_, g.sl, fun q hq => ?_, g.nd, g.len⟩
  · rw [upd_ne (ne_of_none h hp)]; exact g.le a u h
  · have ha : a ≠ p := fun z => (g.wf a u h).1 (by rw [z]; exact h0)
    rw [upd_ne ha]; exact g.hb a u h
  · by_cases ha : a = p
    · subst ha; rw [upd_same]; intro z; cases z
    · rw [upd_ne ha]; exact g.tr a h
  · obtain ⟨h1, h2, o', h3, h4⟩ := g.ce q hq
    have ha : q.1 ≠ p := fun z => hc (by rw [← z]; exact List.mem_map.mpr ⟨q, hq, rfl⟩)
    exact ⟨h1, h2, o', by rw [upd_ne ha]; exact h3, h4⟩
/-- an object that nobody tracks is known from now on -/
theorem Good.know (g : Good K W G C σ P H) {p : Addr} {o : HO} (hp : P p = none) (h0 : W.H0 p = none) (hc : p ∉ C.map (·.1)) (hh : H p = some o) : Next K W G C σ P (upd P p o) H := by
  have e := Ex.fresh (o := o) hp
  refine ⟨e, g.wf, fun a u h => ?_, g.p0.tr e, fun a h => ?_, g.hb, g.tr, fun i d h => ?_, fun q hq => ?_, g.nd, g.len⟩
  · by_cases ha : a = p
    · subst ha; rw [upd_same] at h; cases h; exact .inl hh
    · rw [upd_ne ha] at h; exact g.le a u h
  · have ha : a ≠ p := fun z => h (by rw [z]; exact h0)
    rw [upd_ne ha]; exact g.fr a h
  · obtain ⟨v, h1, h2⟩ := g.sl i d h
    exact ⟨v, h1, h2.ex e⟩
  · obtain ⟨h1, h2, o', h3, h4⟩ := g.ce q hq
    have ha : q.1 ≠ p := fun z => hc (by rw [← z]; exact List.mem_map.mpr ⟨q, hq, rfl⟩)
    exact ⟨by rw [upd_ne ha]; exact h1, h2, o', h3, Cl.ho_ex e h4⟩
/-- an object that nobody tracks becomes a cell -/
theorem Good.adopt (g : Good K W G C σ P H) {p : Addr} {o : HO} {c : Cl} (hp : P p = none) (h0 : W.H0 p = none) (hc : p ∉ C.map (·.1)) (hh : H p = some o) (ho : c.ho K P o) : Good K W G (C ++ [(p, c)]) σ P H := by
  refine ⟨g.wf, g.le, g.p0, g.fr, g.hb, g.tr, g.sl, fun q hq => ?_, ?_, g.len⟩
  · rcases List.mem_append.mp hq with hq | hq
    · exact g.ce q hq
    · have e : q = (p, c) := by simpa using hq
      subst e
      exact ⟨hp, .inl h0, o, hh, ho⟩
  · rw [List.map_append, List.nodup_append]
    refine ⟨g.nd, by simp, fun a ha b hb => ?_⟩
    have e : b = p := by simpa using hb
    subst e
    intro z; subst z; exact hc ha
/-- a cell of one's own is let go -/
theorem Good.drop (g : Good K W G C σ P H) {C1 C2 : Cells} {p : Addr} {c : Cl} (e : C = C1 ++ (p, c) :: C2) : Good K W G (C1 ++ C2) σ P H ∧ p ∉ (C1 ++ C2).map (·.1) ∧ P p = none ∧ ∃ o, H p = some o ∧ c.ho K P o := by
  subst e
  have nd := g.nd
  rw [List.map_append, List.map_cons] at nd
  have nd2 := (List.perm_middle.nodup_iff).mp nd
  rw [List.nodup_cons] at nd2
  obtain ⟨h1, h2, h3⟩ := g.ce (p, c) (by simp)
  refine ⟨⟨g.wf, g.le, g.p0, g.fr, g.hb, g.tr, g.sl, fun q hq => g.ce q ?_, by rw [List.map_append]; exact nd2.2, g.len⟩, by rw [List.map_append]; exact nd2.1, h1, h3⟩
  rcases List.mem_append.mp hq with z | z
  · exact List.mem_append_left _ z
  · exact List.mem_append_right _ (List.mem_cons_of_mem _ z)
/-- a world that begins here: what is not at l stays -/
def baseW (P H : Hp) (l : List Addr) : Wd := ⟨P, H, fun a => if a ∈ l then none else H a, l⟩
theorem baseW_hb {P H : Hp} {l : List Addr} {a : Addr} (h : a ∉ l) : (baseW P H l).Hb a = H a := if_neg h
theorem Good.base (g : Good K W G C σ P H) : Good K (baseW P H (C.map (·.1))) G C σ P H := by
  refine ⟨fun a o h => ?_, g.le, Ex.rfl' P, fun _ _ => rfl, fun a o h => ?_, fun _ h => h, g.sl, fun q hq => ?_, g.nd, g.len⟩
  · by_cases ha : a ∈ C.map (·.1)
    · rw [show (baseW P H (C.map (·.1))).Hb a = none from if_pos ha] at h; cases h
    · rw [baseW_hb ha] at h
      exact ⟨(fun z => by rw [show (baseW P H (C.map (·.1))).H0 a = H a from rfl, h] at z; cases z), ha⟩
  · by_cases ha : a ∈ C.map (·.1)
    · rw [show (baseW P H (C.map (·.1))).Hb a = none from if_pos ha] at h; cases h
    · rw [baseW_hb ha] at h; exact h
  · obtain ⟨h1, h2, h3⟩ := g.ce q hq
    exact ⟨h1, .inr (List.mem_map.mpr ⟨q, hq, rfl⟩), h3⟩
/-- back to the outer world; cells that were not handed in are as they were -/
theorem Good.back {G' : Gam} {C' : Cells} {σ' : L2.St} {P' H' : Hp} (g : Good K W G C σ P H) (g' : Good K (baseW P H (C.map (·.1))) G' C' σ' P' H') : Good K W G' C' σ' P' H' := by
  have notcell : ∀ a o, W.Hb a = some o → a ∉ C.map (·.1) := fun a o h z => by
    obtain ⟨q, hq, rfl⟩ := List.mem_map.mp z
    obtain ⟨w1, w2⟩ := g.wf _ _ h
    rcases (g.ce q hq).2.1 with e | e
    · exact w1 e
    · exact w2 e
  refine ⟨g.wf, g'.le, g.p0.tr g'.p0, fun a h => ?_, fun a o h => ?_, fun a h => ?_, g'.sl, fun q hq => ?_, g'.nd, g'.len⟩
  · exact (g'.fr a (g.tr a h)).trans (g.fr a h)
  · exact g'.hb a o (by rw [baseW_hb (notcell a o h)]; exact g.hb a o h)
  · exact g'.tr a (g.tr a h)
  · obtain ⟨h1, h2, h3⟩ := g'.ce q hq
    refine ⟨h1, ?_, h3⟩
    rcases h2 with e | e
    · cases z : W.H0 q.1 with
      | none => exact .inl rfl
      | some u => exact absurd e (g.tr q.1 (by rw [z]; intro y; cases y))
    · obtain ⟨r, hr, e2⟩ := List.mem_map.mp e
      rw [← e2]
      exact (g.ce r hr).2.1
end
end EW

namespace EW
open PySem PySem.Spec PyProof.Rows L2

/-! ### what a piece of syntax does, as a reading -/
def semE (X : Cx) (e : Expr) : TE := fun σ H Q => ∀ (pins : List (Addr × Obj)) (s : Shared), Inv X pins σ H s → wpAny (model X.prog X.w) X.A (eval e X.env) (EP X pins σ Q) X.xe s
def semT (X : Cx) (e : Expr) : TT := fun σ H Q => ∀ (pins : List (Addr × Obj)) (s : Shared), Inv X pins σ H s → wpAny (model X.prog X.w) X.A (isTrue e X.env (eval e X.env)) (TP X pins σ Q) X.xe s
def semB (X : Cx) (e : Expr) : TT := fun σ H Q => ∀ (whole : Sem Value) (pins : List (Addr × Obj)) (s : Shared), Inv X pins σ H s → wpAny (model X.prog X.w) X.A (isTrue e X.env whole) (TP X pins σ Q) X.xe s
def semA (X : Cx) (es : List Expr) : TA := fun σ H Q => ∀ (pos : Pos) (pins : List (Addr × Obj)) (s : Shared), Inv X pins σ H s → wpAny (model X.prog X.w) X.A (spliced (backTo pos (starEach es X.env))) (AP X pins σ Q) X.xe s
def semS (X : Cx) (st : Stmt) : TS := fun D σ H => ∀ (pins : List (Addr × Obj)) (s : Shared), Inv X pins σ H s → wpAny (model X.prog X.w) X.A (exec st X.env) (SP X pins D) X.xe s
def semSs (X : Cx) (st : List Stmt) : TS := fun D σ H => ∀ (pins : List (Addr × Obj)) (s : Shared), Inv X pins σ H s → wpAny (model X.prog X.w) X.A (execs st X.env) (SP X pins D) X.xe s
def semG (X : Cx) (tg : Expr) : TG := fun v σ H Q => ∀ (pins : List (Addr × Obj)) (s : Shared) (u : Value), Inv X pins σ H s → RelV v u → wpAny (model X.prog X.w) X.A (assign tg X.env u) (fun _ s' => ∃ σ' H', Inv X pins σ' H' s' ∧ Q σ' H') X.xe s
def semI (X : Cx) (tg iter : Expr) : TI := fun σ H R => ∀ (pins : List (Addr × Obj)) (s : Shared), Inv X pins σ H s → wpAny (model X.prog X.w) X.A (eval iter X.env) (fun v s1 => wpAny (model X.prog X.w) X.A (pyIter v) (PIE X pins σ tg R) X.xe s1) X.xe s
def semO (X : Cx) (f : Value → Value → Sem Value) : R2 := fun x y H Q => ∀ (pins : List (Addr × Obj)) (s : Shared) (σ : L2.St) (u v : Value), Inv X pins σ H s → RelV x u → RelV y v → wpAny (model X.prog X.w) X.A (f u v) (EP X pins σ Q) X.xe s
def semC (X : Cx) (f : Value) : List V → Hp → VK → Prop := fun xs H Q => ∀ (pins : List (Addr × Obj)) (s : Shared) (σ : L2.St) (us : List Value), Inv X pins σ H s → Vals xs us → wpAny (model X.prog X.w) X.A (call f us) (EP X pins σ Q) X.xe s
section
variable {X : Cx} {e : Expr} {es : List Expr} {st : Stmt} {sts : List Stmt} {tg iter : Expr}
theorem pe_sem : PE X e (semE X e) := ⟨fun pins s _ _ _ I h => h pins s I⟩
theorem pt_sem : PT X e (semT X e) := ⟨fun pins s _ _ _ I h => h pins s I⟩
theorem pw_sem : PW X e (semB X e) := ⟨fun wh pins s _ _ _ I h => h wh pins s I⟩
theorem pa_sem : PA X es (semA X es) := ⟨fun pos pins s _ _ _ I h => h pos pins s I⟩
theorem ps_sem : PS X st (semS X st) := ⟨fun pins s _ _ _ I h => h pins s I⟩
theorem pss_sem : PSs X sts (semSs X sts) := ⟨fun pins s _ _ _ I h => h pins s I⟩
theorem pg_sem : PG X tg (semG X tg) := ⟨fun pins s _ _ _ u _ I r h => h pins s u I r⟩
theorem pi_sem : PI X tg iter (semI X tg iter) := ⟨fun pins s _ _ _ I h => h pins s I⟩
end

/-! ### the judgements over data -/
abbrev KD := D → Cells → Prop
abbrev KDs := List D → Cells → Prop
abbrev KB := Bool → Cells → Prop
def wE (X : Cx) (W : Wd) (e : Expr) (G : List (Option D)) (C : Cells) (k : KD) : Prop :=
  ∀ (σ : L2.St) (P H : Hp) (Q : VK), Good X.K W G C σ P H → (∀ d C' v P' H', Next X.K W G C' σ P P' H' → Rep X.K P' v d → k d C' → Q v H') → semE X e σ H Q
def wT (X : Cx) (W : Wd) (e : Expr) (G : List (Option D)) (C : Cells) (k : KB) : Prop :=
  ∀ (σ : L2.St) (P H : Hp) (Q : Bool → Hp → Prop), Good X.K W G C σ P H → (∀ b C' P' H', Next X.K W G C' σ P P' H' → k b C' → Q b H') → semT X e σ H Q
/-- a test whatever its whole is -/
def wB (X : Cx) (W : Wd) (e : Expr) (G : List (Option D)) (C : Cells) (k : KB) : Prop :=
  ∀ (σ : L2.St) (P H : Hp) (Q : Bool → Hp → Prop), Good X.K W G C σ P H → (∀ b C' P' H', Next X.K W G C' σ P P' H' → k b C' → Q b H') → semB X e σ H Q
def wA (X : Cx) (W : Wd) (es : List Expr) (G : List (Option D)) (C : Cells) (k : KDs) : Prop :=
  ∀ (σ : L2.St) (P H : Hp) (Q : List V → Hp → Prop), Good X.K W G C σ P H → (∀ ds C' vs P' H', Next X.K W G C' σ P P' H' → Reps X.K P' vs ds → k ds C' → Q vs H') → semA X es σ H Q
/-- an operation on two values -/
def oD (X : Cx) (W : Wd) (f : Value → Value → Sem Value) (x y : D) (G : List (Option D)) (C : Cells) (k : KD) : Prop :=
  ∀ (σ : L2.St) (P H : Hp) (Q : VK) (v u : V), Good X.K W G C σ P H → Rep X.K P v x → Rep X.K P u y → (∀ d C' z P' H', Next X.K W G C' σ P P' H' → Rep X.K P' z d → k d C' → Q z H') → semO X f v u H Q
/-- a call of f -/
def cD (X : Cx) (W : Wd) (f : Value) (ds : List D) (G : List (Option D)) (C : Cells) (k : KD) : Prop :=
  ∀ (σ : L2.St) (P H : Hp) (Q : VK) (vs : List V), Good X.K W G C σ P H → Reps X.K P vs ds → (∀ d C' z P' H', Next X.K W G C' σ P P' H' → Rep X.K P' z d → k d C' → Q z H') → semC X f vs H Q
/-- what is wanted behind a statement -/
structure DE where
  nx : List (Option D) → Cells → Prop
  rt : KD
  bk : List (Option D) → Cells → Prop := fun _ _ => False
  ct : List (Option D) → Cells → Prop := fun _ _ => False
structure Fits (X : Cx) (W : Wd) (P : Hp) (E : DE) (T : Ends) : Prop where
  nx : ∀ G C σ P' H', Next X.K W G C σ P P' H' → E.nx G C → T.nx σ H'
  rt : ∀ d C v P' H', Next X.K W [] C [] P P' H' → Rep X.K P' v d → E.rt d C → T.rt v H'
  bk : ∀ G C σ P' H', Next X.K W G C σ P P' H' → E.bk G C → T.bk σ H'
  ct : ∀ G C σ P' H', Next X.K W G C σ P P' H' → E.ct G C → T.ct σ H'
def wS (X : Cx) (W : Wd) (st : Stmt) (G : List (Option D)) (C : Cells) (E : DE) : Prop :=
  ∀ (σ : L2.St) (P H : Hp) (T : Ends), Good X.K W G C σ P H → Fits X W P E T → semS X st T σ H
def wSs (X : Cx) (W : Wd) (st : List Stmt) (G : List (Option D)) (C : Cells) (E : DE) : Prop :=
  ∀ (σ : L2.St) (P H : Hp) (T : Ends), Good X.K W G C σ P H → Fits X W P E T → semSs X st T σ H
def wG (X : Cx) (W : Wd) (tg : Expr) (d : D) (G : List (Option D)) (C : Cells) (k : List (Option D) → Cells → Prop) : Prop :=
  ∀ (σ : L2.St) (P H : Hp) (Q : L2.St → Hp → Prop) (v : V), Good X.K W G C σ P H → Rep X.K P v d → (∀ G' C' σ' P' H', Next X.K W G' C' σ' P P' H' → k G' C' → Q σ' H') → semG X tg v σ H Q

theorem Next.tr {K : PySem.W.Frag} {W : Wd} {G G' : List (Option D)} {C C' : Cells} {σ σ' : L2.St} {P P1 P2 H1 H2 : Hp} (a : Next K W G C σ P P1 H1) (b : Next K W G' C' σ' P1 P2 H2) : Next K W G' C' σ' P P2 H2 := ⟨a.ex.tr b.ex, b.good⟩
theorem Fits.mono {X : Cx} {W : Wd} {P P1 : Hp} {E : DE} {T : Ends} (f : Fits X W P E T) (e : Ex P P1) : Fits X W P1 E T :=
  ⟨fun G C σ P' H' n => f.nx G C σ P' H' ⟨e.tr n.ex, n.good⟩, fun d C v P' H' n => f.rt d C v P' H' ⟨e.tr n.ex, n.good⟩, fun G C σ P' H' n => f.bk G C σ P' H' ⟨e.tr n.ex, n.good⟩, fun G C σ P' H' n => f.ct G C σ P' H' ⟨e.tr n.ex, n.good⟩⟩
theorem Rep.ex' {K : PySem.W.Frag} {P P' : Hp} {d : D} {v : V} (h : Rep K P v d) (e : Ex P P') : Rep K P' v d := Rep.ex e d h
theorem Reps.ex' {K : PySem.W.Frag} {P P' : Hp} {ds : List D} {vs : List V} (h : Reps K P vs ds) (e : Ex P P') : Reps K P' vs ds := Reps.ex e ds h

section
variable {X : Cx} {W : Wd} {G : List (Option D)} {C : Cells} {k k' : KD} {kb kb' : KB} {e a b c : Expr} {pos p1 p2 : Pos}
theorem wE.mono (h : wE X W e G C k) (m : ∀ d C', k d C' → k' d C') : wE X W e G C k' := fun σ P H Q g q => h σ P H Q g fun d C' v P' H' n r z => q d C' v P' H' n r (m d C' z)
theorem wT.mono (h : wT X W e G C kb) (m : ∀ b C', kb b C' → kb' b C') : wT X W e G C kb' := fun σ P H Q g q => h σ P H Q g fun b C' P' H' n z => q b C' P' H' n (m b C' z)
/-- by the value, the cells as they were -/
theorem wE_v {d : D} (h : wE X W e G C fun d' C' => d' = d ∧ C' = C) (q : k d C) : wE X W e G C k := h.mono fun d' C' z => by obtain ⟨rfl, rfl⟩ := z; exact q
theorem wT_v {t : Bool} (h : wT X W e G C fun t' C' => t' = t ∧ C' = C) (q : kb t C) : wT X W e G C kb := h.mono fun d' C' z => by obtain ⟨rfl, rfl⟩ := z; exact q
theorem wB_v {t : Bool} (h : wB X W e G C fun t' C' => t' = t ∧ C' = C) (q : kb t C) : wB X W e G C kb := fun σ P H Q g r => h σ P H Q g fun b C' P' H' n z => by obtain ⟨rfl, rfl⟩ := z; exact r _ _ P' H' n q
theorem wE_of {t : TE} (h : PE X e t) (r : ∀ σ P H (Q : VK), Good X.K W G C σ P H → (∀ d C' v P' H', Next X.K W G C' σ P P' H' → Rep X.K P' v d → k d C' → Q v H') → t σ H Q) : wE X W e G C k :=
  fun σ P H Q g q pins s I => h.run pins s σ H Q I (r σ P H Q g q)
theorem wT_of {t : TT} (h : PT X e t) (r : ∀ σ P H (Q : Bool → Hp → Prop), Good X.K W G C σ P H → (∀ b C' P' H', Next X.K W G C' σ P P' H' → kb b C' → Q b H') → t σ H Q) : wT X W e G C kb :=
  fun σ P H Q g q pins s I => h.run pins s σ H Q I (r σ P H Q g q)
theorem wB_of {t : TT} (h : PW X e t) (r : ∀ σ P H (Q : Bool → Hp → Prop), Good X.K W G C σ P H → (∀ b C' P' H', Next X.K W G C' σ P P' H' → kb b C' → Q b H') → t σ H Q) : wB X W e G C kb :=
  fun σ P H Q g q wh pins s I => h.run wh pins s σ H Q I (r σ P H Q g q)
theorem wB.wt (h : wB X W e G C kb) : wT X W e G C kb := fun σ P H Q g q pins s I => h σ P H Q g q _ pins s I

/-! names and constants -/
theorem wE_nm (i : Nat) {x : Str} {d : D} (hd : G[i]? = some (some d)) (q : k d C) (hN : X.N[i]? = some x := by rfl) (hv : Vis X.env.scope x := by first | exact Or.inl rfl | exact Or.inr (Or.inl rfl) | exact Or.inr (Or.inr rfl))
    (h1 : (x == ("__debug__" : Str)) = false := by decide) (h2 : (x == ("__classdict__" : Str)) = false := by decide) : wE X W (.Name x pos) G C k :=
  wE_of (pe_var hN hv h1 h2) fun σ P H Q g z => let ⟨v, h1, h2⟩ := g.sl i d hd; ⟨v, h1, z d C v P H g.refl h2 q⟩
theorem wE_int {i : Int} {j : Nat} (q : k (.int i) C) : wE X W (.Constant (.int i) j pos) G C k := wE_of pe_int fun σ P H Q g z => z _ C _ P H g.refl (.int i) q
theorem wE_bl {i : Bool} {j : Nat} (q : k (.bl i) C) : wE X W (.Constant (.bool i) j pos) G C k := wE_of pe_bl fun σ P H Q g z => z _ C _ P H g.refl (.bl i) q
theorem wE_non {j : Nat} (q : k .non C) : wE X W (.Constant .none j pos) G C k := wE_of pe_non fun σ P H Q g z => z _ C _ P H g.refl .non q
theorem wE_str {x : Str} {j : Nat} (q : k (.str x) C) : wE X W (.Constant (.str x) j pos) G C k := wE_of pe_str fun σ P H Q g z => z _ C _ P H g.refl (.str x) q
/-- a module's constant -/
theorem wE_gl {x : Str} {u : Value} {d : D} {v : V} (hm : X.mg x = some u) (r : RelV v u) (hr : ∀ P, Rep X.K P v d) (q : k d C) (hg : Gl X x := by rfl) (hd : (x == ("__debug__" : Str)) = false := by decide) : wE X W (.Name x pos) G C k :=
  wE_of (pe_glob hg hm r hd) fun σ P H Q g z => z _ C _ P H g.refl (hr P) q
/-- a built-in class as a value -/
theorem wE_ty {x : Str} {T : String} (hm : X.mg x = none) (hv : bootBuiltins x = some (.type T)) (q : k (.ty T) C) (hg : Gl X x := by rfl) (hn : x ≠ "__name__" := by decide) (hd : (x == ("__debug__" : Str)) = false := by decide) : wE X W (.Name x pos) G C k :=
  wE_of (pe_bltn (v := .ty T) hg hm hv rfl hn hd) fun σ P H Q g z => z _ C _ P H g.refl (.ty T) q

/-! operators -/
theorem wE_bin {op : Operator} (h : wE X W a G C fun x C1 => wE X W b G C1 fun y C2 => oD X W (binaryOp op) x y G C2 k) : wE X W (.BinOp a op b pos) G C k :=
  wE_of (pe_op (r := semO X (binaryOp op)) (fun pins s σ H x y v u Q I rx ry h => h pins s σ v u I rx ry) pe_sem pe_sem) fun σ P H Q g z =>
    h σ P H _ g fun x C1 v P1 H1 n1 r1 h1 => h1 σ P1 H1 _ n1.good fun y C2 u P2 H2 n2 r2 h2 => h2 σ P2 H2 Q v u n2.good (r1.ex' n2.ex) r2 fun d C3 w P3 H3 n3 => z d C3 w P3 H3 (n1.tr (n2.tr n3))
theorem wE_cmp {op : CmpOp} (h : wE X W a G C fun x C1 => wE X W b G C1 fun y C2 => oD X W (compareOp op) x y G C2 k) (hm : behindInMarks op b = false := by first | exact nomark _ | rfl) : wE X W (.Compare a [op] [b] pos) G C k :=
  wE_of (pe_cmpR (r := semO X (compareOp op)) (fun pins s σ H x y v u Q I rx ry h => h pins s σ v u I rx ry) pe_sem pe_sem hm) fun σ P H Q g z =>
    h σ P H _ g fun x C1 v P1 H1 n1 r1 h1 => h1 σ P1 H1 _ n1.good fun y C2 u P2 H2 n2 r2 h2 => h2 σ P2 H2 Q v u n2.good (r1.ex' n2.ex) r2 fun d C3 w P3 H3 n3 => z d C3 w P3 H3 (n1.tr (n2.tr n3))
/-- the answer of a test: a bool -/
def kb2 (kb : KB) : KD := fun d C => ∃ t, d = .bl t ∧ kb t C
theorem wT_cmp {op : CmpOp} (h : wE X W a G C fun x C1 => wE X W b G C1 fun y C2 => oD X W (compareOp op) x y G C2 (kb2 kb)) (hm : behindInMarks op b = false := by first | exact nomark _ | rfl) : wT X W (.Compare a [op] [b] pos) G C kb :=
  wT_of (pt_cmpR (r := semO X (compareOp op)) (fun pins s σ H x y v u Q I rx ry h => h pins s σ v u I rx ry) pe_sem pe_sem hm) fun σ P H Q g z =>
    h σ P H _ g fun x C1 v P1 H1 n1 r1 h1 => h1 σ P1 H1 _ n1.good fun y C2 u P2 H2 n2 r2 h2 => h2 σ P2 H2 _ v u n2.good (r1.ex' n2.ex) r2 fun d C3 w P3 H3 n3 r3 h3 => by
      obtain ⟨t, rfl, h3⟩ := h3
      cases r3
      exact ⟨t, rfl, z t C3 P3 H3 (n1.tr (n2.tr n3)) h3⟩
/-- a chain a op b op' c -/
theorem wE_chain {op op' : CmpOp} (h : wE X W a G C fun x C1 => wE X W b G C1 fun y C2 => oD X W (compareOp op) x y G C2 fun z C3 => ∃ t, z = .bl t ∧ (t = true → wE X W c G C3 fun w C4 => oD X W (compareOp op') y w G C4 k) ∧ (t = false → k (.bl false) C3)) (hm : lastMarks [op, op'] [b, c] = false := by with_unfolding_all rfl) : wE X W (.Compare a [op, op'] [b, c] pos) G C k :=
  wE_of (pe_chain (r := semO X (compareOp op)) (r' := semO X (compareOp op')) (fun pins s σ H x y v u Q I rx ry h => h pins s σ v u I rx ry) (fun pins s σ H x y v u Q I rx ry h => h pins s σ v u I rx ry) pe_sem pe_sem pe_sem hm) fun σ P H Q g z =>
    h σ P H _ g fun x C1 v P1 H1 n1 r1 h1 => h1 σ P1 H1 _ n1.good fun y C2 u P2 H2 n2 r2 h2 => h2 σ P2 H2 _ v u n2.good (r1.ex' n2.ex) r2 fun d C3 w P3 H3 n3 r3 h3 => by
      obtain ⟨t, rfl, h3, h4⟩ := h3
      cases r3
      refine ⟨t, rfl, ?_⟩
      cases t with
      | true => exact h3 rfl σ P3 H3 _ n3.good fun y' C4 u' P4 H4 n4 r4 h5 => h5 σ P4 H4 Q u u' n4.good ((r2.ex' n3.ex).ex' n4.ex) r4 fun d C5 w P5 H5 n5 => z d C5 w P5 H5 (n1.tr (n2.tr (n3.tr (n4.tr n5))))
      | false => exact z _ C3 _ P3 H3 (n1.tr (n2.tr n3)) (.bl false) (h4 rfl)

/-- a test by its value -/
theorem wT_val (h : wE X W e G C (kb2 kb)) (he : ∀ whole, isTrue e X.env whole = (do let v ← whole; standAt e.pos; holding [v] (truthy v)) := by intro _; rfl) : wT X W e G C kb :=
  wT_of (pt_val pe_sem he) fun σ P H Q g z => h σ P H _ g fun d C1 v P1 H1 n1 r1 h1 => by
    obtain ⟨t, rfl, h1⟩ := h1
    cases r1
    exact ⟨t, rfl, z t C1 P1 H1 n1 h1⟩
theorem wT_not (h : wT X W a G C fun t C1 => kb (!t) C1) : wT X W (.UnaryOp .Not a pos) G C kb :=
  wT_of (pt_not pt_sem) fun σ P H Q g z => h σ P H _ g fun t C1 P1 H1 n1 h1 => z (!t) C1 P1 H1 n1 h1
theorem wE_not (h : wE X W a G C fun d C1 => ∃ t, d = .bl t ∧ k (.bl (!t)) C1) : wE X W (.UnaryOp .Not a pos) G C k :=
  wE_of (pe_not pe_sem) fun σ P H Q g z => h σ P H _ g fun d C1 v P1 H1 n1 r1 h1 => by
    obtain ⟨t, rfl, h1⟩ := h1
    cases r1
    exact ⟨t, rfl, z _ C1 _ P1 H1 n1 (.bl (!t)) h1⟩
theorem wE_neg (h : wE X W a G C fun d C1 => ∃ i, d = .int i ∧ k (.int (-i)) C1) : wE X W (.UnaryOp .USub a pos) G C k :=
  wE_of (pe_un un_neg pe_sem) fun σ P H Q g z => h σ P H _ g fun d C1 v P1 H1 n1 r1 h1 => by
    obtain ⟨t, rfl, h1⟩ := h1
    cases r1
    exact ⟨t, rfl, z _ C1 _ P1 H1 n1 (.int (-t)) h1⟩
variable {rest : List Expr}
theorem wB_and1 (h : wT X W a G C kb) : wB X W (.BoolOp .And [a] pos) G C kb := wB_of (pw_and1 pt_sem) fun σ P H Q g z => h σ P H Q g z
theorem wB_or1 (h : wT X W a G C kb) : wB X W (.BoolOp .Or [a] pos) G C kb := wB_of (pw_or1 pt_sem) fun σ P H Q g z => h σ P H Q g z
theorem wB_and (h : wT X W a G C fun t C1 => (t = true → wB X W (.BoolOp .And (b :: rest) pos) G C1 kb) ∧ (t = false → kb false C1)) : wB X W (.BoolOp .And (a :: b :: rest) pos) G C kb :=
  wB_of (pw_and pt_sem pw_sem) fun σ P H Q g z => h σ P H _ g fun t C1 P1 H1 n1 h1 => by
    cases t with
    | true => exact h1.1 rfl σ P1 H1 Q n1.good fun b C2 P2 H2 n2 => z b C2 P2 H2 (n1.tr n2)
    | false => exact z false C1 P1 H1 n1 (h1.2 rfl)
theorem wB_or (h : wT X W a G C fun t C1 => (t = true → kb true C1) ∧ (t = false → wB X W (.BoolOp .Or (b :: rest) pos) G C1 kb)) : wB X W (.BoolOp .Or (a :: b :: rest) pos) G C kb :=
  wB_of (pw_or pt_sem pw_sem) fun σ P H Q g z => h σ P H _ g fun t C1 P1 H1 n1 h1 => by
    cases t with
    | true => exact z true C1 P1 H1 n1 (h1.1 rfl)
    | false => exact h1.2 rfl σ P1 H1 Q n1.good fun b C2 P2 H2 n2 => z b C2 P2 H2 (n1.tr n2)
/-- .. without changing objects: the answer is p and q -/
theorem wB_andP {p q : Bool} (ha : wT X W a G C fun t C1 => t = p ∧ C1 = C) (hb : p = true → wB X W (.BoolOp .And (b :: rest) pos) G C fun t C1 => t = q ∧ C1 = C) (z : kb (p && q) C) : wB X W (.BoolOp .And (a :: b :: rest) pos) G C kb := by
  refine wB_and (ha.mono fun t C1 e => ?_)
  obtain ⟨rfl, rfl⟩ := e
  refine ⟨fun e => ?_, fun e => ?_⟩
  · refine wB_v (hb e) ?_
    rw [e] at z; exact z
  · rw [e] at z; exact z
theorem wB_orP {p q : Bool} (ha : wT X W a G C fun t C1 => t = p ∧ C1 = C) (hb : p = false → wB X W (.BoolOp .Or (b :: rest) pos) G C fun t C1 => t = q ∧ C1 = C) (z : kb (p || q) C) : wB X W (.BoolOp .Or (a :: b :: rest) pos) G C kb := by
  refine wB_or (ha.mono fun t C1 e => ?_)
  obtain ⟨rfl, rfl⟩ := e
  refine ⟨fun e => ?_, fun e => ?_⟩
  · rw [e] at z; exact z
  · refine wB_v (hb e) ?_
    rw [e] at z; exact z
theorem wE_one {op : BoolOp} (h : wE X W a G C k) : wE X W (.BoolOp op [a] pos) G C k := wE_of (pe_one pe_sem) fun σ P H Q g z => h σ P H Q g z
theorem wE_and (h : wE X W a G C fun d C1 => ∃ t, d = .bl t ∧ (t = true → wE X W (.BoolOp .And (b :: rest) pos) G C1 k) ∧ (t = false → k (.bl false) C1)) : wE X W (.BoolOp .And (a :: b :: rest) pos) G C k :=
  wE_of (pe_and pe_sem pe_sem) fun σ P H Q g z => h σ P H _ g fun d C1 v P1 H1 n1 r1 h1 => by
    obtain ⟨t, rfl, h1, h2⟩ := h1
    cases r1
    refine ⟨t, rfl, ?_⟩
    cases t with
    | true => exact h1 rfl σ P1 H1 Q n1.good fun d C2 v P2 H2 n2 => z d C2 v P2 H2 (n1.tr n2)
    | false => exact z _ C1 _ P1 H1 n1 (.bl false) (h2 rfl)
theorem wE_or (h : wE X W a G C fun d C1 => ∃ t, d = .bl t ∧ (t = true → k (.bl true) C1) ∧ (t = false → wE X W (.BoolOp .Or (b :: rest) pos) G C1 k)) : wE X W (.BoolOp .Or (a :: b :: rest) pos) G C k :=
  wE_of (pe_or pe_sem pe_sem) fun σ P H Q g z => h σ P H _ g fun d C1 v P1 H1 n1 r1 h1 => by
    obtain ⟨t, rfl, h1, h2⟩ := h1
    cases r1
    refine ⟨t, rfl, ?_⟩
    cases t with
    | true => exact z _ C1 _ P1 H1 n1 (.bl true) (h1 rfl)
    | false => exact h2 rfl σ P1 H1 Q n1.good fun d C2 v P2 H2 n2 => z d C2 v P2 H2 (n1.tr n2)
theorem wE_andP {p q : Bool} (ha : wE X W a G C fun d C1 => d = .bl p ∧ C1 = C) (hb : p = true → wE X W (.BoolOp .And (b :: rest) pos) G C fun d C1 => d = .bl q ∧ C1 = C) (z : k (.bl (p && q)) C) : wE X W (.BoolOp .And (a :: b :: rest) pos) G C k := by
  refine wE_and (ha.mono fun d C1 e => ?_)
  obtain ⟨rfl, rfl⟩ := e
  refine ⟨p, rfl, fun e => ?_, fun e => ?_⟩
  · refine wE_v (hb e) ?_
    rw [e] at z; exact z
  · rw [e] at z; exact z
theorem wE_orP {p q : Bool} (ha : wE X W a G C fun d C1 => d = .bl p ∧ C1 = C) (hb : p = false → wE X W (.BoolOp .Or (b :: rest) pos) G C fun d C1 => d = .bl q ∧ C1 = C) (z : k (.bl (p || q)) C) : wE X W (.BoolOp .Or (a :: b :: rest) pos) G C k := by
  refine wE_or (ha.mono fun d C1 e => ?_)
  obtain ⟨rfl, rfl⟩ := e
  refine ⟨p, rfl, fun e => ?_, fun e => ?_⟩
  · rw [e] at z; exact z
  · refine wE_v (hb e) ?_
    rw [e] at z; exact z
/-- a if c else b -/
theorem wE_if (h : wT X W c G C fun t C1 => (t = true → wE X W a G C1 k) ∧ (t = false → wE X W b G C1 k)) : wE X W (.IfExp c a b pos) G C k :=
  wE_of (pe_ifExp pt_sem pe_sem pe_sem) fun σ P H Q g z => h σ P H _ g fun t C1 P1 H1 n1 h1 => by
    cases t with
    | true => exact h1.1 rfl σ P1 H1 Q n1.good fun d C2 v P2 H2 n2 => z d C2 v P2 H2 (n1.tr n2)
    | false => exact h1.2 rfl σ P1 H1 Q n1.good fun d C2 v P2 H2 n2 => z d C2 v P2 H2 (n1.tr n2)

/-! arguments, displays -/
variable {es : List Expr} {ka : KDs}
theorem wA_nil (q : ka [] C) : wA X W [] G C ka := fun σ P H Q g z pos pins s I => (pa_nil (X := X)).run pos pins s σ H Q I (z [] C [] P H g.refl .nil q)
theorem wA_cons (h : wE X W e G C fun d C1 => wA X W es G C1 fun ds C2 => ka (d :: ds) C2) (hs : starEach (e :: es) X.env = (false, eval e X.env) :: starEach es X.env := by rfl) : wA X W (e :: es) G C ka :=
  fun σ P H Q g z pos pins s I => (pa_cons pe_sem pa_sem hs).run pos pins s σ H Q I (h σ P H _ g fun d C1 v P1 H1 n1 r1 h1 => h1 σ P1 H1 _ n1.good fun ds C2 vs P2 H2 n2 r2 h2 => z (d :: ds) C2 (v :: vs) P2 H2 (n1.tr n2) (.cons (r1.ex' n2.ex) r2) h2)
theorem wA_v {ds : List D} (h : wA X W es G C fun d' C' => d' = ds ∧ C' = C) (q : ka ds C) : wA X W es G C ka := fun σ P H Q g z => h σ P H Q g fun d C' v P' H' n r e => by obtain ⟨rfl, rfl⟩ := e; exact z _ _ v P' H' n r q
theorem small_le {n : Nat} (h : n ≤ 100000) : n ≤ sizeLine := Nat.le_trans h (by decide)
theorem small_lt {n : Nat} (h : n < 100000) : n < sizeLine := Nat.lt_of_lt_of_le h (by decide)
/-- displays that stay as they are -/
theorem wE_tup {kx : Nat} (h : wA X W es G C fun ds C1 => ds.length ≤ 100000 ∧ k (.tup ds) C1) : wE X W (.Tuple es kx pos) G C k :=
  wE_of (pe_tup pa_sem) fun σ P H Q g z => h σ P H _ g fun ds C1 vs P1 H1 n1 r1 h1 =>
    ⟨by rw [r1.len]; exact small_le h1.1, fun p np =>
      have n2 := n1.good.new (o := .tup vs) np
      z _ C1 (.ref p) _ _ (n1.tr n2) (.tup upd_same (r1.ex' n2.ex)) h1.2⟩
theorem wE_lst (h : wA X W es G C fun ds C1 => ds.length ≤ 100000 ∧ k (.lst ds) C1) : wE X W (.List es pos) G C k :=
  wE_of (pe_lst pa_sem) fun σ P H Q g z => h σ P H _ g fun ds C1 vs P1 H1 n1 r1 h1 =>
    ⟨by rw [r1.len]; exact small_le h1.1, fun p np =>
      have n2 := n1.good.new (o := .lst vs) np
      z _ C1 (.ref p) _ _ (n1.tr n2) (.lst upd_same (r1.ex' n2.ex)) h1.2⟩
/-- a list that may change -/
theorem wE_lstC (h : wA X W es G C fun ds C1 => ds.length ≤ 100000 ∧ ∀ p, k (.ref p) (C1 ++ [(p, .lst ds)])) : wE X W (.List es pos) G C k :=
  wE_of (pe_lst pa_sem) fun σ P H Q g z => h σ P H _ g fun ds C1 vs P1 H1 n1 r1 h1 =>
    ⟨by rw [r1.len]; exact small_le h1.1, fun p np =>
      z _ _ (.ref p) P1 _ ⟨n1.ex, n1.good.newCell (c := .lst ds) np ⟨vs, rfl, r1⟩⟩ (.ref p) (h1.2 p)⟩
theorem wE_dctC (h : ∀ p, k (.ref p) (C ++ [(p, .dct [] [])])) : wE X W (.Dict [] [] pos) G C k :=
  wE_of pe_dnewK fun σ P H Q g z p np => z _ _ (.ref p) P _ ⟨Ex.rfl' P, g.newCell (c := .dct [] []) np ⟨[], rfl, rfl, .nil⟩⟩ (.ref p) (h p)
theorem wE_dct0 (h : k (.dct [] []) C) : wE X W (.Dict [] [] pos) G C k :=
  wE_of pe_dnewK fun σ P H Q g z p np => by
    have n2 := g.new (o := .dK []) np
    exact z _ C (.ref p) _ _ n2 (.dct (ks := []) (vs := []) upd_same rfl .nil) h

/-! subscripts -/
def semX (X : Cx) : R2 := fun x y H Q => ∀ (value slice : Expr) (pins : List (Addr × Obj)) (s : Shared) (σ : L2.St) (u v : Value), Inv X pins σ H s → RelV x u → RelV y v → subscripted slice false u v = operate [u, v] (getItem u v) →
  wpAny (model X.prog X.w) X.A (subscriptTail value slice u v) (EP X pins σ Q) X.xe s
/-- x[i] by values -/
def xD (X : Cx) (W : Wd) (x y : D) (G : List (Option D)) (C : Cells) (k : KD) : Prop :=
  ∀ (σ : L2.St) (P H : Hp) (Q : VK) (v u : V), Good X.K W G C σ P H → Rep X.K P v x → Rep X.K P u y → (∀ d C' z P' H', Next X.K W G C' σ P P' H' → Rep X.K P' z d → k d C' → Q z H') → semX X v u H Q
theorem wE_ix (h : wE X W a G C fun x C1 => wE X W b G C1 fun y C2 => xD X W x y G C2 k) (hs : PlainIx b := by exact fun _ _ => rfl) : wE X W (.Subscript a b pos) G C k :=
  wE_of (pe_ix (r := semX X) (fun value slice pins s σ H x y v u Q I rx ry h hs => h value slice pins s σ v u I rx ry hs) pe_sem pe_sem hs) fun σ P H Q g z =>
    h σ P H _ g fun x C1 v P1 H1 n1 r1 h1 => h1 σ P1 H1 _ n1.good fun y C2 u P2 H2 n2 r2 h2 => h2 σ P2 H2 Q v u n2.good (r1.ex' n2.ex) r2 fun d C3 w P3 H3 n3 => z d C3 w P3 H3 (n1.tr (n2.tr n3))
theorem xD_of {r : R2} {x y : D} (h : IxR X r) (hr : ∀ σ P H (Q : VK) v u, Good X.K W G C σ P H → Rep X.K P v x → Rep X.K P u y → (∀ d C' z P' H', Next X.K W G C' σ P P' H' → Rep X.K P' z d → k d C' → Q z H') → r v u H Q) : xD X W x y G C k :=
  fun σ P H Q v u g r1 r2 z value slice pins s σ' u' v' I rx ry hs => h value slice pins s σ' H v u u' v' Q I rx ry (hr σ P H Q v u g r1 r2 z) hs
theorem oD_of {f : Value → Value → Sem Value} {r : R2} {x y : D} (h : OpR X f r) (hr : ∀ σ P H (Q : VK) v u, Good X.K W G C σ P H → Rep X.K P v x → Rep X.K P u y → (∀ d C' z P' H', Next X.K W G C' σ P P' H' → Rep X.K P' z d → k d C' → Q z H') → r v u H Q) : oD X W f x y G C k :=
  fun σ P H Q v u g r1 r2 z pins s σ' u' v' I rx ry => h pins s σ' H v u u' v' Q I rx ry (hr σ P H Q v u g r1 r2 z)
theorem cD_of {f : Value} {r : List V → Hp → VK → Prop} {ds : List D} (h : CallR X f r) (hr : ∀ σ P H (Q : VK) vs, Good X.K W G C σ P H → Reps X.K P vs ds → (∀ d C' z P' H', Next X.K W G C' σ P P' H' → Rep X.K P' z d → k d C' → Q z H') → r vs H Q) : cD X W f ds G C k :=
  fun σ P H Q vs g r1 z pins s σ' us I rs => h pins s σ' H vs us Q I rs (hr σ P H Q vs g r1 z)
theorem atI_reps {K : PySem.W.Frag} {P : Hp} {ds : List D} {vs : List V} {i : Int} {d : D} (r : Reps K P vs ds) (h : atI ds i = some d) : ∃ v, atI vs i = some v ∧ Rep K P v d := by
  unfold atI at h ⊢
  rw [r.len]
  cases e : ixN ds.length i with
  | none => rw [e] at h; cases h
  | some j =>
    rw [e] at h
    obtain ⟨v, h1, h2⟩ := r.get (i := j) (d := d) (by simpa using h)
    exact ⟨v, by simpa using h1, h2⟩
theorem xD_lst {ds : List D} {i : Int} {d : D} (h : atI ds i = some d) (q : k d C) : xD X W (.lst ds) (.int i) G C k :=
  xD_of ix_list fun σ P H Q v u g r1 r2 z => by
    cases r1 with
    | lst hs rs =>
      cases r2
      obtain ⟨v, h1, h2⟩ := atI_reps rs h
      exact ⟨_, _, i, v, rfl, rfl, .inl (.inl (le_lst g.le hs)), h1, z d C v P H g.refl h2 q⟩
theorem xD_scr {ds : List D} {i : Int} {d : D} (h : atI ds i = some d) (q : k d C) : xD X W (.scr ds) (.int i) G C k :=
  xD_of ix_list fun σ P H Q v u g r1 r2 z => by
    cases r1 with
    | scr hs rs =>
      cases r2
      obtain ⟨v, h1, h2⟩ := atI_reps rs h
      exact ⟨_, _, i, v, rfl, rfl, le_sqL g.le hs, h1, z d C v P H g.refl h2 q⟩
theorem xD_tup {ds : List D} {i : Int} {d : D} (h : atI ds i = some d) (q : k d C) : xD X W (.tup ds) (.int i) G C k :=
  xD_of ix_tup fun σ P H Q v u g r1 r2 z => by
    cases r1 with
    | tup hs rs =>
      cases r2
      obtain ⟨v, h1, h2⟩ := atI_reps rs h
      exact ⟨_, _, i, v, rfl, rfl, .inl (.inl (le_tup g.le hs)), h1, z d C v P H g.refl h2 q⟩
theorem xD_str {x : Str} {i : Int} {c : Nat} (hl : x.length ≤ 100000) (h : atI x.cps.toList i = some c) (q : k (.str ⟨#[c]⟩) C) : xD X W (.str x) (.int i) G C k :=
  xD_of ix_str fun σ P H Q v u g r1 r2 z => by
    cases r1; cases r2
    exact ⟨x, i, c, rfl, rfl, small_le hl, h, z _ C _ P H g.refl (.str _) q⟩
/-- of a list that may change -/
theorem xD_cell (j : Nat) {a : Addr} {ds : List D} {i : Int} {d : D} (hc : C[j]? = some (a, .lst ds)) (h : atI ds i = some d) (q : k d C) : xD X W (.ref a) (.int i) G C k :=
  xD_of ix_list fun σ P H Q v u g r1 r2 z => by
    cases r1; cases r2
    obtain ⟨o, ho, vs, rfl, rs⟩ := g.cell hc
    obtain ⟨v, h1, h2⟩ := atI_reps rs h
    exact ⟨_, _, i, v, rfl, rfl, .inl (.inl ho), h1, z d C v P H g.refl h2 q⟩

/-! operations -/
section ops
variable {i j : Int}
theorem o_add (q : k (.int (i + j)) C) : oD X W (binaryOp .Add) (.int i) (.int j) G C k := oD_of op_add fun σ P H Q v u g r1 r2 z => by cases r1; cases r2; exact ⟨i, j, rfl, rfl, z _ C _ P H g.refl (.int _) q⟩
theorem o_sub (q : k (.int (i - j)) C) : oD X W (binaryOp .Sub) (.int i) (.int j) G C k := oD_of op_sub fun σ P H Q v u g r1 r2 z => by cases r1; cases r2; exact ⟨i, j, rfl, rfl, z _ C _ P H g.refl (.int _) q⟩
theorem o_mul (hc : CMul i j) (q : k (.int (i * j)) C) : oD X W (binaryOp .Mult) (.int i) (.int j) G C k := oD_of op_mul fun σ P H Q v u g r1 r2 z => by cases r1; cases r2; exact ⟨i, j, rfl, rfl, hc, z _ C _ P H g.refl (.int _) q⟩
theorem o_fdiv (hc : 0 < j ∧ j < 1073741824) (q : k (.int (i / j)) C) : oD X W (binaryOp .FloorDiv) (.int i) (.int j) G C k := oD_of op_fdiv fun σ P H Q v u g r1 r2 z => by cases r1; cases r2; exact ⟨i, j, rfl, rfl, hc, z _ C _ P H g.refl (.int _) q⟩
theorem o_mod (hc : 0 < j) (q : k (.int (i % j)) C) : oD X W (binaryOp .Mod) (.int i) (.int j) G C k := oD_of op_mod fun σ P H Q v u g r1 r2 z => by cases r1; cases r2; exact ⟨i, j, rfl, rfl, hc, z _ C _ P H g.refl (.int _) q⟩
theorem o_pow (hc : 0 ≤ j ∧ j ≤ 1000000 ∧ i.natAbs < 2 ^ 64) (q : k (.int (i ^ j.toNat)) C) : oD X W (binaryOp .Pow) (.int i) (.int j) G C k := oD_of op_pow fun σ P H Q v u g r1 r2 z => by cases r1; cases r2; exact ⟨i, j, rfl, rfl, hc, z _ C _ P H g.refl (.int _) q⟩
theorem o_lt (q : k (.bl (decide (i < j))) C) : oD X W (compareOp .Lt) (.int i) (.int j) G C k := oD_of op_lt fun σ P H Q v u g r1 r2 z => by cases r1; cases r2; exact ⟨i, j, rfl, rfl, z _ C _ P H g.refl (.bl _) q⟩
theorem o_le (q : k (.bl (decide (i ≤ j))) C) : oD X W (compareOp .LtE) (.int i) (.int j) G C k := oD_of op_le fun σ P H Q v u g r1 r2 z => by cases r1; cases r2; exact ⟨i, j, rfl, rfl, z _ C _ P H g.refl (.bl _) q⟩
theorem o_gt (q : k (.bl (decide (j < i))) C) : oD X W (compareOp .Gt) (.int i) (.int j) G C k := oD_of op_gt fun σ P H Q v u g r1 r2 z => by cases r1; cases r2; exact ⟨i, j, rfl, rfl, z _ C _ P H g.refl (.bl _) q⟩
theorem o_ge (q : k (.bl (decide (j ≤ i))) C) : oD X W (compareOp .GtE) (.int i) (.int j) G C k := oD_of op_ge fun σ P H Q v u g r1 r2 z => by cases r1; cases r2; exact ⟨i, j, rfl, rfl, z _ C _ P H g.refl (.bl _) q⟩
theorem dec_V {α : Type} {f : α → V} (hf : ∀ a b, f a = f b → a = b) [DecidableEq α] (a b : α) : decide (f a = f b) = decide (a = b) := by
  by_cases e : a = b
  · subst e; simp
  · rw [decide_eq_false e, decide_eq_false fun z => e (hf a b z)]
theorem o_eqI (q : k (.bl (decide (i = j))) C) : oD X W (compareOp .Eq) (.int i) (.int j) G C k := oD_of op_eq fun σ P H Q v u g r1 r2 z => by
  cases r1; cases r2
  refine ⟨rfl, z _ C _ P H g.refl (.bl _) ?_⟩
  rw [dec_V (f := V.int) (fun a b e => by injection e)]; exact q
theorem o_neI (q : k (.bl (!decide (i = j))) C) : oD X W (compareOp .NotEq) (.int i) (.int j) G C k := oD_of op_ne fun σ P H Q v u g r1 r2 z => by
  cases r1; cases r2
  refine ⟨rfl, z _ C _ P H g.refl (.bl _) ?_⟩
  rw [dec_V (f := V.int) (fun a b e => by injection e)]; exact q
theorem o_eqS {x y : Str} (q : k (.bl (decide (x = y))) C) : oD X W (compareOp .Eq) (.str x) (.str y) G C k := oD_of op_eq fun σ P H Q v u g r1 r2 z => by
  cases r1; cases r2
  refine ⟨rfl, z _ C _ P H g.refl (.bl _) ?_⟩
  rw [dec_V (f := V.str) (fun a b e => by injection e)]; exact q
theorem o_neS {x y : Str} (q : k (.bl (!decide (x = y))) C) : oD X W (compareOp .NotEq) (.str x) (.str y) G C k := oD_of op_ne fun σ P H Q v u g r1 r2 z => by
  cases r1; cases r2
  refine ⟨rfl, z _ C _ P H g.refl (.bl _) ?_⟩
  rw [dec_V (f := V.str) (fun a b e => by injection e)]; exact q
/-- texts glued -/
theorem o_addS {x y : Str} (hl : x.length + y.length ≤ 100000) (q : k (.str (x ++ y)) C) : oD X W (binaryOp .Add) (.str x) (.str y) G C k := oD_of op_add_str fun σ P H Q v u g r1 r2 z => by
  cases r1; cases r2; exact ⟨x, y, rfl, rfl, small_le hl, z _ C _ P H g.refl (.str _) q⟩
/-- one sign in a text -/
theorem o_inS {c : Nat} {y : Str} (q : k (.bl (decide (c ∈ y.cps.toList))) C) : oD X W (compareOp .In) (.str ⟨#[c]⟩) (.str y) G C k := oD_of op_in_sign fun σ P H Q v u g r1 r2 z => by
  cases r1; cases r2; exact ⟨c, y, rfl, rfl, z _ C _ P H g.refl (.bl _) q⟩
theorem o_niS {c : Nat} {y : Str} (q : k (.bl (!decide (c ∈ y.cps.toList))) C) : oD X W (compareOp .NotIn) (.str ⟨#[c]⟩) (.str y) G C k := oD_of op_notIn_sign fun σ P H Q v u g r1 r2 z => by
  cases r1; cases r2; exact ⟨c, y, rfl, rfl, z _ C _ P H g.refl (.bl _) q⟩
/-- what is None -/
def isNon : D → Bool
  | .non => true
  | _ => false
theorem rep_non {K : PySem.W.Frag} {P : Hp} {v : V} : ∀ {d : D}, Rep K P v d → decide (v = .non) = isNon d := fun {d} r => by
  cases r <;> first | rfl | simp [isNon]
theorem o_isN {x : D} (q : k (.bl (isNon x)) C) : oD X W (compareOp .Is) x .non G C k := oD_of op_isN fun σ P H Q v u g r1 r2 z => by
  cases r2; exact ⟨rfl, by rw [rep_non r1]; exact z _ C _ P H g.refl (.bl _) q⟩
theorem o_notN {x : D} (q : k (.bl (!isNon x)) C) : oD X W (compareOp .IsNot) x .non G C k := oD_of op_notN fun σ P H Q v u g r1 r2 z => by
  cases r2; exact ⟨rfl, by rw [rep_non r1]; exact z _ C _ P H g.refl (.bl _) q⟩
/-- lists glued: a new list -/
theorem o_cat {xs ys : List D} (hl : xs.length + ys.length ≤ 100000) (q : k (.lst (xs ++ ys)) C) : oD X W (binaryOp .Add) (.lst xs) (.lst ys) G C k := oD_of op_cat fun σ P H Q v u g r1 r2 z => by
  cases r1 with
  | @lst a1 vs1 _ h1 s1 =>
    cases r2 with
    | @lst a2 vs2 _ h2 s2 =>
      refine ⟨_, _, vs1, vs2, rfl, rfl, le_lst g.le h1, le_lst g.le h2, by rw [s1.len, s2.len]; exact small_le hl, fun p np => ?_⟩
      have n := g.new (o := .lst (vs1 ++ vs2)) np
      exact z _ C (.ref p) _ _ n (.lst upd_same ((s1.app s2).ex' n.ex)) q
/-- tuples glued, the left one not empty -/
theorem o_catT {x : D} {xs ys : List D} (hl : (x :: xs).length + ys.length ≤ 100000) (q : k (.tup (x :: xs ++ ys)) C) : oD X W (binaryOp .Add) (.tup (x :: xs)) (.tup ys) G C k := oD_of op_catT fun σ P H Q v u g r1 r2 z => by
  cases r1 with
  | @tup a1 vs1 _ h1 s1 =>
    cases r2 with
    | @tup a2 vs2 _ h2 s2 =>
      refine ⟨_, _, vs1, vs2, rfl, rfl, .inl (.inl (le_tup g.le h1)), .inl (.inl (le_tup g.le h2)), (by cases s1; simp), by rw [s1.len, s2.len]; exact small_le hl, fun e => ?_, fun e p np => ?_⟩
      · subst e
        cases s2
        rw [List.append_nil] at q
        exact z _ C _ P H g.refl (.tup h1 s1) q
      · have n := g.new (o := .tup (vs1 ++ vs2)) np
        exact z _ C (.ref p) _ _ n (.tup upd_same ((s1.app s2).ex' n.ex)) q
end ops
end
end EW

namespace EW
open PySem PySem.Spec PyProof.Rows L2

section
variable {X : Cx} {W : Wd} {G : List (Option D)} {C : Cells} {k : KD} {kb : KB} {E E' : DE} {e a b c : Expr} {pos : Pos} {st : Stmt} {sts : List Stmt}

/-! ### statements -/
theorem wS_of {t : TS} (h : PS X st t) (r : ∀ σ P H (T : Ends), Good X.K W G C σ P H → Fits X W P E T → t T σ H) : wS X W st G C E := fun σ P H T g f pins s I => h.run pins s σ H T I (r σ P H T g f)
theorem wSs_nil (q : E.nx G C) : wSs X W [] G C E := fun σ P H T g f pins s I => (pss_nil (X := X)).run pins s σ H T I (f.nx G C σ P H g.refl q)
theorem wSs_cons (h : wS X W st G C { E with nx := fun G' C' => wSs X W sts G' C' E }) : wSs X W (st :: sts) G C E := fun σ P H T g f pins s I =>
  (pss_cons ps_sem pss_sem).run pins s σ H T I (h σ P H { T with nx := semSs X sts T } g ⟨fun G' C' σ' P' H' n q => q σ' P' H' T n.good (f.mono n.ex), f.rt, f.bk, f.ct⟩)
theorem wSs.mono (h : wSs X W sts G C E) (m : ∀ G C, E.nx G C → E'.nx G C) (mr : ∀ d C, E.rt d C → E'.rt d C) (mb : ∀ G C, E.bk G C → E'.bk G C) (mc : ∀ G C, E.ct G C → E'.ct G C) : wSs X W sts G C E' := fun σ P H T g f =>
  h σ P H T g ⟨fun G' C' σ' P' H' n q => f.nx G' C' σ' P' H' n (m _ _ q), fun d C' v P' H' n r q => f.rt d C' v P' H' n r (mr _ _ q), fun G' C' σ' P' H' n q => f.bk G' C' σ' P' H' n (mb _ _ q), fun G' C' σ' P' H' n q => f.ct G' C' σ' P' H' n (mc _ _ q)⟩
/-- what follows is shown from a word -/
theorem wSs_cut (M : List (Option D) → Cells → Prop) (h : wS X W st G C { E with nx := M }) (r : ∀ G' C', M G' C' → wSs X W sts G' C' E) : wSs X W (st :: sts) G C E :=
  wSs_cons fun σ P H T g f => h σ P H T g ⟨fun G' C' σ' P' H' n q => f.nx G' C' σ' P' H' n (r _ _ q), f.rt, f.bk, f.ct⟩
theorem wS_asg {tg : Expr} (h : wE X W e G C fun d C1 => wG X W tg d G C1 E.nx) (hs : swapsWithSole [tg] e pos.line X.env = pure false := by rfl) (hw : swappedStores [tg] e X.env = pure none := by rfl)
    (h1 : (assignEach [tg] X.env).map (·.2) = [assign tg X.env] := by rfl) : wS X W (.Assign [tg] e pos) G C E :=
  wS_of (ps_asg pe_sem pg_sem hs hw h1) fun σ P H T g f => h σ P H _ g fun d C1 v P1 H1 n1 r1 q => q σ P1 H1 _ v n1.good r1 fun G' C' σ' P' H' n => f.nx G' C' σ' P' H' (n1.tr n)
/-- name = e -/
theorem wS_set (i : Nat) {x : Str} {p' : Pos} (h : wE X W e G C fun d C1 => E.nx (G.set i (some d)) C1) (nd : X.N.Nodup) (hi : X.N[i]? = some x := by rfl) (hx : Loc X.env.scope x := by first | exact Or.inl rfl | exact Or.inr rfl)
    (hs : swapsWith e (some (.Name x p')) pos.line X.env = pure false := by rfl) (hf : X.fn x = true ∨ X.env.scope.names.lookup x = some .local := by first | exact .inl rfl | exact .inr rfl) : wS X W (.Assign [.Name x p'] e pos) G C E :=
  wS_of (ps_set nd hi hx pe_sem hs hf) fun σ P H T g f => h σ P H _ g fun d C1 v P1 H1 n1 r1 q => f.nx _ C1 _ P1 H1 ⟨n1.ex, n1.good.slot r1⟩ q
theorem wG_nm (i : Nat) {x : Str} {d : D} {kg : List (Option D) → Cells → Prop} (q : kg (G.set i (some d)) C) (nd : X.N.Nodup) (hi : X.N[i]? = some x := by rfl) (hx : Loc X.env.scope x := by first | exact Or.inl rfl | exact Or.inr rfl)
    (hf : X.fn x = true ∨ X.env.scope.names.lookup x = some .local := by first | exact .inl rfl | exact .inr rfl) : wG X W (.Name x pos) d G C kg := fun σ P H Q v g r z pins s u I rv =>
  (pg_name nd hi hx hf).run pins s σ H v u Q I rv (z _ C _ P H ⟨Ex.rfl' P, g.slot r⟩ q)
/-- several targets, the values one by one -/
def semGs (X : Cx) (ts : List Expr) : TGs := fun vs σ H Q => ∀ (pins : List (Addr × Obj)) (s : Shared) (us : List Value), Inv X pins σ H s → Vals vs us →
  wpAny (model X.prog X.w) X.A (assignInOrder ((assignEach ts X.env).map (·.2)) us) (fun _ s' => ∃ σ' H', Inv X pins σ' H' s' ∧ Q σ' H') X.xe s
theorem pgs_sem {ts : List Expr} : PGs X ts (semGs X ts) := ⟨fun pins s _ _ _ us _ I r h => h pins s us I r⟩
def wTs (X : Cx) (W : Wd) (ts : List Expr) (ds : List D) (G : List (Option D)) (C : Cells) (kg : List (Option D) → Cells → Prop) : Prop :=
  ∀ (σ : L2.St) (P H : Hp) (Q : L2.St → Hp → Prop) (vs : List V), Good X.K W G C σ P H → Reps X.K P vs ds → (∀ G' C' σ' P' H', Next X.K W G' C' σ' P P' H' → kg G' C' → Q σ' H') → semGs X ts vs σ H Q
theorem wTs_nil {kg : List (Option D) → Cells → Prop} (q : kg G C) : wTs X W [] [] G C kg := fun σ P H Q vs g r z pins s us I rv => (pgs_nil (X := X)).run pins s σ H vs us Q I rv ⟨by cases r; rfl, z G C σ P H g.refl q⟩
theorem wTs_cons {t : Expr} {ts : List Expr} {d : D} {ds : List D} {kg : List (Option D) → Cells → Prop} (h : wG X W t d G C fun G1 C1 => wTs X W ts ds G1 C1 kg)
    (hs : (assignEach (t :: ts) X.env).map (·.2) = assign t X.env :: (assignEach ts X.env).map (·.2) := by rfl) : wTs X W (t :: ts) (d :: ds) G C kg := fun σ P H Q vs g r z pins s us I rv =>
  (pgs_cons pg_sem pgs_sem hs).run pins s σ H vs us Q I rv (by
    cases r with
    | cons r1 r2 => exact ⟨_, _, rfl, h σ P H _ _ g r1 fun G1 C1 σ1 P1 H1 n1 q => q σ1 P1 H1 Q _ n1.good (r2.ex' n1.ex) fun G' C' σ' P' H' n => z G' C' σ' P' H' (n1.tr n)⟩)
theorem wG_tup {ts : List Expr} {kx : Nat} {ds : List D} {kg : List (Option D) → Cells → Prop} (h : wTs X W ts ds G C kg) (hl : ds.length = ts.length) (hc : X.calm = true)
    (hn : (assignEach ts X.env).length = ts.length := by rfl) (hst : (assignEach ts X.env).findIdx? (·.1) = none := by rfl) : wG X W (.Tuple ts kx pos) (.tup ds) G C kg := fun σ P H Q v g r z pins s u I rv =>
  (pg_tup hc pgs_sem hn hst).run pins s σ H v u Q I rv (by
    cases r with
    | @tup a vs _ h1 rs => exact ⟨a, vs, rfl, .inl (.inl (le_tup g.le h1)), by rw [rs.len, hl], h σ P H Q vs g rs z⟩)
theorem wS_expr (h : wE X W e G C fun _ C1 => E.nx G C1) (hs : swapsWith e none pos.line X.env = pure false := by rfl) : wS X W (.Expr e pos) G C E :=
  wS_of (ps_expr pe_sem hs) fun σ P H T g f => h σ P H _ g fun d C1 v P1 H1 n1 r1 q => f.nx G C1 σ P1 H1 n1 q
theorem wS_doc {x : Str} {j : Nat} {p' : Pos} (q : E.nx G C) : wS X W (.Expr (.Constant (.str x) j p') pos) G C E := wS_of ps_doc fun σ P H T g f => f.nx G C σ P H g.refl q
theorem Next.nil {K : PySem.W.Frag} {σ : L2.St} {P P' H' : Hp} (n : Next K W G C σ P P' H') : Next K W [] C [] P P' H' := ⟨n.ex, n.good.nil⟩
theorem wS_ret (h : wE X W e G C E.rt) : wS X W (.Return (some e) pos) G C E :=
  wS_of (ps_ret pe_sem) fun σ P H T g f => h σ P H _ g fun d C1 v P1 H1 n1 r1 q => f.rt d C1 v P1 H1 n1.nil r1 q
theorem wS_retN (q : E.rt .non C) : wS X W (.Return none pos) G C E := wS_of ps_retN fun σ P H T g f => f.rt .non C .non P H g.refl.nil .non q
theorem wS_pass (q : E.nx G C) : wS X W (.Pass pos) G C E := wS_of ps_pass fun σ P H T g f => f.nx G C σ P H g.refl q
theorem wS_break (q : E.bk G C) : wS X W (.Break pos) G C E := wS_of ps_break fun σ P H T g f => f.bk G C σ P H g.refl q
theorem wS_if {as bs : List Stmt} (h : wT X W c G C fun t C1 => (t = true → wSs X W as G C1 E) ∧ (t = false → wSs X W bs G C1 E)) : wS X W (.If c as bs pos) G C E :=
  wS_of (ps_if pt_sem pss_sem pss_sem) fun σ P H T g f => h σ P H _ g fun t C1 P1 H1 n1 q => by
    cases t with
    | true => exact q.1 rfl σ P1 H1 T n1.good (f.mono n1.ex)
    | false => exact q.2 rfl σ P1 H1 T n1.good (f.mono n1.ex)
/-- x += e, intsD -/
theorem wS_aug (i : Nat) {x : Str} {p' : Pos} {n : Int} (hd : G[i]? = some (some (.int n))) (h : wE X W e G C fun d C1 => ∃ m, d = .int m ∧ E.nx (G.set i (some (.int (n + m)))) C1) (nd : X.N.Nodup) (hi : X.N[i]? = some x := by rfl) (hx : Loc X.env.scope x := by first | exact Or.inl rfl | exact Or.inr rfl)
    (hf : X.fn x = true ∨ X.env.scope.names.lookup x = some .local := by first | exact .inl rfl | exact .inr rfl) : wS X W (.AugAssign (.Name x p') .Add e pos) G C E :=
  wS_of (ps_aug nd hi hx pe_sem ip_add hf) fun σ P H T g f => by
    obtain ⟨v, h1, h2⟩ := g.sl i _ hd
    cases h2
    refine ⟨_, h1, h σ P H _ g fun d C1 v P1 H1 n1 r1 q => ?_⟩
    obtain ⟨m, rfl, q⟩ := q
    cases r1
    exact ⟨n, m, rfl, rfl, f.nx _ C1 _ P1 H1 ⟨n1.ex, n1.good.slot (.int _)⟩ q⟩
/-! ### loops -/
/-- a while by its word and a measure -/
theorem wS_while {body : List Stmt} (Iv : Nat → List (Option D) → Cells → Prop) (m0 : Nat) (h0 : Iv m0 G C)
    (hs : ∀ m G' C', Iv m G' C' → wT X W c G' C' fun t C1 => (t = true → wSs X W body G' C1 { E with nx := fun G2 C2 => ∃ m', m' < m ∧ Iv m' G2 C2, ct := fun G2 C2 => ∃ m', m' < m ∧ Iv m' G2 C2, bk := E.nx }) ∧ (t = false → E.nx G' C1))
    (hp : PassesOwn (model X.prog X.w) X.A X.env X.xe) : wS X W (.While c body [] pos) G C E :=
  wS_of (ps_while hp pt_sem pss_sem) fun σ P H T g f =>
    ⟨fun m σ' H' => ∃ G' C' P', Next X.K W G' C' σ' P P' H' ∧ Iv m G' C', ⟨m0, G, C, P, g.refl, h0⟩, fun m σ' H' w => by
      obtain ⟨G', C', P', n, iv⟩ := w
      refine hs m G' C' iv σ' P' H' _ n.good fun t C1 P1 H1 n1 q => ?_
      cases t with
      | true =>
        refine ⟨fun σ2 H2 => ∃ m', m' < m ∧ ∃ G2 C2 P2, Next X.K W G2 C2 σ2 P P2 H2 ∧ Iv m' G2 C2, fun σ2 H2 w2 => by obtain ⟨m', hm, z⟩ := w2; exact ⟨m', hm, z⟩, ?_⟩
        have nn := n.tr n1
        refine q.1 rfl σ' P1 H1 _ n1.good ⟨fun G2 C2 σ2 P2 H2 n2 q2 => ?_, (f.mono nn.ex).rt, (f.mono nn.ex).nx, fun G2 C2 σ2 P2 H2 n2 q2 => ?_⟩
        · obtain ⟨m', hm, z⟩ := q2
          exact ⟨m', hm, G2, C2, P2, nn.tr n2, z⟩
        · obtain ⟨m', hm, z⟩ := q2
          exact ⟨m', hm, G2, C2, P2, nn.tr n2, z⟩
      | false => exact f.nx G' C1 σ' P1 H1 (n.tr n1) (q.2 rfl)⟩
/-- what is walked: it gives the data ds, one by one -/
structure Gives (K : PySem.W.Frag) (J : It) (ds : List D) (P : Hp) : Prop where
  wk : ∃ (Gc : Hp → Prop) (Y : Nat → Hp → V → Hp → Prop), L2.Walk J ds.length Gc Y ∧ (∀ P2 H2, Ex P P2 → Le P2 H2 → Gc H2) ∧
    ∀ i P2 H2 x H3, i < ds.length → Ex P P2 → Le P2 H2 → Y i H2 x H3 → ∃ P3 d, ds[i]? = some d ∧ Rep K P3 x d ∧ ((P3 = P2 ∧ H3 = H2) ∨ ∃ T o, H2 T = none ∧ H3 = upd H2 T o ∧ P3 = upd P2 T o)
def wI (X : Cx) (W : Wd) (tg iter : Expr) (G : List (Option D)) (C : Cells) (k : List D → Cells → Prop) : Prop :=
  ∀ (σ : L2.St) (P H : Hp) (R : It → Hp → Prop), Good X.K W G C σ P H → (∀ ds C' P' H' J, Next X.K W G C' σ P P' H' → Gives X.K J ds P' → k ds C' → R J H') → semI X tg iter σ H R
theorem wS_for {tg iter : Expr} {body : List Stmt} (h : wI X W tg iter G C fun ds C1 => ∃ Iv : Nat → List (Option D) → Cells → Prop, Iv 0 G C1 ∧
      (∀ i d G' C', ds[i]? = some d → Iv i G' C' → wG X W tg d G' C' fun G2 C2 => wSs X W body G2 C2 { E with nx := Iv (i + 1), ct := Iv (i + 1), bk := E.nx }) ∧ ∀ G' C', Iv ds.length G' C' → E.nx G' C')
    (hp : PassesOwn (model X.prog X.w) X.A X.env X.xe) (hc : X.calm = true) (hf : ∀ x, foldedSetIterable iter X.env x = pure x := by intro _; rfl) : wS X W (.For tg iter body [] pos) G C E :=
  wS_of (ps_for hp hc pi_sem pg_sem pss_sem hf) fun σ P H T g f => h σ P H _ g fun ds C1 P1 H1 J n1 gv q => by
    obtain ⟨Iv, i0, is, id⟩ := q
    obtain ⟨Gc, Y, wk, hG, hY⟩ := gv.wk
    refine for_it wk (fun i σ' H' => ∃ G' C' P', Next X.K W G' C' σ' P1 P' H' ∧ Iv i G' C') ⟨G, C1, P1, n1.good.refl, i0⟩ (fun i σ' H' _ w => ?_) (fun i x σ' H' H2 hi w y => ?_) fun σ' H' w => ?_
    · obtain ⟨G', C', P', n, _⟩ := w
      exact hG P' H' n.ex n.good.le
    · obtain ⟨G', C', P', n, iv⟩ := w
      obtain ⟨P3, d, hd, rd, hh⟩ := hY i P' H' x H2 hi n.ex n.good.le y
      have n3 : Next X.K W G' C' σ' P' P3 H2 := by
        rcases hh with ⟨rfl, rfl⟩ | ⟨T', o, hn, rfl, rfl⟩
        · exact n.good.refl
        · exact n.good.new hn
      have nn := n.tr n3
      refine is i d G' C' hd iv σ' P3 H2 _ x n3.good rd fun G2 C2 σ2 P4 H4 n4 q4 => ?_
      have n5 := nn.tr n4
      have ff := f.mono (n1.ex.tr n5.ex)
      exact q4 σ2 P4 H4 _ n4.good ⟨fun G5 C5 σ5 P5 H5 n6 q6 => ⟨G5, C5, P5, n5.tr n6, q6⟩, ff.rt, ff.nx, fun G5 C5 σ5 P5 H5 n6 q6 => ⟨G5, C5, P5, n5.tr n6, q6⟩⟩
    · obtain ⟨G', C', P', n, iv⟩ := w
      exact f.nx G' C' σ' P' H' (n1.tr n) (id G' C' iv)
theorem gives_lst {K : PySem.W.Frag} {P : Hp} {a : Addr} {vs : List V} {ds : List D} (h : SqL K P a vs) (r : Reps K P vs ds) : Gives K (Itl K a) ds P :=
  ⟨⟨_, _, r.len ▸ walk_list (K := K) (a := a) (xs := vs), fun P2 H2 e l => le_sqL l (sqL_ex e h), fun i P2 H2 x H3 hi e l y => by
    obtain ⟨rfl, y2⟩ := y
    obtain ⟨d, h1, h2⟩ := r.getV y2
    exact ⟨P2, d, h1, h2.ex' e, .inl ⟨rfl, rfl⟩⟩⟩⟩
theorem gives_tup {K : PySem.W.Frag} {P : Hp} {a : Addr} {vs : List V} {ds : List D} (h : SqT K P a vs) (r : Reps K P vs ds) : Gives K (Itt K a) ds P :=
  ⟨⟨_, _, r.len ▸ walk_tup (K := K) (a := a) (xs := vs), fun P2 H2 e l => le_sqT l (sqT_ex e h), fun i P2 H2 x H3 hi e l y => by
    obtain ⟨rfl, y2⟩ := y
    obtain ⟨d, h1, h2⟩ := r.getV y2
    exact ⟨P2, d, h1, h2.ex' e, .inl ⟨rfl, rfl⟩⟩⟩⟩
/-- over a list | a tuple -/
theorem wI_lst {tg : Expr} {kk : List D → Cells → Prop} (h : wE X W e G C fun d C1 => ∃ ds, (d = .lst ds ∨ d = .scr ds) ∧ kk ds C1) : wI X W tg e G C kk := fun σ P H R g z pins s I =>
  (pi_list pe_sem).run pins s σ H R I (h σ P H _ g fun d C1 v P1 H1 n1 r1 q => by
    obtain ⟨ds, hd, q⟩ := q
    rcases hd with rfl | rfl
    · cases r1 with
      | @lst a vs _ h1 rs => exact ⟨a, rfl, ⟨vs, .inl (.inl (le_lst n1.good.le h1))⟩, z ds C1 P1 H1 _ n1 (gives_lst (.inl (.inl h1)) rs) q⟩
    · cases r1 with
      | @scr a vs _ h1 rs => exact ⟨a, rfl, ⟨vs, le_sqL n1.good.le h1⟩, z ds C1 P1 H1 _ n1 (gives_lst h1 rs) q⟩)
theorem wI_tup {tg : Expr} {kk : List D → Cells → Prop} (h : wE X W e G C fun d C1 => ∃ ds, d = .tup ds ∧ kk ds C1) : wI X W tg e G C kk := fun σ P H R g z pins s I =>
  (pi_tup pe_sem).run pins s σ H R I (h σ P H _ g fun d C1 v P1 H1 n1 r1 q => by
    obtain ⟨ds, rfl, q⟩ := q
    cases r1 with
    | @tup a vs _ h1 rs => exact ⟨a, rfl, ⟨vs, .inl (.inl (le_tup n1.good.le h1))⟩, z ds C1 P1 H1 _ n1 (gives_tup (.inl (.inl h1)) rs) q⟩)
def intsD (lo : Int) (n : Nat) : List D := (List.range n).map fun (i : Nat) => D.int (lo + i)
theorem intsD_len (lo : Int) (n : Nat) : (intsD lo n).length = n := by simp [intsD]
theorem intsD_get {lo : Int} {n i : Nat} (h : i < n) : (intsD lo n)[i]? = some (.int (lo + i)) := by simp [intsD, h]
theorem gives_rng {K : PySem.W.Frag} {P : Hp} {lo : Int} {n : Nat} : Gives K (Itr lo n) (intsD lo n) P :=
  ⟨⟨fun _ => True, YFn fun i => .int (lo + i), by rw [intsD_len]; exact walk_range, fun _ _ _ _ => trivial, fun i P2 H2 x H3 hi e l y => by
    obtain ⟨rfl, rfl⟩ := y
    exact ⟨P2, _, intsD_get (by rw [intsD_len] at hi; exact hi), .int _, .inl ⟨rfl, rfl⟩⟩⟩⟩
theorem wI_rng1 {tg : Expr} {kk : List D → Cells → Prop} {p' : Pos} (hm : X.mg "range" = none) (h : wE X W e G C fun d C1 => ∃ j : Int, d = .int j ∧ -1000000 ≤ j ∧ j ≤ 1000000 ∧ kk (intsD 0 j.toNat) C1) (hg : Gl X "range" := by rfl)
    (hs : starEach [e] X.env = [(false, eval e X.env)] := by rfl) : wI X W tg (.Call (.Name "range" p') [e] [] pos) G C kk := fun σ P H R g z pins s I =>
  (pi_range1 hg hm (pa_cons pe_sem pa_nil (by rw [hs]; rfl)) hs).run pins s σ H R I (h σ P H _ g fun d C1 v P1 H1 n1 r1 q => by
    obtain ⟨j, rfl, h1, h2, q⟩ := q
    cases r1
    exact ⟨j, rfl, by omega, by omega, z _ C1 P1 H1 _ n1 gives_rng q⟩)
theorem wI_rng2 {tg : Expr} {kk : List D → Cells → Prop} {p' : Pos} (hm : X.mg "range" = none) (h : wE X W a G C fun d C1 => wE X W b G C1 fun d2 C2 => ∃ i j : Int, d = .int i ∧ d2 = .int j ∧ (-1000000 ≤ i ∧ i ≤ 1000000 ∧ -1000000 ≤ j ∧ j ≤ 1000000) ∧ kk (intsD i (j - i).toNat) C2) (hg : Gl X "range" := by rfl)
    (hs : starEach [a, b] X.env = [(false, eval a X.env), (false, eval b X.env)] := by rfl) (hs2 : starEach [b] X.env = [(false, eval b X.env)] := by rfl) : wI X W tg (.Call (.Name "range" p') [a, b] [] pos) G C kk := fun σ P H R g z pins s I =>
  (pi_range2 hg hm (pa_cons pe_sem (pa_cons pe_sem pa_nil (by rw [hs2]; rfl)) (by rw [hs, hs2])) hs hs2).run pins s σ H R I (h σ P H _ g fun d C1 v P1 H1 n1 r1 q => q σ P1 H1 _ n1.good fun d2 C2 v2 P2 H2 n2 r2 q2 => by
    obtain ⟨i, j, rfl, rfl, hh, q⟩ := q2
    cases r1; cases r2
    exact ⟨i, j, rfl, by omega, z _ C2 P2 H2 _ (n1.tr n2) gives_rng q⟩)
end
end EW

namespace EW
open PySem PySem.Spec PyProof.Rows L2

section
variable {X : Cx} {W : Wd} {G : List (Option D)} {C : Cells} {k : KD} {kb : KB} {E E' : DE} {e a b c : Expr} {pos : Pos} {st : Stmt} {sts : List Stmt}
/-! ### enumerate, zip -/
def pairD (xs ys : List D) : List D := (xs.zip ys).map fun p => D.tup [p.1, p.2]
def numD (xs : List D) : List D := (xs.zipIdx).map fun p => D.tup [.int (p.2 : Nat), p.1]
theorem numD_len (xs : List D) : (numD xs).length = xs.length := by simp [numD]
theorem numD_get {xs : List D} {i : Nat} {d : D} (h : xs[i]? = some d) : (numD xs)[i]? = some (.tup [.int (i : Nat), d]) := by
  simp [numD, List.getElem?_zipIdx, h]
theorem pairD_len (xs ys : List D) : (pairD xs ys).length = min xs.length ys.length := by simp [pairD]
theorem pairD_get {xs ys : List D} {i : Nat} {x y : D} (h : xs[i]? = some x) (h' : ys[i]? = some y) : (pairD xs ys)[i]? = some (.tup [x, y]) := by
  simp [pairD, List.getElem?_zip_eq_some, h, h']
theorem gives_enum {K : PySem.W.Frag} {P : Hp} {a : Addr} {vs : List V} {ds : List D} (h : SqL K P a vs) (r : Reps K P vs ds) : Gives K (Ite K a) (numD ds) P :=
  ⟨⟨_, _, by rw [numD_len, ← r.len]; exact walk_enum (K := K) (a := a) (xs := vs), fun P2 H2 e l => le_sqL l (sqL_ex e h), fun i P2 H2 x H3 hi e l y => by
    obtain ⟨T, x1, x2, rfl, hT, rfl, e1, e2⟩ := y
    obtain ⟨d, h1, h2⟩ := r.getV e2
    have e1' : x1 = .int (i : Nat) := (Option.some.inj e1).symm
    subst e1'
    have ex : Ex P2 (upd P2 T (.tup [.int (i : Nat), x2])) := Ex.fresh (l.none hT)
    exact ⟨_, _, numD_get h1, .tup upd_same (.cons (.int _) (.cons ((h2.ex' e).ex' ex) .nil)), .inr ⟨T, _, hT, rfl, rfl⟩⟩⟩⟩
theorem gives_zip {K : PySem.W.Frag} {P : Hp} {a b : Addr} {vs ws : List V} {ds es : List D} (h : SqL K P a vs) (h' : SqL K P b ws) (r : Reps K P vs ds) (r' : Reps K P ws es) : Gives K (Itz K a b) (pairD ds es) P :=
  ⟨⟨(fun H => SqL K H a vs ∧ SqL K H b ws), YPair (fun i => vs[i]?) (fun i => ws[i]?), by rw [pairD_len, ← r.len, ← r'.len]; exact walk_zip (K := K) (a := a) (b := b) (xs := vs) (ys := ws) rfl, fun P2 H2 e l => ⟨le_sqL l (sqL_ex e h), le_sqL l (sqL_ex e h')⟩, fun i P2 H2 x H3 hi e l y => by
    obtain ⟨T, x1, x2, rfl, hT, rfl, e1, e2⟩ := y
    obtain ⟨d, h1, h2⟩ := r.getV e1
    obtain ⟨d', h1', h2'⟩ := r'.getV e2
    have ex : Ex P2 (upd P2 T (.tup [x1, x2])) := Ex.fresh (l.none hT)
    exact ⟨_, _, pairD_get h1 h1', .tup upd_same (.cons ((h2.ex' e).ex' ex) (.cons ((h2'.ex' e).ex' ex) .nil)), .inr ⟨T, _, hT, rfl, rfl⟩⟩⟩⟩
theorem wI_enum {kk : List D → Cells → Prop} {p' tpos : Pos} {elts : List Expr} {kx : Nat} (hm : X.mg "enumerate" = none) (h : wE X W e G C fun d C1 => ∃ ds, (d = .lst ds ∨ d = .scr ds) ∧ kk (numD ds) C1) (hg : Gl X "enumerate" := by rfl)
    (hs : starEach [e] X.env = [(false, eval e X.env)] := by rfl) : wI X W (.Tuple elts kx tpos) (.Call (.Name "enumerate" p') [e] [] pos) G C kk := fun σ P H R g z pins s I =>
  (pi_enum hg hm (pa_cons pe_sem pa_nil (by rw [hs]; rfl)) hs).run pins s σ H R I (h σ P H _ g fun d C1 v P1 H1 n1 r1 q => by
    obtain ⟨ds, hd, q⟩ := q
    rcases hd with rfl | rfl
    · cases r1 with
      | @lst a vs _ h1 rs => exact ⟨a, vs, rfl, .inl (.inl (le_lst n1.good.le h1)), z _ C1 P1 H1 _ n1 (gives_enum (.inl (.inl h1)) rs) q⟩
    · cases r1 with
      | @scr a vs _ h1 rs => exact ⟨a, vs, rfl, le_sqL n1.good.le h1, z _ C1 P1 H1 _ n1 (gives_enum h1 rs) q⟩)
theorem wI_zip {kk : List D → Cells → Prop} {p' tpos : Pos} {elts : List Expr} {kx : Nat} (hm : X.mg "zip" = none) (h : wE X W a G C fun d C1 => wE X W b G C1 fun d2 C2 => ∃ ds es, d = .lst ds ∧ d2 = .lst es ∧ kk (pairD ds es) C2) (hg : Gl X "zip" := by rfl)
    (hs : starEach [a, b] X.env = (false, eval a X.env) :: starEach [b] X.env := by rfl) (hs2 : starEach [b] X.env = (false, eval b X.env) :: starEach [] X.env := by rfl) (hpl : (backTo pos (starEach [b] X.env)).any (·.1) = false := by rfl) : wI X W (.Tuple elts kx tpos) (.Call (.Name "zip" p') [a, b] [] pos) G C kk := fun σ P H R g z pins s I =>
  (pi_zip hg hm (pa_cons pe_sem (pa_cons pe_sem pa_nil hs2) hs) hs hpl).run pins s σ H R I (h σ P H _ g fun d C1 v P1 H1 n1 r1 q => q σ P1 H1 _ n1.good fun d2 C2 v2 P2 H2 n2 r2 q2 => by
    obtain ⟨ds, es, rfl, rfl, q⟩ := q2
    cases r1 with
    | @lst a vs _ h1 rs =>
      cases r2 with
      | @lst b ws _ h2 rs2 => exact ⟨a, b, vs, ws, rfl, .inl (.inl (le_lst n2.good.le (n2.ex _ _ h1))), .inl (.inl (le_lst n2.good.le h2)), z _ C2 P2 H2 _ (n1.tr n2) (gives_zip (.inl (.inl (n2.ex _ _ h1))) (.inl (.inl h2)) (rs.ex' n2.ex) rs2) q⟩)

/-! ### comprehensions -/
def wipeG (G : List (Option D)) : List Nat → List (Option D)
  | [] => G
  | v :: vs => (wipeG G vs).set v none
theorem wipeG_len (G : List (Option D)) : ∀ vs : List Nat, (wipeG G vs).length = G.length
  | [] => rfl
  | v :: vs => by unfold wipeG; rw [List.length_set, wipeG_len G vs]
theorem wipe_good {K : PySem.W.Frag} {P : Hp} {σ : L2.St} {G : List (Option D)} (h : ∀ (i : Nat) (d : D), G[i]? = some (some d) → ∃ v, σ[i]? = some (some v) ∧ Rep K P v d) : ∀ (vs : List Nat) (i : Nat) (d : D), (wipeG G vs)[i]? = some (some d) → ∃ v, (wipe σ vs)[i]? = some (some v) ∧ Rep K P v d := by
  intro vs
  induction vs with
  | nil => exact h
  | cons v vs ih =>
    intro i d e
    unfold wipeG at e
    unfold wipe
    by_cases hi : v = i
    · subst hi
      rw [List.getElem?_set] at e
      simp at e
    · rw [List.getElem?_set_ne hi] at e
      rw [List.getElem?_set_ne hi]
      exact ih i d e
/-- the tests of a comprehension's clause -/
def semIf (X : Cx) (ifs : List Expr) : TT := fun σ H Q => ∀ (pins : List (Addr × Obj)) (s : Shared), Inv X pins σ H s →
  wpAny (model X.prog X.w) X.A (forIn ifs true fun c r => if r = true then do let ok ← isTrue c X.env (eval c X.env); pure (ForInStep.yield ok) else pure (ForInStep.yield r)) (TP X pins σ Q) X.xe s
def wIf (X : Cx) (W : Wd) (ifs : List Expr) (G : List (Option D)) (C : Cells) (k : KB) : Prop :=
  ∀ (σ : L2.St) (P H : Hp) (Q : Bool → Hp → Prop), Good X.K W G C σ P H → (∀ b C' P' H', Next X.K W G C' σ P P' H' → k b C' → Q b H') → semIf X ifs σ H Q
theorem wIf_nil (q : kb true C) : wIf X W [] G C kb := fun σ P H Q g z pins s I => (pts_nil (X := X)).run pins s σ H Q I (z true C P H g.refl q)
theorem wIf_one (h : wT X W c G C kb) : wIf X W [c] G C kb := fun σ P H Q g z pins s I => (pts_one pt_sem).run pins s σ H Q I (h σ P H Q g z)
/-- the block of a comprehension -/
abbrev blkX (X : Cx) (s : Shared) (H : Hp) (scope : Scope) (Cl : Addr) (cl : List (Str × Addr)) (fp : List Addr) : Cx := X.blk s H scope (compEnvC scope cl Cl X.env) fp
/-- what is shown of one turn, whatever the block and the world; G1: the slots with the turn's item -/
def wLc (X : Cx) (scope : Scope) (elt : Expr) (ifs : List Expr) (G1 : List (Option D)) (C : Cells) (ky : D → Cells → Prop) (kn : Cells → Prop) : Prop :=
  ∀ (W : Wd) (s : Shared) (H : Hp) (Cl : Addr) (cl : List (Str × Addr)) (fp : List Addr),
    wIf (blkX X s H scope Cl cl fp) W ifs G1 C fun t C2 => (t = true → ∀ (s : Shared) (H : Hp) (Cl : Addr) (cl : List (Str × Addr)) (fp : List Addr), wE (blkX X s H scope Cl cl fp) W elt G1 C2 ky) ∧ (t = false → kn C2)
theorem wipe_set {σ : L2.St} {j : Nat} {x : Option V} : ∀ {vs : List Nat}, j ∈ vs → wipe ((wipe σ vs).set j x) vs = wipe σ vs := by
  have key : ∀ (vs : List Nat) (τ : L2.St) (j : Nat) (x : Option V), j ∈ vs → wipe (τ.set j x) vs = wipe τ vs := by
    intro vs
    induction vs with
    | nil => intro τ j x h; cases h
    | cons v vs ih =>
      intro τ j x h
      unfold wipe
      by_cases hj : j ∈ vs
      · rw [ih τ j x hj]
      · have e : j = v := by
          rcases List.mem_cons.mp h with h | h
          · exact h
          · exact absurd h hj
        subst e
        have out : ∀ (ws : List Nat) (τ : L2.St), j ∉ ws → wipe (τ.set j x) ws = (wipe τ ws).set j x := by
          intro ws
          induction ws with
          | nil => intro τ _; rfl
          | cons w ws ih2 =>
            intro τ hw
            unfold wipe
            rw [ih2 τ fun z => hw (List.mem_cons_of_mem _ z)]
            rw [List.set_comm]
            intro z; exact hw (by rw [z]; exact List.mem_cons_self)
        rw [out vs τ hj, List.set_set]
  intro vs h
  rw [key vs _ j x h]
  have idem : ∀ (ws : List Nat) (τ : L2.St), wipe (wipe τ ws) ws = wipe τ ws := by
    intro ws
    induction ws with
    | nil => intro τ; rfl
    | cons w ws ih =>
      intro τ
      show (wipe ((wipe τ ws).set w none) ws).set w none = (wipe τ ws).set w none
      by_cases hw : w ∈ ws
      · rw [key ws _ w none hw, ih]
      · have out : ∀ (us : List Nat) (τ : L2.St), w ∉ us → wipe (τ.set w none) us = (wipe τ us).set w none := by
          intro us
          induction us with
          | nil => intro τ _; rfl
          | cons u us ih2 =>
            intro τ hu
            unfold wipe
            rw [ih2 τ fun z => hu (List.mem_cons_of_mem _ z)]
            rw [List.set_comm]
            intro z; exact hu (by rw [z]; exact List.mem_cons_self)
        rw [out ws _ hw, ih, List.set_set]
  exact idem vs σ
def lcE (X : Cx) (scope : Scope) (elt : Expr) : TE := fun σ H Q => ∀ (s : Shared) (H0 : Hp) (Cl : Addr) (cl : List (Str × Addr)) (fp : List Addr), semE (blkX X s H0 scope Cl cl fp) elt σ H Q
def lcT (X : Cx) (scope : Scope) (ifs : List Expr) : TT := fun σ H Q => ∀ (s : Shared) (H0 : Hp) (Cl : Addr) (cl : List (Str × Addr)) (fp : List Addr), semIf (blkX X s H0 scope Cl cl fp) ifs σ H Q
/-- a comprehension, be it a value or stored to a name -/
def wC (X : Cx) (W : Wd) (elt tg iter : Expr) (ifs : List Expr) (scope : Scope) (G : List (Option D)) (C : Cells) (k : KD) : Prop :=
  ∃ (own : List (Str × Nat)) (g : TG), X.N.Nodup ∧ X.calm = true ∧ BlkOk X.N X.env.scope scope own ∧ (∀ (s : Shared) (H : Hp) (Cl : Addr) (cl : List (Str × Addr)) (fp : List Addr), PG (blkX X s H scope Cl cl fp) tg g) ∧ (∀ x, foldedSetIterable iter X.env x = pure x) ∧
    ∀ σ P H (Q : VK), Good X.K W G C σ P H → (∀ d C' v P' H', Next X.K W G C' σ P P' H' → Rep X.K P' v d → k d C' → Q v H') → tLc (semI X tg iter) g (lcT X scope ifs) (lcE X scope elt) (own.map (·.2)) σ H Q
theorem wE_C {elt tg iter : Expr} {ifs : List Expr} {scope : Scope} (h : wC X W elt tg iter ifs scope G C k) : wE X W (.ListComp elt [⟨tg, iter, ifs, 0⟩] scope pos) G C k := by
  obtain ⟨own, g, nd, hc, ok, hgp, hf, h⟩ := h
  exact wE_of (pe_lc (wi := semI X tg iter) (g := g) (tt := lcT X scope ifs) (te := lcE X scope elt) hc nd pi_sem ok hgp (fun s H0 Cl cl fp => ⟨fun pins s' σ H Q I h => h s H0 Cl cl fp pins s' I⟩) (fun s H0 Cl cl fp => ⟨fun pins s' σ H Q I h => h s H0 Cl cl fp pins s' I⟩) hf) h
/-- name = [..], the name a plain local -/
theorem wS_C (i : Nat) {y : Str} {py spos : Pos} {elt tg iter : Expr} {ifs : List Expr} {scope : Scope} (h : wC X W elt tg iter ifs scope G C fun d C1 => E.nx (G.set i (some d)) C1) (nd0 : X.N.Nodup) (hk : X.env.scope.kind = .function := by rfl) (hi : X.N[i]? = some y := by rfl)
    (hyl : X.env.scope.names.lookup y = some .local := by rfl) (hl : (py.line == pos.line) = true := by rfl) (ha : (scope.names.any fun (n, k) => n == y && (k == .local || k == .cell)) = false := by decide +kernel) : wS X W (.Assign [.Name y py] (.ListComp elt [⟨tg, iter, ifs, 0⟩] scope pos) spos) G C E := by
  obtain ⟨own, g, nd, hc, ok, hgp, hf, h⟩ := h
  exact wS_of (ps_setLc (wi := semI X tg iter) (g := g) (tt := lcT X scope ifs) (te := lcE X scope elt) hc nd hi hyl (sw_true hk hyl hl ha) pi_sem ok hgp (fun s H0 Cl cl fp => ⟨fun pins s' σ H Q I h => h s H0 Cl cl fp pins s' I⟩) (fun s H0 Cl cl fp => ⟨fun pins s' σ H Q I h => h s H0 Cl cl fp pins s' I⟩) hf)
    fun σ P H T gd f => h σ P H _ gd fun d C1 v P1 H1 n1 r1 q => f.nx _ C1 _ P1 H1 ⟨n1.ex, n1.good.slot r1⟩ q
/-- [elt for tg in iter if ..], by any kind of target -/
theorem lc_any {tg elt iter : Expr} {ifs : List Expr} {scope : Scope} (own : List (Str × Nat)) (g : TG) (f : D → List (Option D) → Prop) (nd : X.N.Nodup) (hc : X.calm = true) (ok : BlkOk X.N X.env.scope scope own)
    (hgp : ∀ (s : Shared) (H : Hp) (Cl : Addr) (cl : List (Str × Addr)) (fp : List Addr), PG (blkX X s H scope Cl cl fp) tg g)
    (hg : ∀ (W : Wd) (C : Cells) σ P H (Q : L2.St → Hp → Prop) v d, (∃ G0, f d G0) → Good X.K W (wipeG G (own.map (·.2))) C (wipe σ (own.map (·.2))) P H → Rep X.K P v d → (∀ G1 σ1, f d G1 → Good X.K W G1 C σ1 P H → wipe σ1 (own.map (·.2)) = wipe σ (own.map (·.2)) → Q σ1 H) → g v (wipe σ (own.map (·.2))) H Q)
    (kl : List D → Cells → Addr → Prop)
    (h : wI X W tg iter G C fun ds C1 => ds.length ≤ 100000 ∧ ∃ Iv : Nat → List D → Cells → Prop, Iv 0 [] C1 ∧
      (∀ i d acc C', ds[i]? = some d → Iv i acc C' → (∃ G0, f d G0) ∧ ∀ G1, f d G1 → wLc X scope elt ifs G1 C' (fun y C3 => Iv (i + 1) (acc ++ [y]) C3) (fun C2 => Iv (i + 1) acc C2)) ∧ (∀ acc C', Iv ds.length acc C' → ∀ p, kl acc C' p))
    (hf : ∀ x, foldedSetIterable iter X.env x = pure x := by intro _; rfl) {σ : L2.St} {P H : Hp} {Q : VK} (gd : Good X.K W G C σ P H)
    (z : ∀ acc C' p vs P' H', Ex P P' → Good X.K W G C' σ P' H' → P' p = none → W.H0 p = none → H' p = some (.lst vs) → p ∉ C'.map (·.1) → Reps X.K P' vs acc → kl acc C' p → Q (.ref p) H') : tLc (semI X tg iter) g (lcT X scope ifs) (lcE X scope elt) (own.map (·.2)) σ H Q := by
  refine h σ P H _ gd fun ds C1 P1 H1 J n1 gv q => ?_
  obtain ⟨hz, Iv, i0, is, id⟩ := q
  intro Dl hD
  obtain ⟨Gc, Y, wk, hG, hY⟩ := gv.wk
  have gd1 := n1.good
  have D0 : W.H0 Dl = none := by
    cases e : W.H0 Dl with
    | none => rfl
    | some u => exact absurd hD (gd1.tr Dl (by rw [e]; intro y; cases y))
  have cellH : ∀ {C' : Cells} {P' H' : Hp} {G' : List (Option D)} {σ' : L2.St} {W' : Wd}, Good X.K W' G' C' σ' P' H' → H' Dl = none → Dl ∉ C'.map (·.1) := fun {C' P' H' G' σ' W'} g h z => by
    obtain ⟨q, hq, e⟩ := List.mem_map.mp z
    obtain ⟨_, _, o, ho, _⟩ := g.ce q hq
    rw [e, h] at ho; cases ho
  have c0 : Dl ∉ C1.map (·.1) := cellH gd1 hD
  refine lc_it wk (fun i H' => ∃ acc C' P' vs, Ex P1 P' ∧ Iv i acc C' ∧ Good X.K W G C' σ P' H' ∧ P' Dl = none ∧ H' Dl = some (.lst vs) ∧ Dl ∉ C'.map (·.1) ∧ Reps X.K P' vs acc ∧ acc.length ≤ i) ?_ ?_ ?_ ?_
  · exact ⟨[], C1, P1, [], Ex.rfl' _, i0, gd1.aside (gd1.le.none hD) D0 c0, gd1.le.none hD, upd_same, c0, .nil, Nat.le_refl _⟩
  · intro i H' _ w
    obtain ⟨acc, C', P', vs, e, _, gg, _⟩ := w
    exact hG P' H' e gg.le
  · intro i x H' H2 hi w y
    obtain ⟨acc, C', P', vs, e, iv, gg, pD, hD', cD, rs, hl⟩ := w
    obtain ⟨P3, d, hd, rd, hh⟩ := hY i P' H' x H2 hi e gg.le y
    have n3 : Next X.K W G C' σ P' P3 H2 ∧ P3 Dl = none ∧ H2 Dl = some (.lst vs) := by
      rcases hh with ⟨rfl, rfl⟩ | ⟨T', o, hn, rfl, rfl⟩
      · exact ⟨gg.refl, pD, hD'⟩
      · have ne : Dl ≠ T' := ne_of_none hD' hn
        exact ⟨gg.new hn, by rw [upd_ne ne]; exact pD, by rw [upd_ne ne]; exact hD'⟩
    obtain ⟨n3, pD3, hD3⟩ := n3
    have gB := n3.good.base
    have hbD : (baseW P3 H2 (C'.map (·.1))).Hb Dl = some (.lst vs) := by rw [baseW_hb cD]; exact hD3
    obtain ⟨hex, hturn⟩ := is i d acc C' hd iv
    have back : ∀ {C5 : Cells} {P5 H5 : Hp} {G5 : List (Option D)} {σ5 : L2.St}, Good X.K (baseW P3 H2 (C'.map (·.1))) G5 C5 σ5 P5 H5 → Good X.K W G C5 σ P5 H5 ∧ P5 Dl = none ∧ H5 Dl = some (.lst vs) ∧ Dl ∉ C5.map (·.1) ∧ Ex P3 P5 := fun {C5 P5 H5 G5 σ5} g5 => by
      have ex5 : Ex P3 P5 := g5.p0
      refine ⟨n3.good.back (g5.fewer (G' := G) (σ' := σ) (fun i d h => ?_) n3.good.len), ?_, g5.hb _ _ hbD, fun z => ?_, ex5⟩
      · obtain ⟨v, h1, h2⟩ := n3.good.sl i d h
        exact ⟨v, h1, h2.ex' ex5⟩
      · exact (g5.fr Dl (by show H2 Dl ≠ none; rw [hD3]; intro y; cases y)).trans pD3
      · obtain ⟨q, hq, eq⟩ := List.mem_map.mp z
        obtain ⟨_, h2, _⟩ := g5.ce q hq
        rw [eq] at h2
        rcases h2 with h2 | h2
        · have h2' : H2 Dl = none := h2
          rw [hD3] at h2'; cases h2'
        · exact cD h2
    refine hg _ C' σ P3 H2 _ x d hex (gB.fewer (wipe_good gB.sl _) (by rw [wipeG_len, wipe_length]; exact gB.len)) rd fun G1 σ1 hf1 g1 hw => ⟨hw, ?_⟩
    have ht := hturn G1 hf1 (baseW P3 H2 (C'.map (·.1)))
    intro s0 H0 Cl0 cl0 fp0
    refine ht s0 H0 Cl0 cl0 fp0 σ1 P3 H2 _ g1 fun t C2 P4 H4 n4 hq => ?_
    cases t with
    | true =>
      intro s0 H0 Cl0 cl0 fp0
      refine hq.1 rfl s0 H0 Cl0 cl0 fp0 σ1 P4 H4 _ n4.good fun y C5 v P5 H5 n5 r5 iv5 => ?_
      obtain ⟨gW, pD5, hD5, cD5, ex5⟩ := back n5.good
      refine ⟨vs, hD5, ?_, acc ++ [y], C5, P5, vs ++ [v], (e.tr n3.ex).tr ex5, iv5, gW.aside pD5 D0 cD5, pD5, upd_same, cD5, (rs.ex' (n3.ex.tr ex5)).app (.cons r5 .nil), by rw [List.length_append]; simp; exact hl⟩
      have : i < ds.length := hi
      rw [rs.len]; exact small_lt (by omega)
    | false =>
      obtain ⟨gW, pD5, hD5, cD5, ex5⟩ := back n4.good
      exact ⟨acc, C2, P4, vs, (e.tr n3.ex).tr ex5, hq.2 rfl, gW, pD5, hD5, cD5, rs.ex' (n3.ex.tr ex5), Nat.le_succ_of_le hl⟩
  · intro H' w
    obtain ⟨acc, C', P', vs, e, iv, gg, pD, hD', cD, rs, hl⟩ := w
    exact z acc C' Dl vs P' H' (n1.ex.tr e) gg pD D0 hD' cD rs (id acc C' iv Dl)
/-- the target one name -/
theorem C_lc {x : Str} {p' : Pos} {elt iter : Expr} {ifs : List Expr} {scope : Scope} (j : Nat) (own : List (Str × Nat)) (nd : X.N.Nodup) (hc : X.calm = true)
    (h : wI X W (.Name x p') iter G C fun ds C1 => ds.length ≤ 100000 ∧ ∃ Iv : Nat → List D → Cells → Prop, Iv 0 [] C1 ∧
      (∀ i d acc C', ds[i]? = some d → Iv i acc C' → wLc X scope elt ifs ((wipeG G (own.map (·.2))).set j (some d)) C' (fun y C3 => Iv (i + 1) (acc ++ [y]) C3) (fun C2 => Iv (i + 1) acc C2)) ∧ (∀ acc C', Iv ds.length acc C' → k (.lst acc) C'))
    (ok : BlkOk X.N X.env.scope scope own := by exact blkOk_by (by kernel_rfl)) (hj : j ∈ own.map (·.2) := by decide)
    (hgp : ∀ (s : Shared) (H : Hp) (Cl : Addr) (cl : List (Str × Addr)) (fp : List Addr), PG (blkX X s H scope Cl cl fp) (.Name x p') (gName j) := by exact fun _ _ _ _ _ => pg_name (by assumption) rfl (Or.inl rfl))
    (hf : ∀ x, foldedSetIterable iter X.env x = pure x := by intro _; rfl) : wC X W elt (.Name x p') iter ifs scope G C k :=
  ⟨own, gName j, nd, hc, ok, hgp, hf, fun σ P H Q gd z => lc_any own (gName j) (fun d G1 => G1 = (wipeG G (own.map (·.2))).set j (some d)) nd hc ok hgp (fun W' C' σ P H Q v d _ g r z => z _ _ rfl (g.slot r) (wipe_set hj)) (fun acc C' _ => k (.lst acc) C')
    (fun σ P H R g q => h σ P H R g fun ds C' P' H' J n gv hk => q ds C' P' H' J n gv (by
      obtain ⟨hz, Iv, i0, is, id⟩ := hk
      exact ⟨hz, Iv, i0, fun i d acc C'' hd iv => ⟨⟨_, rfl⟩, fun G1 e => by subst e; exact is i d acc C'' hd iv⟩, fun acc C'' iv _ => id acc C'' iv⟩)) hf gd fun acc C' p vs P' H' e g' pn h0 hp hc rs q => by
    have n := g'.know pn h0 hc hp
    exact z _ C' (.ref p) _ H' ⟨e.tr n.ex, n.good⟩ (.lst upd_same (rs.ex' n.ex)) q⟩
theorem wipe_set2 {σ : L2.St} {i j : Nat} {x y : Option V} {vs : List Nat} (hi : i ∈ vs) (hj : j ∈ vs) : wipe (((wipe σ vs).set i x).set j y) vs = wipe σ vs := by
  have a : wipe ((wipe ((wipe σ vs).set i x) vs).set j y) vs = wipe ((wipe σ vs).set i x) vs := wipe_set hj
  have b : wipe ((wipe σ vs).set i x) vs = wipe σ vs := wipe_set hi
  have key : ∀ (us : List Nat) (τ ρ : L2.St), τ.length = ρ.length → (∀ n, n ∉ us → τ[n]? = ρ[n]?) → wipe τ us = wipe ρ us := by
    intro us
    induction us with
    | nil => intro τ ρ hl h; exact List.ext_getElem? fun n => h n (by simp)
    | cons u us ih =>
      intro τ ρ hl h
      show (wipe τ us).set u none = (wipe ρ us).set u none
      have e : ∀ (ws : List Nat) (μ : L2.St), (wipe μ ws).set u none = wipe (μ.set u none) ws := by
        intro ws
        induction ws with
        | nil => intro μ; rfl
        | cons w ws ihw =>
          intro μ
          show ((wipe μ ws).set w none).set u none = (wipe (μ.set u none) ws).set w none
          rw [← ihw μ]
          by_cases hw : w = u
          · subst hw; rw [List.set_set]
          · rw [List.set_comm _ _ hw]
      rw [e us τ, e us ρ]
      refine ih _ _ (by rw [List.length_set, List.length_set]; exact hl) fun n hn => ?_
      by_cases hu : u = n
      · subst hu
        rw [List.getElem?_set, List.getElem?_set, hl, if_pos rfl, if_pos rfl]
      · rw [List.getElem?_set_ne hu, List.getElem?_set_ne hu]
        exact h n (by simp only [List.mem_cons, not_or]; exact ⟨fun z => hu z.symm, hn⟩)
  rw [key vs (((wipe σ vs).set i x).set j y) σ (by rw [List.length_set, List.length_set, wipe_length]) fun n hn => ?_]
  have out : ∀ (us : List Nat) (τ : L2.St) (n : Nat), n ∉ us → (wipe τ us)[n]? = τ[n]? := by
    intro us
    induction us with
    | nil => intro τ n _; rfl
    | cons u us ih =>
      intro τ n h
      show ((wipe τ us).set u none)[n]? = τ[n]?
      rw [List.getElem?_set_ne (fun z => h (by rw [z]; exact List.mem_cons_self))]
      exact ih τ n fun z => h (List.mem_cons_of_mem _ z)
  have nj : j ≠ n := fun z => hn (by rw [← z]; exact hj)
  have ni : i ≠ n := fun z => hn (by rw [← z]; exact hi)
  rw [List.getElem?_set_ne nj, List.getElem?_set_ne ni, out vs σ n hn]
/-- the target a pair of names -/
theorem C_lc2 {x y : Str} {px py tpos : Pos} {kx : Nat} {elt iter : Expr} {ifs : List Expr} {scope : Scope} (i j : Nat) (own : List (Str × Nat)) (nd : X.N.Nodup) (hc : X.calm = true)
    (h : wI X W (.Tuple [.Name x px, .Name y py] kx tpos) iter G C fun ds C1 => ds.length ≤ 100000 ∧ ∃ Iv : Nat → List D → Cells → Prop, Iv 0 [] C1 ∧
      (∀ n d acc C', ds[n]? = some d → Iv n acc C' → ∃ d1 d2, d = .tup [d1, d2] ∧ wLc X scope elt ifs (((wipeG G (own.map (·.2))).set i (some d1)).set j (some d2)) C' (fun y C3 => Iv (n + 1) (acc ++ [y]) C3) (fun C2 => Iv (n + 1) acc C2)) ∧ (∀ acc C', Iv ds.length acc C' → k (.lst acc) C'))
    (ok : BlkOk X.N X.env.scope scope own := by exact blkOk_by (by kernel_rfl)) (hi : i ∈ own.map (·.2) := by decide) (hj : j ∈ own.map (·.2) := by decide)
    (hgp : ∀ (s : Shared) (H : Hp) (Cl : Addr) (cl : List (Str × Addr)) (fp : List Addr), PG (blkX X s H scope Cl cl fp) (.Tuple [.Name x px, .Name y py] kx tpos) (gTup X.K 2 (gCons (gName i) (gCons (gName j) gNil))) := by
      exact fun _ _ _ _ _ => pg_tup rfl (pgs_cons (pg_name (by assumption) rfl (Or.inl rfl)) (pgs_cons (pg_name (by assumption) rfl (Or.inl rfl)) pgs_nil)))
    (hf : ∀ x, foldedSetIterable iter X.env x = pure x := by intro _; rfl) : wC X W elt (.Tuple [.Name x px, .Name y py] kx tpos) iter ifs scope G C k :=
  ⟨own, gTup X.K 2 (gCons (gName i) (gCons (gName j) gNil)), nd, hc, ok, hgp, hf, fun σ P H Q gd z => lc_any own (gTup X.K 2 (gCons (gName i) (gCons (gName j) gNil))) (fun d G1 => ∃ d1 d2, d = .tup [d1, d2] ∧ G1 = ((wipeG G (own.map (·.2))).set i (some d1)).set j (some d2)) nd hc ok hgp
    (fun W' C' σ P H Q v d hex g r z => by
      obtain ⟨G0, d1, d2, rfl, _⟩ := hex
      cases r with
      | @tup a vs _ ha rs =>
        cases rs with
        | cons r1 rs =>
          cases rs with
          | cons r2 rs =>
            cases rs
            exact ⟨a, _, rfl, .inl (.inl (le_tup g.le ha)), rfl, _, _, rfl, _, _, rfl, rfl, z _ _ ⟨d1, d2, rfl, rfl⟩ ((g.slot r1).slot r2) (wipe_set2 hi hj)⟩) (fun acc C' _ => k (.lst acc) C')
    (fun σ P H R g q => h σ P H R g fun ds C' P' H' J n gv hk => q ds C' P' H' J n gv (by
      obtain ⟨hz, Iv, i0, is, id⟩ := hk
      refine ⟨hz, Iv, i0, fun i d acc C'' hd iv => ?_, fun acc C'' iv _ => id acc C'' iv⟩
      obtain ⟨d1, d2, e, w⟩ := is i d acc C'' hd iv
      refine ⟨⟨_, d1, d2, e, rfl⟩, fun G1 hG => ?_⟩
      obtain ⟨e1, e2, q1, q2⟩ := hG
      rw [e] at q1
      cases q1
      rw [q2]; exact w)) hf gd fun acc C' p vs P' H' e g' pn h0 hp hc rs q => by
    have n := g'.know pn h0 hc hp
    exact z _ C' (.ref p) _ H' ⟨e.tr n.ex, n.good⟩ (.lst upd_same (rs.ex' n.ex)) q⟩

/-! ### typed forms -/
theorem get_map {α : Type} {l : List α} {g : α → D} {i : Nat} {d : D} (h : (l.map g)[i]? = some d) : ∃ x, l[i]? = some x ∧ x ∈ l ∧ d = g x := by
  rw [List.getElem?_map] at h
  cases e : l[i]? with
  | none => rw [e] at h; cases h
  | some x => rw [e] at h; cases h; exact ⟨x, rfl, List.mem_of_getElem? e, rfl⟩
def natD (i : Nat) : D := .int (i : Int)
theorem intsD_nat (n : Nat) : intsD 0 n = (List.range n).map natD := by
  unfold intsD natD
  exact List.map_congr_left fun i _ => by rw [Int.zero_add]
theorem numD_map {α : Type} (l : List α) (g : α → D) : numD (l.map g) = (l.zipIdx).map fun p => D.tup [natD p.2, g p.1] := by
  unfold numD natD
  rw [List.zipIdx_map, List.map_map]; rfl
theorem pairD_map {α β : Type} (l : List α) (l' : List β) (g : α → D) (g' : β → D) : pairD (l.map g) (l'.map g') = (l.zip l').map fun p => D.tup [g p.1, g' p.2] := by
  unfold pairD
  rw [List.zip_map, List.map_map]; rfl
/-- a comprehension that changes nothing: filter and map -/
theorem C_lcP {α : Type} {x : Str} {p' : Pos} {elt iter : Expr} {ifs : List Expr} {scope : Scope} (j : Nat) (own : List (Str × Nat)) (nd : X.N.Nodup) (hc : X.calm = true) (l : List α) (g : α → D) (p : α → Bool) (f : α → D)
    (hi : wI X W (.Name x p') iter G C fun ds C1 => ds = l.map g ∧ C1 = C) (hz : l.length ≤ 100000)
    (ht : ∀ y ∈ l, ∀ (W : Wd) (s : Shared) (H : Hp) (Cl : Addr) (cl : List (Str × Addr)) (fp : List Addr), wIf (blkX X s H scope Cl cl fp) W ifs ((wipeG G (own.map (·.2))).set j (some (g y))) C fun t C2 => t = p y ∧ C2 = C)
    (he : ∀ y ∈ l, p y = true → ∀ (W : Wd) (s : Shared) (H : Hp) (Cl : Addr) (cl : List (Str × Addr)) (fp : List Addr), wE (blkX X s H scope Cl cl fp) W elt ((wipeG G (own.map (·.2))).set j (some (g y))) C fun d C2 => d = f y ∧ C2 = C)
    (q : k (.lst ((l.filter p).map f)) C) (ok : BlkOk X.N X.env.scope scope own := by exact blkOk_by (by kernel_rfl)) (hj : j ∈ own.map (·.2) := by decide)
    (hgp : ∀ (s : Shared) (H : Hp) (Cl : Addr) (cl : List (Str × Addr)) (fp : List Addr), PG (blkX X s H scope Cl cl fp) (.Name x p') (gName j) := by exact fun _ _ _ _ _ => pg_name (by assumption) rfl (Or.inl rfl))
    (hf : ∀ x, foldedSetIterable iter X.env x = pure x := by intro _; rfl) : wC X W elt (.Name x p') iter ifs scope G C k := by
  refine C_lc j own nd hc (fun σ P H R gd z => hi σ P H R gd fun ds C1 P' H' J n gv e => z ds C1 P' H' J n gv ?_) ok hj hgp hf
  obtain ⟨rfl, rfl⟩ := e
  refine ⟨by rw [List.length_map]; exact hz, fun i acc C' => C' = C1 ∧ acc = ((l.take i).filter p).map f, ⟨rfl, rfl⟩, fun i d acc C' hd iv => ?_, fun acc C' iv => ?_⟩
  · obtain ⟨rfl, rfl⟩ := iv
    obtain ⟨y, hy, ym, rfl⟩ := get_map hd
    have step : l.take (i + 1) = l.take i ++ [y] := by rw [List.take_add_one, hy]; rfl
    intro W' s H Cl cl fp
    refine fun σ P H Q gd z => ht y ym W' s _ Cl cl fp σ P H Q gd fun t C2 P' H' n e => z t C2 P' H' n ?_
    obtain ⟨rfl, rfl⟩ := e
    refine ⟨fun e s H Cl cl fp => (he y ym e W' s H Cl cl fp).mono fun d C3 e2 => ?_, fun e => ⟨rfl, ?_⟩⟩
    · obtain ⟨rfl, rfl⟩ := e2
      refine ⟨rfl, ?_⟩
      rw [step, List.filter_append, List.map_append, List.filter_cons, if_pos e]; rfl
    · rw [step, List.filter_append, List.filter_cons, if_neg (by rw [e]; decide)]
      show _ = (List.filter p (l.take i) ++ []).map f
      rw [List.append_nil]
  · obtain ⟨rfl, rfl⟩ := iv
    rw [List.length_map, List.take_length]
    exact q
theorem C_lcM {α : Type} {x : Str} {p' : Pos} {elt iter : Expr} {scope : Scope} (j : Nat) (own : List (Str × Nat)) (nd : X.N.Nodup) (hc : X.calm = true) (l : List α) (g : α → D) (f : α → D)
    (hi : wI X W (.Name x p') iter G C fun ds C1 => ds = l.map g ∧ C1 = C) (hz : l.length ≤ 100000)
    (he : ∀ y ∈ l, ∀ (W : Wd) (s : Shared) (H : Hp) (Cl : Addr) (cl : List (Str × Addr)) (fp : List Addr), wE (blkX X s H scope Cl cl fp) W elt ((wipeG G (own.map (·.2))).set j (some (g y))) C fun d C2 => d = f y ∧ C2 = C)
    (q : k (.lst (l.map f)) C) (ok : BlkOk X.N X.env.scope scope own := by exact blkOk_by (by kernel_rfl)) (hj : j ∈ own.map (·.2) := by decide)
    (hgp : ∀ (s : Shared) (H : Hp) (Cl : Addr) (cl : List (Str × Addr)) (fp : List Addr), PG (blkX X s H scope Cl cl fp) (.Name x p') (gName j) := by exact fun _ _ _ _ _ => pg_name (by assumption) rfl (Or.inl rfl))
    (hf : ∀ x, foldedSetIterable iter X.env x = pure x := by intro _; rfl) : wC X W elt (.Name x p') iter [] scope G C k :=
  C_lcP j own nd hc l g (fun _ => true) f hi hz (fun y hy W s H Cl cl fp => wIf_nil ⟨rfl, rfl⟩) (fun y hy _ => he y hy) (by rw [List.filter_eq_self.mpr fun _ _ => rfl]; exact q) ok hj hgp hf
/-- .. the target a pair of names; g1, g2 the parts of an item -/
theorem C_lcP2 {α : Type} {x y : Str} {px py tpos : Pos} {kx : Nat} {elt iter : Expr} {ifs : List Expr} {scope : Scope} (i j : Nat) (own : List (Str × Nat)) (nd : X.N.Nodup) (hc : X.calm = true) (l : List α) (g1 g2 : α → D) (p : α → Bool) (f : α → D)
    (hi : wI X W (.Tuple [.Name x px, .Name y py] kx tpos) iter G C fun ds C1 => ds = l.map (fun a => .tup [g1 a, g2 a]) ∧ C1 = C) (hz : l.length ≤ 100000)
    (ht : ∀ y ∈ l, ∀ (W : Wd) (s : Shared) (H : Hp) (Cl : Addr) (cl : List (Str × Addr)) (fp : List Addr), wIf (blkX X s H scope Cl cl fp) W ifs (((wipeG G (own.map (·.2))).set i (some (g1 y))).set j (some (g2 y))) C fun t C2 => t = p y ∧ C2 = C)
    (he : ∀ y ∈ l, p y = true → ∀ (W : Wd) (s : Shared) (H : Hp) (Cl : Addr) (cl : List (Str × Addr)) (fp : List Addr), wE (blkX X s H scope Cl cl fp) W elt (((wipeG G (own.map (·.2))).set i (some (g1 y))).set j (some (g2 y))) C fun d C2 => d = f y ∧ C2 = C)
    (q : k (.lst ((l.filter p).map f)) C) (ok : BlkOk X.N X.env.scope scope own := by exact blkOk_by (by kernel_rfl)) (h1 : i ∈ own.map (·.2) := by decide) (h2 : j ∈ own.map (·.2) := by decide)
    (hgp : ∀ (s : Shared) (H : Hp) (Cl : Addr) (cl : List (Str × Addr)) (fp : List Addr), PG (blkX X s H scope Cl cl fp) (.Tuple [.Name x px, .Name y py] kx tpos) (gTup X.K 2 (gCons (gName i) (gCons (gName j) gNil))) := by
      exact fun _ _ _ _ _ => pg_tup rfl (pgs_cons (pg_name (by assumption) rfl (Or.inl rfl)) (pgs_cons (pg_name (by assumption) rfl (Or.inl rfl)) pgs_nil)))
    (hf : ∀ x, foldedSetIterable iter X.env x = pure x := by intro _; rfl) : wC X W elt (.Tuple [.Name x px, .Name y py] kx tpos) iter ifs scope G C k := by
  refine C_lc2 i j own nd hc (fun σ P H R gd z => hi σ P H R gd fun ds C1 P' H' J n gv e => z ds C1 P' H' J n gv ?_) ok h1 h2 hgp hf
  obtain ⟨rfl, rfl⟩ := e
  refine ⟨by rw [List.length_map]; exact hz, fun i acc C' => C' = C1 ∧ acc = ((l.take i).filter p).map f, ⟨rfl, rfl⟩, fun i d acc C' hd iv => ?_, fun acc C' iv => ?_⟩
  · obtain ⟨rfl, rfl⟩ := iv
    obtain ⟨y, hy, ym, rfl⟩ := get_map hd
    have step : l.take (i + 1) = l.take i ++ [y] := by rw [List.take_add_one, hy]; rfl
    refine ⟨_, _, rfl, ?_⟩
    intro W' s H Cl cl fp
    refine fun σ P H Q gd z => ht y ym W' s _ Cl cl fp σ P H Q gd fun t C2 P' H' n e => z t C2 P' H' n ?_
    obtain ⟨rfl, rfl⟩ := e
    refine ⟨fun e s H Cl cl fp => (he y ym e W' s H Cl cl fp).mono fun d C3 e2 => ?_, fun e => ⟨rfl, ?_⟩⟩
    · obtain ⟨rfl, rfl⟩ := e2
      refine ⟨rfl, ?_⟩
      rw [step, List.filter_append, List.map_append, List.filter_cons, if_pos e]; rfl
    · rw [step, List.filter_append, List.filter_cons, if_neg (by rw [e]; decide)]
      show _ = (List.filter p (l.take i) ++ []).map f
      rw [List.append_nil]
  · obtain ⟨rfl, rfl⟩ := iv
    rw [List.length_map, List.take_length]
    exact q
theorem C_lcM2 {α : Type} {x y : Str} {px py tpos : Pos} {kx : Nat} {elt iter : Expr} {scope : Scope} (i j : Nat) (own : List (Str × Nat)) (nd : X.N.Nodup) (hc : X.calm = true) (l : List α) (g1 g2 : α → D) (f : α → D)
    (hi : wI X W (.Tuple [.Name x px, .Name y py] kx tpos) iter G C fun ds C1 => ds = l.map (fun a => .tup [g1 a, g2 a]) ∧ C1 = C) (hz : l.length ≤ 100000)
    (he : ∀ y ∈ l, ∀ (W : Wd) (s : Shared) (H : Hp) (Cl : Addr) (cl : List (Str × Addr)) (fp : List Addr), wE (blkX X s H scope Cl cl fp) W elt (((wipeG G (own.map (·.2))).set i (some (g1 y))).set j (some (g2 y))) C fun d C2 => d = f y ∧ C2 = C)
    (q : k (.lst (l.map f)) C) (ok : BlkOk X.N X.env.scope scope own := by exact blkOk_by (by kernel_rfl)) (h1 : i ∈ own.map (·.2) := by decide) (h2 : j ∈ own.map (·.2) := by decide)
    (hgp : ∀ (s : Shared) (H : Hp) (Cl : Addr) (cl : List (Str × Addr)) (fp : List Addr), PG (blkX X s H scope Cl cl fp) (.Tuple [.Name x px, .Name y py] kx tpos) (gTup X.K 2 (gCons (gName i) (gCons (gName j) gNil))) := by
      exact fun _ _ _ _ _ => pg_tup rfl (pgs_cons (pg_name (by assumption) rfl (Or.inl rfl)) (pgs_cons (pg_name (by assumption) rfl (Or.inl rfl)) pgs_nil)))
    (hf : ∀ x, foldedSetIterable iter X.env x = pure x := by intro _; rfl) : wC X W elt (.Tuple [.Name x px, .Name y py] kx tpos) iter [] scope G C k :=
  C_lcP2 i j own nd hc l g1 g2 (fun _ => true) f hi hz (fun y hy W s H Cl cl fp => wIf_nil ⟨rfl, rfl⟩) (fun y hy _ => he y hy) (by rw [List.filter_eq_self.mpr fun _ _ => rfl]; exact q) ok h1 h2 hgp hf
/-- a for over a list of kinds: the item of turn i is g x -/
theorem wS_forL {α : Type} {tg iter : Expr} {body : List Stmt} (l : List α) (g : α → D) (Iv : Nat → List (Option D) → Cells → Prop) (hi : wI X W tg iter G C fun ds C1 => ds = l.map g ∧ C1 = C) (h0 : Iv 0 G C)
    (hs : ∀ i y G' C', l[i]? = some y → y ∈ l → i < l.length → Iv i G' C' → wG X W tg (g y) G' C' fun G2 C2 => wSs X W body G2 C2 { E with nx := Iv (i + 1), ct := Iv (i + 1), bk := E.nx }) (hd : ∀ G' C', Iv l.length G' C' → E.nx G' C')
    (hp : PassesOwn (model X.prog X.w) X.A X.env X.xe) (hc : X.calm = true) (hf : ∀ x, foldedSetIterable iter X.env x = pure x := by intro _; rfl) : wS X W (.For tg iter body [] pos) G C E := by
  refine wS_for (fun σ P H R gd z => hi σ P H R gd fun ds C1 P' H' J n gv e => z ds C1 P' H' J n gv ?_) hp hc hf
  obtain ⟨rfl, rfl⟩ := e
  refine ⟨Iv, h0, fun i d G' C' hd' iv => ?_, fun G' C' iv => hd G' C' (by rw [List.length_map] at iv; exact iv)⟩
  obtain ⟨y, hy, ym, rfl⟩ := get_map hd'
  exact hs i y G' C' hy ym (List.getElem?_eq_some_iff.mp hy).1 iv
theorem wI.mono {tg iter : Expr} {k1 k2 : List D → Cells → Prop} (h : wI X W tg iter G C k1) (m : ∀ ds C', k1 ds C' → k2 ds C') : wI X W tg iter G C k2 := fun σ P H R g z => h σ P H R g fun ds C1 P' H' J n gv e => z ds C1 P' H' J n gv (m _ _ e)
/-- range(n), as numbers from 0 -/
theorem wI_rg {tg : Expr} {kk : List D → Cells → Prop} {p' : Pos} (hm : X.mg "range" = none) (h : wE X W e G C fun d C1 => ∃ n : Nat, d = natD n ∧ n ≤ 1000000 ∧ kk ((List.range n).map natD) C1) (hg : Gl X "range" := by rfl)
    (hs : starEach [e] X.env = [(false, eval e X.env)] := by rfl) : wI X W tg (.Call (.Name "range" p') [e] [] pos) G C kk :=
  wI_rng1 hm (h.mono fun d C1 q => by
    obtain ⟨n, rfl, h1, q⟩ := q
    exact ⟨(n : Int), rfl, by omega, by omega, by rw [Int.toNat_natCast, intsD_nat]; exact q⟩) hg hs
end
end EW

namespace EW
open PySem PySem.Spec PyProof.Rows L2

/-! ### defs -/
/-- an error as data: its class, its one field -/
structure ErrD where
  c : Addr
  f : Option (Str × D)
def ErrIs (K : PySem.W.Frag) (P H : Hp) (cls : Value) (dx : Option Addr) (ed : ErrD) : Prop :=
  cls = .ref ed.c ∧ (ed.f = none ∨ ∃ n d a v, ed.f = some (n, d) ∧ dx = some a ∧ H a = some (.xd [(n, v)]) ∧ Rep K P v d)
abbrev KE := ErrD → Cells → Prop
abbrev KE0 : KE := fun _ _ => False
/-- what a def does: arguments, cells, the wish of a value, the wish of an error -/
abbrev FS := List D → Cells → KD → KE → Prop
def spD (K : PySem.W.Frag) (F : FS) : Sp := fun vs H Q E => ∃ (P : Hp) (ds : List D) (C : Cells) (Kn : KD) (Ke : KE), Le P H ∧ Reps K P vs ds ∧ (∀ p ∈ C, P p.1 = none ∧ ∃ o, H p.1 = some o ∧ p.2.ho K P o) ∧ (C.map (·.1)).Nodup ∧ F ds C Kn Ke ∧
  (∀ d C' v P' H', Next K (baseW P H (C.map (·.1))) [] C' [] P P' H' → Rep K P' v d → Kn d C' → Q v H') ∧
  (∀ ed C' cls dx P' H', Next K (baseW P H (C.map (·.1))) [] C' [] P P' H' → ErrIs K P' H' cls dx ed → Ke ed C' → E cls dx H')
structure FnG (P : Program) (w : World) (K : PySem.W.Frag) (mg : Str → Option Value) (base : Heap) (k : Nat) (f : Addr) (fd : FuncData) (ps : List Str) (F : FS) : Prop where
  len : ∀ ds C Kn Ke, F ds C Kn Ke → ds.length = ps.length
  run : ∀ (A : Around) (outer : List Env) (s : Shared) (H : Hp) (args : Args) (us : List Value) (vs : List V) (Q : VK) (E : XK), Room k A → A.guards = some [] → Env0 P w K mg base A outer s H → BindsTo s fd args (ps.zip us) → Vals vs us → spD K F vs H Q E →
    codeAny (model P w) A (.call (.ref f) args) (CR (L2.CX P w) outer P w H s Q E) s
/-- a name of the module that holds such a def -/
structure Has (P : Program) (w : World) (K : PySem.W.Frag) (mg : Str → Option Value) (base : Heap) (x : Str) (k : Nat) (F : FS) : Prop where
  ex : ∃ f fd ps, mg x = some (.ref f) ∧ PySem.W.keepIn K (.ref f) = true ∧ Binds K fd ps [] ∧ FnG P w K mg base k f fd ps F
abbrev HasX (X : Cx) (x : Str) (k : Nat) (F : FS) : Prop := Has X.prog X.w X.K X.mg X.base x k F
theorem spD.len {K : PySem.W.Frag} {F : FS} {n : Nat} (h : ∀ ds C Kn Ke, F ds C Kn Ke → ds.length = n) {vs : List V} {H : Hp} {Q : VK} {E : XK} (x : spD K F vs H Q E) : vs.length = n := by
  obtain ⟨P, ds, C, Kn, Ke, _, r, _, _, q, _⟩ := x
  rw [r.len]; exact h _ _ _ _ q
/-- the world of a def at its call -/
def Gam0 (n : Nat) (ds : List D) : List (Option D) := ds.map some ++ List.replicate (n - ds.length) none
abbrev bX (P : Program) (w : World) (K : PySem.W.Frag) (mg : Str → Option Value) (base : Heap) (N : List Str) (qual : Str) (st : Stmt) (f : Addr) (cdv : Value) (A : Around) (outer : List Env) (s : Shared) (H : Hp) (E : XK) : Cx := cxOf (L2.CX P w) P w K mg base N qual (defScope st) f cdv A outer s H E
/-- nothing that leaves a body's loop is kept back -/
theorem bX_own {P : Program} {w : World} {K : PySem.W.Frag} {mg : Str → Option Value} {base : Heap} {N : List Str} {qual : Str} {st : Stmt} {f : Addr} {cdv : Value} {A : Around} {outer : List Env} {s : Shared} {H : Hp} {E : XK} : PassesOwn (model (bX P w K mg base N qual st f cdv A outer s H E).prog (bX P w K mg base N qual st f cdv A outer s H E).w) (bX P w K mg base N qual st f cdv A outer s H E).A (bX P w K mg base N qual st f cdv A outer s H E).env (bX P w K mg base N qual st f cdv A outer s H E).xe := passes_of rfl
/-- THE RULE of a def: from its body's walk -/
theorem fnG_of {P : Program} {w : World} {K : PySem.W.Frag} {mg : Str → Option Value} {base : Heap} {k : Nat} {f : Addr} {x qual : Str} {st : Stmt} {fd : FuncData} {N ps : List Str} {F : FS} (Fu : Fun K x qual st f fd) (S : FnScope N ps (defScope st))
    (len : ∀ ds C Kn Ke, F ds C Kn Ke → ds.length = ps.length)
    (body : ∀ (cdv : Value) (A : Around) (outer : List Env) (s : Shared) (H : Hp) (E : XK) (W : Wd) (ds : List D) (C : Cells) (Kn : KD) (Ke : KE), Room k (A.deeper (envOfC qual (defScope st) s.heap.objs.size f cdv)) → A.guards = some [] → F ds C Kn Ke →
      wSs (bX P w K mg base N qual st f cdv A outer s H E) W (defBody st) (Gam0 N.length ds) C { nx := fun _ C' => Kn .non C', rt := Kn }) :
    FnG P w K mg base (k + 1) f fd ps F := by
  obtain ⟨oc, od, kV, doc, pm, an, cdv, ct, osl, rfl, lk, hcd⟩ := Fu.ex
  refine ⟨len, fun A outer s H args us vs Q E hr hgu e0 hb rv hsp => ?_⟩
  have hl : vs.length = ps.length := hsp.len len
  have KX : K.In s.heap := e0.mod.kin.keeps fun b o e => (e0.bs b o e).1
  have lim : s.heap.NoLimit := e0.mod.nolimit.keeps fun b o e => (e0.bs b o e).1
  refine codeAny_call_function hr.depth (KX _ _ lk) rfl S.co S.gen rfl (PySem.W.codeRec_of KX hcd) (hb _ _ _ _ ?_)
  refine wpAny_newFunctionEnv_cells S.kind (fun y hy => ?_) fun env he s1 x => ?_
  · obtain ⟨n, v⟩ := y
    rcases S.par n (List.of_mem_zip hy).1 with q | q
    · exact .inl q
    · exact .inr ⟨q, PySem.W.cellsFrom_some _ _ _ (.inl q)⟩
  subst he
  refine ⟨lim.keeps x.toInCall.keep, codeAny_func ?_⟩
  have I : Inv (cxOf (L2.CX P w) P w K mg base N qual (defScope st) f cdv A outer s H E) [] (L2.start N vs) H s1 := inv_start S hr.hd e0 hl rv x
  obtain ⟨P0, ds, C, Kn, Ke, le, rs, hc, nd, hF, hk, hke⟩ := hsp
  have hdl : ds.length = ps.length := len _ _ _ _ hF
  have hpl : ps.length ≤ N.length := by
    have z := congrArg List.length S.pre
    rw [List.length_take] at z
    omega
  have g0 : Good K (baseW P0 H (C.map (·.1))) (Gam0 N.length ds) C (L2.start N vs) P0 H := by
    have gn : Good K ⟨P0, H, H, C.map (·.1)⟩ [] [] [] P0 H → True := fun _ => trivial
    refine ⟨fun a o h => ?_, le, Ex.rfl' P0, fun _ _ => rfl, fun a o h => ?_, fun _ h => h, fun i d h => ?_, fun q hq => ?_, nd, ?_⟩
    · by_cases ha : a ∈ C.map (·.1)
      · rw [show (baseW P0 H (C.map (·.1))).Hb a = none from if_pos ha] at h; cases h
      · rw [baseW_hb ha] at h
        exact ⟨(fun z => by rw [show (baseW P0 H (C.map (·.1))).H0 a = H a from rfl, h] at z; cases z), ha⟩
    · by_cases ha : a ∈ C.map (·.1)
      · rw [show (baseW P0 H (C.map (·.1))).Hb a = none from if_pos ha] at h; cases h
      · rw [baseW_hb ha] at h; exact h
    · unfold Gam0 at h
      by_cases hi : i < ds.length
      · rw [List.getElem?_append_left (by simpa using hi), List.getElem?_map] at h
        cases e : ds[i]? with
        | none => rw [e] at h; cases h
        | some d' =>
          rw [e] at h; cases h
          obtain ⟨v, h1, h2⟩ := rs.get e
          refine ⟨v, ?_, h2⟩
          unfold L2.start
          rw [List.getElem?_append_left (by rw [List.length_map, rs.len]; exact hi), List.getElem?_map, h1]; rfl
      · rw [List.getElem?_append_right (by simpa using hi), List.getElem?_replicate] at h
        split at h <;> cases h
    · obtain ⟨h1, h2⟩ := hc q hq
      exact ⟨h1, .inr (List.mem_map.mpr ⟨q, hq, rfl⟩), h2⟩
    · unfold L2.start Gam0
      rw [List.length_append, List.length_append, List.length_map, List.length_map, List.length_replicate, List.length_replicate, rs.len]
  have hbody := body cdv A outer s H E (baseW P0 H (C.map (·.1))) ds C Kn Ke (hr.deeper _) hgu hF
  refine wpAny_mono (hbody (L2.start N vs) P0 H { nx := fun _ H' => Q .non H', rt := Q } g0 ⟨fun G' C' σ' P' H' n q => hk .non C' .non P' H' n.nil .non q, fun d C' v P' H' n r q => hk d C' v P' H' n r q, fun _ _ _ _ _ _ z => z.elim, fun _ _ _ _ _ _ z => z.elim⟩ [] s1 I) (fun fl s' hs => ?_) fun e s' hs => hs
  cases fl with
  | ret u =>
    obtain ⟨v, σ', H', J, r', q⟩ := hs
    exact ⟨v, H', J.os, J.bare, J.base, J.hok, r', q⟩
  | next =>
    obtain ⟨σ', H', J, q⟩ := hs
    exact ⟨.non, H', J.os, J.bare, J.base, J.hok, rfl, q⟩
  | brk => obtain ⟨_, _, _, q⟩ := hs; exact q.elim
  | cont => obtain ⟨_, _, _, q⟩ := hs; exact q.elim

/-! ### calls -/
section
variable {X : Cx} {W : Wd} {G : List (Option D)} {C : Cells} {k : KD} {e : Expr} {es : List Expr} {pos p : Pos} {x : Str} {j n : Nat} {F : FS}
/-- the cells that are handed in stand at the places idx -/
theorem run_has {pins : List (Addr × Obj)} {σ : L2.St} {H : Hp} {s : Shared} {Q : VK} {us : List Value} {vs : List V} {f : Addr} {fd : FuncData} {ps : List Str} (R : FnG X.prog X.w X.K X.mg X.base j f fd ps F) (hr : Room j X.A) (hgu : X.A.guards = some []) (hb : Binds X.K fd ps [])
    (I : Inv X pins σ H s) (r : Vals vs us) (h : spD X.K F vs H Q fun _ _ _ => False) : wpAny (model X.prog X.w) X.A (call (.ref f) us) (EP X pins σ Q) X.xe s := by
  have hl : (us ++ []).length = ps.length := by
    rw [List.append_nil, ← r.length]; exact h.len R.len
  have hbb := hb s us I.kIn hl
  rw [List.append_nil] at hbb
  refine wpAny_call (codeAny_mono (R.run X.A X.stack s H ⟨us, []⟩ us vs Q _ hr hgu I.env0 hbb r h) fun r s' hq => ?_)
  cases r with
  | error e => exact passL (X := X) pins σ H s e s' I hq
  | ok fl =>
    cases fl with
    | ret u => exact I.after hq
    | next => exact False.elim hq
    | brk => exact False.elim hq
    | cont => exact False.elim hq
/-- the callee's end is ours: some cells were handed in (Ci), the others (Co) stayed -/
theorem Good.called {K : PySem.W.Frag} {σ : L2.St} {P H P' H' : Hp} {Ci Co C' : Cells} (g : Good K W G C σ P H) (hp : C.Perm (Ci ++ Co)) (n : Next K (baseW P H (Ci.map (·.1))) [] C' [] P P' H') : Next K W G (C' ++ Co) σ P P' H' := by
  have gg := n.good
  have ndp : ((Ci ++ Co).map (·.1)).Nodup := (hp.map (·.1)).nodup_iff.mp g.nd
  rw [List.map_append, List.nodup_append] at ndp
  obtain ⟨ndi, ndo, dis⟩ := ndp
  have inC : ∀ q, q ∈ Ci → q ∈ C := fun q h => hp.mem_iff.mpr (List.mem_append_left _ h)
  have outC : ∀ q, q ∈ Co → q ∈ C := fun q h => hp.mem_iff.mpr (List.mem_append_right _ h)
  have notio : ∀ a, a ∉ C.map (·.1) → a ∉ Ci.map (·.1) := fun a h z => by
    obtain ⟨q, hq, e⟩ := List.mem_map.mp z
    exact h (List.mem_map.mpr ⟨q, inC q hq, e⟩)
  have cellH : ∀ q ∈ C, H q.1 ≠ none := fun q hq z => by
    obtain ⟨_, _, o, ho, _⟩ := g.ce q hq
    rw [ho] at z; cases z
  have outNot : ∀ q ∈ Co, q.1 ∉ Ci.map (·.1) := fun q hq z => dis q.1 z q.1 (List.mem_map.mpr ⟨q, hq, rfl⟩) rfl
  refine ⟨n.ex, g.wf, gg.le, g.p0.tr n.ex, fun a h => ?_, fun a o h => ?_, fun a h => gg.tr a (g.tr a h), fun i d h => ?_, fun q hq => ?_, ?_, g.len⟩
  · exact (gg.fr a (g.tr a h)).trans (g.fr a h)
  · refine gg.hb a o ?_
    have nc : a ∉ C.map (·.1) := fun z => by
      obtain ⟨q, hq, rfl⟩ := List.mem_map.mp z
      obtain ⟨w1, w2⟩ := g.wf _ _ h
      rcases (g.ce q hq).2.1 with e | e
      · exact w1 e
      · exact w2 e
    rw [baseW_hb (notio a nc)]; exact g.hb a o h
  · obtain ⟨v, h1, h2⟩ := g.sl i d h
    exact ⟨v, h1, h2.ex' n.ex⟩
  · rcases List.mem_append.mp hq with hq | hq
    · obtain ⟨h1, h2, h3⟩ := gg.ce q hq
      refine ⟨h1, ?_, h3⟩
      rcases h2 with e | e
      · cases z : W.H0 q.1 with
        | none => exact .inl rfl
        | some u => exact absurd e (g.tr q.1 (by rw [z]; intro y; cases y))
      · obtain ⟨r, hr, e2⟩ := List.mem_map.mp e
        rw [← e2]; exact (g.ce r (inC r hr)).2.1
    · obtain ⟨h1, h2, o, h3, h4⟩ := g.ce q (outC q hq)
      refine ⟨(gg.fr q.1 (cellH q (outC q hq))).trans h1, h2, o, gg.hb q.1 o (by rw [baseW_hb (outNot q hq)]; exact h3), Cl.ho_ex n.ex h4⟩
  · rw [List.map_append, List.nodup_append]
    refine ⟨gg.nd, ndo, fun a ha b hb z => ?_⟩
    subst z
    obtain ⟨q, hq, rfl⟩ := List.mem_map.mp ha
    obtain ⟨q', hq', e⟩ := List.mem_map.mp hb
    obtain ⟨_, h2, _⟩ := gg.ce q hq
    rcases h2 with e2 | e2
    · exact cellH q' (outC q' hq') (by rw [e]; exact e2)
    · exact outNot q' hq' (by rw [e]; exact e2)
theorem spD_of {σ : L2.St} {P H : Hp} {Q : VK} {vs : List V} {ds : List D} {Ci Co : Cells} (g : Good X.K W G C σ P H) (rs : Reps X.K P vs ds) (hp : C.Perm (Ci ++ Co)) (hF : F ds Ci (fun d C' => k d (C' ++ Co)) KE0)
    (z : ∀ d C' v P' H', Next X.K W G C' σ P P' H' → Rep X.K P' v d → k d C' → Q v H') : spD X.K F vs H Q fun _ _ _ => False := by
  refine ⟨P, ds, Ci, _, KE0, g.le, rs, fun q hq => ?_, ?_, hF, fun d C' v P' H' n r q => z d (C' ++ Co) v P' H' (g.called hp n) r q, fun _ _ _ _ _ _ _ _ z => z.elim⟩
  · obtain ⟨h1, _, h3⟩ := g.ce q (hp.mem_iff.mpr (List.mem_append_left _ hq))
    exact ⟨h1, h3⟩
  · have ndp : ((Ci ++ Co).map (·.1)).Nodup := (hp.map (·.1)).nodup_iff.mp g.nd
    rw [List.map_append, List.nodup_append] at ndp
    exact ndp.1
/-- f(e, ..), nothing raised: C' is split into what is handed in and the rest -/
theorem wE_call (R : HasX X x j F) (hr : Room n X.A) (hgu : X.A.guards = some []) (h : wA X W (e :: es) G C fun ds C1 => ∃ Ci Co, C1.Perm (Ci ++ Co) ∧ F ds Ci (fun d C' => k d (C' ++ Co)) KE0) (hj : j ≤ n := by decide) (hg : Gl X x := by rfl)
    (hdb : (x == ("__debug__" : Str)) = false := by decide) (he : starEach (e :: es) X.env = (false, eval e X.env) :: starEach es X.env := by rfl) (hpl : (backTo pos (starEach es X.env)).any (·.1) = false := by rfl) : wE X W (.Call (.Name x p) (e :: es) [] pos) G C k := by
  obtain ⟨f, fd, ps, hm, hk, hb, R⟩ := R
  intro σ P H Q g z pins s I
  refine wpAny_Call_Name_kw (ld_glob I hg hm ?_ hdb)
  refine PySem.W.callWith_K (h₀ := X.base) I.ok.mod.kin hk (thn (h σ P H (fun vs H1 => spD X.K F vs H1 Q fun _ _ _ => False) g (fun ds C1 vs P1 H1 n1 rs q => by
    obtain ⟨Ci, Co, hp, hF⟩ := q
    exact spD_of n1.good rs hp hF fun d C' v P' H' n2 r q => z d C' v P' H' (n1.tr n2) r q) pos pins s I) fun us s1 hq => ?_) he hpl
  obtain ⟨vs, H1, I1, r, q⟩ := hq
  exact ⟨I1.kIn, run_has R (hr.mono hj) hgu hb I1 r q⟩
end
end EW

namespace EW
open PySem PySem.Spec PyProof.Rows L2

/-- what a law's def must do: from the script it gives True -/
def lawF : FS := fun ds C Kn _ => ∃ ns : List Int, ds = [.scr (ns.map D.int)] ∧ C = [] ∧ ns.length ≤ 63 ∧ ∀ C', Kn (.bl true) C'
theorem reps_ints {K : PySem.W.Frag} {P : Hp} : ∀ ns : List Int, Reps K P (ns.map V.int) (ns.map D.int)
  | [] => .nil
  | n :: r => .cons (.int n) (reps_ints r)
/-- the script as it is known at the entry -/
def scriptH (K : PySem.W.Frag) (a : Addr) (vs : List Value) (ns : List Int) : Hp := fun b => if b = a ∧ (K.lookup a).isNone = true then some (.frz { cls := .type "list", data := .seq vs.toArray } (.lst (ns.map V.int))) else none
theorem law_run {P : Program} {w : World} {K : PySem.W.Frag} {mg mb : Str → Option Value} {k : Nat} {fa a : Addr} {fd : FuncData} {x : Str} {s1 : Shared} {vs : List Value} {ns : List Int}
    (KX : K.In s1.heap) (hns : s1.heap.Ns mainGlobals mg) (hb : s1.heap.Ns builtinsNs mb) (hbb : ∀ x : Str, x ≠ "__name__" → mb x = bootBuiltins x) (hlim : s1.heap.NoLimit) (hg : s1.gens = #[])
    (ha : s1.heap.get? a = some { cls := .type "list", data := .seq vs.toArray }) (hi : IntsAre vs ns) (hl : ns.length ≤ 63) (hr : Room k callerA) (hbind : ∀ (s : Shared) (u : Value), BindsTo s fd ⟨[u], []⟩ [(x, u)])
    (F : ∀ base : Heap, K.In base → base.Ns mainGlobals mg → FnG P w K mg base k fa fd [x] lawF) :
    codeAny (model P w) callerA (.call (.ref fa) ⟨[.ref a], []⟩) (fun r s' => r = .ok (.ret (.bool true)) ∧ OldK s1.heap s'.heap ∧ s'.os = s1.os ∧ AllBare s'.gens) s1 := by
  have rv := vals_ints hi
  have lenV := hi.length
  have line : ns.length ≤ sizeLine := small_le (by omega)
  obtain ⟨H, hH⟩ : ∃ H : Hp, H = scriptH K a vs ns := ⟨_, rfl⟩
  have Hat : ∀ b, H b ≠ none → b = a ∧ K.lookup a = none ∧ H b = some (.frz { cls := .type "list", data := .seq vs.toArray } (.lst (ns.map V.int))) := fun b z => by
    rw [hH] at z ⊢
    unfold scriptH at z ⊢
    split at z
    · rename_i q
      rw [if_pos q]
      exact ⟨q.1, by simpa using q.2, rfl⟩
    · exact absurd rfl z
  have hok : HOk P w H s1.heap := fun b u e => by
    obtain ⟨rfl, _, q⟩ := Hat b (by rw [e]; intro z; cases z)
    rw [q] at e; cases e
    exact ⟨ha, by rw [List.length_map]; exact line, vs, _, rv, ha⟩
  have hS : SqL K H a (ns.map V.int) := by
    cases hk : K.lookup a with
    | none => exact .inl (.inr ⟨_, by rw [hH]; unfold scriptH; rw [if_pos ⟨rfl, by rw [hk]; rfl⟩]⟩)
    | some o =>
      have e := KX a o hk
      rw [ha] at e; cases e
      exact .inr ⟨_, vs.toArray, _, hk, rfl, rfl, rfl, by rw [List.size_toArray, lenV]; exact line, by simpa using rv⟩
  have hid : ∀ {b : Addr} {o : Obj}, s1.heap.get? b = some o → H b = none → (hidT s1.heap H).get? b = some o := fun e n => hidT_get e n
  have nodict : ∀ {b : Addr} {o : Obj} {es : Array DictEntry} {ep : Nat}, s1.heap.get? b = some o → o.data = .dict es ep → H b = none := fun {b o es ep} e d => by
    cases q : H b with
    | none => rfl
    | some u =>
      obtain ⟨rfl, _, _⟩ := Hat b (by rw [q]; intro z; cases z)
      rw [ha] at e; cases e
      have d' : Data.seq vs.toArray _ = Data.dict es ep := d
      cases d'
  have nsB : ∀ {b : Addr} {m : Str → Option Value}, s1.heap.Ns b m → (hidT s1.heap H).Ns b m := fun {b m} z => by
    obtain ⟨o, es, ep, e, d, r⟩ := z
    exact ⟨o, es, ep, hid e (nodict e d), d, r⟩
  have KB : K.In (hidT s1.heap H) := fun b o e => hid (KX b o e) (by
    cases q : H b with
    | none => rfl
    | some u =>
      obtain ⟨rfl, k0, _⟩ := Hat b (by rw [q]; intro z; cases z)
      rw [k0] at e; cases e)
  have M : Mod K mg (hidT s1.heap H) := ⟨KB, nsB hns, ⟨mb, nsB hb, hbb⟩, let ⟨mc, h1, h2⟩ := hlim; ⟨mc, nsB h1, h2⟩⟩
  have E0 : Env0 P w K mg (hidT s1.heap H) callerA [] s1 H :=
    { frames := rfl, mod := M, bs := fun b o e => of_hidT e, bsz := Nat.le_of_eq (hidT_size _ _), funs := trivial, frf := fun b z => (by cases z), hok := hok, bare := .of_eq hg }
  have sp : spD K lawF [.ref a] H (fun v _ => v = .bl true) fun _ _ _ => False :=
    ⟨H, [.scr (ns.map D.int)], [], fun d _ => d = .bl true, KE0, fun _ _ h => .inl h, .cons (.scr hS (reps_ints ns)) .nil, fun q z => (by cases z), List.nodup_nil, ⟨ns, rfl, rfl, hl, fun _ => rfl⟩,
      fun d C' v P' H' n r q => (by subst q; cases r; rfl), fun _ _ _ _ _ _ _ _ z => z.elim⟩
  refine codeAny_mono ((F _ KB (nsB hns)).run callerA [] s1 H ⟨[.ref a], []⟩ [.ref a] [.ref a] _ _ hr rfl E0 (hbind s1 (.ref a)) (.cons rfl .nil) sp) fun r s' h => ?_
  rcases r with e | fl
  · obtain ⟨_, _, _, _, _, _, _, _, _, _, _, _, z⟩ := h
    exact z.elim
  · cases fl with
    | ret u =>
      obtain ⟨v, H', os, bare, un, hok', r', q⟩ := h
      have q' : v = .bl true := q
      subst q'
      obtain rfl : u = Value.bool true := r'
      refine ⟨rfl, OldK.of_keep fun b o e => ?_, os, bare⟩
      cases q : H b with
      | none => exact un.keep b o e q (by intro z; cases z) (by intro z; cases z)
      | some u =>
        obtain ⟨rfl, _, z⟩ := Hat b (by rw [q]; intro z; cases z)
        have z2 := hok' b _ (un.frzs b _ _ z)
        obtain ⟨e2, _⟩ := z2
        rw [ha] at e; cases e
        exact e2
    | next => exact h.elim
    | brk => exact h.elim
    | cont => exact h.elim
/-- the end of a law's row -/
theorem law_end {l : PySem.W.OpenLaw} {k : Nat} {q : Program} {loose : List Str} {XP : (Str → Option Value) → Heap → Prop} {YP : World → Heap → Prop} {d : DefRec} {K : Params → PySem.W.Frag} {x : Str}
    (hn : l.most = some 63) (hdf : d.params.defaults = []) (hr : Room k callerA) (hY : ∀ (w : World) (h : Heap), YP w h → (K w.params).In h)
    (F : ∀ (w : World) (mg : Str → Option Value) (fa : Addr) (h : Heap), (K w.params).In h → h.Ns mainGlobals mg → mg d.name = some (.ref fa) →
      ∃ fd : FuncData, (∀ (s : Shared) (u : Value), BindsTo s fd ⟨[u], []⟩ [(x, u)]) ∧ ∀ base : Heap, (K w.params).In base → base.Ns mainGlobals mg → FnG l.prog w (K w.params) mg base k fa fd [x] lawF) :
    PySem.W.WalkO q loose XP YP l.row.toRowW d [] (fun f vs => PySem.call f vs) := by
  refine Att.attach_call hn hdf fun w s0 s1 mg mb fa o pm cd doc a vs ns G Y ho hd hcd hmg hobj hints hlen hg => ?_
  obtain ⟨fd, hb, hF⟩ := F w mg fa _ (hY w _ Y) G.T.g hmg
  exact law_run (hY w _ Y) G.T.g G.T.b G.T.builtins G.T.nolimit hg hobj hints hlen hr hb hF
end EW

namespace EW
open PySem PySem.Spec PyProof.Rows L2
section
variable {X : Cx} {W : Wd} {G : List (Option D)} {C : Cells} {k : KD} {kb : KB} {E : DE} {e a b c : Expr} {es : List Expr} {pos p' apos : Pos} {x : Str}

/-! ### calls of what is built in -/
theorem wE_callB (id : String) (hv : bootBuiltins x = some (.builtin id)) (hm : X.mg x = none) (h : wA X W (e :: es) G C fun ds C1 => cD X W (.builtin id) ds G C1 k) (hg : Gl X x := by rfl) (hn : x ≠ "__name__" := by decide) (hd : (x == ("__debug__" : Str)) = false := by decide)
    (he : starEach (e :: es) X.env = (false, eval e X.env) :: starEach es X.env := by rfl) (hp : (backTo pos (starEach es X.env)).any (·.1) = false := by rfl) : wE X W (.Call (.Name x p') (e :: es) [] pos) G C k :=
  wE_of (pe_callB (r := semC X (.builtin id)) (fun pins s σ H xs us Q I r h => h pins s σ us I r) hg hm hv pa_sem hn hd he hp) fun σ P H Q g z => h σ P H _ g fun ds C1 vs P1 H1 n1 r1 q => q σ P1 H1 Q vs n1.good r1 fun d C2 v P2 H2 n2 => z d C2 v P2 H2 (n1.tr n2)
theorem wE_callT (T : String) (hv : bootBuiltins x = some (.type T)) (hm : X.mg x = none) (h : wA X W (e :: es) G C fun ds C1 => cD X W (.type T) ds G C1 k) (hg : Gl X x := by rfl) (hn : x ≠ "__name__" := by decide) (hd : (x == ("__debug__" : Str)) = false := by decide)
    (he : starEach (e :: es) X.env = (false, eval e X.env) :: starEach es X.env := by rfl) (hp : (backTo pos (starEach es X.env)).any (·.1) = false := by rfl) : wE X W (.Call (.Name x p') (e :: es) [] pos) G C k :=
  wE_of (pe_callTy (r := semC X (.type T)) (fun pins s σ H xs us Q I r h => h pins s σ us I r) hg hm hv pa_sem hn hd he hp) fun σ P H Q g z => h σ P H _ g fun ds C1 vs P1 H1 n1 r1 q => q σ P1 H1 Q vs n1.good r1 fun d C2 v P2 H2 n2 => z d C2 v P2 H2 (n1.tr n2)
theorem reps1 {K : PySem.W.Frag} {P : Hp} {vs : List V} {d : D} (r : Reps K P vs [d]) : ∃ v, vs = [v] ∧ Rep K P v d := by
  cases r with
  | cons h r => cases r; exact ⟨_, rfl, h⟩
theorem reps2 {K : PySem.W.Frag} {P : Hp} {vs : List V} {d e : D} (r : Reps K P vs [d, e]) : ∃ v u, vs = [v, u] ∧ Rep K P v d ∧ Rep K P u e := by
  cases r with
  | cons h r => obtain ⟨u, rfl, h'⟩ := reps1 r; exact ⟨_, _, rfl, h, h'⟩
theorem c_lenL {ds : List D} (q : k (.int ds.length) C) : cD X W (.builtin "len") [.lst ds] G C k := cD_of call_len_seq fun σ P H Q vs g rr z => by
  obtain ⟨v, rfl, r⟩ := reps1 rr
  cases r with
  | @lst a ws _ h rs => exact ⟨a, ws, rfl, .inl (.inl (.inl (le_lst g.le h))), by rw [rs.len]; exact z _ C _ P H g.refl (.int _) q⟩
theorem c_lenR {ds : List D} (q : k (.int ds.length) C) : cD X W (.builtin "len") [.scr ds] G C k := cD_of call_len_seq fun σ P H Q vs g rr z => by
  obtain ⟨v, rfl, r⟩ := reps1 rr
  cases r with
  | @scr a ws _ h rs => exact ⟨a, ws, rfl, .inl (le_sqL g.le h), by rw [rs.len]; exact z _ C _ P H g.refl (.int _) q⟩
theorem c_lenU {ds : List D} (q : k (.int ds.length) C) : cD X W (.builtin "len") [.tup ds] G C k := cD_of call_len_seq fun σ P H Q vs g rr z => by
  obtain ⟨v, rfl, r⟩ := reps1 rr
  cases r with
  | @tup a ws _ h rs => exact ⟨a, ws, rfl, .inr (.inl (.inl (le_tup g.le h))), by rw [rs.len]; exact z _ C _ P H g.refl (.int _) q⟩
theorem c_lenS {y : Str} (hl : y.length ≤ 100000) (q : k (.int y.length) C) : cD X W (.builtin "len") [.str y] G C k := cD_of call_len_str fun σ P H Q vs g rr z => by
  obtain ⟨v, rfl, r⟩ := reps1 rr
  cases r
  exact ⟨y, rfl, small_le hl, z _ C _ P H g.refl (.int _) q⟩
theorem c_lenC (j : Nat) {p : Addr} {ds : List D} (hc : C[j]? = some (p, .lst ds)) (q : k (.int ds.length) C) : cD X W (.builtin "len") [.ref p] G C k := cD_of call_len_seq fun σ P H Q vs g rr z => by
  obtain ⟨v, rfl, r⟩ := reps1 rr
  cases r
  obtain ⟨o, ho, ws, rfl, rs⟩ := g.cell hc
  exact ⟨p, ws, rfl, .inl (.inl (.inl ho)), by rw [rs.len]; exact z _ C _ P H g.refl (.int _) q⟩
theorem c_max2 {i j : Int} (hc : X.calm = true) (q : k (.int (max i j)) C) : cD X W (.builtin "max") [.int i, .int j] G C k := cD_of (call_max2 hc) fun σ P H Q vs g r z => by
  obtain ⟨v, u, rfl, r1, r2⟩ := reps2 r
  cases r1; cases r2
  refine ⟨i, j, rfl, ?_⟩
  have e : (if j > i then j else i) = max i j := by split <;> omega
  rw [e]; exact z _ C _ P H g.refl (.int _) q
theorem c_min2 {i j : Int} (hc : X.calm = true) (q : k (.int (min i j)) C) : cD X W (.builtin "min") [.int i, .int j] G C k := cD_of (call_min2 hc) fun σ P H Q vs g r z => by
  obtain ⟨v, u, rfl, r1, r2⟩ := reps2 r
  cases r1; cases r2
  refine ⟨i, j, rfl, ?_⟩
  have e : (if j < i then j else i) = min i j := by split <;> omega
  rw [e]; exact z _ C _ P H g.refl (.int _) q
theorem reps_map {α : Type} {f : α → V} {g : α → D} {K : PySem.W.Frag} {P : Hp} (inv : ∀ a v, Rep K P v (g a) → v = f a) : ∀ {xs : List α} {vs : List V}, Reps K P vs (xs.map g) → vs = xs.map f
  | [], _, .nil => rfl
  | a :: r, _, .cons h t => by rw [List.map_cons, inv a _ h, reps_map inv t]
theorem reps_intsV {K : PySem.W.Frag} {P : Hp} {ns : List Int} {vs : List V} (r : Reps K P vs (ns.map D.int)) : vs = ns.map V.int := reps_map (f := V.int) (fun a v h => by cases h; rfl) r
theorem reps_strsV {K : PySem.W.Frag} {P : Hp} {ns : List Str} {vs : List V} (r : Reps K P vs (ns.map D.str)) : vs = ns.map V.str := reps_map (f := V.str) (fun a v h => by cases h; rfl) r
theorem reps_blsV {K : PySem.W.Frag} {P : Hp} {ns : List Bool} {vs : List V} (r : Reps K P vs (ns.map D.bl)) : vs = ns.map V.bl := reps_map (f := V.bl) (fun a v h => by cases h; rfl) r
theorem reps_strs {K : PySem.W.Frag} {P : Hp} : ∀ ns : List Str, Reps K P (ns.map V.str) (ns.map D.str)
  | [] => .nil
  | n :: r => .cons (.str n) (reps_strs r)
theorem c_all {bs : List Bool} (hc : X.calm = true) (q : k (.bl (bs.all id)) C) : cD X W (.builtin "all") [.lst (bs.map D.bl)] G C k := cD_of (cr_all hc) fun σ P H Q vs g rr z => by
  obtain ⟨v, rfl, r⟩ := reps1 rr
  cases r with
  | @lst a ws _ h rs =>
    rw [reps_blsV rs] at h
    exact ⟨a, bs, rfl, .inl (.inl (le_lst g.le h)), z _ C _ P H g.refl (.bl _) q⟩
theorem c_any {bs : List Bool} (hc : X.calm = true) (q : k (.bl (bs.any id)) C) : cD X W (.builtin "any") [.lst (bs.map D.bl)] G C k := cD_of (cr_any hc) fun σ P H Q vs g rr z => by
  obtain ⟨v, rfl, r⟩ := reps1 rr
  cases r with
  | @lst a ws _ h rs =>
    rw [reps_blsV rs] at h
    exact ⟨a, bs, rfl, .inl (.inl (le_lst g.le h)), z _ C _ P H g.refl (.bl _) q⟩

/-! ### kinds -/
def kindD : D → Option String
  | .non => some "NoneType"
  | .bl _ => some "bool"
  | .int _ => some "int"
  | .str _ => some "str"
  | .lst _ => some "list"
  | .tup _ => some "tuple"
  | .dct _ _ => some "dict"
  | _ => none
theorem kind_ty {K : PySem.W.Frag} {W : Wd} {G : List (Option D)} {C : Cells} {σ : L2.St} {P H : Hp} (g : Good K W G C σ P H) {v : V} {d : D} {t : String} (r : Rep K P v d) (h : kindD d = some t) : TyX K H v (.type t) := by
  cases r <;> first | (cases h; done) | skip
  · cases h; exact .base .non
  · cases h; exact .base (.bl _)
  · cases h; exact .base (.int _)
  · cases h; exact .base (.str _)
  · rename_i a vs ds hp rs; cases h; exact .base (.lst (le_lst g.le hp))
  · rename_i a vs ds hp rs; cases h; exact .base (.tup (le_tup g.le hp))
  · rename_i a ks vs ds hp hl rs
    cases h
    rcases le_dK g.le hp with h | ⟨o, h⟩
    · exact .base (.dK h)
    · exact .fDict h
def kindsL : List String := ["NoneType", "bool", "int", "str", "list", "tuple", "dict"]
def classL : List String := ["bool", "int", "str", "list", "tuple", "dict"]
def instT (t T : String) : Bool := t == T || (t == "bool" && T == "int")
theorem kit_all : (kindsL.all fun t => classL.all fun T => decide (kitB t T = some (instT t T))) = true := by decide +kernel
theorem kit_at {t T : String} (h : t ∈ kindsL) (h' : T ∈ classL) : kitB t T = some (instT t T) := of_decide_eq_true (List.all_eq_true.mp (List.all_eq_true.mp kit_all t h) T h')
theorem kind_in {d : D} {t : String} (h : kindD d = some t) : t ∈ kindsL := by
  cases d <;> first | (cases h; done) | (cases h; decide)
/-- is d of the built-in class T -/
def isB (d : D) (T : String) : Bool := match kindD d with
  | some t => instT t T
  | none => false
theorem c_isi {d : D} {T : String} (h1 : (kindD d).isSome = true) (q : k (.bl (isB d T)) C) (hT : T ∈ classL := by decide) : cD X W (.builtin "isinstance") [d, .ty T] G C k := cD_of call_isi fun σ P H Q vs g rs z => by
  obtain ⟨v, u, rfl, r1, r2⟩ := reps2 rs
  obtain ⟨t, ht⟩ := Option.isSome_iff_exists.mp h1
  cases r2
  have e : isB d T = instT t T := by unfold isB; rw [ht]
  exact ⟨v, .ty T, .type t, .type T, isB d T, rfl, .ty T, kind_ty g r1 ht, by rw [e]; exact kit_ty (kit_at (kind_in ht) hT), z _ C _ P H g.refl (.bl _) q⟩
/-- isinstance(x, (T, U)) -/
theorem c_isi2 {d : D} {T U : String} (h1 : (kindD d).isSome = true) (q : k (.bl (isB d T || isB d U)) C) (hT : T ∈ classL := by decide) (hU : U ∈ classL := by decide) : cD X W (.builtin "isinstance") [d, .tup [.ty T, .ty U]] G C k := cD_of call_isiT fun σ P H Q vs g rs z => by
  obtain ⟨v, u, rfl, r1, r2⟩ := reps2 rs
  obtain ⟨t, ht⟩ := Option.isSome_iff_exists.mp h1
  have e1 : isB d T = instT t T := by unfold isB; rw [ht]
  have e2 : isB d U = instT t U := by unfold isB; rw [ht]
  have h2 : kitB t T = some (isB d T) := by rw [e1]; exact kit_at (kind_in ht) hT
  have h3 : kitB t U = some (isB d U) := by rw [e2]; exact kit_at (kind_in ht) hU
  cases r2 with
  | @tup a ws _ hp rs =>
    obtain ⟨w1, w2, rfl, q1, q2⟩ := reps2 rs
    cases q1; cases q2
    have hk : PySem.W.kitAny X.K (.type t) [.type T, .type U] = some (isB d T || isB d U) := kitAny_cons (kit_ty h2) (fun e => kitAny_cons (kit_ty h3) (fun e' => by rw [e, e']; exact kitAny_nil) fun e' => by rw [e, e']; rfl) fun e => by rw [e]; rfl
    exact ⟨v, a, [.ty T, .ty U], .type t, [.type T, .type U], _, rfl, le_tup g.le hp, .cons (.ty T) (.cons (.ty U) .nil), kind_ty g r1 ht, hk, z _ C _ P H g.refl (.bl _) q⟩
/-- isinstance(e, T), T the name of a built-in class -/
theorem wE_isi (T : String) (mI : X.mg "isinstance" = none) (mT : X.mg x = none) (hv : bootBuiltins x = some (.type T)) (h : wE X W a G C fun d C1 => (kindD d).isSome = true ∧ k (.bl (isB d T)) C1) {pT : Pos} (hg : Gl X "isinstance" := by rfl) (hg2 : Gl X x := by rfl)
    (hn : x ≠ "__name__" := by decide) (hd : (x == ("__debug__" : Str)) = false := by decide) (hT : T ∈ classL := by decide)
    (he : starEach [a, .Name x pT] X.env = (false, eval a X.env) :: starEach [.Name x pT] X.env := by rfl) (hp : (backTo pos (starEach [.Name x pT] X.env)).any (·.1) = false := by rfl) (he2 : starEach [.Name x pT] X.env = (false, eval (.Name x pT) X.env) :: starEach [] X.env := by rfl) :
    wE X W (.Call (.Name "isinstance" p') [a, .Name x pT] [] pos) G C k :=
  wE_callB "isinstance" (by decide +kernel) mI (wA_cons (h.mono fun d C1 q => wA_cons (wE_ty mT hv (wA_nil (c_isi q.1 q.2 hT)) hg2 hn hd) he2) he) hg (by decide) (by decide) he hp
end
end EW

namespace EW
open PySem PySem.Spec PyProof.Rows L2

/-! ### data as the library has it: == and repr -/
mutual
def pyD : D → PyData
  | .non => .none
  | .bl b => .bool b
  | .int i => .int i
  | .str s => .str s
  | .lst xs => .list (pyDs xs)
  | .tup xs => .tuple (pyDs xs)
  | .scr xs => .list (pyDs xs)
  | _ => .none
def pyDs : List D → List PyData
  | [] => []
  | x :: xs => pyD x :: pyDs xs
end
mutual
def plD : D → Bool
  | .non | .bl _ | .int _ | .str _ => true
  | .lst xs | .tup xs | .scr xs => plDs xs
  | _ => false
def plDs : List D → Bool
  | [] => true
  | x :: xs => plD x && plDs xs
end
mutual
theorem rep_dp {K : PySem.W.Frag} {P H : Hp} (l : Le P H) : ∀ (d : D) {v : V}, plD d = true → Rep K P v d → Dp K H v (pyD d)
  | .non, _, _, .non => .non
  | .bl b, _, _, .bl _ => .bl b
  | .int i, _, _, .int _ => .int i
  | .str x, _, _, .str _ => .str x
  | .lst xs, _, h, .lst e r => .lst (.inl (.inl (le_lst l e))) (reps_dp l xs (by simpa [plD] using h) r)
  | .scr xs, _, h, .scr e r => .lst (le_sqL l e) (reps_dp l xs (by simpa [plD] using h) r)
  | .tup xs, _, h, .tup e r => .tup (.inl (.inl (le_tup l e))) (reps_dp l xs (by simpa [plD] using h) r)
theorem reps_dp {K : PySem.W.Frag} {P H : Hp} (l : Le P H) : ∀ (ds : List D) {vs : List V}, plDs ds = true → Reps K P vs ds → DpAll K H vs (pyDs ds)
  | [], _, _, .nil => .nil
  | d :: ds, _, h, .cons r rs => by
    have h' : plD d = true ∧ plDs ds = true := by simpa [plDs] using h
    exact .cons (rep_dp l d h'.1 r) (reps_dp l ds h'.2 rs)
end
theorem pyDs_map {α : Type} (l : List α) (g : α → D) : pyDs (l.map g) = l.map fun x => pyD (g x) := by
  induction l with
  | nil => rfl
  | cons x r ih => rw [List.map_cons, List.map_cons, pyDs, ih]
theorem plDs_map {α : Type} {l : List α} {g : α → D} (h : ∀ x ∈ l, plD (g x) = true) : plDs (l.map g) = true := by
  induction l with
  | nil => rfl
  | cons x r ih => rw [List.map_cons, plDs, h x (by simp), ih fun y hy => h y (by simp [hy])]; rfl
/-- data that is small enough to be shown -/
structure Fit (d : PyData) (n dep : Nat) : Prop where
  lay : d.canLay0 = true
  shw : d.showable = true
  lv : d.leavesShort 13 = true
  bk : d.bulk ≤ n
  dp : d.depth ≤ dep
  nd : d.hasDict = false
theorem Fit.mono {d : PyData} {n m a b : Nat} (f : Fit d n a) (h : n ≤ m) (h' : a ≤ b) : Fit d m b := ⟨f.lay, f.shw, f.lv, Nat.le_trans f.bk h, Nat.le_trans f.dp h', f.nd⟩
theorem fit_none : Fit .none 0 0 := ⟨rfl, rfl, rfl, Nat.le_refl _, Nat.le_refl _, rfl⟩
theorem fit_bool (b : Bool) : Fit (.bool b) 0 0 := ⟨rfl, rfl, rfl, Nat.le_refl _, Nat.le_refl _, rfl⟩
theorem log_lt {n k : Nat} (h : n < 2 ^ k) (hk : 0 < k) : n.log2 < k := by
  by_cases e : n = 0
  · subst e; exact hk
  · exact (Nat.log2_lt e).mpr h
theorem fit_int {i : Int} (h1 : -10 ^ 11 < i) (h2 : i < 10 ^ 11) : Fit (.int i) 0 0 := by
  have ha : i.natAbs < 10 ^ 11 := by omega
  refine ⟨rfl, ?_, ?_, Nat.le_refl _, Nat.le_refl _, rfl⟩
  · show decide (i.natAbs.log2 < 1920) = true
    exact decide_eq_true (Nat.lt_trans (log_lt (k := 40) (Nat.lt_trans ha (by decide)) (by decide)) (by decide))
  · show decide ((PyData.shown (.int i)).length ≤ 13) = true
    exact decide_eq_true (PyData.shown_int_le (Nat.lt_trans ha (by decide)))
theorem fit_str {x : Str} {n : Nat} (hl : x.length ≤ n) (hc : ∀ c ∈ x.cps.toList, c < 128) : Fit (.str x) n 0 := by
  refine ⟨?_, rfl, ?_, hl, Nat.le_refl _, rfl⟩
  · show x.cps.all (fun c => decide (c < 0x110000)) = true
    rw [← Array.all_toList, List.all_eq_true]
    intro c h
    exact decide_eq_true (Nat.lt_trans (hc c h) (by decide))
  · show (x.cps.toList.all fun c => decide (c < 16 ^ 8)) = true
    rw [List.all_eq_true]
    intro c h
    exact decide_eq_true (Nat.lt_trans (hc c h) (by decide))
structure FitL (ds : List PyData) (n dep : Nat) : Prop where
  lay : PyData.canLayAll0 ds = true
  shw : PyData.showableAll ds = true
  lv : PyData.leavesShortAll 13 ds = true
  bk : PyData.bulkAll ds ≤ n
  dp : PyData.depthAll ds ≤ dep
  nd : PyData.hasDictAll ds = false
theorem fits_nil {dep : Nat} : FitL [] 0 dep := ⟨rfl, rfl, rfl, Nat.le_refl _, Nat.zero_le _, rfl⟩
theorem fits_cons {d : PyData} {ds : List PyData} {n m dep : Nat} (f : Fit d n dep) (g : FitL ds m dep) : FitL (d :: ds) (n + 1 + m) dep := by
  refine ⟨?_, ?_, ?_, ?_, ?_, ?_⟩
  · simp [PyData.canLayAll0, f.lay, g.lay]
  · simp [PyData.showableAll, f.shw, g.shw]
  · simp [PyData.leavesShortAll, f.lv, g.lv]
  · have h1 := f.bk; have h2 := g.bk
    simp only [PyData.bulkAll]; omega
  · have h1 := f.dp; have h2 := g.dp
    simp only [PyData.depthAll]; omega
  · simp [PyData.hasDictAll, f.nd, g.nd]
theorem fits_map {α : Type} {l : List α} {g : α → PyData} {n dep m : Nat} (h : ∀ x ∈ l, Fit (g x) n dep) (hm : l.length ≤ m) : FitL (l.map g) (m * (n + 1)) dep := by
  have key : ∀ l : List α, (∀ x ∈ l, Fit (g x) n dep) → FitL (l.map g) (l.length * (n + 1)) dep := by
    intro l
    induction l with
    | nil => intro _; rw [List.length_nil, Nat.zero_mul]; exact fits_nil
    | cons x r ih =>
      intro h
      have f := fits_cons (h x (by simp)) (ih fun y hy => h y (by simp [hy]))
      have e : (x :: r).length * (n + 1) = n + 1 + r.length * (n + 1) := by rw [List.length_cons, Nat.succ_mul]; omega
      rw [e]; exact f
  have f := key l h
  exact ⟨f.lay, f.shw, f.lv, Nat.le_trans f.bk (Nat.mul_le_mul_right _ hm), f.dp, f.nd⟩
theorem FitL.mono {d : List PyData} {n m a b : Nat} (f : FitL d n a) (h : n ≤ m) (h' : a ≤ b) : FitL d m b := ⟨f.lay, f.shw, f.lv, Nat.le_trans f.bk h, Nat.le_trans f.dp h', f.nd⟩
theorem fit_list {ds : List PyData} {n dep : Nat} (f : FitL ds n dep) : Fit (.list ds) n (dep + 1) := ⟨f.lay, f.shw, f.lv, f.bk, Nat.succ_le_succ f.dp, f.nd⟩
theorem fit_tup {ds : List PyData} {n dep : Nat} (f : FitL ds n dep) : Fit (.tuple ds) n (dep + 1) := ⟨f.lay, f.shw, f.lv, f.bk, Nat.succ_le_succ f.dp, f.nd⟩
theorem Fit.size {d : PyData} {n dep : Nat} (f : Fit d n dep) (h : n ≤ 1000000) : d.shown.length ≤ sizeLine := by
  have z := PyData.shown_le_bulk 13 (by decide) d f.lv
  have b := f.bk
  rw [sizeLine_eq]
  omega
theorem Fit.shaped {d : PyData} {n dep : Nat} (f : Fit d n dep) (h : dep ≤ 64) : SeqAt.shaped d = true := by
  unfold SeqAt.shaped
  rw [f.lay, decide_eq_true (Nat.le_trans f.dp h)]; rfl

section
variable {X : Cx} {W : Wd} {G : List (Option D)} {C : Cells} {k : KD} {kb : KB} {E : DE} {e a b c : Expr} {es : List Expr} {pos p' apos : Pos} {x : Str}
/-- x == y of plain data -/
theorem o_eqP {x y : D} {n dep n' dep' : Nat} (hu : X.A.units + 64 < cLine) (h1 : plD x = true) (h2 : plD y = true) (f1 : Fit (pyD x) n dep) (f2 : Fit (pyD y) n' dep') (d1 : dep ≤ 64) (d2 : dep' ≤ 64) (q : k (.bl (PyData.eqv (pyD x) (pyD y))) C) : oD X W (compareOp .Eq) x y G C k :=
  oD_of (op_eqD hu) fun σ P H Q v u g r1 r2 z => ⟨pyD x, pyD y, rep_dp g.le x h1 r1, rep_dp g.le y h2 r2, f1.shaped d1, f2.shaped d2, z _ C _ P H g.refl (.bl _) q⟩
theorem o_neP {x y : D} {n dep n' dep' : Nat} (hu : X.A.units + 64 < cLine) (h1 : plD x = true) (h2 : plD y = true) (f1 : Fit (pyD x) n dep) (f2 : Fit (pyD y) n' dep') (d1 : dep ≤ 64) (d2 : dep' ≤ 64) (q : k (.bl (!PyData.eqv (pyD x) (pyD y))) C) : oD X W (compareOp .NotEq) x y G C k :=
  oD_of (op_neD hu) fun σ P H Q v u g r1 r2 z => ⟨pyD x, pyD y, rep_dp g.le x h1 r1, rep_dp g.le y h2 r2, f1.shaped d1, f2.shaped d2, z _ C _ P H g.refl (.bl _) q⟩
theorem c_repr {x : D} {n dep : Nat} (hu : X.A.units + 100 < cLine) (hgu : X.A.guards = some []) (h1 : plD x = true) (f : Fit (pyD x) n dep) (hn : n ≤ 1000000) (hd : dep ≤ 64) (q : k (.str (pyD x).shown) C) : cD X W (.builtin "repr") [x] G C k := by
  intro σ P H Q vs g rs z pins s σ' us I rv
  obtain ⟨v, rfl, r⟩ := reps1 rs
  obtain ⟨u, rfl, ru⟩ := vals1 rv
  have dp := rep_dp g.le x h1 r
  have fin : ∀ s', Inv X pins σ' H s' → ∀ tk, EP X pins σ' Q (.str (pyD x).shown tk) s' := fun s' I' tk => ⟨.str (pyD x).shown, H, I', ⟨tk, rfl⟩, z _ C _ P H g.refl (.str _) q⟩
  have cont : ∀ a, u = .ref a → wpAny (model X.prog X.w) X.A (call (.builtin "repr") [u]) (EP X pins σ' Q) X.xe s := fun a e => by
    subst e
    obtain ⟨as, rd⟩ := Dp.reads I (pyD x) v (.ref a) dp ru
    refine repr_of_reads' rd f.shw (fun e => by rw [f.nd] at e; cases e) hgu ?_ (fun b o e => e) (fun h' u' tk hk => fin _ (I.kept hk) u') (f.size hn)
    have := f.dp; omega
  cases r with
  | non => cases (show u = Value.none from ru); exact PySem.P.repr_of_none (fin _ (I.tok _) _)
  | bl y => cases (show u = Value.bool y from ru); exact PySem.P.repr_of_bool (fin _ (I.tok _) _)
  | int i => obtain ⟨t, rfl⟩ := (show ∃ t, u = Value.int i t from ru); exact PySem.P.repr_of_int (of_decide_eq_true f.shw) (fin _ (I.tok _) _)
  | str y => obtain ⟨t, rfl⟩ := (show ∃ t, u = Value.str y t from ru); exact PySem.P.repr_of_str (fin _ (I.tok _) _) (f.size hn)
  | lst _ _ => exact cont _ ru
  | scr _ _ => exact cont _ ru
  | tup _ _ => exact cont _ ru
  | dct _ _ _ => cases h1
  | obj _ _ _ => cases h1
  | ref _ => cases h1
  | ty _ => cases h1
end
end EW

namespace EW
open PySem PySem.Spec PyProof.Rows L2
section
variable {X : Cx} {W : Wd} {G : List (Option D)} {C : Cells} {k : KD} {kb : KB} {E : DE} {e a b c : Expr} {es : List Expr} {pos p' apos : Pos} {x : Str}
/-! ### texts -/
def repS (s : Str) (n : Nat) : Str := ⟨(List.replicate n s.cps.toList).flatten.toArray⟩
theorem fold_app : ∀ (n : Nat) (a : Array Nat) (acc : Array Nat), ((List.replicate n a).foldl (· ++ ·) acc).toList = acc.toList ++ (List.replicate n a.toList).flatten
  | 0, a, acc => by simp
  | n + 1, a, acc => by
    rw [List.replicate_succ, List.replicate_succ, List.foldl_cons, fold_app n a, List.flatten_cons, Array.toList_append, List.append_assoc]
theorem repS_fold (s : Str) (n : Nat) : (⟨(List.replicate n s.cps).foldl (· ++ ·) #[]⟩ : Str) = repS s n := by
  have h := fold_app n s.cps #[]
  unfold repS
  congr 1
  apply Array.toList_inj.mp
  rw [h]; simp
theorem repS_len (s : Str) (n : Nat) : (repS s n).length = n * s.length := by
  show (List.replicate n s.cps.toList).flatten.toArray.size = n * s.cps.size
  rw [List.size_toArray, List.length_flatten, List.map_replicate, List.sum_replicate_nat]
  rw [Array.length_toList]
theorem op_mulS : OpR X (binaryOp .Mult) (fun x y H Q => ∃ s n, x = .str s ∧ y = .int ((n : Nat) : Int) ∧ n ≤ 100000 ∧ s.length * n ≤ 100000 ∧ Q (.str (repS s n)) H) := by
  intro pins st σ H x y v u Q I rx ry h
  obtain ⟨s, n, rfl, rfl, hn, hz, q⟩ := h
  obtain ⟨t, rfl⟩ := rx
  obtain ⟨t', rfl⟩ := ry
  refine PySem.P.mul_str ?_ (fun _ _ => ?_) (fun _ _ => ?_) ?_
  · have h1 : ¬ ((n : Int) < -(2 ^ 63 : Int)) := by omega
    have h2 : ¬ ((n : Int) ≥ 2 ^ 63) := by omega
    rw [decide_eq_false h1, decide_eq_false h2]; rfl
  · intro hh
    have hs : (s.length : Int) ≤ 100000 ∨ n = 0 := by
      by_cases e : n = 0
      · exact .inr e
      · left
        have : s.length * 1 ≤ s.length * n := Nat.mul_le_mul_left _ (by omega)
        omega
    rcases hs with hs | hs
    · by_cases e : n = 0
      · omega
      · have : ((2 : Int) ^ 63 - 1) / (n : Int) ≥ 100000 := by
          have h3 : (100000 : Int) * n ≤ 2 ^ 63 - 1 := by omega
          exact Int.le_ediv_of_mul_le (by omega) h3
        omega
    · omega
  · have : s.length * (n : Int).toNat ≤ 100000 := by rw [Int.toNat_natCast]; exact hz
    show decide (s.length * (n : Int).toNat > sizeLine) = false
    exact decide_eq_false (by have := small_le this; omega)
  · have fin : ∀ tk, EP X pins σ Q (.str (repS s n) tk) { st with toks := st.toks + 1 } := fun tk => ⟨.str (repS s n), H, I.tok _, ⟨tk, rfl⟩, q⟩
    split
    · have e : n = 0 := by omega
      subst e
      have e2 : repS s 0 = Str.empty := rfl
      refine ⟨by decide, ?_⟩
      have := fin st.toks
      rw [e2] at this; exact this
    · split
      · rename_i h1 h2
        have e2 : repS s n = s := by
          rcases Bool.or_eq_true_iff.mp h2 with h | h
          · have e : n = 1 := by have := of_decide_eq_true h; omega
            subst e
            unfold repS
            simp
          · have e' : s.cps.size = 0 := by
              have z : (s.length : Nat) = 0 := by simpa using h
              exact z
            have e3 : s.cps = #[] := Array.eq_empty_of_size_eq_zero e'
            unfold repS
            obtain ⟨cps⟩ := s
            simp only at e3
            subst e3
            simp
        rw [e2] at q
        exact ⟨.str s, H, I, ⟨t, rfl⟩, q⟩
      · rw [Int.toNat_natCast, repS_fold]
        refine ⟨?_, fin _⟩
        rw [repS_len, Nat.mul_comm]
        exact small_le hz
theorem o_mulS {s : Str} {n : Nat} (hn : n ≤ 100000) (hz : s.length * n ≤ 100000) (q : k (.str (repS s n)) C) : oD X W (binaryOp .Mult) (.str s) (.int (n : Int)) G C k := oD_of op_mulS fun σ P H Q v u g r1 r2 z => by
  cases r1; cases r2; exact ⟨s, n, rfl, rfl, hn, hz, z _ C _ P H g.refl (.str _) q⟩
/-- is, of truth values -/
theorem o_isB {s t : Bool} (q : k (.bl (decide (s = t))) C) : oD X W (compareOp .Is) (.bl s) (.bl t) G C k := oD_of op_isBl fun σ P H Q v u g r1 r2 z => by
  cases r1; cases r2; exact ⟨s, t, rfl, rfl, z _ C _ P H g.refl (.bl _) q⟩
/-! ### methods of what is built in -/
def semM (X : Cx) (id : String) : V → List V → Hp → VK → Prop := fun x xs H Q => ∀ (pins : List (Addr × Obj)) (s : Shared) (σ : L2.St) (v : Value) (us : List Value), Inv X pins σ H s → RelV x v → Vals xs us → wpAny (model X.prog X.w) X.A (call (.builtin id) (v :: us)) (EP X pins σ Q) X.xe s
def mD (X : Cx) (W : Wd) (id : String) (d : D) (ds : List D) (G : List (Option D)) (C : Cells) (k : KD) : Prop :=
  ∀ (σ : L2.St) (P H : Hp) (Q : VK) (v : V) (vs : List V), Good X.K W G C σ P H → Rep X.K P v d → Reps X.K P vs ds → (∀ d C' z P' H', Next X.K W G C' σ P P' H' → Rep X.K P' z d → k d C' → Q z H') → semM X id v vs H Q
/-- the built-in kind of d -/
def tyD (T : String) (C : Cells) : D → Prop
  | .str _ => T = "str"
  | .lst _ => T = "list"
  | .ref a => (T = "list" ∧ ∃ ds, (a, Cl.lst ds) ∈ C) ∨ (T = "dict" ∧ ∃ ks ds, (a, Cl.dct ks ds) ∈ C)
  | _ => False
theorem tyD_v {K : PySem.W.Frag} {σ : L2.St} {P H : Hp} {T : String} {d : D} {v : V} (g : Good K W G C σ P H) (r : Rep K P v d) (h : tyD T C d) : tyV K T v H := by
  cases r with
  | str _ => exact h
  | lst e _ => exact .inl ⟨h, _, .inl (.inl (le_lst g.le e))⟩
  | dct e _ _ => exact h.elim
  | ref a =>
    rcases h with ⟨rfl, ds, hm⟩ | ⟨rfl, ks, ds, hm⟩
    · obtain ⟨_, _, o, ho, vs, rfl, _⟩ := g.ce _ hm
      exact .inl ⟨rfl, vs, .inl (.inl ho)⟩
    · obtain ⟨_, _, o, ho, vs, rfl, _⟩ := g.ce _ hm
      exact .inr (.inr (.inl ⟨rfl, .inl ⟨_, ho⟩⟩))
  | non => exact h.elim
  | bl _ => exact h.elim
  | int _ => exact h.elim
  | tup _ _ => exact h.elim
  | scr _ _ => exact h.elim
  | obj _ _ _ => exact h.elim
  | ty _ => exact h.elim
theorem mD_of {id : String} {r : V → List V → Hp → VK → Prop} {d : D} {ds : List D} (h : MtR X id r) (hr : ∀ σ P H (Q : VK) v vs, Good X.K W G C σ P H → Rep X.K P v d → Reps X.K P vs ds → (∀ d C' z P' H', Next X.K W G C' σ P P' H' → Rep X.K P' z d → k d C' → Q z H') → r v vs H Q) : mD X W id d ds G C k :=
  fun σ P H Q v vs g r1 rs z pins s σ' u us I rv ru => h pins s σ' H v vs u us Q I rv ru (hr σ P H Q v vs g r1 rs z)
theorem wE_m {T id : String} {name : Str} {o : Expr} (pa : PlainAttrs T) (slot : Slot T name id) (hty : typeOf (.builtin id) = pure (.type "method_descriptor")) (h : wE X W o G C fun d C1 => tyD T C1 d ∧ wA X W (e :: es) G C1 fun ds C2 => mD X W id d ds G C2 k)
    (hbase : attributeBase o name X.env (eval o X.env) = eval o X.env := by rfl)
    (hfew : ((backTo pos (starEach (e :: es) X.env)).all (fun x => !x.1) && (backToKw pos (keywordEach [] X.env)).all (fun x => x.1.isSome) && decide ((e :: es).length + ([] : List Keyword).length + (if ([] : List Keyword).isEmpty then 0 else 1) < 30)) = true := by rfl)
    (hline : (apos.endLine == pos.line) = true := by rfl) (hs : starEach (e :: es) X.env = (false, eval e X.env) :: starEach es X.env := by rfl) (hplain : (backTo pos (starEach es X.env)).any (·.1) = false := by rfl) :
    wE X W (.Call (.Attribute o name apos) (e :: es) [] pos) G C k :=
  wE_of (pe_bm (r := semM X id) pa slot hty (fun pins s σ H x xs v us Q I rx rs h => h pins s σ v us I rx rs) pe_sem pa_sem hbase hfew hline hs hplain) fun σ P H Q g z => h σ P H _ g fun d C1 v P1 H1 n1 r1 q =>
    ⟨tyD_v n1.good r1 q.1, q.2 σ P1 H1 _ n1.good fun ds C2 vs P2 H2 n2 rs q2 => q2 σ P2 H2 Q v vs n2.good (r1.ex' n2.ex) rs fun d C3 w P3 H3 n3 => z d C3 w P3 H3 (n1.tr (n2.tr n3))⟩
theorem wE_m0 {T id : String} {name : Str} {o : Expr} (pa : PlainAttrs T) (slot : Slot T name id) (hty : typeOf (.builtin id) = pure (.type "method_descriptor")) (h : wE X W o G C fun d C1 => tyD T C1 d ∧ mD X W id d [] G C1 k)
    (hbase : attributeBase o name X.env (eval o X.env) = eval o X.env := by rfl) (hline : (apos.endLine == pos.line) = true := by rfl) : wE X W (.Call (.Attribute o name apos) [] [] pos) G C k :=
  wE_of (pe_bm0 (r := semM X id) pa slot hty (fun pins s σ H x xs v us Q I rx rs h => h pins s σ v us I rx rs) pe_sem hbase hline) fun σ P H Q g z => h σ P H _ g fun d C1 v P1 H1 n1 r1 q =>
    ⟨tyD_v n1.good r1 q.1, q.2 σ P1 H1 Q v [] n1.good r1 .nil fun d C3 w P3 H3 n3 => z d C3 w P3 H3 (n1.tr n3)⟩
/-- l.append(e) -/
theorem m_append (i : Nat) {p : Addr} {ds : List D} {y : D} (hc : C[i]? = some (p, .lst ds)) (hz : ds.length < 100000) (q : k .non (C.set i (p, .lst (ds ++ [y])))) : mD X W "list.append" (.ref p) [y] G C k := mD_of mt_append fun σ P H Q v vs g r1 rs z => by
  obtain ⟨u, rfl, r2⟩ := reps1 rs
  cases r1
  obtain ⟨o, ho, ws, rfl, rs'⟩ := g.cell hc
  exact ⟨p, ws, u, rfl, rfl, ho, by rw [rs'.len]; exact small_lt hz, z _ _ .non P _ ⟨Ex.rfl' P, g.write (c' := .lst (ds ++ [y])) hc ⟨_, rfl, rs'.app (.cons r2 .nil)⟩⟩ .non q⟩
/-- l.count(i), ints -/
theorem m_count {ns : List Int} {i : Int} (q : k (.int (ns.count i : Nat)) C) : mD X W "list.count" (.lst (ns.map D.int)) [.int i] G C k := mD_of mt_lcount fun σ P H Q v vs g r1 rs z => by
  obtain ⟨u, rfl, r2⟩ := reps1 rs
  cases r2
  cases r1 with
  | @lst a ws _ e rs' =>
    rw [reps_intsV rs'] at e
    exact ⟨a, ns, i, rfl, rfl, .inl (.inl (le_lst g.le e)), z _ C _ P H g.refl (.int _) q⟩
/-- s.join(xs) -/
theorem wE_join {o : Expr} (h : wE X W o G C fun d C1 => (∃ s, d = .str s) ∧ wE X W e G C1 fun d2 C2 => ∃ s ys, d = .str s ∧ d2 = .lst (ys.map D.str) ∧ (ys.map (·.length)).sum + ys.length * s.length ≤ 100000 ∧ k (.str (Txt.join s ys)) C2)
    (hs : starEach [e] X.env = [(false, eval e X.env)] := by rfl) (hbase : attributeBase o "join" X.env (eval o X.env) = eval o X.env := by rfl) (hline : (apos.endLine == pos.line) = true := by rfl) : wE X W (.Call (.Attribute o "join" apos) [e] [] pos) G C k :=
  wE_of (pe_join pe_sem pe_sem hs hbase hline) fun σ P H Q g z => h σ P H _ g fun d C1 v P1 H1 n1 r1 q => by
    obtain ⟨⟨s, rfl⟩, q⟩ := q
    cases r1
    refine ⟨⟨s, rfl⟩, q σ P1 H1 _ n1.good fun d2 C2 v2 P2 H2 n2 r2 q2 => ?_⟩
    obtain ⟨s', ys, e1, rfl, hz, q2⟩ := q2
    cases e1
    cases r2 with
    | @lst a ws _ hl rs =>
      rw [reps_strsV rs] at hl
      exact ⟨s, a, ys, rfl, rfl, .inl (.inl (.inl (le_lst n2.good.le hl))), by omega, z _ C2 _ P2 H2 (n1.tr n2) (.str _) q2⟩
/-- the signs of a text, one by one -/
def sgD (c : Nat) : D := .str ⟨#[c]⟩
theorem gives_str {K : PySem.W.Frag} {P : Hp} {s : Str} : Gives K (Its s) (s.cps.toList.map sgD) P :=
  ⟨⟨(fun _ => True), (fun i H v H' => H' = H ∧ ∃ c, s.cps[i]? = some c ∧ v = .str ⟨#[c]⟩), (by rw [List.length_map, Array.length_toList]; exact walk_str), fun _ _ _ _ => trivial, fun i P2 H2 x H3 hi e l y => by
    obtain ⟨rfl, c, hc, rfl⟩ := y
    refine ⟨P2, sgD c, ?_, .str _, .inl ⟨rfl, rfl⟩⟩
    rw [List.getElem?_map, Array.getElem?_toList, hc]; rfl⟩⟩
theorem wI_str {tg : Expr} {kk : List D → Cells → Prop} (h : wE X W e G C fun d C1 => ∃ s : Str, d = .str s ∧ kk (s.cps.toList.map sgD) C1) : wI X W tg e G C kk := fun σ P H R g z pins s I =>
  (pi_str pe_sem).run pins s σ H R I (h σ P H _ g fun d C1 v P1 H1 n1 r1 q => by
    obtain ⟨s, rfl, q⟩ := q
    cases r1
    exact ⟨s, rfl, z _ C1 P1 H1 _ n1 gives_str q⟩)
/-- l[i] = e -/
theorem wG_ixC (j : Nat) {o i : Expr} {d : D} {kg : List (Option D) → Cells → Prop} (h : wE X W o G C fun d1 C1 => wE X W i G C1 fun d2 C2 => ∃ p ds n m, d1 = .ref p ∧ d2 = .int n ∧ C2[j]? = some (p, .lst ds) ∧ ixN ds.length n = some m ∧ kg G (C2.set j (p, .lst (ds.set m d))))
    (ha : ∀ v, assign (.Subscript o i pos) X.env v = (do
      let ov ← holding [v] (eval o X.env)
      let iv ← holding [v, ov] (eval i X.env)
      standAt pos
      holding [v, ov, iv] (setItem ov iv v)
      release [v, ov, iv] []) := by intro _; rfl) : wG X W (.Subscript o i pos) d G C kg := fun σ P H Q v g r z pins s u I rv =>
  (pg_sub pe_sem pe_sem set_list ha).run pins s σ H v u Q I rv (h σ P H _ g fun d1 C1 v1 P1 H1 n1 r1 q => q σ P1 H1 _ n1.good fun d2 C2 v2 P2 H2 n2 r2 q2 => by
    obtain ⟨p, ds, n, m, rfl, rfl, hc, hm, q2⟩ := q2
    cases r1; cases r2
    obtain ⟨o', ho, ws, rfl, rs⟩ := n2.good.cell hc
    exact ⟨p, ws, n, m, rfl, rfl, ho, by rw [rs.len]; exact hm, z G _ σ P2 _ (n1.tr (n2.tr ⟨Ex.rfl' _, n2.good.write (c' := .lst (ds.set m d)) hc ⟨_, rfl, Reps.setAt ((r.ex' n1.ex).ex' n2.ex) ds ws m rs⟩⟩)) q2⟩)
/-! ### a box: its parts, and it again -/
theorem wSs_open (i : Nat) {p : Addr} {n : Nat} {sts : List Stmt} (hc : C[i]? = some (p, .box n)) (h : ∀ x y c : Int, 0 ≤ y → y < 2147483629 → 0 ≤ c → c ≤ n → wSs X W sts G (C.set i (p, .lst [.int x, .int y, .int c])) E) : wSs X W sts G C E := fun σ P H T g f => by
  obtain ⟨o, ho, x, y, c, rfl, h1, h2, h3, h4⟩ := g.cell hc
  have g' := g.write (c' := .lst [.int x, .int y, .int c]) (o := .lst [.int x, .int y, .int c]) hc ⟨_, rfl, .cons (.int x) (.cons (.int y) (.cons (.int c) .nil))⟩
  have e : upd H p (.lst [.int x, .int y, .int c]) = H := by
    funext b
    by_cases hb : b = p
    · rw [hb, upd_same, ho]
    · rw [upd_ne hb]
  rw [e] at g'
  exact h x y c h1 h2 h3 h4 σ P H T g' f
theorem wSs_close (i : Nat) {p : Addr} {x y c : Int} (n : Nat) {sts : List Stmt} (hc : C[i]? = some (p, .lst [.int x, .int y, .int c])) (h1 : 0 ≤ y) (h2 : y < 2147483629) (h3 : 0 ≤ c) (h4 : c ≤ n) (h : wSs X W sts G (C.set i (p, .box n)) E) : wSs X W sts G C E := fun σ P H T g f => by
  obtain ⟨o, ho, vs, rfl, rs⟩ := g.cell hc
  have g' := g.write (c' := .box n) (o := .lst vs) hc (by
    cases rs with
    | cons r1 rs =>
      cases rs with
      | cons r2 rs =>
        cases rs with
        | cons r3 rs => cases rs; cases r1; cases r2; cases r3; exact ⟨x, y, c, rfl, h1, h2, h3, h4⟩)
  have e : upd H p (.lst vs) = H := by
    funext b
    by_cases hb : b = p
    · rw [hb, upd_same, ho]
    · rw [upd_ne hb]
  rw [e] at g'
  exact h σ P H T g' f
end
end EW

namespace EW
open PySem PySem.Spec PyProof.Rows L2
section
variable {X : Cx} {W : Wd} {G : List (Option D)} {C : Cells} {k : KD} {kb : KB} {E : DE} {e a b c : Expr} {es : List Expr} {pos p' p2 apos : Pos} {x : Str}
theorem wE_ifP {t : Bool} {d1 d2 : D} (h : wT X W c G C fun t' C' => t' = t ∧ C' = C) (h1 : t = true → wE X W a G C fun d' C' => d' = d1 ∧ C' = C) (h2 : t = false → wE X W b G C fun d' C' => d' = d2 ∧ C' = C) (q : k (if t = true then d1 else d2) C) : wE X W (.IfExp c a b pos) G C k :=
  wE_if (wT_v h ⟨fun e => wE_v (h1 e) (by rw [if_pos e] at q; exact q), fun e => wE_v (h2 e) (by rw [if_neg (by rw [e]; decide)] at q; exact q)⟩)
/-- the end of a chain of comparisons: both answers are known -/
theorem wE_chainP {t u : Bool} {e : Expr} {op' : CmpOp} {y : D} (h : t = true → wE X W e G C fun w C4 => oD X W (compareOp op') y w G C4 fun d C' => d = .bl u ∧ C' = C) (q : k (.bl (t && u)) C) :
    ∃ t', (D.bl t) = .bl t' ∧ (t' = true → wE X W e G C fun w C4 => oD X W (compareOp op') y w G C4 k) ∧ (t' = false → k (.bl false) C) :=
  ⟨t, rfl, fun e' => (h e').mono fun w C4 z σ P H Q v u' g r1 r2 zz => z σ P H Q v u' g r1 r2 fun d C' z' P' H' n r e => by
      obtain ⟨rfl, rfl⟩ := e
      rw [e'] at q
      exact zz _ _ z' P' H' n r q, fun e' => by rw [e'] at q; exact q⟩
theorem wT_chain {op op' : CmpOp} (h : wE X W a G C fun x C1 => wE X W b G C1 fun y C2 => oD X W (compareOp op) x y G C2 fun z C3 => ∃ t, z = .bl t ∧ (t = true → wE X W c G C3 fun w C4 => oD X W (compareOp op') y w G C4 (kb2 kb)) ∧ (t = false → kb2 kb (.bl false) C3)) (hm : lastMarks [op, op'] [b, c] = false := by with_unfolding_all rfl) : wT X W (.Compare a [op, op'] [b, c] pos) G C kb :=
  wT_of (pt_chain (r := semO X (compareOp op)) (r' := semO X (compareOp op')) (fun pins s σ H x y v u Q I rx ry h => h pins s σ v u I rx ry) (fun pins s σ H x y v u Q I rx ry h => h pins s σ v u I rx ry) pe_sem pe_sem pe_sem hm) fun σ P H Q g z =>
    h σ P H _ g fun x C1 v P1 H1 n1 r1 h1 => h1 σ P1 H1 _ n1.good fun y C2 u P2 H2 n2 r2 h2 => h2 σ P2 H2 _ v u n2.good (r1.ex' n2.ex) r2 fun d C3 w P3 H3 n3 r3 h3 => by
      obtain ⟨t, rfl, h3, h4⟩ := h3
      cases r3
      refine ⟨t, rfl, ?_⟩
      cases t with
      | true =>
        refine h3 rfl σ P3 H3 _ n3.good fun y' C4 u' P4 H4 n4 r4 h5 => h5 σ P4 H4 _ u u' n4.good ((r2.ex' n3.ex).ex' n4.ex) r4 fun d C5 w P5 H5 n5 r5 h6 => ?_
        obtain ⟨t, rfl, h6⟩ := h6
        cases r5
        exact ⟨t, rfl, z t C5 P5 H5 (n1.tr (n2.tr (n3.tr (n4.tr n5)))) h6⟩
      | false =>
        obtain ⟨t, e, h6⟩ := h4 rfl
        cases e
        exact ⟨false, rfl, z false C3 P3 H3 (n1.tr (n2.tr n3)) h6⟩
/-! ### slices -/
def semPo (X : Cx) (e : Option Expr) : TO := fun σ H Q => ∀ (pins : List (Addr × Obj)) (s : Shared), Inv X pins σ H s → wpAny (model X.prog X.w) X.A (evalPart e X.env) (fun u s' => ∃ o H', Inv X pins σ H' s' ∧ IsPart u o ∧ Q o H') X.xe s
theorem po_sem {e : Option Expr} : PO X e (semPo X e) := ⟨fun pins s _ _ _ I h => h pins s I⟩
def wO (X : Cx) (W : Wd) (e : Option Expr) (G : List (Option D)) (C : Cells) (k : Option Int → Cells → Prop) : Prop :=
  ∀ (σ : L2.St) (P H : Hp) (Q : Option Int → Hp → Prop), Good X.K W G C σ P H → (∀ o C' P' H', Next X.K W G C' σ P P' H' → k o C' → Q o H') → semPo X e σ H Q
theorem pO_none {ko : Option Int → Cells → Prop} (q : ko none C) : wO X W none G C ko := fun σ P H Q g z pins s I => (po_none (X := X)).run pins s σ H Q I (z none C P H g.refl q)
theorem pO_some {ko : Option Int → Cells → Prop} (h : wE X W e G C fun d C1 => ∃ i, d = .int i ∧ ko (some i) C1) : wO X W (some e) G C ko := fun σ P H Q g z pins s I => (po_some pe_sem).run pins s σ H Q I (h σ P H _ g fun d C1 v P1 H1 n1 r1 q => by
  obtain ⟨i, rfl, q⟩ := q
  cases r1
  exact ⟨i, rfl, z (some i) C1 P1 H1 n1 q⟩)
def semSl (X : Cx) : V → Option Int → Option Int → Hp → VK → Prop := fun x lo hi H Q => ∀ (pins : List (Addr × Obj)) (s : Shared) (σ : L2.St) (v vl vu : Value) (sl : Addr), Inv X pins σ H s → RelV x v → s.heap.IsSliceOf sl vl vu .none → IsPart vl lo → IsPart vu hi →
    ∃ T id, typeLookup (.type T) "__getitem__" = pure (some (.builtin id)) ∧ s.TypeIs v T ∧ wpAny (model X.prog X.w) X.A (getItem v (.ref sl)) (EP X pins σ Q) X.xe s
def sD (X : Cx) (W : Wd) (d : D) (lo hi : Option Int) (G : List (Option D)) (C : Cells) (k : KD) : Prop :=
  ∀ (σ : L2.St) (P H : Hp) (Q : VK) (v : V), Good X.K W G C σ P H → Rep X.K P v d → (∀ d C' z P' H', Next X.K W G C' σ P P' H' → Rep X.K P' z d → k d C' → Q z H') → semSl X v lo hi H Q
theorem wE_sl {lo hi : Option Expr} (h : wE X W a G C fun d C1 => wO X W lo G C1 fun l C2 => wO X W hi G C2 fun u C3 => sD X W d l u G C3 k) : wE X W (.Subscript a (.Slice lo hi none p2) pos) G C k :=
  wE_of (pe_slice (r := semSl X) (fun pins s σ H x v vl vu lo hi sl Q I rx hs pl pu h => h pins s σ v vl vu sl I rx hs pl pu) pe_sem po_sem po_sem) fun σ P H Q g z =>
    h σ P H _ g fun d C1 v P1 H1 n1 r1 q => q σ P1 H1 _ n1.good fun l C2 P2 H2 n2 q2 => q2 σ P2 H2 _ n2.good fun u C3 P3 H3 n3 q3 => q3 σ P3 H3 Q v n3.good ((r1.ex' n2.ex).ex' n3.ex) fun d C4 w P4 H4 n4 => z d C4 w P4 H4 (n1.tr (n2.tr (n3.tr n4)))
theorem sD_of {d : D} {lo hi : Option Int} {r : V → Option Int → Option Int → Hp → VK → Prop} (h : SlR X r) (hr : ∀ σ P H (Q : VK) v, Good X.K W G C σ P H → Rep X.K P v d → (∀ d C' z P' H', Next X.K W G C' σ P P' H' → Rep X.K P' z d → k d C' → Q z H') → r v lo hi H Q) : sD X W d lo hi G C k :=
  fun σ P H Q v g r1 z pins s σ' u vl vu sl I rv hs pl pu => h pins s σ' H v u vl vu lo hi sl Q I rv hs pl pu (hr σ P H Q v g r1 z)
theorem sD_str {y : Str} {lo hi : Option Int} (hl : y.length ≤ 100000) (q : k (.str (cutS y lo hi)) C) : sD X W (.str y) lo hi G C k := sD_of sl_str fun σ P H Q v g r1 z => by
  cases r1; exact ⟨y, rfl, small_le hl, z _ C _ P H g.refl (.str _) q⟩
/-- a slice of a list, as data -/
def cutD (xs : List D) (lo hi : Option Int) : List D := (xs.drop (HT.sIx xs.length 0 lo)).take (HT.sIx xs.length xs.length hi - HT.sIx xs.length 0 lo)
theorem sD_lst {ds : List D} {lo hi : Option Int} (q : k (.lst (cutD ds lo hi)) C) : sD X W (.lst ds) lo hi G C k := sD_of sl_list fun σ P H Q v g r1 z => by
  cases r1 with
  | @lst a vs _ h rs =>
    refine ⟨a, vs, rfl, .inl (.inl (le_lst g.le h)), fun p np => ?_⟩
    have n := g.new (o := .lst (cutV vs lo hi)) np
    have rc : Reps X.K P (cutV vs lo hi) (cutD ds lo hi) := by
      unfold cutV cutD
      rw [rs.len]
      exact (rs.drop _).take _
    exact z _ C (.ref p) _ _ n (.lst upd_same (rc.ex' n.ex)) q
/-! ### two names at once -/
theorem wS_par (i j : Nat) {x y : Str} {px py pt : Pos} {kt k2 : Nat} {pt2 : Pos} (h : wA X W [a, b] G C fun ds C1 => ∃ d1 d2, ds = [d1, d2] ∧ E.nx ((G.set i (some d1)).set j (some d2)) C1) (nd : X.N.Nodup) (hc : X.calm = true := by rfl) (hi : X.N[i]? = some x := by rfl) (hj : X.N[j]? = some y := by rfl) (hij : i ≠ j := by decide)
    (hx : X.env.scope.names.lookup x = some .local := by rfl) (hy : X.env.scope.names.lookup y = some .local := by rfl) (hw : swappedStores [.Tuple [.Name x px, .Name y py] kt pt] (.Tuple [a, b] k2 pt2) X.env = pure (some [x, y]) := by rfl)
    (hs : swapsWithSole [.Tuple [.Name x px, .Name y py] kt pt] (.Tuple [a, b] k2 pt2) pos.line X.env = pure false := by rfl) : wS X W (.Assign [.Tuple [.Name x px, .Name y py] kt pt] (.Tuple [a, b] k2 pt2) pos) G C E :=
  wS_of (ps_par hc nd hi hj hij hx hy pa_sem hw hs) fun σ P H T g f => h σ P H _ g fun ds C1 vs P1 H1 n1 r1 q => by
    obtain ⟨d1, d2, rfl, q⟩ := q
    obtain ⟨v, u, rfl, q1, q2⟩ := reps2 r1
    exact ⟨v, u, rfl, f.nx _ C1 _ P1 H1 ⟨n1.ex, (n1.good.slot q1).slot q2⟩ q⟩
/-- a new box -/
theorem wE_box (n : Nat) (h : wE X W e G C fun d C' => ∃ (p : Addr) (x y c : Int), d = .ref p ∧ C' = C ++ [(p, .lst [.int x, .int y, .int c])] ∧ 0 ≤ y ∧ y < 2147483629 ∧ 0 ≤ c ∧ c ≤ n ∧ k (.ref p) (C ++ [(p, .box n)])) : wE X W e G C k := fun σ P H Q g z => h σ P H Q g fun d C' v P' H' nx r q => by
  obtain ⟨p, x, y, c, rfl, rfl, h1, h2, h3, h4, q⟩ := q
  cases r
  have hi : (C ++ [(p, Cl.lst [.int x, .int y, .int c])])[C.length]? = some (p, .lst [.int x, .int y, .int c]) := by simp
  obtain ⟨o, ho, vs, rfl, rs⟩ := nx.good.cell hi
  have g' := nx.good.write (c' := .box n) (o := .lst vs) hi (by
    cases rs with
    | cons r1 rs =>
      cases rs with
      | cons r2 rs =>
        cases rs with
        | cons r3 rs => cases rs; cases r1; cases r2; cases r3; exact ⟨x, y, c, rfl, h1, h2, h3, h4⟩)
  have e : upd H' p (.lst vs) = H' := by
    funext b
    by_cases hb : b = p
    · rw [hb, upd_same, ho]
    · rw [upd_ne hb]
  rw [e] at g'
  have e2 : (C ++ [(p, Cl.lst [.int x, .int y, .int c])]).set C.length (p, .box n) = C ++ [(p, .box n)] := by
    rw [List.set_append_right _ _ (Nat.le_refl _), Nat.sub_self]; rfl
  rw [e2] at g'
  exact z (.ref p) _ (.ref p) P' H' ⟨nx.ex, g'⟩ (.ref p) q
def keyD : Key → D
  | .inl i => .int i
  | .inr s => .str s
theorem rep_key {K : PySem.W.Frag} {P : Hp} {v : V} {key : Key} (r : Rep K P v (keyD key)) : v = kV key := by
  cases key <;> (cases r; rfl)
/-- {k: v}, one pair, without changing objects -/
theorem wE_dct1 {kx vx : Expr} {d2 : D} (key : Key) (h1 : ∀ W', wE X W' kx G C fun d C1 => d = keyD key ∧ C1 = C) (h2 : ∀ W', wE X W' vx G C fun d C1 => d = d2 ∧ C1 = C) (q : k (.dct [key] [d2]) C) : wE X W (.Dict [some kx] [vx] pos) G C k := by
  refine wE_of (pe_disp (pps_cons pe_sem pe_sem pps_nil) rfl rfl (fun z => by cases z) (by show 1 ≤ 15; decide)) fun σ P H Q g z p np => ?_
  have h0 : W.H0 p = none := by
    cases e : W.H0 p with
    | none => rfl
    | some u => exact absurd np (g.tr p (by rw [e]; intro y; cases y))
  have pc : p ∉ C.map (·.1) := fun w => by
    obtain ⟨q, hq, e⟩ := List.mem_map.mp w
    obtain ⟨_, _, o, ho, _⟩ := g.ce q hq
    rw [e, np] at ho; cases ho
  have pn := g.le.none np
  have gp := g.aside (o := .dK []) pn h0 pc
  have gb := gp.base
  have hbD : (baseW P (upd H p (.dK [])) (C.map (·.1))).Hb p = some (.dK []) := by rw [baseW_hb pc]; exact upd_same
  refine h1 _ σ P _ _ gb fun d C1 v P1 H1 n1 r1 e1 => ?_
  obtain ⟨rfl, rfl⟩ := e1
  refine h2 _ σ P1 H1 _ n1.good fun d C1' v2 P2 H2 n2 r2 e2 => ?_
  obtain ⟨rfl, rfl⟩ := e2
  have nb := n1.tr n2
  have hv : v = kV key := rep_key r1
  have p2 : P2 p = none := (nb.good.fr p (by show upd H p (.dK []) p ≠ none; rw [upd_same]; intro y; cases y)).trans pn
  have gW := gp.back nb.good
  have hp2 : H2 p = some (.dK []) := nb.good.hb _ _ hbD
  have g3 := gW.aside (o := .dK (mergeK [] [(key, v2)])) p2 h0 pc
  have n4 := g3.know p2 h0 pc upd_same
  refine ⟨hp2, [(key, v2)], by rw [hv]; rfl, by show 1 ≤ 15; decide, z _ _ (.ref p) _ _ ⟨nb.ex.tr n4.ex, n4.good⟩ (.dct (ks := [key]) (vs := [v2]) ?_ rfl (.cons (r2.ex' n4.ex) .nil)) q⟩
  rw [upd_same]; rfl
end
end EW

namespace EW
open PySem PySem.Spec PyProof.Rows L2
section
variable {X : Cx} {W : Wd} {G : List (Option D)} {C : Cells} {k : KD} {kb : KB} {E : DE} {e a b c : Expr} {es : List Expr} {pos p' p2 apos : Pos} {x : Str}
/-- a comprehension whose turns change objects -/
theorem C_lcI {x : Str} {p' : Pos} {elt iter : Expr} {scope : Scope} (j : Nat) (own : List (Str × Nat)) (nd : X.N.Nodup) (hc : X.calm = true)
    (h : wI X W (.Name x p') iter G C fun ds C1 => ∃ (α : Type) (l : List α) (g : α → D) (Iv : Nat → List D → Cells → Prop), ds = l.map g ∧ l.length ≤ 100000 ∧ Iv 0 [] C1 ∧
      (∀ i y acc C', l[i]? = some y → y ∈ l → i < l.length → Iv i acc C' → ∀ (W : Wd) (s : Shared) (H : Hp) (Cl : Addr) (cl : List (Str × Addr)) (fp : List Addr), wE (blkX X s H scope Cl cl fp) W elt ((wipeG G (own.map (·.2))).set j (some (g y))) C' fun d C2 => Iv (i + 1) (acc ++ [d]) C2) ∧
      (∀ acc C', Iv l.length acc C' → k (.lst acc) C'))
    (ok : BlkOk X.N X.env.scope scope own := by exact blkOk_by (by kernel_rfl)) (hj : j ∈ own.map (·.2) := by decide)
    (hgp : ∀ (s : Shared) (H : Hp) (Cl : Addr) (cl : List (Str × Addr)) (fp : List Addr), PG (blkX X s H scope Cl cl fp) (.Name x p') (gName j) := by exact fun _ _ _ _ _ => pg_name (by assumption) rfl (Or.inl rfl))
    (hf : ∀ x, foldedSetIterable iter X.env x = pure x := by intro _; rfl) : wC X W elt (.Name x p') iter [] scope G C k := by
  refine C_lc j own nd hc (fun σ P H R gd z => h σ P H R gd fun ds C1 P' H' J n gv e => z ds C1 P' H' J n gv ?_) ok hj hgp hf
  obtain ⟨α, l, g, Iv, rfl, hz, i0, is, id⟩ := e
  refine ⟨by rw [List.length_map]; exact hz, Iv, i0, fun i d acc C' hd iv => ?_, fun acc C' iv => id acc C' (by rw [List.length_map] at iv; exact iv)⟩
  obtain ⟨y, hy, ym, rfl⟩ := get_map hd
  intro W' s H Cl cl fp
  exact wIf_nil ⟨fun _ s H Cl cl fp => is i y acc C' hy ym (List.getElem?_eq_some_iff.mp hy).1 iv W' s H Cl cl fp, fun z => by cases z⟩
/-- a for over what was just drawn -/
theorem wS_forI {tg iter : Expr} {body : List Stmt} (hi : wI X W tg iter G C fun ds C1 => ∃ (α : Type) (l : List α) (g : α → D) (Iv : Nat → List (Option D) → Cells → Prop), ds = l.map g ∧ Iv 0 G C1 ∧
      (∀ i y G' C', l[i]? = some y → y ∈ l → i < l.length → Iv i G' C' → wG X W tg (g y) G' C' fun G2 C2 => wSs X W body G2 C2 { E with nx := Iv (i + 1), ct := Iv (i + 1), bk := E.nx }) ∧ (∀ G' C', Iv l.length G' C' → E.nx G' C'))
    (hp : PassesOwn (model X.prog X.w) X.A X.env X.xe) (hc : X.calm = true) (hf : ∀ x, foldedSetIterable iter X.env x = pure x := by intro _; rfl) : wS X W (.For tg iter body [] pos) G C E := by
  refine wS_for (fun σ P H R gd z => hi σ P H R gd fun ds C1 P' H' J n gv e => z ds C1 P' H' J n gv ?_) hp hc hf
  obtain ⟨α, l, g, Iv, rfl, h0, hs, hd⟩ := e
  refine ⟨Iv, h0, fun i d G' C' hd' iv => ?_, fun G' C' iv => hd G' C' (by rw [List.length_map] at iv; exact iv)⟩
  obtain ⟨y, hy, ym, rfl⟩ := get_map hd'
  exact hs i y G' C' hy ym (List.getElem?_eq_some_iff.mp hy).1 iv
theorem wS_cut (M : List (Option D) → Cells → Prop) {st : Stmt} (h : wS X W st G C { E with nx := M }) (r : ∀ G' C', M G' C' → E.nx G' C') : wS X W st G C E := fun σ P H T g f => h σ P H T g ⟨fun G' C' σ' P' H' n q => f.nx G' C' σ' P' H' n (r _ _ q), f.rt, f.bk, f.ct⟩
/-- an item of a list, any -/
theorem xD_any {ds : List D} {i : Nat} (h : i < ds.length) (q : ∀ d, ds[i]? = some d → d ∈ ds → k d C) : xD X W (.lst ds) (natD i) G C k :=
  xD_lst (atI_nat (List.getElem?_eq_getElem h)) (q _ (List.getElem?_eq_getElem h) (List.getElem_mem h))
def isInt : D → Bool
  | .int _ => true
  | _ => false
/-- .. of whole numbers -/
theorem xD_ints {ds : List D} {i : Nat} (h : i < ds.length) (hi : ds.all isInt = true) (q : ∀ z, D.int z ∈ ds → k (.int z) C) : xD X W (.lst ds) (natD i) G C k :=
  xD_any h fun d _ hm => by
    have := List.all_eq_true.mp hi d hm
    cases d with
    | int z => exact q z hm
    | _ => cases this
end
/-! ### texts -/
abbrev tlS (x : Str) : List Nat := x.cps.toList
theorem joinL_nil : ∀ ys : List (List Nat), TL.joinL [] ys = ys.flatten
  | [] => rfl
  | [p] => by simp [TL.joinL]
  | p :: q :: r => by
    show p ++ ([] ++ TL.joinL [] (q :: r)) = _
    rw [joinL_nil (q :: r)]; rfl
theorem tl_joinE {e : Str} (he : e.cps.toList = []) (ys : List Str) : (Txt.join e ys).cps.toList = (ys.map tlS).flatten := by
  have h := TL.tl_join e ys
  rw [← TL.join_eq] at h
  have h2 : TL.tl e = [] := he
  rw [h2, joinL_nil] at h
  exact h
theorem len_joinE {e : Str} (he : e.cps.toList = []) (ys : List Str) : (Txt.join e ys).length = (ys.map (·.length)).sum := by
  show (Txt.join e ys).cps.size = _
  rw [← Array.length_toList, tl_joinE he, List.length_flatten, List.map_map]
  rfl
theorem sum_ones : ∀ {ys : List Str}, (∀ y ∈ ys, y.length = 1) → (ys.map (·.length)).sum = ys.length
  | [], _ => rfl
  | y :: r, h => by
    rw [List.map_cons, List.sum_cons, h y (List.mem_cons_self ..), sum_ones fun z hz => h z (List.mem_cons_of_mem _ hz), List.length_cons, Nat.add_comm]
end EW

namespace EW
open PySem PySem.Spec PyProof.Rows L2
def top (i : Nat) : Stmt := PySem.Challenge.pw_evenweek_k01_integers_and_names.main.body.getD i (.Pass ⟨0, 0, 0, 0⟩)
structure Bn (K : PySem.W.Frag) (mg : Str → Option Value) : Prop where
  isinstance_ : mg "isinstance" = none
  int_ : mg "int" = none
  bool_ : mg "bool" = none
  str_ : mg "str" = none
  len_ : mg "len" = none
  max_ : mg "max" = none
  min_ : mg "min" = none
  all_ : mg "all" = none
  range_ : mg "range" = none
  repr_ : mg "repr" = none
  LETTERS_ : ∃ u, mg "LETTERS" = some u ∧ RelV (.str "abcdefghijklmnopqrstuvwxyz") u
  LONGEST_NAME_ : ∃ u, mg "LONGEST_NAME" = some u ∧ RelV (.int 8) u
section
variable {P : Program} {w : World} {K : PySem.W.Frag} {mg : Str → Option Value} {base : Heap}
def isIntB (d : D) (lo hi : Int) : Bool := match d with
  | .int i => decide (lo ≤ i) && decide (i ≤ hi)
  | _ => false
/-! is_integer -/
theorem sc_is_integer : FnScope ["value", "low", "high"] ["value", "low", "high"] (defScope (top 3)) := ⟨rfl, rfl, rfl, by decide +kernel, rfl, by decide +kernel, by decide +kernel⟩
def fIsInt : FS := fun ds C Kn _ => ∃ d lo hi, ds = [d, .int lo, .int hi] ∧ (kindD d).isSome = true ∧ Kn (.bl (isIntB d lo hi)) C
theorem ok_is_integer {f : Addr} {fd : FuncData} (Fu : Fun K "is_integer" "is_integer" (top 3) f fd) (T : Bn K mg) : FnG P w K mg base 1 f fd ["value", "low", "high"] fIsInt := by
  refine fnG_of Fu sc_is_integer (fun ds C Kn Ke h => ?_) (fun cdv A outer s H E W ds C Kn Ke hr hgu hF => ?_)
  · obtain ⟨d, lo, hi, rfl, _⟩ := h; rfl
  · obtain ⟨d, lo, hi, rfl, hk, q⟩ := hF
    refine wSs_cons (wS_ret ?_)
    have key : isIntB d lo hi = (isB d "int" && (!isB d "bool" && isIntB d lo hi)) := by
      cases d <;> first | rfl | (cases hk; done) | simp [isB, kindD, instT, isIntB]
    rw [key] at q
    refine wE_andP ?_ (fun h1 => ?_) q
    · refine wE_isi "int" T.isinstance_ T.int_ (by decide +kernel) (wE_nm 0 rfl ?_)
      exact ⟨hk, rfl, rfl⟩
    refine wE_andP (p := !isB d "bool") ?_ (fun h2 => ?_) ⟨rfl, rfl⟩
    · refine wE_not (wE_isi "bool" T.isinstance_ T.bool_ (by decide +kernel) (wE_nm 0 rfl ?_))
      exact ⟨hk, _, rfl, rfl, rfl⟩
    refine wE_one ?_
    obtain ⟨i, rfl⟩ : ∃ i, d = .int i := by
      cases d <;> first | exact ⟨_, rfl⟩ | (cases hk; done) | (exfalso; revert h1 h2; simp [isB, kindD, instT]; done)
    refine wE_chain (wE_nm 1 rfl (wE_nm 0 rfl (o_le ?_)))
    refine ⟨_, rfl, fun h3 => ?_, fun h3 => ?_⟩
    · refine wE_nm 2 rfl (o_le ⟨?_, rfl⟩)
      show D.bl _ = D.bl (decide (lo ≤ i) && decide (i ≤ hi))
      rw [h3]; rfl
    · refine ⟨?_, rfl⟩
      show D.bl _ = D.bl (decide (lo ≤ i) && decide (i ≤ hi))
      rw [h3]; rfl
abbrev lettersS : Str := "abcdefghijklmnopqrstuvwxyz"
def isNameS (s : Str) : Bool := decide (1 ≤ s.length) && decide (s.length ≤ 8) && s.cps.toList.all fun c => decide (c ∈ lettersS.cps.toList)
def isNameB (d : D) : Bool := match d with
  | .str s => isNameS s
  | _ => false
/-! is_name -/
theorem sc_is_name : FnScope ["value", "sign"] ["value"] (defScope (top 4)) := ⟨rfl, rfl, rfl, by decide +kernel, rfl, by decide +kernel, by decide +kernel⟩
def fIsName : FS := fun ds C Kn _ => ∃ d, ds = [d] ∧ (kindD d).isSome = true ∧ (∀ s, d = .str s → s.length ≤ 100000) ∧ Kn (.bl (isNameB d)) C
theorem ok_is_name {f : Addr} {fd : FuncData} (Fu : Fun K "is_name" "is_name" (top 4) f fd) (T : Bn K mg) : FnG P w K mg base 1 f fd ["value"] fIsName := by
  refine fnG_of Fu sc_is_name (fun ds C Kn Ke h => ?_) (fun cdv A outer s H E W ds C Kn Ke hr hgu hF => ?_)
  · obtain ⟨d, rfl, _⟩ := h; rfl
  · obtain ⟨d, rfl, hk, hs, q⟩ := hF
    have nd := sc_is_name.nd
    refine wSs_cons (wS_if (wB.wt ?_))
    by_cases hd : ∃ x, d = .str x
    · obtain ⟨x, rfl⟩ := hd
      have hl := hs x rfl
      refine wB_orP (p := false) (q := !(decide ((1 : Int) ≤ x.length) && decide ((x.length : Int) ≤ 8))) ?_ (fun _ => ?_) ?_
      · refine wT_not (wT_val (wE_isi "str" T.isinstance_ T.str_ (by decide +kernel) (wE_nm 0 rfl ?_)))
        exact ⟨rfl, _, rfl, rfl, rfl⟩
      · refine wB_or1 (wT_not (wT_chain (wE_int (wE_callB "len" (by decide +kernel) T.len_ (wA_cons (wE_nm 0 rfl (wA_nil (c_lenS hl (o_le ?_)))))))))
        obtain ⟨u, hu, ru⟩ := T.LONGEST_NAME_
        refine wE_chainP (u := decide ((x.length : Int) ≤ 8)) (fun _ => wE_gl hu ru (fun P => .int _) (o_le ⟨rfl, rfl⟩)) ?_
        exact ⟨_, rfl, rfl, rfl⟩
      · refine ⟨fun h => wSs_cons (wS_ret (wE_bl ?_)), fun h => wSs_nil ?_⟩
        · have e : isNameB (.str x) = false := by
            show isNameS x = false
            unfold isNameS
            simp only [Bool.false_or, Bool.not_eq_true', Bool.and_eq_false_iff, decide_eq_false_iff_not] at h
            rcases h with h | h
            · rw [decide_eq_false (show ¬ 1 ≤ x.length by omega)]; rfl
            · rw [decide_eq_false (show ¬ x.length ≤ 8 by omega), Bool.and_false]; rfl
          rw [e] at q; exact q
        · refine wSs_cons (wS_ret (wE_callB "all" (by decide +kernel) T.all_ (wA_cons (wE_C ?_))))
          refine C_lcM 1 [("sign", 1)] nd rfl x.cps.toList sgD (fun c => .bl (decide (c ∈ lettersS.cps.toList))) ?_ ?_ ?_ ?_
          · exact wI_str (wE_nm 0 rfl ⟨x, rfl, rfl, rfl⟩)
          · rw [Array.length_toList]; exact hl
          · intro y hy W s H Cl cl fp
            obtain ⟨u, hu, ru⟩ := T.LETTERS_
            refine wE_cmp (wE_nm 1 rfl (wE_gl hu ru (fun P => .str _) (o_inS ⟨rfl, rfl⟩)))
          · refine wA_nil ?_
            have e : x.cps.toList.map (fun c => D.bl (decide (c ∈ lettersS.cps.toList))) = (x.cps.toList.map fun c => decide (c ∈ lettersS.cps.toList)).map D.bl := by rw [List.map_map]; rfl
            rw [e]
            refine c_all rfl ?_
            have e2 : isNameB (.str x) = (x.cps.toList.map fun c => decide (c ∈ lettersS.cps.toList)).all id := by
              show isNameS x = _
              unfold isNameS
              simp only [Bool.false_or, Bool.not_eq_false', Bool.and_eq_true, decide_eq_true_eq] at h
              rw [decide_eq_true (show 1 ≤ x.length by omega), decide_eq_true (show x.length ≤ 8 by omega), List.all_map]; rfl
            rw [e2] at q; exact q
    · have e0 : isB d "str" = false := by
        cases d <;> first | rfl | (exact absurd ⟨_, rfl⟩ hd) | (cases hk; done)
      have e1 : isNameB d = false := by
        cases d <;> first | rfl | (exact absurd ⟨_, rfl⟩ hd)
      refine wB_orP (p := true) (q := true) ?_ (fun h => by cases h) ?_
      · refine wT_not (wT_val (wE_isi "str" T.isinstance_ T.str_ (by decide +kernel) (wE_nm 0 rfl ?_)))
        exact ⟨hk, _, rfl, by rw [e0]; rfl, rfl⟩
      · refine ⟨fun h => wSs_cons (wS_ret (wE_bl ?_)), fun h => by cases h⟩
        rw [e1] at q; exact q

/-! _law_cell -/
theorem sc_law_cell : FnScope ["script", "k"] ["script", "k"] (defScope (top 6)) := ⟨rfl, rfl, rfl, by decide +kernel, rfl, by decide +kernel, by decide +kernel⟩
def fCell : FS := fun ds C Kn _ => ∃ (ns : List Int) (i : Nat), ds = [.scr (ns.map D.int), natD i] ∧ i ≤ 1000 ∧ ∀ z : Int, Kn (.int z) C
theorem ok_law_cell {f : Addr} {fd : FuncData} (Fu : Fun K "_law_cell" "_law_cell" (top 6) f fd) (T : Bn K mg) : FnG P w K mg base 1 f fd ["script", "k"] fCell := by
  refine fnG_of Fu sc_law_cell (fun ds C Kn Ke h => ?_) (fun cdv A outer s H E W ds C Kn Ke hr hgu hF => ?_)
  · obtain ⟨ns, i, rfl, hi, q⟩ := h; rfl
  · obtain ⟨ns, i, rfl, hi, q⟩ := hF
    have nd := sc_law_cell.nd
    -- 1
    refine wSs_cons ?_
    refine wS_if ?_
    refine wT_cmp ?_
    refine wE_nm 1 rfl ?_
    refine wE_callB "len" (by decide +kernel) T.len_ ?_
    refine wA_cons ?_
    refine wE_nm 0 rfl ?_
    refine wA_nil ?_
    refine c_lenR ?_  --@1:len
    refine o_lt ?_  --@1:lt
    refine ⟨_, rfl, ?_⟩
    refine ⟨fun hi1 => ?_, fun hi1 => ?_⟩  --@1:if
    · skip
      -- 2
      refine wSs_cons ?_
      refine wS_ret ?_
      refine wE_ix ?_
      refine wE_nm 0 rfl ?_
      refine wE_nm 1 rfl ?_
      obtain ⟨z, hz⟩ : ∃ z, (ns.map D.int)[i]? = some (.int z) := by
        have hlt : i < ns.length := by have := of_decide_eq_true hi1; simp only [List.length_map] at this; omega
        exact ⟨ns[i], by rw [List.getElem?_map, List.getElem?_eq_getElem hlt]; rfl⟩
      refine xD_scr (atI_nat hz) ?_  --@2:ix
      exact q _  --@2:ret
    refine wSs_nil ?_
    -- 3
    refine wSs_cons ?_
    refine wS_ret ?_
    refine wE_bin ?_
    refine wE_bin ?_
    refine wE_int ?_
    refine wE_nm 1 rfl ?_
    first | refine o_mul (.inl ⟨by decide, by decide⟩) ?_ | refine o_mul (.inr ⟨by decide, by decide⟩) ?_ | refine o_mul (.inl ⟨by omega, by omega⟩) ?_ | refine o_mul (.inr ⟨by omega, by omega⟩) ?_  --@3:mul
    refine wE_int ?_
    first | refine o_add ?_ | refine o_cat (by simp) ?_ | refine o_addS (by simp) ?_  --@3:add
    exact q _  --@3:ret

/-! _law_box -/
theorem sc_law_box : FnScope ["cell"] ["cell"] (defScope (top 7)) := ⟨rfl, rfl, rfl, by decide +kernel, rfl, by decide +kernel, by decide +kernel⟩
def fBox : FS := fun ds C Kn _ => ∃ i : Int, ds = [.int i] ∧ C = [] ∧ ∀ p, Kn (.ref p) [(p, .box 0)]
theorem ok_law_box {f : Addr} {fd : FuncData} (Fu : Fun K "_law_box" "_law_box" (top 7) f fd) (T : Bn K mg) : FnG P w K mg base 1 f fd ["cell"] fBox := by
  refine fnG_of Fu sc_law_box (fun ds C Kn Ke h => ?_) (fun cdv A outer s H E W ds C Kn Ke hr hgu hF => ?_)
  · obtain ⟨i, rfl, rfl, q⟩ := h; rfl
  · obtain ⟨i, rfl, rfl, q⟩ := hF
    have nd := sc_law_box.nd
    -- 1
    refine wSs_cons ?_
    refine wS_ret ?_
    refine wE_box 0 ?_
    refine wE_lstC ?_
    refine wA_cons ?_
    refine wE_callB "max" (by decide +kernel) T.max_ ?_
    refine wA_cons ?_
    refine wE_int ?_
    refine wA_cons ?_
    refine wE_bin ?_
    refine wE_nm 0 rfl ?_
    refine wE_bin ?_
    refine wE_int ?_
    refine wE_int ?_
    first | refine o_pow (by decide) ?_ | refine o_pow ⟨by decide, by decide, by omega⟩ ?_  --@1:pow
    refine o_sub ?_  --@1:sub
    refine wA_nil ?_
    refine c_max2 rfl ?_  --@1:max
    refine wA_cons ?_
    refine wE_bin ?_
    refine wE_nm 0 rfl ?_
    refine wE_int ?_
    refine o_mod (by first | decide | omega) ?_  --@1:mod
    refine wA_cons ?_
    refine wE_int ?_
    refine wA_nil ?_
    refine ⟨by simp, fun p => ?_⟩  --@1:dis
    refine ⟨p, _, _, _, rfl, rfl, Int.emod_nonneg _ (by decide), Int.emod_lt_of_pos _ (by decide), by decide, by decide, q p⟩  --@1:ret

/-! _law_take -/
theorem sc_law_take : FnScope ["box", "many", "one", "two", "digit"] ["box", "many"] (defScope (top 8)) := ⟨rfl, rfl, rfl, by decide +kernel, rfl, by decide +kernel, by decide +kernel⟩
def fTake : FS := fun ds C Kn _ => ∃ (p : Addr) (m : Nat) (n : Nat), ds = [.ref p, natD m] ∧ C = [(p, .box n)] ∧ 0 < m ∧ m < 1073741824 ∧ n < 1000000 ∧ ∀ d : Nat, d < m → Kn (natD d) [(p, .box (n + 1))]
theorem c_sq {c : Int} (h0 : 0 ≤ c) (h : c ≤ 1000000) : 0 ≤ c * c ∧ c * c ≤ 1000000000000 := ⟨Int.mul_nonneg h0 h0, by have := Int.mul_le_mul h h h0 (by decide : (0 : Int) ≤ 1000000); omega⟩
theorem mod_nat (z : Int) {m : Nat} (h : 0 < m) : ∃ d : Nat, z % (m : Int) = d ∧ d < m := ⟨(z % (m : Int)).toNat, by have := Int.emod_nonneg z (show (m : Int) ≠ 0 by omega); omega, by have := Int.emod_nonneg z (show (m : Int) ≠ 0 by omega); have := Int.emod_lt_of_pos z (show (0 : Int) < m by omega); omega⟩
theorem ok_law_take {f : Addr} {fd : FuncData} (Fu : Fun K "_law_take" "_law_take" (top 8) f fd) (T : Bn K mg) : FnG P w K mg base 1 f fd ["box", "many"] fTake := by
  refine fnG_of Fu sc_law_take (fun ds C Kn Ke h => ?_) (fun cdv A outer s H E W ds C Kn Ke hr hgu hF => ?_)
  · obtain ⟨p, m, n, rfl, rfl, hm, hm2, hn, q⟩ := h; rfl
  · obtain ⟨p, m, n, rfl, rfl, hm, hm2, hn, q⟩ := hF
    have nd := sc_law_take.nd
    refine wSs_open 0 rfl fun x y c hy hy2 hc hc2 => ?_
    -- 1
    refine wSs_cons ?_
    refine wS_if ?_
    refine wT_cmp ?_
    refine wE_ix ?_
    refine wE_nm 0 rfl ?_
    refine wE_int ?_
    first | refine xD_lst rfl ?_ | refine xD_tup rfl ?_ | refine xD_cell 0 rfl rfl ?_  --@1:ix
    refine wE_int ?_
    refine o_gt ?_  --@1:gt
    refine ⟨_, rfl, ?_⟩
    refine ⟨fun hi1 => ?_, fun hi1 => ?_⟩  --@1:if
    · skip
      -- 2
      refine wSs_cons ?_
      refine wS_set 4 ?_ nd
      refine wE_bin ?_
      refine wE_ix ?_
      refine wE_nm 0 rfl ?_
      refine wE_int ?_
      first | refine xD_lst rfl ?_ | refine xD_tup rfl ?_ | refine xD_cell 0 rfl rfl ?_  --@2:ix
      refine wE_nm 1 rfl ?_
      refine o_mod (by first | decide | omega) ?_  --@2:mod
      -- 3
      refine wSs_cons ?_
      refine wS_asg ?_
      refine wE_bin ?_
      refine wE_ix ?_
      refine wE_nm 0 rfl ?_
      refine wE_int ?_
      first | refine xD_lst rfl ?_ | refine xD_tup rfl ?_ | refine xD_cell 0 rfl rfl ?_  --@3:ix
      refine wE_nm 1 rfl ?_
      refine o_fdiv (by first | decide | omega) ?_  --@3:div
      skip  --@3:asg
      refine wG_ixC 0 ?_  --@3:tg0
      refine wE_nm 0 rfl ?_
      refine wE_int ?_
      refine ⟨_, _, _, _, rfl, rfl, rfl, rfl, ?_⟩  --@3:tg
      -- 4
      refine wSs_close 0 (n + 1) rfl hy hy2 hc (by omega) ?_
      refine wSs_cons ?_
      refine wS_ret ?_
      refine wE_nm 4 rfl ?_
      obtain ⟨d, hd, hd2⟩ := mod_nat x hm
      rw [hd]
      exact q d hd2  --@4:ret
    refine wSs_nil ?_
    -- 5
    refine wSs_cons ?_
    refine wS_asg ?_
    refine wE_bin ?_
    refine wE_ix ?_
    refine wE_nm 0 rfl ?_
    refine wE_int ?_
    first | refine xD_lst rfl ?_ | refine xD_tup rfl ?_ | refine xD_cell 0 rfl rfl ?_  --@5:ix
    refine wE_int ?_
    first | refine o_add ?_ | refine o_cat (by simp) ?_ | refine o_addS (by simp) ?_  --@5:add
    skip  --@5:asg
    refine wG_ixC 0 ?_  --@5:tg0
    refine wE_nm 0 rfl ?_
    refine wE_int ?_
    refine ⟨_, _, _, _, rfl, rfl, rfl, rfl, ?_⟩  --@5:tg
    -- 6
    refine wSs_cons ?_
    refine wS_set 2 ?_ nd
    refine wE_bin ?_
    refine wE_bin ?_
    refine wE_bin ?_
    refine wE_bin ?_
    refine wE_ix ?_
    refine wE_nm 0 rfl ?_
    refine wE_int ?_
    first | refine xD_lst rfl ?_ | refine xD_tup rfl ?_ | refine xD_cell 0 rfl rfl ?_  --@6:ix
    refine wE_bin ?_
    refine wE_int ?_
    refine wE_ix ?_
    refine wE_nm 0 rfl ?_
    refine wE_int ?_
    first | refine xD_lst rfl ?_ | refine xD_tup rfl ?_ | refine xD_cell 0 rfl rfl ?_  --@6:ix2
    first | refine o_mul (.inl ⟨by decide, by decide⟩) ?_ | refine o_mul (.inr ⟨by decide, by decide⟩) ?_ | refine o_mul (.inl ⟨by omega, by omega⟩) ?_ | refine o_mul (.inr ⟨by omega, by omega⟩) ?_  --@6:mul
    first | refine o_add ?_ | refine o_cat (by simp) ?_ | refine o_addS (by simp) ?_  --@6:add
    refine wE_int ?_
    first | refine o_add ?_ | refine o_cat (by simp) ?_ | refine o_addS (by simp) ?_  --@6:add2
    refine wE_int ?_
    first | refine o_pow (by decide) ?_ | refine o_pow ⟨by decide, by decide, by omega⟩ ?_  --@6:pow
    refine wE_int ?_
    refine o_mod (by first | decide | omega) ?_  --@6:mod
    generalize hone : (_ : Int) ^ _ % (2147483647 : Int) = one
    have h1 : 0 ≤ one := by rw [← hone]; exact Int.emod_nonneg _ (by decide)
    have h2 : one < 2147483647 := by rw [← hone]; exact Int.emod_lt_of_pos _ (by decide)
    obtain ⟨sq1, sq2⟩ := c_sq (c := c + 1) (by omega) (by omega)
    -- 7
    refine wSs_cons ?_
    refine wS_set 3 ?_ nd
    refine wE_bin ?_
    refine wE_bin ?_
    refine wE_bin ?_
    refine wE_bin ?_
    refine wE_bin ?_
    refine wE_nm 2 rfl ?_
    refine wE_int ?_
    refine o_fdiv (by first | decide | omega) ?_  --@7:div
    refine wE_bin ?_
    refine wE_bin ?_
    refine wE_int ?_
    refine wE_ix ?_
    refine wE_nm 0 rfl ?_
    refine wE_int ?_
    first | refine xD_lst rfl ?_ | refine xD_tup rfl ?_ | refine xD_cell 0 rfl rfl ?_  --@7:ix
    first | refine o_mul (.inl ⟨by decide, by decide⟩) ?_ | refine o_mul (.inr ⟨by decide, by decide⟩) ?_ | refine o_mul (.inl ⟨by omega, by omega⟩) ?_ | refine o_mul (.inr ⟨by omega, by omega⟩) ?_  --@7:mul
    refine wE_ix ?_
    refine wE_nm 0 rfl ?_
    refine wE_int ?_
    first | refine xD_lst rfl ?_ | refine xD_tup rfl ?_ | refine xD_cell 0 rfl rfl ?_  --@7:ix2
    refine o_mul (.inr ⟨by omega, by omega⟩) ?_  --@7:mul2
    first | refine o_add ?_ | refine o_cat (by simp) ?_ | refine o_addS (by simp) ?_  --@7:add
    refine wE_int ?_
    first | refine o_add ?_ | refine o_cat (by simp) ?_ | refine o_addS (by simp) ?_  --@7:add2
    refine wE_int ?_
    have sq3 : 104729 * (c + 1) * (c + 1) = 104729 * ((c + 1) * (c + 1)) := Int.mul_assoc _ _ _
    refine o_pow (by refine ⟨by decide, by decide, ?_⟩; rw [sq3]; omega) ?_  --@7:pow
    refine wE_int ?_
    refine o_mod (by first | decide | omega) ?_  --@7:mod
    generalize htwo : (_ : Int) ^ _ % (2147483587 : Int) = two
    have h3 : 0 ≤ two := by rw [← htwo]; exact Int.emod_nonneg _ (by decide)
    have h4 : two < 2147483587 := by rw [← htwo]; exact Int.emod_lt_of_pos _ (by decide)
    refine wSs_close 0 (n + 1) rfl hy hy2 (by omega) (by omega) ?_
    -- 8
    refine wSs_cons ?_
    refine wS_ret ?_
    refine wE_bin ?_
    refine wE_bin ?_
    refine wE_bin ?_
    refine wE_nm 2 rfl ?_
    refine wE_int ?_
    refine o_fdiv (by first | decide | omega) ?_  --@8:div
    refine wE_bin ?_
    refine wE_int ?_
    refine wE_bin ?_
    refine wE_nm 3 rfl ?_
    refine wE_int ?_
    refine o_fdiv (by first | decide | omega) ?_  --@8:div2
    first | refine o_mul (.inl ⟨by decide, by decide⟩) ?_ | refine o_mul (.inr ⟨by decide, by decide⟩) ?_ | refine o_mul (.inl ⟨by omega, by omega⟩) ?_ | refine o_mul (.inr ⟨by omega, by omega⟩) ?_  --@8:mul
    first | refine o_add ?_ | refine o_cat (by simp) ?_ | refine o_addS (by simp) ?_  --@8:add
    refine wE_nm 1 rfl ?_
    refine o_mod (by first | decide | omega) ?_  --@8:mod
    obtain ⟨d, hd, hd2⟩ := mod_nat (one / 4 + 536870909 * (two / 4)) hm
    rw [hd]
    exact q d hd2  --@8:ret

/-! _law_even -/
theorem sc_law_even : FnScope ["found", "due"] ["found", "due"] (defScope (top 9)) := ⟨rfl, rfl, rfl, by decide +kernel, rfl, by decide +kernel, by decide +kernel⟩
/-- both are the same data -/
def fEven : FS := fun ds C Kn _ => ∃ (x y : D) (n dep : Nat), ds = [x, y] ∧ plD x = true ∧ plD y = true ∧ pyD x = pyD y ∧ Fit (pyD y) n dep ∧ n ≤ 1000000 ∧ dep ≤ 60 ∧ Kn (.bl true) C
theorem ok_law_even {f : Addr} {fd : FuncData} (Fu : Fun K "_law_even" "_law_even" (top 9) f fd) (T : Bn K mg) : FnG P w K mg base 1 f fd ["found", "due"] fEven := by
  refine fnG_of Fu sc_law_even (fun ds C Kn Ke h => ?_) (fun cdv A outer s H E W ds C Kn Ke hr hgu hF => ?_)
  · obtain ⟨x, y, n, dep, rfl, hx, hy, he, ft, hn, hd, q⟩ := h; rfl
  · obtain ⟨x, y, n, dep, rfl, hx, hy, he, ft, hn, hd, q⟩ := hF
    have nd := sc_law_even.nd
    have fx : Fit (pyD x) n dep := by rw [he]; exact ft
    have hu : A.units + 3 + 200 < cLine := by have := hr.un; have e : (A.deeper (envOfC "_law_even" (defScope (top 9)) s.heap.objs.size f cdv)).units = A.units + 3 := rfl; omega
    -- 1
    refine wSs_cons ?_
    refine wS_ret ?_
    refine' wE_andP ?_ (fun h1 => ?_) ?_
    rotate_left 2
    · skip
      refine wE_cmp ?_
      refine wE_nm 0 rfl ?_
      refine wE_nm 1 rfl ?_
      refine o_eqP (by show A.units + 3 + 64 < cLine; omega) hx hy fx ft (by omega) (by omega) ?_  --@1:eq
      exact ⟨rfl, rfl⟩  --@1:bo
    · skip
      refine wE_one ?_
      refine wE_cmp ?_
      refine wE_callB "repr" (by decide +kernel) T.repr_ ?_
      refine wA_cons ?_
      refine wE_nm 0 rfl ?_
      refine wA_nil ?_
      refine c_repr (by show A.units + 3 + 100 < cLine; omega) hgu hx fx hn (by omega) ?_  --@1:repr
      refine wE_callB "repr" (by decide +kernel) T.repr_ ?_
      refine wA_cons ?_
      refine wE_nm 1 rfl ?_
      refine wA_nil ?_
      refine c_repr (by show A.units + 3 + 100 < cLine; omega) hgu hy ft hn (by omega) ?_  --@1:repr2
      refine o_eqS ?_  --@1:eq2
      exact ⟨rfl, rfl⟩  --@1:bo2
    rw [he, SeqAt.eqv_refl _ ft.lay, decide_eq_true rfl]
    exact q  --@1:ret

/-! _law_odd -/
theorem sc_law_odd : FnScope ["box", "some"] ["box"] (defScope (top 10)) := ⟨rfl, rfl, rfl, by decide +kernel, rfl, by decide +kernel, by decide +kernel⟩
def oddL : List D := [.non, .bl true, .bl false, .int 0, .int (-1), .int 8, .int 41, .int (100000000000000000000000000000), .int (-100000000000000000000000000000), .str "", .str "a", .str "A", .str "ann", .str "Ann", .str "an n", .str "teachers", .lst [], .lst [.str "a"], .lst [.int 1], .tup [], .tup [.str "a"], .tup [.int 1], .tup [.str "a", .str "b"], .dct [] [], .dct [.inr "a"] [.int 1], .dct [.inl 7] [.int 1], .lst [.lst [.lst [.str "a"]]], .lst [.tup [.str "a", .str "b"]], .str "aaaaaaaaa"]
def fOdd : FS := fun ds C Kn _ => ∃ (p : Addr) (n : Nat), ds = [.ref p] ∧ C = [(p, .box n)] ∧ n < 900000 ∧ ∀ d ∈ oddL, Kn d [(p, .box (n + 1))]
theorem ok_law_odd {f : Addr} {fd : FuncData} (Fu : Fun K "_law_odd" "_law_odd" (top 10) f fd) (T : Bn K mg) (H_law_take : Has P w K mg base "_law_take" 1 fTake) : FnG P w K mg base 2 f fd ["box"] fOdd := by
  refine fnG_of Fu sc_law_odd (fun ds C Kn Ke h => ?_) (fun cdv A outer s H E W ds C Kn Ke hr hgu hF => ?_)
  · obtain ⟨p, n, rfl, rfl, hn, q⟩ := h; rfl
  · obtain ⟨p, n, rfl, rfl, hn, q⟩ := hF
    have nd := sc_law_odd.nd
    -- 1
    refine wSs_cons ?_
    refine wS_set 1 ?_ nd
    refine wE_lst ?_
    refine wA_cons ?_
    refine wE_non ?_
    refine wA_cons ?_
    refine wE_bl ?_
    refine wA_cons ?_
    refine wE_bl ?_
    refine wA_cons ?_
    refine wE_int ?_
    refine wA_cons ?_
    refine wE_neg ?_
    refine wE_int ?_
    refine ⟨_, rfl, ?_⟩
    refine wA_cons ?_
    refine wE_int ?_
    refine wA_cons ?_
    refine wE_int ?_
    refine wA_cons ?_
    refine wE_bin ?_
    refine wE_int ?_
    refine wE_int ?_
    first | refine o_pow (by decide) ?_ | refine o_pow ⟨by decide, by decide, by omega⟩ ?_  --@1:pow
    refine wA_cons ?_
    refine wE_bin ?_
    refine wE_int ?_
    refine wE_bin ?_
    refine wE_int ?_
    refine wE_int ?_
    first | refine o_pow (by decide) ?_ | refine o_pow ⟨by decide, by decide, by omega⟩ ?_  --@1:pow2
    refine o_sub ?_  --@1:sub
    refine wA_cons ?_
    refine wE_str ?_
    refine wA_cons ?_
    refine wE_str ?_
    refine wA_cons ?_
    refine wE_str ?_
    refine wA_cons ?_
    refine wE_str ?_
    refine wA_cons ?_
    refine wE_str ?_
    refine wA_cons ?_
    refine wE_str ?_
    refine wA_cons ?_
    refine wE_str ?_
    refine wA_nil ?_
    refine ⟨by simp, ?_⟩  --@1:dis
    -- 2
    refine wSs_cons ?_
    refine wS_set 1 ?_ nd
    refine wE_bin ?_
    refine wE_nm 1 rfl ?_
    refine wE_lst ?_
    refine wA_cons ?_
    refine wE_lst ?_
    refine wA_nil ?_
    refine ⟨by simp, ?_⟩  --@2:dis
    refine wA_cons ?_
    refine wE_lst ?_
    refine wA_cons ?_
    refine wE_str ?_
    refine wA_nil ?_
    refine ⟨by simp, ?_⟩  --@2:dis2
    refine wA_cons ?_
    refine wE_lst ?_
    refine wA_cons ?_
    refine wE_int ?_
    refine wA_nil ?_
    refine ⟨by simp, ?_⟩  --@2:dis3
    refine wA_cons ?_
    refine wE_tup ?_
    refine wA_nil ?_
    refine ⟨by simp, ?_⟩  --@2:dis4
    refine wA_cons ?_
    refine wE_tup ?_
    refine wA_cons ?_
    refine wE_str ?_
    refine wA_nil ?_
    refine ⟨by simp, ?_⟩  --@2:dis5
    refine wA_cons ?_
    refine wE_tup ?_
    refine wA_cons ?_
    refine wE_int ?_
    refine wA_nil ?_
    refine ⟨by simp, ?_⟩  --@2:dis6
    refine wA_cons ?_
    refine wE_tup ?_
    refine wA_cons ?_
    refine wE_str ?_
    refine wA_cons ?_
    refine wE_str ?_
    refine wA_nil ?_
    refine ⟨by simp, ?_⟩  --@2:dis7
    refine wA_cons ?_
    refine wE_dct0 ?_  --@2:dct
    refine wA_cons ?_
    refine' wE_dct1 (.inr "a") (fun W' => ?_) (fun W' => ?_) ?_
    rotate_left 1
    · skip
      refine wE_str ?_
      exact ⟨rfl, rfl⟩
    · skip
      refine wE_int ?_
      exact ⟨rfl, rfl⟩
    refine wA_cons ?_
    refine' wE_dct1 (.inl 7) (fun W' => ?_) (fun W' => ?_) ?_
    rotate_left 1
    · skip
      refine wE_int ?_
      exact ⟨rfl, rfl⟩
    · skip
      refine wE_int ?_
      exact ⟨rfl, rfl⟩
    refine wA_cons ?_
    refine wE_lst ?_
    refine wA_cons ?_
    refine wE_lst ?_
    refine wA_cons ?_
    refine wE_lst ?_
    refine wA_cons ?_
    refine wE_str ?_
    refine wA_nil ?_
    refine ⟨by simp, ?_⟩  --@2:dis8
    refine wA_nil ?_
    refine ⟨by simp, ?_⟩  --@2:dis9
    refine wA_nil ?_
    refine ⟨by simp, ?_⟩  --@2:dis10
    refine wA_cons ?_
    refine wE_lst ?_
    refine wA_cons ?_
    refine wE_tup ?_
    refine wA_cons ?_
    refine wE_str ?_
    refine wA_cons ?_
    refine wE_str ?_
    refine wA_nil ?_
    refine ⟨by simp, ?_⟩  --@2:dis11
    refine wA_nil ?_
    refine ⟨by simp, ?_⟩  --@2:dis12
    refine wA_cons ?_
    refine wE_bin ?_
    refine wE_str ?_
    refine wE_int ?_
    refine o_mulS (n := 9) (by decide) (by decide) ?_  --@2:mul
    refine wA_nil ?_
    refine ⟨by simp, ?_⟩  --@2:dis13
    first | refine o_add ?_ | refine o_cat (by simp) ?_ | refine o_addS (by simp) ?_  --@2:add
    -- 3
    refine wSs_cons ?_
    refine wS_ret ?_
    refine wE_ix ?_
    refine wE_nm 1 rfl ?_
    refine wE_call H_law_take hr hgu ?_
    refine wA_cons ?_
    refine wE_nm 0 rfl ?_
    refine wA_cons ?_
    refine wE_callB "len" (by decide +kernel) T.len_ ?_
    refine wA_cons ?_
    refine wE_nm 1 rfl ?_
    refine wA_nil ?_
    first | refine c_lenL ?_ | refine c_lenC 0 rfl ?_ | refine c_lenC 1 rfl ?_ | refine c_lenR ?_ | refine c_lenU ?_ | refine c_lenS (by omega) ?_  --@3:len
    refine wA_nil ?_
    refine ⟨[(p, .box _)], [], List.Perm.refl _, p, _, _, rfl, rfl, by decide, by decide, by omega, fun d hd => ?_⟩  --@3:_law_take
    obtain ⟨z, hz, hz2⟩ : ∃ z, oddL[d]? = some z ∧ z ∈ oddL := ⟨oddL[d]'hd, List.getElem?_eq_getElem hd, List.getElem_mem hd⟩
    refine xD_lst (atI_nat hz) ?_  --@3:ix
    exact q z hz2  --@3:ret

/-! _law_text -/
theorem sc_law_text : FnScope ["box", "signs", "k"] ["box"] (defScope (top 11)) := ⟨rfl, rfl, rfl, by decide +kernel, rfl, by decide +kernel, by decide +kernel⟩
def fText : FS := fun ds C Kn _ => ∃ (p : Addr) (n : Nat), ds = [.ref p] ∧ C = [(p, .box n)] ∧ n < 900000 ∧ ∀ (s : Str) m, s.length ≤ 10 → (∀ c ∈ s.cps.toList, c < 128) → m ≤ n + 12 → Kn (.str s) [(p, .box m)]
theorem ok_law_text {f : Addr} {fd : FuncData} (Fu : Fun K "_law_text" "_law_text" (top 11) f fd) (T : Bn K mg) (H_law_take : Has P w K mg base "_law_take" 1 fTake) : FnG P w K mg base 2 f fd ["box"] fText := by
  refine fnG_of Fu sc_law_text (fun ds C Kn Ke h => ?_) (fun cdv A outer s H E W ds C Kn Ke hr hgu hF => ?_)
  · obtain ⟨p, n, rfl, rfl, hn, q⟩ := h; rfl
  · obtain ⟨p, n, rfl, rfl, hn, q⟩ := hF
    have nd := sc_law_text.nd
    -- 1
    refine wSs_cons ?_
    refine wS_set 1 ?_ nd
    refine wE_str ?_
    -- 2
    refine wSs_cut (fun G' C' => ∃ x : Str, 0 < x.length ∧ x.length ≤ 33 ∧ (∀ c ∈ x.cps.toList, c < 128) ∧ G' = [some (.ref p), some (.str x), none] ∧ C' = [(p, .box (n + 1))]) ?_ ?_
    · skip
      refine wS_if ?_
      refine wT_cmp ?_
      refine wE_call H_law_take hr hgu ?_
      refine wA_cons ?_
      refine wE_nm 0 rfl ?_
      refine wA_cons ?_
      refine wE_int ?_
      refine wA_nil ?_
      refine ⟨[(p, .box _)], _, List.Perm.refl _, p, 3, _, rfl, rfl, by omega, by omega, by omega, fun t1 ht1 => ?_⟩  --@2:_law_take
      refine wE_int ?_
      first | refine o_eqI ?_ | refine o_eqS ?_  --@2:eq
      refine ⟨_, rfl, ?_⟩
      refine ⟨fun hi1 => ?_, fun hi1 => ?_⟩  --@2:if
      · skip
        -- 3
        refine wSs_cons ?_
        refine wS_set 1 ?_ nd
        refine wE_bin ?_
        refine wE_nm 1 rfl ?_
        refine wE_str ?_
        refine o_addS (by decide) ?_  --@3:add
        refine wSs_nil ?_
        exact ⟨_, by decide, by decide, by decide +kernel, rfl, rfl⟩  --@2:cut1
      · skip
        refine wSs_nil ?_
        exact ⟨_, by decide, by decide, by decide +kernel, rfl, rfl⟩  --@2:cut2
    intro G' C' iv
    obtain ⟨x, hx0, hx, hxa, rfl, rfl⟩ := iv  --@2:cutr
    -- 4
    refine wSs_cons ?_
    refine wS_ret ?_
    refine wE_join ?_
    refine wE_str ?_
    refine ⟨⟨_, rfl⟩, ?_⟩
    refine wE_C ?_
    refine C_lcI 2 [("k", 2)] nd rfl ?_
    refine wI_rg T.range_ ?_
    refine wE_call H_law_take hr hgu ?_
    refine wA_cons ?_
    refine wE_nm 0 rfl ?_
    refine wA_cons ?_
    refine wE_int ?_
    refine wA_nil ?_
    refine ⟨[(p, .box _)], _, List.Perm.refl _, p, 11, _, rfl, rfl, by omega, by omega, by omega, fun t2 ht2 => ?_⟩  --@4:_law_take
    refine ⟨_, rfl, by omega, ?_⟩  --@4:rng
    refine ⟨_, _, _, fun i acc C' => ∃ (ys : List Str) (m : Nat), acc = ys.map D.str ∧ ys.length = i ∧ (∀ y ∈ ys, y.length = 1) ∧ (∀ y ∈ ys, ∀ c ∈ y.cps.toList, c < 128) ∧ m ≤ n + 2 + i ∧ C' = [(p, .box m)], rfl, by rw [List.length_range]; omega, ⟨[], n + 2, rfl, rfl, by simp, by simp, by omega, rfl⟩, ?_, ?_⟩  --@4:comp
    · intro i y acc C' hy ym hi iv W s H Cl cl fp
      rw [List.length_range] at hi
      obtain ⟨ys, m, rfl, hl, h1, h2, hm, rfl⟩ := iv
      refine wE_ix ?_
      refine wE_nm 1 rfl ?_
      refine wE_call H_law_take hr hgu ?_
      refine wA_cons ?_
      refine wE_nm 0 rfl ?_
      refine wA_cons ?_
      refine wE_callB "len" (by decide +kernel) T.len_ ?_
      refine wA_cons ?_
      refine wE_nm 1 rfl ?_
      refine wA_nil ?_
      first | refine c_lenL ?_ | refine c_lenC 0 rfl ?_ | refine c_lenC 1 rfl ?_ | refine c_lenR ?_ | refine c_lenU ?_ | refine c_lenS (by omega) ?_  --@4:len
      refine wA_nil ?_
      refine ⟨[(p, .box _)], _, List.Perm.refl _, p, _, _, rfl, rfl, by omega, by omega, by omega, fun t3 ht3 => ?_⟩  --@4:_law_take2
      obtain ⟨c, hc⟩ : ∃ c, x.cps.toList[t3]? = some c := ⟨x.cps.toList[t3]'(by rw [Array.length_toList]; exact ht3), List.getElem?_eq_getElem _⟩
      refine xD_str (by omega) (atI_nat hc) ?_  --@4:ix
      exact ⟨ys ++ [⟨#[c]⟩], m + 1, by rw [List.map_append]; rfl, by rw [List.length_append, hl]; rfl, fun y hy => (List.mem_append.mp hy).elim (h1 y) (fun z => by rw [List.mem_singleton.mp z]; rfl), fun y hy => (List.mem_append.mp hy).elim (h2 y) (fun z => by rw [List.mem_singleton.mp z]; intro c2 hc2; rw [show c2 = c by simpa using hc2]; exact hxa c (List.mem_of_getElem? hc)), by omega, rfl⟩  --@4:compnext
    intro acc C' iv
    rw [List.length_range] at iv
    obtain ⟨ys, m, rfl, hl, h1, h2, hm, rfl⟩ := iv
    refine ⟨_, ys, rfl, rfl, ?_, ?_⟩
    · rw [sum_ones h1, hl]; show t2 + t2 * 0 ≤ _; omega  --@4:join
    refine q _ _ ?_ ?_ (by omega)
    · rw [len_joinE rfl, sum_ones h1, hl]; omega
    · intro c hc
      rw [tl_joinE rfl, List.mem_flatten] at hc
      obtain ⟨l, hl, hc⟩ := hc
      obtain ⟨y, hy, rfl⟩ := List.mem_map.mp hl
      exact h2 y hy c hc  --@4:ret
theorem isNameB_due (x : Str) : isNameB (.str x) = ((decide (0 < x.length) && decide (x.length < 9)) && PyData.eqv (.list (pyDs ((x.cps.toList.filter fun c => !decide (c ∈ lettersS.cps.toList)).map sgD))) (.list (pyDs []))) := by
  have e : PyData.eqv (.list (pyDs ((x.cps.toList.filter fun c => !decide (c ∈ lettersS.cps.toList)).map sgD))) (.list (pyDs [])) = x.cps.toList.all fun c => decide (c ∈ lettersS.cps.toList) := by
    cases h : x.cps.toList.filter fun c => !decide (c ∈ lettersS.cps.toList) with
    | nil =>
      rw [List.filter_eq_nil_iff] at h
      rw [List.all_eq_true.mpr fun c hc => by simpa using h c hc]; rfl
    | cons c r =>
      have hc : c ∈ x.cps.toList.filter fun c => !decide (c ∈ lettersS.cps.toList) := by rw [h]; exact List.mem_cons_self ..
      rw [List.mem_filter] at hc
      have hf : (x.cps.toList.all fun c => decide (c ∈ lettersS.cps.toList)) = false := by
        rw [List.all_eq_false]; exact ⟨c, hc.1, by simpa using hc.2⟩
      rw [hf]; rfl
  rw [e]
  show isNameS x = _
  unfold isNameS
  congr 2
  exact decide_eq_decide.mpr (by omega)
/-! _law_due -/
theorem sc_law_due : FnScope ["value", "low", "high", "whole", "named", "sign"] ["value", "low", "high"] (defScope (top 12)) := ⟨rfl, rfl, rfl, by decide +kernel, rfl, by decide +kernel, by decide +kernel⟩
def fDue : FS := fun ds C Kn _ => ∃ d lo hi, ds = [d, .int lo, .int hi] ∧ (kindD d).isSome = true ∧ (∀ s, d = .str s → s.length ≤ 100000 ∧ ∀ c ∈ s.cps.toList, c < 128) ∧ Kn (.lst [.bl (isIntB d lo hi), .bl (isNameB d)]) C
theorem ok_law_due {f : Addr} {fd : FuncData} (Fu : Fun K "_law_due" "_law_due" (top 12) f fd) (T : Bn K mg) : FnG P w K mg base 1 f fd ["value", "low", "high"] fDue := by
  refine fnG_of Fu sc_law_due (fun ds C Kn Ke h => ?_) (fun cdv A outer s H E W ds C Kn Ke hr hgu hF => ?_)
  · obtain ⟨d, lo, hi, rfl, _⟩ := h; rfl
  · obtain ⟨d, lo, hi, rfl, hk, hs, q⟩ := hF
    have nd := sc_law_due.nd
    have hu : A.units + 3 + 200 < cLine := by have := hr.un; have e : (A.deeper (envOfC "_law_due" (defScope (top 12)) s.heap.objs.size f cdv)).units = A.units + 3 := rfl; omega
    refine wSs_cons (wS_set 3 ?_ nd)
    have key : isIntB d lo hi = (isB d "int" && (!isB d "bool" && isIntB d lo hi)) := by
      cases d <;> first | rfl | (cases hk; done) | simp [isB, kindD, instT, isIntB]
    refine wE_andP (p := isB d "int") (q := (!isB d "bool" && isIntB d lo hi)) ?_ (fun h1 => ?_) ?_
    · refine wE_isi "int" T.isinstance_ T.int_ (by decide +kernel) (wE_nm 0 rfl ?_)
      exact ⟨hk, rfl, rfl⟩
    · refine wE_andP (p := !isB d "bool") ?_ (fun h2 => ?_) ⟨rfl, rfl⟩
      · refine wE_not (wE_isi "bool" T.isinstance_ T.bool_ (by decide +kernel) (wE_nm 0 rfl ?_))
        exact ⟨hk, _, rfl, rfl, rfl⟩
      obtain ⟨i, rfl⟩ : ∃ i, d = .int i := by
        cases d <;> first | exact ⟨_, rfl⟩ | (cases hk; done) | (exfalso; revert h1 h2; simp [isB, kindD, instT]; done)
      refine wE_andP (p := decide (lo ≤ i)) (q := decide (i ≤ hi)) ?_ (fun h3 => ?_) ⟨rfl, rfl⟩
      · exact wE_cmp (wE_nm 0 rfl (wE_nm 1 rfl (o_ge ⟨rfl, rfl⟩)))
      · exact wE_one (wE_cmp (wE_nm 0 rfl (wE_nm 2 rfl (o_le ⟨rfl, rfl⟩))))
    rw [← key]
    by_cases hd : ∃ x, d = .str x
    · obtain ⟨x, rfl⟩ := hd
      obtain ⟨hl, hch⟩ := hs x rfl
      refine wSs_cons (wS_set 4 ?_ nd)
      refine wE_andP (p := true) (q := (decide ((0 : Int) < x.length) && decide ((x.length : Int) < 9))) ?_ (fun _ => ?_) ?_
      · refine wE_isi "str" T.isinstance_ T.str_ (by decide +kernel) (wE_nm 0 rfl ?_)
        exact ⟨rfl, rfl, rfl⟩
      · refine wE_one (wE_chain (wE_int (wE_callB "len" (by decide +kernel) T.len_ (wA_cons (wE_nm 0 rfl (wA_nil (c_lenS hl (o_lt ?_))))))))
        refine wE_chainP (u := decide ((x.length : Int) < 9)) (fun _ => wE_int (o_lt ⟨rfl, rfl⟩)) ?_
        exact ⟨rfl, rfl⟩
      refine wSs_cons (wS_ret (wE_lst (wA_cons (wE_nm 3 rfl (wA_cons ?_)))))
      refine wE_andP (q := PyData.eqv (.list (pyDs ((x.cps.toList.filter fun c => !decide (c ∈ lettersS.cps.toList)).map sgD))) (.list (pyDs []))) (wE_nm 4 rfl ⟨rfl, rfl⟩) (fun h5 => ?_) ?_
      · refine wE_one (wE_cmp (wE_C ?_))
        have hl8 : x.length ≤ 8 := by simp at h5; omega
        refine C_lcP 5 [("sign", 5)] nd rfl x.cps.toList sgD (fun c => !decide (c ∈ lettersS.cps.toList)) sgD ?_ ?_ ?_ ?_ ?_
        · exact wI_str (wE_nm 0 rfl ⟨x, rfl, rfl, rfl⟩)
        · rw [Array.length_toList]; exact hl
        · intro y hy W s H Cl cl fp
          exact wIf_one (wT_cmp (wE_nm 5 rfl (wE_str (o_niS ⟨_, rfl, rfl, rfl⟩))))
        · intro y hy _ W s H Cl cl fp
          exact wE_nm 5 rfl ⟨rfl, rfl⟩
        · refine wE_lst (wA_nil ⟨by simp, ?_⟩)
          refine o_eqP (n := 100) (n' := 100) (dep := 1) (dep' := 1) (by show A.units + 3 + 64 < cLine; omega) ?_ rfl ?_ ?_ (by decide) (by decide) ⟨rfl, rfl⟩
          · exact plDs_map fun c _ => rfl
          · refine (fit_list (ds := pyDs _) (n := x.length * (1 + 1)) (dep := 0) ?_).mono (by omega) (by decide)
            rw [pyDs_map]
            refine fits_map (fun c hc => fit_str (by show (1 : Nat) ≤ 1; decide) fun z hz => ?_) ?_
            · have : z = c := by simpa using hz
              rw [this]; exact hch c (List.mem_filter.mp hc).1
            · refine Nat.le_trans (List.length_filter_le _ _) ?_
              rw [Array.length_toList]; exact Nat.le_refl _
          · exact (fit_list (fits_nil (dep := 0))).mono (by decide) (by decide)
      refine wA_nil ⟨by simp, ?_⟩
      have eb : (decide ((0 : Int) < x.length) && decide ((x.length : Int) < 9)) = (decide (0 < x.length) && decide (x.length < 9)) := by
        congr 1 <;> exact decide_eq_decide.mpr (by omega)
      rw [isNameB_due, ← eb] at q
      exact q
    · have e0 : isB d "str" = false := by
        cases d <;> first | rfl | (exact absurd ⟨_, rfl⟩ hd) | (cases hk; done)
      have e1 : isNameB d = false := by
        cases d <;> first | rfl | (exact absurd ⟨_, rfl⟩ hd)
      refine wSs_cons (wS_set 4 ?_ nd)
      refine wE_andP (p := false) (q := true) ?_ (fun h => by cases h) ?_
      · refine wE_isi "str" T.isinstance_ T.str_ (by decide +kernel) (wE_nm 0 rfl ?_)
        exact ⟨hk, by rw [e0], rfl⟩
      refine wSs_cons (wS_ret (wE_lst (wA_cons (wE_nm 3 rfl (wA_cons ?_)))))
      refine wE_andP (p := false) (q := true) (wE_nm 4 rfl ⟨rfl, rfl⟩) (fun h => by cases h) ?_
      refine wA_nil ⟨by simp, ?_⟩
      rw [e1] at q; exact q
def goodV (d : D) : Bool := (kindD d).isSome && match d with
  | .str s => decide (s.length ≤ 100000) && s.cps.toList.all fun c => decide (c < 128)
  | _ => true
theorem goodV.k {d : D} (h : goodV d = true) : (kindD d).isSome = true := by
  unfold goodV at h; rw [Bool.and_eq_true] at h; exact h.1
theorem goodV.s {d : D} (h : goodV d = true) (s : Str) (e : d = .str s) : s.length ≤ 100000 ∧ ∀ c ∈ s.cps.toList, c < 128 := by
  subst e
  unfold goodV at h
  rw [Bool.and_eq_true, Bool.and_eq_true] at h
  exact ⟨of_decide_eq_true h.2.1, fun c hc => of_decide_eq_true (List.all_eq_true.mp h.2.2 c hc)⟩
theorem goodV.mk {s : Str} (h1 : s.length ≤ 100000) (h2 : ∀ c ∈ s.cps.toList, c < 128) : goodV (.str s) = true := by
  unfold goodV
  rw [Bool.and_eq_true, Bool.and_eq_true]
  exact ⟨rfl, decide_eq_true h1, List.all_eq_true.mpr fun c hc => decide_eq_true (h2 c hc)⟩
theorem oddGood : ∀ d ∈ oddL, goodV d = true := List.all_eq_true.mp (by decide +kernel)
theorem sliceGood {t : Nat} (h : t < 3) : goodV (.str (cutS "abcdefghi" none (some (7 + (t : Int))))) = true := by
  have : t = 0 ∨ t = 1 ∨ t = 2 := by omega
  rcases this with rfl | rfl | rfl <;> decide +kernel
/-! law -/
theorem sc_law : FnScope ["script", "k", "box", "low", "high", "value"] ["script"] (defScope (top 13)) := ⟨rfl, rfl, rfl, by decide +kernel, rfl, by decide +kernel, by decide +kernel⟩
theorem ok_law {f : Addr} {fd : FuncData} (Fu : Fun K "law" "law" (top 13) f fd) (T : Bn K mg) (His_integer : Has P w K mg base "is_integer" 1 fIsInt) (His_name : Has P w K mg base "is_name" 1 fIsName) (H_law_cell : Has P w K mg base "_law_cell" 1 fCell) (H_law_box : Has P w K mg base "_law_box" 1 fBox) (H_law_take : Has P w K mg base "_law_take" 1 fTake) (H_law_even : Has P w K mg base "_law_even" 1 fEven) (H_law_odd : Has P w K mg base "_law_odd" 2 fOdd) (H_law_text : Has P w K mg base "_law_text" 2 fText) (H_law_due : Has P w K mg base "_law_due" 1 fDue) : FnG P w K mg base 4 f fd ["script"] lawF := by
  refine fnG_of Fu sc_law (fun ds C Kn Ke h => ?_) (fun cdv A outer s H E W ds C Kn Ke hr hgu hF => ?_)
  · obtain ⟨ns, rfl, rfl, hl, q⟩ := h; rfl
  · obtain ⟨ns, rfl, rfl, hl, q⟩ := hF
    have nd := sc_law.nd
    -- 1
    refine wSs_cons ?_
    refine wS_forI ?_ bX_own rfl
    refine wI_rg T.range_ ?_
    refine wE_callB "max" (by decide +kernel) T.max_ ?_
    refine wA_cons ?_
    refine wE_int ?_
    refine wA_cons ?_
    refine wE_callB "min" (by decide +kernel) T.min_ ?_
    refine wA_cons ?_
    refine wE_int ?_
    refine wA_cons ?_
    refine wE_callB "len" (by decide +kernel) T.len_ ?_
    refine wA_cons ?_
    refine wE_nm 0 rfl ?_
    refine wA_nil ?_
    first | refine c_lenL ?_ | refine c_lenC 0 rfl ?_ | refine c_lenC 1 rfl ?_ | refine c_lenR ?_ | refine c_lenU ?_ | refine c_lenS (by omega) ?_  --@1:len
    refine wA_nil ?_
    refine c_min2 rfl ?_  --@1:min
    refine wA_nil ?_
    refine c_max2 rfl ?_  --@1:max
    refine ⟨max 2 (min 30 (ns.map D.int).length), congrArg D.int (by rw [List.length_map]; omega), by omega, ?_⟩  --@1:rng
    refine ⟨_, _, _, fun i G' C' => ∃ g1 g2 g3 g4 g5, G' = [some (.scr (ns.map D.int)), g1, g2, g3, g4, g5], rfl, ⟨_, _, _, _, _, rfl⟩, ?_, ?_⟩  --@1:for
    · intro i y G' C' hy ym hi iv
      rw [List.length_range] at hi
      obtain ⟨g1, g2, g3, g4, g5, rfl⟩ := iv
      obtain rfl := (List.getElem?_range (by omega)).symm.trans hy |> Option.some.inj
      refine wG_nm 1 ?_ nd
      skip  --@1:tgt
      -- 2
      refine wSs_cons ?_
      refine wS_set 2 ?_ nd
      refine wE_call H_law_box hr hgu ?_
      refine wA_cons ?_
      refine wE_call H_law_cell hr hgu ?_
      refine wA_cons ?_
      refine wE_nm 0 rfl ?_
      refine wA_cons ?_
      refine wE_nm 1 rfl ?_
      refine wA_nil ?_
      refine ⟨[], _, List.Perm.refl _, _, _, rfl, by omega, fun z => ?_⟩  --@2:_law_cell
      refine wA_nil ?_
      refine ⟨[], _, List.Perm.refl _, _, rfl, rfl, fun p => ?_⟩  --@2:_law_box
      -- 3
      refine wSs_cons ?_
      refine wS_set 3 ?_ nd
      refine wE_ix ?_
      refine wE_lst ?_
      refine wA_cons ?_
      refine wE_bin ?_
      refine wE_call H_law_take hr hgu ?_
      refine wA_cons ?_
      refine wE_nm 2 rfl ?_
      refine wA_cons ?_
      refine wE_int ?_
      refine wA_nil ?_
      refine ⟨[(p, .box _)], _, List.Perm.refl _, p, 41, _, rfl, rfl, by omega, by omega, by omega, fun t1 ht1 => ?_⟩  --@3:_law_take
      refine wE_int ?_
      refine o_sub ?_  --@3:sub
      refine wA_cons ?_
      refine wE_call H_law_take hr hgu ?_
      refine wA_cons ?_
      refine wE_nm 2 rfl ?_
      refine wA_cons ?_
      refine wE_bin ?_
      refine wE_int ?_
      refine wE_int ?_
      first | refine o_pow (by decide) ?_ | refine o_pow ⟨by decide, by decide, by omega⟩ ?_  --@3:pow
      refine wA_nil ?_
      refine ⟨[(p, .box _)], _, List.Perm.refl _, p, 1000000000, _, rfl, rfl, by omega, by omega, by omega, fun t2 ht2 => ?_⟩  --@3:_law_take2
      refine wA_cons ?_
      refine wE_bin ?_
      refine wE_int ?_
      refine wE_int ?_
      first | refine o_pow (by decide) ?_ | refine o_pow ⟨by decide, by decide, by omega⟩ ?_  --@3:pow2
      refine wA_nil ?_
      refine ⟨by simp, ?_⟩  --@3:dis
      refine wE_call H_law_take hr hgu ?_
      refine wA_cons ?_
      refine wE_nm 2 rfl ?_
      refine wA_cons ?_
      refine wE_int ?_
      refine wA_nil ?_
      refine ⟨[(p, .box _)], _, List.Perm.refl _, p, 3, _, rfl, rfl, by omega, by omega, by omega, fun t3 ht3 => ?_⟩  --@3:_law_take3
      refine xD_ints ht3 rfl fun low _ => ?_  --@3:ix
      -- 4
      refine wSs_cons ?_
      refine wS_set 4 ?_ nd
      refine wE_bin ?_
      refine wE_nm 3 rfl ?_
      refine wE_ix ?_
      refine wE_lst ?_
      refine wA_cons ?_
      refine wE_bin ?_
      refine wE_call H_law_take hr hgu ?_
      refine wA_cons ?_
      refine wE_nm 2 rfl ?_
      refine wA_cons ?_
      refine wE_int ?_
      refine wA_nil ?_
      refine ⟨[(p, .box _)], _, List.Perm.refl _, p, 9, _, rfl, rfl, by omega, by omega, by omega, fun t4 ht4 => ?_⟩  --@4:_law_take
      refine wE_int ?_
      refine o_sub ?_  --@4:sub
      refine wA_cons ?_
      refine wE_call H_law_take hr hgu ?_
      refine wA_cons ?_
      refine wE_nm 2 rfl ?_
      refine wA_cons ?_
      refine wE_bin ?_
      refine wE_int ?_
      refine wE_int ?_
      first | refine o_pow (by decide) ?_ | refine o_pow ⟨by decide, by decide, by omega⟩ ?_  --@4:pow
      refine wA_nil ?_
      refine ⟨[(p, .box _)], _, List.Perm.refl _, p, 1000000000, _, rfl, rfl, by omega, by omega, by omega, fun t5 ht5 => ?_⟩  --@4:_law_take2
      refine wA_cons ?_
      refine wE_bin ?_
      refine wE_int ?_
      refine wE_int ?_
      first | refine o_pow (by decide) ?_ | refine o_pow ⟨by decide, by decide, by omega⟩ ?_  --@4:pow2
      refine wA_nil ?_
      refine ⟨by simp, ?_⟩  --@4:dis
      refine wE_call H_law_take hr hgu ?_
      refine wA_cons ?_
      refine wE_nm 2 rfl ?_
      refine wA_cons ?_
      refine wE_int ?_
      refine wA_nil ?_
      refine ⟨[(p, .box _)], _, List.Perm.refl _, p, 3, _, rfl, rfl, by omega, by omega, by omega, fun t6 ht6 => ?_⟩  --@4:_law_take3
      refine xD_ints ht6 rfl fun d4 _ => ?_  --@4:ix
      first | refine o_add ?_ | refine o_cat (by simp) ?_ | refine o_addS (by simp) ?_  --@4:add
      -- 5
      refine wSs_cons ?_
      refine wS_forI ?_ bX_own rfl
      refine wI_lst ?_
      refine wE_lst ?_
      refine wA_cons ?_
      refine wE_bin ?_
      refine wE_nm 3 rfl ?_
      refine wE_int ?_
      refine o_sub ?_  --@5:sub
      refine wA_cons ?_
      refine wE_nm 3 rfl ?_
      refine wA_cons ?_
      refine wE_nm 4 rfl ?_
      refine wA_cons ?_
      refine wE_bin ?_
      refine wE_nm 4 rfl ?_
      refine wE_int ?_
      first | refine o_add ?_ | refine o_cat (by simp) ?_ | refine o_addS (by simp) ?_  --@5:add
      refine wA_cons ?_
      refine wE_call H_law_text hr hgu ?_
      refine wA_cons ?_
      refine wE_nm 2 rfl ?_
      refine wA_nil ?_
      refine ⟨[(p, .box _)], _, List.Perm.refl _, p, _, rfl, rfl, by omega, fun text m htext hascii hm => ?_⟩  --@5:_law_text
      refine wA_cons ?_
      refine wE_call H_law_odd hr hgu ?_
      refine wA_cons ?_
      refine wE_nm 2 rfl ?_
      refine wA_nil ?_
      refine ⟨[(p, .box _)], _, List.Perm.refl _, p, _, rfl, rfl, by omega, fun odd hodd => ?_⟩  --@5:_law_odd
      refine wA_cons ?_
      refine wE_lst ?_
      refine wA_cons ?_
      refine wE_nm 3 rfl ?_
      refine wA_nil ?_
      refine ⟨by simp, ?_⟩  --@5:dis
      refine wA_cons ?_
      refine wE_sl ?_
      refine wE_str ?_
      refine pO_none ?_
      refine pO_some ?_
      refine wE_bin ?_
      refine wE_int ?_
      refine wE_call H_law_take hr hgu ?_
      refine wA_cons ?_
      refine wE_nm 2 rfl ?_
      refine wA_cons ?_
      refine wE_int ?_
      refine wA_nil ?_
      refine ⟨[(p, .box _)], _, List.Perm.refl _, p, 3, _, rfl, rfl, by omega, by omega, by omega, fun t7 ht7 => ?_⟩  --@5:_law_take
      first | refine o_add ?_ | refine o_cat (by simp) ?_ | refine o_addS (by simp) ?_  --@5:add2
      refine ⟨_, rfl, ?_⟩
      refine sD_str (by decide) ?_  --@5:sl
      refine wA_nil ?_
      refine ⟨by simp, ?_⟩  --@5:dis2
      refine ⟨_, .inl rfl, ?_⟩  --@5:it
      refine ⟨D, _, id, fun j G' C' => ∃ g, G' = [some (.scr (ns.map D.int)), some (natD i), some (.ref p), some (.int low), some (.int (low + d4)), g], (List.map_id _).symm, ⟨_, rfl⟩, ?_, ?_⟩  --@5:for
      · intro i y G' C' hy ym hi iv
        obtain ⟨g, rfl⟩ := iv
        have good : goodV y = true := by
          simp only [List.mem_cons, List.not_mem_nil, or_false] at ym
          rcases ym with rfl | rfl | rfl | rfl | rfl | rfl | rfl | rfl <;> first | rfl | exact goodV.mk (by omega) hascii | exact oddGood _ hodd | exact sliceGood (by assumption)
        refine wG_nm 5 ?_ nd
        skip  --@5:tgt
        -- 6
        refine wSs_cons ?_
        refine wS_if ?_
        refine wT_not ?_
        refine wT_val ?_
        refine wE_call H_law_even hr hgu ?_
        refine wA_cons ?_
        refine wE_lst ?_
        refine wA_cons ?_
        refine wE_call His_integer hr hgu ?_
        refine wA_cons ?_
        refine wE_nm 5 rfl ?_
        refine wA_cons ?_
        refine wE_nm 3 rfl ?_
        refine wA_cons ?_
        refine wE_nm 4 rfl ?_
        refine wA_nil ?_
        refine ⟨[], _, List.Perm.refl _, _, _, _, rfl, goodV.k good, ?_⟩  --@6:is_integer
        refine wA_cons ?_
        refine wE_call His_name hr hgu ?_
        refine wA_cons ?_
        refine wE_nm 5 rfl ?_
        refine wA_nil ?_
        refine ⟨[], _, List.Perm.refl _, _, rfl, goodV.k good, fun s e => (goodV.s good s e).1, ?_⟩  --@6:is_name
        refine wA_nil ?_
        refine ⟨by simp, ?_⟩  --@6:dis
        refine wA_cons ?_
        refine wE_call H_law_due hr hgu ?_
        refine wA_cons ?_
        refine wE_nm 5 rfl ?_
        refine wA_cons ?_
        refine wE_nm 3 rfl ?_
        refine wA_cons ?_
        refine wE_nm 4 rfl ?_
        refine wA_nil ?_
        refine ⟨[], _, List.Perm.refl _, _, _, _, rfl, goodV.k good, goodV.s good, ?_⟩  --@6:_law_due
        refine wA_nil ?_
        refine ⟨[], _, List.Perm.refl _, _, _, 10, 1, rfl, rfl, rfl, rfl, (fit_list (fits_cons (fit_bool _) (fits_cons (fit_bool _) fits_nil))).mono (by decide) (by decide), by decide, by decide, ?_⟩  --@6:_law_even
        refine ⟨_, rfl, ?_⟩
        refine ⟨fun hi1 => by first | cases hi1; done | (exfalso; revert hi1; simp; done), fun hi1 => ?_⟩
        refine wSs_nil ?_
        refine wSs_nil ?_
        exact ⟨_, rfl⟩  --@5:next
      intro G' C' iv
      obtain ⟨g, rfl⟩ := iv  --@5:done
      refine wSs_nil ?_
      exact ⟨_, _, _, _, _, rfl⟩  --@1:next
    intro G' C' iv
    obtain ⟨g1, g2, g3, g4, g5, rfl⟩ := iv  --@1:done
    -- 8
    refine wSs_cons ?_
    refine wS_ret ?_
    refine' wE_andP ?_ (fun h2 => ?_) ?_
    rotate_left 2
    · skip
      refine wE_cmp ?_
      refine wE_call His_integer hr hgu ?_
      refine wA_cons ?_
      refine wE_int ?_
      refine wA_cons ?_
      refine wE_int ?_
      refine wA_cons ?_
      refine wE_int ?_
      refine wA_nil ?_
      refine ⟨[], _, List.Perm.refl _, _, _, _, rfl, rfl, ?_⟩  --@8:is_integer
      refine wE_bl ?_
      first | refine o_isN ?_ | refine o_isB ?_  --@8:is
      exact ⟨rfl, rfl⟩  --@8:bo
    · skip
      refine wE_one ?_
      refine wE_cmp ?_
      refine wE_call His_name hr hgu ?_
      refine wA_cons ?_
      refine wE_str ?_
      refine wA_nil ?_
      refine ⟨[], _, List.Perm.refl _, _, rfl, rfl, fun s e => by cases e; decide, ?_⟩  --@8:is_name
      refine wE_bl ?_
      first | refine o_isN ?_ | refine o_isB ?_  --@8:is2
      exact ⟨rfl, rfl⟩  --@8:bo2
    have e : (decide (isIntB (.int 3) 3 3 = true) && decide (isNameB (.str "abcdefgh") = true)) = true := by decide +kernel
    rw [e]; exact q _  --@8:ret
end
theorem all_mk {l : PySem.W.OpenLaw} {w : World} {K : PySem.W.Frag} {h : Heap} {mg : Str → Option Value} {fa : Addr} (X : K.In h) (G : h.Ns mainGlobals mg) (hfa : mg "law" = some (.ref fa))
    {f0 : Addr} {od0 an0 : Option Addr} {sl0 : Array (Option Value)} {oc0 kV0 dc0 pm0 cd0 ct0 : Value}
    {f1 : Addr} {od1 an1 : Option Addr} {sl1 : Array (Option Value)} {oc1 kV1 dc1 pm1 cd1 ct1 : Value}
    {f2 : Addr} {od2 an2 : Option Addr} {sl2 : Array (Option Value)} {oc2 kV2 dc2 pm2 cd2 ct2 : Value}
    {f3 : Addr} {od3 an3 : Option Addr} {sl3 : Array (Option Value)} {oc3 kV3 dc3 pm3 cd3 ct3 : Value}
    {f4 : Addr} {od4 an4 : Option Addr} {sl4 : Array (Option Value)} {oc4 kV4 dc4 pm4 cd4 ct4 : Value}
    {f5 : Addr} {od5 an5 : Option Addr} {sl5 : Array (Option Value)} {oc5 kV5 dc5 pm5 cd5 ct5 : Value}
    {f6 : Addr} {od6 an6 : Option Addr} {sl6 : Array (Option Value)} {oc6 kV6 dc6 pm6 cd6 ct6 : Value}
    {f7 : Addr} {od7 an7 : Option Addr} {sl7 : Array (Option Value)} {oc7 kV7 dc7 pm7 cd7 ct7 : Value}
    {f8 : Addr} {od8 an8 : Option Addr} {sl8 : Array (Option Value)} {oc8 kV8 dc8 pm8 cd8 ct8 : Value}
    {f9 : Addr} {od9 an9 : Option Addr} {sl9 : Array (Option Value)} {oc9 kV9 dc9 pm9 cd9 ct9 : Value}
    {tk_LETTERS : Tok}
    {tk_LONGEST_NAME : Tok}
    (a0 : PySem.W.nsIn K mainGlobals "is_integer" = some (some (.ref f0)))
    (l0 : K.lookup f0 = some ⟨oc0, od0, .func (PySem.W.fnOf "is_integer" "is_integer" (defArgs (top 3)) (defBody (top 3)) (defScope (top 3)) .none kV0 dc0 pm0 an0 cd0 ct0), sl0⟩)
    (c0 : PySem.W.codeIn K cd0 "is_integer" = true)
    (k0 : PySem.W.keepIn K (.ref f0) = true)
    (a1 : PySem.W.nsIn K mainGlobals "is_name" = some (some (.ref f1)))
    (l1 : K.lookup f1 = some ⟨oc1, od1, .func (PySem.W.fnOf "is_name" "is_name" (defArgs (top 4)) (defBody (top 4)) (defScope (top 4)) .none kV1 dc1 pm1 an1 cd1 ct1), sl1⟩)
    (c1 : PySem.W.codeIn K cd1 "is_name" = true)
    (k1 : PySem.W.keepIn K (.ref f1) = true)
    (a2 : PySem.W.nsIn K mainGlobals "_law_cell" = some (some (.ref f2)))
    (l2 : K.lookup f2 = some ⟨oc2, od2, .func (PySem.W.fnOf "_law_cell" "_law_cell" (defArgs (top 6)) (defBody (top 6)) (defScope (top 6)) .none kV2 dc2 pm2 an2 cd2 ct2), sl2⟩)
    (c2 : PySem.W.codeIn K cd2 "_law_cell" = true)
    (k2 : PySem.W.keepIn K (.ref f2) = true)
    (a3 : PySem.W.nsIn K mainGlobals "_law_box" = some (some (.ref f3)))
    (l3 : K.lookup f3 = some ⟨oc3, od3, .func (PySem.W.fnOf "_law_box" "_law_box" (defArgs (top 7)) (defBody (top 7)) (defScope (top 7)) .none kV3 dc3 pm3 an3 cd3 ct3), sl3⟩)
    (c3 : PySem.W.codeIn K cd3 "_law_box" = true)
    (k3 : PySem.W.keepIn K (.ref f3) = true)
    (a4 : PySem.W.nsIn K mainGlobals "_law_take" = some (some (.ref f4)))
    (l4 : K.lookup f4 = some ⟨oc4, od4, .func (PySem.W.fnOf "_law_take" "_law_take" (defArgs (top 8)) (defBody (top 8)) (defScope (top 8)) .none kV4 dc4 pm4 an4 cd4 ct4), sl4⟩)
    (c4 : PySem.W.codeIn K cd4 "_law_take" = true)
    (k4 : PySem.W.keepIn K (.ref f4) = true)
    (a5 : PySem.W.nsIn K mainGlobals "_law_even" = some (some (.ref f5)))
    (l5 : K.lookup f5 = some ⟨oc5, od5, .func (PySem.W.fnOf "_law_even" "_law_even" (defArgs (top 9)) (defBody (top 9)) (defScope (top 9)) .none kV5 dc5 pm5 an5 cd5 ct5), sl5⟩)
    (c5 : PySem.W.codeIn K cd5 "_law_even" = true)
    (k5 : PySem.W.keepIn K (.ref f5) = true)
    (a6 : PySem.W.nsIn K mainGlobals "_law_odd" = some (some (.ref f6)))
    (l6 : K.lookup f6 = some ⟨oc6, od6, .func (PySem.W.fnOf "_law_odd" "_law_odd" (defArgs (top 10)) (defBody (top 10)) (defScope (top 10)) .none kV6 dc6 pm6 an6 cd6 ct6), sl6⟩)
    (c6 : PySem.W.codeIn K cd6 "_law_odd" = true)
    (k6 : PySem.W.keepIn K (.ref f6) = true)
    (a7 : PySem.W.nsIn K mainGlobals "_law_text" = some (some (.ref f7)))
    (l7 : K.lookup f7 = some ⟨oc7, od7, .func (PySem.W.fnOf "_law_text" "_law_text" (defArgs (top 11)) (defBody (top 11)) (defScope (top 11)) .none kV7 dc7 pm7 an7 cd7 ct7), sl7⟩)
    (c7 : PySem.W.codeIn K cd7 "_law_text" = true)
    (k7 : PySem.W.keepIn K (.ref f7) = true)
    (a8 : PySem.W.nsIn K mainGlobals "_law_due" = some (some (.ref f8)))
    (l8 : K.lookup f8 = some ⟨oc8, od8, .func (PySem.W.fnOf "_law_due" "_law_due" (defArgs (top 12)) (defBody (top 12)) (defScope (top 12)) .none kV8 dc8 pm8 an8 cd8 ct8), sl8⟩)
    (c8 : PySem.W.codeIn K cd8 "_law_due" = true)
    (k8 : PySem.W.keepIn K (.ref f8) = true)
    (a9 : PySem.W.nsIn K mainGlobals "law" = some (some (.ref f9)))
    (l9 : K.lookup f9 = some ⟨oc9, od9, .func (PySem.W.fnOf "law" "law" (defArgs (top 13)) (defBody (top 13)) (defScope (top 13)) .none kV9 dc9 pm9 an9 cd9 ct9), sl9⟩)
    (c9 : PySem.W.codeIn K cd9 "law" = true)
    (k9 : PySem.W.keepIn K (.ref f9) = true)
    (z_isinstance : PySem.W.nsIn K mainGlobals "isinstance" = some none)
    (z_int : PySem.W.nsIn K mainGlobals "int" = some none)
    (z_bool : PySem.W.nsIn K mainGlobals "bool" = some none)
    (z_str : PySem.W.nsIn K mainGlobals "str" = some none)
    (z_len : PySem.W.nsIn K mainGlobals "len" = some none)
    (z_max : PySem.W.nsIn K mainGlobals "max" = some none)
    (z_min : PySem.W.nsIn K mainGlobals "min" = some none)
    (z_all : PySem.W.nsIn K mainGlobals "all" = some none)
    (z_range : PySem.W.nsIn K mainGlobals "range" = some none)
    (z_repr : PySem.W.nsIn K mainGlobals "repr" = some none)
    (z_LETTERS : PySem.W.nsIn K mainGlobals "LETTERS" = some (some (.str "abcdefghijklmnopqrstuvwxyz" tk_LETTERS)))
    (z_LONGEST_NAME : PySem.W.nsIn K mainGlobals "LONGEST_NAME" = some (some (.int 8 tk_LONGEST_NAME)))
    : ∃ fd : FuncData, (∀ (s : Shared) (v : Value), BindsTo s fd ⟨[v], []⟩ [("script", v)]) ∧ ∀ base : Heap, K.In base → base.Ns mainGlobals mg → FnG l.prog w K mg base 4 fa fd ["script"] lawF := by
  have e := hfa.symm.trans (PySem.W.mg_of X G a9)
  cases e
  have T : Bn K mg := ⟨PySem.W.mg_none_of X G z_isinstance, PySem.W.mg_none_of X G z_int, PySem.W.mg_none_of X G z_bool, PySem.W.mg_none_of X G z_str, PySem.W.mg_none_of X G z_len, PySem.W.mg_none_of X G z_max, PySem.W.mg_none_of X G z_min, PySem.W.mg_none_of X G z_all, PySem.W.mg_none_of X G z_range, PySem.W.mg_none_of X G z_repr, ⟨_, PySem.W.mg_of X G z_LETTERS, ⟨_, rfl⟩⟩, ⟨_, PySem.W.mg_of X G z_LONGEST_NAME, ⟨_, rfl⟩⟩⟩
  have F0 := fun_mk (st := top 3) l0 c0 k0
  have F1 := fun_mk (st := top 4) l1 c1 k1
  have F2 := fun_mk (st := top 6) l2 c2 k2
  have F3 := fun_mk (st := top 7) l3 c3 k3
  have F4 := fun_mk (st := top 8) l4 c4 k4
  have F5 := fun_mk (st := top 9) l5 c5 k5
  have F6 := fun_mk (st := top 10) l6 c6 k6
  have F7 := fun_mk (st := top 11) l7 c7 k7
  have F8 := fun_mk (st := top 12) l8 c8 k8
  have F9 := fun_mk (st := top 13) l9 c9 k9
  refine ⟨PySem.W.fnOf "law" "law" (defArgs (top 13)) (defBody (top 13)) (defScope (top 13)) .none kV9 dc9 pm9 an9 cd9 ct9, fun s v => .of_eq rfl, fun base _ _ => ?_⟩
  have G0 := ok_is_integer (P := l.prog) (w := w) (base := base) F0 T 
  have b0 := F0.binds (ps := ["value", "low", "high"]) fun _ _ _ _ _ _ us hl => match us, hl with | [_, _, _], _ => rfl
  have His_integer : Has l.prog w K mg base "is_integer" 1 fIsInt := ⟨_, _, _, PySem.W.mg_of X G a0, k0, b0, G0⟩
  have G1 := ok_is_name (P := l.prog) (w := w) (base := base) F1 T 
  have b1 := F1.binds (ps := ["value"]) fun _ _ _ _ _ _ us hl => match us, hl with | [_], _ => rfl
  have His_name : Has l.prog w K mg base "is_name" 1 fIsName := ⟨_, _, _, PySem.W.mg_of X G a1, k1, b1, G1⟩
  have G2 := ok_law_cell (P := l.prog) (w := w) (base := base) F2 T 
  have b2 := F2.binds (ps := ["script", "k"]) fun _ _ _ _ _ _ us hl => match us, hl with | [_, _], _ => rfl
  have H_law_cell : Has l.prog w K mg base "_law_cell" 1 fCell := ⟨_, _, _, PySem.W.mg_of X G a2, k2, b2, G2⟩
  have G3 := ok_law_box (P := l.prog) (w := w) (base := base) F3 T 
  have b3 := F3.binds (ps := ["cell"]) fun _ _ _ _ _ _ us hl => match us, hl with | [_], _ => rfl
  have H_law_box : Has l.prog w K mg base "_law_box" 1 fBox := ⟨_, _, _, PySem.W.mg_of X G a3, k3, b3, G3⟩
  have G4 := ok_law_take (P := l.prog) (w := w) (base := base) F4 T 
  have b4 := F4.binds (ps := ["box", "many"]) fun _ _ _ _ _ _ us hl => match us, hl with | [_, _], _ => rfl
  have H_law_take : Has l.prog w K mg base "_law_take" 1 fTake := ⟨_, _, _, PySem.W.mg_of X G a4, k4, b4, G4⟩
  have G5 := ok_law_even (P := l.prog) (w := w) (base := base) F5 T 
  have b5 := F5.binds (ps := ["found", "due"]) fun _ _ _ _ _ _ us hl => match us, hl with | [_, _], _ => rfl
  have H_law_even : Has l.prog w K mg base "_law_even" 1 fEven := ⟨_, _, _, PySem.W.mg_of X G a5, k5, b5, G5⟩
  have G6 := ok_law_odd (P := l.prog) (w := w) (base := base) F6 T H_law_take
  have b6 := F6.binds (ps := ["box"]) fun _ _ _ _ _ _ us hl => match us, hl with | [_], _ => rfl
  have H_law_odd : Has l.prog w K mg base "_law_odd" 2 fOdd := ⟨_, _, _, PySem.W.mg_of X G a6, k6, b6, G6⟩
  have G7 := ok_law_text (P := l.prog) (w := w) (base := base) F7 T H_law_take
  have b7 := F7.binds (ps := ["box"]) fun _ _ _ _ _ _ us hl => match us, hl with | [_], _ => rfl
  have H_law_text : Has l.prog w K mg base "_law_text" 2 fText := ⟨_, _, _, PySem.W.mg_of X G a7, k7, b7, G7⟩
  have G8 := ok_law_due (P := l.prog) (w := w) (base := base) F8 T 
  have b8 := F8.binds (ps := ["value", "low", "high"]) fun _ _ _ _ _ _ us hl => match us, hl with | [_, _, _], _ => rfl
  have H_law_due : Has l.prog w K mg base "_law_due" 1 fDue := ⟨_, _, _, PySem.W.mg_of X G a8, k8, b8, G8⟩
  exact ok_law F9 T His_integer His_name H_law_cell H_law_box H_law_take H_law_even H_law_odd H_law_text H_law_due
end EW
open PySem PySem.W PyProof.Rows
set_option maxHeartbeats 0 in
theorem PySem.Challenge.cw_evenweek_k01_integers_and_names_holds : PySem.Challenge.rw_evenweek_k01_integers_and_names.Holds := by
  w_on; o_law; k_head; (case hw => w_witness2)
  k_fill
  refine EW.law_end (l := PySem.Challenge.rw_evenweek_k01_integers_and_names) (k := 4) (x := "script") rfl rfl ⟨rfl, by decide, by decide⟩ (fun w h Y => PySem.W.kIn_of Y) ?F
  case F =>
    intro w mg fa h KX G hmg
    refine' EW.all_mk KX G hmg ?a0 ?l0 ?c0 ?k0 ?a1 ?l1 ?c1 ?k1 ?a2 ?l2 ?c2 ?k2 ?a3 ?l3 ?c3 ?k3 ?a4 ?l4 ?c4 ?k4 ?a5 ?l5 ?c5 ?k5 ?a6 ?l6 ?c6 ?k6 ?a7 ?l7 ?c7 ?k7 ?a8 ?l8 ?c8 ?k8 ?a9 ?l9 ?c9 ?k9 ?z_isinstance ?z_int ?z_bool ?z_str ?z_len ?z_max ?z_min ?z_all ?z_range ?z_repr ?z_LETTERS ?z_LONGEST_NAME
    (case a0 => k_is)
    (case l0 => k_is)
    (case c0 => k_is)
    (case k0 => k_is)
    (case a1 => k_is)
    (case l1 => k_is)
    (case c1 => k_is)
    (case k1 => k_is)
    (case a2 => k_is)
    (case l2 => k_is)
    (case c2 => k_is)
    (case k2 => k_is)
    (case a3 => k_is)
    (case l3 => k_is)
    (case c3 => k_is)
    (case k3 => k_is)
    (case a4 => k_is)
    (case l4 => k_is)
    (case c4 => k_is)
    (case k4 => k_is)
    (case a5 => k_is)
    (case l5 => k_is)
    (case c5 => k_is)
    (case k5 => k_is)
    (case a6 => k_is)
    (case l6 => k_is)
    (case c6 => k_is)
    (case k6 => k_is)
    (case a7 => k_is)
    (case l7 => k_is)
    (case c7 => k_is)
    (case k7 => k_is)
    (case a8 => k_is)
    (case l8 => k_is)
    (case c8 => k_is)
    (case k8 => k_is)
    (case a9 => k_is)
    (case l9 => k_is)
    (case c9 => k_is)
    (case k9 => k_is)
    (case z_isinstance => k_is)
    (case z_int => k_is)
    (case z_bool => k_is)
    (case z_str => k_is)
    (case z_len => k_is)
    (case z_max => k_is)
    (case z_min => k_is)
    (case z_all => k_is)
    (case z_range => k_is)
    (case z_repr => k_is)
    (case z_LETTERS => k_is)
    (case z_LONGEST_NAME => k_is)
