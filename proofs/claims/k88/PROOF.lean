import PyProof.Rows.All
import Wide.All
import OpenK.AllK
import Wide.FinOn
import HandS.Iter
import HandS.Dict
import HandS.RaiseMore
import HandS.ForMost
import HandS.Wide
import HandS.WideBits
import HandS.IsInst
import HandS.Deep
import HandS.SortInts
import HandS.More
import HandS.Style
import HandS.Conv
import HandS.SetFor
import HandS.Zip
import HandS.Head0
import HandS.Head1
import HandS.Head2
import HandS.HeadEnd
import HandS.HeadHook1
import HandS.HeadHook2
import HandS.HeadHook4
import KE.KStateDown
import PySem.Challenge.RW_lottohouse_k88_whole_sums_of_wheels
set_option Elab.async false
set_option linter.all false
set_option maxRecDepth 100000
set_option maxHeartbeats 0
/-! EV, part A: data, ghost state, what a value of the layer represents, extensions. -/
namespace EV
open PySem PySem.Spec PyProof.Rows L2

/-- data by value; cell k: the k-th mutable object; fn x: the def named x -/
inductive D where
  | non | bl (b : Bool) | int (i : Int) | str (s : Str)
  | lst (xs : List D) | tup (xs : List D) | dct (kvs : List (Key × D))
  | cell (k : Nat) | fn (x : Str)
  /-- a locked list of ints: the script -/
  | scr (ns : List Int)
  deriving Inhabited

inductive Cell where
  | lst (xs : List D) | dct (kvs : List (Key × D))
abbrev Store := List Cell
/-- a slot: unknown, a frozen value, an owned list or dict -/
inductive Sl where
  | no | fr (d : D) | ow (d : D)
abbrev Env := List Sl
structure Res where
  d : D
  nw : Bool
  st : Store

/-- ghost state: frozen addresses, the cells' addresses, how many cells -/
structure G where
  F : Addr → Prop
  ρ : Nat → Addr
  n : Nat

/-- addresses of the defs that are handed about as values; lists of ints of the written part -/
structure FnA where
  fn : Str → Option Addr
  scr : Addr → List Int → Prop

mutual
inductive Rep (fa : FnA) (g : G) (H : Hp) : V → D → Prop
  | non : Rep fa g H .non .non
  | bl (b : Bool) : Rep fa g H (.bl b) (.bl b)
  | int (i : Int) : Rep fa g H (.int i) (.int i)
  | str (s : Str) : Rep fa g H (.str s) (.str s)
  | lst {a : Addr} {vs : List V} {ds : List D} : g.F a → H a = some (.lst vs) → Reps fa g H vs ds → Rep fa g H (.ref a) (.lst ds)
  | tup {a : Addr} {vs : List V} {ds : List D} : g.F a → H a = some (.tup vs) → Reps fa g H vs ds → Rep fa g H (.ref a) (.tup ds)
  | dct {a : Addr} {kvs : List (Key × V)} {ks : List (Key × D)} : g.F a → Rd H a (.dK kvs) → RepK fa g H kvs ks → Rep fa g H (.ref a) (.dct ks)
  | cell {k : Nat} : k < g.n → Rep fa g H (.ref (g.ρ k)) (.cell k)
  | fn {x : Str} {f : Addr} : fa.fn x = some f → Rep fa g H (.ref f) (.fn x)
  | scr {a : Addr} {o : Obj} {ns : List Int} : g.F a → H a = some (.frz o (.lst (ns.map V.int))) → Rep fa g H (.ref a) (.scr ns)
  | scrK {a : Addr} {ns : List Int} : fa.scr a ns → Rep fa g H (.ref a) (.scr ns)
inductive Reps (fa : FnA) (g : G) (H : Hp) : List V → List D → Prop
  | nil : Reps fa g H [] []
  | cons {v : V} {vs : List V} {d : D} {ds : List D} : Rep fa g H v d → Reps fa g H vs ds → Reps fa g H (v :: vs) (d :: ds)
inductive RepK (fa : FnA) (g : G) (H : Hp) : List (Key × V) → List (Key × D) → Prop
  | nil : RepK fa g H [] []
  | cons {k : Key} {v : V} {kvs : List (Key × V)} {d : D} {ks : List (Key × D)} : Rep fa g H v d → RepK fa g H kvs ks → RepK fa g H ((k, v) :: kvs) ((k, d) :: ks)
end

/-- what stands at a tracked address by value -/
def Top (fa : FnA) (g : G) (H : Hp) (a : Addr) : D → Prop
  | .lst ds => ∃ vs, H a = some (.lst vs) ∧ Reps fa g H vs ds
  | .dct ks => ∃ kvs, H a = some (.dK kvs) ∧ RepK fa g H kvs ks
  | _ => False
def Cell.d : Cell → D
  | .lst xs => .lst xs
  | .dct kvs => .dct kvs

structure Own (fa : FnA) (g : G) (H : Hp) (a : Addr) (d : D) : Prop where
  nF : ¬ g.F a
  nC : ∀ k, k < g.n → g.ρ k ≠ a
  top : Top fa g H a d

def Plain : HO → Prop
  | .lst _ | .tup _ => True
  | _ => False

structure Ext (g : G) (H : Hp) (g' : G) (H' : Hp) : Prop where
  mono : ∀ a, g.F a → g'.F a
  new : ∀ a, g'.F a → g.F a ∨ H a = none
  keep : ∀ a u, g.F a → Plain u → H a = some u → H' a = some u
  keepD : ∀ a kvs, g.F a → Rd H a (.dK kvs) → Rd H' a (.dK kvs)
  own : ∀ a o, ¬ g.F a → (∀ k, k < g.n → g.ρ k ≠ a) → H a = some o → H' a = some o
  cell : ∀ k, k < g.n → g'.ρ k = g.ρ k
  le : g.n ≤ g'.n
  fresh : ∀ k, g.n ≤ k → k < g'.n → H (g'.ρ k) = none
  there : ∀ a, H a ≠ none → H' a ≠ none
  lk : ∀ a o u, H a = some (.frz o u) → H' a = some (.frz o u)

structure Wok (fa : FnA) (g : G) (st : Store) (H : Hp) : Prop where
  n_eq : g.n = st.length
  ft : ∀ a, g.F a → H a ≠ none
  cells : ∀ k c, st[k]? = some c → ¬ g.F (g.ρ k) ∧ Top fa g H (g.ρ k) c.d
  inj : ∀ j k, j < g.n → k < g.n → g.ρ j = g.ρ k → j = k

section
variable {fa : FnA} {g g' g'' : G} {H H' H'' : Hp} {st st' : Store} {a : Addr} {v : V} {d : D}

theorem Ext.refl (g : G) (H : Hp) : Ext g H g H :=
  ⟨fun _ h => h, fun _ h => .inl h, fun _ _ _ _ h => h, fun _ _ _ h => h, fun _ _ _ _ h => h, fun _ _ => rfl, Nat.le_refl _, fun k h1 h2 => absurd h2 (Nat.not_lt.mpr h1), fun _ h => h, fun _ _ _ h => h⟩

theorem Ext.trans (x : Ext g H g' H') (y : Ext g' H' g'' H'') : Ext g H g'' H'' where
  mono := fun a h => y.mono a (x.mono a h)
  new := fun a h => by
    rcases y.new a h with h | h
    · exact x.new a h
    · refine .inr ?_
      cases e : H a with
      | none => rfl
      | some o => exact absurd h (x.there a (by rw [e]; exact fun z => nomatch z))
  keep := fun a u h p r => y.keep a u (x.mono a h) p (x.keep a u h p r)
  keepD := fun a u h r => y.keepD a u (x.mono a h) (x.keepD a u h r)
  own := fun a o h c e => by
    refine y.own a o (fun z => ?_) (fun k hk z => ?_) (x.own a o h c e)
    · rcases x.new a z with z | z
      · exact h z
      · rw [z] at e; cases e
    · by_cases hk' : k < g.n
      · rw [x.cell k hk'] at z; exact c k hk' z
      · have := x.fresh k (Nat.not_lt.mp hk') hk
        rw [z, e] at this; cases this
  cell := fun k h => (y.cell k (Nat.lt_of_lt_of_le h x.le)).trans (x.cell k h)
  le := Nat.le_trans x.le y.le
  fresh := fun k h1 h2 => by
    by_cases hk : k < g'.n
    · rw [y.cell k hk]; exact x.fresh k h1 hk
    · have z := y.fresh k (Nat.not_lt.mp hk) h2
      cases e : H (g''.ρ k) with
      | none => rfl
      | some o => exact absurd z (x.there _ (by rw [e]; exact fun z => nomatch z))
  there := fun a h => y.there a (x.there a h)
  lk := fun a o u h => y.lk a o u (x.lk a o u h)

/-- what Rep leans on -/
structure Kp (g : G) (H : Hp) (g' : G) (H' : Hp) : Prop where
  mono : ∀ a, g.F a → g'.F a
  keep : ∀ a u, g.F a → Plain u → H a = some u → H' a = some u
  keepD : ∀ a kvs, g.F a → Rd H a (.dK kvs) → Rd H' a (.dK kvs)
  cell : ∀ k, k < g.n → g'.ρ k = g.ρ k
  le : g.n ≤ g'.n
  lk : ∀ a o u, H a = some (.frz o u) → H' a = some (.frz o u)
theorem Ext.kp (x : Ext g H g' H') : Kp g H g' H' := ⟨x.mono, x.keep, x.keepD, x.cell, x.le, x.lk⟩
theorem Kp.trans (x : Kp g H g' H') (y : Kp g' H' g'' H'') : Kp g H g'' H'' :=
  ⟨fun a h => y.mono a (x.mono a h), fun a u h p r => y.keep a u (x.mono a h) p (x.keep a u h p r), fun a u h r => y.keepD a u (x.mono a h) (x.keepD a u h r), fun k h => (y.cell k (Nat.lt_of_lt_of_le h x.le)).trans (x.cell k h), Nat.le_trans x.le y.le, fun a o u h => y.lk a o u (x.lk a o u h)⟩
theorem Kp.refl (g : G) (H : Hp) : Kp g H g H := ⟨fun _ h => h, fun _ _ _ _ h => h, fun _ _ _ h => h, fun _ _ => rfl, Nat.le_refl _, fun _ _ _ h => h⟩
/-- what Rep leans on, at least -/
structure Kw (g : G) (H : Hp) (g' : G) (H' : Hp) : Prop where
  mono : ∀ a, g.F a → g'.F a
  keep : ∀ a u, g.F a → Plain u → H a = some u → H' a = some u
  keepD : ∀ a kvs, g.F a → Rd H a (.dK kvs) → Rd H' a (.dK kvs)
  cell : ∀ k, k < g.n → g'.ρ k = g.ρ k
  le : g.n ≤ g'.n
  lk : ∀ a o xs, H a = some (.frz o (.lst xs)) → H' a = some (.frz o (.lst xs))
theorem Kp.kw (x : Kp g H g' H') : Kw g H g' H' := ⟨x.mono, x.keep, x.keepD, x.cell, x.le, fun a o xs => x.lk a o _⟩
mutual
theorem Rep.kw (x : Kw g H g' H') : ∀ (d : D) (v : V), Rep fa g H v d → Rep fa g' H' v d
  | .non, _, h => by cases h; exact .non
  | .bl _, _, h => by cases h; exact .bl _
  | .int _, _, h => by cases h; exact .int _
  | .str _, _, h => by cases h; exact .str _
  | .lst ds, _, h => by cases h with | lst f r hs => exact .lst (x.mono _ f) (x.keep _ _ f True.intro r) (Reps.kw x ds _ hs)
  | .tup ds, _, h => by cases h with | tup f r hs => exact .tup (x.mono _ f) (x.keep _ _ f True.intro r) (Reps.kw x ds _ hs)
  | .dct ks, _, h => by cases h with | dct f r hs => exact .dct (x.mono _ f) (x.keepD _ _ f r) (RepK.kw x ks _ hs)
  | .cell k, _, h => by cases h with | cell hk => rw [← x.cell k hk]; exact .cell (Nat.lt_of_lt_of_le hk x.le)
  | .fn _, _, h => by cases h with | fn e => exact .fn e
  | .scr _, _, h => by
    cases h with
    | scr f r => exact .scr (x.mono _ f) (x.lk _ _ _ r)
    | scrK e => exact .scrK e
theorem Reps.kw (x : Kw g H g' H') : ∀ (ds : List D) (vs : List V), Reps fa g H vs ds → Reps fa g' H' vs ds
  | [], _, h => by cases h; exact .nil
  | d :: ds, _, h => by cases h with | cons h1 h2 => exact .cons (Rep.kw x d _ h1) (Reps.kw x ds _ h2)
theorem RepK.kw (x : Kw g H g' H') : ∀ (ks : List (Key × D)) (kvs : List (Key × V)), RepK fa g H kvs ks → RepK fa g' H' kvs ks
  | [], _, h => by cases h; exact .nil
  | (k, d) :: ks, _, h => by cases h with | cons h1 h2 => exact .cons (Rep.kw x d _ h1) (RepK.kw x ks _ h2)
end
theorem Rep.kp (x : Kp g H g' H') (h : Rep fa g H v d) : Rep fa g' H' v d := Rep.kw x.kw d v h
theorem Reps.kp {vs : List V} {ds : List D} (x : Kp g H g' H') (h : Reps fa g H vs ds) : Reps fa g' H' vs ds := Reps.kw x.kw ds vs h
theorem RepK.kp {kvs : List (Key × V)} {ks : List (Key × D)} (x : Kp g H g' H') (h : RepK fa g H kvs ks) : RepK fa g' H' kvs ks := RepK.kw x.kw ks kvs h
theorem Rep.mono (x : Ext g H g' H') (h : Rep fa g H v d) : Rep fa g' H' v d := h.kp x.kp
theorem Reps.mono {vs : List V} {ds : List D} (x : Ext g H g' H') (h : Reps fa g H vs ds) : Reps fa g' H' vs ds := h.kp x.kp
theorem RepK.mono {kvs : List (Key × V)} {ks : List (Key × D)} (x : Ext g H g' H') (h : RepK fa g H kvs ks) : RepK fa g' H' kvs ks := h.kp x.kp

theorem Top.mono (x : Ext g H g' H') (e : ∀ o, H a = some o → H' a = some o) (h : Top fa g H a d) : Top fa g' H' a d := by
  cases d with
  | lst ds => obtain ⟨vs, h1, h2⟩ := h; exact ⟨vs, e _ h1, h2.mono x⟩
  | dct ks => obtain ⟨kvs, h1, h2⟩ := h; exact ⟨kvs, e _ h1, h2.mono x⟩
  | _ => exact h
theorem Top.some (h : Top fa g H a d) : ∃ o, H a = some o := by
  cases d with
  | lst ds => obtain ⟨vs, h1, h2⟩ := h; exact ⟨_, h1⟩
  | dct ks => obtain ⟨kvs, h1, h2⟩ := h; exact ⟨_, h1⟩
  | _ => exact h.elim
theorem Own.mono (x : Ext g H g' H') (h : Own fa g H a d) : Own fa g' H' a d := by
  obtain ⟨o, ho⟩ := h.top.some
  refine ⟨fun z => ?_, fun k hk z => ?_, h.top.mono x fun o e => x.own a o h.nF h.nC e⟩
  · rcases x.new a z with z | z
    · exact h.nF z
    · rw [z] at ho; cases ho
  · by_cases hk' : k < g.n
    · rw [x.cell k hk'] at z; exact h.nC k hk' z
    · have := x.fresh k (Nat.not_lt.mp hk') hk
      rw [z, ho] at this; cases this

theorem Reps.length : ∀ {vs : List V} {ds : List D}, Reps fa g H vs ds → vs.length = ds.length
  | [], [], _ => rfl
  | _ :: vs, _ :: ds, h => by cases h with | cons h1 h2 => simp [Reps.length h2]
theorem Reps.get : ∀ {vs : List V} {ds : List D} {i : Nat} {d : D}, Reps fa g H vs ds → ds[i]? = some d → ∃ v, vs[i]? = some v ∧ Rep fa g H v d
  | _, [], _, _, _, e => by simp at e
  | [], _ :: _, _, _, h, _ => by cases h
  | _ :: vs, _ :: ds, 0, d, h, e => by cases h with | cons h1 h2 => simp at e; subst e; exact ⟨_, rfl, h1⟩
  | _ :: vs, _ :: ds, i + 1, d, h, e => by cases h with | cons h1 h2 => simpa using Reps.get h2 (by simpa using e)
theorem Reps.getV : ∀ {vs : List V} {ds : List D} {i : Nat} {v : V}, Reps fa g H vs ds → vs[i]? = some v → ∃ d, ds[i]? = some d ∧ Rep fa g H v d
  | [], _, _, _, _, e => by simp at e
  | _ :: _, [], _, _, h, _ => by cases h
  | _ :: vs, _ :: ds, 0, d, h, e => by cases h with | cons h1 h2 => simp at e; subst e; exact ⟨_, rfl, h1⟩
  | _ :: vs, _ :: ds, i + 1, d, h, e => by cases h with | cons h1 h2 => simpa using Reps.getV h2 (by simpa using e)
theorem Reps.append : ∀ {vs ws : List V} {ds es : List D}, Reps fa g H vs ds → Reps fa g H ws es → Reps fa g H (vs ++ ws) (ds ++ es)
  | [], _, [], _, _, k => k
  | _ :: _, _, [], _, h, _ => by cases h
  | [], _, _ :: _, _, h, _ => by cases h
  | _ :: vs, _, _ :: ds, _, h, k => by cases h with | cons h1 h2 => exact .cons h1 (h2.append k)
theorem Reps.set : ∀ {vs : List V} {ds : List D} {v : V} {d : D} (i : Nat), Reps fa g H vs ds → Rep fa g H v d → Reps fa g H (vs.set i v) (ds.set i d)
  | [], [], _, _, _, _, _ => .nil
  | _ :: vs, _ :: ds, _, _, 0, h, k => by cases h with | cons h1 h2 => exact .cons k h2
  | _ :: vs, _ :: ds, _, _, i + 1, h, k => by cases h with | cons h1 h2 => exact .cons h1 (h2.set i k)
theorem Reps.take : ∀ {vs : List V} {ds : List D} (i : Nat), Reps fa g H vs ds → Reps fa g H (vs.take i) (ds.take i)
  | _, _, 0, _ => .nil
  | [], [], _ + 1, _ => .nil
  | _ :: vs, _ :: ds, i + 1, h => by cases h with | cons h1 h2 => exact .cons h1 (h2.take i)
theorem Reps.drop : ∀ {vs : List V} {ds : List D} (i : Nat), Reps fa g H vs ds → Reps fa g H (vs.drop i) (ds.drop i)
  | _, _, 0, h => h
  | [], [], _ + 1, _ => .nil
  | _ :: vs, _ :: ds, i + 1, h => by cases h with | cons h1 h2 => exact h2.drop i
theorem Reps.reverse : ∀ {vs : List V} {ds : List D}, Reps fa g H vs ds → Reps fa g H vs.reverse ds.reverse
  | [], [], _ => .nil
  | _ :: vs, _ :: ds, h => by
    cases h with
    | cons h1 h2 =>
      rw [List.reverse_cons, List.reverse_cons]
      exact (Reps.reverse h2).append (.cons h1 .nil)
theorem Reps.eraseIdx : ∀ {vs : List V} {ds : List D} (i : Nat), Reps fa g H vs ds → Reps fa g H (vs.eraseIdx i) (ds.eraseIdx i)
  | [], [], _, _ => .nil
  | _ :: vs, _ :: ds, 0, h => by cases h with | cons h1 h2 => exact h2
  | _ :: vs, _ :: ds, i + 1, h => by cases h with | cons h1 h2 => exact .cons h1 (h2.eraseIdx i)
theorem Reps.ints : ∀ {vs : List V} {ns : List Int}, Reps fa g H vs (ns.map D.int) → vs = ns.map V.int
  | _, [], h => by cases h; rfl
  | _, n :: ns, h => by
    cases h with
    | cons h1 h2 => cases h1; simp [Reps.ints h2]
theorem Reps.bls : ∀ {vs : List V} {ns : List Bool}, Reps fa g H vs (ns.map D.bl) → vs = ns.map V.bl
  | _, [], h => by cases h; rfl
  | _, n :: ns, h => by
    cases h with
    | cons h1 h2 => cases h1; simp [Reps.bls h2]
theorem Reps.strs : ∀ {vs : List V} {ns : List Str}, Reps fa g H vs (ns.map D.str) → vs = ns.map V.str
  | _, [], h => by cases h; rfl
  | _, n :: ns, h => by
    cases h with
    | cons h1 h2 => cases h1; simp [Reps.strs h2]
theorem Reps.of_ints : ∀ {ns : List Int}, Reps fa g H (ns.map V.int) (ns.map D.int)
  | [] => .nil
  | n :: ns => .cons (.int _) Reps.of_ints

/-! ### results -/
def ResOk (fa : FnA) (g : G) (H : Hp) (g' : G) (H' : Hp) (v : V) (r : Res) : Prop :=
  Ext g H g' H' ∧ Wok fa g' r.st H' ∧ (if r.nw = true then ∃ a, v = .ref a ∧ H a = none ∧ Own fa g' H' a r.d else Rep fa g' H' v r.d)
/-- a value that is looked at -/
def View (fa : FnA) (g : G) (H : Hp) (v : V) (d : D) : Prop := Rep fa g H v d ∨ ∃ a, v = .ref a ∧ Own fa g H a d
theorem View.mono (x : Ext g H g' H') (h : View fa g H v d) : View fa g' H' v d := by
  rcases h with h | ⟨a, e, h⟩
  · exact .inl (h.mono x)
  · exact .inr ⟨a, e, h.mono x⟩
theorem ResOk.ext {r : Res} (h : ResOk fa g H g' H' v r) : Ext g H g' H' := h.1
theorem ResOk.wok {r : Res} (h : ResOk fa g H g' H' v r) : Wok fa g' r.st H' := h.2.1
theorem ResOk.view {r : Res} (h : ResOk fa g H g' H' v r) : View fa g' H' v r.d := by
  obtain ⟨_, _, h⟩ := h
  split at h
  · obtain ⟨a, e, _, o⟩ := h; exact .inr ⟨a, e, o⟩
  · exact .inl h
theorem ResOk.trans {r : Res} (x : Ext g H g' H') (h : ResOk fa g' H' g'' H'' v r) : ResOk fa g H g'' H'' v r := by
  obtain ⟨e, w, h⟩ := h
  refine ⟨x.trans e, w, ?_⟩
  split at h
  · rename_i hn
    rw [if_pos hn]
    obtain ⟨a, e, n, o⟩ := h
    refine ⟨a, e, ?_, o⟩
    cases q : H a with
    | none => rfl
    | some o => exact absurd n (x.there _ (by rw [q]; exact fun z => nomatch z))
  · rename_i hn
    rw [if_neg hn]; exact h

/-- put an address among the frozen ones -/
def G.frz (g : G) (p : Addr) : G := { g with F := fun a => g.F a ∨ a = p }
/-- an own object is frozen: for a stay from g0, H0 where it was not -/
theorem ext_frz (g : G) {p : Addr} {H0 : Hp} {g0 : G} (x : Ext g0 H0 g H) (hp : H0 p = none) : Ext g0 H0 (g.frz p) H :=
  ⟨fun a h => .inl (x.mono a h), fun a h => by rcases h with h | rfl; exact x.new a h; exact .inr hp, x.keep, x.keepD, x.own, x.cell, x.le, x.fresh, x.there, x.lk⟩
theorem kp_frz {p : Addr} : Kp g H (g.frz p) H := ⟨fun _ h => .inl h, fun _ _ _ _ h => h, fun _ _ _ h => h, fun _ _ => rfl, Nat.le_refl _, fun _ _ _ h => h⟩
theorem Rep.frz {p : Addr} (h : Rep fa g H v d) : Rep fa (g.frz p) H v d := h.kp kp_frz
theorem Reps.frz {p : Addr} {vs : List V} {ds : List D} (h : Reps fa g H vs ds) : Reps fa (g.frz p) H vs ds := h.kp kp_frz
theorem RepK.frz {p : Addr} {kvs : List (Key × V)} {ks : List (Key × D)} (h : RepK fa g H kvs ks) : RepK fa (g.frz p) H kvs ks := h.kp kp_frz
theorem Top.frz {p : Addr} (h : Top fa g H a d) : Top fa (g.frz p) H a d := by
  cases d with
  | lst ds => obtain ⟨vs, h1, h2⟩ := h; exact ⟨vs, h1, h2.frz⟩
  | dct ks => obtain ⟨kvs, h1, h2⟩ := h; exact ⟨kvs, h1, h2.frz⟩
  | _ => exact h
/-- an own object, frozen, is a value -/
theorem Own.frz (h : Own fa g H a d) : Rep fa (g.frz a) H (.ref a) d := by
  have t := h.top
  cases d with
  | lst ds => obtain ⟨vs, h1, h2⟩ := t; exact .lst (.inr rfl) h1 h2.frz
  | dct ks => obtain ⟨kvs, h1, h2⟩ := t; exact .dct (.inr rfl) (.inl h1) h2.frz
  | _ => exact t.elim
theorem Wok.frz {p : Addr} (w : Wok fa g st H) (hp : H p ≠ none) (hc : ∀ k, k < g.n → g.ρ k ≠ p) : Wok fa (g.frz p) st H where
  n_eq := w.n_eq
  ft := fun a h => by
    rcases h with h | rfl
    · exact w.ft a h
    · exact hp
  cells := fun k c e => by
    obtain ⟨h1, h2⟩ := w.cells k c e
    have hk : k < g.n := by rw [w.n_eq]; exact (List.getElem?_eq_some_iff.mp e).1
    exact ⟨fun z => z.elim h1 (hc k hk), h2.frz⟩
  inj := w.inj
/-- any result as a frozen value -/
theorem ResOk.froze {r : Res} (h : ResOk fa g H g' H' v r) : ∃ g2, Ext g H g2 H' ∧ Wok fa g2 r.st H' ∧ Rep fa g2 H' v r.d ∧ Kp g' H' g2 H' := by
  obtain ⟨x, w, h⟩ := h
  split at h
  · obtain ⟨a, rfl, hn, o⟩ := h
    obtain ⟨ob, ho⟩ := o.top.some
    exact ⟨g'.frz a, ext_frz g' x hn, w.frz (by rw [ho]; exact fun z => nomatch z) o.nC, o.frz, kp_frz⟩
  · exact ⟨g', x, w, h, .refl _ _⟩

/-! ### new objects -/
theorem ext_new (w : Wok fa g st H) {p : Addr} {o : HO} (hp : H p = none) : Ext g H g (upd H p o) where
  mono := fun _ h => h
  new := fun _ h => .inl h
  keep := fun a u h _ r => by rw [upd_ne (ne_of_none r hp)]; exact r
  keepD := fun a u h r => by
    have ne : a ≠ p := fun e => w.ft a h (by rw [e]; exact hp)
    rcases r with r | ⟨ob, r⟩
    · exact .inl (by rw [upd_ne ne]; exact r)
    · exact .inr ⟨ob, by rw [upd_ne ne]; exact r⟩
  own := fun a ob _ _ e => by rw [upd_ne (ne_of_none e hp)]; exact e
  cell := fun _ _ => rfl
  le := Nat.le_refl _
  fresh := fun k h1 h2 => absurd h2 (Nat.not_lt.mpr h1)
  there := fun a h => by
    by_cases e : a = p
    · rw [e, upd_same]; exact fun z => nomatch z
    · rw [upd_ne e]; exact h
  lk := fun a o u h => by rw [upd_ne (ne_of_none h hp)]; exact h
theorem Wok.cell_some (w : Wok fa g st H) {k : Nat} (hk : k < g.n) : ∃ o, H (g.ρ k) = some o := by
  rw [w.n_eq] at hk
  exact (w.cells k _ (List.getElem?_eq_getElem hk)).2.some
theorem Wok.ext (w : Wok fa g st H) (x : Ext g H g H') (hc : ∀ k o, k < g.n → H (g.ρ k) = some o → H' (g.ρ k) = some o) : Wok fa g st H' where
  n_eq := w.n_eq
  ft := fun a h => x.there a (w.ft a h)
  cells := fun k c e => by
    obtain ⟨h1, h2⟩ := w.cells k c e
    have hk : k < g.n := by rw [w.n_eq]; exact (List.getElem?_eq_some_iff.mp e).1
    exact ⟨h1, h2.mono x fun o => hc k o hk⟩
  inj := w.inj
theorem wok_new (w : Wok fa g st H) {p : Addr} {o : HO} (hp : H p = none) : Wok fa g st (upd H p o) :=
  w.ext (ext_new w hp) fun k o _ e => by rw [upd_ne (ne_of_none e hp)]; exact e
theorem Wok.nc (w : Wok fa g st H) {p : Addr} (hp : H p = none) : ∀ k, k < g.n → g.ρ k ≠ p := fun k hk e => by
  obtain ⟨o, ho⟩ := w.cell_some hk
  rw [e, hp] at ho; cases ho
theorem Wok.nf (w : Wok fa g st H) {p : Addr} (hp : H p = none) : ¬ g.F p := fun h => w.ft p h hp
theorem res_lst (w : Wok fa g st H) {p : Addr} {vs : List V} {ds : List D} (hp : H p = none) (h : Reps fa g H vs ds) : ResOk fa g H g (upd H p (.lst vs)) (.ref p) ⟨.lst ds, true, st⟩ :=
  ⟨ext_new w hp, wok_new w hp, by rw [if_pos rfl]; exact ⟨p, rfl, hp, w.nf hp, w.nc hp, vs, upd_same, h.mono (ext_new w hp)⟩⟩
theorem res_dct (w : Wok fa g st H) {p : Addr} {kvs : List (Key × V)} {ks : List (Key × D)} (hp : H p = none) (h : RepK fa g H kvs ks) : ResOk fa g H g (upd H p (.dK kvs)) (.ref p) ⟨.dct ks, true, st⟩ :=
  ⟨ext_new w hp, wok_new w hp, by rw [if_pos rfl]; exact ⟨p, rfl, hp, w.nf hp, w.nc hp, kvs, upd_same, h.mono (ext_new w hp)⟩⟩
theorem res_tup (w : Wok fa g st H) {p : Addr} {vs : List V} {ds : List D} (hp : H p = none) (h : Reps fa g H vs ds) : ResOk fa g H (g.frz p) (upd H p (.tup vs)) (.ref p) ⟨.tup ds, false, st⟩ :=
  ⟨ext_frz g (ext_new w hp) hp, (wok_new w hp).frz (by rw [upd_same]; exact fun z => nomatch z) (w.nc hp), by
    rw [if_neg (by simp)]; exact .tup (.inr rfl) upd_same (h.mono (ext_new w hp)).frz⟩
theorem res_old (w : Wok fa g st H) (h : Rep fa g H v d) : ResOk fa g H g H v ⟨d, false, st⟩ :=
  ⟨.refl g H, w, by rw [if_neg (by simp)]; exact h⟩
end
end EV

/-! EV, part B: terms and what they come to. -/
namespace EV
open PySem PySem.Spec PyProof.Rows L2

inductive BOp where | add | sub | mul | fdiv | mod | pow
  deriving DecidableEq
inductive COp where | lt | le | gt | ge | eq | ne | isO | isn | inn | nin
  deriving DecidableEq
/-- built-in functions, all arguments looked at -/
inductive Bi where | len | abs | max | min | int | sum | sorted | list | tuple | all | any | str | repr | dict
  deriving DecidableEq
/-- methods that change nothing -/
inductive Mt where | bits | count | get | index | items | values
  deriving DecidableEq
inductive Tg where | one (i : Nat) | tup (is : List Nat)

mutual
inductive E where
  | non | bl (b : Bool) | int (i : Int) | str (s : Str)
  | var (i : Nat) | glo (x : Str)
  | bin (o : BOp) (a b : E) | neg (a : E)
  | cmp (o : COp) (a b : E) | chn (o p : COp) (a b c : E)
  | and (a b : E) | or (a b : E) | not (a : E)
  | ife (c a b : E)
  | tup (es : Es) | lst (es : Es) | cel (es : Es) | mk (e : E)
  | call (x : Str) (es : Es) | callK (x : Str) (ks : Es) (ns : List Str) (pm : List Nat)
  | bi (b : Bi) (es : Es) | isi (a : E) (tys : List String) | mth (m : Mt) (a : E) (es : Es)
  | sub (a i : E) | slc (a : E) (lo hi : Eo) | rev (a : E)
  | lrg (a : Eo) (b : E)
  | lc (elt : E) (own : List Nat) (t : Tg) (it : It) (c : Eo)
  | lc2 (elt : E) (own : List Nat) (t : Tg) (it : It) (c : Eo) (u : Tg) (jt : It) (d : Eo)
  | dic (ps : Ps)
inductive Es where
  | nil | cons (e : E) (r : Es)
inductive Ps where
  | nil | cons (k v : E) (r : Ps)
inductive Eo where
  | no | so (e : E)
inductive It where
  | ovr (e : E) | rg1 (a : E) | rg2 (a b : E) | rg3 (a b c : E) | enu (e : E) | zip (a b : E) | key (i : Nat)
end

mutual
inductive S where
  | asg (i : Nat) (e : E) | asgT (is : List Nat) (es : Es) | unp (is : List Nat) (e : E)
  | setI (k : Nat) (i e : E) | augI (k : Nat) (i e : E)
  | app (k : Nat) (e : E) | appPop (k j : Nat) (e : E) | exp (e : E)
  | ret (e : E) | retN | iff (c : E) (a b : Ss) | whl (c : E) (b : Ss)
  | for (t : Tg) (it : It) (b : Ss) | brk | cnt | pas | rai
inductive Ss where
  | nil | cons (s : S) (r : Ss) | frz (i : Nat) (r : Ss)
end

/-! ### on data -/
abbrev LIM : Nat := 16777216
def mapO {α : Type} (f : D → Option α) : List D → Option (List α)
  | [] => some []
  | d :: ds => match f d, mapO f ds with
    | some p, some ps => some (p :: ps)
    | _, _ => none
/-- as data; cells as they stand, so deep -/
def D.py (st : Store) : Nat → D → Option PyData
  | 0, _ => none
  | n + 1, d => match d with
    | .non => some .none
    | .bl b => some (.bool b)
    | .int i => some (.int i)
    | .str s => some (.str s)
    | .lst xs => (mapO (D.py st n) xs).map .list
    | .tup xs => (mapO (D.py st n) xs).map .tuple
    | .cell k => match st[k]? with
      | some (.lst xs) => (mapO (D.py st n) xs).map .list
      | _ => none
    | _ => none
/-- data that == may be asked of -/
def D.shp (st : Store) (d : D) : Option PyData := match d.py st 30 with
  | some p => if SeqAt.shaped p = true then some p else none
  | none => none
def eqD (st : Store) (a b : D) : Option Bool := match a.shp st, b.shp st with
  | some p, some q => some (PyData.eqv p q)
  | _, _ => none

/-- the items of a list -/
def lsD (st : Store) : D → Option (List D)
  | .lst xs => some xs
  | .cell k => match st[k]? with
    | some (.lst xs) => some xs
    | _ => none
  | _ => none
/-- the items of a list, also of the script -/
def rdD (st : Store) : D → Option (List D)
  | .scr ns => some (ns.map D.int)
  | d => lsD st d
/-- the items of a list or tuple -/
def sqD (st : Store) : D → Option (List D)
  | .tup xs => some xs
  | d => rdD st d
def dcD (st : Store) : D → Option (List (Key × D))
  | .dct xs => some xs
  | .cell k => match st[k]? with
    | some (.dct xs) => some xs
    | _ => none
  | _ => none
def intsD : List D → Option (List Int)
  | [] => some []
  | .int i :: r => (intsD r).map (i :: ·)
  | _ => none
def blsD : List D → Option (List Bool)
  | [] => some []
  | .bl i :: r => (blsD r).map (i :: ·)
  | _ => none
def listsD (st : Store) : List D → Option (List (List D))
  | [] => some []
  | d :: r => match lsD st d, listsD st r with
    | some x, some xs => some (x :: xs)
    | _, _ => none
def keyD : D → Option Key
  | .int i => some (.inl i)
  | .str s => some (.inr s)
  | _ => none
def dK : Key → D
  | .inl i => .int i
  | .inr s => .str s
def ixD (n : Nat) (i : Int) : Option Nat := ixN n i
def getK (ks : List (Key × D)) (k : Key) : Option D := (ks.find? fun kv => decide (kv.1 = k)).map (·.2)
def putD (ks : List (Key × D)) (k : Key) (v : D) : List (Key × D) := if (ks.any fun kv => decide (kv.1 = k)) = true then ks.map fun kv => if kv.1 = k then (kv.1, v) else kv else ks ++ [(k, v)]
/-- a slice's items -/
def cutD (xs : List D) (lo hi : Option Int) : List D := (xs.drop (HT.sIx xs.length 0 lo)).take (HT.sIx xs.length xs.length hi - HT.sIx xs.length 0 lo)

def insI (n : Int) : List Int → List Int
  | [] => [n]
  | m :: r => if n ≤ m then n :: m :: r else m :: insI n r
/-- sorted, of ints -/
def sortI : List Int → List Int
  | [] => []
  | n :: r => insI n (sortI r)
def maxI : Int → List Int → Int
  | m, [] => m
  | m, n :: r => maxI (if n > m then n else m) r
def minI : Int → List Int → Int
  | m, [] => m
  | m, n :: r => minI (if n < m then n else m) r

def binD (o : BOp) (st : Store) (a b : D) : Option (D × Bool) := match o with
  | .add => match a, b with
    | .int i, .int j => some (.int (i + j), false)
    | .str x, .str y => if x.length + y.length ≤ LIM then some (.str (x ++ y), false) else none
    | a, b => match lsD st a, lsD st b with
      | some xs, some ys => if xs.length + ys.length ≤ LIM then some (.lst (xs ++ ys), true) else none
      | _, _ => none
  | .sub => match a, b with
    | .int i, .int j => some (.int (i - j), false)
    | _, _ => none
  | .mul => match a, b with
    | .int i, .int j => if i.natAbs.log2 + j.natAbs.log2 < 1000000 then some (.int (i * j), false) else none
    | a, .int k => match lsD st a with
      | some xs => if xs.length * k.toNat ≤ LIM ∧ -(2 ^ 63) ≤ k ∧ k < 2 ^ 63 then some (.lst (List.flatten (List.replicate k.toNat xs)), true) else none
      | none => none
    | _, _ => none
  | .fdiv => match a, b with
    | .int i, .int j => if 0 < j ∧ j.natAbs.log2 < 9000 then some (.int (i / j), false) else none
    | _, _ => none
  | .mod => match a, b with
    | .int i, .int j => if 0 < j then some (.int (i % j), false) else none
    | _, _ => none
  | .pow => match a, b with
    | .int i, .int j => if 0 ≤ j ∧ (Builtin.Int.intBits i : Int) * j ≤ 2 ^ 27 then some (.int (i ^ j.toNat), false) else none
    | _, _ => none

def isD (a b : D) : Option Bool := match b with
  | .non => some (match a with
    | .non => true
    | _ => false)
  | .bl y => some (match a with
    | .bl x => x == y
    | _ => false)
  | _ => none
def inD (st : Store) (a b : D) : Option Bool := match dcD st b, keyD a with
  | some ks, some k => some (getK ks k).isSome
  | _, _ => match lsD st b with
    | some ys => match a.shp st, (D.lst ys).shp st with
      | some p, some (.list qs) => some (qs.any fun z => PyData.eqv z p)
      | _, _ => none
    | none => none
def cmpD (o : COp) (st : Store) (a b : D) : Option Bool := match o with
  | .lt => match a, b with
    | .int i, .int j => some (decide (i < j))
    | .str i, .str j => some (decide (i.cps.toList < j.cps.toList))
    | _, _ => none
  | .le => match a, b with
    | .int i, .int j => some (decide (i ≤ j))
    | _, _ => none
  | .gt => match a, b with
    | .int i, .int j => some (decide (j < i))
    | _, _ => none
  | .ge => match a, b with
    | .int i, .int j => some (decide (j ≤ i))
    | _, _ => none
  | .eq => eqD st a b
  | .ne => (eqD st a b).map (!·)
  | .isO => isD a b
  | .isn => (isD a b).map (!·)
  | .inn => inD st a b
  | .nin => (inD st a b).map (!·)

/-- the built-in type's name -/
def tyD (st : Store) : D → Option String
  | .non => some "NoneType"
  | .bl _ => some "bool"
  | .int _ => some "int"
  | .str _ => some "str"
  | .lst _ => some "list"
  | .tup _ => some "tuple"
  | .dct _ => some "dict"
  | .cell k => match st[k]? with
    | some (.lst _) => some "list"
    | some (.dct _) => some "dict"
    | none => none
  | .fn _ => none
  | .scr _ => none
/-- isinstance(d, name) -/
def isiD (st : Store) (d : D) (n : String) : Option Bool := match tyD st d with
  | some t => if t ∈ ["NoneType", "bool", "int", "str", "list", "tuple", "dict"] ∧ n ∈ ["bool", "int", "str", "list", "tuple", "dict"] then some (t == n || (t == "bool" && n == "int")) else none
  | none => none
def isiDs (st : Store) (d : D) : List String → Option Bool
  | [] => some false
  | n :: r => match isiD st d n, isiDs st d r with
    | some b, some c => some (b || c)
    | _, _ => none

def mkD : List Key → List D → List (Key × D) → List (Key × D)
  | k :: ks, d :: ds, acc => mkD ks ds (putD acc k d)
  | _, _, acc => acc
def keysD : List D → Option (List Key)
  | [] => some []
  | d :: r => match keyD d, keysD r with
    | some k, some ks => some (k :: ks)
    | _, _ => none
/-- pairs apart -/
def pairsD : List D → Option (List D × List D)
  | [] => some ([], [])
  | .tup [k, v] :: r => (pairsD r).map fun p => (k :: p.1, v :: p.2)
  | _ => none

def biD (b : Bi) (st : Store) (ds : List D) : Option (D × Bool) := match b, ds with
  | .len, [d] => match d with
    | .str s => if s.length ≤ LIM then some (.int s.length, false) else none
    | d => match sqD st d with
      | some xs => some (.int xs.length, false)
      | none => match dcD st d with
        | some ks => some (.int ks.length, false)
        | none => none
  | .abs, [.int i] => some (.int (if i < 0 then -i else i), false)
  | .max, [.int i, .int j] => some (.int (if j > i then j else i), false)
  | .min, [.int i, .int j] => some (.int (if j < i then j else i), false)
  | .max, [d] => match (lsD st d).bind intsD with
    | some (n :: r) => some (.int (maxI n r), false)
    | _ => none
  | .min, [d] => match (lsD st d).bind intsD with
    | some (n :: r) => some (.int (minI n r), false)
    | _ => none
  | .int, [.int i] => some (.int i, false)
  | .int, [.bl k] => some (.int (if k then 1 else 0), false)
  | .sum, [d] => match (lsD st d).bind intsD with
    | some ns => some (.int ns.sum, false)
    | none => none
  | .sum, [d, .lst []] => match (lsD st d).bind (listsD st) with
    | some xss => if xss.flatten.length ≤ LIM ∧ xss ≠ [] then some (.lst xss.flatten, true) else none
    | none => none
  | .sorted, [d] => match (lsD st d).bind intsD with
    | some ns => some (.lst ((sortI ns).map D.int), true)
    | none => match dcD st d with
      | some ks => match intsD (ks.map fun kv => dK kv.1) with
        | some ns => some (.lst ((sortI ns).map D.int), true)
        | none => none
      | none => none
  | .list, [d] => match sqD st d with
    | some xs => some (.lst xs, true)
    | none => none
  | .all, [d] => match (lsD st d).bind blsD with
    | some bs => some (.bl (bs.all id), false)
    | none => none
  | .any, [d] => match (lsD st d).bind blsD with
    | some bs => some (.bl (bs.any id), false)
    | none => none
  | .repr, [d] => match d.shp st with
    | some p => if p.showable = true ∧ p.shown.length ≤ sizeLine then some (.str p.shown, false) else none
    | none => none
  | .str, [.int i] => if i.natAbs.log2 < 1920 then some (.str (toString i), false) else none
  | .str, [.str x] => some (.str x, false)
  | .dict, [d] => match (lsD st d).bind pairsD with
    | some (ks, vs) => match keysD ks with
      | some kk => some (.dct (mkD kk vs []), true)
      | none => none
    | none => none
  | _, _ => none
def mtD (m : Mt) (st : Store) (d : D) (ds : List D) : Option (D × Bool) := match m, ds with
  | .bits, [] => match d with
    | .int i => some (.int (Builtin.Int.intBits i : Nat), false)
    | _ => none
  | .count, [.int k] => match (lsD st d).bind intsD with
    | some ns => some (.int (ns.count k : Nat), false)
    | none => none
  | .get, [y, z] => match dcD st d, keyD y with
    | some ks, some k => some ((getK ks k).getD z, false)
    | _, _ => none
  | _, _ => none

/-- the receiver's kind, ahead of the arguments -/
def mtP (m : Mt) (st : Store) (d : D) : Bool := match m with
  | .count => (lsD st d).isSome
  | .get => (dcD st d).isSome
  | _ => true

/-- the items at some places -/
def permD (ds : List D) : List Nat → Option (List D)
  | [] => some []
  | i :: r => match ds[i]?, permD ds r with
    | some d, some ds' => some (d :: ds')
    | _, _ => none

/-! ### running -/
structure Pg where
  call : Str → List D → Store → Option Res
  glo : Str → Option D
  whl : Nat

def bindAll : List Nat → List D → Env → Option Env
  | [], [], env => some env
  | i :: is, d :: ds, env => bindAll is ds (env.set i (.fr d))
  | _, _, _ => none
def bindT : Tg → D → Env → Option Env
  | .one i, d, env => some (env.set i (.fr d))
  | .tup is, .tup ds, env => bindAll is ds env
  | _, _, _ => none
def wipeE (env : Env) : List Nat → Env
  | [] => env
  | v :: vs => (wipeE env vs).set v .no

/-- what walks over a list; over a list or a tuple -/
def srcL : D → Option (Store → Option (List D))
  | .lst xs => some fun _ => some xs
  | .cell k => some fun st => lsD st (.cell k)
  | _ => none
def srcD : D → Option (Store → Option (List D))
  | .tup xs => some fun _ => some xs
  | d => srcL d
abbrev Run (α : Type) := Env → Store → Option α
/-- an operand that is only looked at -/
def bw (a : E) (f : Run Res) : Run (D × Store) := fun env st => match a with
  | .var i => match env[i]? with
    | some (.fr d) => some (d, st)
    | some (.ow d) => some (d, st)
    | _ => none
  | _ => (f env st).map fun r => (r.d, r.st)

/-- the items of a thing that is walked, as they stand -/
abbrev Src := Store → Option (List D)
def itemAt (src : Src) (n i : Nat) (st : Store) : Option D := match src st with
  | some ds => if ds.length = n then ds[i]? else none
  | none => none
def endAt (src : Src) (n : Nat) (st : Store) : Bool := match src st with
  | some ds => decide (ds.length = n)
  | none => false
/-- n items in all, m to come -/
def lcGo (t : Tg) (cond : Run (Bool × Store)) (elt : Run Res) (env : Env) (src : Src) (n : Nat) : Nat → Store → Option (List D × Store)
  | 0, st => if endAt src n st = true then some ([], st) else none
  | m + 1, st => match itemAt src n (n - (m + 1)) st with
    | none => none
    | some d => match bindT t d env with
      | none => none
      | some env2 => match cond env2 st with
        | none => none
        | some (false, st1) => lcGo t cond elt env src n m st1
        | some (true, st1) => match elt env2 st1 with
          | none => none
          | some r => match lcGo t cond elt env src n m r.st with
            | none => none
            | some (rs, st2) => some (r.d :: rs, st2)
def lcAll (t : Tg) (cond : Run (Bool × Store)) (elt : Run Res) (env : Env) (src : Src) (st : Store) : Option (List D × Store) := match src st with
  | some ds => if ds.length ≤ LIM then lcGo t cond elt env src ds.length ds.length st else none
  | none => none
def lc2Go (t : Tg) (cond : Run (Bool × Store)) (it : Run (Src × Store)) (u : Tg) (own2 : List Nat) (cond2 : Run (Bool × Store)) (elt : Run Res) (env : Env) (src : Src) (n : Nat) : Nat → Store → Option (List D × Store)
  | 0, st => if endAt src n st = true then some ([], st) else none
  | m + 1, st => match itemAt src n (n - (m + 1)) st with
    | none => none
    | some d => match bindT t d env with
      | none => none
      | some env2 => match cond env2 st with
        | none => none
        | some (false, st1) => lc2Go t cond it u own2 cond2 elt env src n m st1
        | some (true, st1) => match it env2 st1 with
          | none => none
          | some (src2, st2) => match lcAll u cond2 elt (wipeE env2 own2) src2 st2 with
            | none => none
            | some (xs, st3) => match lc2Go t cond it u own2 cond2 elt env src n m st3 with
              | none => none
              | some (rs, st4) => some (xs ++ rs, st4)
def tgSlots : Tg → List Nat
  | .one i => [i]
  | .tup is => is

/-- a truth value -/
def truD : D → Option Bool
  | .bl b => some b
  | _ => none

mutual
def E.ev (P : Pg) : E → Run Res
  | .non => fun _ st => some ⟨.non, false, st⟩
  | .bl b => fun _ st => some ⟨.bl b, false, st⟩
  | .int i => fun _ st => some ⟨.int i, false, st⟩
  | .str s => fun _ st => some ⟨.str s, false, st⟩
  | .var i => fun env st => match env[i]? with
    | some (.fr d) => some ⟨d, false, st⟩
    | _ => none
  | .glo x => fun _ st => match P.glo x with
    | some d => some ⟨d, false, st⟩
    | none => none
  | .bin o a b => fun env st => match bw a (a.ev P) env st with
    | none => none
    | some (x, st1) => match bw b (b.ev P) env st1 with
      | none => none
      | some (y, st2) => match binD o st2 x y with
        | none => none
        | some (d, n) => some ⟨d, n, st2⟩
  | .neg a => fun env st => match bw a (a.ev P) env st with
    | some (.int i, st1) => some ⟨.int (-i), false, st1⟩
    | _ => none
  | .cmp o a b => fun env st => match bw a (a.ev P) env st with
    | none => none
    | some (x, st1) => match bw b (b.ev P) env st1 with
      | none => none
      | some (y, st2) => match cmpD o st2 x y with
        | none => none
        | some c => some ⟨.bl c, false, st2⟩
  | .chn o p a b c => fun env st => match bw a (a.ev P) env st with
    | none => none
    | some (x, st1) => match bw b (b.ev P) env st1 with
      | none => none
      | some (y, st2) => match cmpD o st2 x y with
        | none => none
        | some false => some ⟨.bl false, false, st2⟩
        | some true => match bw c (c.ev P) env st2 with
          | none => none
          | some (z, st3) => match cmpD p st3 y z with
            | none => none
            | some q => some ⟨.bl q, false, st3⟩
  | .and a b => fun env st => match a.ev P env st with
    | some ⟨.bl false, _, st1⟩ => some ⟨.bl false, false, st1⟩
    | some ⟨.bl true, _, st1⟩ => b.ev P env st1
    | _ => none
  | .or a b => fun env st => match a.ev P env st with
    | some ⟨.bl true, _, st1⟩ => some ⟨.bl true, false, st1⟩
    | some ⟨.bl false, _, st1⟩ => b.ev P env st1
    | _ => none
  | .not a => fun env st => match a.ev P env st with
    | some ⟨.bl c, _, st1⟩ => some ⟨.bl (!c), false, st1⟩
    | _ => none
  | .ife c a b => fun env st => match c.ev P env st with
    | some ⟨.bl true, _, st1⟩ => a.ev P env st1
    | some ⟨.bl false, _, st1⟩ => b.ev P env st1
    | _ => none
  | .tup es => fun env st => match es.ev P env st with
    | some (ds, st1) => if ds.length ≤ LIM then some ⟨.tup ds, false, st1⟩ else none
    | none => none
  | .lst es => fun env st => match es.ev P env st with
    | some (ds, st1) => if ds.length ≤ LIM then some ⟨.lst ds, true, st1⟩ else none
    | none => none
  | .cel es => fun env st => match es.ev P env st with
    | some (ds, st1) => if ds.length ≤ LIM then some ⟨.cell st1.length, false, st1 ++ [.lst ds]⟩ else none
    | none => none
  | .mk e => fun env st => match e.ev P env st with
    | some ⟨.lst xs, true, st1⟩ => some ⟨.cell st1.length, false, st1 ++ [.lst xs]⟩
    | _ => none
  | .call x es => fun env st => match es.ev P env st with
    | some (ds, st1) => P.call x ds st1
    | none => none
  | .callK x ks _ pm => fun env st => match ks.ev P env st with
    | some (qs, st1) => match permD qs pm with
      | some zs => P.call x zs st1
      | none => none
    | none => none
  | .bi b es => fun env st => match es.evB P env st with
    | some (ds, st1) => match biD b st1 ds with
      | some (d, n) => some ⟨d, n, st1⟩
      | none => none
    | none => none
  | .isi a tys => fun env st => match bw a (a.ev P) env st with
    | some (d, st1) => match isiDs st1 d tys with
      | some b => some ⟨.bl b, false, st1⟩
      | none => none
    | none => none
  | .mth m a es => fun env st => match bw a (a.ev P) env st with
    | some (x, st1) => if mtP m st1 x = true then match es.ev P env st1 with
      | some (ds, st2) => match mtD m st2 x ds with
        | some (d, n) => some ⟨d, n, st2⟩
        | none => none
      | none => none
      else none
    | none => none
  | .sub a i => fun env st => match bw a (a.ev P) env st with
    | none => none
    | some (x, st1) => match i.ev P env st1 with
      | none => none
      | some ⟨y, _, st2⟩ => match dcD st2 x, keyD y with
        | some ks, some k => match getK ks k with
          | some d => some ⟨d, false, st2⟩
          | none => none
        | _, _ => match sqD st2 x, y with
          | some xs, .int j => match (ixD xs.length j).bind fun m => xs[m]? with
            | some d => some ⟨d, false, st2⟩
            | none => none
          | _, _ => none
  | .slc a lo hi => fun env st => match bw a (a.ev P) env st with
    | none => none
    | some (x, st1) => match lo.evI P env st1 with
      | none => none
      | some (l, st2) => match hi.evI P env st2 with
        | none => none
        | some (h, st3) => match rdD st3 x with
          | some xs => some ⟨.lst (cutD xs l h), true, st3⟩
          | none => none
  | .rev a => fun env st => match bw a (a.ev P) env st with
    | some (x, st1) => match lsD st1 x with
      | some xs => some ⟨.lst xs.reverse, true, st1⟩
      | none => none
    | none => none
  | .lrg a b => fun env st => match a.evI P env st with
    | none => none
    | some (l, st1) => match b.ev P env st1 with
      | some ⟨.int j, _, st2⟩ =>
        let i := l.getD 0
        if -(2 ^ 62) ≤ i ∧ i < 2 ^ 62 ∧ -(2 ^ 62) ≤ j ∧ j < 2 ^ 62 ∧ (j - i).toNat ≤ LIM then some ⟨.lst ((List.range (j - i).toNat).map fun k => .int (i + (k : Nat))), true, st2⟩ else none
      | _ => none
  | .lc elt own t it c => fun env st => match it.ev P env st with
    | none => none
    | some (src, st1) => match lcAll t (c.evC P) (elt.ev P) (wipeE env own) src st1 with
        | some (rs, st2) => some ⟨.lst rs, true, st2⟩
        | none => none
  | .lc2 elt own t it c u jt d => fun env st => match it.ev P env st with
    | none => none
    | some (src, st1) => match src st1 with
      | none => none
      | some ds => match lc2Go t (c.evC P) (jt.ev P) u (tgSlots u) (d.evC P) (elt.ev P) (wipeE env own) src ds.length ds.length st1 with
        | some (rs, st2) => if rs.length ≤ LIM then some ⟨.lst rs, true, st2⟩ else none
        | none => none
  | .dic ps => fun env st => match ps.ev P env st with
    | some (ds, es, st1) => match keysD ds with
      | some kk => some ⟨.dct (mkD kk es []), true, st1⟩
      | none => none
    | none => none
def Es.ev (P : Pg) : Es → Run (List D × Store)
  | .nil => fun _ st => some ([], st)
  | .cons e r => fun env st => match e.ev P env st with
    | none => none
    | some x => match r.ev P env x.st with
      | none => none
      | some (ds, st2) => some (x.d :: ds, st2)
def Es.evB (P : Pg) : Es → Run (List D × Store)
  | .nil => fun _ st => some ([], st)
  | .cons e r => fun env st => match bw e (e.ev P) env st with
    | none => none
    | some (d, st1) => match r.evB P env st1 with
      | none => none
      | some (ds, st2) => some (d :: ds, st2)
/-- pairs, a key and its value after another -/
def Ps.ev (P : Pg) : Ps → Run (List D × List D × Store)
  | .nil => fun _ st => some ([], [], st)
  | .cons e f r => fun env st => match e.ev P env st with
    | none => none
    | some x => match f.ev P env x.st with
      | none => none
      | some y => match r.ev P env y.st with
        | none => none
        | some (ds, es, st3) => some (x.d :: ds, y.d :: es, st3)
/-- a bound of a slice -/
def Eo.evI (P : Pg) : Eo → Run (Option Int × Store)
  | .no => fun _ st => some (none, st)
  | .so e => fun env st => match e.ev P env st with
    | some ⟨.int i, _, st1⟩ => some (some i, st1)
    | _ => none
/-- a test -/
def Eo.evC (P : Pg) : Eo → Run (Bool × Store)
  | .no => fun _ st => some (true, st)
  | .so e => fun env st => match e.ev P env st with
    | some ⟨.bl b, _, st1⟩ => some (b, st1)
    | _ => none
def It.ev (P : Pg) : It → Run (Src × Store)
  | .ovr e => fun env st => match e.ev P env st with
    | some r => (srcD r.d).bind fun s => if (s r.st).isSome = true then some (s, r.st) else none
    | none => none
  | .rg1 a => fun env st => match a.ev P env st with
    | some ⟨.int j, _, st1⟩ => if -(2 ^ 62) ≤ j ∧ j < 2 ^ 62 then some (fun _ => some ((List.range j.toNat).map fun k => .int (k : Nat)), st1) else none
    | _ => none
  | .rg2 a b => fun env st => match a.ev P env st with
    | some ⟨.int i, _, st1⟩ => match b.ev P env st1 with
      | some ⟨.int j, _, st2⟩ => if -(2 ^ 62) ≤ i ∧ i < 2 ^ 62 ∧ -(2 ^ 62) ≤ j ∧ j < 2 ^ 62 then some (fun _ => some ((List.range (j - i).toNat).map fun k => .int (i + (k : Nat))), st2) else none
      | _ => none
    | _ => none
  | .rg3 a b c => fun env st => match a.ev P env st with
    | some ⟨.int i, _, st1⟩ => match b.ev P env st1 with
      | some ⟨.int j, _, st2⟩ => match c.ev P env st2 with
        | some ⟨.int k, _, st3⟩ => if k ≠ 0 ∧ k.natAbs < 1073741824 ∧ Builtin.Range.small i j k = true then some (fun _ => some ((List.range (Builtin.Range.rangeSize i j k).toNat).map fun q => .int (i + (q : Nat) * k)), st3) else none
        | _ => none
      | _ => none
    | _ => none
  | .enu e => fun env st => match e.ev P env st with
    | some r => (srcL r.d).bind fun s => if (s r.st).isSome = true then some (fun st => (s st).map fun xs => xs.zipIdx.map fun p => .tup [.int (p.2 : Nat), p.1], r.st) else none
    | none => none
  | .zip a b => fun env st => match a.ev P env st with
    | some r => match b.ev P env r.st with
      | some r2 => match srcL r.d, srcL r2.d with
        | some s, some s2 => if (s r2.st).isSome = true ∧ (s2 r2.st).isSome = true then some (fun st => match s st, s2 st with
          | some xs, some ys => some ((xs.zip ys).map fun p => .tup [p.1, p.2])
          | _, _ => none, r2.st) else none
        | _, _ => match r.d, r2.d with
          | .tup xs, .tup ys => some (fun _ => some ((xs.zip ys).map fun p => .tup [p.1, p.2]), r2.st)
          | _, _ => none
      | none => none
    | none => none
  | .key i => fun env st => match env[i]? with
    | some (.fr (.dct ks)) => some (fun _ => some (ks.map fun kv => dK kv.1), st)
    | _ => none
end

inductive Fl where
  | nx | bk | ct | rt (d : D) (n : Bool)
structure Out where
  f : Fl
  env : Env
  st : Store
def Sl.of (r : Res) : Sl := if r.nw = true then .ow r.d else .fr r.d
def setAll : List Nat → List Res → Env → Option Env
  | [], [], env => some env
  | i :: is, r :: rs, env => setAll is rs (env.set i (Sl.of r))
  | _, _, _ => none
def Es.evR (P : Pg) : Es → Run (List Res × Store)
  | .nil => fun _ st => some ([], st)
  | .cons e r => fun env st => match e.ev P env st with
    | none => none
    | some x => match r.evR P env x.st with
      | none => none
      | some (ds, st2) => some (x :: ds, st2)
def frzE (env : Env) (i : Nat) : Env := match env[i]? with
  | some (.ow d) => env.set i (.fr d)
  | _ => env

def forGo (t : Tg) (b : Run Out) (src : Src) (n : Nat) : Nat → Run Out
  | 0 => fun env st => if endAt src n st = true then some ⟨.nx, env, st⟩ else none
  | m + 1 => fun env st => match itemAt src n (n - (m + 1)) st with
    | none => none
    | some d => match bindT t d env with
      | none => none
      | some env1 => match b env1 st with
        | none => none
        | some ⟨.nx, env2, st2⟩ => forGo t b src n m env2 st2
        | some ⟨.ct, env2, st2⟩ => forGo t b src n m env2 st2
        | some ⟨.bk, env2, st2⟩ => some ⟨.nx, env2, st2⟩
        | some ⟨.rt d n, env2, st2⟩ => some ⟨.rt d n, env2, st2⟩
def whlGo (c : Run (Bool × Store)) (b : Run Out) : Nat → Run Out
  | 0 => fun _ _ => none
  | n + 1 => fun env st => match c env st with
    | none => none
    | some (false, st1) => some ⟨.nx, env, st1⟩
    | some (true, st1) => match b env st1 with
      | none => none
      | some ⟨.nx, env2, st2⟩ => whlGo c b n env2 st2
      | some ⟨.ct, env2, st2⟩ => whlGo c b n env2 st2
      | some ⟨.bk, env2, st2⟩ => some ⟨.nx, env2, st2⟩
      | some ⟨.rt d k, env2, st2⟩ => some ⟨.rt d k, env2, st2⟩

/-- item y of slot k's list, dict or cell set to v -/
def setD (k : Nat) (y v : D) (env : Env) (st : Store) : Option (Env × Store) := match env[k]? with
  | some (.ow (.lst xs)) => match y with
    | .int j => match ixD xs.length j with
      | some m => some (env.set k (.ow (.lst (xs.set m v))), st)
      | none => none
    | _ => none
  | some (.ow (.dct ks)) => match keyD y with
    | some kk => if ks.length < LIM then some (env.set k (.ow (.dct (putD ks kk v))), st) else none
    | none => none
  | some (.fr (.cell c)) => match st[c]? with
    | some (.lst xs) => match y with
      | .int j => match ixD xs.length j with
        | some m => some (env, st.set c (.lst (xs.set m v)))
        | none => none
      | _ => none
    | some (.dct ks) => match keyD y with
      | some kk => if ks.length < LIM then some (env, st.set c (.dct (putD ks kk v))) else none
      | none => none
    | none => none
  | _ => none

mutual
def S.ev (P : Pg) : S → Run Out
  | .asg i e => fun env st => match e.ev P env st with
    | some r => some ⟨.nx, env.set i (Sl.of r), r.st⟩
    | none => none
  | .asgT is es => fun env st => match es.evR P env st with
    | some (rs, st1) => match setAll is rs env with
      | some env1 => some ⟨.nx, env1, st1⟩
      | none => none
    | none => none
  | .unp is e => fun env st => match e.ev P env st with
    | some r => match bindT (.tup is) r.d env with
      | some env1 => some ⟨.nx, env1, r.st⟩
      | none => none
    | none => none
  | .setI k i e => fun env st => match e.ev P env st with
    | some r => match i.ev P env r.st with
      | some y => match setD k y.d r.d env y.st with
        | some (env1, st1) => some ⟨.nx, env1, st1⟩
        | none => none
      | none => none
    | none => none
  | .augI k i e => fun env st => match i.ev P env st with
    | some ⟨.int j, _, st1⟩ => if j < 0 then none else match env[k]? with
      | some (.ow (.lst xs)) => match (ixD xs.length j).bind fun m => xs[m]? with
        | some (.int x) => match e.ev P env st1 with
          | some ⟨.int z, _, st2⟩ => match setD k (.int j) (.int (x + z)) env st2 with
            | some (env1, st3) => some ⟨.nx, env1, st3⟩
            | none => none
          | _ => none
        | _ => none
      | _ => none
    | _ => none
  | .app k e => fun env st => match e.ev P env st with
    | some r => match env[k]? with
      | some (.ow (.lst xs)) => if xs.length < LIM then some ⟨.nx, env.set k (.ow (.lst (xs ++ [r.d]))), r.st⟩ else none
      | some (.fr (.cell c)) => match st[c]?, r.st[c]? with
        | some (.lst _), some (.lst xs) => if xs.length < LIM then some ⟨.nx, env, r.st.set c (.lst (xs ++ [r.d]))⟩ else none
        | _, _ => none
      | _ => none
    | none => none
  | .appPop k j e => fun env st => match e.ev P env st with
    | some ⟨.int m, _, st1⟩ => match env[j]? with
      | some (.ow (.lst ys)) => if -(2 ^ 63) ≤ m ∧ m < 2 ^ 63 ∧ k ≠ j then match seqIndex? m ys.length with
          | some p => match ys[p]? with
            | some y => match env[k]? with
              | some (.ow (.lst xs)) => if xs.length < LIM then some ⟨.nx, (env.set j (.ow (.lst (ys.eraseIdx p)))).set k (.ow (.lst (xs ++ [y]))), st1⟩ else none
              | _ => none
            | none => none
          | none => none
        else none
      | _ => none
    | _ => none
  | .exp e => fun env st => match e.ev P env st with
    | some r => some ⟨.nx, env, r.st⟩
    | none => none
  | .ret e => fun env st => match e with
    | .var i => match env[i]? with
      | some (.ow d) => some ⟨.rt d true, env, st⟩
      | some (.fr d) => some ⟨.rt d false, env, st⟩
      | _ => none
    | e => match e.ev P env st with
      | some r => some ⟨.rt r.d r.nw, env, r.st⟩
      | none => none
  | .retN => fun env st => some ⟨.rt .non false, env, st⟩
  | .iff c a b => fun env st => match c.ev P env st with
    | some ⟨.bl true, _, st1⟩ => a.ev P env st1
    | some ⟨.bl false, _, st1⟩ => b.ev P env st1
    | _ => none
  | .whl c b => fun env st => whlGo (Eo.evC P (.so c)) (b.ev P) P.whl env st
  | .for t it b => fun env st => match it.ev P env st with
    | some (src, st1) => match src st1 with
      | some ds => forGo t (b.ev P) src ds.length ds.length env st1
      | none => none
    | none => none
  | .brk => fun env st => some ⟨.bk, env, st⟩
  | .cnt => fun env st => some ⟨.ct, env, st⟩
  | .pas => fun env st => some ⟨.nx, env, st⟩
  | .rai => fun _ _ => none
def Ss.ev (P : Pg) : Ss → Run Out
  | .nil => fun env st => some ⟨.nx, env, st⟩
  | .cons s r => fun env st => match s.ev P env st with
    | some ⟨.nx, env1, st1⟩ => r.ev P env1 st1
    | o => o
  | .frz i r => fun env st => r.ev P (frzE env i) st
end

structure Fn where
  ps : Nat
  ns : Nat
  body : Ss
structure Prog where
  fn : Str → Option Fn
  glo : Str → Option D
  kw : List (Str × List Str × List Nat)
  /-- turns of a while loop, at most -/
  whl : Nat
def startE (n : Nat) (ds : List D) : Env := ds.map Sl.fr ++ List.replicate (n - ds.length) Sl.no
def Prog.run (T : Prog) : Nat → Str → List D → Store → Option Res
  | 0, _, _, _ => none
  | n + 1, x, ds, st => match T.fn x with
    | none => none
    | some f => if ds.length = f.ps then match f.body.ev ⟨T.run n, T.glo, T.whl⟩ (startE f.ns ds) st with
        | some ⟨.rt d k, _, st1⟩ => some ⟨d, k, st1⟩
        | some ⟨.nx, _, st1⟩ => some ⟨.non, false, st1⟩
        | _ => none
      else none
end EV

/-! EV, part C: a term against the text, readings, and the rules on values. -/
namespace EV
open PySem PySem.Spec PyProof.Rows L2

/-! ### a term against the text -/
structure SC where
  N : List Str
  sc : Scope
  fn : Str → Bool
  kw : List (Str × List Str × List Nat) := []

def visB (sc : Scope) (x : Str) : Bool := match sc.names.lookup x with
  | some .local => true
  | some .cell => true
  | some .free => true
  | _ => false
def glB (sc : Scope) (x : Str) : Bool := match sc.names.lookup x with
  | some .globalImplicit => true
  | _ => false
/-- a name that may be stored -/
def locB (c : SC) (x : Str) : Bool := match c.sc.names.lookup x with
  | some .local => true
  | some .cell => c.fn x
  | _ => false
def nameB (x : Str) : Bool := !(x == ("__debug__" : Str)) && !(x == ("__classdict__" : Str)) && !(x == ("__name__" : Str))
/-- no star, no set display -/
def plB : Expr → Bool
  | .Starred .. => false
  | .Set .. => false
  | .Slice .. => false
  | _ => true
def bopOf : BOp → Operator
  | .add => .Add | .sub => .Sub | .mul => .Mult | .fdiv => .FloorDiv | .mod => .Mod | .pow => .Pow
def copOf : COp → CmpOp
  | .lt => .Lt | .le => .LtE | .gt => .Gt | .ge => .GtE | .eq => .Eq | .ne => .NotEq | .isO => .Is | .isn => .IsNot | .inn => .In | .nin => .NotIn
def biOf : Bi → Str
  | .len => "len" | .abs => "abs" | .max => "max" | .min => "min" | .int => "int" | .sum => "sum" | .sorted => "sorted" | .list => "list" | .tuple => "tuple"
  | .all => "all" | .any => "any" | .str => "str" | .repr => "repr" | .dict => "dict"
def mtOf : Mt → Str
  | .bits => "bit_length" | .count => "count" | .get => "get" | .index => "index" | .items => "items" | .values => "values"
def isName (e : Expr) (x : Str) : Bool := match e with
  | .Name y _ => y == x
  | _ => false
def isNames : List Expr → List String → Bool
  | [], [] => true
  | e :: es, n :: ns => isName e (Str.ofString n) && isNames es ns
  | _, _ => false
def slotB (c : SC) (i : Nat) (e : Expr) : Bool := match e with
  | .Name x _ => decide (c.N[i]? = some x) && visB c.sc x && nameB x
  | _ => false
def tslotB (c : SC) (i : Nat) (e : Expr) : Bool := match e with
  | .Name x _ => decide (c.N[i]? = some x) && locB c x && nameB x
  | _ => false
def tslotsB (c : SC) : List Nat → List Expr → Bool
  | [], [] => true
  | i :: is, e :: es => tslotB c i e && tslotsB c is es
  | _, _ => false
def Tg.chk (t : Tg) (c : SC) (e : Expr) : Bool := match t with
  | .one i => tslotB c i e
  | .tup is => match e with
    | .Tuple es _ _ => tslotsB c is es
    | _ => false
def blkSC (c : SC) (scope : Scope) : SC := ⟨c.N, relS scope c.sc, fun x => scope.names.lookup x == some .cell, c.kw⟩
def ownP (c : SC) (own : List Nat) : List (Str × Nat) := own.map fun i => (c.N.getD i "", i)

def It.nk : It → Bool
  | .key _ => false
  | _ => true
def Es.len : Es → Nat
  | .nil => 0
  | .cons _ r => r.len + 1
def Mt.ar : Mt → Nat
  | .bits => 0 | .count => 1 | .get => 2 | _ => 9
mutual
def E.chk : E → SC → Expr → Bool
  | .non, _, e => match e with
    | .Constant .none _ _ => true
    | _ => false
  | .bl b, _, e => match e with
    | .Constant (.bool x) _ _ => x == b
    | _ => false
  | .int i, _, e => match e with
    | .Constant (.int x) _ _ => x == i
    | _ => false
  | .str s, _, e => match e with
    | .Constant (.str x) _ _ => x == s
    | _ => false
  | .var i, c, e => slotB c i e
  | .glo y, c, e => match e with
    | .Name x _ => x == y && glB c.sc x && nameB x
    | _ => false
  | .bin o a b, c, e => match e with
    | .BinOp x p y _ => p == bopOf o && a.chk c x && b.chk c y
    | _ => false
  | .neg a, c, e => match e with
    | .UnaryOp .USub x _ => a.chk c x
    | _ => false
  | .cmp o a b, c, e => match e with
    | .Compare x [p] [y] _ => p == copOf o && a.chk c x && b.chk c y && plB y
    | _ => false
  | .chn o p a b d, c, e => match e with
    | .Compare x [o', p'] [y, z] _ => o' == copOf o && p' == copOf p && a.chk c x && b.chk c y && d.chk c z && !(o == .inn) && !(o == .nin) && !(p == .inn) && !(p == .nin)
    | _ => false
  | .and a b, c, e => match e with
    | .BoolOp .And [x, y] _ => a.chk c x && b.chk c y
    | .BoolOp .And (x :: y :: z :: r) pos => a.chk c x && b.chk c (.BoolOp .And (y :: z :: r) pos)
    | _ => false
  | .or a b, c, e => match e with
    | .BoolOp .Or [x, y] _ => a.chk c x && b.chk c y
    | .BoolOp .Or (x :: y :: z :: r) pos => a.chk c x && b.chk c (.BoolOp .Or (y :: z :: r) pos)
    | _ => false
  | .not a, c, e => match e with
    | .UnaryOp .Not x _ => a.chk c x
    | _ => false
  | .ife a b d, c, e => match e with
    | .IfExp x y z _ => a.chk c x && b.chk c y && d.chk c z
    | _ => false
  | .tup es, c, e => match e with
    | .Tuple xs _ _ => es.chk c xs
    | _ => false
  | .lst es, c, e => match e with
    | .List xs _ => es.chk c xs
    | _ => false
  | .cel es, c, e => match e with
    | .List xs _ => es.chk c xs
    | _ => false
  | .mk a, c, e => a.chk c e && (match e with
    | .List _ _ => true
    | .ListComp _ _ _ _ => true
    | .Call _ _ _ _ => true
    | _ => false)
  | .call y es, c, e => match e with
    | .Call (.Name x _) xs [] _ => x == y && glB c.sc x && nameB x && es.chk c xs
    | _ => false
  | .callK y ks ns pm, c, e => match e with
    | .Call (.Name x _) [] kws _ => x == y && glB c.sc x && nameB x && ks.chkK c kws && decide (kws.map (·.arg) = ns.map some) && decide ((y, ns, pm) ∈ c.kw)
    | _ => false
  | .bi b es, c, e => match e with
    | .Call (.Name x _) (y :: ys) [] _ => x == biOf b && glB c.sc x && es.chk c (y :: ys)
    | _ => false
  | .isi a tys, c, e => match e with
    | .Call (.Name x _) [y, t] [] _ => x == ("isinstance" : Str) && glB c.sc x && a.chk c y && plB y && !tys.isEmpty && decide (tys.length ≤ 10) && tys.all (fun n => glB c.sc (Str.ofString n) && decide (n ∈ ["bool", "int", "str", "list", "tuple", "dict"])) && (match t with
      | .Name z _ => isNames [t] tys
      | .Tuple zs _ _ => isNames zs tys
      | _ => false)
    | _ => false
  | .mth m a es, c, e => match e with
    | .Call (.Attribute (.Name x p) f q) xs [] r => f == mtOf m && es.len == m.ar && a.chk c (.Name x p) && es.chk c xs && q.endLine == r.line
    | _ => false
  | .sub a i, c, e => match e with
    | .Subscript x y _ => a.chk c x && i.chk c y && plB y
    | _ => false
  | .slc a lo hi, c, e => match e with
    | .Subscript x (.Slice l h none _) _ => a.chk c x && lo.chk c l && hi.chk c h
    | _ => false
  | .rev a, c, e => match e with
    | .Subscript x (.Slice none none (some (.UnaryOp .USub (.Constant (.int 1) _ _) _)) _) _ => a.chk c x
    | _ => false
  | .lrg a b, c, e => match e with
    | .Call (.Name x _) [.Call (.Name z _) [y] [] _] [] _ => x == ("list" : Str) && glB c.sc x && z == ("range" : Str) && glB c.sc z && a.chk c none && b.chk c y && plB y
    | .Call (.Name x _) [.Call (.Name z _) [w, y] [] _] [] _ => x == ("list" : Str) && glB c.sc x && z == ("range" : Str) && glB c.sc z && a.chk c (some w) && b.chk c y && plB y && plB w
    | _ => false
  | .lc elt own t it cd, c, e => match e with
    | .ListComp x [⟨tg, iter, ifs, k⟩] scope _ => k == 0 && (tgSlots t).all own.contains && blkC c.N c.sc scope (ownP c own) && it.chk c iter tg && t.chk (blkSC c scope) tg && cd.chkC (blkSC c scope) ifs && elt.chk (blkSC c scope) x && plB iter
    | _ => false
  | .lc2 elt own t it cd u jt ce, c, e => match e with
    | .ListComp x [⟨tg, iter, ifs, k⟩, ⟨tg1, iter1, ifs1, k1⟩] scope _ => k == 0 && k1 == 0 && it.nk && jt.nk && (tgSlots t).all own.contains && blkC c.N c.sc scope (ownP c own) && it.chk c iter tg && t.chk (blkSC c scope) tg && cd.chkC (blkSC c scope) ifs && u.chk (blkSC c scope) tg1 && jt.chk (blkSC c scope) iter1 tg1 && ce.chkC (blkSC c scope) ifs1 && elt.chk (blkSC c scope) x && plB iter && plB iter1 && (tgSlots u).all own.contains
    | _ => false
  | .dic ps, c, e => match e with
    | .Dict ks vs _ => ps.chk c ks vs && decide (ks.length ≤ 15)
    | _ => false
def Es.chk : Es → SC → List Expr → Bool
  | .nil, _, xs => match xs with
    | [] => true
    | _ => false
  | .cons e r, c, xs => match xs with
    | x :: xs => e.chk c x && plB x && r.chk c xs
    | _ => false
def Es.chkK : Es → SC → List Keyword → Bool
  | .nil, _, xs => match xs with
    | [] => true
    | _ => false
  | .cons e r, c, xs => match xs with
    | ⟨_, x, _⟩ :: xs => e.chk c x && r.chkK c xs
    | _ => false
def Ps.chk : Ps → SC → List (Option Expr) → List Expr → Bool
  | .nil, _, ks, vs => match ks, vs with
    | [], [] => true
    | _, _ => false
  | .cons e f r, c, ks, vs => match ks, vs with
    | some k :: ks, v :: vs => e.chk c k && f.chk c v && r.chk c ks vs
    | _, _ => false
def Eo.chk : Eo → SC → Option Expr → Bool
  | .no, _, x => match x with
    | none => true
    | _ => false
  | .so e, c, x => match x with
    | some y => e.chk c y
    | _ => false
def Eo.chkC : Eo → SC → List Expr → Bool
  | .no, _, x => match x with
    | [] => true
    | _ => false
  | .so e, c, x => match x with
    | [y] => e.chk c y
    | _ => false
def It.chk : It → SC → Expr → Expr → Bool
  | .ovr a, c, e, _ => a.chk c e
  | .rg1 a, c, e, _ => match e with
    | .Call (.Name x _) [y] [] _ => x == ("range" : Str) && glB c.sc x && a.chk c y && plB y
    | _ => false
  | .rg2 a b, c, e, _ => match e with
    | .Call (.Name x _) [y, z] [] _ => x == ("range" : Str) && glB c.sc x && a.chk c y && plB y && b.chk c z && plB z
    | _ => false
  | .rg3 a b d, c, e, _ => match e with
    | .Call (.Name x _) [y, z, w] [] _ => x == ("range" : Str) && glB c.sc x && a.chk c y && plB y && b.chk c z && plB z && d.chk c w && plB w
    | _ => false
  | .enu a, c, e, t => match t with
    | .Tuple _ _ _ => match e with
      | .Call (.Name x _) [y] [] _ => x == ("enumerate" : Str) && glB c.sc x && a.chk c y && plB y
      | _ => false
    | _ => false
  | .zip a b, c, e, t => match t with
    | .Tuple _ _ _ => match e with
      | .Call (.Name x _) [y, z] [] _ => x == ("zip" : Str) && glB c.sc x && a.chk c y && plB y && b.chk c z && plB z
      | _ => false
    | _ => false
  | .key i, c, e, _ => slotB c i e
end

/-! ### readings -/
section
variable (fa : FnA)
structure EnvOk (g : G) (H : Hp) (env : EV.Env) (σ : L2.St) : Prop where
  fr : ∀ (i : Nat) (d : D), env[i]? = some (Sl.fr d) → ∃ v : V, σ[i]? = some (some v) ∧ Rep fa g H v d
  ow : ∀ (i : Nat) (d : D), env[i]? = some (Sl.ow d) → ∃ a : Addr, σ[i]? = some (some (V.ref a)) ∧ Own fa g H a d
  di : ∀ (i j : Nat) (d e : D) (a : Addr), i ≠ j → env[i]? = some (Sl.ow d) → env[j]? = some (Sl.ow e) → σ[i]? = some (some (V.ref a)) → σ[j]? ≠ some (some (V.ref a))
  le : env.length ≤ σ.length
def tE (f : Run Res) : TE := fun σ H Q => ∃ g env st r, Wok fa g st H ∧ EnvOk fa g H env σ ∧ f env st = some r ∧ ∀ g' H' v, ResOk fa g H g' H' v r → Q v H'
/-- a kept value -/
def tF (f : Run Res) : TE := fun σ H Q => ∃ g env st r, Wok fa g st H ∧ EnvOk fa g H env σ ∧ f env st = some r ∧ ∀ g' H' v, Ext g H g' H' → Wok fa g' r.st H' → Rep fa g' H' v r.d → Q v H'
/-- a value that is looked at -/
def tB (f : Run (D × Store)) : TE := fun σ H Q => ∃ g env st r, Wok fa g st H ∧ EnvOk fa g H env σ ∧ f env st = some r ∧ ∀ g' H' v, Ext g H g' H' → Wok fa g' r.2 H' → View fa g' H' v r.1 → Q v H'
def tAr (f : Run (List D × Store)) : TA := fun σ H Q => ∃ g env st r, Wok fa g st H ∧ EnvOk fa g H env σ ∧ f env st = some r ∧ ∀ g' H' vs, Ext g H g' H' → Wok fa g' r.2 H' → Reps fa g' H' vs r.1 → Q vs H'
inductive Views (g : G) (H : Hp) : List V → List D → Prop
  | nil : Views g H [] []
  | cons {v : V} {vs : List V} {d : D} {ds : List D} : View fa g H v d → Views g H vs ds → Views g H (v :: vs) (d :: ds)
def tAv (f : Run (List D × Store)) : TA := fun σ H Q => ∃ g env st r, Wok fa g st H ∧ EnvOk fa g H env σ ∧ f env st = some r ∧ ∀ g' H' vs, Ext g H g' H' → Wok fa g' r.2 H' → Views fa g' H' vs r.1 → Q vs H'
/-- a test -/
def tC (f : Run (Bool × Store)) : TT := fun σ H Q => ∃ g env st r, Wok fa g st H ∧ EnvOk fa g H env σ ∧ f env st = some r ∧ ∀ g' H', Ext g H g' H' → Wok fa g' r.2 H' → Q r.1 H'
/-- an optional bound -/
def tO (f : Run (Option Int × Store)) : TO := fun σ H Q => ∃ g env st r, Wok fa g st H ∧ EnvOk fa g H env σ ∧ f env st = some r ∧ ∀ g' H', Ext g H g' H' → Wok fa g' r.2 H' → Q r.1 H'
/-- what an iterator hands out -/
def Items (J : L2.It) (src : Src) (g : G) (H : Hp) : Prop := ∀ g1 H1 st1 ds, Kp g H g1 H1 → Wok fa g1 st1 H1 → src st1 = some ds →
  (∀ i d, ds[i]? = some d → J.go i H1 ∧ ∀ x H2, J.yld i H1 x H2 → ∃ g2, Ext g1 H1 g2 H2 ∧ Wok fa g2 st1 H2 ∧ Rep fa g2 H2 x d) ∧ J.stop ds.length H1
def tI (f : Run (Src × Store)) : TI := fun σ H R => ∃ g env st r, Wok fa g st H ∧ EnvOk fa g H env σ ∧ f env st = some r ∧ ∀ g' H' J, Ext g H g' H' → Wok fa g' r.2 H' → Items fa J r.1 g' H' → R J H'
end

section
variable {fa : FnA} {g g' g'' : G} {H H' H'' : Hp} {st st' : Store} {a : Addr} {v : V} {d : D} {env : EV.Env} {σ : L2.St} {X : Cx}
theorem EnvOk.mono (x : Ext g H g' H') (e : EnvOk fa g H env σ) : EnvOk fa g' H' env σ :=
  ⟨fun i d h => let ⟨v, h1, h2⟩ := e.fr i d h; ⟨v, h1, h2.mono x⟩, fun i d h => let ⟨v, h1, h2⟩ := e.ow i d h; ⟨v, h1, h2.mono x⟩, e.di, e.le⟩
theorem PEimp {e : Expr} {t t' : TE} (h : PE X e t) (i : ∀ σ H Q, t' σ H Q → t σ H Q) : PE X e t' := ⟨fun pins s σ H Q I q => h.run pins s σ H Q I (i σ H Q q)⟩
theorem PAimp {e : List Expr} {t t' : TA} (h : PA X e t) (i : ∀ σ H Q, t' σ H Q → t σ H Q) : PA X e t' := ⟨fun pos pins s σ H Q I q => h.run pos pins s σ H Q I (i σ H Q q)⟩
theorem PTimp {e : Expr} {t t' : TT} (h : PT X e t) (i : ∀ σ H Q, t' σ H Q → t σ H Q) : PT X e t' := ⟨fun pins s σ H Q I q => h.run pins s σ H Q I (i σ H Q q)⟩
theorem PSimp {e : Stmt} {t t' : TS} (h : PS X e t) (i : ∀ D σ H, t' D σ H → t D σ H) : PS X e t' := ⟨fun pins s σ H D I q => h.run pins s σ H D I (i D σ H q)⟩
theorem PEor {e : Expr} {t t' : TE} (h : PE X e t) (h' : PE X e t') : PE X e (fun σ H Q => t σ H Q ∨ t' σ H Q) := ⟨fun pins s σ H Q I q => q.elim (h.run pins s σ H Q I) (h'.run pins s σ H Q I)⟩
theorem PSor {e : Stmt} {t t' : TS} (h : PS X e t) (h' : PS X e t') : PS X e (fun D σ H => t D σ H ∨ t' D σ H) := ⟨fun pins s σ H D I q => q.elim (h.run pins s σ H D I) (h'.run pins s σ H D I)⟩
/-- never: a term that comes to nothing -/
theorem PEfalse {e : Expr} {t : TE} (h : ∀ σ H Q, ¬ t σ H Q) : PE X e t := ⟨fun pins s σ H Q I q => (h σ H Q q).elim⟩

theorem pe_tF {e : Expr} {f : Run Res} (h : PE X e (tE fa f)) : PE X e (tF fa f) := PEimp h fun σ H Q ⟨g, env, st, r, w, eo, e, q⟩ =>
  ⟨g, env, st, r, w, eo, e, fun g' H' v ro => let ⟨g2, x, w2, rp, _⟩ := ro.froze; q g2 H' v x w2 rp⟩
theorem pe_tB {e : Expr} {f : Run Res} (h : PE X e (tE fa f)) : PE X e (tB fa fun env st => (f env st).map fun r => (r.d, r.st)) := PEimp h fun σ H Q ⟨g, env, st, r, w, eo, e, q⟩ => by
  dsimp only at e
  cases e1 : f env st with
  | none => rw [e1] at e; cases e
  | some r1 =>
    rw [e1] at e
    have er : (r1.d, r1.st) = r := Option.some.inj e
    subst er
    exact ⟨g, env, st, r1, w, eo, e1, fun g' H' v ro => q g' H' v ro.ext ro.wok ro.view⟩

/-- tracked lists and dicts by view -/
theorem View.ls (w : Wok fa g st H) (h : View fa g H v d) {xs : List D} (e : lsD st d = some xs) : ∃ a vs, v = .ref a ∧ H a = some (.lst vs) ∧ Reps fa g H vs xs := by
  rcases h with h | ⟨a, rfl, o⟩
  · cases h with
    | lst f r hs => simp only [lsD, Option.some.injEq] at e; subst e; exact ⟨_, _, rfl, r, hs⟩
    | cell hk =>
      rename_i k
      simp only [lsD] at e
      split at e
      · rename_i ys hy
        cases e
        obtain ⟨_, vs, h1, h2⟩ := w.cells k _ hy
        exact ⟨_, vs, rfl, h1, h2⟩
      · cases e
    | _ => simp [lsD] at e
  · have t := o.top
    cases d with
    | lst ds => simp only [lsD, Option.some.injEq] at e; subst e; obtain ⟨vs, h1, h2⟩ := t; exact ⟨_, vs, rfl, h1, h2⟩
    | dct _ => simp [lsD] at e
    | _ => exact t.elim
theorem View.dc (w : Wok fa g st H) (h : View fa g H v d) {xs : List (Key × D)} (e : dcD st d = some xs) : ∃ a vs, v = .ref a ∧ Rd H a (.dK vs) ∧ RepK fa g H vs xs := by
  rcases h with h | ⟨a, rfl, o⟩
  · cases h with
    | dct f r hs => simp only [dcD, Option.some.injEq] at e; subst e; exact ⟨_, _, rfl, r, hs⟩
    | cell hk =>
      rename_i k
      simp only [dcD] at e
      split at e
      · rename_i ys hy
        cases e
        obtain ⟨_, vs, h1, h2⟩ := w.cells k _ hy
        exact ⟨_, vs, rfl, .inl h1, h2⟩
      · cases e
    | _ => simp [dcD] at e
  · have t := o.top
    cases d with
    | dct ds => simp only [dcD, Option.some.injEq] at e; subst e; obtain ⟨vs, h1, h2⟩ := t; exact ⟨_, vs, rfl, .inl h1, h2⟩
    | lst _ => simp [dcD] at e
    | _ => exact t.elim
theorem View.int {i : Int} (h : View fa g H v (.int i)) : v = .int i := by
  rcases h with h | ⟨a, rfl, o⟩
  · cases h; rfl
  · exact o.top.elim
theorem View.str {i : Str} (h : View fa g H v (.str i)) : v = .str i := by
  rcases h with h | ⟨a, rfl, o⟩
  · cases h; rfl
  · exact o.top.elim
theorem View.bl {i : Bool} (h : View fa g H v (.bl i)) : v = .bl i := by
  rcases h with h | ⟨a, rfl, o⟩
  · cases h; rfl
  · exact o.top.elim
theorem View.non (h : View fa g H v .non) : v = .non := by
  rcases h with h | ⟨a, rfl, o⟩
  · cases h; rfl
  · exact o.top.elim
theorem View.tup {ds : List D} (h : View fa g H v (.tup ds)) : ∃ a vs, v = .ref a ∧ H a = some (.tup vs) ∧ Reps fa g H vs ds := by
  rcases h with h | ⟨a, rfl, o⟩
  · cases h with | tup f r hs => exact ⟨_, _, rfl, r, hs⟩
  · exact o.top.elim
theorem ResOk.int {i : Int} {n : Bool} (h : ResOk fa g H g' H' v ⟨.int i, n, st⟩) : v = .int i := h.view.int
theorem ResOk.bl {i : Bool} {n : Bool} (h : ResOk fa g H g' H' v ⟨.bl i, n, st⟩) : v = .bl i := h.view.bl
theorem SqL.rd {K : PySem.W.Frag} {vs : List V} (h : Rd H a (.lst vs)) : SqL K H a vs := .inl h
theorem SqT.rd {K : PySem.W.Frag} {vs : List V} (h : Rd H a (.tup vs)) : SqT K H a vs := .inl h

/-- the lists of the written part are there -/
def ScrOk (fa : FnA) (K : PySem.W.Frag) : Prop := ∀ a ns, fa.scr a ns → ∀ H, SqL K H a (ns.map V.int)
theorem View.rd {K : PySem.W.Frag} (hS : ScrOk fa K) (w : Wok fa g st H) (h : View fa g H v d) {xs : List D} (e : rdD st d = some xs) : ∃ a vs, v = .ref a ∧ SqL K H a vs ∧ Reps fa g H vs xs := by
  have go : lsD st d = some xs → ∃ a vs, v = .ref a ∧ SqL K H a vs ∧ Reps fa g H vs xs := fun e => let ⟨a, vs, h1, h2, h3⟩ := h.ls w e; ⟨a, vs, h1, SqL.of h2, h3⟩
  cases d with
  | scr ns =>
    simp only [rdD, Option.some.injEq] at e
    subst e
    rcases h with h | ⟨a, rfl, o⟩
    · cases h with
      | scr f r => exact ⟨_, _, rfl, .inl (.inr ⟨_, r⟩), Reps.of_ints⟩
      | scrK e => exact ⟨_, _, rfl, hS _ _ e H, Reps.of_ints⟩
    · exact o.top.elim
  | _ => exact go e
/-! ### data of the layer -/
theorem mapO_dp (K : PySem.W.Frag) {f : D → Option PyData} (hf : ∀ (d : D) (v : V) (p : PyData), Rep fa g H v d → f d = some p → Dp K H v p) : ∀ {ds : List D} {vs : List V} {ps : List PyData}, Reps fa g H vs ds → mapO f ds = some ps → DpAll K H vs ps
  | [], _, _, h, e => by cases h; simp only [mapO, Option.some.injEq] at e; subst e; exact .nil
  | d :: ds, _, _, h, e => by
    cases h with
    | cons h1 h2 =>
      simp only [mapO] at e
      split at e
      · rename_i p ps e1 e2
        cases e
        exact .cons (hf d _ p h1 e1) (mapO_dp K hf h2 e2)
      · cases e
theorem Rep.dp (K : PySem.W.Frag) (w : Wok fa g st H) : ∀ (n : Nat) (d : D) (v : V) (p : PyData), Rep fa g H v d → d.py st n = some p → Dp K H v p
  | 0, _, _, _, _, e => by simp [D.py] at e
  | n + 1, d, v, p, h, e => by
    unfold D.py at e
    cases h with
    | non => cases e; exact .non
    | bl b => cases e; exact .bl b
    | int b => cases e; exact .int b
    | str b => cases e; exact .str b
    | lst f r hs =>
      obtain ⟨ps, e1, rfl⟩ := Option.map_eq_some_iff.mp e
      exact .lst (SqL.of r) (mapO_dp K (Rep.dp K w n) hs e1)
    | tup f r hs =>
      obtain ⟨ps, e1, rfl⟩ := Option.map_eq_some_iff.mp e
      exact .tup (SqT.of r) (mapO_dp K (Rep.dp K w n) hs e1)
    | cell hk =>
      dsimp only at e
      split at e
      · rename_i xs hc
        obtain ⟨ps, e1, rfl⟩ := Option.map_eq_some_iff.mp e
        obtain ⟨_, vs, h1, h2⟩ := w.cells _ _ hc
        exact .lst (SqL.of h1) (mapO_dp K (Rep.dp K w n) h2 e1)
      · cases e
    | dct f r hs => cases e
    | fn h => cases e
    | scr f r => cases e
    | scrK h => cases e
theorem View.dp (K : PySem.W.Frag) (w : Wok fa g st H) {p : PyData} {n : Nat} (h : View fa g H v d) (e : d.py st n = some p) : Dp K H v p := by
  rcases h with h | ⟨a, rfl, o⟩
  · exact h.dp K w n d v p e
  · have t := o.top
    cases n with
    | zero => simp [D.py] at e
    | succ n =>
      unfold D.py at e
      cases d with
      | lst ds =>
        obtain ⟨vs, h1, h2⟩ := t
        obtain ⟨ps, e1, rfl⟩ := Option.map_eq_some_iff.mp e
        exact .lst (SqL.of h1) (mapO_dp K (fun d v p => Rep.dp K w n d v p) h2 e1)
      | dct _ => cases e
      | _ => exact t.elim
theorem shp_py {p : PyData} (e : d.shp st = some p) : d.py st 30 = some p ∧ SeqAt.shaped p = true := by
  unfold D.shp at e
  split at e
  · split at e
    · cases e; exact ⟨by assumption, by assumption⟩
    · cases e
  · cases e
/-- a list that is looked at, as data -/
theorem ls_dp (K : PySem.W.Frag) (w : Wok fa g st H) (h : View fa g H v d) {xs : List D} (e : lsD st d = some xs) {p : PyData} {n : Nat} (ep : (D.lst xs).py st n = some p) : Dp K H v p := by
  obtain ⟨a, vs, rfl, r, hs⟩ := h.ls w e
  cases n with
  | zero => simp [D.py] at ep
  | succ n =>
    unfold D.py at ep
    obtain ⟨ps, e1, rfl⟩ := Option.map_eq_some_iff.mp ep
    exact .lst (SqL.of r) (mapO_dp K (fun d v p => Rep.dp K w n d v p) hs e1)
end
end EV

/-! EV, part D: the rules on values, put together. -/
namespace EV
open PySem PySem.Spec PyProof.Rows L2

section
variable {X : Cx}
/-- ** of ints -/
theorem op_powW : OpR X (binaryOp .Pow) (rI (fun i j => 0 ≤ j ∧ (Builtin.Int.intBits i : Int) * j ≤ 2 ^ 27) fun i j => .int (i ^ j.toNat)) := opI fun _ _ _ _ _ _ _ hc q => pow_int hc.1 hc.2 q

theorem OpR.alt {f : Value → Value → Sem Value} {r r' : R2} (h : OpR X f r) (i : ∀ x y H Q, r' x y H Q → r x y H Q) : OpR X f r' := fun pins s σ H x y v u Q I rx ry q => h pins s σ H x y v u Q I rx ry (i x y H Q q)

theorem Reps.flatten_rep {fa : FnA} {g : G} {H : Hp} {vs : List V} {ds : List D} (h : Reps fa g H vs ds) : ∀ n, Reps fa g H (List.replicate n vs).flatten (List.replicate n ds).flatten
  | 0 => .nil
  | n + 1 => by
    rw [List.replicate_succ, List.replicate_succ, List.flatten_cons, List.flatten_cons]
    exact h.append (Reps.flatten_rep h n)

/-- what an operation on values comes to -/
def rBin (fa : FnA) (o : BOp) : R2 := fun x y H Q => ∃ g st d e r, Wok fa g st H ∧ View fa g H x d ∧ View fa g H y e ∧ binD o st d e = some r ∧ ∀ g' H' v, ResOk fa g H g' H' v ⟨r.1, r.2, st⟩ → Q v H'
variable {fa : FnA}
theorem ls_int {st : Store} {i : Int} : lsD st (.int i) = none := rfl
theorem op_bin (o : BOp) : OpR X (binaryOp (bopOf o)) (rBin fa o) := by
  intro pins s σ H x y v u Q I rx ry ⟨g, st, d, e, r, w, V1, V2, eb, q⟩
  have old : ∀ d' w', Rep fa g H w' d' → r = (d', false) → Q w' H := fun d' w' h er => q g H w' (by rw [er]; exact res_old w h)
  cases o with
  | add =>
    unfold binD at eb
    dsimp only at eb
    split at eb
    · cases V1.int; cases V2.int; cases eb
      exact op_add pins s σ H _ _ v u Q I rx ry ⟨_, _, rfl, rfl, old _ _ (.int _) rfl⟩
    · cases V1.str; cases V2.str
      split at eb
      · cases eb
        exact op_add_str pins s σ H _ _ v u Q I rx ry ⟨_, _, rfl, rfl, by assumption, old _ _ (.str _) rfl⟩
      · cases eb
    · split at eb
      · rename_i xs ys ex ey
        split at eb
        · rename_i hz
          cases eb
          obtain ⟨a, vs, rfl, ra, ha⟩ := V1.ls w ex
          obtain ⟨b, ws, rfl, rb, hb⟩ := V2.ls w ey
          exact op_cat pins s σ H _ _ v u Q I rx ry ⟨a, b, vs, ws, rfl, rfl, ra, rb, by rw [ha.length, hb.length]; exact hz, fun p hp => q g _ _ (res_lst w hp (ha.append hb))⟩
        · cases eb
      · cases eb
  | sub =>
    unfold binD at eb
    dsimp only at eb
    split at eb
    · cases V1.int; cases V2.int; cases eb
      exact op_sub pins s σ H _ _ v u Q I rx ry ⟨_, _, rfl, rfl, old _ _ (.int _) rfl⟩
    · cases eb
  | mul =>
    unfold binD at eb
    dsimp only at eb
    split at eb
    · cases V1.int; cases V2.int
      split at eb
      · rename_i hm
        cases eb
        exact op_mulW pins s σ H _ _ v u Q I rx ry ⟨_, _, rfl, rfl, hm, old _ _ (.int _) rfl⟩
      · cases eb
    · cases V2.int
      split at eb
      · rename_i xs ex
        split at eb
        · rename_i hz
          cases eb
          obtain ⟨a, vs, rfl, ra, ha⟩ := V1.ls w ex
          exact op_rep pins s σ H _ _ v u Q I rx ry ⟨a, _, vs, rfl, rfl, ra, hz.2.1, hz.2.2, by rw [ha.length]; exact hz.1, fun p hp => q g _ _ (res_lst w hp (ha.flatten_rep _))⟩
        · cases eb
      · cases eb
    · cases eb
  | fdiv =>
    unfold binD at eb
    dsimp only at eb
    split at eb
    · cases V1.int; cases V2.int
      split at eb
      · rename_i hm
        cases eb
        exact op_fdivW pins s σ H _ _ v u Q I rx ry ⟨_, _, rfl, rfl, hm, old _ _ (.int _) rfl⟩
      · cases eb
    · cases eb
  | mod =>
    unfold binD at eb
    dsimp only at eb
    split at eb
    · cases V1.int; cases V2.int
      split at eb
      · rename_i hm
        cases eb
        exact op_mod pins s σ H _ _ v u Q I rx ry ⟨_, _, rfl, rfl, hm, old _ _ (.int _) rfl⟩
      · cases eb
    · cases eb
  | pow =>
    unfold binD at eb
    dsimp only at eb
    split at eb
    · cases V1.int; cases V2.int
      split at eb
      · rename_i hm
        cases eb
        exact op_powW pins s σ H _ _ v u Q I rx ry ⟨_, _, rfl, rfl, hm, old _ _ (.int _) rfl⟩
      · cases eb
    · cases eb

/-- is, is not: a constant on the right -/
theorem relV_beq {x y : V} {v u : Value} (rx : RelV x v) (ry : RelV y u) (hy : y = .non ∨ ∃ b, y = .bl b) : PySem.plainIs v u = true ∧ (v == u) = decide (x = y) := by
  rcases hy with rfl | ⟨b, rfl⟩
  · cases ry
    cases x <;> first
      | (cases rx; exact ⟨rfl, rfl⟩)
      | (obtain ⟨t, rfl⟩ := rx; exact ⟨rfl, rfl⟩)
  · cases ry
    cases x <;> first
      | (cases rx; exact ⟨rfl, rfl⟩)
      | (obtain ⟨t, rfl⟩ := rx; exact ⟨rfl, rfl⟩)
      | (cases rx; rename_i c; cases b <;> cases c <;> exact ⟨rfl, rfl⟩)
theorem op_isC : OpR X (compareOp .Is) (fun x y H Q => (y = .non ∨ ∃ b, y = .bl b) ∧ Q (.bl (decide (x = y))) H) := by
  intro pins s σ H x y v u Q I rx ry ⟨hy, q⟩
  obtain ⟨h1, h2⟩ := relV_beq rx ry hy
  exact wpAny_is_plain h1 (by rw [h2]; exact ⟨.bl _, H, I, rfl, q⟩)
theorem op_isnC : OpR X (compareOp .IsNot) (fun x y H Q => (y = .non ∨ ∃ b, y = .bl b) ∧ Q (.bl (!decide (x = y))) H) := by
  intro pins s σ H x y v u Q I rx ry ⟨hy, q⟩
  obtain ⟨h1, h2⟩ := relV_beq rx ry hy
  exact wpAny_isNot_plain h1 (by rw [h2]; exact ⟨.bl _, H, I, rfl, q⟩)
theorem op_inDct (hu : X.A.units + 1 < cLine) : OpR X (compareOp .In) (fun x y H Q => ∃ a o, y = .ref a ∧ DGet H a x o ∧ Q (.bl o.isSome) H) := by
  intro pins s σ H x y v u Q I rx ry ⟨a, o, ey, g, q⟩
  subst ey
  cases ry
  exact d_in hu I g rx fun s' I' => ⟨.bl _, H, I', rfl, q⟩
theorem op_ninDct (hu : X.A.units + 1 < cLine) : OpR X (compareOp .NotIn) (fun x y H Q => ∃ a o, y = .ref a ∧ DGet H a x o ∧ Q (.bl (!o.isSome)) H) := by
  intro pins s σ H x y v u Q I rx ry ⟨a, o, ey, g, q⟩
  subst ey
  cases ry
  exact d_notIn hu I g rx fun s' I' => ⟨.bl _, H, I', rfl, q⟩

theorem keyD_view {g : G} {H : Hp} {v : V} {d : D} {k : Key} (h : View fa g H v d) (e : keyD d = some k) : v = kV k := by
  unfold keyD at e
  split at e
  · cases e; exact h.int
  · cases e; exact h.str
  · cases e
theorem repK_val {g : G} {H : Hp} (k : Key) : ∀ {kvs : List (Key × V)} {ks : List (Key × D)}, RepK fa g H kvs ks → (∀ d, getK ks k = some d → ∃ v, valV kvs k = some v ∧ Rep fa g H v d) ∧ (getK ks k = none → valV kvs k = none)
  | _, [], h => by cases h; exact ⟨fun d e => by simp [getK] at e, fun _ => rfl⟩
  | _, (j, d) :: ks, h => by
    cases h with
    | cons h1 h2 =>
      obtain ⟨i1, i2⟩ := repK_val k h2
      by_cases e : j = k
      · subst e
        refine ⟨fun d' e' => ?_, fun e' => ?_⟩
        · have : d = d' := by simpa [getK] using e'
          subst this
          exact ⟨_, by simp [valV], h1⟩
        · simp [getK] at e'
      · have g1 : getK ((j, d) :: ks) k = getK ks k := by simp [getK, List.find?_cons, e]
        have g2 : ∀ (w : V) r, valV ((j, w) :: r) k = valV r k := fun w r => by simp [valV, List.find?_cons, e]
        rw [g1, g2]
        exact ⟨i1, i2⟩
theorem repK_isSome {g : G} {H : Hp} (k : Key) {kvs : List (Key × V)} {ks : List (Key × D)} (h : RepK fa g H kvs ks) : (valV kvs k).isSome = (getK ks k).isSome := by
  obtain ⟨h1, h2⟩ := repK_val k h
  cases e : getK ks k with
  | none => rw [h2 e]; rfl
  | some d => obtain ⟨v, e', _⟩ := h1 d e; rw [e']; rfl
theorem dget_of {H : Hp} {a : Addr} {kvs : List (Key × V)} (k : Key) (r : Rd H a (.dK kvs)) : DGet H a (kV k) (valV kvs k) := .inl ⟨kvs, k, r, rfl, rfl⟩

def rCmp (fa : FnA) (o : COp) : R2 := fun x y H Q => ∃ g st d e r, Wok fa g st H ∧ View fa g H x d ∧ View fa g H y e ∧ cmpD o st d e = some r ∧ Q (.bl r) H
theorem isD_ok {g : G} {H : Hp} {x y : V} {d e : D} {r : Bool} (V1 : View fa g H x d) (V2 : View fa g H y e) (h : isD d e = some r) : (y = .non ∨ ∃ b, y = .bl b) ∧ decide (x = y) = r := by
  unfold isD at h
  split at h
  · cases V2.non
    refine ⟨.inl rfl, ?_⟩
    cases h
    rcases V1 with h1 | ⟨a, rfl, o⟩
    · cases h1 <;> simp
    · have t := o.top
      cases d <;> first | (exact t.elim) | simp
  · rename_i b
    cases V2.bl
    refine ⟨.inr ⟨b, rfl⟩, ?_⟩
    cases h
    rcases V1 with h1 | ⟨a, rfl, o⟩
    · cases h1 <;> simp
      rename_i c
      cases b <;> cases c <;> rfl
    · have t := o.top
      cases d <;> first | (exact t.elim) | simp
  · cases h
theorem op_cmp (hu : X.A.units + 65 < cLine) (o : COp) : OpR X (compareOp (copOf o)) (rCmp fa o) := by
  intro pins s σ H x y v u Q I rx ry ⟨g, st, d, e, r, w, V1, V2, eb, q⟩
  have eqs : ∀ r, cmpD .eq st d e = some r → ∃ p p', Dp X.K H x p ∧ Dp X.K H y p' ∧ SeqAt.shaped p = true ∧ SeqAt.shaped p' = true ∧ PyData.eqv p p' = r := fun r eb => by
    unfold cmpD at eb
    dsimp only at eb
    unfold eqD at eb
    split at eb
    · rename_i p p' e1 e2
      cases eb
      exact ⟨p, p', V1.dp X.K w (shp_py e1).1, V2.dp X.K w (shp_py e2).1, (shp_py e1).2, (shp_py e2).2, rfl⟩
    · cases eb
  have ins : ∀ r, inD st d e = some r → (∃ a o, y = .ref a ∧ DGet H a x o ∧ o.isSome = r) ∨ ∃ p ps, Dp X.K H x p ∧ Dp X.K H y (.list ps) ∧ SeqAt.shaped p = true ∧ SeqAt.shaped (.list ps) = true ∧ (ps.any fun z => PyData.eqv z p) = r := fun r eb => by
    unfold inD at eb
    split at eb
    · rename_i ks k ek kk
      cases eb
      obtain ⟨a, kvs, rfl, rd, rk⟩ := V2.dc w ek
      cases keyD_view V1 kk
      exact .inl ⟨a, _, rfl, dget_of k rd, repK_isSome k rk⟩
    · split at eb
      · rename_i ys ey
        split at eb
        · rename_i p qs e1 e2
          cases eb
          exact .inr ⟨p, qs, V1.dp X.K w (shp_py e1).1, ls_dp X.K w V2 ey (shp_py e2).1, (shp_py e1).2, (shp_py e2).2, rfl⟩
        · cases eb
      · cases eb
  cases o with
  | lt =>
    unfold cmpD at eb
    dsimp only at eb
    split at eb
    · cases V1.int; cases V2.int; cases eb
      exact op_lt pins s σ H _ _ v u Q I rx ry ⟨_, _, rfl, rfl, q⟩
    · cases V1.str; cases V2.str; cases eb
      exact op_lt_str pins s σ H _ _ v u Q I rx ry ⟨_, _, rfl, rfl, q⟩
    · cases eb
  | le =>
    unfold cmpD at eb
    dsimp only at eb
    split at eb
    · cases V1.int; cases V2.int; cases eb
      exact op_le pins s σ H _ _ v u Q I rx ry ⟨_, _, rfl, rfl, q⟩
    · cases eb
  | gt =>
    unfold cmpD at eb
    dsimp only at eb
    split at eb
    · cases V1.int; cases V2.int; cases eb
      exact op_gt pins s σ H _ _ v u Q I rx ry ⟨_, _, rfl, rfl, q⟩
    · cases eb
  | ge =>
    unfold cmpD at eb
    dsimp only at eb
    split at eb
    · cases V1.int; cases V2.int; cases eb
      exact op_ge pins s σ H _ _ v u Q I rx ry ⟨_, _, rfl, rfl, q⟩
    · cases eb
  | eq =>
    obtain ⟨p, p', h1, h2, h3, h4, h5⟩ := eqs r eb
    exact op_eqD (by omega) pins s σ H _ _ v u Q I rx ry ⟨p, p', h1, h2, h3, h4, by rw [h5]; exact q⟩
  | ne =>
    have e2 : ∃ r', cmpD .eq st d e = some r' ∧ r = !r' := by
      unfold cmpD at eb ⊢
      dsimp only at eb ⊢
      rw [Option.map_eq_some_iff] at eb
      obtain ⟨r', h1, h2⟩ := eb
      exact ⟨r', h1, h2.symm⟩
    obtain ⟨r', e2, rfl⟩ := e2
    obtain ⟨p, p', h1, h2, h3, h4, h5⟩ := eqs r' e2
    exact op_neD (by omega) pins s σ H _ _ v u Q I rx ry ⟨p, p', h1, h2, h3, h4, by rw [h5]; exact q⟩
  | isO =>
    obtain ⟨h1, h2⟩ := isD_ok V1 V2 (show isD d e = some r from eb)
    exact op_isC pins s σ H _ _ v u Q I rx ry ⟨h1, by rw [h2]; exact q⟩
  | isn =>
    obtain ⟨r', e1, e2⟩ := Option.map_eq_some_iff.mp (show (isD d e).map (!·) = some r from eb)
    obtain ⟨h1, h2⟩ := isD_ok V1 V2 e1
    exact op_isnC pins s σ H _ _ v u Q I rx ry ⟨h1, by rw [h2, e2]; exact q⟩
  | inn =>
    rcases ins r (show inD st d e = some r from eb) with ⟨a, o, h1, h2, h3⟩ | ⟨p, ps, h1, h2, h3, h4, h5⟩
    · exact op_inDct (by omega) pins s σ H _ _ v u Q I rx ry ⟨a, o, h1, h2, by rw [h3]; exact q⟩
    · exact op_inD hu pins s σ H _ _ v u Q I rx ry ⟨p, ps, h1, h2, h3, h4, by rw [h5]; exact q⟩
  | nin =>
    obtain ⟨r', e1, e2⟩ := Option.map_eq_some_iff.mp (show (inD st d e).map (!·) = some r from eb)
    rcases ins r' e1 with ⟨a, o, h1, h2, h3⟩ | ⟨p, ps, h1, h2, h3, h4, h5⟩
    · exact op_ninDct (by omega) pins s σ H _ _ v u Q I rx ry ⟨a, o, h1, h2, by rw [h3, e2]; exact q⟩
    · exact op_notInD hu pins s σ H _ _ v u Q I rx ry ⟨p, ps, h1, h2, h3, h4, by rw [h5, e2]; exact q⟩
end
end EV

/-! EV: sum(xs, []) of a list of lists. -/
namespace EV
open PySem PySem.Spec PyProof.Rows L2
theorem sub_list_str' : isSubtype (.type "list") (.type "str") = pure false := by rw [isSubtype_type]; kernel_rfl
theorem sub_list_bytes' : isSubtype (.type "list") (.type "bytes") = pure false := by rw [isSubtype_type]; kernel_rfl
theorem sub_list_bytearray' : isSubtype (.type "list") (.type "bytearray") = pure false := by rw [isSubtype_type]; kernel_rfl
theorem args_sum2' (a b : Value) : argsOk "sum" ⟨[a, b], []⟩ := by unfold argsOk; kernel_rfl
abbrev LsO (h : Heap) (l : Addr) (us : List Value) : Prop := ∃ n, h.get? l = some { cls := .type "list", dict := none, data := .seq us.toArray n, slots := #[] }
section
variable {prog : Program} {w : World} {A : Around} {R : Result → Shared → Prop}
theorem sum_lists (hh : A.in1.handled = none) (I a S : Addr) (hne : a ≠ I) (hSI : S ≠ I) (hSa : S ≠ a) (ps : List Addr) (uss : List (List Value)) (hps : ps.length = uss.length) (hz : uss.flatten.length ≤ sizeLine) (hpS : ∀ p ∈ ps, p ≠ S ∧ p ≠ I) :
    ∀ (k i : Nat) (s : Shared) (T : Addr) (c : Nat) (acc : List Value), ps.length - i = k → i ≤ ps.length → s.heap.IsListIter I a i ∧ s.heap.IsList a (ps.map Value.ref).toArray → (∀ (j : Nat) (p : Addr) (us : List Value), ps[j]? = some p → uss[j]? = some us → LsO s.heap p us) →
      s.heap.get? S = some { cls := .type "list", dict := none, data := .seq #[.ref T] c, slots := #[] } → LsO s.heap T acc → acc ++ (uss.drop i).flatten = uss.flatten → T ≠ S → T ≠ I →
      (∀ h' tk T', (∀ b o, b ≠ S → b ≠ I → s.heap.get? b = some o → h'.get? b = some o) → LsO h' T' uss.flatten → ((T' = T ∧ k = 0) ∨ s.heap.objs.size ≤ T') → R (.ok (.ret (.ref T'))) { s with heap := h', toks := tk }) →
      codeAny (model prog w) A (.builtin "sum.loop" ⟨[.ref I, .ref S, rawInt 2, rawInt 0], []⟩) R s := by
  have W := Walks.list (prog := prog) (w := w) (A := A.in1) hh I a hne (ps.map Value.ref).toArray
  have hsz : (ps.map Value.ref).toArray.size = ps.length := by simp
  intro k
  induction k with
  | zero =>
    intro i s T c acc hk hi hst hls hS hT hacc hTS hTI hR
    have hin : i = ps.length := by omega
    subst hin
    refine codeAny_builtin F.entry_sum_loop ?_
    rw [Around.under_plainId F.plain_sum_loop _]
    show wpAny _ A.in1 (seqItems? (.ref S) >>= _) _ _ s
    refine wpAny_bind (wpAny_seqItems hS rfl ?_)
    show wpAny _ A.in1 (tryCatch (pyNext (.ref I)) _ >>= _) _ _ s
    refine wpAny_bind (wpAny_tryCatch (W.done s _ _ (by rw [hsz]; exact hst) fun h' tk hk' => ?_))
    rw [hps, List.drop_length] at hacc
    have hacc : acc = uss.flatten := by simpa using hacc
    obtain ⟨n, hT⟩ := hT
    refine wpAny_pure (hR h' tk T (fun b o _ hb e => hk' b o (by simpa using hb) e) ⟨n, by rw [← hacc]; exact hk' T _ (by simpa using hTI) hT⟩ (.inl ⟨rfl, rfl⟩))
  | succ k ih =>
    intro i s T c acc hk hi hst hls hS hT hacc hTS hTI hR
    have hlt : i < ps.length := by omega
    refine codeAny_builtin F.entry_sum_loop ?_
    rw [Around.under_plainId F.plain_sum_loop _]
    show wpAny _ A.in1 (seqItems? (.ref S) >>= _) _ _ s
    refine wpAny_bind (wpAny_seqItems hS rfl ?_)
    show wpAny _ A.in1 (tryCatch (pyNext (.ref I)) _ >>= _) _ _ s
    refine wpAny_bind (wpAny_tryCatch (wpAny_pyNext_list_item hst.1 hst.2 (x := .ref ps[i]) (by simp [hlt]) fun h' hit' hs' => ?_))
    have hst' : h'.IsListIter I a (i + 1) ∧ h'.IsList a (ps.map Value.ref).toArray := ⟨hit', hst.2.extBut hs'.extBut hne⟩
    have hlu : i < uss.length := by omega
    have keep : ∀ b o, b ≠ I → s.heap.get? b = some o → h'.get? b = some o := fun b o hb e => hs'.extBut b o hb e
    obtain ⟨n1, hT1⟩ := hT
    obtain ⟨n2, hp2⟩ := hls i ps[i] uss[i] (by simp [hlt]) (by simp [hlu])
    obtain ⟨hpS', hpI'⟩ := hpS ps[i] (List.getElem_mem hlt)
    have hS' := keep S _ hSI hS
    have hT' := keep T _ hTI hT1
    have hp' := keep ps[i] _ hpI' hp2
    have hd : (uss.drop i).flatten = uss[i] ++ (uss.drop (i + 1)).flatten := by rw [List.drop_eq_getElem_cons hlu, List.flatten_cons]
    have hlen : acc.length + uss[i].length ≤ sizeLine := by
      have := congrArg List.length hacc
      rw [hd] at this
      simp only [List.length_append] at this
      omega
    show wpAny _ A.in1 ((holding [Value.ref ps[i]] (binaryOp .Add (.ref T) (.ref ps[i]))).attempt >>= _) _ _ _
    refine wpAny_bind (wpAny_attempt (wpAny_holding (PySem.P.add_list (s := { s with heap := h' }) hT' hp' ?_ (by simpa using hlen))))
    have eap : acc.toArray ++ uss[i].toArray = (acc ++ uss[i]).toArray := by simp
    rw [eap]
    have hSlt : S < h'.objs.size := Heap.lt_size hS'
    have hilt : I < h'.objs.size := by obtain ⟨⟨o, e, _⟩, _⟩ := hst'; exact Heap.lt_size e
    have hS1 : (h'.push { cls := .type "list", data := .seq (acc ++ uss[i]).toArray }).get? S = some { cls := .type "list", dict := none, data := .seq #[.ref T] c, slots := #[] } := Heap.get?_push_of_some _ hS'
    show wpAny _ A.in1 (updateSeq S (fun _ => #[.ref h'.objs.size]) >>= _) _ _ _
    refine wpAny_bind (wpAny_updateSeq hS1 rfl ?_)
    have hS2 := Heap.get?_update_self (Obj.mapSeq fun _ => #[Value.ref h'.objs.size]) hS1 rfl
    refine wpAny_bind (wpAny_letGo ?_)
    refine wpAny_bind (wpAny_updateSeq hS2 rfl (wpAny_pure ⟨plainId_quiet F.plain_sum_loop _, ?_⟩))
    have hS3 := Heap.get?_update_self (Obj.mapSeq fun _ => #[Value.ref h'.objs.size]) hS2 rfl
    have up : ∀ b o, b ≠ S → h'.get? b = some o → (((h'.push { cls := .type "list", data := .seq (acc ++ uss[i]).toArray }).update S (Obj.mapSeq fun _ => #[Value.ref h'.objs.size])).update S (Obj.mapSeq fun _ => #[Value.ref h'.objs.size])).get? b = some o := fun b o hb e =>
      (Heap.get?_update_other _ _ (Ne.symm hb)).trans ((Heap.get?_update_other _ _ (Ne.symm hb)).trans (Heap.get?_push_of_some _ e))
    have nS : h'.objs.size ≠ S := Nat.ne_of_gt hSlt
    refine ih (i + 1) _ h'.objs.size _ (acc ++ uss[i]) (by omega) hlt ?_ (fun j p us hj hu => ?_) hS3 ⟨_, (Heap.get?_update_other _ _ (Ne.symm nS)).trans ((Heap.get?_update_other _ _ (Ne.symm nS)).trans (Heap.get?_push_size _ rfl))⟩ (by rw [← hacc, hd, List.append_assoc]) nS (Nat.ne_of_gt hilt) fun h'' tk'' T'' hk'' hT'' hle => ?_
    · exact ⟨hst'.1.at fun o e => up _ _ (Ne.symm hSI) e, hst'.2.at fun o e => up _ _ (Ne.symm hSa) e⟩
    · obtain ⟨m, e⟩ := hls j p us hj hu
      obtain ⟨q1, q2⟩ := hpS p (List.mem_of_getElem? hj)
      exact ⟨m, up _ _ q1 (keep _ _ q2 e)⟩
    · refine hR h'' tk'' T'' (fun b o hbS hbI e => hk'' b o hbS hbI (up _ _ hbS (keep _ _ hbI e))) hT'' (.inr ?_)
      have hle0 : s.heap.objs.size ≤ h'.objs.size := Nat.le_of_eq hs'.1.symm
      have sz : (((h'.push { cls := .type "list", data := .seq (acc ++ uss[i]).toArray }).update S (Obj.mapSeq fun _ => #[Value.ref h'.objs.size])).update S (Obj.mapSeq fun _ => #[Value.ref h'.objs.size])).objs.size = h'.objs.size + 1 := by
        simp [Heap.update, Heap.push]
      rcases hle with ⟨rfl, _⟩ | hle
      · exact hle0
      · have hle2 : h'.objs.size + 1 ≤ T'' := by rw [← sz]; exact hle
        omega
end
section
variable {X : Cx}
theorem call_sum2 {x b : Addr} {Q : Value → Shared → Prop} {prog : Program} {w : World} {A : Around} {E : Value → Shared → Prop} {s : Shared} (hh : A.in1.handled = none) (ps : List Addr) (uss : List (List Value)) (hx : s.heap.IsList x (ps.map Value.ref).toArray) (hb : LsO s.heap b []) (hps : ps.length = uss.length) (hne : ps ≠ []) (hz : uss.flatten.length ≤ sizeLine)
    (hls : ∀ (j : Nat) (p : Addr) (us : List Value), ps[j]? = some p → uss[j]? = some us → LsO s.heap p us)
    (h : ∀ h' tk T', (∀ b o, s.heap.get? b = some o → h'.get? b = some o) → LsO h' T' uss.flatten → s.heap.objs.size ≤ T' → Q (.ref T') { s with heap := h', toks := tk }) :
    wpAny (model prog w) A (call (.builtin "sum") [.ref x, .ref b]) Q E s := by
  obtain ⟨nb, hb⟩ := hb
  refine call_function_tree F.kind_sum F.plain_sum F.entry_sum (args_sum2' _ _) ?_
  unfold Builtin.«sum»
  simp only [List.length_cons, List.length_nil]
  rw [if_neg (by decide)]
  refine wpAny_bind (wpAny_of_eq (show Builtin.Builtins.bindParams "sum" ["start"] 0 ⟨[.ref b], []⟩ = pure [some (.ref b)] from rfl) ?_)
  have hlx : x < s.heap.objs.size := by obtain ⟨_, e, _⟩ := hx; exact Heap.lt_size e
  refine wpAny_bind (wpAny_pyIter_list hx ?_)
  refine wpAny_bind (wpAny_pure ?_)
  simp only [List.forIn_cons, List.forIn_nil]
  have k1 : ∀ b o, s.heap.get? b = some o → (s.heap.push { cls := .type "list_iterator", data := .fields #[.ref x, .int 0 0] }).get? b = some o := fun b o e => Heap.get?_push_of_some _ e
  have tb : Shared.TypeIs { s with heap := s.heap.push { cls := .type "list_iterator", data := .fields #[.ref x, .int 0 0] } } (.ref b) "list" := ⟨_, k1 _ _ hb, rfl⟩
  refine wpAny_bind (wpAny_bind (wpAny_bind (wpAny_isInstance (T := "list") (b := false) tb sub_list_str' ?_)))
  simp only [Bool.false_eq_true, if_false]
  refine wpAny_pure (wpAny_bind (wpAny_bind (wpAny_isInstance (T := "list") (b := false) tb sub_list_bytes' ?_)))
  simp only [Bool.false_eq_true, if_false]
  refine wpAny_pure (wpAny_bind (wpAny_bind (wpAny_isInstance (T := "list") (b := false) tb sub_list_bytearray' ?_)))
  simp only [Bool.false_eq_true, if_false]
  refine wpAny_pure (wpAny_pure ?_)
  refine wpAny_bind (wpAny_newObj_type ?_)
  have hs1 : (s.heap.push { cls := .type "list_iterator", data := .fields #[.ref x, .int 0 0] }).objs.size = s.heap.objs.size + 1 := Heap.size_push _ _
  rw [hs1]
  have k2 : ∀ b o, s.heap.get? b = some o → ((s.heap.push { cls := .type "list_iterator", data := .fields #[.ref x, .int 0 0] }).push { cls := .type "list", data := .seq [Value.ref b].toArray }).get? b = some o := fun _ _ e => Heap.get?_push_of_some _ (Heap.get?_push_of_some _ e)
  have hblt : b < s.heap.objs.size := Heap.lt_size hb
  have hplt : ∀ p ∈ ps, p < s.heap.objs.size := fun p hp => by
    obtain ⟨j, hj, e⟩ := List.mem_iff_getElem.mp hp
    obtain ⟨m, q⟩ := hls j p (uss[j]'(by omega)) (by rw [List.getElem?_eq_getElem hj, e]) (by rw [List.getElem?_eq_getElem])
    exact Heap.lt_size q
  have hS : ((s.heap.push { cls := .type "list_iterator", data := .fields #[.ref x, .int 0 0] }).push { cls := .type "list", data := .seq [Value.ref b].toArray }).get? (s.heap.objs.size + 1) = some { cls := .type "list", dict := none, data := .seq #[.ref b] 0, slots := #[] } := by
    rw [← hs1]; exact Heap.get?_push_size _ rfl
  refine wpAny_pure ⟨plainId_quiet F.plain_sum_loop _, sum_lists (T := b) (c := 0) (acc := []) hh s.heap.objs.size x (s.heap.objs.size + 1) (Nat.ne_of_lt hlx) (Nat.ne_of_gt (Nat.lt_succ_self _)) (Nat.ne_of_gt (Nat.lt_succ_of_lt hlx)) ps uss hps hz (fun p hp => ⟨Nat.ne_of_lt (Nat.lt_succ_of_lt (hplt p hp)), Nat.ne_of_lt (hplt p hp)⟩) ps.length 0 _ rfl (Nat.zero_le _) ?_ (fun j p us hj hu => ?_) hS ⟨nb, Heap.get?_push_of_some _ (k1 _ _ hb)⟩ rfl (Nat.ne_of_lt (Nat.lt_succ_of_lt hblt)) (Nat.ne_of_lt hblt) fun h' tk T' hk hT hle => ?_⟩
  · exact ⟨⟨_, Heap.get?_push_of_some _ (Heap.get?_push_size _ rfl), rfl, rfl⟩, (hx.push _).push _⟩
  · obtain ⟨m, q⟩ := hls j p us hj hu
    exact ⟨m, Heap.get?_push_of_some _ (k1 _ _ q)⟩
  · refine h h' tk T' (fun c o e => hk c o (Nat.ne_of_lt (Nat.lt_succ_of_lt (Heap.lt_size e))) (Nat.ne_of_lt (Heap.lt_size e)) (Heap.get?_push_of_some _ (k1 _ _ e))) hT ?_
    rcases hle with ⟨_, hle⟩ | hle
    · exact absurd (List.length_eq_zero_iff.mp hle) hne
    · have : s.heap.objs.size + 1 + 1 ≤ T' := by
        have e2 : ((s.heap.push { cls := .type "list_iterator", data := .fields #[.ref x, .int 0 0] }).push { cls := .type "list", data := .seq [Value.ref b].toArray }).objs.size = s.heap.objs.size + 1 + 1 := by rw [Heap.size_push, hs1]
        rw [← e2]; exact hle
      omega
end
section
variable {X : Cx} {fa : FnA} {g : G} {H H' : Hp} {st : Store}
/-- the lists at some addresses -/
inductive ListsAt (H : Hp) : List Addr → List (List V) → Prop
  | nil : ListsAt H [] []
  | cons {a : Addr} {as : List Addr} {vs : List V} {vss : List (List V)} : H a = some (.lst vs) → ListsAt H as vss → ListsAt H (a :: as) (vs :: vss)
inductive Repss (fa : FnA) (g : G) (H : Hp) : List (List V) → List (List D) → Prop
  | nil : Repss fa g H [] []
  | cons {vs : List V} {ds : List D} {vss : List (List V)} {dss : List (List D)} : Reps fa g H vs ds → Repss fa g H vss dss → Repss fa g H (vs :: vss) (ds :: dss)
theorem lists_of (w : Wok fa g st H) : ∀ {xs : List D} {vs : List V} {xss : List (List D)}, Reps fa g H vs xs → listsD st xs = some xss → ∃ ps wss, vs = ps.map V.ref ∧ ListsAt H ps wss ∧ Repss fa g H wss xss
  | [], _, _, h, e => by cases h; simp only [listsD, Option.some.injEq] at e; subst e; exact ⟨[], [], rfl, .nil, .nil⟩
  | x :: xs, _, _, h, e => by
    cases h with
    | cons h1 h2 =>
      simp only [listsD] at e
      split at e
      · rename_i y ys e1 e2
        cases e
        obtain ⟨a, vs, rfl, ha, hr⟩ := View.ls w (.inl h1) e1
        obtain ⟨ps, wss, rfl, h3, h4⟩ := lists_of w h2 e2
        exact ⟨a :: ps, vs :: wss, rfl, .cons ha h3, .cons hr h4⟩
      · cases e
theorem flat_reps : ∀ {wss : List (List V)} {xss : List (List D)}, Repss fa g H wss xss → Reps fa g H wss.flatten xss.flatten
  | _, _, .nil => .nil
  | _, _, .cons h1 h2 => by rw [List.flatten_cons, List.flatten_cons]; exact h1.append (flat_reps h2)
theorem flat_len {wss : List (List V)} {xss : List (List D)} (h : Repss fa g H wss xss) : wss.flatten.length = xss.flatten.length := (flat_reps h).length
/-- all that was there is there, one new list -/
theorem res_sumL (w : Wok fa g st H) {p : Addr} {vs : List V} {ds : List D} (hp : H p = none) (sm : Same H H') (ep : H' p = some (.lst vs)) (h : Reps fa g H vs ds) :
    ResOk fa g H g H' (.ref p) ⟨.lst ds, true, st⟩ := by
  have x : Ext g H g H' := ⟨fun _ h => h, fun _ h => .inl h, fun a u _ _ e => sm a u e, fun a kvs _ r => r.elim (fun r => .inl (sm _ _ r)) (fun ⟨o, r⟩ => .inr ⟨o, sm _ _ r⟩), fun a o _ _ e => sm a o e,
    fun _ _ => rfl, Nat.le_refl _, fun k h1 h2 => absurd h2 (Nat.not_lt.mpr h1), fun a h => (by
      cases e : H a with
      | none => exact absurd e h
      | some o => rw [sm a o e]; exact fun z => nomatch z), fun a o u e => sm _ _ e⟩
  exact ⟨x, w.ext x fun k o _ e => sm _ _ e, by rw [if_pos rfl]; exact ⟨p, rfl, hp, w.nf hp, w.nc hp, vs, ep, h.mono x⟩⟩
def rSumL : List V → Hp → VK → Prop := fun vs H Q => ∃ (a b : Addr) (ps : List Addr) (wss : List (List V)), vs = [.ref a, .ref b] ∧ H a = some (.lst (ps.map V.ref)) ∧ H b = some (.lst []) ∧ ListsAt H ps wss ∧ wss.flatten.length ≤ LIM ∧ ps ≠ [] ∧
  ∀ H' p, H p = none → Same H H' → H' p = some (.lst wss.flatten) → Q (.ref p) H'
theorem vals_refs : ∀ {ps : List Addr} {us : List Value}, Vals (ps.map V.ref) us → us = ps.map Value.ref
  | [], _, h => by cases h; rfl
  | p :: ps, _, h => by
    cases h with
    | cons a b => cases a; rw [vals_refs b]; rfl
theorem lists_at {pins : List (Addr × Obj)} {σ : L2.St} {s : Shared} (I : L2.Inv X pins σ H s) : ∀ {ps : List Addr} {wss : List (List V)}, ListsAt H ps wss → ∃ uss : List (List Value), Paired Vals wss uss ∧ ps.length = uss.length ∧ ∀ (j : Nat) (p : Addr) (us : List Value), ps[j]? = some p → uss[j]? = some us → LsO s.heap p us
  | _, _, .nil => ⟨[], .nil, rfl, fun j p us h _ => by simp at h⟩
  | _, _, .cons h1 h2 => by
    obtain ⟨uss, p1, p2, p3⟩ := lists_at I h2
    obtain ⟨z, its, n, r, hl, e⟩ := I.lstM h1
    refine ⟨its :: uss, .cons r p1, by simp [p2], fun j p us hj hu => ?_⟩
    cases j with
    | zero => simp at hj hu; subst hj hu; exact ⟨n, e⟩
    | succ j => exact p3 j p us (by simpa using hj) (by simpa using hu)
theorem flat_vals : ∀ {wss : List (List V)} {uss : List (List Value)}, Paired Vals wss uss → Vals wss.flatten uss.flatten
  | _, _, .nil => .nil
  | _, _, .cons h1 h2 => by rw [List.flatten_cons, List.flatten_cons]; exact h1.append (flat_vals h2)
theorem cr_sumL (hc : X.calm = true) : CallR X (.builtin "sum") rSumL := by
  intro pins s σ H xs us Q I r ⟨a, b, ps, wss, e, hA, hB, hL, hlen, hne, q⟩
  subst e
  obtain ⟨u1, u2, rfl, r1, r2⟩ := r.two
  cases r1
  cases r2
  obtain ⟨its, rv, pl, _⟩ := I.list (SqL.of hA)
  have ei := vals_refs rv
  subst ei
  obtain ⟨zb, itb, nb, rb, hlb, eb⟩ := I.lstM hB
  cases rb
  obtain ⟨uss, p1, p2, p3⟩ := lists_at I hL
  have fv := flat_vals p1
  refine call_sum2 (A := X.A) (I.ok.hd hc) ps uss pl.isList ⟨nb, eb⟩ p2 hne (by rw [← fv.length]; exact hlen) p3 fun h' tk T' hk ⟨m, hT⟩ hle => ?_
  have I2 : L2.Inv X pins σ (upd H T' (.lst wss.flatten)) { s with heap := h', toks := tk } := I.laid hk hle ⟨hlen, uss.flatten, m, fv, hT⟩
  have hn := I.hok.fresh hle
  exact ⟨.ref T', _, I2, rfl, q _ T' hn (fun c o e => by rw [upd_ne (ne_of_none e hn)]; exact e) upd_same⟩
end
end EV

/-! EV, part Rp: repr, str, dict of pairs. -/
namespace EV
open PySem PySem.Spec PyProof.Rows L2
section
variable {X : Cx}
theorem call_reprD (gd : X.A.guards = some []) (hu : X.A.units + 65 < cLine) : CallR X (.builtin "repr") (fun xs H Q => ∃ x p, xs = [x] ∧ Dp X.K H x p ∧ SeqAt.shaped p = true ∧ p.showable = true ∧ p.shown.length ≤ sizeLine ∧ Q (.str p.shown) H) := by
  intro pins s σ H xs us Q I r ⟨x, p, e, hd, hs, hw, hz, q⟩
  subst e
  obtain ⟨u, rfl, ru⟩ := vals1 r
  have dep := SeqAt.depth_of_shaped hs
  cases hd with
  | non => cases ru; exact PySem.P.repr_of_none ⟨.str _, H, I.tok _, ⟨_, rfl⟩, q⟩
  | bl b =>
    cases ru
    refine PySem.P.repr_of_bool ⟨.str _, H, I.tok _, ⟨_, rfl⟩, ?_⟩
    cases b <;> exact q
  | int i => obtain ⟨t, rfl⟩ := ru; exact PySem.P.repr_of_int (by simpa [PyData.showable] using hw) ⟨.str _, H, I.tok _, ⟨_, rfl⟩, q⟩
  | str y => obtain ⟨t, rfl⟩ := ru; exact PySem.P.repr_of_str ⟨.str _, H, I.tok _, ⟨_, rfl⟩, q⟩ hz
  | lst h1 h2 =>
    obtain rfl : u = .ref _ := ru
    obtain ⟨as, rd⟩ := Dp.reads I _ _ _ (.lst h1 h2) (rfl : RelV (.ref _) (.ref _))
    exact repr_of_reads' rd hw (fun z => absurd z (by rw [PyData.hasDict_of_canLay _ (SeqAt.canLay_of_shaped hs)]; decide)) gd (by omega) (fun _ _ z => z) (fun h' u tk kp => ⟨.str _, H, I.kept kp, ⟨_, rfl⟩, q⟩) hz
  | tup h1 h2 =>
    obtain rfl : u = .ref _ := ru
    obtain ⟨as, rd⟩ := Dp.reads I _ _ _ (.tup h1 h2) (rfl : RelV (.ref _) (.ref _))
    exact repr_of_reads' rd hw (fun z => absurd z (by rw [PyData.hasDict_of_canLay _ (SeqAt.canLay_of_shaped hs)]; decide)) gd (by omega) (fun _ _ z => z) (fun h' u tk kp => ⟨.str _, H, I.kept kp, ⟨_, rfl⟩, q⟩) hz
/-- sorted(d), d a dict whose keys are all ints, however many -/
theorem call_sortedDany (calm : X.calm = true) : CallR X (.builtin "sorted") (fun xs H Q => ∃ (a : Addr) (kvs : List (L2.Key × V)) (ks : List Int), xs = [.ref a] ∧ Rd H a (.dK kvs) ∧ kvs.map (·.1) = ks.map Sum.inl ∧
    ∀ (ys : List Int) (p : Addr), ys.Perm ks → ys.Pairwise (· ≤ ·) → H p = none → Q (.ref p) (upd H p (.lst (ys.map V.int)))) := by
  rintro pins s σ H xs us Q I rv ⟨a, kvs, ks, rfl, rd, hks, q⟩
  obtain ⟨u, rfl, ru⟩ := vals1 rv
  obtain rfl : u = Value.ref a := ru
  obtain ⟨big, notsys, vs, kv, dd⟩ := dk_rd I.hok rd
  obtain ⟨ep, at_⟩ := dd.dictAt
  have keys : vs.map (·.1) = ks.map Sum.inl := kv.keys.symm.trans hks
  have len : vs.length = ks.length := by simpa using congrArg List.length keys
  have len2 : kvs.length = ks.length := by simpa using congrArg List.length hks
  have sz : ks.length ≤ sizeLine := len2 ▸ big
  refine Calls.call_function_entry PyProof.Rows.kind_sorted PyProof.Rows.plain_sorted PyProof.Rows.entry_sorted (PyProof.Rows.args_sorted1 _) ?_
  unfold Builtin.«sorted»
  refine wpAny_bind (m := checkCount "sorted" 1 1 _) (wpAny_pure (wpAny_bind ?_))
  refine PySem.W.kdu_collect (A := X.A.in1) (PySem.W.kdl_dict (knd := mixKind X.prog X.w) (kvs := vs) (ep := ep) notsys) (I.ok.hd calm) at_ (by rw [len]; exact sz) ?_
  intro h1 tk acc kept got
  have al : acc.toList.length = ks.length := by rw [Array.length_toList, got.1, len]
  have areI : IntsAre acc.toList ks := by
    refine ints_each al ?_
    intro j v e
    obtain ⟨k, x, f1, f2⟩ := got.2 j v (by rw [← Array.getElem?_toList]; exact e)
    have f3 : (ks.map Sum.inl)[j]? = some k := by rw [← keys, List.getElem?_map, f1]; rfl
    rw [List.getElem?_map] at f3
    obtain ⟨y, f4, rfl⟩ := Option.map_eq_some_iff.mp f3
    rcases keyIs_shape (show keyIs (Sum.inl y) v = true from f2) with ⟨i, t, g1, g2⟩ | ⟨z, t, g1, _⟩
    · cases g1
      exact ⟨y, t, f4, g2⟩
    · cases g1
  have J : Inv X pins σ H { s with heap := h1, toks := tk } := I.kept kept
  refine wpAny_bind (wpAny_newList ?_ (by rw [al]; exact sz))
  have new : (h1.push (seqObj "list" acc.toList.toArray 0)).get? h1.objs.size = some (seqObj "list" acc.toList.toArray 0) := Heap.get?_push_size _ rfl
  show wpAny _ _ _ _ _ { s with heap := h1.push (seqObj "list" acc.toList.toArray 0), toks := tk }
  refine wpAny_bind (wpAny_holding (wpAny_call_entry PyProof.Rows.slot_list_sort ⟨_, new, rfl⟩ PyProof.Rows.entry_list_sort ?_ (PyProof.Rows.args_list_sort _)))
  refine SrtO.list_sort_ord SrtO.swo_int new (by rw [al]; exact sz) (fun two => SrtO.ints_sortable areI two) ?_
  intro out srt stb
  obtain ⟨k1, k2, k3⟩ := SrtO.ints_out areI srt stb
  obtain ⟨ep2, at2⟩ := PyProof.Rows.sortedHeap_at (vs := acc.toList) (out := out.toArray) new
  have fits : ((out.map SrtO.iv).map V.int).length ≤ sizeLine := by rw [List.length_map, k2.length_eq]; exact sz
  have old : ∀ b u, h1.get? b = some u → (PyProof.Rows.sortedHeap (h1.push (seqObj "list" acc.toList.toArray 0)) h1.objs.size acc.toList out.toArray).get? b = some u := by
    intro b u e
    have lt : b < h1.objs.size := Heap.lt_size e
    rw [PyProof.Rows.sortedHeap_old (Nat.ne_of_lt lt) (by rw [size_push']; exact Nat.lt_succ_of_lt lt)]
    exact Heap.get?_push_of_some _ e
  exact ⟨.none, rfl, wpAny_pure ⟨_, rfl, .ref h1.objs.size, upd H h1.objs.size (.lst ((out.map SrtO.iv).map V.int)), J.laid (t' := tk) old (Nat.le_refl _) ⟨fits, out, ep2, vals_of_ints k1, at2⟩, rfl, q _ _ k2 k3 (J.hok.fresh (Nat.le_refl _))⟩⟩
end
end EV

/-! EV, part E: built-in functions and methods on values. -/
namespace EV
open PySem PySem.Spec PyProof.Rows L2

/-! ### ints -/
theorem maxI_spec : ∀ (m : Int) (ns : List Int), maxI m ns ∈ m :: ns ∧ ∀ y ∈ m :: ns, y ≤ maxI m ns
  | m, [] => ⟨List.mem_cons_self, fun y h => by simp at h; simp [maxI, h]⟩
  | m, n :: r => by
    have h := maxI_spec (if n > m then n else m) r
    show maxI (if n > m then n else m) r ∈ _ ∧ ∀ y ∈ _, y ≤ maxI (if n > m then n else m) r
    obtain ⟨h1, h2⟩ := h
    have h3 := h2 _ List.mem_cons_self
    refine ⟨?_, fun y hy => ?_⟩
    · rcases List.mem_cons.mp h1 with e | e
      · rw [e]; split <;> simp
      · exact List.mem_cons_of_mem _ (List.mem_cons_of_mem _ e)
    · rcases List.mem_cons.mp hy with e | hy
      · subst e; refine Int.le_trans ?_ h3; split <;> omega
      · rcases List.mem_cons.mp hy with e | hy
        · subst e; refine Int.le_trans ?_ h3; split <;> omega
        · exact h2 y (List.mem_cons_of_mem _ hy)
theorem minI_spec : ∀ (m : Int) (ns : List Int), minI m ns ∈ m :: ns ∧ ∀ y ∈ m :: ns, minI m ns ≤ y
  | m, [] => ⟨List.mem_cons_self, fun y h => by simp at h; simp [minI, h]⟩
  | m, n :: r => by
    have h := minI_spec (if n < m then n else m) r
    show minI (if n < m then n else m) r ∈ _ ∧ ∀ y ∈ _, minI (if n < m then n else m) r ≤ y
    obtain ⟨h1, h2⟩ := h
    have h3 := h2 _ List.mem_cons_self
    refine ⟨?_, fun y hy => ?_⟩
    · rcases List.mem_cons.mp h1 with e | e
      · rw [e]; split <;> simp
      · exact List.mem_cons_of_mem _ (List.mem_cons_of_mem _ e)
    · rcases List.mem_cons.mp hy with e | hy
      · subst e; refine Int.le_trans h3 ?_; split <;> omega
      · rcases List.mem_cons.mp hy with e | hy
        · subst e; refine Int.le_trans h3 ?_; split <;> omega
        · exact h2 y (List.mem_cons_of_mem _ hy)
theorem insI_perm (n : Int) : ∀ ms : List Int, (insI n ms).Perm (n :: ms)
  | [] => .refl _
  | m :: r => by
    unfold insI
    split
    · exact .refl _
    · exact ((insI_perm n r).cons m).trans (.swap n m r)
theorem sortI_perm : ∀ ms : List Int, (sortI ms).Perm ms
  | [] => .refl _
  | m :: r => (insI_perm m _).trans ((sortI_perm r).cons m)
theorem insI_sorted (n : Int) : ∀ ms : List Int, ms.Pairwise (· ≤ ·) → (insI n ms).Pairwise (· ≤ ·)
  | [], _ => List.pairwise_singleton _ _
  | m :: r, h => by
    unfold insI
    obtain ⟨h1, h2⟩ := List.pairwise_cons.mp h
    split
    · refine List.pairwise_cons.mpr ⟨fun y hy => ?_, h⟩
      rcases List.mem_cons.mp hy with e | hy
      · subst e; assumption
      · exact Int.le_trans (by assumption) (h1 y hy)
    · refine List.pairwise_cons.mpr ⟨fun y hy => ?_, insI_sorted n r h2⟩
      rcases List.mem_cons.mp ((insI_perm n r).mem_iff.mp hy) with e | hy
      · subst e; omega
      · exact h1 y hy
theorem sortI_sorted : ∀ ms : List Int, (sortI ms).Pairwise (· ≤ ·)
  | [] => .nil
  | m :: r => insI_sorted m _ (sortI_sorted r)
theorem sorted_eq {xs ys : List Int} (p : xs.Perm ys) (hx : xs.Pairwise (· ≤ ·)) (hy : ys.Pairwise (· ≤ ·)) : xs = ys :=
  p.eq_of_pairwise (fun a b _ _ h1 h2 => Int.le_antisymm h1 h2) hx hy
theorem sortI_eq {xs ms : List Int} (p : xs.Perm ms) (hx : xs.Pairwise (· ≤ ·)) : xs = sortI ms :=
  sorted_eq (p.trans (sortI_perm ms).symm) hx (sortI_sorted ms)

theorem intsD_map : ∀ {ds : List D} {ns : List Int}, intsD ds = some ns → ds = ns.map D.int
  | [], _, h => by simp [intsD] at h; subst h; rfl
  | d :: r, ns, h => by
    cases d <;> simp only [intsD, Option.map_eq_some_iff, reduceCtorEq] at h
    obtain ⟨ms, h1, rfl⟩ := h
    simp [intsD_map h1]
theorem blsD_map : ∀ {ds : List D} {ns : List Bool}, blsD ds = some ns → ds = ns.map D.bl
  | [], _, h => by simp [blsD] at h; subst h; rfl
  | d :: r, ns, h => by
    cases d <;> simp only [blsD, Option.map_eq_some_iff, reduceCtorEq] at h
    obtain ⟨ms, h1, rfl⟩ := h
    simp [blsD_map h1]

section
variable {fa : FnA} {g : G} {H : Hp} {st : Store} {v : V} {d : D}
theorem View.ints (w : Wok fa g st H) (h : View fa g H v d) {ns : List Int} (e : (lsD st d).bind intsD = some ns) : ∃ a, v = .ref a ∧ H a = some (.lst (ns.map V.int)) := by
  obtain ⟨xs, e1, e2⟩ := Option.bind_eq_some_iff.mp e
  obtain ⟨a, vs, rfl, r, hs⟩ := h.ls w e1
  rw [intsD_map e2] at hs
  rw [hs.ints] at r
  exact ⟨a, rfl, r⟩
theorem View.bls (w : Wok fa g st H) (h : View fa g H v d) {ns : List Bool} (e : (lsD st d).bind blsD = some ns) : ∃ a, v = .ref a ∧ H a = some (.lst (ns.map V.bl)) := by
  obtain ⟨xs, e1, e2⟩ := Option.bind_eq_some_iff.mp e
  obtain ⟨a, vs, rfl, r, hs⟩ := h.ls w e1
  rw [blsD_map e2] at hs
  rw [hs.bls] at r
  exact ⟨a, rfl, r⟩
theorem View.sq {K : PySem.W.Frag} (hS : ScrOk fa K) (w : Wok fa g st H) (h : View fa g H v d) {xs : List D} (e : sqD st d = some xs) : ∃ a vs, v = .ref a ∧ (SqL K H a vs ∨ SqT K H a vs) ∧ Reps fa g H vs xs := by
  have go : rdD st d = some xs → ∃ a vs, v = .ref a ∧ (SqL K H a vs ∨ SqT K H a vs) ∧ Reps fa g H vs xs := fun e => let ⟨a, vs, h1, h2, h3⟩ := h.rd hS w e; ⟨a, vs, h1, .inl h2, h3⟩
  cases d with
  | tup ds =>
    simp only [sqD, Option.some.injEq] at e
    subst e
    obtain ⟨a, vs, h1, h2, h3⟩ := h.tup
    exact ⟨a, vs, h1, .inr (SqT.of h2), h3⟩
  | _ => exact go e
theorem RepK.keys {kvs : List (Key × V)} : ∀ {ks : List (Key × D)}, RepK fa g H kvs ks → kvs.map (·.1) = ks.map (·.1) := by
  induction kvs with
  | nil => intro ks h; cases h; rfl
  | cons p r ih => intro ks h; cases h with | cons h1 h2 => simp [ih h2]
theorem RepK.length {kvs : List (Key × V)} {ks : List (Key × D)} (h : RepK fa g H kvs ks) : kvs.length = ks.length := by
  have := congrArg List.length h.keys
  simpa using this
theorem keys_ints : ∀ {ks : List Key} {ns : List Int}, intsD (ks.map dK) = some ns → ks = ns.map Sum.inl
  | [], _, h => by simp [intsD] at h; subst h; rfl
  | .inl i :: r, ns, h => by
    simp only [List.map_cons, dK, intsD, Option.map_eq_some_iff] at h
    obtain ⟨ms, h1, rfl⟩ := h
    simp [keys_ints h1]
  | .inr i :: r, ns, h => by simp [dK, intsD] at h
end

section
variable {fa : FnA}
theorem RepK.put {g : G} {H : Hp} {k : Key} {v : V} {d : D} : ∀ {kvs : List (Key × V)} {ks : List (Key × D)}, RepK fa g H kvs ks → Rep fa g H v d → RepK fa g H (putK kvs k v) (putD ks k d) := by
  intro kvs ks h r
  have hany : (kvs.any fun kv => decide (kv.1 = k)) = (ks.any fun kv => decide (kv.1 = k)) := by
    have e := h.keys
    have e1 : (kvs.any fun kv => decide (kv.1 = k)) = (kvs.map (·.1)).any fun z => decide (z = k) := by rw [List.any_map]; rfl
    have e2 : (ks.any fun kv => decide (kv.1 = k)) = (ks.map (·.1)).any fun z => decide (z = k) := by rw [List.any_map]; rfl
    rw [e1, e2, e]
  unfold putK putD
  rw [hany]
  split
  · clear hany
    rename_i hn
    clear hn
    induction kvs generalizing ks with
    | nil => cases h; exact .nil
    | cons p q ih =>
      cases h with
      | cons h1 h2 =>
        rename_i k' v' ks' d'
        rw [List.map_cons, List.map_cons]
        by_cases e : k' = k
        · simp only [e, if_pos]
          exact .cons r (ih h2)
        · simp only [e, if_neg, not_false_eq_true]
          exact .cons h1 (ih h2)
  · clear hany
    rename_i hn
    clear hn
    induction kvs generalizing ks with
    | nil => cases h; exact .cons r .nil
    | cons p q ih => cases h with | cons h1 h2 => exact .cons h1 (ih h2)
theorem mkD_rep {g : G} {H : Hp} : ∀ {ps : List (V × V)} {ds es : List D} {kk : List Key} {kvs0 : List (Key × V)} {acc : List (Key × D)}, Reps fa g H (ps.map (·.1)) ds → Reps fa g H (ps.map (·.2)) es → keysD ds = some kk → RepK fa g H kvs0 acc →
    ∃ kvs : List (Key × V), ps = kvs.map (fun kv => (kV kv.1, kv.2)) ∧ RepK fa g H (mergeK kvs0 kvs) (mkD kk es acc)
  | [], ds, es, kk, kvs0, acc, h1, h2, hk, h0 => by
    cases h1; cases h2
    cases hk
    exact ⟨[], rfl, by unfold mkD mergeK; exact h0⟩
  | (a, b) :: ps, ds, es, kk, kvs0, acc, h1, h2, hk, h0 => by
    cases h1 with
    | cons r1 t1 =>
      cases h2 with
      | cons r2 t2 =>
        simp only [keysD] at hk
        split at hk
        · rename_i k ks e1 e2
          cases hk
          have ea := keyD_view (.inl r1) e1
          obtain ⟨kvs, e3, e4⟩ := mkD_rep t1 t2 e2 (h0.put (k := k) r2)
          refine ⟨(k, b) :: kvs, by rw [List.map_cons, ← e3]; dsimp only at ea ⊢; rw [ea], ?_⟩
          unfold mkD
          exact e4
        · cases hk
theorem paired_map {α β γ : Type} {R : α → γ → Prop} {f : β → γ} : ∀ {as : List α} {bs : List β}, Paired R as (bs.map f) → Paired (fun a b => R a (f b)) as bs
  | [], [], _ => .nil
  | [], _ :: _, h => nomatch h
  | _ :: _, [], h => nomatch h
  | a :: as, b :: bs, h => by cases h with | cons h1 h2 => exact .cons h1 (paired_map h2)
theorem pairs_of {g : G} {H : Hp} {K : PySem.W.Frag} : ∀ {xs : List D} {vs : List V} {ks es : List D}, Reps fa g H vs xs → pairsD xs = some (ks, es) → ∃ (as : List Addr) (ps : List (V × V)), vs = as.map V.ref ∧ Paired (fun p q => SqT K H p [q.1, q.2]) as ps ∧ Reps fa g H (ps.map (·.1)) ks ∧ Reps fa g H (ps.map (·.2)) es
  | [], vs, ks, es, h, e => by
    cases h
    unfold pairsD at e; cases e
    exact ⟨[], [], rfl, .nil, .nil, .nil⟩
  | x :: xs, vs, ks, es, h, e => by
    unfold pairsD at e
    split at e
    · rename_i h0; cases h0
    · rename_i k v r hx
      cases hx
      obtain ⟨⟨k2, e2⟩, e3, e4⟩ := Option.map_eq_some_iff.mp e
      cases e4
      cases h with
      | cons h1 h2 =>
        cases h1 with
        | tup hf hr hs =>
          cases hs with
          | cons a1 hs2 =>
            cases hs2 with
            | cons a2 hs3 =>
              cases hs3
              obtain ⟨as, ps, e5, e6, e7, e8⟩ := pairs_of (K := K) h2 e3
              exact ⟨_ :: as, (_, _) :: ps, by rw [e5]; rfl, .cons (SqT.of hr) e6, .cons a1 e7, .cons a2 e8⟩
    · cases e
end
def biV : Bi → Value
  | .len => .builtin "len" | .abs => .builtin "abs" | .max => .builtin "max" | .min => .builtin "min" | .int => .type "int" | .sum => .builtin "sum" | .sorted => .builtin "sorted"
  | .list => .type "list" | .tuple => .type "tuple" | .all => .builtin "all" | .any => .builtin "any" | .str => .type "str" | .repr => .builtin "repr" | .dict => .type "dict"

section
variable {X : Cx} {fa : FnA}
theorem call_lenD : CallR X (.builtin "len") (fun xs H Q => ∃ a kvs, xs = [.ref a] ∧ Rd H a (.dK kvs) ∧ Q (.int kvs.length) H) := by
  intro pins s σ H xs us Q I r ⟨a, kvs, e, rd, q⟩
  subst e
  obtain ⟨u, rfl, ru⟩ := vals1 r
  cases ru
  exact d_len I rd fun t s' I' => ⟨.int _, H, I', ⟨_, rfl⟩, q⟩
def rBi (fa : FnA) (b : Bi) : List V → Hp → VK → Prop := fun xs H Q => ∃ g st ds r, Wok fa g st H ∧ Views fa g H xs ds ∧ biD b st ds = some r ∧ ∀ g' H' v, ResOk fa g H g' H' v ⟨r.1, r.2, st⟩ → Q v H'
theorem cr_bi (hS : ScrOk fa X.K) (hc : X.calm = true) (gd : X.A.guards = some []) (hu : X.A.units + 65 < cLine) (b : Bi) : CallR X (biV b) (rBi fa b) := by
  intro pins s σ H xs us Q I r ⟨g, st, ds, res, w, vw, eb, q⟩
  have old : ∀ d' w', Rep fa g H w' d' → res = (d', false) → Q w' H := fun d' w' h er => q g H w' (by rw [er]; exact res_old w h)
  unfold biD at eb
  split at eb
  · -- len
    cases vw with
    | cons V1 vn =>
      cases vn
      split at eb
      · cases V1.str
        split at eb
        · cases eb
          exact call_len pins s σ H _ us Q I r ⟨_, _, rfl, ⟨by assumption, rfl⟩, old _ _ (.int _) rfl⟩
        · cases eb
      · split at eb
        · rename_i ys ey
          cases eb
          obtain ⟨a, vs, rfl, h1, h2⟩ := V1.sq hS w ey
          refine call_len pins s σ H _ us Q I r ⟨_, vs.length, rfl, h1.elim (fun h => .inl ⟨vs, h, rfl⟩) (fun h => .inr ⟨vs, h, rfl⟩), ?_⟩
          rw [h2.length]
          exact old _ _ (.int _) rfl
        · split at eb
          · rename_i ks ek
            cases eb
            obtain ⟨a, vs, rfl, h1, h2⟩ := V1.dc w ek
            refine call_lenD pins s σ H _ us Q I r ⟨_, vs, rfl, h1, ?_⟩
            rw [h2.length]
            exact old _ _ (.int _) rfl
          · cases eb
  · cases vw with | cons V1 vn => cases vn; cases V1.int; cases eb; exact call_abs pins s σ H _ us Q I r ⟨_, rfl, old _ _ (.int _) rfl⟩
  · cases vw with
    | cons V1 vn => cases vn with
      | cons V2 vn => cases vn; cases V1.int; cases V2.int; cases eb; exact call_max2 hc pins s σ H _ us Q I r ⟨_, _, rfl, old _ _ (.int _) rfl⟩
  · cases vw with
    | cons V1 vn => cases vn with
      | cons V2 vn => cases vn; cases V1.int; cases V2.int; cases eb; exact call_min2 hc pins s σ H _ us Q I r ⟨_, _, rfl, old _ _ (.int _) rfl⟩
  · cases vw with
    | cons V1 vn =>
      cases vn
      split at eb
      · rename_i n ns en
        cases eb
        obtain ⟨a, rfl, ha⟩ := V1.ints w en
        refine cr_max hc pins s σ H _ us Q I r ⟨a, _, rfl, SqL.of ha, by simp, fun m h1 h2 => ?_⟩
        obtain ⟨s1, s2⟩ := maxI_spec n ns
        rw [Int.le_antisymm (s2 m h1) (h2 _ s1)]
        exact old _ _ (.int _) rfl
      · cases eb
  · cases vw with
    | cons V1 vn =>
      cases vn
      split at eb
      · rename_i n ns en
        cases eb
        obtain ⟨a, rfl, ha⟩ := V1.ints w en
        refine cr_min hc pins s σ H _ us Q I r ⟨a, _, rfl, SqL.of ha, by simp, fun m h1 h2 => ?_⟩
        obtain ⟨s1, s2⟩ := minI_spec n ns
        rw [Int.le_antisymm (h2 _ s1) (s2 m h1)]
        exact old _ _ (.int _) rfl
      · cases eb
  · cases vw with | cons V1 vn => cases vn; cases V1.int; cases eb; exact call_int1 pins s σ H _ us Q I r (.inl ⟨_, rfl, old _ _ (.int _) rfl⟩)
  · cases vw with | cons V1 vn => cases vn; cases V1.bl; cases eb; exact call_int1 pins s σ H _ us Q I r (.inr ⟨_, rfl, old _ _ (.int _) rfl⟩)
  · cases vw with
    | cons V1 vn =>
      cases vn
      split at eb
      · rename_i ns en
        cases eb
        obtain ⟨a, rfl, ha⟩ := V1.ints w en
        exact cr_sum hc pins s σ H _ us Q I r ⟨a, _, rfl, SqL.of ha, old _ _ (.int _) rfl⟩
      · cases eb
  · cases vw with
    | cons V1 vn => cases vn with
      | cons V2 vn =>
        cases vn
        split at eb
        · rename_i xss ex
          split at eb
          · rename_i hz
            cases eb
            obtain ⟨b, vs2, rfl, hb, hb2⟩ := V2.ls (st := st) w rfl
            cases hb2
            obtain ⟨xs, e1, e2⟩ := Option.bind_eq_some_iff.mp ex
            obtain ⟨a, vs, rfl, ha, hs⟩ := V1.ls w e1
            obtain ⟨ps, wss, h1, h2, h3⟩ := lists_of w hs e2
            subst h1
            have hl : wss.flatten.length = xss.flatten.length := flat_len h3
            exact cr_sumL hc pins s σ H _ us Q I r ⟨a, b, ps, wss, rfl, ha, hb, h2, by rw [hl]; exact hz.1, (fun z => by subst z; cases h2; cases h3; exact hz.2 rfl), fun H' p hp sm ep => q g H' _ (res_sumL w hp sm ep (flat_reps h3))⟩
          · cases eb
        · cases eb
  · cases vw with
    | cons V1 vn =>
      cases vn
      split at eb
      · rename_i ns en
        cases eb
        obtain ⟨a, rfl, ha⟩ := V1.ints w en
        refine cr_sortedI pins s σ H _ us Q I r ⟨a, _, rfl, SqL.of ha, fun ns' p h1 h2 hp => ?_⟩
        rw [sortI_eq h1 h2]
        exact q _ _ _ (res_lst w hp Reps.of_ints)
      · split at eb
        · rename_i ks ek
          split at eb
          · rename_i ns en
            cases eb
            obtain ⟨a, kvs, rfl, h1, h2⟩ := V1.dc w ek
            have hk : kvs.map (·.1) = ns.map Sum.inl := by
              rw [h2.keys]
              refine keys_ints ?_
              rw [List.map_map]
              exact en
            refine call_sortedDany hc pins s σ H _ us Q I r ⟨a, kvs, ns, rfl, h1, hk, fun ys p h1 h2 hp => ?_⟩
            rw [sortI_eq h1 h2]
            exact q _ _ _ (res_lst w hp Reps.of_ints)
          · cases eb
        · cases eb
  · cases vw with
    | cons V1 vn =>
      cases vn
      split at eb
      · rename_i ys ey
        cases eb
        obtain ⟨a, vs, rfl, h1, h2⟩ := V1.sq hS w ey
        exact call_list_of pins s σ H _ us Q I r ⟨a, vs, rfl, h1, fun p hp => q _ _ _ (res_lst w hp h2)⟩
      · cases eb
  · cases vw with
    | cons V1 vn =>
      cases vn
      split at eb
      · rename_i ns en
        cases eb
        obtain ⟨a, rfl, ha⟩ := V1.bls w en
        exact cr_all hc pins s σ H _ us Q I r ⟨a, _, rfl, SqL.of ha, old _ _ (.bl _) rfl⟩
      · cases eb
  · cases vw with
    | cons V1 vn =>
      cases vn
      split at eb
      · rename_i ns en
        cases eb
        obtain ⟨a, rfl, ha⟩ := V1.bls w en
        exact cr_any hc pins s σ H _ us Q I r ⟨a, _, rfl, SqL.of ha, old _ _ (.bl _) rfl⟩
      · cases eb
  · cases vw with
    | cons V1 vn =>
      cases vn
      split at eb
      · rename_i p ep
        split at eb
        · rename_i hz
          cases eb
          obtain ⟨h1, h2⟩ := shp_py ep
          exact call_reprD gd hu pins s σ H _ us Q I r ⟨_, p, rfl, V1.dp X.K w h1, h2, hz.1, hz.2, old _ _ (.str _) rfl⟩
        · cases eb
      · cases eb
  · cases vw with
    | cons V1 vn =>
      cases vn; cases V1.int
      split at eb
      · rename_i hz
        cases eb
        exact call_str_int pins s σ H _ us Q I r ⟨_, rfl, hz, old _ _ (.str _) rfl⟩
      · cases eb
  · cases vw with | cons V1 vn => cases vn; cases V1.str; cases eb; exact SkE.call_str_str pins s σ H _ us Q I r ⟨_, rfl, old _ _ (.str _) rfl⟩
  · cases vw with
    | cons V1 vn =>
      cases vn
      split at eb
      · rename_i ks es ep
        split at eb
        · rename_i kk ek
          cases eb
          obtain ⟨xs, e1, e2⟩ := Option.bind_eq_some_iff.mp ep
          obtain ⟨a, vs, rfl, ha, hs⟩ := V1.ls w e1
          obtain ⟨as, ps, rfl, p1, p2, p3⟩ := pairs_of (K := X.K) hs e2
          obtain ⟨kvs, rfl, hm⟩ := mkD_rep p2 p3 ek (.nil (fa := fa) (g := g) (H := H))
          have p4 : Paired (fun p kv => SqT X.K H p [kV kv.1, kv.2]) as kvs := paired_map (R := fun p (q : V × V) => SqT X.K H p [q.1, q.2]) (f := fun kv : Key × V => (kV kv.1, kv.2)) p1
          exact call_dictP hc pins s σ H _ us Q I r ⟨a, as, kvs, rfl, SqL.of ha, p4, fun p hp => q _ _ _ (res_dct w hp hm)⟩
        · cases eb
      · cases eb
  · cases eb
end
end EV

/-! EV, part Fn: a def's promise where no repr is under way around it (so that repr of lists may be asked). -/
namespace EV
open PySem PySem.Spec PyProof.Rows L2
/-- as the layer's promise of a def, but for surroundings in which no repr runs -/
structure FnG (P : Program) (w : World) (K : PySem.W.Frag) (mg : Str → Option Value) (base : Heap) (CX : CXT) (k : Nat) (f : Addr) (fd : FuncData) (ps : List Str) (sp : Sp) : Prop where
  ln : ∀ vs H Q E, sp vs H Q E → vs.length = ps.length
  go : ∀ (A : Around) (out : List PySem.Env) (t : Shared) (H : Hp) (ar : Args) (ws : List Value) (xs : List V) (Q : VK) (E : XK), Room k A → A.guards = some [] → Env0 P w K mg base A out t H → BindsTo t fd ar (ps.zip ws) →
    Vals xs ws → sp xs H Q E → codeAny (model P w) A (.call (.ref f) ar) (CR CX out P w H t Q E) t
section
variable {X : Cx} {CX : CXT} {j : Nat} {f : Addr} {fd : FuncData} {ps : List Str} {sp : Sp} {E : XK}
/-- such a def called, from a body -/
theorem FnG.call {pins : List (Addr × Obj)} {σ : L2.St} {H : Hp} {t : Shared} {Q : VK} {ar : Args} {ws : List Value} {xs : List V} (F : FnG X.prog X.w X.K X.mg X.base CX j f fd ps sp) (rm : Room j X.A) (gd : X.A.guards = some [])
    (px : Passes CX X E) (J : Inv X pins σ H t) (bd : BindsTo t fd ar (ps.zip ws)) (rv : Vals xs ws) (q : sp xs H Q E) : wpAny (model X.prog X.w) X.A (PySem.call (.ref f) ar.pos ar.kw) (EP X pins σ Q) X.xe t := by
  have body := F.go X.A X.stack t H ar ws xs Q E rm gd J.env0 bd rv q
  refine wpAny_call (codeAny_mono body ?_)
  intro res t2 end_
  match res with
  | .error err => exact px pins σ H t err t2 J end_
  | .ok (.ret u) => exact J.after end_
  | .ok .next => exact end_.elim
  | .ok .brk => exact end_.elim
  | .ok .cont => exact end_.elim
variable {nm : Str} {np pos : Pos} {e : Expr} {es : List Expr} {ta : TA}
theorem peG_call (F : FnG X.prog X.w X.K X.mg X.base CX j f fd ps sp) (rm : Room j X.A) (gd : X.A.guards = some []) (gn : Gl X nm) (mn : X.mg nm = some (.ref f)) (kn : PySem.W.keepIn X.K (.ref f) = true) (bd : Binds X.K fd ps [])
    (px : Passes CX X E) (args : PA X (e :: es) ta) (db : (nm == ("__debug__" : Str)) = false) (s1 : starEach (e :: es) X.env = (false, eval e X.env) :: starEach es X.env) (s2 : (backTo pos (starEach es X.env)).any (·.1) = false) :
    PE X (.Call (.Name nm np) (e :: es) [] pos) (tCall sp [] E ta) := ⟨fun pins t σ H Q J q =>
  wpAny_Call_Name_kw (ld_glob J gn mn (PySem.W.callWith_K (h₀ := X.base) J.ok.mod.kin kn (thn (args.run pos pins t σ H _ J q) fun us t1 ⟨vs, H1, J1, rv, q1⟩ => ⟨J1.kIn, by
    have q2 : sp vs H1 Q E := by have z : sp (vs ++ []) H1 Q E := q1; rw [List.append_nil] at z; exact z
    have hl : us.length = ps.length := by rw [← rv.length]; exact F.ln _ _ _ _ q2
    exact F.call (ar := ⟨us, []⟩) rm gd px J1 (by have := bd t1 us J1.kIn (by rw [List.append_nil]; exact hl); rw [List.append_nil] at this; exact this) rv q2⟩) s1 s2) db)⟩
theorem peG_call0 (F : FnG X.prog X.w X.K X.mg X.base CX j f fd ps sp) (rm : Room j X.A) (gd : X.A.guards = some []) (gn : Gl X nm) (mn : X.mg nm = some (.ref f)) (kn : PySem.W.keepIn X.K (.ref f) = true) (bd : Binds X.K fd ps [])
    (px : Passes CX X E) (db : (nm == ("__debug__" : Str)) = false) : PE X (.Call (.Name nm np) [] [] pos) (tCall sp [] E tNil) := ⟨fun pins t σ H Q J q =>
  wpAny_Call_Name_kw (ld_glob J gn mn (PySem.W.callWith_K0 J.kIn kn (by
    have q2 : sp [] H Q E := q
    have hl : 0 = ps.length := F.ln _ _ _ _ q2
    exact F.call (ar := ⟨[], []⟩) (ws := []) rm gd px J (by have := bd t [] J.kIn hl; exact this) .nil q2)) db)⟩
end
/-- a def of the text, by its body -/
theorem fnG_of {CX : CXT} {P : Program} {w : World} {K : PySem.W.Frag} {mg : Str → Option Value} {base : Heap} {k : Nat} {nm qual : Str} {params : Arguments} {body : List Stmt} {scope : Scope} {dvs : List V} {kws : List (Str × V)} {f : Addr} {fd : FuncData} {N ps : List Str} {sp : Sp}
    (F : FunD K nm qual params body scope dvs kws f fd) (S : FnScope N ps scope) (ln : ∀ vs H Q E, sp vs H Q E → vs.length = ps.length)
    (hb : ∀ (cdv : Value) (A : Around) (out : List PySem.Env) (t : Shared) (H : Hp) (vs : List V) (Q : VK) (E : XK), Room k (A.deeper (envOfC qual scope t.heap.objs.size f cdv)) → A.guards = some [] → sp vs H Q E →
      ∃ tt, PSs (cxOf CX P w K mg base N qual scope f cdv A out t H E) body tt ∧ tt { nx := fun _ H' => Q .non H', rt := Q } (start N vs) H) : FnG P w K mg base CX (k + 1) f fd ps sp := by
  obtain ⟨oc, od, dV, kV, doc, pm, an, cdv, ct, osl, rfl, lk, cd, _, _⟩ := F.ex
  refine ⟨ln, ?_⟩
  intro A out t H ar ws xs Q E rm gd en bd rv q
  have wl := ln xs H Q E q
  have kin : K.In t.heap := en.mod.kin.keeps (fun b o z => (en.bs b o z).1)
  have nol : t.heap.NoLimit := en.mod.nolimit.keeps (fun b o z => (en.bs b o z).1)
  have kinds : ∀ y ∈ ps.zip ws, scope.names.lookup y.1 = some .local ∨ (scope.names.lookup y.1 = some .cell ∧ ((cellsFrom (t.heap.objs.size + 1) scope.names []).lookup y.1).isSome = true) := by
    rintro ⟨y, v⟩ hy
    cases S.par y (List.of_mem_zip hy).1 with
    | inl z => exact Or.inl z
    | inr z => exact Or.inr ⟨z, PySem.W.cellsFrom_some _ _ _ (Or.inl z)⟩
  refine codeAny_call_function rm.depth (kin _ _ lk) rfl S.co S.gen rfl (PySem.W.codeRec_of kin cd) (bd _ _ _ _ (wpAny_newFunctionEnv_cells S.kind kinds ?_))
  rintro env rfl t1 made
  refine ⟨nol.keeps made.toInCall.keep, codeAny_func ?_⟩
  obtain ⟨tt, run, fits⟩ := hb cdv A out t H xs Q E (rm.deeper _) gd q
  refine wpAny_mono (run.run [] t1 (start N xs) H _ (inv_start S rm.hd en wl rv made) fits) ?_ (fun _ _ z => z)
  intro fl t2 z
  match fl, z with
  | .ret u, ⟨v, σ', H', J, ru, qu⟩ => exact ⟨v, H', J.os, J.bare, J.base, J.hok, ru, qu⟩
  | .next, ⟨σ', H', J, qu⟩ => exact ⟨.non, H', J.os, J.bare, J.base, J.hok, rfl, qu⟩
  | .brk, ⟨_, _, _, qu⟩ => exact qu.elim
  | .cont, ⟨_, _, _, qu⟩ => exact qu.elim
end EV

/-! EV, part End: the law's row from such a promise. -/
namespace EV
open PySem PySem.Spec PyProof.Rows L2
section
variable {P : Program} {w : World} {K : PySem.W.Frag} {mg mb : Str → Option Value} {k : Nat} {fa a : Addr} {fd : FuncData} {x : Str} {sp : Sp} {t : Shared} {vs : List Value} {ns : List Int}
/-- the script's object is all that is tracked -/
structure Alone (K : PySem.W.Frag) (t : Shared) (a : Addr) (vs : List Value) (H : Hp) : Prop where
  only : Only H
  at_ : ∀ b, H b ≠ none → b = a ∧ K.lookup a = none
  ok : HOk P w H t.heap
theorem law_one (KX : K.In t.heap) (hns : t.heap.Ns mainGlobals mg) (hmb : t.heap.Ns builtinsNs mb) (hbb : ∀ x : Str, x ≠ "__name__" → mb x = bootBuiltins x) (nol : t.heap.NoLimit) (ng : t.gens = #[])
    (ha : t.heap.get? a = some { cls := .type "list", data := .seq vs.toArray }) (rm : Room k callerA)
    (F : ∀ base : Heap, K.In base → base.Ns mainGlobals mg → FnG P w K mg base CX0 k fa fd [x] sp) (bind1 : ∀ (s : Shared) (u : Value), BindsTo s fd ⟨[u], []⟩ [(x, u)])
    {H : Hp} (only : Only H) (at1 : ∀ b, H b ≠ none → b = a) (at2 : H a ≠ none → K.lookup a = none) (ok : HOk P w H t.heap) (q : sp [.ref a] H (fun v _ => v = .bl true) fun _ _ _ => False) :
    codeAny (model P w) callerA (.call (.ref fa) ⟨[.ref a], []⟩) (fun r t2 => r = .ok (.ret (.bool true)) ∧ OldK t.heap t2.heap ∧ t2.os = t.os ∧ AllBare t2.gens) t := by
  have free : ∀ b o, t.heap.get? b = some o → (∀ es ep, o.data = .dict es ep → H b = none) := by
    intro b o e es ep hd
    by_cases z : H b = none
    · exact z
    · obtain rfl := at1 b z
      rw [ha] at e
      cases e
      cases hd
  have hid : ∀ {b : Addr} {m : Str → Option Value}, t.heap.Ns b m → (hidT t.heap H).Ns b m := by
    rintro b m ⟨o, es, ep, e, hd, r⟩
    exact ⟨o, es, ep, hidT_get e (free b o e es ep hd), hd, r⟩
  have KB : K.In (hidT t.heap H) := by
    intro b o e
    refine hidT_get (KX b o e) ?_
    by_cases z : H b = none
    · exact z
    · obtain rfl := at1 b z
      rw [at2 z] at e
      cases e
  have md : Mod K mg (hidT t.heap H) := by
    obtain ⟨mc, z1, z2⟩ := nol
    exact ⟨KB, hid hns, ⟨mb, hid hmb, hbb⟩, ⟨mc, hid z1, z2⟩⟩
  have en : Env0 P w K mg (hidT t.heap H) callerA [] t H := by
    refine ⟨rfl, md, fun b o e => of_hidT e, Nat.le_of_eq (hidT_size _ _), trivial, ?_, ok, .of_eq ng⟩
    intro b hb
    cases hb
  refine codeAny_mono ((F _ KB (hid hns)).go callerA [] t H ⟨[.ref a], []⟩ [.ref a] [.ref a] _ _ rm rfl en (bind1 t (.ref a)) (.cons rfl .nil) q) ?_
  intro r t2 z
  match r, z with
  | .ok (.ret u), ⟨v, H2, os, br, un, ok2, ru, hv⟩ =>
    have hv' : v = V.bl true := hv
    subst hv'
    obtain rfl : u = Value.bool true := ru
    refine ⟨rfl, OldK.of_keep ?_, os, br⟩
    intro b o e
    cases hb : H b with
    | none => exact un.keep b o e hb (fun z => nomatch z) (fun z => nomatch z)
    | some u =>
      rcases only b with z | ⟨ob, xs, z⟩
      · rw [hb] at z; cases z
      · obtain ⟨f1, _⟩ := ok b _ z
        obtain ⟨f2, _⟩ := ok2 b _ (un.frzs b ob _ z)
        rw [e] at f1
        cases f1
        exact f2
  | .error e, z => exact z.elim
  | .ok .next, z => exact z.elim
  | .ok .brk, z => exact z.elim
  | .ok .cont, z => exact z.elim
theorem law_callG (KX : K.In t.heap) (hns : t.heap.Ns mainGlobals mg) (hmb : t.heap.Ns builtinsNs mb) (hbb : ∀ x : Str, x ≠ "__name__" → mb x = bootBuiltins x) (nol : t.heap.NoLimit) (ng : t.gens = #[])
    (ha : t.heap.get? a = some { cls := .type "list", data := .seq vs.toArray }) (hi : IntsAre vs ns) (hl : ns.length ≤ sizeLine) (rm : Room k callerA)
    (F : ∀ base : Heap, K.In base → base.Ns mainGlobals mg → FnG P w K mg base CX0 k fa fd [x] sp) (bind1 : ∀ (s : Shared) (u : Value), BindsTo s fd ⟨[u], []⟩ [(x, u)])
    (q : ∀ H : Hp, Only H → SqL K H a (ns.map V.int) → sp [.ref a] H (fun v _ => v = .bl true) fun _ _ _ => False) :
    codeAny (model P w) callerA (.call (.ref fa) ⟨[.ref a], []⟩) (fun r t2 => r = .ok (.ret (.bool true)) ∧ OldK t.heap t2.heap ∧ t2.os = t.os ∧ AllBare t2.gens) t := by
  have rv := vals_ints hi
  have sz : vs.toArray.size ≤ sizeLine := by rw [List.size_toArray, hi.length]; exact hl
  match hk : K.lookup a with
  | some o =>
    have eo : o = { cls := .type "list", data := .seq vs.toArray } := Option.some.inj ((KX a o hk).symm.trans ha)
    subst eo
    have none_ : ∀ b, (fun _ => none : Hp) b ≠ none → b = a := fun b z => absurd rfl z
    refine law_one KX hns hmb hbb nol ng ha rm F bind1 (H := fun _ => none) (fun _ => .inl rfl) none_ (fun z => absurd rfl z) ?_ (q _ (fun _ => .inl rfl) ?_)
    · intro b u z
      cases z
    · exact .inr ⟨_, vs.toArray, _, hk, rfl, rfl, rfl, sz, by simpa using rv⟩
  | none =>
    let H : Hp := fun b => if b = a then some (.frz { cls := .type "list", data := .seq vs.toArray } (.lst (ns.map V.int))) else none
    have Ha : H a = some (.frz { cls := .type "list", data := .seq vs.toArray } (.lst (ns.map V.int))) := if_pos rfl
    have Hn : ∀ b, b ≠ a → H b = none := fun b hb => if_neg hb
    have only : Only H := fun b => by
      by_cases hb : b = a
      · subst hb; exact .inr ⟨_, _, Ha⟩
      · exact .inl (Hn b hb)
    refine law_one KX hns hmb hbb nol ng ha rm F bind1 (H := H) only ?_ (fun _ => hk) ?_ (q H only (.inl (.inr ⟨_, Ha⟩)))
    · intro b z
      by_cases hb : b = a
      · exact hb
      · exact absurd (Hn b hb) z
    · intro b u z
      by_cases hb : b = a
      · subst hb
        rw [Ha] at z
        cases z
        refine ⟨ha, ?_, vs, _, rv, ha⟩
        rw [List.length_map]
        exact hl
      · rw [Hn b hb] at z
        cases z
end
/-- the row -/
theorem walkG {l : PySem.W.OpenLaw} {n k : Nat} {q : Program} {loose : List Str} {XP : (Str → Option Value) → Heap → Prop} {YP : World → Heap → Prop} {d : DefRec} {x : Str} (hn : l.most = some n) (hn2 : n ≤ sizeLine) (hdf : d.params.defaults = []) (rm : Room k callerA)
    (F : ∀ (w : World) (mg : Str → Option Value) (fa : Addr) (h : Heap), YP w h → h.Ns mainGlobals mg → mg d.name = some (.ref fa) → ∃ (K : PySem.W.Frag) (fd : FuncData) (sp : Sp), K.In h ∧ (∀ (s : Shared) (u : Value), BindsTo s fd ⟨[u], []⟩ [(x, u)]) ∧
      (∀ (H : Hp) (a : Addr) (ns : List Int), ns.length ≤ n → Only H → SqL K H a (ns.map V.int) → sp [.ref a] H (fun v _ => v = .bl true) fun _ _ _ => False) ∧ ∀ base : Heap, K.In base → base.Ns mainGlobals mg → FnG l.prog w K mg base CX0 k fa fd [x] sp) :
    PySem.W.WalkO q loose XP YP l.row.toRowW d [] (fun f vs => PySem.call f vs) :=
  Att.attach_call hn hdf fun w s₀ s₁ mg mb fa o pm cd doc a vs ns G Y ho hd hcd hmg hobj hints hlen hg => by
    obtain ⟨K, fd, sp, KX, b1, q1, F1⟩ := F w mg fa _ Y G.T.g hmg
    exact law_callG KX G.T.g G.T.b G.T.builtins G.T.nolimit hg hobj hints (Nat.le_trans hlen hn2) rm F1 b1 fun H hO hS => q1 H a ns hlen hO hS
end EV

/-! EV, part F: a term that stands against the text comes to what it is said to come to (expressions). -/
namespace EV
open PySem PySem.Spec PyProof.Rows L2

/-- names of built-ins that the terms lean on -/
def BN : List Str := ["len", "abs", "max", "min", "int", "sum", "sorted", "list", "tuple", "all", "any", "str", "repr", "dict", "isinstance", "range", "enumerate", "zip", "bool"]
def spD (fa : FnA) (T : Prog) (n : Nat) (x : Str) : Sp := fun vs H Q _ => ∃ g st ds r, Wok fa g st H ∧ Reps fa g H vs ds ∧ T.run n x ds st = some r ∧ ∀ g' H' v, ResOk fa g H g' H' v r → Q v H'
def permL {α : Type} (ws : List α) : List Nat → List α
  | [] => []
  | i :: r => match ws[i]? with
    | some w => w :: permL ws r
    | none => permL ws r
structure Pk (T : Prog) (n : Nat) (P : Program) (w : World) (K : PySem.W.Frag) (mg : Str → Option Value) (base : Heap) (fa : FnA) : Prop where
  fn : ∀ x f, T.fn x = some f → ∃ a fd ps, mg x = some (.ref a) ∧ PySem.W.keepIn K (.ref a) = true ∧ FnG P w K mg base CX0 n a fd ps (spD fa T n x) ∧ Binds K fd ps [] ∧
    (∀ ns pm, (x, ns, pm) ∈ T.kw → ∀ (s : Shared) (ws : List Value), K.In s.heap → ws.length = ns.length → (permL ws pm).length = ps.length → BindsTo s fd ⟨[], ns.zip ws⟩ (ps.zip (permL ws pm)))
  none : ∀ x ds st r, T.run n x ds st = some r → ∃ f, T.fn x = some f
  glo : ∀ x d, T.glo x = some d → ∃ u v, mg x = some u ∧ RelV v u ∧ ∀ g H, Rep fa g H v d
  blt : ∀ x, x ∈ BN → mg x = Option.none
  scr : ScrOk fa K

structure Cok (T : Prog) (fa : FnA) (n : Nat) (c : SC) (X : Cx) : Prop where
  N : X.N = c.N
  sc : X.env.scope = c.sc
  fn : X.fn = c.fn
  kw : c.kw = T.kw
  nd : X.N.Nodup
  calm : X.calm = true
  xe : X.xe = fun _ _ => False
  room : Room n X.A
  gd : X.A.guards = some []
  pk : Pk T n X.prog X.w X.K X.mg X.base fa

section
variable {T : Prog} {fa : FnA} {n : Nat} {c : SC} {X : Cx} {e x y z : Expr} {pos : Pos}
theorem Cok.units (k : Cok T fa n c X) : X.A.units + 65 < cLine := by have := k.room.un; omega
theorem Cok.vis (k : Cok T fa n c X) {s : Str} (h : visB c.sc s = true) : Vis X.env.scope s := by
  rw [k.sc]
  unfold visB at h
  split at h <;> first | exact .inl (by assumption) | exact .inr (.inl (by assumption)) | exact .inr (.inr (by assumption)) | cases h
theorem Cok.gl (k : Cok T fa n c X) {s : Str} (h : glB c.sc s = true) : Gl X s := by
  unfold Gl Env.kindOf
  rw [k.sc]
  unfold glB at h
  split at h <;> first | assumption | cases h
theorem Cok.loc (k : Cok T fa n c X) {s : Str} (h : locB c s = true) : Loc X.env.scope s ∧ (X.fn s = true ∨ X.env.scope.names.lookup s = some .local) := by
  rw [k.sc, k.fn]
  unfold locB at h
  split at h
  · exact ⟨.inl (by assumption), .inr (by assumption)⟩
  · exact ⟨.inr (by assumption), .inl h⟩
  · cases h
theorem nameB_ok {s : Str} (h : nameB s = true) : (s == ("__debug__" : Str)) = false ∧ (s == ("__classdict__" : Str)) = false ∧ s ≠ "__name__" := by
  unfold nameB at h
  simp only [Bool.and_eq_true, Bool.not_eq_true', beq_eq_false_iff_ne] at h
  exact ⟨beq_eq_false_iff_ne.mpr h.1.1, beq_eq_false_iff_ne.mpr h.1.2, h.2⟩
theorem slot_ok (k : Cok T fa n c X) {i : Nat} (h : slotB c i e = true) : PE X e (tVar i) := by
  unfold slotB at h
  split at h
  · simp only [Bool.and_eq_true, decide_eq_true_eq] at h
    obtain ⟨⟨h1, h2⟩, h3⟩ := h
    obtain ⟨h4, h5, _⟩ := nameB_ok h3
    exact pe_var (by rw [k.N]; exact h1) (k.vis h2) h4 h5
  · cases h
theorem star_cons {es : List Expr} {env : PySem.Env} (h : plB e = true) : starEach (e :: es) env = (false, eval e env) :: starEach es env := by
  cases e <;> first | rfl | (simp [plB] at h)
def plBs : List Expr → Bool
  | [] => true
  | e :: es => plB e && plBs es
theorem star_any {env : PySem.Env} {pos : Pos} : ∀ {es : List Expr}, plBs es = true → (backTo pos (starEach es env)).any (·.1) = false
  | [], _ => rfl
  | e :: es, h => by
    simp only [plBs, Bool.and_eq_true] at h
    rw [star_cons h.1]
    show (false || (backTo pos (starEach es env)).any (·.1)) = false
    rw [star_any h.2]; rfl
theorem folded_ok {env : PySem.Env} (h : plB e = true) : ∀ v, foldedSetIterable e env v = pure v := by
  intro v; cases e <;> first | rfl | (simp [plB] at h)
theorem ix_ok (h : plB e = true) : PlainIx e := by
  intro o i; cases e <;> first | rfl | (simp [plB] at h)
theorem mark_ok {op : CmpOp} (h : plB e = true) : behindInMarks op e = false := by
  cases e <;> first | rfl | (simp [plB] at h)

/-! ### names, borrowed and kept -/
theorem snd_var (k : Cok T fa n c X) {i : Nat} (h : slotB c i e = true) : PE X e (tE fa fun env st => match env[i]? with | some (.fr d) => some ⟨d, false, st⟩ | _ => none) :=
  PEimp (slot_ok k h) fun σ H Q ⟨g, env, st, r, w, eo, er, q⟩ => by
    dsimp only at er
    split at er
    · rename_i d hd
      cases er
      obtain ⟨v, h1, h2⟩ := eo.fr i d hd
      exact ⟨v, h1, q g H v (res_old w h2)⟩
    · cases er
theorem pe_bw (k : Cok T fa n c X) {ir : E} {f : Run Res} (hs : PE X e (tE fa f)) (hv : ∀ i, ir = .var i → slotB c i e = true) : PE X e (tB fa (bw ir f)) := by
  by_cases hi : ∃ i, ir = .var i
  · obtain ⟨i, rfl⟩ := hi
    refine PEimp (slot_ok k (hv i rfl)) fun σ H Q ⟨g, env, st, r, w, eo, er, q⟩ => ?_
    have er : (match env[i]? with | some (.fr d) => some (d, st) | some (.ow d) => some (d, st) | _ => none) = some r := er
    split at er
    · rename_i d hd
      cases er
      obtain ⟨v, h1, h2⟩ := eo.fr i d hd
      exact ⟨v, h1, q g H v (.refl g H) w (.inl h2)⟩
    · rename_i d hd
      cases er
      obtain ⟨a, h1, h2⟩ := eo.ow i d hd
      exact ⟨.ref a, h1, q g H _ (.refl g H) w (.inr ⟨a, rfl, h2⟩)⟩
    · cases er
  · have e : bw ir f = fun env st => (f env st).map fun r => (r.d, r.st) := by
      funext env st
      cases ir <;> first | rfl | (exact absurd ⟨_, rfl⟩ hi)
    rw [e]
    exact pe_tB hs

/-! ### constants -/
theorem snd_const {v : V} {d : D} (h : PE X e (L2.tC v)) (hr : ∀ g H, Rep fa g H v d) : PE X e (tE fa fun _ st => some ⟨d, false, st⟩) :=
  PEimp h fun σ H Q ⟨g, env, st, r, w, eo, er, q⟩ => by
    cases er
    exact q g H v (res_old w (hr g H))
theorem snd_glo (k : Cok T fa n c X) {s : Str} (h1 : glB c.sc s = true) (h2 : nameB s = true) : PE X (.Name s pos) (tE fa fun _ st => match T.glo s with | some d => some ⟨d, false, st⟩ | none => none) := by
  cases e : T.glo s with
  | none => exact PEfalse fun σ H Q ⟨g, env, st, r, w, eo, er, q⟩ => by cases er
  | some d =>
    obtain ⟨u, v, hm, rv, rp⟩ := k.pk.glo s d e
    exact snd_const (pe_glob (k.gl h1) hm rv (nameB_ok h2).1) rp

/-! ### operators -/
theorem snd_bin {o : BOp} {f1 f2 : Run (D × Store)} (h1 : PE X x (tB fa f1)) (h2 : PE X y (tB fa f2)) :
    PE X (.BinOp x (bopOf o) y pos) (tE fa fun env st => match f1 env st with
      | none => none
      | some (x, st1) => match f2 env st1 with
        | none => none
        | some (y, st2) => match binD o st2 x y with
          | none => none
          | some (d, n) => some ⟨d, n, st2⟩) :=
  PEimp (pe_op (op_bin (fa := fa) o) h1 h2) fun σ H Q ⟨g, env, st, r, w, eo, er, q⟩ => by
    dsimp only at er
    split at er
    · cases er
    · rename_i a st1 e1
      split at er
      · cases er
      · rename_i b st2 e2
        split at er
        · cases er
        · rename_i d m e3
          cases er
          exact ⟨g, env, st, _, w, eo, e1, fun g1 H1 v1 x1 w1 V1 => ⟨g1, env, st1, _, w1, eo.mono x1, e2, fun g2 H2 v2 x2 w2 V2 =>
            ⟨g2, st2, a, b, (d, m), w2, V1.mono x2, V2, e3, fun g' H' v ro => q g' H' v (ro.trans (x1.trans x2))⟩⟩⟩
theorem snd_neg {f1 : Run (D × Store)} (h1 : PE X x (tB fa f1)) :
    PE X (.UnaryOp .USub x pos) (tE fa fun env st => match f1 env st with | some (.int i, st1) => some ⟨.int (-i), false, st1⟩ | _ => none) :=
  PEimp (pe_un un_neg h1) fun σ H Q ⟨g, env, st, r, w, eo, er, q⟩ => by
    dsimp only at er
    split at er
    · rename_i i st1 e1
      cases er
      exact ⟨g, env, st, _, w, eo, e1, fun g1 H1 v1 x1 w1 V1 => ⟨i, V1.int, q g1 H1 _ ((res_old w1 (.int _)).trans x1)⟩⟩
    · cases er
theorem snd_cmp (k : Cok T fa n c X) {o : COp} {f1 f2 : Run (D × Store)} (h1 : PE X x (tB fa f1)) (h2 : PE X y (tB fa f2)) (hp : plB y = true) :
    PE X (.Compare x [copOf o] [y] pos) (tE fa fun env st => match f1 env st with
      | none => none
      | some (x, st1) => match f2 env st1 with
        | none => none
        | some (y, st2) => match cmpD o st2 x y with
          | none => none
          | some c => some ⟨.bl c, false, st2⟩) :=
  PEimp (pe_cmpR (op_cmp (fa := fa) k.units o) h1 h2 (mark_ok hp)) fun σ H Q ⟨g, env, st, r, w, eo, er, q⟩ => by
    dsimp only at er
    split at er
    · cases er
    · rename_i a st1 e1
      split at er
      · cases er
      · rename_i b st2 e2
        split at er
        · cases er
        · rename_i b3 e3
          cases er
          exact ⟨g, env, st, _, w, eo, e1, fun g1 H1 v1 x1 w1 V1 => ⟨g1, env, st1, _, w1, eo.mono x1, e2, fun g2 H2 v2 x2 w2 V2 =>
            ⟨g2, st2, a, b, b3, w2, V1.mono x2, V2, e3, q g2 H2 _ ((res_old w2 (.bl _)).trans (x1.trans x2))⟩⟩⟩
/-- the same as a test -/
theorem tst_cmp (k : Cok T fa n c X) {o : COp} {f1 f2 : Run (D × Store)} (h1 : PE X x (tB fa f1)) (h2 : PE X y (tB fa f2)) (hp : plB y = true) :
    PT X (.Compare x [copOf o] [y] pos) (tC fa fun env st => match f1 env st with
      | none => none
      | some (x, st1) => match f2 env st1 with
        | none => none
        | some (y, st2) => match cmpD o st2 x y with
          | none => none
          | some c => some (c, st2)) :=
  PTimp (pt_cmpR (op_cmp (fa := fa) k.units o) h1 h2 (mark_ok hp)) fun σ H Q ⟨g, env, st, r, w, eo, er, q⟩ => by
    dsimp only at er
    split at er
    · cases er
    · rename_i a st1 e1
      split at er
      · cases er
      · rename_i b st2 e2
        split at er
        · cases er
        · rename_i b3 e3
          cases er
          exact ⟨g, env, st, _, w, eo, e1, fun g1 H1 v1 x1 w1 V1 => ⟨g1, env, st1, _, w1, eo.mono x1, e2, fun g2 H2 v2 x2 w2 V2 =>
            ⟨g2, st2, a, b, b3, w2, V1.mono x2, V2, e3, b3, rfl, q g2 H2 (x1.trans x2) w2⟩⟩⟩
def chnR {α : Type} (mk : Bool → Store → α) (o p : COp) (f1 f2 f3 : Run (D × Store)) : Run α := fun env st => match f1 env st with
    | none => none
    | some (x, st1) => match f2 env st1 with
      | none => none
      | some (y, st2) => match cmpD o st2 x y with
        | none => none
        | some false => some (mk false st2)
        | some true => match f3 env st2 with
          | none => none
          | some (z, st3) => match cmpD p st3 y z with
            | none => none
            | some q => some (mk q st3)
theorem chn_read {o p : COp} {f1 f2 f3 : Run (D × Store)} {σ : L2.St} {H : Hp} {Q : VK}
    (h : ∃ g env st r, Wok fa g st H ∧ EnvOk fa g H env σ ∧ chnR (fun b s => (b, s)) o p f1 f2 f3 env st = some r ∧ ∀ g' H', Ext g H g' H' → Wok fa g' r.2 H' → Q (.bl r.1) H') :
    tChain (rCmp fa o) (rCmp fa p) (tB fa f1) (tB fa f2) (tB fa f3) σ H Q := by
  obtain ⟨g, env, st, r, w, eo, er, q⟩ := h
  unfold chnR at er
  split at er
  · cases er
  · rename_i a st1 e1
    split at er
    · cases er
    · rename_i b st2 e2
      refine ⟨g, env, st, _, w, eo, e1, fun g1 H1 v1 x1 w1 V1 => ⟨g1, env, st1, _, w1, eo.mono x1, e2, fun g2 H2 v2 x2 w2 V2 => ?_⟩⟩
      split at er
      · cases er
      · rename_i e3
        cases er
        exact ⟨g2, st2, a, b, false, w2, V1.mono x2, V2, e3, false, rfl, by rw [if_neg Bool.false_ne_true]; exact q g2 H2 (x1.trans x2) w2⟩
      · rename_i e3
        split at er
        · cases er
        · rename_i z st3 e4
          split at er
          · cases er
          · rename_i b5 e5
            cases er
            refine ⟨g2, st2, a, b, true, w2, V1.mono x2, V2, e3, true, rfl, ?_⟩
            rw [if_pos rfl]
            exact ⟨g2, env, st2, _, w2, eo.mono (x1.trans x2), e4, fun g3 H3 v3 x3 w3 V3 => ⟨g3, st3, b, z, b5, w3, V2.mono x3, V3, e5, q g3 H3 ((x1.trans x2).trans x3) w3⟩⟩
theorem copOf_in {o : COp} (h : (!(o == COp.inn)) = true) (h2 : (!(o == COp.nin)) = true) : copOf o ≠ .In ∧ copOf o ≠ .NotIn := by
  cases o <;> first | exact ⟨by decide, by decide⟩ | (exact absurd h (by decide)) | (exact absurd h2 (by decide))
end
end EV

/-! EV, part G: expressions, one rule for each kind. -/
namespace EV
open PySem PySem.Spec PyProof.Rows L2

def evCf (f : Run Res) : Run (Bool × Store) := fun env st => match f env st with
  | some ⟨.bl b, _, st1⟩ => some (b, st1)
  | _ => none
theorem evCf_some {f : Run Res} {env : EV.Env} {st : Store} {r : Bool × Store} (h : evCf f env st = some r) : ∃ n, f env st = some ⟨.bl r.1, n, r.2⟩ := by
  unfold evCf at h
  split at h
  · cases h; exact ⟨_, by assumption⟩
  · cases h
structure Snd (fa : FnA) (X : Cx) (e : Expr) (f : Run Res) : Prop where
  pe : PE X e (tE fa f)
  pt : PT X e (tC fa (evCf f))
  pw : (∃ op vs pos, e = .BoolOp op vs pos) → PW X e (tC fa (evCf f))
structure SndA (fa : FnA) (X : Cx) (es : List Expr) (f h : Run (List D × Store)) : Prop where
  pa : PA X es (tAr fa f)
  pv : PA X es (tAv fa h)

section
variable {T : Prog} {fa : FnA} {n : Nat} {c : SC} {X : Cx} {e x y z : Expr} {pos : Pos} {es : List Expr}
/-- a value that is a bool, as a test -/
theorem tC_of {f : Run Res} {σ : L2.St} {H : Hp} {Q : Bool → Hp → Prop} (h : tC fa (evCf f) σ H Q) : tE fa f σ H fun v H' => ∃ b, v = .bl b ∧ Q b H' := by
  obtain ⟨g, env, st, r, w, eo, er, q⟩ := h
  obtain ⟨m, e1⟩ := evCf_some er
  exact ⟨g, env, st, _, w, eo, e1, fun g' H' v ro => ⟨r.1, ro.bl, q g' H' ro.ext ro.wok⟩⟩
theorem Snd.of {f : Run Res} (h : PE X e (tE fa f)) (he : ∀ whole, isTrue e X.env whole = (do let v ← whole; standAt e.pos; holding [v] (truthy v))) (hb : ∀ op vs pos, e ≠ .BoolOp op vs pos) : Snd fa X e f :=
  ⟨h, PTimp (pt_val h he) fun σ H Q q => tC_of q, fun ⟨op, vs, pos, e⟩ => absurd e (hb op vs pos)⟩
theorem Snd.eq {f f' : Run Res} (h : Snd fa X e f) (q : f = f') : Snd fa X e f' := q ▸ h
theorem Snd.tb (k : Cok T fa n c X) {ir : E} {f : Run Res} (hs : Snd fa X e f) (hv : ir.chk c e = true) : PE X e (tB fa (bw ir f)) :=
  pe_bw k hs.pe fun i ei => by subst ei; exact hv

/-! ### and, or, not, if -/
def andR (f1 f2 : Run Res) : Run Res := fun env st => match f1 env st with
    | some ⟨.bl false, _, st1⟩ => some ⟨.bl false, false, st1⟩
    | some ⟨.bl true, _, st1⟩ => f2 env st1
    | _ => none
def orR (f1 f2 : Run Res) : Run Res := fun env st => match f1 env st with
    | some ⟨.bl true, _, st1⟩ => some ⟨.bl true, false, st1⟩
    | some ⟨.bl false, _, st1⟩ => f2 env st1
    | _ => none
theorem and_e {f1 f2 : Run Res} {σ : L2.St} {H : Hp} {Q : VK} (h : tE fa (andR f1 f2) σ H Q) : tAndV (tE fa f1) (tE fa f2) σ H Q := by
  obtain ⟨g, env, st, r, w, eo, er, q⟩ := h
  unfold andR at er
  split at er
  · rename_i m st1 e1
    cases er
    exact ⟨g, env, st, _, w, eo, e1, fun g' H' v ro => ⟨false, ro.bl, by rw [if_neg Bool.false_ne_true]; exact q g' H' _ ((res_old ro.wok (.bl _)).trans ro.ext)⟩⟩
  · rename_i m st1 e1
    exact ⟨g, env, st, _, w, eo, e1, fun g' H' v ro => ⟨true, ro.bl, by rw [if_pos rfl]; exact ⟨g', env, st1, r, ro.wok, eo.mono ro.ext, er, fun g2 H2 v2 ro2 => q g2 H2 v2 (ro2.trans ro.ext)⟩⟩⟩
  · cases er
theorem or_e {f1 f2 : Run Res} {σ : L2.St} {H : Hp} {Q : VK} (h : tE fa (orR f1 f2) σ H Q) : tOrV (tE fa f1) (tE fa f2) σ H Q := by
  obtain ⟨g, env, st, r, w, eo, er, q⟩ := h
  unfold orR at er
  split at er
  · rename_i m st1 e1
    cases er
    exact ⟨g, env, st, _, w, eo, e1, fun g' H' v ro => ⟨true, ro.bl, by rw [if_pos rfl]; exact q g' H' _ ((res_old ro.wok (.bl _)).trans ro.ext)⟩⟩
  · rename_i m st1 e1
    exact ⟨g, env, st, _, w, eo, e1, fun g' H' v ro => ⟨false, ro.bl, by rw [if_neg Bool.false_ne_true]; exact ⟨g', env, st1, r, ro.wok, eo.mono ro.ext, er, fun g2 H2 v2 ro2 => q g2 H2 v2 (ro2.trans ro.ext)⟩⟩⟩
  · cases er
theorem and_t {f1 f2 : Run Res} {σ : L2.St} {H : Hp} {Q : Bool → Hp → Prop} (h : tC fa (evCf (andR f1 f2)) σ H Q) : tAnd (tC fa (evCf f1)) (tC fa (evCf f2)) σ H Q := by
  obtain ⟨g, env, st, r, w, eo, er, q⟩ := h
  obtain ⟨m, er⟩ := evCf_some er
  unfold andR at er
  split at er
  · rename_i m st1 e1
    injection er with er; injection er with e2 e3 e4
    refine ⟨g, env, st, (false, st1), w, eo, by unfold evCf; rw [e1], fun g' H' xt w' => ?_⟩
    show (if (false : Bool) = true then _ else _); rw [if_neg Bool.false_ne_true]
    injection e2 with e2
    rw [e2]; exact q g' H' xt (by rw [← e4]; exact w')
  · rename_i m st1 e1
    refine ⟨g, env, st, (true, st1), w, eo, by unfold evCf; rw [e1], fun g' H' xt w' => ?_⟩
    show (if (true : Bool) = true then _ else _); rw [if_pos rfl]
    exact ⟨g', env, st1, r, w', eo.mono xt, by unfold evCf; rw [er], fun g2 H2 x2 w2 => q g2 H2 (xt.trans x2) w2⟩
  · cases er
theorem or_t {f1 f2 : Run Res} {σ : L2.St} {H : Hp} {Q : Bool → Hp → Prop} (h : tC fa (evCf (orR f1 f2)) σ H Q) : tOr (tC fa (evCf f1)) (tC fa (evCf f2)) σ H Q := by
  obtain ⟨g, env, st, r, w, eo, er, q⟩ := h
  obtain ⟨m, er⟩ := evCf_some er
  unfold orR at er
  split at er
  · rename_i m st1 e1
    injection er with er; injection er with e2 e3 e4
    refine ⟨g, env, st, (true, st1), w, eo, by unfold evCf; rw [e1], fun g' H' xt w' => ?_⟩
    show (if (true : Bool) = true then _ else _); rw [if_pos rfl]
    injection e2 with e2
    rw [e2]; exact q g' H' xt (by rw [← e4]; exact w')
  · rename_i m st1 e1
    refine ⟨g, env, st, (false, st1), w, eo, by unfold evCf; rw [e1], fun g' H' xt w' => ?_⟩
    show (if (false : Bool) = true then _ else _); rw [if_neg Bool.false_ne_true]
    exact ⟨g', env, st1, r, w', eo.mono xt, by unfold evCf; rw [er], fun g2 H2 x2 w2 => q g2 H2 (xt.trans x2) w2⟩
  · cases er
theorem snd_and2 {f1 f2 : Run Res} (h1 : Snd fa X x f1) (h2 : Snd fa X y f2) : Snd fa X (.BoolOp .And [x, y] pos) (andR f1 f2) :=
  have w : PW X (.BoolOp .And [x, y] pos) (tC fa (evCf (andR f1 f2))) := ⟨fun wh pins s σ H Q I h => (pw_and h1.pt (pw_and1 h2.pt)).run wh pins s σ H Q I (and_t h)⟩
  ⟨PEimp (pe_and h1.pe (pe_one h2.pe)) fun σ H Q q => and_e q, w.pt, fun _ => w⟩
theorem snd_or2 {f1 f2 : Run Res} (h1 : Snd fa X x f1) (h2 : Snd fa X y f2) : Snd fa X (.BoolOp .Or [x, y] pos) (orR f1 f2) :=
  have w : PW X (.BoolOp .Or [x, y] pos) (tC fa (evCf (orR f1 f2))) := ⟨fun wh pins s σ H Q I h => (pw_or h1.pt (pw_or1 h2.pt)).run wh pins s σ H Q I (or_t h)⟩
  ⟨PEimp (pe_or h1.pe (pe_one h2.pe)) fun σ H Q q => or_e q, w.pt, fun _ => w⟩
theorem snd_and {f1 f2 : Run Res} (h1 : Snd fa X x f1) (h2 : Snd fa X (.BoolOp .And (y :: es) pos) f2) : Snd fa X (.BoolOp .And (x :: y :: es) pos) (andR f1 f2) :=
  have w : PW X (.BoolOp .And (x :: y :: es) pos) (tC fa (evCf (andR f1 f2))) := ⟨fun wh pins s σ H Q I h => (pw_and h1.pt (h2.pw ⟨_, _, _, rfl⟩)).run wh pins s σ H Q I (and_t h)⟩
  ⟨PEimp (pe_and h1.pe h2.pe) fun σ H Q q => and_e q, w.pt, fun _ => w⟩
theorem snd_or {f1 f2 : Run Res} (h1 : Snd fa X x f1) (h2 : Snd fa X (.BoolOp .Or (y :: es) pos) f2) : Snd fa X (.BoolOp .Or (x :: y :: es) pos) (orR f1 f2) :=
  have w : PW X (.BoolOp .Or (x :: y :: es) pos) (tC fa (evCf (orR f1 f2))) := ⟨fun wh pins s σ H Q I h => (pw_or h1.pt (h2.pw ⟨_, _, _, rfl⟩)).run wh pins s σ H Q I (or_t h)⟩
  ⟨PEimp (pe_or h1.pe h2.pe) fun σ H Q q => or_e q, w.pt, fun _ => w⟩
def notR (f1 : Run Res) : Run Res := fun env st => match f1 env st with
    | some ⟨.bl c, _, st1⟩ => some ⟨.bl (!c), false, st1⟩
    | _ => none
theorem snd_not {f1 : Run Res} (h1 : Snd fa X x f1) : Snd fa X (.UnaryOp .Not x pos) (notR f1) := by
  refine ⟨PEimp (pe_not h1.pe) fun σ H Q ⟨g, env, st, r, w, eo, er, q⟩ => ?_, PTimp (pt_not h1.pt) fun σ H Q ⟨g, env, st, r, w, eo, er, q⟩ => ?_, fun ⟨_, _, _, e⟩ => nomatch e⟩
  · unfold notR at er
    split at er
    · rename_i b m st1 e1
      cases er
      exact ⟨g, env, st, _, w, eo, e1, fun g' H' v ro => ⟨b, ro.bl, q g' H' _ ((res_old ro.wok (.bl _)).trans ro.ext)⟩⟩
    · cases er
  · obtain ⟨m, er⟩ := evCf_some er
    unfold notR at er
    split at er
    · rename_i b m st1 e1
      injection er with er; injection er with e2 e3 e4
      injection e2 with e2
      refine ⟨g, env, st, (b, st1), w, eo, by unfold evCf; rw [e1], fun g' H' xt w' => ?_⟩
      show Q (!b) H'; rw [e2]; exact q g' H' xt (by rw [← e4]; exact w')
    · cases er
def ifeR (f1 f2 f3 : Run Res) : Run Res := fun env st => match f1 env st with
    | some ⟨.bl true, _, st1⟩ => f2 env st1
    | some ⟨.bl false, _, st1⟩ => f3 env st1
    | _ => none
theorem pt_ifExp {tA tB' tC' : TT} (hc : PT X x tA) (ha : PT X y tB') (hb : PT X z tC') : PT X (.IfExp x y z pos) (fun σ H Q => tA σ H fun c H1 => if c = true then tB' σ H1 Q else tC' σ H1 Q) := by
  refine ⟨fun pins s σ H Q I h => ?_⟩
  unfold PySem.isTrue
  refine wpAny_bind (thn (hc.run pins s σ H _ I h) fun d s1 ⟨H1, I1, q1⟩ => ?_)
  cases d with
  | true => exact ha.run pins s1 σ H1 Q I1 q1
  | false => exact hb.run pins s1 σ H1 Q I1 q1
theorem snd_ife {f1 f2 f3 : Run Res} (h1 : Snd fa X x f1) (h2 : Snd fa X y f2) (h3 : Snd fa X z f3) : Snd fa X (.IfExp x y z pos) (ifeR f1 f2 f3) := by
  refine ⟨PEimp (pe_ifExp h1.pt h2.pe h3.pe) fun σ H Q ⟨g, env, st, r, w, eo, er, q⟩ => ?_, PTimp (pt_ifExp h1.pt h2.pt h3.pt) fun σ H Q ⟨g, env, st, r, w, eo, er, q⟩ => ?_, fun ⟨_, _, _, e⟩ => nomatch e⟩
  · unfold ifeR at er
    split at er
    · rename_i m st1 e1
      refine ⟨g, env, st, (true, st1), w, eo, by unfold evCf; rw [e1], fun g' H' xt w' => ?_⟩
      show (if (true : Bool) = true then _ else _); rw [if_pos rfl]
      exact ⟨g', env, st1, r, w', eo.mono xt, er, fun g2 H2 v2 ro2 => q g2 H2 v2 (ro2.trans xt)⟩
    · rename_i m st1 e1
      refine ⟨g, env, st, (false, st1), w, eo, by unfold evCf; rw [e1], fun g' H' xt w' => ?_⟩
      show (if (false : Bool) = true then _ else _); rw [if_neg Bool.false_ne_true]
      exact ⟨g', env, st1, r, w', eo.mono xt, er, fun g2 H2 v2 ro2 => q g2 H2 v2 (ro2.trans xt)⟩
    · cases er
  · obtain ⟨m, er⟩ := evCf_some er
    unfold ifeR at er
    split at er
    · rename_i m st1 e1
      refine ⟨g, env, st, (true, st1), w, eo, by unfold evCf; rw [e1], fun g' H' xt w' => ?_⟩
      show (if (true : Bool) = true then _ else _); rw [if_pos rfl]
      exact ⟨g', env, st1, r, w', eo.mono xt, by unfold evCf; rw [er], fun g2 H2 x2 w2 => q g2 H2 (xt.trans x2) w2⟩
    · rename_i m st1 e1
      refine ⟨g, env, st, (false, st1), w, eo, by unfold evCf; rw [e1], fun g' H' xt w' => ?_⟩
      show (if (false : Bool) = true then _ else _); rw [if_neg Bool.false_ne_true]
      exact ⟨g', env, st1, r, w', eo.mono xt, by unfold evCf; rw [er], fun g2 H2 x2 w2 => q g2 H2 (xt.trans x2) w2⟩
    · cases er

/-! ### argument lists -/
def consR (f1 : Run Res) (f2 : Run (List D × Store)) : Run (List D × Store) := fun env st => match f1 env st with
    | none => none
    | some x => match f2 env x.st with
      | none => none
      | some (ds, st2) => some (x.d :: ds, st2)
def consV (f1 : Run (D × Store)) (f2 : Run (List D × Store)) : Run (List D × Store) := fun env st => match f1 env st with
    | none => none
    | some (d, st1) => match f2 env st1 with
      | none => none
      | some (ds, st2) => some (d :: ds, st2)
theorem Views.mono {g g' : G} {H H' : Hp} (xt : Ext g H g' H') : ∀ {vs : List V} {ds : List D}, Views fa g H vs ds → Views fa g' H' vs ds
  | _, _, .nil => .nil
  | _, _, .cons h1 h2 => .cons (h1.mono xt) (Views.mono xt h2)
theorem pa_nilR : PA X [] (tAr fa fun _ st => some ([], st)) := PAimp pa_nil fun σ H Q ⟨g, env, st, r, w, eo, er, q⟩ => by
  cases er; exact q g H _ (.refl g H) w .nil
theorem pa_nilV : PA X [] (tAv fa fun _ st => some ([], st)) := PAimp pa_nil fun σ H Q ⟨g, env, st, r, w, eo, er, q⟩ => by
  cases er; exact q g H _ (.refl g H) w .nil
theorem pa_consR {f1 : Run Res} {f2 : Run (List D × Store)} (h1 : PE X x (tE fa f1)) (hp : plB x = true) (h2 : PA X es (tAr fa f2)) : PA X (x :: es) (tAr fa (consR f1 f2)) :=
  PAimp (pa_cons (pe_tF h1) h2 (star_cons hp)) fun σ H Q ⟨g, env, st, r, w, eo, er, q⟩ => by
    unfold consR at er
    split at er
    · cases er
    · rename_i a e1
      split at er
      · cases er
      · rename_i ds st2 e2
        cases er
        exact ⟨g, env, st, _, w, eo, e1, fun g1 H1 v x1 w1 R1 => ⟨g1, env, _, _, w1, eo.mono x1, e2, fun g2 H2 vs x2 w2 R2 => q g2 H2 _ (x1.trans x2) w2 (.cons (R1.mono x2) R2)⟩⟩
theorem pa_consV {f1 : Run (D × Store)} {f2 : Run (List D × Store)} (h1 : PE X x (tB fa f1)) (hp : plB x = true) (h2 : PA X es (tAv fa f2)) : PA X (x :: es) (tAv fa (consV f1 f2)) :=
  PAimp (pa_cons h1 h2 (star_cons hp)) fun σ H Q ⟨g, env, st, r, w, eo, er, q⟩ => by
    unfold consV at er
    split at er
    · cases er
    · rename_i a st1 e1
      split at er
      · cases er
      · rename_i ds st2 e2
        cases er
        exact ⟨g, env, st, _, w, eo, e1, fun g1 H1 v x1 w1 R1 => ⟨g1, env, _, _, w1, eo.mono x1, e2, fun g2 H2 vs x2 w2 R2 => q g2 H2 _ (x1.trans x2) w2 (.cons (R1.mono x2) R2)⟩⟩
theorem pk_nilR : PK X [] (tAr fa fun _ st => some ([], st)) := ⟨fun pos pins s σ H Q I ⟨g, env, st, r, w, eo, er, q⟩ => (pk_nil (X := X)).run pos pins s σ H Q I (by cases er; exact q g H _ (.refl g H) w .nil)⟩
theorem pk_consR {nm : Option Str} {kpos : Pos} {kws : List Keyword} {f1 : Run Res} {f2 : Run (List D × Store)} (h1 : PE X x (tE fa f1)) (h2 : PK X kws (tAr fa f2)) : PK X (⟨nm, x, kpos⟩ :: kws) (tAr fa (consR f1 f2)) :=
  ⟨fun pos pins s σ H Q I ⟨g, env, st, r, w, eo, er, q⟩ => (pk_cons (pe_tF h1) h2).run pos pins s σ H Q I (by
    unfold consR at er
    split at er
    · cases er
    · rename_i a e1
      split at er
      · cases er
      · rename_i ds st2 e2
        cases er
        exact ⟨g, env, st, _, w, eo, e1, fun g1 H1 v x1 w1 R1 => ⟨g1, env, _, _, w1, eo.mono x1, e2, fun g2 H2 vs x2 w2 R2 => q g2 H2 _ (x1.trans x2) w2 (.cons (R1.mono x2) R2)⟩⟩)⟩

/-! ### tuples, lists, cells -/
theorem snd_tup {k : Nat} {f : Run (List D × Store)} (h : PA X es (tAr fa f)) : PE X (.Tuple es k pos) (tE fa fun env st => match f env st with
    | some (ds, st1) => if ds.length ≤ LIM then some ⟨.tup ds, false, st1⟩ else none
    | none => none) := PEimp (pe_tup h) fun σ H Q ⟨g, env, st, r, w, eo, er, q⟩ => by
  dsimp only at er
  split at er
  · rename_i ds st1 e1
    split at er
    · rename_i hl
      cases er
      exact ⟨g, env, st, _, w, eo, e1, fun g1 H1 vs x1 w1 R => ⟨by rw [R.length]; exact hl, fun p hp => q _ _ _ ((res_tup w1 hp R).trans x1)⟩⟩
    · cases er
  · cases er
theorem snd_lst {f : Run (List D × Store)} (h : PA X es (tAr fa f)) : PE X (.List es pos) (tE fa fun env st => match f env st with
    | some (ds, st1) => if ds.length ≤ LIM then some ⟨.lst ds, true, st1⟩ else none
    | none => none) := PEimp (pe_lst h) fun σ H Q ⟨g, env, st, r, w, eo, er, q⟩ => by
  dsimp only at er
  split at er
  · rename_i ds st1 e1
    split at er
    · rename_i hl
      cases er
      exact ⟨g, env, st, _, w, eo, e1, fun g1 H1 vs x1 w1 R => ⟨by rw [R.length]; exact hl, fun p hp => q _ _ _ ((res_lst w1 hp R).trans x1)⟩⟩
    · cases er
  · cases er
/-- one more cell -/
def G.more (g : G) (p : Addr) : G := { g with ρ := fun k => if k = g.n then p else g.ρ k, n := g.n + 1 }
theorem res_cel {g : G} {H : Hp} {st : Store} (w : Wok fa g st H) {p : Addr} {vs : List V} {ds : List D} (hp : H p = none) (h : Reps fa g H vs ds) :
    ResOk fa g H (g.more p) (upd H p (.lst vs)) (.ref p) ⟨.cell st.length, false, st ++ [.lst ds]⟩ := by
  have x0 := ext_new (o := .lst vs) w hp
  have hρ : ∀ k, k < g.n → (g.more p).ρ k = g.ρ k := fun k hk => by show (if k = g.n then p else g.ρ k) = _; rw [if_neg (Nat.ne_of_lt hk)]
  have hn : (g.more p).ρ g.n = p := by show (if g.n = g.n then p else _) = _; rw [if_pos rfl]
  have x : Ext g H (g.more p) (upd H p (.lst vs)) := ⟨fun _ h => h, fun _ h => .inl h, x0.keep, x0.keepD, x0.own, hρ, Nat.le_succ _, fun k h1 h2 => by
    have : k = g.n := by have : k < g.n + 1 := h2; omega
    subst this; rw [hn]; exact hp, x0.there, x0.lk⟩
  refine ⟨x, ⟨by show g.n + 1 = _; rw [w.n_eq]; simp, fun a ha => x.there a (w.ft a ha), fun k c hc => ?_, fun j k hj hk e => ?_⟩, ?_⟩
  · by_cases hk : k < st.length
    · rw [List.getElem?_append_left hk] at hc
      obtain ⟨c1, c2⟩ := w.cells k c hc
      rw [hρ k (by rw [w.n_eq]; exact hk)]
      exact ⟨c1, c2.mono x fun o e => by rw [upd_ne (ne_of_none e hp)]; exact e⟩
    · have hk' : k = g.n := by
        have := (List.getElem?_eq_some_iff.mp hc).1
        simp at this
        have := w.n_eq
        omega
      subst hk'
      rw [hn]
      rw [w.n_eq, List.getElem?_append_right (Nat.le_refl _), Nat.sub_self] at hc
      cases hc
      exact ⟨w.nf hp, vs, upd_same, h.mono x⟩
  · have hj' : j < g.n + 1 := hj
    have hk' : k < g.n + 1 := hk
    by_cases j1 : j = g.n
    · by_cases k1 : k = g.n
      · omega
      · rw [j1, hn, hρ k (by omega)] at e
        exact absurd e.symm (w.nc hp k (by omega))
    · by_cases k1 : k = g.n
      · rw [k1, hn, hρ j (by omega)] at e
        exact absurd e (w.nc hp j (by omega))
      · rw [hρ j (by omega), hρ k (by omega)] at e
        exact w.inj j k (by omega) (by omega) e
  · rw [if_neg (by simp)]
    have : Rep fa (g.more p) (upd H p (.lst vs)) (.ref ((g.more p).ρ g.n)) (.cell g.n) := .cell (Nat.lt_succ_self _)
    rw [hn, w.n_eq] at this
    exact this
/-- an own list becomes a cell -/
theorem res_mk {g g' : G} {H H' : Hp} {v : V} {xs : List D} {st : Store} (h : ResOk fa g H g' H' v ⟨.lst xs, true, st⟩) : ∃ g2, ResOk fa g H g2 H' v ⟨.cell st.length, false, st ++ [.lst xs]⟩ := by
  obtain ⟨x, w, z⟩ := h
  rw [if_pos rfl] at z
  obtain ⟨p, rfl, hp, ow⟩ := z
  have w : Wok fa g' st H' := w
  obtain ⟨vs, hv, rs⟩ := ow.top
  have hρ : ∀ k, k < g'.n → (g'.more p).ρ k = g'.ρ k := fun k hk => by show (if k = g'.n then p else g'.ρ k) = _; rw [if_neg (Nat.ne_of_lt hk)]
  have hn : (g'.more p).ρ g'.n = p := by show (if g'.n = g'.n then p else _) = _; rw [if_pos rfl]
  have kw : Kw g' H' (g'.more p) H' := ⟨fun _ h => h, fun _ _ _ _ h => h, fun _ _ _ h => h, hρ, Nat.le_succ _, fun _ _ _ h => h⟩
  have top : ∀ a d, Top fa g' H' a d → Top fa (g'.more p) H' a d := fun a d t => by
    cases d with
    | lst ds => obtain ⟨vs, h1, h2⟩ := t; exact ⟨vs, h1, Reps.kw kw _ _ h2⟩
    | dct ks => obtain ⟨vs, h1, h2⟩ := t; exact ⟨vs, h1, RepK.kw kw _ _ h2⟩
    | _ => exact t
  refine ⟨g'.more p, ⟨x.mono, x.new, x.keep, x.keepD, x.own, fun k hk => ?_, Nat.le_succ_of_le x.le, fun k h1 h2 => ?_, x.there, x.lk⟩, ⟨by show g'.n + 1 = _; rw [w.n_eq]; simp, w.ft, fun k c hc => ?_, fun j k hj hk e => ?_⟩, ?_⟩
  · rw [hρ k (Nat.lt_of_lt_of_le hk x.le)]; exact x.cell k hk
  · have h2' : k < g'.n + 1 := h2
    by_cases e : k = g'.n
    · subst e; rw [hn]; exact hp
    · rw [hρ k (by omega)]; exact x.fresh k h1 (by omega)
  · by_cases hk : k < st.length
    · rw [List.getElem?_append_left hk] at hc
      obtain ⟨c1, c2⟩ := w.cells k c hc
      rw [hρ k (by rw [w.n_eq]; exact hk)]
      exact ⟨c1, top _ _ c2⟩
    · have hk' : k = g'.n := by
        have := (List.getElem?_eq_some_iff.mp hc).1
        simp at this
        have := w.n_eq
        omega
      subst hk'
      rw [hn]
      rw [w.n_eq, List.getElem?_append_right (Nat.le_refl _), Nat.sub_self] at hc
      cases hc
      exact ⟨ow.nF, top _ _ ow.top⟩
  · have hj' : j < g'.n + 1 := hj
    have hk' : k < g'.n + 1 := hk
    by_cases j1 : j = g'.n
    · by_cases k1 : k = g'.n
      · omega
      · rw [j1, hn, hρ k (by omega)] at e
        exact absurd e.symm (ow.nC k (by omega))
    · by_cases k1 : k = g'.n
      · rw [k1, hn, hρ j (by omega)] at e
        exact absurd e (ow.nC j (by omega))
      · rw [hρ j (by omega), hρ k (by omega)] at e
        exact w.inj j k (by omega) (by omega) e
  · rw [if_neg (by simp)]
    have : Rep fa (g'.more p) H' (.ref ((g'.more p).ρ g'.n)) (.cell g'.n) := .cell (Nat.lt_succ_self _)
    rw [hn, w.n_eq] at this
    exact this
def mkR (f : Run Res) : Run Res := fun env st => match f env st with
    | some ⟨.lst xs, true, st1⟩ => some ⟨.cell st1.length, false, st1 ++ [.lst xs]⟩
    | _ => none
theorem snd_mk {f : Run Res} (h : PE X e (tE fa f)) : PE X e (tE fa (mkR f)) := PEimp h fun σ H Q ⟨g, env, st, r, w, eo, er, q⟩ => by
  unfold mkR at er
  split at er
  · rename_i xs st1 e1
    cases er
    exact ⟨g, env, st, _, w, eo, e1, fun g' H' v ro => let ⟨g2, z⟩ := res_mk ro; q g2 H' v z⟩
  · cases er
theorem snd_cel {f : Run (List D × Store)} (h : PA X es (tAr fa f)) : PE X (.List es pos) (tE fa fun env st => match f env st with
    | some (ds, st1) => if ds.length ≤ LIM then some ⟨.cell st1.length, false, st1 ++ [.lst ds]⟩ else none
    | none => none) := PEimp (pe_lst h) fun σ H Q ⟨g, env, st, r, w, eo, er, q⟩ => by
  dsimp only at er
  split at er
  · rename_i ds st1 e1
    split at er
    · rename_i hl
      cases er
      exact ⟨g, env, st, _, w, eo, e1, fun g1 H1 vs x1 w1 R => ⟨by rw [R.length]; exact hl, fun p hp => q _ _ _ ((res_cel w1 hp R).trans x1)⟩⟩
    · cases er
  · cases er

/-! ### calls -/
theorem snd_call (k : Cok T fa n c X) {s : Str} {p : Pos} {f : Run (List D × Store)} (h1 : glB c.sc s = true) (h2 : nameB s = true) (h : PA X es (tAr fa f)) (hp : plBs es = true) (hn : es = [] → ∀ env st, f env st = some ([], st)) :
    PE X (.Call (.Name s p) es [] pos) (tE fa fun env st => match f env st with
      | some (ds, st1) => T.run n s ds st1
      | none => none) := by
  cases e : T.fn s with
  | none =>
    exact PEfalse fun σ H Q ⟨g, env, st, r, w, eo, er, q⟩ => by
      dsimp only at er
      split at er
      · obtain ⟨f, e'⟩ := k.pk.none _ _ _ _ er
        rw [e] at e'; cases e'
      · cases er
  | some fn =>
    obtain ⟨a, fd, ps, hm, hk, F, hb, _⟩ := k.pk.fn s fn e
    have go : ∀ {t : TA} {σ : L2.St} {H : Hp} {Q : VK}, (∀ Q', tAr fa f σ H Q' → t σ H Q') → tE fa (fun env st => match f env st with
      | some (ds, st1) => T.run n s ds st1
      | none => none) σ H Q → tCall (spD fa T n s) [] E0 t σ H Q := fun ht ⟨g, env, st, r, w, eo, er, q⟩ => by
      dsimp only at er
      split at er
      · rename_i ds st1 e1
        exact ht _ ⟨g, env, st, _, w, eo, e1, fun g1 H1 vs x1 w1 R => by show spD fa T n s (vs ++ []) H1 _ E0; rw [List.append_nil]; exact ⟨g1, st1, ds, r, w1, R, er, fun g' H' v ro => q g' H' v (ro.trans x1)⟩⟩
      · cases er
    cases es with
    | nil =>
      exact PEimp (peG_call0 F k.room k.gd (k.gl h1) hm hk hb pass0 (nameB_ok h2).1) fun σ H Q q => go (t := tNil) (fun Q' ⟨g, env, st, r, w, eo, er, q⟩ => by
        rw [hn rfl] at er
        cases er
        exact q g H _ (.refl g H) w .nil) q
    | cons e0 es0 =>
      simp only [plBs, Bool.and_eq_true] at hp
      exact PEimp (peG_call F k.room k.gd (k.gl h1) hm hk hb pass0 h (nameB_ok h2).1 (star_cons hp.1) (star_any hp.2)) fun σ H Q q => go (fun _ z => z) q
end
end EV

/-! EV, part H: expressions, the rest but comprehensions. -/
namespace EV
open PySem PySem.Spec PyProof.Rows L2

section
variable {fa : FnA} {g g' g2 : G} {H H' H2 : Hp} {st st' : Store} {a p : Addr} {v : V} {d : D} {o : HO}
/-! ### a change of an own object -/
theorem ext_upd (x : Ext g H g2 H2) (hp : H p = none) : Ext g H g2 (upd H2 p o) where
  mono := x.mono
  new := x.new
  keep := fun a u h pl r => by rw [upd_ne (ne_of_none r hp)]; exact x.keep a u h pl r
  keepD := fun a u h r => by
    have q := x.keepD a u h r
    have ne : a ≠ p := fun e => by
      subst e
      rcases r with r | ⟨ob, r⟩ <;> rw [hp] at r <;> cases r
    rcases q with q | ⟨ob, q⟩
    · exact .inl (by rw [upd_ne ne]; exact q)
    · exact .inr ⟨ob, by rw [upd_ne ne]; exact q⟩
  own := fun a ob h c e => by rw [upd_ne (ne_of_none e hp)]; exact x.own a ob h c e
  cell := x.cell
  le := x.le
  fresh := x.fresh
  there := fun a h => by
    by_cases e : a = p
    · rw [e, upd_same]; exact fun z => nomatch z
    · rw [upd_ne e]; exact x.there a h
  lk := fun a ob u e => by rw [upd_ne (ne_of_none e hp)]; exact x.lk a ob u e
theorem kp_upd (nF : ¬ g.F p) (hs : ∀ ob u, H p ≠ some (.frz ob u)) : Kp g H g (upd H p o) where
  mono := fun _ h => h
  keep := fun a u h _ r => by
    have ne : a ≠ p := fun e => nF (e ▸ h)
    rw [upd_ne ne]; exact r
  keepD := fun a u h r => by
    have ne : a ≠ p := fun e => nF (e ▸ h)
    rcases r with r | ⟨ob, r⟩
    · exact .inl (by rw [upd_ne ne]; exact r)
    · exact .inr ⟨ob, by rw [upd_ne ne]; exact r⟩
  cell := fun _ _ => rfl
  le := Nat.le_refl _
  lk := fun a ob u h => by
    have ne : a ≠ p := fun e => hs ob u (e ▸ h)
    rw [upd_ne ne]; exact h
theorem Top.kw (x : Kw g H g' H') (e : ∀ o, H a = Option.some o → H' a = Option.some o) (h : Top fa g H a d) : Top fa g' H' a d := by
  cases d with
  | lst ds => obtain ⟨vs, h1, h2⟩ := h; exact ⟨vs, e _ h1, Reps.kw x _ _ h2⟩
  | dct ks => obtain ⟨kvs, h1, h2⟩ := h; exact ⟨kvs, e _ h1, RepK.kw x _ _ h2⟩
  | _ => exact h
theorem wok_upd (w : Wok fa g st H) (nF : ¬ g.F p) (nC : ∀ k, k < g.n → g.ρ k ≠ p) (hs : ∀ ob u, H p ≠ some (.frz ob u)) : Wok fa g st (upd H p o) where
  n_eq := w.n_eq
  ft := fun a h => by
    have ne : a ≠ p := fun e => nF (e ▸ h)
    rw [upd_ne ne]; exact w.ft a h
  cells := fun k c e => by
    obtain ⟨h1, h2⟩ := w.cells k c e
    have hk : k < g.n := by rw [w.n_eq]; exact (List.getElem?_eq_some_iff.mp e).1
    exact ⟨h1, Top.kw (kp_upd nF hs).kw (fun o e => by rw [upd_ne (nC k hk)]; exact e) h2⟩
  inj := w.inj
theorem Own.nfrz (h : Own fa g H a d) : ∀ ob u, H a ≠ some (.frz ob u) := fun ob u e => by
  have t := h.top
  cases d with
  | lst ds => obtain ⟨vs, h1, h2⟩ := t; rw [h1] at e; cases e
  | dct ks => obtain ⟨kvs, h1, h2⟩ := t; rw [h1] at e; cases e
  | _ => exact t
theorem Own.upd_ne (h : Own fa g H a d) (ne : a ≠ p) (nF : ¬ g.F p) (hs : ∀ ob u, H p ≠ some (.frz ob u)) : Own fa g (upd H p o) a d :=
  ⟨h.nF, h.nC, Top.kw (kp_upd nF hs).kw (fun o e => by rw [L2.upd_ne ne]; exact e) h.top⟩
theorem View.ty (w : Wok fa g st H) (K : PySem.W.Frag) (h : View fa g H v d) {t : String} (e : tyD st d = some t) : TyX K H v (.type t) := by
  rcases h with h | ⟨a, rfl, o⟩
  · cases h with
    | non => cases e; exact .base .non
    | bl b => cases e; exact .base (.bl b)
    | int b => cases e; exact .base (.int b)
    | str b => cases e; exact .base (.str b)
    | lst f r hs => cases e; exact .base (.lst r)
    | tup f r hs => cases e; exact .base (.tup r)
    | dct f r hs =>
      cases e
      rcases r with r | ⟨ob, r⟩
      · exact .base (.dK r)
      · exact .fDict r
    | cell hk =>
      simp only [tyD] at e
      split at e
      · rename_i hc
        obtain ⟨_, vs, h1, h2⟩ := w.cells _ _ hc
        cases e; exact .base (.lst h1)
      · rename_i hc
        obtain ⟨_, vs, h1, h2⟩ := w.cells _ _ hc
        cases e; exact .base (.dK h1)
      · cases e
    | fn h => cases e
    | scr f r => cases e
    | scrK h => cases e
  · have t' := o.top
    cases d with
    | lst ds => obtain ⟨vs, h1, h2⟩ := t'; cases e; exact .base (.lst h1)
    | dct ks => obtain ⟨kvs, h1, h2⟩ := t'; cases e; exact .base (.dK h1)
    | _ => exact t'.elim
end
theorem kit_all : ∀ t ∈ ["NoneType", "bool", "int", "str", "list", "tuple", "dict"], ∀ n ∈ ["bool", "int", "str", "list", "tuple", "dict"], kitB t n = some (t == n || (t == "bool" && n == "int")) := by decide +kernel
theorem kit_isi {K : PySem.W.Frag} {st : Store} {d : D} {n : String} {b : Bool} (h : isiD st d n = some b) : ∃ t, tyD st d = some t ∧ PySem.W.kitOne K (.type t) (.type n) = some b := by
  unfold isiD at h
  split at h
  · rename_i t et
    split at h
    · rename_i hm
      cases h
      exact ⟨t, et, kit_ty (kit_all t hm.1 n hm.2)⟩
    · cases h
  · cases h
theorem kit_isis {K : PySem.W.Frag} {st : Store} {d : D} : ∀ {ns : List String} {b : Bool}, ns ≠ [] → isiDs st d ns = some b → ∃ t, tyD st d = some t ∧ PySem.W.kitAny K (.type t) (ns.map Value.type) = some b
  | [], _, h, _ => absurd rfl h
  | n :: r, b, _, h => by
    simp only [isiDs] at h
    split at h
    · rename_i b1 c e1 e2
      cases h
      obtain ⟨t, et, k1⟩ := kit_isi (K := K) e1
      refine ⟨t, et, kitAny_cons k1 (fun hb => ?_) fun hb => by rw [hb]; rfl⟩
      subst hb
      by_cases hr : r = []
      · subst hr
        cases e2
        exact kitAny_nil
      · obtain ⟨t', et', k2⟩ := kit_isis (K := K) hr e2
        rw [et] at et'; cases et'
        exact k2
    · cases h

section
variable {T : Prog} {fa : FnA} {n : Nat} {c : SC} {X : Cx} {e x y z : Expr} {pos : Pos} {es : List Expr}
theorem pe_callK0 {CX : CXT} {j : Nat} {f : Addr} {fd : FuncData} {ps ks : List Str} {sp : Sp} {E : XK} {s : Str} {p : Pos} {kws : List Keyword} {tk : TA} {gw : List Value → List Value} {gV : List V → List V} (F : FnG X.prog X.w X.K X.mg X.base CX j f fd ps sp) (hr : Room j X.A) (gd : X.A.guards = some []) (hg : Gl X s) (hm : X.mg s = some (.ref f)) (hk : PySem.W.keepIn X.K (.ref f) = true)
    (hb : ∀ (s : Shared) (ws : List Value), X.K.In s.heap → ws.length = ks.length → (gw ws).length = ps.length → BindsTo s fd ⟨[], ks.zip ws⟩ (ps.zip (gw ws))) (rel : ∀ {zs : List V} {ws : List Value}, Vals zs ws → Vals (gV zs) (gw ws)) (hx : Passes CX X E)
    (hkw : PK X kws tk) (hks : kws.map (·.arg) = ks.map some)
    (hdb : (s == ("__debug__" : Str)) = false) : PE X (.Call (.Name s p) [] kws pos) (fun σ H Q => tk σ H fun zs H2 => zs.length = ks.length ∧ sp (gV zs) H2 Q E) := by
  have kk : ∀ (kws : List Keyword) (ks : List Str), kws.map (·.arg) = ks.map some → (backToKw pos (keywordEach kws X.env)).all (·.1.isSome) = true ∧ (backToKw pos (keywordEach kws X.env)).any (·.1.isNone) = false ∧ (backToKw pos (keywordEach kws X.env)).filterMap (·.1) = ks := by
    intro kws
    induction kws with
    | nil => intro ks h; cases ks with | nil => exact ⟨rfl, rfl, rfl⟩ | cons _ _ => simp at h
    | cons q r ih =>
      intro ks h
      obtain ⟨nm, e, kp⟩ := q
      cases ks with
      | nil => simp at h
      | cons k0 ks =>
        simp only [List.map_cons, List.cons.injEq] at h
        obtain ⟨h1, h2⟩ := h
        obtain ⟨i1, i2, i3⟩ := ih ks h2
        have : nm = some k0 := h1
        subst this
        unfold keywordEach backToKw
        simp only [List.map_cons, List.all_cons, List.any_cons, List.filterMap_cons, Option.isSome_some, Option.isNone_some, Bool.true_and, Bool.false_or]
        exact ⟨i1, i2, by unfold backToKw at i3; rw [i3]⟩
  obtain ⟨k1, k2, k3⟩ := kk kws ks hks
  refine ⟨fun pins sh σ H Q I h => ?_⟩
  refine wpAny_Call_Name_kw (ld_glob I hg hm ?_ hdb)
  refine PySem.W.callWith_KW0 (h₀ := X.base) I.ok.mod.kin hk k1 (thn (hkw.run pos pins sh σ H _ I h) fun ws s2 ⟨zs, H2, I2, rz, l, q2⟩ => ⟨I2.kIn, ?_⟩) (by rw [k2]; rfl)
  rw [k3]
  have r2 := rel rz
  have hl : (gw ws).length = ps.length := by rw [← r2.length]; exact F.ln _ _ _ _ q2
  exact F.call (ar := ⟨[], ks.zip ws⟩) hr gd hx I2 (hb s2 ws I2.kIn (by rw [← rz.length]; exact l) hl) r2 q2
theorem permL_vals : ∀ (pm : List Nat) {zs : List V} {ws : List Value}, Vals zs ws → Vals (permL zs pm) (permL ws pm)
  | [], _, _, _ => .nil
  | i :: r, zs, ws, h => by
    unfold permL
    cases e : zs[i]? with
    | none => rw [h.none_of e]; exact permL_vals r h
    | some v =>
      obtain ⟨u, e2, rv⟩ := h.get e
      rw [e2]
      exact .cons rv (permL_vals r h)
theorem permL_reps {g : G} {H : Hp} : ∀ (pm : List Nat) {vs : List V} {ds zs : List D}, Reps fa g H vs ds → permD ds pm = some zs → Reps fa g H (permL vs pm) zs
  | [], _, _, _, _, e => by cases e; exact .nil
  | i :: r, vs, ds, zs, h, e => by
    simp only [permD] at e
    split at e
    · rename_i d ds' e1 e2
      cases e
      obtain ⟨v, e3, rv⟩ := h.get e1
      unfold permL
      rw [e3]
      exact .cons rv (permL_reps r h e2)
    · cases e
theorem chkK_len : ∀ (es : Es) (c : SC) (kws : List Keyword), es.chkK c kws = true → True := fun _ _ _ _ => trivial
theorem snd_callK (k : Cok T fa n c X) {s : Str} {p : Pos} {f : Run (List D × Store)} {kws : List Keyword} {ns : List Str} {pm : List Nat} (h1 : glB c.sc s = true) (h2 : nameB s = true) (h : PK X kws (tAr fa f)) (hk : kws.map (·.arg) = ns.map some) (hm : (s, ns, pm) ∈ c.kw)
    (hl : ∀ env st r, f env st = some r → r.1.length = ns.length) :
    PE X (.Call (.Name s p) [] kws pos) (tE fa fun env st => match f env st with
      | some (qs, st1) => match permD qs pm with
        | some zs => T.run n s zs st1
        | none => none
      | none => none) := by
  cases e : T.fn s with
  | none =>
    exact PEfalse fun σ H Q ⟨g, env, st, r, w, eo, er, q⟩ => by
      dsimp only at er
      split at er
      · split at er
        · obtain ⟨f, e'⟩ := k.pk.none _ _ _ _ er
          rw [e] at e'; cases e'
        · cases er
      · cases er
  | some fn =>
    obtain ⟨a, fd, ps, hg, hkp, F, hb, hkw⟩ := k.pk.fn s fn e
    refine PEimp (pe_callK0 (gw := fun ws => permL ws pm) (gV := fun zs => permL zs pm) F k.room k.gd (k.gl h1) hg hkp (hkw ns pm (k.kw ▸ hm)) (permL_vals pm) pass0 h hk (nameB_ok h2).1) fun σ H Q ⟨g, env, st, r, w, eo, er, q⟩ => ?_
    dsimp only at er
    split at er
    · rename_i qs st1 e1
      split at er
      · rename_i zs e2
        exact ⟨g, env, st, _, w, eo, e1, fun g1 H1 vs x1 w1 R => ⟨by rw [R.length]; exact hl _ _ _ e1, g1, st1, zs, r, w1, permL_reps pm R e2, er, fun g' H' v ro => q g' H' v (ro.trans x1)⟩⟩
      · cases er
    · cases er

/-! ### built-in functions -/
theorem snd_bi (k : Cok T fa n c X) (b : Bi) {p : Pos} {f : Run (List D × Store)} (h1 : glB c.sc (biOf b) = true) (hp : plBs (x :: es) = true) (h : PA X (x :: es) (tAv fa f)) :
    PE X (.Call (.Name (biOf b) p) (x :: es) [] pos) (tE fa fun env st => match f env st with
      | some (ds, st1) => match biD b st1 ds with
        | some (d, n) => some ⟨d, n, st1⟩
        | none => none
      | none => none) := by
  have hb : ∀ b, biOf b ∈ BN := by intro b; cases b <;> decide +kernel
  have hv : ∀ b, bootBuiltins (biOf b) = some (biV b) := by intro b; cases b <;> decide +kernel
  have n1 : ∀ b, biOf b ≠ "__name__" := by intro b; cases b <;> decide
  have n2 : ∀ b, (biOf b == ("__debug__" : Str)) = false := by intro b; cases b <;> decide
  simp only [plBs, Bool.and_eq_true] at hp
  have pe : PE X (.Call (.Name (biOf b) p) (x :: es) [] pos) (tCB (rBi fa b) (tAv fa f)) := by
    have cr := cr_bi (fa := fa) k.pk.scr k.calm k.gd k.units b (X := X)
    have hv' := hv b
    unfold biV at cr hv'
    cases b <;> first
      | exact pe_callB cr (k.gl h1) (k.pk.blt _ (hb _)) hv' h (n1 _) (n2 _) (star_cons hp.1) (star_any hp.2)
      | exact pe_callTy cr (k.gl h1) (k.pk.blt _ (hb _)) hv' h (n1 _) (n2 _) (star_cons hp.1) (star_any hp.2)
  exact PEimp pe fun σ H Q ⟨g, env, st, r, w, eo, er, q⟩ => by
    dsimp only at er
    split at er
    · rename_i ds st1 e1
      split at er
      · rename_i d m e2
        cases er
        exact ⟨g, env, st, _, w, eo, e1, fun g1 H1 vs x1 w1 R => ⟨g1, st1, ds, (d, m), w1, R, e2, fun g' H' v ro => q g' H' v (ro.trans x1)⟩⟩
      · cases er
    · cases er
/-! ### isinstance -/
def isiR (f : Run (D × Store)) (tys : List String) : Run Res := fun env st => match f env st with
    | some (d, st1) => match isiDs st1 d tys with
      | some b => some ⟨.bl b, false, st1⟩
      | none => none
    | none => none
abbrev TYS : List String := ["bool", "int", "str", "list", "tuple", "dict"]
theorem pe_ty (k : Cok T fa n c X) {s : String} {p : Pos} (h1 : glB c.sc (Str.ofString s) = true) (h2 : s ∈ TYS) : PE X (.Name (Str.ofString s) p) (L2.tC (.ty s)) := by
  have hb : ∀ s ∈ TYS, Str.ofString s ∈ BN ∧ bootBuiltins (Str.ofString s) = some (.type s) ∧ Str.ofString s ≠ "__name__" ∧ (Str.ofString s == ("__debug__" : Str)) = false := by decide +kernel
  obtain ⟨b1, b2, b3, b4⟩ := hb s h2
  exact pe_bltn (k.gl h1) (k.pk.blt _ b1) b2 rfl b3 b4
theorem snd_isi1 (k : Cok T fa n c X) {f : Run (D × Store)} {p p2 : Pos} {s : String} (h1 : glB c.sc "isinstance" = true) (hp : plB x = true) (hs : glB c.sc (Str.ofString s) = true) (h2 : s ∈ TYS) (h : PE X x (tB fa f)) :
    PE X (.Call (.Name "isinstance" p) [x, .Name (Str.ofString s) p2] [] pos) (tE fa (isiR f [s])) :=
  PEimp (pe_callB call_isi (k.gl h1) (k.pk.blt _ (by decide +kernel)) boot_isinstance (pa_cons h (pa_cons (pe_ty k hs h2) pa_nil) (star_cons hp)) (by decide) (by decide) (star_cons hp)) fun σ H Q ⟨g, env, st, r, w, eo, er, q⟩ => by
    unfold isiR at er
    split at er
    · rename_i d st1 e1
      split at er
      · rename_i b e2
        cases er
        refine ⟨g, env, st, _, w, eo, e1, fun g1 H1 v x1 w1 V1 => ?_⟩
        simp only [isiDs] at e2
        split at e2
        · rename_i b1 c1 e3 e4
          cases e4
          cases e2
          obtain ⟨t, et, kk⟩ := kit_isi (K := X.K) e3
          exact ⟨v, .ty s, .type t, .type s, _, rfl, .ty s, V1.ty w1 X.K et, by rw [kk, Bool.or_false], q g1 H1 _ ((res_old w1 (.bl _)).trans x1)⟩
        · cases e2
      · cases er
    · cases er
/-- types' names one after another -/
theorem pa_tys (k : Cok T fa n c X) : ∀ {es : List Expr} {tys : List String}, isNames es tys = true → (∀ s ∈ tys, glB c.sc (Str.ofString s) = true ∧ s ∈ TYS) → PA X es (fun _ H Q => Q (tys.map V.ty) H)
  | [], [], _, _ => pa_nil
  | e :: es, s :: tys, h, hs => by
    simp only [isNames, Bool.and_eq_true] at h
    obtain ⟨h1, h2⟩ := h
    unfold isName at h1
    split at h1
    · rename_i y p
      have ey : y = Str.ofString s := by simpa using h1
      subst ey
      obtain ⟨a, b⟩ := hs s List.mem_cons_self
      exact pa_cons (pe_ty k a b) (pa_tys k h2 fun s' h' => hs s' (List.mem_cons_of_mem _ h'))
    · cases h1
  | [], _ :: _, h, _ => by simp [isNames] at h
  | _ :: _, [], h, _ => by simp [isNames] at h
theorem snd_isiT (k : Cok T fa n c X) {f : Run (D × Store)} {p p2 : Pos} {m : Nat} {tys : List String} (hne : tys ≠ []) (hln : tys.length ≤ sizeLine) (h1 : glB c.sc "isinstance" = true) (hp : plB x = true) (hs : isNames es tys = true) (h2 : ∀ s ∈ tys, glB c.sc (Str.ofString s) = true ∧ s ∈ TYS) (h : PE X x (tB fa f)) :
    PE X (.Call (.Name "isinstance" p) [x, .Tuple es m p2] [] pos) (tE fa (isiR f tys)) :=
  PEimp (pe_callB call_isiT (k.gl h1) (k.pk.blt _ (by decide +kernel)) boot_isinstance (pa_cons h (pa_cons (pe_tup (pa_tys k hs h2)) pa_nil) (star_cons hp)) (by decide) (by decide) (star_cons hp)) fun σ H Q ⟨g, env, st, r, w, eo, er, q⟩ => by
    unfold isiR at er
    split at er
    · rename_i d st1 e1
      split at er
      · rename_i b e2
        cases er
        refine ⟨g, env, st, _, w, eo, e1, fun g1 H1 v x1 w1 V1 => ?_⟩
        show (tys.map V.ty).length ≤ sizeLine ∧ _
        refine ⟨by rw [List.length_map]; exact hln, fun tp htp => ?_⟩
        obtain ⟨t, et, kk⟩ := kit_isis (K := X.K) hne e2
        have x2 : Ext g1 H1 g1 (upd H1 tp (.tup (tys.map V.ty))) := ext_new w1 htp
        have w2 : Wok fa g1 st1 (upd H1 tp (.tup (tys.map V.ty))) := wok_new w1 htp
        have pr : ∀ tys : List String, Paired ClsV (tys.map V.ty) (tys.map Value.type) := by
          intro tys
          induction tys with
          | nil => exact .nil
          | cons a b ih => exact .cons (.ty a) ih
        exact ⟨v, tp, tys.map V.ty, .type t, tys.map Value.type, b, rfl, upd_same, pr tys, (V1.mono x2).ty w2 X.K et, kk, q g1 _ _ ((res_old w2 (.bl _)).trans (x1.trans x2))⟩
      · cases er
    · cases er
end
end EV

/-! EV, part I: methods, subscripts, slices, ranges as lists, dict displays. -/
namespace EV
open PySem PySem.Spec PyProof.Rows L2
section
variable {T : Prog} {fa : FnA} {n : Nat} {c : SC} {X : Cx} {e x y z : Expr} {pos : Pos} {es : List Expr}

/-! ### methods -/
def mthR (m : Mt) (f : Run (D × Store)) (h : Run (List D × Store)) : Run Res := fun env st => match f env st with
    | some (x, st1) => if mtP m st1 x = true then match h env st1 with
      | some (ds, st2) => match mtD m st2 x ds with
        | some (d, n) => some ⟨d, n, st2⟩
        | none => none
      | none => none
      else none
    | none => none
theorem mth_some {m : Mt} {f : Run (D × Store)} {h : Run (List D × Store)} {env : EV.Env} {st : Store} {r : Res} (er : mthR m f h env st = some r) :
    ∃ x st1 ds d k, f env st = some (x, st1) ∧ mtP m st1 x = true ∧ h env st1 = some (ds, r.st) ∧ mtD m r.st x ds = some (d, k) ∧ r = ⟨d, k, r.st⟩ := by
  unfold mthR at er
  split at er
  · rename_i d st1 e1
    split at er
    · rename_i hp
      split at er
      · rename_i ds st2 e2
        split at er
        · rename_i d' m e3
          cases er
          exact ⟨d, st1, ds, d', m, e1, hp, e2, e3, rfl⟩
        · cases er
      · cases er
    · cases er
  · cases er
theorem snd_bits {f : Run (D × Store)} {s : Str} {p q : Pos} (hl : (q.endLine == pos.line) = true) (h : PE X (.Name s p) (tB fa f)) :
    PE X (.Call (.Attribute (.Name s p) "bit_length" q) [] [] pos) (tE fa (mthR .bits f fun _ st => some ([], st))) :=
  PEimp (pe_bits h rfl hl) fun σ H Q ⟨g, env, st, r, w, eo, er, q⟩ => by
    obtain ⟨d, st1, ds, d', m, e1, hp, e2, e3, e4⟩ := mth_some er
    cases e2
    refine ⟨g, env, st, _, w, eo, e1, fun g1 H1 v x1 w1 V1 => ?_⟩
    simp only [mtD] at e3
    split at e3
    · rename_i i
      cases e3
      exact ⟨i, V1.int, q g1 H1 _ (by rw [e4]; exact ((res_old w1 (.int _)).trans x1))⟩
    · cases e3
theorem snd_count {f : Run (D × Store)} {f2 : Run Res} {s : Str} {p q : Pos} (hl : (q.endLine == pos.line) = true) (h : PE X (.Name s p) (tB fa f)) (hp : plB x = true) (h2 : PE X x (tE fa f2)) :
    PE X (.Call (.Attribute (.Name s p) "count" q) [x] [] pos) (tE fa (mthR .count f (consR f2 fun _ st => some ([], st)))) :=
  PEimp (pe_bm (T := "list") PySem.F.plainAttrs_list PySem.F.slot_list_count PySem.F.type_list_count mt_lcount h (pa_consR h2 hp pa_nilR) rfl (by rw [star_cons hp]; rfl) hl (star_cons hp) rfl) fun σ H Q ⟨g, env, st, r, w, eo, er, q⟩ => by
    obtain ⟨d, st1, ds, d', m, e1, hp, e2, e3, e4⟩ := mth_some er
    have e5 : ∃ k ns, ds = [.int k] ∧ (lsD r.st d).bind intsD = some ns ∧ d' = .int (ns.count k : Nat) ∧ m = false := by
      unfold mtD at e3
      split at e3
      · rename_i em; cases em
      · rename_i k em
        split at e3
        · rename_i ns en; cases e3; exact ⟨k, ns, rfl, en, rfl, rfl⟩
        · cases e3
      · rename_i em; cases em
      · cases e3
    obtain ⟨k, ns, rfl, en, rfl, rfl⟩ := e5
    refine ⟨g, env, st, _, w, eo, e1, fun g1 H1 v x1 w1 V1 => ?_⟩
    simp only [mtP] at hp
    obtain ⟨xs0, es0⟩ := Option.isSome_iff_exists.mp hp
    obtain ⟨a, vs0, ev, h0, _⟩ := V1.ls w1 es0
    subst ev
    refine ⟨.inl ⟨rfl, vs0, SqL.of h0⟩, g1, env, st1, _, w1, eo.mono x1, e2, fun g2 H2 vs x2 w2 R => ?_⟩
    cases R with
    | cons R1 R2 =>
      cases R2
      cases R1
      obtain ⟨a', ea, hA⟩ := (V1.mono x2).ints w2 en
      cases ea
      exact ⟨a, ns, k, rfl, rfl, SqL.of hA, q g2 H2 _ (by rw [e4]; exact ((res_old w2 (.int _)).trans (x1.trans x2)))⟩
theorem snd_get (k : Cok T fa n c X) {f : Run (D × Store)} {f2 f3 : Run Res} {s : Str} {p q : Pos} (hl : (q.endLine == pos.line) = true) (h : PE X (.Name s p) (tB fa f)) (hp : plB x = true) (hp2 : plB y = true) (h2 : PE X x (tE fa f2)) (h3 : PE X y (tE fa f3)) :
    PE X (.Call (.Attribute (.Name s p) "get" q) [x, y] [] pos) (tE fa (mthR .get f (consR f2 (consR f3 fun _ st => some ([], st))))) :=
  PEimp (pe_dget2 (by have := k.units; omega) h (pe_tF h2) (pe_tF h3) ⟨rfl, by rw [star_cons hp, star_cons hp2]; rfl, hl, by rw [star_cons hp, star_cons hp2]; rfl⟩) fun σ H Q ⟨g, env, st, r, w, eo, er, q⟩ => by
    obtain ⟨d, st1, ds, d', m, e1, hp, e2, e3, e4⟩ := mth_some er
    have e5 : ∃ y z ks kk, ds = [y, z] ∧ dcD r.st d = some ks ∧ keyD y = some kk ∧ d' = (getK ks kk).getD z ∧ m = false := by
      unfold mtD at e3
      split at e3
      · rename_i em; cases em
      · rename_i em; cases em
      · rename_i y z em
        split at e3
        · rename_i ks kk e6 e7; cases e3; exact ⟨y, z, ks, kk, rfl, e6, e7, rfl, rfl⟩
        · cases e3
      · cases e3
    obtain ⟨dy, dz, ks, kk, rfl, e6, e7, rfl, rfl⟩ := e5
    refine ⟨g, env, st, _, w, eo, e1, fun g1 H1 v x1 w1 V1 => ?_⟩
    simp only [mtP] at hp
    obtain ⟨xs0, es0⟩ := Option.isSome_iff_exists.mp hp
    obtain ⟨a, vs0, ev, h0, _⟩ := V1.dc w1 es0
    subst ev
    refine ⟨a, rfl, .inl ⟨vs0, h0⟩, ?_⟩
    unfold consR at e2
    split at e2
    · cases e2
    · rename_i ry e8
      split at e2
      · cases e2
      · rename_i ds2 st2 e9
        injection e2 with e2; injection e2 with e10 e11; injection e10 with e12 e13
        split at e9
        · cases e9
        · rename_i rz e14
          injection e9 with e9; injection e9 with e15 e16
          subst e12
          rw [← e15] at e13
          injection e13 with e17 _
          refine ⟨g1, env, st1, _, w1, eo.mono x1, e8, fun g2 H2 v2 x2 w2 R2 => ⟨g2, env, _, _, w2, eo.mono (x1.trans x2), e14, fun g3 H3 v3 x3 w3 R3 => ?_⟩⟩
          have er3 : rz.st = r.st := e16.trans e11
          rw [er3] at w3
          obtain ⟨a', vs, ea, hA, RK⟩ := ((V1.mono x2).mono x3).dc w3 e6
          cases ea
          have ky : v2 = kV kk := keyD_view (.inl R2) e7
          subst ky
          refine ⟨valV vs kk, dget_of kk hA, q g3 H3 _ ?_⟩
          rw [e4]
          refine ResOk.trans (x1.trans (x2.trans x3)) (res_old w3 ?_)
          obtain ⟨z1, z2⟩ := repK_val kk RK
          cases eg : getK ks kk with
          | none => rw [z2 eg]; rw [← e17]; exact R3
          | some dd =>
            obtain ⟨vv, z3, z4⟩ := z1 dd eg
            rw [z3]; exact z4

/-! ### subscripts -/
def subR (f : Run (D × Store)) (h : Run Res) : Run Res := fun env st => match f env st with
    | none => none
    | some (x, st1) => match h env st1 with
      | none => none
      | some ⟨y, _, st2⟩ => match dcD st2 x, keyD y with
        | some ks, some k => match getK ks k with
          | some d => some ⟨d, false, st2⟩
          | none => none
        | _, _ => match sqD st2 x, y with
          | some xs, .int j => match (ixD xs.length j).bind fun m => xs[m]? with
            | some d => some ⟨d, false, st2⟩
            | none => none
          | _, _ => none
theorem Reps.atI {g : G} {H : Hp} {vs : List V} {ds : List D} {j : Int} {d : D} (h : Reps fa g H vs ds) (e : ((ixD ds.length j).bind fun m => ds[m]?) = some d) : ∃ v, L2.atI vs j = some v ∧ Rep fa g H v d := by
  obtain ⟨m, e1, e2⟩ := Option.bind_eq_some_iff.mp e
  obtain ⟨v, e3, e4⟩ := h.get e2
  refine ⟨v, ?_, e4⟩
  unfold L2.atI
  rw [h.length]
  have e1' : ixN ds.length j = some m := e1
  rw [e1']
  exact e3
theorem snd_sub (k : Cok T fa n c X) {f : Run (D × Store)} {h : Run Res} (h1 : PE X x (tB fa f)) (h2 : PE X y (tE fa h)) (hp : plB y = true) : PE X (.Subscript x y pos) (tE fa (subR f h)) :=
  PEimp (PEor (pe_dget (by have := k.units; omega) h1 (pe_tF h2) (fun o i => ix_ok hp o i)) (pe_ix ix_seq h1 (pe_tF h2) (ix_ok hp))) fun σ H Q ⟨g, env, st, r, w, eo, er, q⟩ => by
    unfold subR at er
    split at er
    · cases er
    · rename_i dx st1 e1
      split at er
      · cases er
      · rename_i dy m st2 e2
        split at er
        · rename_i ks kk e3 e4
          split at er
          · rename_i d eg
            cases er
            refine .inl ⟨g, env, st, _, w, eo, e1, fun g1 H1 v1 x1 w1 V1 => ⟨g1, env, st1, _, w1, eo.mono x1, e2, fun g2 H2 v2 x2 w2 R2 => ?_⟩⟩
            obtain ⟨a, vs, ea, hA, RK⟩ := (V1.mono x2).dc w2 e3
            obtain ⟨z1, z2⟩ := (repK_val kk RK).1 d eg
            have ky : v2 = kV kk := keyD_view (.inl R2) e4
            subst ky
            refine ⟨a, z1, ea, ?_, q g2 H2 _ (ResOk.trans (x1.trans x2) (res_old w2 z2.2))⟩
            rw [← z2.1]; exact dget_of kk hA
          · cases er
        · split at er
          · rename_i xs j e3 _
            split at er
            · rename_i d eg
              cases er
              refine .inr ⟨g, env, st, _, w, eo, e1, fun g1 H1 v1 x1 w1 V1 => ⟨g1, env, st1, _, w1, eo.mono x1, e2, fun g2 H2 v2 x2 w2 R2 => ?_⟩⟩
              cases R2
              obtain ⟨a, vs, ea, hA, RS⟩ := (V1.mono x2).sq k.pk.scr w2 e3
              obtain ⟨v, ei, rv⟩ := RS.atI eg
              have fin := q g2 H2 v (ResOk.trans (x1.trans x2) (res_old w2 rv))
              rcases hA with hA | hA
              · exact .inl ⟨a, vs, j, v, ea, rfl, hA, ei, fin⟩
              · exact .inr (.inl ⟨a, vs, j, v, ea, rfl, hA, ei, fin⟩)
            · cases er
          · cases er

/-! ### slices -/
def slcR (f : Run (D × Store)) (fl fh : Run (Option Int × Store)) : Run Res := fun env st => match f env st with
    | none => none
    | some (x, st1) => match fl env st1 with
      | none => none
      | some (l, st2) => match fh env st2 with
        | none => none
        | some (h, st3) => match rdD st3 x with
          | some xs => some ⟨.lst (cutD xs l h), true, st3⟩
          | none => none
theorem po_nilR : PO X none (tO fa fun _ st => some (none, st)) := ⟨fun pins s σ H Q I ⟨g, env, st, r, w, eo, er, q⟩ => (po_none (X := X)).run pins s σ H Q I (by cases er; exact q g H (.refl g H) w)⟩
theorem po_someR {f : Run Res} (h : PE X x (tE fa f)) : PO X (some x) (tO fa fun env st => match f env st with
    | some ⟨.int i, _, st1⟩ => some (some i, st1)
    | _ => none) := ⟨fun pins s σ H Q I ⟨g, env, st, r, w, eo, er, q⟩ => (po_some h).run pins s σ H Q I (by
  dsimp only at er
  split at er
  · rename_i i m st1 e1
    cases er
    exact ⟨g, env, st, _, w, eo, e1, fun g1 H1 v ro => ⟨i, ro.int, q g1 H1 ro.ext ro.wok⟩⟩
  · cases er)⟩
theorem snd_slc (k : Cok T fa n c X) {f : Run (D × Store)} {fl fh : Run (Option Int × Store)} {lo hi : Option Expr} {p2 : Pos} (h : PE X x (tB fa f)) (hl : PO X lo (tO fa fl)) (hh : PO X hi (tO fa fh)) : PE X (.Subscript x (.Slice lo hi none p2) pos) (tE fa (slcR f fl fh)) :=
  PEimp (pe_slice sl_list h hl hh) fun σ H Q ⟨g, env, st, r, w, eo, er, q⟩ => by
    unfold slcR at er
    split at er
    · cases er
    · rename_i dx st1 e1
      split at er
      · cases er
      · rename_i l st2 e2
        split at er
        · cases er
        · rename_i u st3 e3
          split at er
          · rename_i xs e4
            cases er
            refine ⟨g, env, st, _, w, eo, e1, fun g1 H1 v1 x1 w1 V1 => ⟨g1, env, st1, _, w1, eo.mono x1, e2, fun g2 H2 x2 w2 => ⟨g2, env, st2, _, w2, eo.mono (x1.trans x2), e3, fun g3 H3 x3 w3 => ?_⟩⟩⟩
            obtain ⟨a, vs, ea, hA, RS⟩ := ((V1.mono x2).mono x3).rd k.pk.scr w3 e4
            refine ⟨a, vs, ea, hA, fun p hp => q _ _ _ (ResOk.trans (x1.trans (x2.trans x3)) (res_lst w3 hp ?_))⟩
            unfold cutV cutD
            rw [RS.length]
            exact (RS.drop _).take _
          · cases er
theorem snd_rev {f : Run (D × Store)} {k : Nat} {p1 p2 p3 : Pos} (h : PE X x (tB fa f)) : PE X (.Subscript x (.Slice none none (some (.UnaryOp .USub (.Constant (.int 1) k p1) p2)) p3) pos) (tE fa fun env st => match f env st with
    | some (x, st1) => match lsD st1 x with
      | some xs => some ⟨.lst xs.reverse, true, st1⟩
      | none => none
    | none => none) :=
  PEimp (pe_revL h) fun σ H Q ⟨g, env, st, r, w, eo, er, q⟩ => by
    dsimp only at er
    split at er
    · rename_i dx st1 e1
      split at er
      · rename_i xs e2
        cases er
        refine ⟨g, env, st, _, w, eo, e1, fun g1 H1 v1 x1 w1 V1 => ?_⟩
        obtain ⟨a, vs, ea, hA, RS⟩ := V1.ls w1 e2
        exact ⟨a, vs, ea, SqL.of hA, fun p hp => q _ _ _ (ResOk.trans x1 (res_lst w1 hp RS.reverse))⟩
      · cases er
    · cases er

/-! ### list(range(..)) -/
def lrgR (fl : Run (Option Int × Store)) (h : Run Res) : Run Res := fun env st => match fl env st with
    | none => none
    | some (l, st1) => match h env st1 with
      | some ⟨.int j, _, st2⟩ =>
        let i := l.getD 0
        if -(2 ^ 62) ≤ i ∧ i < 2 ^ 62 ∧ -(2 ^ 62) ≤ j ∧ j < 2 ^ 62 ∧ (j - i).toNat ≤ LIM then some ⟨.lst ((List.range (j - i).toNat).map fun k => .int (i + (k : Nat))), true, st2⟩ else none
      | _ => none
theorem reps_rg {g : G} {H : Hp} (i j : Int) : Reps fa g H (rgV i j) ((List.range (j - i).toNat).map fun k => D.int (i + (k : Nat))) := by
  unfold rgV
  generalize List.range (j - i).toNat = l
  induction l with
  | nil => exact .nil
  | cons a r ih => exact .cons (.int _) ih
theorem lrg_some {fl : Run (Option Int × Store)} {h : Run Res} {env : EV.Env} {st : Store} {r : Res} (er : lrgR fl h env st = some r) :
    ∃ l st1 j m, fl env st = some (l, st1) ∧ h env st1 = some ⟨.int j, m, r.st⟩ ∧ RgOk (l.getD 0) j ∧ r = ⟨.lst ((List.range (j - l.getD 0).toNat).map fun k => .int (l.getD 0 + (k : Nat))), true, r.st⟩ := by
  unfold lrgR at er
  split at er
  · cases er
  · rename_i l st1 e1
    split at er
    · rename_i j m st2 e2
      dsimp only at er
      split at er
      · rename_i hc
        cases er
        exact ⟨l, st1, j, m, e1, e2, hc, rfl⟩
      · cases er
    · cases er
theorem snd_lrg1 (k : Cok T fa n c X) {h : Run Res} {p p2 pos2 : Pos} (g1 : glB c.sc "list" = true) (g2 : glB c.sc "range" = true) (hp : plB x = true) (h1 : PE X x (tE fa h)) :
    PE X (.Call (.Name "list" p) [.Call (.Name "range" p2) [x] [] pos2] [] pos) (tE fa (lrgR (fun _ st => some (none, st)) h)) :=
  PEimp (pe_listRg k.calm (k.gl g1) (k.pk.blt _ (by decide +kernel)) (prg_1 (k.gl g2) (k.pk.blt _ (by decide +kernel)) h1 (star_cons hp)) rfl) fun σ H Q ⟨g, env, st, r, w, eo, er, q⟩ => by
    obtain ⟨l, st1, j, m, e1, e2, hc, e3⟩ := lrg_some er
    cases e1
    refine ⟨g, env, st, _, w, eo, e2, fun g1 H1 v1 ro => ⟨j, ro.int, hc, fun p hp => q g1 (upd H1 p (.lst (rgV 0 j))) _ ?_⟩⟩
    rw [e3]
    exact ResOk.trans ro.ext (res_lst ro.wok hp (reps_rg 0 j))
theorem snd_lrg2 (k : Cok T fa n c X) {f h : Run Res} {p p2 pos2 : Pos} (g1 : glB c.sc "list" = true) (g2 : glB c.sc "range" = true) (hp : plB x = true) (hp2 : plB y = true) (h1 : PE X x (tE fa f)) (h2 : PE X y (tE fa h)) :
    PE X (.Call (.Name "list" p) [.Call (.Name "range" p2) [x, y] [] pos2] [] pos) (tE fa (lrgR (fun env st => match f env st with
    | some ⟨.int i, _, st1⟩ => some (some i, st1)
    | _ => none) h)) :=
  PEimp (pe_listRg k.calm (k.gl g1) (k.pk.blt _ (by decide +kernel)) (prg_2 (k.gl g2) (k.pk.blt _ (by decide +kernel)) h1 h2 (star_cons hp) (star_cons hp2) (by rw [star_cons hp2]; rfl)) rfl) fun σ H Q ⟨g, env, st, r, w, eo, er, q⟩ => by
    obtain ⟨l, st1, j, m, e1, e2, hc, e3⟩ := lrg_some er
    split at e1
    · rename_i i m' st1' e4
      cases e1
      refine ⟨g, env, st, _, w, eo, e4, fun g1 H1 v1 ro => ⟨g1, env, _, _, ro.wok, eo.mono ro.ext, e2, fun g2 H2 v2 ro2 => ⟨i, j, (ro.view.mono ro2.ext).int, ro2.int, hc, fun p hp => q g2 (upd H2 p (.lst (rgV i j))) _ ?_⟩⟩⟩
      rw [e3]
      exact ResOk.trans (ro.ext.trans ro2.ext) (res_lst ro2.wok hp (reps_rg i j))
    · cases e1
end
end EV

/-! EV, part J: targets, iterators, locks, list comprehensions, dict displays. -/
namespace EV
open PySem PySem.Spec PyProof.Rows L2
section
variable {fa : FnA} {g g' g2 : G} {H H' H2 : Hp} {st st' : Store} {a p : Addr} {v : V} {d : D} {o : HO} {env env2 : EV.Env} {σ σ2 : L2.St}
/-! ### environments -/
theorem EnvOk.set {i : Nat} (e : EnvOk fa g H env σ) (h : Rep fa g H v d) : EnvOk fa g H (env.set i (.fr d)) (σ.set i (some v)) where
  fr := fun j d' hj => by
    by_cases ij : i = j
    · subst ij
      by_cases hl : i < env.length
      · rw [List.getElem?_set_self hl] at hj
        cases hj
        exact ⟨v, List.getElem?_set_self (Nat.lt_of_lt_of_le hl e.le), h⟩
      · rw [List.getElem?_eq_none (by simpa using hl)] at hj; cases hj
    · rw [List.getElem?_set_ne ij] at hj ⊢; exact e.fr j d' hj
  ow := fun j d' hj => by
    by_cases ij : i = j
    · subst ij
      by_cases hl : i < env.length
      · rw [List.getElem?_set_self hl] at hj; cases hj
      · rw [List.getElem?_eq_none (by simpa using hl)] at hj; cases hj
    · rw [List.getElem?_set_ne ij] at hj ⊢; exact e.ow j d' hj
  di := fun j k d1 d2 a jk hj hk ha => by
    have nj : i ≠ j := fun ij => by
      subst ij
      by_cases hl : i < env.length
      · rw [List.getElem?_set_self hl] at hj; cases hj
      · rw [List.getElem?_eq_none (by simpa using hl)] at hj; cases hj
    have nk : i ≠ k := fun ij => by
      subst ij
      by_cases hl : i < env.length
      · rw [List.getElem?_set_self hl] at hk; cases hk
      · rw [List.getElem?_eq_none (by simpa using hl)] at hk; cases hk
    rw [List.getElem?_set_ne nj] at hj ha
    rw [List.getElem?_set_ne nk] at hk ⊢
    exact e.di j k d1 d2 a jk hj hk ha
  le := by rw [List.length_set, List.length_set]; exact e.le
theorem EnvOk.no {i : Nat} {w : Option V} (e : EnvOk fa g H env σ) : EnvOk fa g H (env.set i .no) (σ.set i w) where
  fr := fun j d' hj => by
    by_cases ij : i = j
    · subst ij
      by_cases hl : i < env.length
      · rw [List.getElem?_set_self hl] at hj; cases hj
      · rw [List.getElem?_eq_none (by simpa using hl)] at hj; cases hj
    · rw [List.getElem?_set_ne ij] at hj ⊢; exact e.fr j d' hj
  ow := fun j d' hj => by
    by_cases ij : i = j
    · subst ij
      by_cases hl : i < env.length
      · rw [List.getElem?_set_self hl] at hj; cases hj
      · rw [List.getElem?_eq_none (by simpa using hl)] at hj; cases hj
    · rw [List.getElem?_set_ne ij] at hj ⊢; exact e.ow j d' hj
  di := fun j k d1 d2 a jk hj hk ha => by
    have nj : i ≠ j := fun ij => by
      subst ij
      by_cases hl : i < env.length
      · rw [List.getElem?_set_self hl] at hj; cases hj
      · rw [List.getElem?_eq_none (by simpa using hl)] at hj; cases hj
    have nk : i ≠ k := fun ij => by
      subst ij
      by_cases hl : i < env.length
      · rw [List.getElem?_set_self hl] at hk; cases hk
      · rw [List.getElem?_eq_none (by simpa using hl)] at hk; cases hk
    rw [List.getElem?_set_ne nj] at hj ha
    rw [List.getElem?_set_ne nk] at hk ⊢
    exact e.di j k d1 d2 a jk hj hk ha
  le := by rw [List.length_set, List.length_set]; exact e.le
theorem EnvOk.wipe (e : EnvOk fa g H env σ) : ∀ vs : List Nat, EnvOk fa g H (wipeE env vs) (L2.wipe σ vs)
  | [] => e
  | _ :: vs => (EnvOk.wipe e vs).no

/-! ### targets -/
def tG (fa : FnA) (t : Tg) : TG := fun v σ H Q => ∃ g d env env2, Rep fa g H v d ∧ bindT t d env = some env2 ∧
  ∀ σ2, (∀ g' H', Kp g H g' H' → EnvOk fa g' H' env σ → EnvOk fa g' H' env2 σ2) → (∀ vs : List Nat, (∀ i ∈ tgSlots t, i ∈ vs) → L2.wipe σ2 vs = L2.wipe σ vs) →
    (∀ (i : Nat) (d : D), env2[i]? = some (Sl.ow d) → env[i]? = some (Sl.ow d) ∧ σ2[i]? = σ[i]?) → Q σ2 H
theorem set_ow {env : EV.Env} {i j : Nat} {d0 d : D} (h : (env.set i (.fr d0))[j]? = some (Sl.ow d)) : j ≠ i ∧ env[j]? = some (Sl.ow d) := by
  by_cases e : i = j
  · subst e
    by_cases hl : i < env.length
    · rw [List.getElem?_set_self hl] at h; cases h
    · rw [List.getElem?_eq_none (by simpa using hl)] at h; cases h
  · rw [List.getElem?_set_ne e] at h; exact ⟨Ne.symm e, h⟩
theorem bindAll_ow : ∀ {is : List Nat} {ds : List D} {env env2 : EV.Env} {j : Nat} {d : D}, bindAll is ds env = some env2 → env2[j]? = some (Sl.ow d) → j ∉ is ∧ env[j]? = some (Sl.ow d)
  | [], [], _, _, _, _, b, h => by cases b; exact ⟨by simp, h⟩
  | [], _ :: _, _, _, _, _, b, _ => by simp [bindAll] at b
  | _ :: _, [], _, _, _, _, b, _ => by simp [bindAll] at b
  | i :: is, d0 :: ds, env, env2, j, d, b, h => by
    simp only [bindAll] at b
    obtain ⟨h1, h2⟩ := bindAll_ow b h
    obtain ⟨h3, h4⟩ := set_ow h2
    exact ⟨by simp only [List.mem_cons, not_or]; exact ⟨h3, h1⟩, h4⟩
theorem wipe_ext {σ σ2 : L2.St} (h : ∀ j, j ∉ (vs : List Nat) → σ2[j]? = σ[j]?) (hl : σ2.length = σ.length) : L2.wipe σ2 vs = L2.wipe σ vs := by
  have get : ∀ (vs : List Nat) (σ : L2.St) (j : Nat), (L2.wipe σ vs)[j]? = if j ∈ vs ∧ j < σ.length then some none else σ[j]? := by
    intro vs
    induction vs with
    | nil => intro σ j; simp [L2.wipe]
    | cons a r ih =>
      intro σ j
      unfold L2.wipe
      by_cases e : a = j
      · subst e
        by_cases hj : a < σ.length
        · rw [List.getElem?_set_self (by rw [wipe_length]; exact hj), if_pos ⟨List.mem_cons_self, hj⟩]
        · rw [List.getElem?_eq_none (by rw [List.length_set, wipe_length]; omega), if_neg (fun z => hj z.2), List.getElem?_eq_none (by omega)]
      · rw [List.getElem?_set_ne e, ih]
        have : (j ∈ a :: r) ↔ (j ∈ r) := by simp [Ne.symm e]
        simp only [this]
  apply List.ext_getElem?
  intro j
  rw [get, get, hl]
  by_cases hj : j ∈ vs
  · by_cases hl' : j < σ.length
    · rw [if_pos ⟨hj, hl'⟩, if_pos ⟨hj, hl'⟩]
    · rw [if_neg (fun z => hl' z.2), if_neg (fun z => hl' z.2), List.getElem?_eq_none (by omega), List.getElem?_eq_none (by omega)]
  · rw [if_neg (fun z => hj z.1), if_neg (fun z => hj z.1)]; exact h j hj
def setsV : List Nat → List V → L2.St → L2.St
  | i :: is, v :: vs, σ => setsV is vs (σ.set i (some v))
  | _, _, σ => σ
theorem setsV_out : ∀ (is : List Nat) (xs : List V) (σ : L2.St), (setsV is xs σ).length = σ.length ∧ ∀ j, j ∉ is → (setsV is xs σ)[j]? = σ[j]?
  | [], _, _ => ⟨by unfold setsV; rfl, fun _ _ => by unfold setsV; rfl⟩
  | _ :: _, [], _ => ⟨by unfold setsV; rfl, fun _ _ => by unfold setsV; rfl⟩
  | i :: is, v :: vs, σ => by
    obtain ⟨h1, h2⟩ := setsV_out is vs (σ.set i (some v))
    unfold setsV
    refine ⟨by rw [h1, List.length_set], fun j hj => ?_⟩
    simp only [List.mem_cons, not_or] at hj
    rw [h2 j hj.2, List.getElem?_set_ne (Ne.symm hj.1)]
theorem EnvOk.sets : ∀ (is : List Nat) {vs : List V} {ds : List D} {env env2 : EV.Env} {σ : L2.St}, EnvOk fa g H env σ → Reps fa g H vs ds → bindAll is ds env = some env2 → EnvOk fa g H env2 (setsV is vs σ)
  | [], _, [], _, _, _, e, h, b => by cases h; cases b; unfold setsV; exact e
  | [], _, _ :: _, _, _, _, _, _, b => by simp [bindAll] at b
  | _ :: _, _, [], _, _, _, _, _, b => by simp [bindAll] at b
  | i :: is, _, d :: ds, env, env2, σ, e, h, b => by
    cases h with
    | cons h1 h2 =>
      unfold setsV
      simp only [bindAll] at b
      exact EnvOk.sets is (e.set h1) h2 b
end
section
variable {T : Prog} {fa : FnA} {n : Nat} {c : SC} {X : Cx} {e x y z tg iter : Expr} {pos : Pos} {es : List Expr}
def gNames : List Nat → TGs
  | [] => gNil
  | i :: is => gCons (gName i) (gNames is)
theorem gNames_sets {Q : L2.St → Hp → Prop} {H : Hp} : ∀ (is : List Nat) (vs : List V) (σ : L2.St), vs.length = is.length → Q (setsV is vs σ) H → gNames is vs σ H Q
  | [], [], σ, _, q => ⟨rfl, by unfold setsV at q; exact q⟩
  | [], _ :: _, _, h, _ => by simp at h
  | _ :: _, [], _, h, _ => by simp at h
  | i :: is, v :: vs, σ, h, q => ⟨v, vs, rfl, gNames_sets is vs (σ.set i (some v)) (by simpa using h) (by unfold setsV at q; exact q)⟩
theorem tslot_pg (k : Cok T fa n c X) {i : Nat} (h : tslotB c i e = true) : PG X e (gName i) ∧ ∃ s p, e = .Name s p := by
  unfold tslotB at h
  split at h
  · simp only [Bool.and_eq_true, decide_eq_true_eq] at h
    obtain ⟨⟨h1, h2⟩, h3⟩ := h
    obtain ⟨l1, l2⟩ := k.loc h2
    exact ⟨pg_name k.nd (by rw [k.N]; exact h1) l1 l2, _, _, rfl⟩
  · cases h
theorem tslots_pg (k : Cok T fa n c X) : ∀ {is : List Nat} {es : List Expr}, tslotsB c is es = true → PGs X es (gNames is) ∧ (assignEach es X.env).length = is.length ∧ (assignEach es X.env).findIdx? (·.1) = none
  | [], [], _ => ⟨pgs_nil, rfl, rfl⟩
  | [], _ :: _, h => by simp [tslotsB] at h
  | _ :: _, [], h => by simp [tslotsB] at h
  | i :: is, e :: es, h => by
    simp only [tslotsB, Bool.and_eq_true] at h
    obtain ⟨p, s, q, rfl⟩ := tslot_pg k h.1
    obtain ⟨ps, l, f⟩ := tslots_pg k h.2
    have e1 : assignEach (.Name s q :: es) X.env = (false, assign (.Name s q) X.env) :: assignEach es X.env := rfl
    refine ⟨pgs_cons p ps rfl, by rw [e1]; simp [l], ?_⟩
    rw [e1, List.findIdx?_cons]
    show (if false = true then some 0 else ((assignEach es X.env).findIdx? (·.1)).map fun i => i + 1) = none
    rw [f]; rfl
theorem PGimp {t t' : TG} (h : PG X e t) (i : ∀ v σ H Q, t' v σ H Q → t v σ H Q) : PG X e t' := ⟨fun pins s σ H v u Q I r q => h.run pins s σ H v u Q I r (i v σ H Q q)⟩
theorem snd_tg (k : Cok T fa n c X) {t : Tg} (h : t.chk c e = true) : PG X e (tG fa t) := by
  cases t with
  | one i =>
    refine PGimp (tslot_pg k h).1 fun v σ H Q ⟨g, d, env, env2, R, b, q⟩ => ?_
    have b' : some (env.set i (.fr d)) = some env2 := b
    cases b'
    refine q _ (fun g' H' kp eo => eo.set (R.kp kp)) (fun vs hv => wipe_ext (fun j hj => by
    have : i ∈ vs := hv i (by simp [tgSlots])
    have ne : i ≠ j := fun e => hj (e ▸ this)
    rw [List.getElem?_set_ne ne]) (by rw [List.length_set])) fun j d' hj => ?_
    obtain ⟨h1, h2⟩ := set_ow hj
    exact ⟨h2, List.getElem?_set_ne (Ne.symm h1)⟩
  | tup is =>
    simp only [Tg.chk] at h
    split at h
    · rename_i es m p
      obtain ⟨ps, l, f⟩ := tslots_pg k h
      refine PGimp (pg_tup k.calm ps l f) fun v σ H Q ⟨g, d, env, env2, R, b, q⟩ => ?_
      cases d with
      | tup ds =>
        cases R with
        | tup f0 r0 rs0 =>
          rename_i a vs _
          have b' : bindAll is ds env = some env2 := b
          have hlen : ∀ (is : List Nat) (ds : List D) (env env2 : EV.Env), bindAll is ds env = some env2 → ds.length = is.length := by
            intro is
            induction is with
            | nil => intro ds env env2 h; cases ds with | nil => rfl | cons _ _ => simp [bindAll] at h
            | cons i is ih => intro ds env env2 h; cases ds with | nil => simp [bindAll] at h | cons d ds => simp only [bindAll] at h; simp [ih _ _ _ h]
          have hl := hlen _ _ _ _ b'
          refine ⟨a, vs, rfl, SqT.of r0, by rw [rs0.length, hl], gNames_sets is vs σ (by rw [rs0.length, hl]) (q _ (fun g' H' kp eo => eo.sets is (rs0.kp kp) b') (fun ws hw => wipe_ext (fun j hj => (setsV_out is vs σ).2 j fun z => hj (hw j z)) (setsV_out is vs σ).1) fun j d' hj => ⟨(bindAll_ow b' hj).2, (setsV_out is vs σ).2 j (bindAll_ow b' hj).1⟩)⟩
      | _ => simp [bindT] at b
    · cases h

/-! ### iterators -/
theorem PIimp {t t' : TI} (h : PI X tg e t) (i : ∀ σ H R, t' σ H R → t σ H R) : PI X tg e t' := ⟨fun pins s σ H R I q => h.run pins s σ H R I (i σ H R q)⟩
theorem PIor {t t' : TI} (h : PI X tg e t) (h' : PI X tg e t') : PI X tg e (fun σ H R => t σ H R ∨ t' σ H R) := ⟨fun pins s σ H R I q => q.elim (h.run pins s σ H R I) (h'.run pins s σ H R I)⟩
theorem items_lst {K : PySem.W.Frag} {g : G} {H : Hp} {a : Addr} {vs : List V} {ds : List D} (f : g.F a) (h : H a = some (.lst vs)) (r : Reps fa g H vs ds) : Items fa (Itl K a) (fun _ => some ds) g H := by
  intro g1 H1 st1 ds1 kp w es
  cases es
  have h1 : H1 a = some (.lst vs) := kp.keep a _ f True.intro h
  refine ⟨fun i d e => ?_, vs, SqL.of h1, Nat.le_of_eq r.length⟩
  obtain ⟨v, ev, rv⟩ := r.get e
  refine ⟨⟨vs, v, SqL.of h1, ev⟩, fun x H2 y => ?_⟩
  obtain ⟨rfl, y⟩ := y
  have := y vs (SqL.of h1)
  rw [ev] at this; cases this
  exact ⟨g1, .refl _ _, w, rv.kp kp⟩
/-- the place that a value's list stands at, for ever -/
def LsAt (fa : FnA) (a : Addr) (d : D) (g : G) (H : Hp) : Prop := ∀ g1 H1 st1 ds, Kp g H g1 H1 → Wok fa g1 st1 H1 → lsD st1 d = some ds → ∃ vs, H1 a = some (.lst vs) ∧ Reps fa g1 H1 vs ds
theorem lsAt_of {g : G} {H : Hp} {v : V} {d : D} {s : Src} (r : Rep fa g H v d) (h : srcL d = some s) : ∃ a, v = .ref a ∧ LsAt fa a d g H ∧ s = fun st => lsD st d := by
  cases r with
  | lst f r hs =>
    cases h
    refine ⟨_, rfl, fun g1 H1 st1 ds kp w e => ?_, rfl⟩
    cases e
    exact ⟨_, kp.keep _ _ f True.intro r, hs.kp kp⟩
  | cell hk =>
    cases h
    refine ⟨_, rfl, fun g1 H1 st1 ds kp w e => ?_, rfl⟩
    obtain ⟨a, vs, ev, hv, rs⟩ := View.ls w (v := .ref (g1.ρ _)) (.inl (.cell (Nat.lt_of_lt_of_le hk kp.le))) e
    cases ev
    rw [← kp.cell _ hk]
    exact ⟨vs, hv, rs⟩
  | _ => simp [srcL] at h
theorem items_ls {K : PySem.W.Frag} {g : G} {H : Hp} {a : Addr} {d : D} (l : LsAt fa a d g H) : Items fa (Itl K a) (fun st => lsD st d) g H := by
  intro g1 H1 st1 ds1 kp w es
  obtain ⟨vs, h1, r⟩ := l g1 H1 st1 ds1 kp w es
  refine ⟨fun i d e => ?_, vs, SqL.of h1, Nat.le_of_eq r.length⟩
  obtain ⟨v, ev, rv⟩ := r.get e
  refine ⟨⟨vs, v, SqL.of h1, ev⟩, fun x H2 y => ?_⟩
  obtain ⟨rfl, y⟩ := y
  have := y vs (SqL.of h1)
  rw [ev] at this; cases this
  exact ⟨g1, .refl _ _, w, rv⟩
theorem items_tup {K : PySem.W.Frag} {g : G} {H : Hp} {a : Addr} {vs : List V} {ds : List D} (f : g.F a) (h : H a = some (.tup vs)) (r : Reps fa g H vs ds) : Items fa (Itt K a) (fun _ => some ds) g H := by
  intro g1 H1 st1 ds1 kp w es
  cases es
  have h1 : H1 a = some (.tup vs) := kp.keep a _ f True.intro h
  refine ⟨fun i d e => ?_, vs, SqT.of h1, Nat.le_of_eq r.length⟩
  obtain ⟨v, ev, rv⟩ := r.get e
  refine ⟨⟨vs, v, SqT.of h1, ev⟩, fun x H2 y => ?_⟩
  obtain ⟨rfl, y⟩ := y
  have := y vs (SqT.of h1)
  rw [ev] at this; cases this
  exact ⟨g1, .refl _ _, w, rv.kp kp⟩
theorem items_rng {g : G} {H : Hp} (lo : Int) (m : Nat) : Items fa (Itr lo m) (fun _ => some ((List.range m).map fun k => D.int (lo + (k : Nat)))) g H := by
  intro g1 H1 st1 ds1 kp w es
  cases es
  refine ⟨fun i d e => ?_, by simp [Itr]⟩
  rw [List.getElem?_map] at e
  obtain ⟨j, e1, e2⟩ := Option.map_eq_some_iff.mp e
  obtain ⟨h1, h2⟩ := List.getElem?_eq_some_iff.mp e1
  simp at h1 h2
  subst h2
  refine ⟨h1, fun x H2 y => ?_⟩
  obtain ⟨rfl, rfl⟩ := y
  exact ⟨g1, .refl _ _, w, by rw [← e2]; exact .int _⟩
theorem rep_tup2 {g : G} {H : Hp} {st : Store} {T : Addr} {x y : V} {d e : D} (w : Wok fa g st H) (hT : H T = none) (r1 : Rep fa g H x d) (r2 : Rep fa g H y e) :
    ∃ g2, Ext g H g2 (upd H T (.tup [x, y])) ∧ Wok fa g2 st (upd H T (.tup [x, y])) ∧ Rep fa g2 (upd H T (.tup [x, y])) (.ref T) (.tup [d, e]) := by
  have z := res_tup (vs := [x, y]) (ds := [d, e]) w hT (.cons r1 (.cons r2 .nil))
  exact ⟨_, z.ext, z.wok, by have := z.2.2; rwa [if_neg (by simp)] at this⟩
theorem items_enu {K : PySem.W.Frag} {g : G} {H : Hp} {a : Addr} {d : D} (l : LsAt fa a d g H) : Items fa (Ite K a) (fun st => (lsD st d).map fun xs => xs.zipIdx.map fun p => .tup [.int (p.2 : Nat), p.1]) g H := by
  intro g1 H1 st1 ds1 kp w es
  obtain ⟨ds, e0, rfl⟩ := Option.map_eq_some_iff.mp es
  obtain ⟨vs, h1, r⟩ := l g1 H1 st1 ds kp w e0
  refine ⟨fun i d e => ?_, vs, SqL.of h1, by simp [r.length]⟩
  rw [List.getElem?_map] at e
  obtain ⟨⟨d0, j⟩, e1, e2⟩ := Option.map_eq_some_iff.mp e
  rw [List.getElem?_zipIdx] at e1
  obtain ⟨d1, e3, e4⟩ := Option.map_eq_some_iff.mp e1
  cases e4
  obtain ⟨v, ev, rv⟩ := r.get e3
  refine ⟨⟨vs, v, SqL.of h1, ev⟩, fun x H2 y => ?_⟩
  obtain ⟨T, v', rfl, hT, rfl, y⟩ := y
  have := y vs (SqL.of h1)
  rw [ev] at this; cases this
  subst e2
  have := rep_tup2 (x := .int (i : Nat)) (d := .int (i : Nat)) w hT (.int _) rv
  simpa using this
theorem items_zip {K : PySem.W.Frag} {g : G} {H : Hp} {a b : Addr} {d e : D} (l : LsAt fa a d g H) (l2 : LsAt fa b e g H) :
    Items fa (Itz K a b) (fun st => match lsD st d, lsD st e with
          | some xs, some ys => some ((xs.zip ys).map fun p => .tup [p.1, p.2])
          | _, _ => none) g H := by
  intro g1 H1 st1 ds1 kp w es
  dsimp only at es
  split at es
  · rename_i ds es' e0 e0'
    cases es
    obtain ⟨vs, h1, r⟩ := l g1 H1 st1 ds kp w e0
    obtain ⟨ws, h3, r2⟩ := l2 g1 H1 st1 es' kp w e0'
    refine ⟨fun i d e => ?_, vs, ws, SqL.of h1, SqL.of h3, by rw [r.length, r2.length, List.length_map, List.length_zip]; omega⟩
    rw [List.getElem?_map] at e
    obtain ⟨⟨d0, d1⟩, e1, e2⟩ := Option.map_eq_some_iff.mp e
    obtain ⟨e3, e4⟩ := List.getElem?_zip_eq_some.mp e1
    obtain ⟨v, ev, rv⟩ := r.get e3
    obtain ⟨v2, ev2, rv2⟩ := r2.get e4
    refine ⟨⟨vs, ws, v, v2, SqL.of h1, SqL.of h3, ev, ev2⟩, fun x H2 y => ?_⟩
    obtain ⟨T, v', v2', rfl, hT, rfl, y, y2⟩ := y
    have := y vs (SqL.of h1)
    rw [ev] at this; cases this
    have := y2 ws (SqL.of h3)
    rw [ev2] at this; cases this
    subst e2
    exact rep_tup2 w hT rv rv2
  · cases es
theorem items_zipT {K : PySem.W.Frag} {g : G} {H : Hp} {a b : Addr} {vs ws : List V} {ds es : List D} (f : g.F a) (h : H a = some (.tup vs)) (r : Reps fa g H vs ds) (f2 : g.F b) (h2 : H b = some (.tup ws)) (r2 : Reps fa g H ws es) :
    Items fa (RZ.ItzT K a b) (fun _ => some ((ds.zip es).map fun p => .tup [p.1, p.2])) g H := by
  intro g1 H1 st1 ds1 kp w es
  cases es
  have h1 : H1 a = some (.tup vs) := kp.keep a _ f True.intro h
  have h3 : H1 b = some (.tup ws) := kp.keep b _ f2 True.intro h2
  refine ⟨fun i d e => ?_, vs, ws, SqT.of h1, SqT.of h3, by rw [r.length, r2.length, List.length_map, List.length_zip]; omega⟩
  rw [List.getElem?_map] at e
  obtain ⟨⟨d0, d1⟩, e1, e2⟩ := Option.map_eq_some_iff.mp e
  obtain ⟨e3, e4⟩ := List.getElem?_zip_eq_some.mp e1
  obtain ⟨v, ev, rv⟩ := r.get e3
  obtain ⟨v2, ev2, rv2⟩ := r2.get e4
  refine ⟨⟨vs, ws, v, v2, SqT.of h1, SqT.of h3, ev, ev2⟩, fun x H2 y => ?_⟩
  obtain ⟨T, v', v2', rfl, hT, rfl, y, y2⟩ := y
  have := y vs (SqT.of h1)
  rw [ev] at this; cases this
  have := y2 ws (SqT.of h3)
  rw [ev2] at this; cases this
  subst e2
  exact rep_tup2 w hT (rv.kp kp) (rv2.kp kp)
theorem snd_ovr {f : Run Res} (h : PE X e (tE fa f)) : PI X tg e (tI fa fun env st => match f env st with
    | some r => (srcD r.d).bind fun s => if (s r.st).isSome = true then some (s, r.st) else none
    | none => none) :=
  PIimp (PIor (pi_list (pe_tF h)) (pi_tup (pe_tF h))) fun σ H R ⟨g, env, st, r, w, eo, er, q⟩ => by
    dsimp only at er
    split at er
    · rename_i r1 e1
      obtain ⟨s, es, er⟩ := Option.bind_eq_some_iff.mp er
      split at er
      rotate_left
      · cases er
      rename_i hs
      cases er
      by_cases ht : ∃ xs, r1.d = .tup xs
      · obtain ⟨xs, hx⟩ := ht
        rw [hx] at es
        cases es
        refine .inr ⟨g, env, st, _, w, eo, e1, fun g1 H1 v x1 w1 R1 => ?_⟩
        rw [hx] at R1
        cases R1 with | tup f r hs => exact ⟨_, rfl, ⟨_, SqT.of r⟩, q g1 H1 _ x1 w1 (items_tup f r hs)⟩
      · have es' : srcL r1.d = some s := by
          cases hd : r1.d with
          | tup xs => exact absurd ⟨xs, hd⟩ ht
          | _ => rw [hd] at es; exact es
        refine .inl ⟨g, env, st, _, w, eo, e1, fun g1 H1 v x1 w1 R1 => ?_⟩
        obtain ⟨a, rfl, l, rfl⟩ := lsAt_of R1 es'
        obtain ⟨ds, e5⟩ := Option.isSome_iff_exists.mp hs
        obtain ⟨vs, h5, _⟩ := l g1 H1 _ ds (.refl _ _) w1 e5
        have hv : SqL X.K H1 a vs := SqL.of h5
        exact ⟨a, rfl, ⟨vs, hv⟩, q g1 H1 _ x1 w1 (items_ls l)⟩
    · cases er
theorem snd_rg1 (k : Cok T fa n c X) {f : Run Res} {p : Pos} (hg : glB c.sc "range" = true) (hp : plB x = true) (h : PE X x (tE fa f)) : PI X tg (.Call (.Name "range" p) [x] [] pos) (tI fa fun env st => match f env st with
    | some ⟨.int j, _, st1⟩ => if -(2 ^ 62) ≤ j ∧ j < 2 ^ 62 then some (fun _ => some ((List.range j.toNat).map fun k => .int (k : Nat)), st1) else none
    | _ => none) :=
  PIimp (pi_range1 (k.gl hg) (k.pk.blt _ (by decide +kernel)) (pa_consR h hp pa_nilR) (star_cons hp)) fun σ H R ⟨g, env, st, r, w, eo, er, q⟩ => by
    dsimp only at er
    split at er
    · rename_i j m st1 e1
      split at er
      · rename_i hc
        cases er
        refine ⟨g, env, st, ([.int j], st1), w, eo, by unfold consR; rw [e1], fun g1 H1 vs x1 w1 R1 => ?_⟩
        cases R1 with
        | cons a b =>
          cases b; cases a
          refine ⟨j, rfl, hc.1, hc.2, q g1 H1 _ x1 w1 ?_⟩
          have := items_rng (fa := fa) (g := g1) (H := H1) 0 j.toNat
          simpa using this
      · cases er
    · cases er
theorem snd_rg2 (k : Cok T fa n c X) {f f2 : Run Res} {p : Pos} (hg : glB c.sc "range" = true) (hp : plB x = true) (hp2 : plB y = true) (h : PE X x (tE fa f)) (h2 : PE X y (tE fa f2)) : PI X tg (.Call (.Name "range" p) [x, y] [] pos) (tI fa fun env st => match f env st with
    | some ⟨.int i, _, st1⟩ => match f2 env st1 with
      | some ⟨.int j, _, st2⟩ => if -(2 ^ 62) ≤ i ∧ i < 2 ^ 62 ∧ -(2 ^ 62) ≤ j ∧ j < 2 ^ 62 then some (fun _ => some ((List.range (j - i).toNat).map fun k => .int (i + (k : Nat))), st2) else none
      | _ => none
    | _ => none) :=
  PIimp (pi_range2 (k.gl hg) (k.pk.blt _ (by decide +kernel)) (pa_consR h hp (pa_consR h2 hp2 pa_nilR)) (by rw [star_cons hp, star_cons hp2]; rfl) (star_cons hp2)) fun σ H R ⟨g, env, st, r, w, eo, er, q⟩ => by
    dsimp only at er
    split at er
    · rename_i i m st1 e1
      split at er
      · rename_i j m2 st2 e2
        split at er
        · rename_i hc
          cases er
          refine ⟨g, env, st, ([.int i, .int j], st2), w, eo, by unfold consR; rw [e1]; dsimp only; rw [e2], fun g1 H1 vs x1 w1 R1 => ?_⟩
          cases R1 with
          | cons a b =>
            cases b with
            | cons b1 b2 =>
              cases b2; cases a; cases b1
              exact ⟨i, j, rfl, hc, q g1 H1 _ x1 w1 (items_rng i _)⟩
        · cases er
      · cases er
    · cases er
theorem items_rngC {g : G} {H : Hp} (lo c : Int) (m : Nat) : Items fa (Itc lo c m) (fun _ => some ((List.range m).map fun q => D.int (lo + (q : Nat) * c))) g H := by
  intro g1 H1 st1 ds kp w e
  cases e
  refine ⟨fun i d hd => ?_, ?_⟩
  · rw [List.getElem?_map] at hd
    obtain ⟨j, hj, rfl⟩ := Option.map_eq_some_iff.mp hd
    obtain ⟨hi, hj2⟩ := List.getElem?_eq_some_iff.mp hj
    have : j = i := by rw [← hj2, List.getElem_range]
    subst this
    rw [List.length_range] at hi
    refine ⟨hi, fun x H2 hy => ?_⟩
    obtain ⟨rfl, rfl⟩ := hy
    exact ⟨g1, .refl _ _, w, .int _⟩
  · show m ≤ _
    simp
theorem snd_rg3 (k : Cok T fa n c X) {f f2 f3 : Run Res} {p : Pos} {z : Expr} (hg : glB c.sc "range" = true) (hp : plB x = true) (hp2 : plB y = true) (hp3 : plB z = true) (h : PE X x (tE fa f)) (h2 : PE X y (tE fa f2)) (h3 : PE X z (tE fa f3)) : PI X tg (.Call (.Name "range" p) [x, y, z] [] pos) (tI fa fun env st => match f env st with
    | some ⟨.int i, _, st1⟩ => match f2 env st1 with
      | some ⟨.int j, _, st2⟩ => match f3 env st2 with
        | some ⟨.int k, _, st3⟩ => if k ≠ 0 ∧ k.natAbs < 1073741824 ∧ Builtin.Range.small i j k = true then some (fun _ => some ((List.range (Builtin.Range.rangeSize i j k).toNat).map fun q => .int (i + (q : Nat) * k)), st3) else none
        | _ => none
      | _ => none
    | _ => none) :=
  PIimp (pi_range3 (k.gl hg) (k.pk.blt _ (by decide +kernel)) (pa_consR h hp (pa_consR h2 hp2 (pa_consR h3 hp3 pa_nilR))) (by rw [star_cons hp, star_cons hp2, star_cons hp3] <;> rfl) (by rw [star_cons hp2, star_cons hp3] <;> rfl)) fun σ H R ⟨g, env, st, r, w, eo, er, q⟩ => by
    dsimp only at er
    split at er
    · rename_i i m st1 e1
      split at er
      · rename_i j m2 st2 e2
        split at er
        · rename_i kk m3 st3 e3
          split at er
          · rename_i hc
            cases er
            refine ⟨g, env, st, ([.int i, .int j, .int kk], st3), w, eo, by unfold consR; rw [e1]; dsimp only; rw [e2]; dsimp only; rw [e3], fun g1 H1 vs x1 w1 R1 => ?_⟩
            cases R1 with
            | cons a b =>
              cases b with
              | cons b1 b2 =>
                cases b2 with
                | cons b3 b4 =>
                  cases b4; cases a; cases b1; cases b3
                  refine ⟨i, j, kk, (Builtin.Range.rangeSize i j kk).toNat, rfl, ⟨hc.1, hc.2.1, hc.2.2, ?_⟩, q g1 H1 _ x1 w1 (items_rngC i kk _)⟩
                  have : 0 ≤ Builtin.Range.rangeSize i j kk := by
                    unfold Builtin.Range.rangeSize
                    split
                    · split
                      · have := Int.ediv_nonneg (a := j - i - 1) (b := kk) (by omega) (by omega); omega
                      · omega
                    · split
                      · have := Int.ediv_nonneg (a := i - j - 1) (b := -kk) (by omega) (by omega); omega
                      · omega
                  omega
          · cases er
        · cases er
      · cases er
    · cases er
theorem snd_enu (k : Cok T fa n c X) {f : Run Res} {p tpos : Pos} {elts : List Expr} {kk : Nat} (hg : glB c.sc "enumerate" = true) (hp : plB x = true) (h : PE X x (tE fa f)) : PI X (.Tuple elts kk tpos) (.Call (.Name "enumerate" p) [x] [] pos) (tI fa fun env st => match f env st with
    | some r => (srcL r.d).bind fun s => if (s r.st).isSome = true then some (fun st => (s st).map fun xs => xs.zipIdx.map fun p => .tup [.int (p.2 : Nat), p.1], r.st) else none
    | none => none) :=
  PIimp (pi_enum (k.gl hg) (k.pk.blt _ (by decide +kernel)) (pa_consR h hp pa_nilR) (star_cons hp)) fun σ H R ⟨g, env, st, r, w, eo, er, q⟩ => by
    dsimp only at er
    split at er
    · rename_i r1 e1
      obtain ⟨s, es, er⟩ := Option.bind_eq_some_iff.mp er
      split at er
      · rename_i hs
        cases er
        refine ⟨g, env, st, ([r1.d], r1.st), w, eo, by unfold consR; rw [e1], fun g1 H1 vs x1 w1 R1 => ?_⟩
        cases R1 with
        | cons a b =>
          cases b
          obtain ⟨p, rfl, l, rfl⟩ := lsAt_of a es
          obtain ⟨ds, e5⟩ := Option.isSome_iff_exists.mp hs
          obtain ⟨vs, h5, _⟩ := l g1 H1 _ ds (.refl _ _) w1 e5
          exact ⟨_, _, rfl, SqL.of h5, q g1 H1 _ x1 w1 (items_enu l)⟩
      · cases er
    · cases er
theorem snd_zip (k : Cok T fa n c X) {f f2 : Run Res} {p tpos : Pos} {elts : List Expr} {kk : Nat} (hg : glB c.sc "zip" = true) (hp : plB x = true) (hp2 : plB y = true) (h : PE X x (tE fa f)) (h2 : PE X y (tE fa f2)) : PI X (.Tuple elts kk tpos) (.Call (.Name "zip" p) [x, y] [] pos) (tI fa fun env st => match f env st with
    | some r => match f2 env r.st with
      | some r2 => match srcL r.d, srcL r2.d with
        | some s, some s2 => if (s r2.st).isSome = true ∧ (s2 r2.st).isSome = true then some (fun st => match s st, s2 st with
          | some xs, some ys => some ((xs.zip ys).map fun p => .tup [p.1, p.2])
          | _, _ => none, r2.st) else none
        | _, _ => match r.d, r2.d with
          | .tup xs, .tup ys => some (fun _ => some ((xs.zip ys).map fun p => .tup [p.1, p.2]), r2.st)
          | _, _ => none
      | none => none
    | none => none) :=
  PIimp (RZ.pi_zipA (k.gl hg) (k.pk.blt _ (by decide +kernel)) (pa_consR h hp (pa_consR h2 hp2 pa_nilR)) (star_cons hp) (by rw [star_cons hp2]; rfl)) fun σ H R ⟨g, env, st, r, w, eo, er, q⟩ => by
    dsimp only at er
    split at er
    · rename_i r1 e1
      split at er
      · rename_i r2 e3
        split at er
        · rename_i s s2 es es2
          split at er
          · rename_i hs
            cases er
            refine ⟨g, env, st, ([r1.d, r2.d], r2.st), w, eo, by unfold consR; rw [e1]; dsimp only; rw [e3], fun g1 H1 vs x1 w1 R1 => ?_⟩
            cases R1 with
            | cons a b =>
              cases b with
              | cons b1 b2 =>
                cases b2
                obtain ⟨p, rfl, l, rfl⟩ := lsAt_of a es
                obtain ⟨p2, rfl, l2, rfl⟩ := lsAt_of b1 es2
                obtain ⟨ds, e5⟩ := Option.isSome_iff_exists.mp hs.1
                obtain ⟨ds2, e6⟩ := Option.isSome_iff_exists.mp hs.2
                obtain ⟨vs, h5, _⟩ := l g1 H1 _ ds (.refl _ _) w1 e5
                obtain ⟨vs2, h6, _⟩ := l2 g1 H1 _ ds2 (.refl _ _) w1 e6
                exact ⟨_, _, _, _, rfl, .inl ⟨SqL.of h5, SqL.of h6, q g1 H1 _ x1 w1 (items_zip l l2)⟩⟩
          · cases er
        · split at er
          · rename_i xs ys e5 e6
            cases er
            refine ⟨g, env, st, ([r1.d, r2.d], r2.st), w, eo, by unfold consR; rw [e1]; dsimp only; rw [e3], fun g1 H1 vs x1 w1 R1 => ?_⟩
            cases R1 with
            | cons a b =>
              cases b with
              | cons b1 b2 =>
                cases b2
                rw [e5] at a
                rw [e6] at b1
                cases a with
                | tup f0 q0 s0 =>
                  cases b1 with
                  | tup f1 q1 s1 => exact ⟨_, _, _, _, rfl, .inr ⟨SqT.of q0, SqT.of q1, q g1 H1 _ x1 w1 (items_zipT f0 q0 s0 f1 q1 s1)⟩⟩
          · cases er
      · cases er
    · cases er
end
end EV

/-! EV, part K: locks, list comprehensions, dict displays. -/
namespace EV
open PySem PySem.Spec PyProof.Rows L2
section
variable {fa : FnA} {g g' g2 : G} {H H' H2 : Hp} {st st' : Store} {a p : Addr} {v : V} {d : D} {o : HO} {env env2 : EV.Env} {σ σ2 : L2.St} {kvs : List (Key × V)} {od : Obj}
/-! ### locks -/
theorem ext_lock (hF : g.F a) (h : H a = some (.dK kvs)) : Ext g H g (upd H a (.frz od (.dK kvs))) where
  mono := fun _ h => h
  new := fun _ h => .inl h
  keep := fun b u _ pl r => by
    have ne : b ≠ a := fun e => by subst e; rw [h] at r; cases r; exact pl
    rw [upd_ne ne]; exact r
  keepD := fun b u _ r => by
    by_cases e : b = a
    · subst e
      rcases r with r | ⟨ob, r⟩
      · rw [h] at r; cases r; exact .inr ⟨od, upd_same⟩
      · rw [h] at r; cases r
    · rcases r with r | ⟨ob, r⟩
      · exact .inl (by rw [upd_ne e]; exact r)
      · exact .inr ⟨ob, by rw [upd_ne e]; exact r⟩
  own := fun b ob hb _ e => by
    have ne : b ≠ a := fun z => hb (z ▸ hF)
    rw [upd_ne ne]; exact e
  cell := fun _ _ => rfl
  le := Nat.le_refl _
  fresh := fun k h1 h2 => absurd h2 (Nat.not_lt.mpr h1)
  there := fun b hb => by
    by_cases e : b = a
    · subst e; rw [upd_same]; exact fun z => nomatch z
    · rw [upd_ne e]; exact hb
  lk := fun b ob u e => by
    have ne : b ≠ a := fun z => by subst z; rw [h] at e; cases e
    rw [upd_ne ne]; exact e
theorem wok_lock (w : Wok fa g st H) (hF : g.F a) (h : H a = some (.dK kvs)) : Wok fa g st (upd H a (.frz od (.dK kvs))) :=
  w.ext (ext_lock hF h) fun k ob hk e => by
    have ne : g.ρ k ≠ a := fun z => by
      rw [w.n_eq] at hk
      exact (w.cells k _ (List.getElem?_eq_getElem hk)).1 (z ▸ hF)
    rw [upd_ne ne]; exact e
theorem kw_unlock (h : H a = some (.frz od (.dK kvs))) : Kw g H g (upd H a (.dK kvs)) where
  mono := fun _ h => h
  keep := fun b u _ pl r => by
    have ne : b ≠ a := fun e => by subst e; rw [h] at r; cases r; exact pl
    rw [upd_ne ne]; exact r
  keepD := fun b u _ r => by
    by_cases e : b = a
    · subst e
      rcases r with r | ⟨ob, r⟩
      · rw [h] at r; cases r
      · rw [h] at r; cases r; exact .inl upd_same
    · rcases r with r | ⟨ob, r⟩
      · exact .inl (by rw [upd_ne e]; exact r)
      · exact .inr ⟨ob, by rw [upd_ne e]; exact r⟩
  cell := fun _ _ => rfl
  le := Nat.le_refl _
  lk := fun b ob xs e => by
    have ne : b ≠ a := fun z => by subst z; rw [h] at e; cases e
    rw [upd_ne ne]; exact e
theorem ext_unlock (hF : g.F a) (h : H a = some (.dK kvs)) (x : Ext g (upd H a (.frz od (.dK kvs))) g' H') : Ext g H g' (upd H' a (.dK kvs)) where
  mono := x.mono
  new := fun b hb => by
    rcases x.new b hb with z | z
    · exact .inl z
    · by_cases e : b = a
      · subst e; rw [upd_same] at z; cases z
      · rw [upd_ne e] at z; exact .inr z
  keep := fun b u hb pl r => by
    have ne : b ≠ a := fun e => by subst e; rw [h] at r; cases r; exact pl
    rw [upd_ne ne]; exact x.keep b u hb pl (by rw [upd_ne ne]; exact r)
  keepD := fun b u hb r => by
    by_cases e : b = a
    · subst e
      rcases r with r | ⟨ob, r⟩
      · rw [h] at r; cases r; exact .inl upd_same
      · rw [h] at r; cases r
    · have q := x.keepD b u hb (by
        rcases r with r | ⟨ob, r⟩
        · exact .inl (by rw [upd_ne e]; exact r)
        · exact .inr ⟨ob, by rw [upd_ne e]; exact r⟩)
      rcases q with q | ⟨ob, q⟩
      · exact .inl (by rw [upd_ne e]; exact q)
      · exact .inr ⟨ob, by rw [upd_ne e]; exact q⟩
  own := fun b ob hb hc e => by
    have ne : b ≠ a := fun z => hb (z ▸ hF)
    rw [upd_ne ne]; exact x.own b ob hb hc (by rw [upd_ne ne]; exact e)
  cell := x.cell
  le := x.le
  fresh := fun k h1 h2 => by
    have z := x.fresh k h1 h2
    by_cases e : g'.ρ k = a
    · rw [e, upd_same] at z; cases z
    · rw [upd_ne e] at z; exact z
  there := fun b hb => by
    by_cases e : b = a
    · subst e; rw [upd_same]; exact fun z => nomatch z
    · rw [upd_ne e]; exact x.there b (by rw [upd_ne e]; exact hb)
  lk := fun b ob u e => by
    have ne : b ≠ a := fun z => by subst z; rw [h] at e; cases e
    rw [upd_ne ne]; exact x.lk b ob u (by rw [upd_ne ne]; exact e)
theorem lock_still (h : H a = some (.dK kvs)) (x : Ext g (upd H a (.frz od (.dK kvs))) g' H') : H' a = some (.frz od (.dK kvs)) := x.lk a od _ upd_same
theorem wok_unlock (w : Wok fa g st H) (hF : g.F a) (h : H a = some (.frz od (.dK kvs))) : Wok fa g st (upd H a (.dK kvs)) where
  n_eq := w.n_eq
  ft := fun b hb => by
    by_cases e : b = a
    · subst e; rw [upd_same]; exact fun z => nomatch z
    · rw [upd_ne e]; exact w.ft b hb
  cells := fun k c e => by
    obtain ⟨h1, h2⟩ := w.cells k c e
    refine ⟨h1, Top.kw (kw_unlock h) (fun ob eo => ?_) h2⟩
    have ne : g.ρ k ≠ a := fun z => h1 (z ▸ hF)
    rw [upd_ne ne]; exact eo
  inj := w.inj
theorem Own.unlock (ow : Own fa g H p d) (hF : g.F a) (h : H a = some (.frz od (.dK kvs))) : Own fa g (upd H a (.dK kvs)) p d :=
  ⟨ow.nF, ow.nC, Top.kw (kw_unlock h) (fun ob eo => by
    have ne : p ≠ a := fun z => ow.nF (z ▸ hF)
    rw [L2.upd_ne ne]; exact eo) ow.top⟩
theorem ResOk.unlock {r : Res} (hF : g.F a) (h : H a = some (.dK kvs)) (x : ResOk fa g (upd H a (.frz od (.dK kvs))) g' H' v r) : ResOk fa g H g' (upd H' a (.dK kvs)) v r := by
  have hl := lock_still h x.ext
  have hF' := x.ext.mono a hF
  refine ⟨ext_unlock hF h x.ext, wok_unlock x.wok hF' hl, ?_⟩
  have z := x.2.2
  split at z
  · rename_i hn
    rw [if_pos hn]
    obtain ⟨b, e, n, ow⟩ := z
    refine ⟨b, e, ?_, ow.unlock hF' hl⟩
    by_cases eb : b = a
    · subst eb; rw [upd_same] at n; cases n
    · rw [upd_ne eb] at n; exact n
  · rename_i hn
    rw [if_neg hn]
    exact Rep.kw (kw_unlock hl) _ _ z
theorem items_key {ks : List (Key × D)} (h : H a = some (.frz od (.dK kvs))) (r : RepK fa g H kvs ks) : Items fa (Itk a od kvs) (fun _ => some (ks.map fun kv => dK kv.1)) g H := by
  intro g1 H1 st1 ds1 kp w es
  cases es
  have h1 : H1 a = some (.frz od (.dK kvs)) := kp.lk a od _ h
  refine ⟨fun i d e => ?_, h1, by rw [List.length_map, r.length]; exact Nat.le_refl _⟩
  rw [List.getElem?_map] at e
  obtain ⟨⟨k, dv⟩, e1, e2⟩ := Option.map_eq_some_iff.mp e
  have hk := r.keys
  have e3 : (kvs.map (·.1))[i]? = some k := by rw [hk, List.getElem?_map, e1]; rfl
  refine ⟨⟨h1, ?_⟩, fun x H2 y => ?_⟩
  · have := (List.getElem?_eq_some_iff.mp e1).1
    rw [r.length]; exact this
  · obtain ⟨rfl, k', v', e4, rfl⟩ := y
    rw [List.getElem?_map, e4] at e3
    have : k' = k := Option.some.inj e3
    subst this
    subst e2
    refine ⟨g1, .refl _ _, w, ?_⟩
    cases k' with
    | inl i => exact .int i
    | inr s => exact .str s

/-! ### the loop of a comprehension -/
abbrev LcBody (J : L2.It) (g : TG) (tt : TT) (te : TE) (vs : List Nat) (σ : L2.St) (D : Addr) (Fin : Hp → Prop) (H1 : Hp) : Prop := ∃ W : Nat → Nat → Hp → Prop, (∃ m, W 0 m H1) ∧ ∀ i m H, W i m H →
  (J.stop i H ∧ Fin H) ∨ (J.go i H ∧ ∃ Nx : Hp → Prop, (∀ H', Nx H' → ∃ m', m' < m ∧ W (i + 1) m' H') ∧ ∀ x H', J.yld i H x H' → g x (L2.wipe σ vs) H' fun σ2 H2 => L2.wipe σ2 vs = L2.wipe σ vs ∧ tt σ2 H2 fun b H3 =>
    if b = true then te σ2 H3 fun y H4 => ∃ acc, H4 D = some (.lst acc) ∧ acc.length < sizeLine ∧ Nx (upd H4 D (.lst (acc ++ [y]))) else Nx H3)
theorem wipe_wipe (σ : L2.St) (vs : List Nat) : L2.wipe (L2.wipe σ vs) vs = L2.wipe σ vs := by
  refine wipe_ext (fun j hj => ?_) (wipe_length σ vs)
  induction vs with
  | nil => rfl
  | cons a r ih =>
    simp only [List.mem_cons, not_or] at hj
    unfold L2.wipe
    rw [List.getElem?_set_ne (Ne.symm hj.1)]
    exact ih hj.2
theorem own_app {accv : List V} {acc : List D} (o : Own fa g H p (.lst acc)) (hv : H p = some (.lst accv)) (r : Reps fa g H accv acc) (h : Rep fa g H v d) : Own fa g (upd H p (.lst (accv ++ [v]))) p (.lst (acc ++ [d])) :=
  ⟨o.nF, o.nC, accv ++ [v], upd_same, Reps.kw (kp_upd o.nF o.nfrz).kw _ _ (r.append (.cons h .nil))⟩
theorem itemAt_some {src : Src} {n i : Nat} {st : Store} {d : D} (h : itemAt src n i st = some d) : ∃ ds, src st = some ds ∧ ds.length = n ∧ ds[i]? = some d := by
  unfold itemAt at h
  split at h
  · rename_i ds e
    split at h
    · rename_i hl; exact ⟨ds, e, hl, h⟩
    · cases h
  · cases h
theorem endAt_some {src : Src} {n : Nat} {st : Store} (h : endAt src n st = true) : ∃ ds, src st = some ds ∧ ds.length = n := by
  unfold endAt at h
  split at h
  · rename_i ds e; exact ⟨ds, e, by simpa using h⟩
  · cases h
theorem lc_body {t : Tg} {cond : Run (Bool × Store)} {elt : Run Res} {own : List Nat} (ht : ∀ i ∈ tgSlots t, i ∈ own) {J : L2.It} {src : Src} {n : Nat} {gJ : G} {HJ : Hp} (it : Items fa J src gJ HJ)
    {gB : G} {HB : Hp} {env0 : EV.Env} {D0 : Addr} (hD : HB D0 = none) (hE : ∀ g' H', Ext gB HB g' H' → Kp gJ HJ g' H' → EnvOk fa g' H' env0 (L2.wipe σ own))
    {g1 : G} {H1 : Hp} {st1 : Store} (x1 : Ext gB HB g1 H1) (k1 : Kp gJ HJ g1 H1) (w1 : Wok fa g1 st1 H1) {acc0 : List D} (o1 : Own fa g1 H1 D0 (.lst acc0)) {rs : List D} {stf : Store} (run : lcGo t cond elt env0 src n n st1 = some (rs, stf)) (hlen : acc0.length + rs.length ≤ LIM)
    {Fin : Hp → Prop} (fin : ∀ g' H', Ext gB HB g' H' → Kp gJ HJ g' H' → Wok fa g' stf H' → Own fa g' H' D0 (.lst (acc0 ++ rs)) → Fin H') :
    LcBody J (tG fa t) (tC fa cond) (tF fa elt) own σ D0 Fin H1 := by
  refine ⟨fun i m H => i + m = n ∧ ∃ g st acc rest, Ext gB HB g H ∧ Kp gJ HJ g H ∧ Wok fa g st H ∧ Own fa g H D0 (.lst acc) ∧ lcGo t cond elt env0 src n m st = some (rest, stf) ∧ acc ++ rest = acc0 ++ rs,
    ⟨n, Nat.zero_add n, g1, st1, acc0, rs, x1, k1, w1, o1, run, rfl⟩, ?_⟩
  rintro i m H ⟨hi, g, st, acc, rest, x, k, w, o, e, hacc⟩
  cases m with
  | zero =>
    unfold lcGo at e
    split at e
    · rename_i he
      cases e
      obtain ⟨ds, es, hl⟩ := endAt_some he
      have ei : ds.length = i := by omega
      have hst := (it g H stf ds k w es).2
      rw [ei] at hst
      exact .inl ⟨hst, fin g H x k w (by rw [← hacc, List.append_nil]; exact o)⟩
    · cases e
  | succ m =>
    unfold lcGo at e
    split at e
    · cases e
    · rename_i d hd
      have ei : n - (m + 1) = i := by omega
      rw [ei] at hd
      obtain ⟨ds, es, hl, hid⟩ := itemAt_some hd
      obtain ⟨go, yl⟩ := (it g H st ds k w es).1 i d hid
      refine .inr ⟨go, fun H' => ∃ g st acc rest, Ext gB HB g H' ∧ Kp gJ HJ g H' ∧ Wok fa g st H' ∧ Own fa g H' D0 (.lst acc) ∧ lcGo t cond elt env0 src n m st = some (rest, stf) ∧ acc ++ rest = acc0 ++ rs, fun H' nx => ⟨m, Nat.lt_succ_self m, by omega, nx⟩, fun x' H' y => ?_⟩
      obtain ⟨g2, x2, w2, r2⟩ := yl x' H' y
      split at e
      · cases e
      · rename_i env2 eb
        refine ⟨g2, d, env0, env2, r2, eb, fun σ2 he hw _ => ⟨(hw own ht).trans (wipe_wipe σ own), ?_⟩⟩
        have k2 := k.trans x2.kp
        have x3 := x.trans x2
        have eo2 := he g2 H' (.refl _ _) (hE g2 H' x3 k2)
        split at e
        · cases e
        · rename_i st2 ec
          refine ⟨g2, env2, st, _, w2, eo2, ec, fun g3 H3 x4 w3 => ?_⟩
          show (if (false : Bool) = true then _ else _)
          rw [if_neg Bool.false_ne_true]
          exact ⟨g3, st2, acc, rest, x3.trans x4, k2.trans x4.kp, w3, o.mono (x2.trans x4), e, hacc⟩
        · rename_i st2 ec
          refine ⟨g2, env2, st, _, w2, eo2, ec, fun g3 H3 x4 w3 => ?_⟩
          show (if (true : Bool) = true then _ else _)
          rw [if_pos rfl]
          split at e
          · cases e
          · rename_i r er
            split at e
            · cases e
            · rename_i rs2 st4 el
              cases e
              refine ⟨g3, env2, st2, _, w3, eo2.mono x4, er, fun g4 H4 v4 x5 w4 r4 => ?_⟩
              have o4 := o.mono (x2.trans (x4.trans x5))
              obtain ⟨accv, hv, hr⟩ := o4.top
              refine ⟨accv, hv, ?_, g4, r.st, acc ++ [r.d], rs2, ext_upd (x3.trans (x4.trans x5)) hD, (k2.trans (x4.kp.trans x5.kp)).trans (kp_upd o4.nF o4.nfrz), wok_upd w4 o4.nF o4.nC o4.nfrz, own_app o4 hv hr r4, el, by rw [← hacc]; simp⟩
              have h1 := congrArg List.length hacc
              simp only [List.length_append, List.length_cons] at h1
              have h2 := hr.length
              show accv.length < 16777216
              have h3 : acc0.length + rs.length ≤ 16777216 := hlen
              omega
theorem lcAll_some {t : Tg} {cond : Run (Bool × Store)} {elt : Run Res} {env : EV.Env} {src : Src} {st : Store} {r : List D × Store} (h : lcAll t cond elt env src st = some r) : ∃ n, n ≤ LIM ∧ lcGo t cond elt env src n n st = some r := by
  unfold lcAll at h
  split at h
  · rename_i ds e
    split at h
    · rename_i hl; exact ⟨ds.length, hl, h⟩
    · cases h
  · cases h
theorem lc2_body {t u : Tg} {cond cond2 : Run (Bool × Store)} {elt : Run Res} {jt : Run (Src × Store)} {own own2 : List Nat} (ht : ∀ i ∈ tgSlots t, i ∈ own) (hu : ∀ i ∈ tgSlots u, i ∈ own2) {J : L2.It} {src : Src} {n : Nat} {gJ : G} {HJ : Hp} (it : Items fa J src gJ HJ)
    {gB : G} {HB : Hp} {env0 : EV.Env} {D0 : Addr} (hD : HB D0 = none) (hE : ∀ g' H', Ext gB HB g' H' → Kp gJ HJ g' H' → EnvOk fa g' H' env0 (L2.wipe σ own))
    {g1 : G} {H1 : Hp} {st1 : Store} (x1 : Ext gB HB g1 H1) (k1 : Kp gJ HJ g1 H1) (w1 : Wok fa g1 st1 H1) {acc0 : List D} (o1 : Own fa g1 H1 D0 (.lst acc0)) {rs : List D} {stf : Store} (run : lc2Go t cond jt u own2 cond2 elt env0 src n n st1 = some (rs, stf)) (hlen : acc0.length + rs.length ≤ LIM)
    {Fin : Hp → Prop} (fin : ∀ g' H', Ext gB HB g' H' → Kp gJ HJ g' H' → Wok fa g' stf H' → Own fa g' H' D0 (.lst (acc0 ++ rs)) → Fin H') :
    ∃ W : Nat → Nat → Hp → Prop, (∃ m, W 0 m H1) ∧ ∀ i m H, W i m H →
      (J.stop i H ∧ Fin H) ∨ (J.go i H ∧ ∃ Nx : Hp → Prop, (∀ H', Nx H' → ∃ m', m' < m ∧ W (i + 1) m' H') ∧ ∀ x H', J.yld i H x H' → tG fa t x (L2.wipe σ own) H' fun σ2 H2 => L2.wipe σ2 own = L2.wipe σ own ∧ tC fa cond σ2 H2 fun b H3 =>
        if b = true then tI fa jt σ2 H3 (fun J1 H4 => LcBody J1 (tG fa u) (tC fa cond2) (tF fa elt) own2 σ2 D0 Nx H4) else Nx H3) := by
  refine ⟨fun i m H => i + m = n ∧ ∃ g st acc rest, Ext gB HB g H ∧ Kp gJ HJ g H ∧ Wok fa g st H ∧ Own fa g H D0 (.lst acc) ∧ lc2Go t cond jt u own2 cond2 elt env0 src n m st = some (rest, stf) ∧ acc ++ rest = acc0 ++ rs,
    ⟨n, Nat.zero_add n, g1, st1, acc0, rs, x1, k1, w1, o1, run, rfl⟩, ?_⟩
  rintro i m H ⟨hi, g, st, acc, rest, x, k, w, o, e, hacc⟩
  cases m with
  | zero =>
    unfold lc2Go at e
    split at e
    · rename_i he
      cases e
      obtain ⟨ds, es, hl⟩ := endAt_some he
      have ei : ds.length = i := by omega
      have hst := (it g H stf ds k w es).2
      rw [ei] at hst
      exact .inl ⟨hst, fin g H x k w (by rw [← hacc, List.append_nil]; exact o)⟩
    · cases e
  | succ m =>
    unfold lc2Go at e
    split at e
    · cases e
    · rename_i d hd
      have ei : n - (m + 1) = i := by omega
      rw [ei] at hd
      obtain ⟨ds, es, hl, hid⟩ := itemAt_some hd
      obtain ⟨go, yl⟩ := (it g H st ds k w es).1 i d hid
      refine .inr ⟨go, fun H' => ∃ g st acc rest, Ext gB HB g H' ∧ Kp gJ HJ g H' ∧ Wok fa g st H' ∧ Own fa g H' D0 (.lst acc) ∧ lc2Go t cond jt u own2 cond2 elt env0 src n m st = some (rest, stf) ∧ acc ++ rest = acc0 ++ rs, fun H' nx => ⟨m, Nat.lt_succ_self m, by omega, nx⟩, fun x' H' y => ?_⟩
      obtain ⟨g2, x2, w2, r2⟩ := yl x' H' y
      split at e
      · cases e
      · rename_i env2 eb
        refine ⟨g2, d, env0, env2, r2, eb, fun σ2 he hw _ => ⟨(hw own ht).trans (wipe_wipe σ own), ?_⟩⟩
        have k2 := k.trans x2.kp
        have x3 := x.trans x2
        have eo2 := he g2 H' (.refl _ _) (hE g2 H' x3 k2)
        split at e
        · cases e
        · rename_i st2 ec
          refine ⟨g2, env2, st, _, w2, eo2, ec, fun g3 H3 x4 w3 => ?_⟩
          show (if (false : Bool) = true then _ else _)
          rw [if_neg Bool.false_ne_true]
          exact ⟨g3, st2, acc, rest, x3.trans x4, k2.trans x4.kp, w3, o.mono (x2.trans x4), e, hacc⟩
        · rename_i st2 ec
          refine ⟨g2, env2, st, _, w2, eo2, ec, fun g3 H3 x4 w3 => ?_⟩
          show (if (true : Bool) = true then _ else _)
          rw [if_pos rfl]
          split at e
          · cases e
          · rename_i src2 st3 ej
            split at e
            · cases e
            · rename_i xs st4 el
              split at e
              · cases e
              · rename_i rs2 st5 e5
                cases e
                obtain ⟨n2, _, el'⟩ := lcAll_some el
                refine ⟨g3, env2, st2, _, w3, eo2.mono x4, ej, fun g4 H4 J1 x5 w4 it1 => ?_⟩
                have xx := x3.trans (x4.trans x5)
                have kk := k2.trans (x4.kp.trans x5.kp)
                have h1 := congrArg List.length hacc
                simp only [List.length_append] at h1
                refine lc_body hu it1 hD (fun g' H' xa ka => ((he g' H' ((x4.kp.trans x5.kp).trans ka) (hE g' H' xa (kk.trans ka))).wipe own2)) xx (.refl _ _) w4 (o.mono (x2.trans (x4.trans x5))) el' (by omega) fun g' H' xa ka wa oa => ⟨g', st4, acc ++ xs, rs2, xa, kk.trans ka, wa, oa, e5, by rw [← hacc]; simp⟩
end
end EV

/-! EV, part L: comprehensions, dict displays; every expression. -/
namespace EV
open PySem PySem.Spec PyProof.Rows L2
theorem lcGo_len {t : Tg} {cond : Run (Bool × Store)} {elt : Run Res} {env : EV.Env} {src : Src} {n : Nat} : ∀ {m : Nat} {st : Store} {r : List D × Store}, lcGo t cond elt env src n m st = some r → r.1.length ≤ m
  | 0, st, r, h => by
    unfold lcGo at h
    split at h
    · cases h; exact Nat.le_refl _
    · cases h
  | m + 1, st, r, h => by
    unfold lcGo at h
    split at h
    · cases h
    · split at h
      · cases h
      · split at h
        · cases h
        · exact Nat.le_succ_of_le (lcGo_len h)
        · split at h
          · cases h
          · split at h
            · cases h
            · rename_i e
              cases h
              exact Nat.succ_le_succ (lcGo_len e)
section
variable {T : Prog} {fa : FnA} {n : Nat} {c : SC} {X : Cx} {e x y z tg iter tg1 iter1 : Expr} {pos : Pos} {es ifs ifs1 : List Expr}
theorem Cok.blk (k : Cok T fa n c X) (s : Shared) (H : Hp) (scope : Scope) (C : Addr) (cl : List (Str × Addr)) (fp : List Addr) : Cok T fa n (blkSC c scope) (X.blk s H scope (compEnvC scope cl C X.env) fp) where
  N := k.N
  sc := by
    show relabel scope X.env = relS scope c.sc
    rw [← k.sc]; rfl
  fn := rfl
  kw := k.kw
  nd := k.nd
  calm := k.calm
  xe := rfl
  room := k.room
  gd := k.gd
  pk := k.pk
theorem own0 {g : G} {H : Hp} {st : Store} {p : Addr} (w : Wok fa g st H) (hp : H p = none) : Own fa g (upd H p (.lst [])) p (.lst []) := ⟨w.nf hp, w.nc hp, [], upd_same, .nil⟩
def lcR (f : Run (Src × Store)) (own : List Nat) (t : Tg) (cond : Run (Bool × Store)) (elt : Run Res) : Run Res := fun env st => match f env st with
    | none => none
    | some (src, st1) => match lcAll t cond elt (wipeE env own) src st1 with
        | some (rs, st2) => some ⟨.lst rs, true, st2⟩
        | none => none
theorem lc_some {f : Run (Src × Store)} {own : List Nat} {t : Tg} {cond : Run (Bool × Store)} {elt : Run Res} {env : EV.Env} {st : Store} {r : Res} (er : lcR f own t cond elt env st = some r) :
    ∃ src st1 rs n, f env st = some (src, st1) ∧ rs.length ≤ LIM ∧ lcGo t cond elt (wipeE env own) src n n st1 = some (rs, r.st) ∧ r = ⟨.lst rs, true, r.st⟩ := by
  unfold lcR at er
  split at er
  · cases er
  · rename_i src st1 e1
    split at er
    · rename_i rs st2 e2
      cases er
      obtain ⟨n, hn, e3⟩ := lcAll_some e2
      exact ⟨src, st1, rs, n, e1, Nat.le_trans (lcGo_len e3) hn, e3, rfl⟩
    · cases er
theorem lc_read {f : Run (Src × Store)} {own : List Nat} {t : Tg} {cond : Run (Bool × Store)} {elt : Run Res} (ht : ∀ i ∈ tgSlots t, i ∈ own) {σ : L2.St} {H : Hp} {Q : VK} (h : tE fa (lcR f own t cond elt) σ H Q) : tLc (tI fa f) (tG fa t) (tC fa cond) (tF fa elt) own σ H Q := by
  obtain ⟨g, env, st, r, w, eo, er, q⟩ := h
  obtain ⟨src, st1, rs, m, e1, hl, e2, e3⟩ := lc_some er
  exact ⟨g, env, st, _, w, eo, e1, fun g1 H1 J x1 w1 it D0 hD => lc_body ht it (gB := g1) (HB := H1) hD (fun g' H' xa _ => ((eo.mono x1).mono xa).wipe own) (ext_new w1 hD) (ext_new w1 hD).kp (wok_new w1 hD) (own0 w1 hD) e2 (by simpa using hl) fun g' H' xa _ wa oa =>
    q g' H' _ (by rw [e3]; exact ⟨x1.trans xa, wa, by rw [if_pos rfl]; exact ⟨D0, rfl, by
      cases eh : H D0 with
      | none => rfl
      | some o => exact absurd hD (x1.there _ (by rw [eh]; exact fun z => nomatch z)), oa⟩⟩)⟩
theorem lc_readK {i : Nat} {own : List Nat} {t : Tg} {cond : Run (Bool × Store)} {elt : Run Res} (ht : ∀ i ∈ tgSlots t, i ∈ own) {σ : L2.St} {H : Hp} {Q : VK}
    (h : tE fa (lcR (fun env st => match env[i]? with | some (.fr (.dct ks)) => some (fun _ => some (ks.map fun kv => dK kv.1), st) | _ => none) own t cond elt) σ H Q) :
    tLockE (tLc (iKeys (tVar i)) (tG fa t) (tC fa cond) (tF fa elt) own) σ H Q ∨ tLc (iKeys (tVar i)) (tG fa t) (tC fa cond) (tF fa elt) own σ H Q := by
  obtain ⟨g, env, st, r, w, eo, er, q⟩ := h
  obtain ⟨src, st1, rs, m, e1, hl, e2, e3⟩ := lc_some er
  split at e1
  · rename_i ks ek
    cases e1
    obtain ⟨v, hv, R⟩ := eo.fr i _ ek
    cases R with
    | dct hF hR RK =>
      rename_i a kvs
      rcases hR with hA | ⟨od, hA⟩
      · refine .inl ⟨a, .dK kvs, hA, trivial, fun od => ⟨.ref a, hv, a, od, rfl, .inl ⟨kvs, upd_same, fun D0 hD => ?_⟩⟩⟩
        have xl : Ext g H g (upd H a (.frz od (.dK kvs))) := ext_lock hF hA
        have wl := wok_lock (od := od) w hF hA
        exact lc_body ht (items_key (fa := fa) (g := g) upd_same (RK.mono xl)) (gB := g) (HB := upd H a (.frz od (.dK kvs))) hD (fun g' H' xa _ => ((eo.mono xl).mono xa).wipe own) (ext_new wl hD) (ext_new wl hD).kp (wok_new wl hD) (own0 wl hD) e2 (by simpa using hl) fun g' H' xa _ wa oa =>
          ⟨lock_still hA xa, q g' _ _ (ResOk.unlock hF hA (by rw [e3]; exact ⟨xa, wa, by rw [if_pos rfl]; exact ⟨D0, rfl, hD, oa⟩⟩))⟩
      · refine .inr ⟨.ref a, hv, a, od, rfl, .inl ⟨kvs, hA, fun D0 hD => ?_⟩⟩
        exact lc_body ht (items_key (fa := fa) (g := g) hA RK) (gB := g) (HB := H) hD (fun g' H' xa _ => (eo.mono xa).wipe own) (ext_new w hD) (ext_new w hD).kp (wok_new w hD) (own0 w hD) e2 (by simpa using hl) fun g' H' xa _ wa oa =>
          q g' H' _ (by rw [e3]; exact ⟨xa, wa, by rw [if_pos rfl]; exact ⟨D0, rfl, hD, oa⟩⟩)
  · cases e1
def lc2R (f : Run (Src × Store)) (own : List Nat) (t : Tg) (cond : Run (Bool × Store)) (u : Tg) (jt : Run (Src × Store)) (cond2 : Run (Bool × Store)) (elt : Run Res) : Run Res := fun env st => match f env st with
    | none => none
    | some (src, st1) => match src st1 with
      | none => none
      | some ds => match lc2Go t cond jt u (tgSlots u) cond2 elt (wipeE env own) src ds.length ds.length st1 with
        | some (rs, st2) => if rs.length ≤ LIM then some ⟨.lst rs, true, st2⟩ else none
        | none => none
theorem lc2_read {f jt : Run (Src × Store)} {own : List Nat} {t u : Tg} {cond cond2 : Run (Bool × Store)} {elt : Run Res} (ht : ∀ i ∈ tgSlots t, i ∈ own) {σ : L2.St} {H : Hp} {Q : VK} (h : tE fa (lc2R f own t cond u jt cond2 elt) σ H Q) :
    tLc2 (tI fa f) (tG fa t) (tC fa cond) (tI fa jt) (tG fa u) (tC fa cond2) (tF fa elt) own (tgSlots u) σ H Q := by
  obtain ⟨g, env, st, r, w, eo, er, q⟩ := h
  unfold lc2R at er
  split at er
  · cases er
  · rename_i src st1 e1
    split at er
    · cases er
    · rename_i ds e0
      split at er
      · rename_i rs st2 e2
        split at er
        · rename_i hl
          cases er
          exact ⟨g, env, st, _, w, eo, e1, fun g1 H1 J x1 w1 it D0 hD => lc2_body ht (fun _ h => h) it (gB := g1) (HB := H1) hD (fun g' H' xa _ => ((eo.mono x1).mono xa).wipe own) (ext_new w1 hD) (ext_new w1 hD).kp (wok_new w1 hD) (own0 w1 hD) e2 (by simpa using hl) fun g' H' xa _ wa oa =>
            q g' H' _ ⟨x1.trans xa, wa, by rw [if_pos rfl]; exact ⟨D0, rfl, by
              cases eh : H D0 with
              | none => rfl
              | some o => exact absurd hD (x1.there _ (by rw [eh]; exact fun z => nomatch z)), oa⟩⟩⟩
        · cases er
      · cases er
theorem ownP_snd (c : SC) (own : List Nat) : (ownP c own).map (·.2) = own := by
  unfold ownP
  rw [List.map_map]
  induction own with
  | nil => rfl
  | cons a r ih => rw [List.map_cons, ih]; rfl

/-! ### dict displays -/
def tPs (fa : FnA) (f : Run (List D × List D × Store)) : L2.St → Hp → (List (V × V) → Hp → Prop) → Prop := fun σ H Q => ∃ g env st r, Wok fa g st H ∧ EnvOk fa g H env σ ∧ f env st = some r ∧
  ∀ g' H' ps, Ext g H g' H' → Wok fa g' r.2.2 H' → Reps fa g' H' (ps.map (·.1)) r.1 → Reps fa g' H' (ps.map (·.2)) r.2.1 → Q ps H'
structure SndP (fa : FnA) (X : Cx) (ks : List (Option Expr)) (vs : List Expr) (f : Run (List D × List D × Store)) : Prop where
  to : ∀ pos, ∃ trs, PPs X pos ks vs trs ∧ ∀ σ H Q, tPs fa f σ H Q → tPairs trs σ H Q
  all : ks.all (·.isSome) = true
  len : ks.length = vs.length
  ln : ∀ env st r, f env st = some r → r.1.length = ks.length
theorem sndp_nil : SndP fa X [] [] (fun _ st => some ([], [], st)) := ⟨fun pos => ⟨[], pps_nil, fun σ H Q ⟨g, env, st, r, w, eo, er, q⟩ => by
  cases er
  exact q g H [] (.refl _ _) w .nil .nil⟩, rfl, rfl, fun env st r er => by cases er; rfl⟩
def consP (f1 f2 : Run Res) (f3 : Run (List D × List D × Store)) : Run (List D × List D × Store) := fun env st => match f1 env st with
    | none => none
    | some x => match f2 env x.st with
      | none => none
      | some y => match f3 env y.st with
        | none => none
        | some (ds, es, st3) => some (x.d :: ds, y.d :: es, st3)
theorem sndp_cons {ks : List (Option Expr)} {vs : List Expr} {f1 f2 : Run Res} {f3 : Run (List D × List D × Store)} (h1 : PE X x (tE fa f1)) (h2 : PE X y (tE fa f2)) (h3 : SndP fa X ks vs f3) : SndP fa X (some x :: ks) (y :: vs) (consP f1 f2 f3) := by
  refine ⟨fun pos => ?_, by rw [List.all_cons, h3.all]; rfl, by rw [List.length_cons, List.length_cons, h3.len], fun env st r er => ?_⟩
  rotate_left
  · unfold consP at er
    split at er
    · cases er
    · split at er
      · cases er
      · split at er
        · cases er
        · rename_i e3
          cases er
          rw [List.length_cons, List.length_cons, h3.ln _ _ _ e3]
  obtain ⟨trs, pp, ii⟩ := h3.to pos
  refine ⟨_, pps_cons (pe_tF h1) (pe_tF h2) pp, fun σ H Q ⟨g, env, st, r, w, eo, er, q⟩ => ?_⟩
  unfold consP at er
  split at er
  · cases er
  · rename_i a e1
    split at er
    · cases er
    · rename_i b e2
      split at er
      · cases er
      · rename_i ds es st3 e3
        cases er
        refine ⟨g, env, st, _, w, eo, e1, fun g1 H1 v1 x1 w1 R1 => ⟨g1, env, _, _, w1, eo.mono x1, e2, fun g2 H2 v2 x2 w2 R2 => ii _ _ _ ⟨g2, env, _, _, w2, eo.mono (x1.trans x2), e3, fun g3 H3 ps x3 w3 R3 R4 => ?_⟩⟩⟩
        exact q g3 H3 _ (x1.trans (x2.trans x3)) w3 (.cons (R1.mono (x2.trans x3)) R3) (.cons (R2.mono x3) R4)
def dicR (f : Run (List D × List D × Store)) : Run Res := fun env st => match f env st with
    | some (ds, es, st1) => match keysD ds with
      | some kk => some ⟨.dct (mkD kk es []), true, st1⟩
      | none => none
    | none => none
theorem snd_dic {ks : List (Option Expr)} {vs : List Expr} {f : Run (List D × List D × Store)} (h : SndP fa X ks vs f) (h15 : ks.length ≤ 15) (h0 : ks = [] → ∀ env st, f env st = some ([], [], st)) : PE X (.Dict ks vs pos) (tE fa (dicR f)) := by
  by_cases e : ks = []
  · subst e
    have ev : vs = [] := by
      have := h.len
      cases vs with
      | nil => rfl
      | cons _ _ => simp at this
    subst ev
    refine PEimp pe_dnewK fun σ H Q ⟨g, env, st, r, w, eo, er, q⟩ p hp => ?_
    unfold dicR at er
    rw [h0 rfl] at er
    cases er
    exact q _ _ _ (res_dct w hp .nil)
  · obtain ⟨trs, pp, ii⟩ := h.to pos
    refine PEimp (pe_disp pp h.all h.len e h15) fun σ H Q ⟨g, env, st, r, w, eo, er, q⟩ p hp => ii _ _ _ ?_
    unfold dicR at er
    split at er
    · rename_i ds es st1 e1
      split at er
      · rename_i kk e2
        cases er
        have x0 : Ext g H g (upd H p (.dK [])) := ext_new w hp
        have o0 : Own fa g (upd H p (.dK [])) p (.dct []) := ⟨w.nf hp, w.nc hp, [], upd_same, .nil⟩
        refine ⟨g, env, st, _, wok_new w hp, eo.mono x0, e1, fun g1 H1 ps x1 w1 R1 R2 => ?_⟩
        have o1 := o0.mono x1
        obtain ⟨kv0, t1, t2⟩ := o1.top
        cases t2
        obtain ⟨kvs, e3, e4⟩ := mkD_rep R1 R2 e2 (.nil (fa := fa) (g := g1) (H := H1))
        refine ⟨t1, kvs, e3, ?_, q g1 _ _ ⟨ext_upd (x0.trans x1) hp, wok_upd w1 o1.nF o1.nC o1.nfrz, ?_⟩⟩
        · have hl : ds.length = ks.length := h.ln _ _ _ e1
          have h2 : (ps.map (·.1)).length = ds.length := R1.length
          rw [e3] at h2
          simp only [List.length_map] at h2
          omega
        · rw [if_pos rfl]
          exact ⟨p, rfl, hp, o1.nF, o1.nC, _, upd_same, RepK.kw (kp_upd o1.nF o1.nfrz).kw _ _ e4⟩
      · cases er
    · cases er
end
end EV

/-! EV, part M: every expression that stands against the text is sound. -/
namespace EV
open PySem PySem.Spec PyProof.Rows L2
theorem chnR_map {α : Type} {mk : Bool → Store → α} {o p : COp} {f1 f2 f3 : Run (D × Store)} {env : EV.Env} {st : Store} {r : α} (h : chnR mk o p f1 f2 f3 env st = some r) :
    ∃ b s, chnR (fun b s => (b, s)) o p f1 f2 f3 env st = some (b, s) ∧ r = mk b s := by
  unfold chnR at h ⊢
  split at h
  · cases h
  · rename_i e1
    split at h
    · cases h
    · rename_i e2
      split at h
      · cases h
      · rename_i e3; cases h; exact ⟨_, _, rfl, rfl⟩
      · rename_i e3
        split at h
        · cases h
        · rename_i e4
          split at h
          · cases h
          · rename_i e5; cases h; exact ⟨_, _, rfl, rfl⟩
section
variable {T : Prog} {fa : FnA} {n : Nat} {c : SC} {X : Cx} {e x y z tg iter tg1 iter1 : Expr} {pos : Pos} {es ifs ifs1 : List Expr}
theorem evCf_cmp {o : COp} {f1 f2 : Run (D × Store)} : evCf (fun env st => match f1 env st with
      | none => none
      | some (x, st1) => match f2 env st1 with
        | none => none
        | some (y, st2) => match cmpD o st2 x y with
          | none => none
          | some c => some ⟨.bl c, false, st2⟩) = fun env st => match f1 env st with
      | none => none
      | some (x, st1) => match f2 env st1 with
        | none => none
        | some (y, st2) => match cmpD o st2 x y with
          | none => none
          | some c => some (c, st2) := by
  funext env st
  unfold evCf
  cases e1 : f1 env st with
  | none => simp only [e1]
  | some a =>
    cases e2 : f2 env a.2 with
    | none => simp only [e1, e2]
    | some b =>
      cases e3 : cmpD o b.2 a.1 b.1 <;> simp only [e1, e2, e3]
theorem snd_cmp' (k : Cok T fa n c X) {o : COp} {f1 f2 : Run (D × Store)} (h1 : PE X x (tB fa f1)) (h2 : PE X y (tB fa f2)) (hp : plB y = true) :
    Snd fa X (.Compare x [copOf o] [y] pos) (fun env st => match f1 env st with
      | none => none
      | some (x, st1) => match f2 env st1 with
        | none => none
        | some (y, st2) => match cmpD o st2 x y with
          | none => none
          | some c => some ⟨.bl c, false, st2⟩) :=
  ⟨snd_cmp k h1 h2 hp, by rw [evCf_cmp]; exact tst_cmp k h1 h2 hp, fun ⟨_, _, _, e⟩ => nomatch e⟩
theorem snd_chn (k : Cok T fa n c X) {o p : COp} {f1 f2 f3 : Run (D × Store)} (h1 : PE X x (tB fa f1)) (h2 : PE X y (tB fa f2)) (h3 : PE X z (tB fa f3)) (hp : copOf p ≠ .In ∧ copOf p ≠ .NotIn) :
    Snd fa X (.Compare x [copOf o, copOf p] [y, z] pos) (chnR (fun b s => ⟨.bl b, false, s⟩) o p f1 f2 f3) := by
  have hm : lastMarks [copOf o, copOf p] [y, z] = false := by
    show behindInMarks (copOf p) z = false
    exact nobehind z hp.1 hp.2
  refine ⟨PEimp (pe_chain (op_cmp (fa := fa) k.units o) (op_cmp (fa := fa) k.units p) h1 h2 h3 hm) fun σ H Q ⟨g, env, st, r, w, eo, er, q⟩ => ?_,
    PTimp (pt_chain (op_cmp (fa := fa) k.units o) (op_cmp (fa := fa) k.units p) h1 h2 h3 hm) fun σ H Q ⟨g, env, st, r, w, eo, er, q⟩ => ?_, fun ⟨_, _, _, e⟩ => nomatch e⟩
  · obtain ⟨b, s, e1, rfl⟩ := chnR_map er
    exact chn_read ⟨g, env, st, _, w, eo, e1, fun g' H' xt w' => q g' H' _ ((res_old w' (.bl _)).trans xt)⟩
  · obtain ⟨m, e2⟩ := evCf_some er
    obtain ⟨b, s, e1, e3⟩ := chnR_map e2
    injection e3 with e4 e5 e6
    injection e4 with e4
    refine chn_read ⟨g, env, st, _, w, eo, e1, fun g' H' xt w' => ⟨b, rfl, ?_⟩⟩
    rw [← e4]; exact q g' H' xt (by rw [e6]; exact w')
theorem snd_lc (k : Cok T fa n c X) {f : Run (Src × Store)} {own : List Nat} {t : Tg} {cond : Run (Bool × Store)} {ef : Run Res} {scope : Scope} (hb : blkC c.N c.sc scope (ownP c own) = true) (ho : ∀ i ∈ tgSlots t, i ∈ own) (hp : plB iter = true)
    (hi : PI X tg iter (tI fa f)) (ht : t.chk (blkSC c scope) tg = true) (hc : ∀ X', Cok T fa n (blkSC c scope) X' → PTs X' ifs (tC fa cond)) (he : ∀ X', Cok T fa n (blkSC c scope) X' → Snd fa X' x ef) :
    PE X (.ListComp x [⟨tg, iter, ifs, 0⟩] scope pos) (tE fa (lcR f own t cond ef)) := by
  have ok : BlkOk X.N X.env.scope scope (ownP c own) := by rw [k.N, k.sc]; exact blkOk_by hb
  have z := pe_lc (pos := pos) (te := tF fa ef) (tt := tC fa cond) (g := tG fa t) k.calm k.nd hi ok (fun s H C cl fp => snd_tg (k.blk s H scope C cl fp) ht) (fun s H C cl fp => hc _ (k.blk s H scope C cl fp)) (fun s H C cl fp => pe_tF (he _ (k.blk s H scope C cl fp)).pe) (folded_ok hp)
  rw [ownP_snd] at z
  exact PEimp z fun σ H Q h => lc_read ho h
theorem snd_lcK (k : Cok T fa n c X) {i : Nat} {own : List Nat} {t : Tg} {cond : Run (Bool × Store)} {ef : Run Res} {scope : Scope} (hb : blkC c.N c.sc scope (ownP c own) = true) (ho : ∀ i ∈ tgSlots t, i ∈ own) (hp : plB iter = true)
    (hi : slotB c i iter = true) (ht : t.chk (blkSC c scope) tg = true) (hc : ∀ X', Cok T fa n (blkSC c scope) X' → PTs X' ifs (tC fa cond)) (he : ∀ X', Cok T fa n (blkSC c scope) X' → Snd fa X' x ef) :
    PE X (.ListComp x [⟨tg, iter, ifs, 0⟩] scope pos) (tE fa (lcR (fun env st => match env[i]? with | some (.fr (.dct ks)) => some (fun _ => some (ks.map fun kv => dK kv.1), st) | _ => none) own t cond ef)) := by
  have ok : BlkOk X.N X.env.scope scope (ownP c own) := by rw [k.N, k.sc]; exact blkOk_by hb
  have z := pe_lc (pos := pos) (te := tF fa ef) (tt := tC fa cond) (g := tG fa t) k.calm k.nd (pi_keys (slot_ok k hi)) ok (fun s H C cl fp => snd_tg (k.blk s H scope C cl fp) ht) (fun s H C cl fp => hc _ (k.blk s H scope C cl fp)) (fun s H C cl fp => pe_tF (he _ (k.blk s H scope C cl fp)).pe) (folded_ok hp)
  rw [ownP_snd] at z
  exact PEimp (PEor (pe_lock z) z) fun σ H Q h => lc_readK ho h
theorem snd_lc2 (k : Cok T fa n c X) {f jt : Run (Src × Store)} {own : List Nat} {t u : Tg} {cond cond2 : Run (Bool × Store)} {ef : Run Res} {scope : Scope} (hb : blkC c.N c.sc scope (ownP c own) = true) (ho : ∀ i ∈ tgSlots t, i ∈ own) (hu : ∀ i ∈ tgSlots u, i ∈ own) (hp : plB iter = true) (hp1 : plB iter1 = true)
    (hi : PI X tg iter (tI fa f)) (ht : t.chk (blkSC c scope) tg = true) (hc : ∀ X', Cok T fa n (blkSC c scope) X' → PTs X' ifs (tC fa cond))
    (hi1 : ∀ X', Cok T fa n (blkSC c scope) X' → PI X' tg1 iter1 (tI fa jt)) (hut : u.chk (blkSC c scope) tg1 = true) (hc1 : ∀ X', Cok T fa n (blkSC c scope) X' → PTs X' ifs1 (tC fa cond2)) (he : ∀ X', Cok T fa n (blkSC c scope) X' → Snd fa X' x ef) :
    PE X (.ListComp x [⟨tg, iter, ifs, 0⟩, ⟨tg1, iter1, ifs1, 0⟩] scope pos) (tE fa (lc2R f own t cond u jt cond2 ef)) := by
  have ok : BlkOk X.N X.env.scope scope (ownP c own) := by rw [k.N, k.sc]; exact blkOk_by hb
  have z := pe_lc2 (pos := pos) (te := tF fa ef) (tt := tC fa cond) (g := tG fa t) (wi1 := tI fa jt) (g1 := tG fa u) (tt1 := tC fa cond2) (vs1 := tgSlots u) k.calm k.nd hi ok (by rw [ownP_snd]; exact hu) (fun s H C cl fp => snd_tg (k.blk s H scope C cl fp) ht) (fun s H C cl fp => hc _ (k.blk s H scope C cl fp))
    (fun s H C cl fp => hi1 _ (k.blk s H scope C cl fp)) (fun s H C cl fp => snd_tg (k.blk s H scope C cl fp) hut) (fun s H C cl fp => hc1 _ (k.blk s H scope C cl fp)) (fun s H C cl fp => pe_tF (he _ (k.blk s H scope C cl fp)).pe) (folded_ok hp) (fun env => folded_ok hp1)
  rw [ownP_snd] at z
  exact PEimp z fun σ H Q h => lc2_read ho h
theorem pts_no : PTs X [] (tC fa fun _ st => some (true, st)) := ⟨fun pins s σ H Q I ⟨g, env, st, r, w, eo, er, q⟩ => (pts_nil (X := X)).run pins s σ H Q I (by cases er; exact q g H (.refl _ _) w)⟩
end
end EV

/-! EV, part N: every expression that stands against the text is sound. -/
namespace EV
open PySem PySem.Spec PyProof.Rows L2
def EachOk (fa : FnA) (c : SC) (X : Cx) (P : Pg) : Es → List Expr → Prop
  | .nil, [] => True
  | .cons e r, x :: xs => (e.chk c x = true ∧ Snd fa X x (e.ev P) ∧ plB x = true) ∧ EachOk fa c X P r xs
  | _, _ => False
def EachK (fa : FnA) (X : Cx) (P : Pg) : Es → List Keyword → Prop
  | .nil, [] => True
  | .cons e r, ⟨_, x, _⟩ :: xs => Snd fa X x (e.ev P) ∧ EachK fa X P r xs
  | _, _ => False
structure SndO (fa : FnA) (c : SC) (X : Cx) (P : Pg) (o : Eo) : Prop where
  po : ∀ x, o.chk c x = true → PO X x (tO fa (o.evI P))
  pc : ∀ xs, o.chkC c xs = true → PTs X xs (tC fa (o.evC P))
  pe : ∀ w, o.chk c (some w) = true → ∃ f, PE X w (tE fa f) ∧ o.evI P = fun env st => match f env st with
    | some ⟨.int i, _, st1⟩ => some (some i, st1)
    | _ => none
section
variable {T : Prog} {fa : FnA} {n : Nat} {c : SC} {X : Cx} {P : Pg}
theorem each_pa : ∀ {es : Es} {xs : List Expr}, EachOk fa c X P es xs → PA X xs (tAr fa (es.ev P)) ∧ plBs xs = true ∧ (xs = [] → ∀ env st, es.ev P env st = some ([], st))
  | .nil, [], _ => ⟨by simp only [Es.ev]; exact pa_nilR, rfl, fun _ env st => by simp only [Es.ev]⟩
  | .cons e r, x :: xs, h => by
    obtain ⟨⟨_, h1, h2⟩, h3⟩ := h
    obtain ⟨i1, i2, _⟩ := each_pa h3
    exact ⟨by simp only [Es.ev]; exact pa_consR h1.pe h2 i1, by simp only [plBs, h2, i2, Bool.and_self], fun z => nomatch z⟩
  | .nil, _ :: _, h => h.elim
  | .cons _ _, [], h => h.elim
theorem each_pv (k : Cok T fa n c X) : ∀ {es : Es} {xs : List Expr}, EachOk fa c X P es xs → PA X xs (tAv fa (es.evB P))
  | .nil, [], _ => by simp only [Es.evB]; exact pa_nilV
  | .cons e r, x :: xs, h => by
    obtain ⟨⟨h0, h1, h2⟩, h3⟩ := h
    simp only [Es.evB]
    exact pa_consV (h1.tb k h0) h2 (each_pv k h3)
  | .nil, _ :: _, h => h.elim
  | .cons _ _, [], h => h.elim
theorem each_pk : ∀ {es : Es} {xs : List Keyword}, EachK fa X P es xs → PK X xs (tAr fa (es.ev P)) ∧ ∀ env st r, es.ev P env st = some r → r.1.length = xs.length
  | .nil, [], _ => ⟨by simp only [Es.ev]; exact pk_nilR, fun env st r h => by simp only [Es.ev] at h; cases h; rfl⟩
  | .cons e r, ⟨nm, x, kp⟩ :: xs, h => by
    obtain ⟨h1, h3⟩ := h
    obtain ⟨i1, i2⟩ := each_pk h3
    refine ⟨by simp only [Es.ev]; exact pk_consR h1.pe i1, fun env st r h => ?_⟩
    simp only [Es.ev] at h
    split at h
    · cases h
    · split at h
      · cases h
      · rename_i e2
        cases h
        rw [List.length_cons, List.length_cons, i2 _ _ _ e2]
  | .nil, _ :: _, h => h.elim
  | .cons _ _, [], h => h.elim
end
section
variable {T : Prog} {fa : FnA} {n : Nat}
abbrev PT_ (T : Prog) (n : Nat) : Pg := ⟨T.run n, T.glo, T.whl⟩
mutual
theorem E.snd : ∀ (ir : E) (c : SC) (X : Cx) (e : Expr), Cok T fa n c X → ir.chk c e = true → Snd fa X e (ir.ev (PT_ T n))
  | .non, c, X, e, k, h => by
    simp only [E.chk] at h
    split at h
    · exact Snd.of (by simp only [E.ev]; exact snd_const pe_non fun _ _ => .non) (fun _ => rfl) (fun _ _ _ z => nomatch z)
    · cases h
  | .bl b, c, X, e, k, h => by
    simp only [E.chk] at h
    split at h
    · cases eq_of_beq h
      exact Snd.of (by simp only [E.ev]; exact snd_const pe_bl fun _ _ => .bl _) (fun _ => rfl) (fun _ _ _ z => nomatch z)
    · cases h
  | .int i, c, X, e, k, h => by
    simp only [E.chk] at h
    split at h
    · cases eq_of_beq h
      exact Snd.of (by simp only [E.ev]; exact snd_const pe_int fun _ _ => .int _) (fun _ => rfl) (fun _ _ _ z => nomatch z)
    · cases h
  | .str s, c, X, e, k, h => by
    simp only [E.chk] at h
    split at h
    · cases eq_of_beq h
      exact Snd.of (by simp only [E.ev]; exact snd_const pe_str fun _ _ => .str _) (fun _ => rfl) (fun _ _ _ z => nomatch z)
    · cases h
  | .var i, c, X, e, k, h => by
    simp only [E.chk] at h
    have p := snd_var k h
    unfold slotB at h
    split at h
    · exact Snd.of (by simp only [E.ev]; exact p) (fun _ => rfl) (fun _ _ _ z => nomatch z)
    · cases h
  | .glo y, c, X, e, k, h => by
    simp only [E.chk] at h
    split at h
    · simp only [Bool.and_eq_true] at h
      obtain ⟨⟨h1, h2⟩, h3⟩ := h
      cases eq_of_beq h1
      exact Snd.of (by simp only [E.ev]; exact snd_glo k h2 h3) (fun _ => rfl) (fun _ _ _ z => nomatch z)
    · cases h
  | .bin o a b, c, X, e, k, h => by
    simp only [E.chk] at h
    split at h
    · simp only [Bool.and_eq_true] at h
      obtain ⟨⟨h1, h2⟩, h3⟩ := h
      cases eq_of_beq h1
      exact Snd.of (by simp only [E.ev]; exact snd_bin ((E.snd a c X _ k h2).tb k h2) ((E.snd b c X _ k h3).tb k h3)) (fun _ => rfl) (fun _ _ _ z => nomatch z)
    · cases h
  | .neg a, c, X, e, k, h => by
    simp only [E.chk] at h
    split at h
    · exact Snd.of (by simp only [E.ev]; exact snd_neg ((E.snd a c X _ k h).tb k h)) (fun _ => rfl) (fun _ _ _ z => nomatch z)
    · cases h
  | .cmp o a b, c, X, e, k, h => by
    simp only [E.chk] at h
    split at h
    · simp only [Bool.and_eq_true] at h
      obtain ⟨⟨⟨h1, h2⟩, h3⟩, h4⟩ := h
      cases eq_of_beq h1
      simp only [E.ev]
      exact snd_cmp' k ((E.snd a c X _ k h2).tb k h2) ((E.snd b c X _ k h3).tb k h3) h4
    · cases h
  | .chn o p a b d, c, X, e, k, h => by
    simp only [E.chk] at h
    split at h
    · simp only [Bool.and_eq_true] at h
      obtain ⟨⟨⟨⟨⟨⟨⟨⟨h1, h2⟩, h3⟩, h4⟩, h5⟩, h6⟩, h7⟩, h8⟩, h9⟩ := h
      cases eq_of_beq h1
      cases eq_of_beq h2
      simp only [E.ev]
      exact snd_chn k ((E.snd a c X _ k h3).tb k h3) ((E.snd b c X _ k h4).tb k h4) ((E.snd d c X _ k h5).tb k h5) (copOf_in h8 h9)
    · cases h
  | .and a b, c, X, e, k, h => by
    simp only [E.chk] at h
    split at h
    · simp only [Bool.and_eq_true] at h
      simp only [E.ev]
      exact snd_and2 (E.snd a c X _ k h.1) (E.snd b c X _ k h.2)
    · simp only [Bool.and_eq_true] at h
      simp only [E.ev]
      exact snd_and (E.snd a c X _ k h.1) (E.snd b c X _ k h.2)
    · cases h
  | .or a b, c, X, e, k, h => by
    simp only [E.chk] at h
    split at h
    · simp only [Bool.and_eq_true] at h
      simp only [E.ev]
      exact snd_or2 (E.snd a c X _ k h.1) (E.snd b c X _ k h.2)
    · simp only [Bool.and_eq_true] at h
      simp only [E.ev]
      exact snd_or (E.snd a c X _ k h.1) (E.snd b c X _ k h.2)
    · cases h
  | .not a, c, X, e, k, h => by
    simp only [E.chk] at h
    split at h
    · simp only [E.ev]
      exact snd_not (E.snd a c X _ k h)
    · cases h
  | .ife a b d, c, X, e, k, h => by
    simp only [E.chk] at h
    split at h
    · simp only [Bool.and_eq_true] at h
      simp only [E.ev]
      exact snd_ife (E.snd a c X _ k h.1.1) (E.snd b c X _ k h.1.2) (E.snd d c X _ k h.2)
    · cases h
  | .tup es, c, X, e, k, h => by
    simp only [E.chk] at h
    split at h
    · exact Snd.of (by simp only [E.ev]; exact snd_tup (each_pa (Es.snd es c X _ k h)).1) (fun _ => rfl) (fun _ _ _ z => nomatch z)
    · cases h
  | .lst es, c, X, e, k, h => by
    simp only [E.chk] at h
    split at h
    · exact Snd.of (by simp only [E.ev]; exact snd_lst (each_pa (Es.snd es c X _ k h)).1) (fun _ => rfl) (fun _ _ _ z => nomatch z)
    · cases h
  | .cel es, c, X, e, k, h => by
    simp only [E.chk] at h
    split at h
    · exact Snd.of (by simp only [E.ev]; exact snd_cel (each_pa (Es.snd es c X _ k h)).1) (fun _ => rfl) (fun _ _ _ z => nomatch z)
    · cases h
  | .mk a, c, X, e, k, h => by
    simp only [E.chk, Bool.and_eq_true] at h
    obtain ⟨h1, h2⟩ := h
    have ih := (E.snd a c X e k h1).pe
    split at h2
    · exact Snd.of (by simp only [E.ev]; exact snd_mk ih) (fun _ => rfl) (fun _ _ _ z => nomatch z)
    · exact Snd.of (by simp only [E.ev]; exact snd_mk ih) (fun _ => rfl) (fun _ _ _ z => nomatch z)
    · exact Snd.of (by simp only [E.ev]; exact snd_mk ih) (fun _ => rfl) (fun _ _ _ z => nomatch z)
    · cases h2
  | .call y es, c, X, e, k, h => by
    simp only [E.chk] at h
    split at h
    · simp only [Bool.and_eq_true] at h
      obtain ⟨⟨⟨h1, h2⟩, h3⟩, h4⟩ := h
      cases eq_of_beq h1
      obtain ⟨i1, i2, i3⟩ := each_pa (Es.snd es c X _ k h4)
      exact Snd.of (by simp only [E.ev]; exact snd_call k h2 h3 i1 i2 i3) (fun _ => rfl) (fun _ _ _ z => nomatch z)
    · cases h
  | .callK y ks ns pm, c, X, e, k, h => by
    simp only [E.chk] at h
    split at h
    · simp only [Bool.and_eq_true, decide_eq_true_eq] at h
      obtain ⟨⟨⟨⟨⟨h1, h2⟩, h3⟩, h4⟩, h5⟩, h6⟩ := h
      cases eq_of_beq h1
      obtain ⟨i1, i2⟩ := each_pk (Es.sndK ks c X _ k h4)
      have hl := congrArg List.length h5
      simp only [List.length_map] at hl
      exact Snd.of (by simp only [E.ev]; exact snd_callK k h2 h3 i1 h5 h6 fun env st r er => (i2 env st r er).trans hl) (fun _ => rfl) (fun _ _ _ z => nomatch z)
    · cases h
  | .bi b es, c, X, e, k, h => by
    simp only [E.chk] at h
    split at h
    · simp only [Bool.and_eq_true] at h
      obtain ⟨⟨h1, h2⟩, h3⟩ := h
      cases eq_of_beq h1
      have ih := Es.snd es c X _ k h3
      exact Snd.of (by simp only [E.ev]; exact snd_bi k b h2 (each_pa ih).2.1 (each_pv k ih)) (fun _ => rfl) (fun _ _ _ z => nomatch z)
    · cases h
  | .isi a tys, c, X, e, k, h => by
    simp only [E.chk] at h
    split at h
    · rename_i x p y t q
      simp only [Bool.and_eq_true, List.all_eq_true, decide_eq_true_eq] at h
      obtain ⟨⟨⟨⟨⟨⟨⟨h1, h2⟩, h3⟩, h4⟩, h5⟩, h6⟩, h7⟩, h8⟩ := h
      cases eq_of_beq h1
      have ih := (E.snd a c X _ k h3).tb k h3
      have hT : ∀ s ∈ tys, glB c.sc (Str.ofString s) = true ∧ s ∈ TYS := fun s hs => h7 s hs
      refine Snd.of ?_ (fun _ => rfl) (fun _ _ _ z => nomatch z)
      simp only [E.ev]
      split at h8
      · rename_i z pz
        cases tys with
        | nil => simp [isNames] at h8
        | cons s r =>
          cases r with
          | cons _ _ => simp [isNames] at h8
          | nil =>
            simp only [isNames, isName, Bool.and_true] at h8
            cases eq_of_beq h8
            obtain ⟨a1, a2⟩ := hT s List.mem_cons_self
            exact snd_isi1 k h2 h4 a1 a2 ih
      · exact snd_isiT k (fun z => by subst z; simp at h5) (Nat.le_trans h6 (by decide)) h2 h4 h8 hT ih
      · cases h8
    · cases h
  | .mth m a es, c, X, e, k, h => by
    simp only [E.chk] at h
    split at h
    · simp only [Bool.and_eq_true] at h
      obtain ⟨⟨⟨⟨h1, h2⟩, h3⟩, h4⟩, h5⟩ := h
      cases eq_of_beq h1
      have ih := (E.snd a c X _ k h3).tb k h3
      have es' := Es.snd es c X _ k h4
      refine Snd.of ?_ (fun _ => rfl) (fun _ _ _ z => nomatch z)
      simp only [E.ev]
      cases m with
      | bits =>
        cases es with
        | nil =>
          cases ‹List Expr› with
          | nil => exact snd_bits h5 ih
          | cons _ _ => exact es'.elim
        | cons _ _ => simp [Es.len, Mt.ar] at h2
      | count =>
        cases es with
        | nil => simp [Es.len, Mt.ar] at h2
        | cons a r =>
          cases r with
          | cons _ _ => simp [Es.len, Mt.ar] at h2
          | nil =>
            cases ‹List Expr› with
            | nil => exact es'.elim
            | cons x xs =>
              cases xs with
              | cons _ _ => exact es'.2.elim
              | nil =>
                simp only [Es.ev]
                exact snd_count h5 ih es'.1.2.2 es'.1.2.1.pe
      | get =>
        cases es with
        | nil => simp [Es.len, Mt.ar] at h2
        | cons a r =>
          cases r with
          | nil => simp [Es.len, Mt.ar] at h2
          | cons b r =>
            cases r with
            | cons _ _ => simp [Es.len, Mt.ar] at h2
            | nil =>
              cases ‹List Expr› with
              | nil => exact es'.elim
              | cons x xs =>
                cases xs with
                | nil => exact es'.2.elim
                | cons y ys =>
                  cases ys with
                  | cons _ _ => exact es'.2.2.elim
                  | nil =>
                    simp only [Es.ev]
                    exact snd_get k h5 ih es'.1.2.2 es'.2.1.2.2 es'.1.2.1.pe es'.2.1.2.1.pe
      | _ =>
        exact PEfalse fun σ H Q ⟨g, env, st, r, w, eo, er, q⟩ => by
          obtain ⟨_, _, _, _, _, _, _, _, e3, _⟩ := mth_some (m := _) er
          simp [mtD] at e3
    · cases h
  | .sub a i, c, X, e, k, h => by
    simp only [E.chk] at h
    split at h
    · simp only [Bool.and_eq_true] at h
      obtain ⟨⟨h1, h2⟩, h3⟩ := h
      exact Snd.of (by simp only [E.ev]; exact snd_sub k ((E.snd a c X _ k h1).tb k h1) (E.snd i c X _ k h2).pe h3) (fun _ => rfl) (fun _ _ _ z => nomatch z)
    · cases h
  | .slc a lo hi, c, X, e, k, h => by
    simp only [E.chk] at h
    split at h
    · simp only [Bool.and_eq_true] at h
      obtain ⟨⟨h1, h2⟩, h3⟩ := h
      exact Snd.of (by simp only [E.ev]; exact snd_slc k ((E.snd a c X _ k h1).tb k h1) ((Eo.snd lo c X k).po _ h2) ((Eo.snd hi c X k).po _ h3)) (fun _ => rfl) (fun _ _ _ z => nomatch z)
    · cases h
  | .rev a, c, X, e, k, h => by
    simp only [E.chk] at h
    split at h
    · exact Snd.of (by simp only [E.ev]; exact snd_rev ((E.snd a c X _ k h).tb k h)) (fun _ => rfl) (fun _ _ _ z => nomatch z)
    · cases h
  | .lrg a b, c, X, e, k, h => by
    simp only [E.chk] at h
    split at h
    · simp only [Bool.and_eq_true] at h
      obtain ⟨⟨⟨⟨⟨⟨h1, h2⟩, h3⟩, h4⟩, h5⟩, h6⟩, h7⟩ := h
      cases eq_of_beq h1
      cases eq_of_beq h3
      refine Snd.of ?_ (fun _ => rfl) (fun _ _ _ z => nomatch z)
      simp only [E.ev]
      cases a with
      | so _ => simp [Eo.chk] at h5
      | no =>
        simp only [Eo.evI]
        exact snd_lrg1 k h2 h4 h7 (E.snd b c X _ k h6).pe
    · simp only [Bool.and_eq_true] at h
      obtain ⟨⟨⟨⟨⟨⟨⟨h1, h2⟩, h3⟩, h4⟩, h5⟩, h6⟩, h7⟩, h8⟩ := h
      cases eq_of_beq h1
      cases eq_of_beq h3
      refine Snd.of ?_ (fun _ => rfl) (fun _ _ _ z => nomatch z)
      simp only [E.ev]
      obtain ⟨f, p1, p2⟩ := (Eo.snd a c X k).pe _ h5
      rw [p2]
      exact snd_lrg2 k h2 h4 h8 h7 p1 (E.snd b c X _ k h6).pe
    · cases h
  | .lc elt own t it cd, c, X, e, k, h => by
    simp only [E.chk] at h
    split at h
    · simp only [Bool.and_eq_true, List.all_eq_true] at h
      obtain ⟨⟨⟨⟨⟨⟨⟨h0, h1⟩, h2⟩, h3⟩, h4⟩, h5⟩, h6⟩, h7⟩ := h
      cases eq_of_beq h0
      have ho : ∀ i ∈ tgSlots t, i ∈ own := fun i hi => by simpa using h1 i hi
      refine Snd.of ?_ (fun _ => rfl) (fun _ _ _ z => nomatch z)
      simp only [E.ev]
      have hc := fun X' (k' : Cok T fa n (blkSC c _) X') => (Eo.snd cd _ X' k').pc _ h5
      have he := fun X' (k' : Cok T fa n (blkSC c _) X') => E.snd elt _ X' _ k' h6
      have hi := It.snd it c X _ _ k h3
      cases it with
      | key i =>
        simp only [It.ev]
        exact snd_lcK k h2 ho h7 (by simpa only [It.chk] using h3) h4 hc he
      | ovr _ => exact snd_lc k h2 ho h7 (hi rfl) h4 hc he
      | rg1 _ => exact snd_lc k h2 ho h7 (hi rfl) h4 hc he
      | rg2 _ _ => exact snd_lc k h2 ho h7 (hi rfl) h4 hc he
      | rg3 _ _ _ => exact snd_lc k h2 ho h7 (hi rfl) h4 hc he
      | enu _ => exact snd_lc k h2 ho h7 (hi rfl) h4 hc he
      | zip _ _ => exact snd_lc k h2 ho h7 (hi rfl) h4 hc he
    · cases h
  | .lc2 elt own t it cd u jt ce, c, X, e, k, h => by
    simp only [E.chk] at h
    split at h
    · simp only [Bool.and_eq_true, List.all_eq_true] at h
      obtain ⟨⟨⟨⟨⟨⟨⟨⟨⟨⟨⟨⟨⟨⟨⟨h0, h1⟩, h2⟩, h3⟩, h4⟩, h5⟩, h6⟩, h7⟩, h8⟩, h9⟩, h10⟩, h11⟩, h12⟩, h13⟩, h14⟩, h15⟩ := h
      cases eq_of_beq h0
      cases eq_of_beq h1
      have ho : ∀ i ∈ tgSlots t, i ∈ own := fun i hi => by simpa using h4 i hi
      have hu : ∀ i ∈ tgSlots u, i ∈ own := fun i hi => by simpa using h15 i hi
      refine Snd.of ?_ (fun _ => rfl) (fun _ _ _ z => nomatch z)
      simp only [E.ev]
      exact snd_lc2 k h5 ho hu h13 h14 (It.snd it c X _ _ k h6 h2) h7 (fun X' k' => (Eo.snd cd _ X' k').pc _ h8) (fun X' k' => It.snd jt _ X' _ _ k' h10 h3) h9 (fun X' k' => (Eo.snd ce _ X' k').pc _ h11) (fun X' k' => E.snd elt _ X' _ k' h12)
    · cases h
  | .dic ps, c, X, e, k, h => by
    simp only [E.chk] at h
    split at h
    · simp only [Bool.and_eq_true, decide_eq_true_eq] at h
      obtain ⟨i1, i2⟩ := Ps.snd ps c X _ _ k h.1
      exact Snd.of (by simp only [E.ev]; exact snd_dic i1 h.2 i2) (fun _ => rfl) (fun _ _ _ z => nomatch z)
    · cases h
theorem Es.snd : ∀ (es : Es) (c : SC) (X : Cx) (xs : List Expr), Cok T fa n c X → es.chk c xs = true → EachOk fa c X (PT_ T n) es xs
  | .nil, c, X, xs, k, h => by
    simp only [Es.chk] at h
    split at h
    · trivial
    · cases h
  | .cons e r, c, X, xs, k, h => by
    simp only [Es.chk] at h
    split at h
    · simp only [Bool.and_eq_true] at h
      exact ⟨⟨h.1.1, E.snd e c X _ k h.1.1, h.1.2⟩, Es.snd r c X _ k h.2⟩
    · cases h
theorem Es.sndK : ∀ (es : Es) (c : SC) (X : Cx) (xs : List Keyword), Cok T fa n c X → es.chkK c xs = true → EachK fa X (PT_ T n) es xs
  | .nil, c, X, xs, k, h => by
    simp only [Es.chkK] at h
    split at h
    · trivial
    · cases h
  | .cons e r, c, X, xs, k, h => by
    simp only [Es.chkK] at h
    split at h
    · simp only [Bool.and_eq_true] at h
      exact ⟨E.snd e c X _ k h.1, Es.sndK r c X _ k h.2⟩
    · cases h
theorem Ps.snd : ∀ (ps : Ps) (c : SC) (X : Cx) (ks : List (Option Expr)) (vs : List Expr), Cok T fa n c X → ps.chk c ks vs = true → SndP fa X ks vs (ps.ev (PT_ T n)) ∧ (ks = [] → ∀ env st, ps.ev (PT_ T n) env st = some ([], [], st))
  | .nil, c, X, ks, vs, k, h => by
    simp only [Ps.chk] at h
    split at h
    · exact ⟨by simp only [Ps.ev]; exact sndp_nil, fun _ _ _ => by simp only [Ps.ev]⟩
    · cases h
  | .cons e f r, c, X, ks, vs, k, h => by
    simp only [Ps.chk] at h
    split at h
    · simp only [Bool.and_eq_true] at h
      simp only [Ps.ev]
      exact ⟨sndp_cons (E.snd e c X _ k h.1.1).pe (E.snd f c X _ k h.1.2).pe (Ps.snd r c X _ _ k h.2).1, fun z => nomatch z⟩
    · cases h
theorem Eo.snd : ∀ (o : Eo) (c : SC) (X : Cx), Cok T fa n c X → SndO fa c X (PT_ T n) o
  | .no, c, X, k => by
    refine ⟨fun x h => ?_, fun xs h => ?_, fun w h => ?_⟩
    · simp only [Eo.chk] at h
      split at h
      · simp only [Eo.evI]; exact po_nilR
      · cases h
    · simp only [Eo.chkC] at h
      split at h
      · simp only [Eo.evC]; exact pts_no
      · cases h
    · simp [Eo.chk] at h
  | .so e, c, X, k => by
    refine ⟨fun x h => ?_, fun xs h => ?_, fun w h => ?_⟩
    · simp only [Eo.chk] at h
      split at h
      · simp only [Eo.evI]; exact po_someR (E.snd e c X _ k h).pe
      · cases h
    · simp only [Eo.chkC] at h
      split at h
      · simp only [Eo.evC]; exact pts_one (E.snd e c X _ k h).pt
      · cases h
    · simp only [Eo.chk] at h
      exact ⟨_, (E.snd e c X _ k h).pe, by simp only [Eo.evI] <;> rfl⟩
theorem It.snd : ∀ (it : It) (c : SC) (X : Cx) (e tg : Expr), Cok T fa n c X → it.chk c e tg = true → it.nk = true → PI X tg e (tI fa (it.ev (PT_ T n)))
  | .ovr a, c, X, e, tg, k, h, _ => by
    simp only [It.chk] at h
    simp only [It.ev]
    exact snd_ovr (E.snd a c X _ k h).pe
  | .rg1 a, c, X, e, tg, k, h, _ => by
    simp only [It.chk] at h
    split at h
    · simp only [Bool.and_eq_true] at h
      obtain ⟨⟨⟨h1, h2⟩, h3⟩, h4⟩ := h
      cases eq_of_beq h1
      simp only [It.ev]
      exact snd_rg1 k h2 h4 (E.snd a c X _ k h3).pe
    · cases h
  | .rg2 a b, c, X, e, tg, k, h, _ => by
    simp only [It.chk] at h
    split at h
    · simp only [Bool.and_eq_true] at h
      obtain ⟨⟨⟨⟨⟨h1, h2⟩, h3⟩, h4⟩, h5⟩, h6⟩ := h
      cases eq_of_beq h1
      simp only [It.ev]
      exact snd_rg2 k h2 h4 h6 (E.snd a c X _ k h3).pe (E.snd b c X _ k h5).pe
    · cases h
  | .rg3 a b d, c, X, e, tg, k, h, _ => by
    simp only [It.chk] at h
    split at h
    · simp only [Bool.and_eq_true] at h
      obtain ⟨⟨⟨⟨⟨⟨⟨h1, h2⟩, h3⟩, h4⟩, h5⟩, h6⟩, h7⟩, h8⟩ := h
      cases eq_of_beq h1
      simp only [It.ev]
      exact snd_rg3 k h2 h4 h6 h8 (E.snd a c X _ k h3).pe (E.snd b c X _ k h5).pe (E.snd d c X _ k h7).pe
    · cases h
  | .enu a, c, X, e, tg, k, h, _ => by
    simp only [It.chk] at h
    split at h
    · split at h
      · simp only [Bool.and_eq_true] at h
        obtain ⟨⟨⟨h1, h2⟩, h3⟩, h4⟩ := h
        cases eq_of_beq h1
        simp only [It.ev]
        exact snd_enu k h2 h4 (E.snd a c X _ k h3).pe
      · cases h
    · cases h
  | .zip a b, c, X, e, tg, k, h, _ => by
    simp only [It.chk] at h
    split at h
    · split at h
      · simp only [Bool.and_eq_true] at h
        obtain ⟨⟨⟨⟨⟨h1, h2⟩, h3⟩, h4⟩, h5⟩, h6⟩ := h
        cases eq_of_beq h1
        simp only [It.ev]
        exact snd_zip k h2 h4 h6 (E.snd a c X _ k h3).pe (E.snd b c X _ k h5).pe
      · cases h
    · cases h
  | .key i, c, X, e, tg, k, h, z => by cases z
end
end
end EV

/-! EV, part O: the state of a def's body. -/
namespace EV
open PySem PySem.Spec PyProof.Rows L2
structure SOk (fa : FnA) (gB : G) (HB : Hp) (g : G) (H : Hp) (env : EV.Env) (σ : L2.St) (st : Store) : Prop where
  x : Ext gB HB g H
  w : Wok fa g st H
  e : EnvOk fa g H env σ
  o : ∀ (i : Nat) (d : D) (a : Addr), env[i]? = some (Sl.ow d) → σ[i]? = some (some (V.ref a)) → HB a = none
section
variable {fa : FnA} {gB g g' g2 : G} {HB H H' H2 : Hp} {st st' : Store} {a p : Addr} {v : V} {d d' : D} {o : HO} {env env2 : EV.Env} {σ σ2 : L2.St}
theorem SOk.after (s : SOk fa gB HB g H env σ st) (x : Ext g H g' H') (w : Wok fa g' st' H') : SOk fa gB HB g' H' env σ st' := ⟨s.x.trans x, w, s.e.mono x, s.o⟩
theorem set_fr {env : EV.Env} {i j : Nat} {s : Sl} {d : D} (h : (env.set i s)[j]? = some (Sl.fr d)) (ne : ∀ d, s ≠ .fr d) : j ≠ i ∧ env[j]? = some (Sl.fr d) := by
  by_cases e : i = j
  · subst e
    by_cases hl : i < env.length
    · rw [List.getElem?_set_self hl] at h; exact absurd (Option.some.inj h) (ne d)
    · rw [List.getElem?_eq_none (by simpa using hl)] at h; cases h
  · rw [List.getElem?_set_ne e] at h; exact ⟨Ne.symm e, h⟩
theorem set_ow2 {env : EV.Env} {i j : Nat} {d0 d : D} (h : (env.set i (.ow d0))[j]? = some (Sl.ow d)) : (j = i ∧ d = d0 ∧ i < env.length) ∨ (j ≠ i ∧ env[j]? = some (Sl.ow d)) := by
  by_cases e : i = j
  · subst e
    by_cases hl : i < env.length
    · rw [List.getElem?_set_self hl] at h; cases h; exact .inl ⟨rfl, rfl, hl⟩
    · rw [List.getElem?_eq_none (by simpa using hl)] at h; cases h
  · rw [List.getElem?_set_ne e] at h; exact .inr ⟨Ne.symm e, h⟩
/-- a slot is given an own object -/
theorem EnvOk.setOw {i : Nat} (e : EnvOk fa g H env σ) (h : Own fa g H a d) (hd : ∀ (j : Nat) (d' : D), j ≠ i → env[j]? = some (Sl.ow d') → σ[j]? ≠ some (some (V.ref a))) : EnvOk fa g H (env.set i (.ow d)) (σ.set i (some (.ref a))) where
  fr := fun j d' hj => by
    obtain ⟨h1, h2⟩ := set_fr hj fun _ => nofun
    rw [List.getElem?_set_ne (Ne.symm h1)]; exact e.fr j d' h2
  ow := fun j d' hj => by
    rcases set_ow2 hj with ⟨rfl, rfl, hl⟩ | ⟨h1, h2⟩
    · exact ⟨a, List.getElem?_set_self (Nat.lt_of_lt_of_le hl e.le), h⟩
    · rw [List.getElem?_set_ne (Ne.symm h1)]; exact e.ow j d' h2
  di := fun j k d1 d2 b jk hj hk hb => by
    rcases set_ow2 hj with ⟨rfl, rfl, hl⟩ | ⟨h1, h2⟩
    · rw [List.getElem?_set_self (Nat.lt_of_lt_of_le hl e.le)] at hb
      cases hb
      rcases set_ow2 hk with ⟨z, _, _⟩ | ⟨h3, h4⟩
      · exact absurd z.symm jk
      · rw [List.getElem?_set_ne (Ne.symm h3)]; exact hd k d2 h3 h4
    · rw [List.getElem?_set_ne (Ne.symm h1)] at hb
      rcases set_ow2 hk with ⟨rfl, rfl, hl⟩ | ⟨h3, h4⟩
      · rw [List.getElem?_set_self (Nat.lt_of_lt_of_le hl e.le)]
        intro z
        cases z
        exact hd j d1 h1 h2 hb
      · rw [List.getElem?_set_ne (Ne.symm h3)]; exact e.di j k d1 d2 b jk h2 h4 hb
  le := by rw [List.length_set, List.length_set]; exact e.le
theorem SOk.asg {i : Nat} {r : Res} (s : SOk fa gB HB g H env σ st) (h : ResOk fa g H g' H' v r) : SOk fa gB HB g' H' (env.set i (Sl.of r)) (σ.set i (some v)) r.st := by
  have s' := s.after h.ext h.wok
  have z := h.2.2
  unfold Sl.of
  split at z
  · rename_i hn
    rw [if_pos hn]
    obtain ⟨a, rfl, hA, ow⟩ := z
    refine ⟨s'.x, s'.w, s'.e.setOw ow fun j d' _ hj e => ?_, fun j d' b hj hb => ?_⟩
    · obtain ⟨b, hb, ob⟩ := s.e.ow j d' hj
      rw [e] at hb; cases hb
      obtain ⟨_, hz⟩ := ob.top.some
      rw [hA] at hz; cases hz
    · rcases set_ow2 hj with ⟨rfl, rfl, hl⟩ | ⟨h1, h2⟩
      · rw [List.getElem?_set_self (Nat.lt_of_lt_of_le hl s.e.le)] at hb
        cases hb
        cases eh : HB a with
        | none => rfl
        | some o => exact absurd hA (s.x.there _ (by rw [eh]; exact fun z => nomatch z))
      · rw [List.getElem?_set_ne (Ne.symm h1)] at hb
        exact s.o j d' b h2 hb
  · rename_i hn
    rw [if_neg hn]
    refine ⟨s'.x, s'.w, s'.e.set z, fun j d' b hj hb => ?_⟩
    obtain ⟨h1, h2⟩ := set_ow hj
    rw [List.getElem?_set_ne (Ne.symm h1)] at hb
    exact s.o j d' b h2 hb
theorem SOk.frz {i : Nat} (s : SOk fa gB HB g H env σ st) : ∃ g', SOk fa gB HB g' H (frzE env i) σ st ∧ Kp g H g' H := by
  unfold frzE
  split
  · rename_i d hd
    obtain ⟨a, ha, ow⟩ := s.e.ow i d hd
    obtain ⟨ob, ho⟩ := ow.top.some
    refine ⟨g.frz a, ⟨ext_frz g s.x (s.o i d a hd ha), s.w.frz (by rw [ho]; exact fun z => nomatch z) ow.nC, ⟨fun j d' hj => ?_, fun j d' hj => ?_, fun j k d1 d2 b jk hj hk hb => ?_, by rw [List.length_set]; exact s.e.le⟩, fun j d' b hj hb => ?_⟩, kp_frz⟩
    · by_cases e : i = j
      · subst e
        have hl := (List.getElem?_eq_some_iff.mp hd).1
        rw [List.getElem?_set_self hl] at hj
        cases hj
        exact ⟨.ref a, ha, ow.frz⟩
      · rw [List.getElem?_set_ne e] at hj
        obtain ⟨v, h1, h2⟩ := s.e.fr j d' hj
        exact ⟨v, h1, h2.frz⟩
    · obtain ⟨h1, h2⟩ := set_ow hj
      obtain ⟨b, hb, ob⟩ := s.e.ow j d' h2
      refine ⟨b, hb, ?_, ob.nC, ob.top.frz⟩
      rintro (z | z)
      · exact ob.nF z
      · subst z; exact s.e.di j i d' d b h1 h2 hd hb ha
    · obtain ⟨h1, h2⟩ := set_ow hj
      obtain ⟨h3, h4⟩ := set_ow hk
      exact s.e.di j k d1 d2 b jk h2 h4 hb
    · obtain ⟨h1, h2⟩ := set_ow hj
      exact s.o j d' b h2 hb
  · exact ⟨g, s, .refl _ _⟩
/-- slot k's own object is changed -/
theorem SOk.setOw {k : Nat} (s : SOk fa gB HB g H env σ st) (hk : env[k]? = some (Sl.ow d)) (ha : σ[k]? = some (some (V.ref p))) (ht : Top fa g (upd H p o) p d') : SOk fa gB HB g (upd H p o) (env.set k (.ow d')) σ st ∧ Kp g H g (upd H p o) := by
  obtain ⟨p', hp', ow⟩ := s.e.ow k d hk
  rw [ha] at hp'; cases hp'
  have kp := kp_upd (o := o) ow.nF ow.nfrz
  have hl := (List.getElem?_eq_some_iff.mp hk).1
  refine ⟨⟨ext_upd s.x (s.o k d p hk ha), wok_upd s.w ow.nF ow.nC ow.nfrz, ⟨fun j d1 hj => ?_, fun j d1 hj => ?_, fun j l d1 d2 b jl hj hl' hb => ?_, by rw [List.length_set]; exact s.e.le⟩, fun j d1 b hj hb => ?_⟩, kp⟩
  · obtain ⟨h1, h2⟩ := set_fr hj fun _ => nofun
    obtain ⟨v, h3, h4⟩ := s.e.fr j d1 h2
    exact ⟨v, h3, h4.kp kp⟩
  · rcases set_ow2 hj with ⟨rfl, rfl, _⟩ | ⟨h1, h2⟩
    · exact ⟨p, ha, ow.nF, ow.nC, ht⟩
    · obtain ⟨b, hb, ob⟩ := s.e.ow j d1 h2
      exact ⟨b, hb, ob.upd_ne (fun z => by subst z; exact s.e.di j k d1 d b h1 h2 hk hb ha) ow.nF ow.nfrz⟩
  · have f : ∀ {j d1}, (env.set k (Sl.ow d'))[j]? = some (Sl.ow d1) → ∃ d2, env[j]? = some (Sl.ow d2) := fun {j d1} hj => by
      rcases set_ow2 hj with ⟨h0, _, _⟩ | ⟨h1, h2⟩
      · exact ⟨_, by rw [h0]; exact hk⟩
      · exact ⟨_, h2⟩
    obtain ⟨_, f1⟩ := f hj
    obtain ⟨_, f2⟩ := f hl'
    exact s.e.di j l _ _ b jl f1 f2 hb
  · rcases set_ow2 hj with ⟨rfl, rfl, _⟩ | ⟨h1, h2⟩
    · exact s.o j d b hk hb
    · exact s.o j d1 b h2 hb
theorem cell_nfrz (w : Wok fa g st H) {c : Nat} {x : Cell} (h : st[c]? = some x) : ∀ ob u, H (g.ρ c) ≠ some (.frz ob u) := fun ob u e => by
  obtain ⟨_, t⟩ := w.cells c x h
  cases x with
  | lst xs => obtain ⟨vs, h1, h2⟩ := t; rw [h1] at e; cases e
  | dct ks => obtain ⟨kvs, h1, h2⟩ := t; rw [h1] at e; cases e
/-- a cell is changed -/
theorem SOk.setCell {c : Nat} {x x' : Cell} (s : SOk fa gB HB g H env σ st) (hc : st[c]? = some x) (ht : Top fa g (upd H (g.ρ c) o) (g.ρ c) x'.d) : SOk fa gB HB g (upd H (g.ρ c) o) env σ (st.set c x') ∧ Kp g H g (upd H (g.ρ c) o) := by
  obtain ⟨nF, t⟩ := s.w.cells c x hc
  have nz := cell_nfrz s.w hc
  have kp := kp_upd (o := o) nF nz
  have hlt : c < g.n := by rw [s.w.n_eq]; exact (List.getElem?_eq_some_iff.mp hc).1
  have bne : ∀ b, gB.F b → b ≠ g.ρ c := fun b hb e => nF (e ▸ s.x.mono b hb)
  have cne : ∀ b ob, HB b = some ob → (∀ k, k < gB.n → gB.ρ k ≠ b) → b ≠ g.ρ c := fun b ob hb hk e => by
    by_cases h : c < gB.n
    · exact hk c h (by rw [e, s.x.cell c h])
    · have := s.x.fresh c (Nat.not_lt.mp h) hlt
      rw [← e, hb] at this; cases this
  have lne : ∀ b ob u, HB b = some (.frz ob u) → b ≠ g.ρ c := fun b ob u hb e => nz ob u (e ▸ s.x.lk b ob u hb)
  refine ⟨⟨⟨s.x.mono, s.x.new, fun b u hb pl r => ?_, fun b u hb r => ?_, fun b ob hb hk e => ?_, s.x.cell, s.x.le, s.x.fresh, fun b hb => ?_, fun b ob u e => ?_⟩, ⟨by rw [List.length_set]; exact s.w.n_eq, fun b hb => ?_, fun k y hy => ?_, s.w.inj⟩, ⟨fun j d1 hj => ?_, fun j d1 hj => ?_, s.e.di, s.e.le⟩, s.o⟩, kp⟩
  · rw [upd_ne (bne b hb)]; exact s.x.keep b u hb pl r
  · have := s.x.keepD b u hb r
    rcases this with z | ⟨ob, z⟩
    · exact .inl (by rw [upd_ne (bne b hb)]; exact z)
    · exact .inr ⟨ob, by rw [upd_ne (bne b hb)]; exact z⟩
  · rw [upd_ne (cne b ob e hk)]; exact s.x.own b ob hb hk e
  · by_cases e : b = g.ρ c
    · rw [e, upd_same]; exact fun z => nomatch z
    · rw [upd_ne e]; exact s.x.there b hb
  · rw [upd_ne (lne b ob u e)]; exact s.x.lk b ob u e
  · have ne : b ≠ g.ρ c := fun e => nF (e ▸ hb)
    rw [upd_ne ne]; exact s.w.ft b hb
  · by_cases e : c = k
    · subst e
      rw [List.getElem?_set_self (by rw [← s.w.n_eq]; exact hlt)] at hy
      cases hy
      exact ⟨nF, ht⟩
    · rw [List.getElem?_set_ne e] at hy
      obtain ⟨h1, h2⟩ := s.w.cells k y hy
      have hk : k < g.n := by rw [s.w.n_eq]; exact (List.getElem?_eq_some_iff.mp hy).1
      exact ⟨h1, Top.kw kp.kw (fun ob eo => by rw [upd_ne (fun z => e (s.w.inj c k hlt hk z.symm))]; exact eo) h2⟩
  · obtain ⟨v, h3, h4⟩ := s.e.fr j d1 hj
    exact ⟨v, h3, h4.kp kp⟩
  · obtain ⟨b, hb, ob⟩ := s.e.ow j d1 hj
    exact ⟨b, hb, ob.upd_ne (Ne.symm (ob.nC c hlt)) nF nz⟩
theorem ResOk.ret {r : Res} (s : SOk fa gB HB g H env σ st) (h : ResOk fa g H g' H' v r) : ResOk fa gB HB g' H' v r := h.trans s.x
end
end EV

/-! EV, part P: statements, one rule for each kind. -/
namespace EV
open PySem PySem.Spec PyProof.Rows L2
def fnKind (sc : Scope) : ScopeKind := if sc.kind.isAnnotationScope then .function else sc.kind
def swB (sc : Scope) (x : Str) (p : Pos) (v : Expr) : Bool := match v with
  | .ListComp _ _ s _ | .SetComp _ _ s _ | .DictComp _ _ _ s _ => fnKind sc == .function && sc.names.lookup x == some .local && p.line == v.pos.line && !(s.names.any fun (n, k) => n == x && (k == .local || k == .cell))
  | _ => false
theorem swB_ok {env : PySem.Env} {x : Str} {p : Pos} {v : Expr} {line : Nat} : swapsWith v (some (.Name x p)) line env = pure (swB env.scope x p v) := by
  cases v <;> rfl
def swN (sc : Scope) (ts : List Expr) : List Str := ts.filterMap fun
    | .Name id pos => if sc.names.lookup id == some .local && pos.line == (ts.head?.map (·.pos.line)).getD 0 then some id else none
    | _ => none
def swM (sc : Scope) (ts vs : List Expr) : Option (Option (List Str)) :=
  if (!(ts.length == 2 || ts.length == 3) || vs.length != ts.length || fnKind sc != .function) = true then some none else
  if (vs.any fun | .Starred .. => true | _ => false) = true then some none else
  if ((swN sc ts).length != ts.length || (swN sc ts).eraseDups.length != (swN sc ts).length) = true then some none else
  if vs.all (foldedForSure 8) = true then some none else if vs.all (constantsAlone 8) = true then none else some (some (swN sc ts))
theorem swM_ok {env : PySem.Env} {ts vs : List Expr} {k1 k2 : Nat} {p1 p2 : Pos} {r : Option (List Str)} (h : swM env.scope ts vs = some r) : swappedStores [.Tuple ts k1 p1] (.Tuple vs k2 p2) env = pure r := by
  unfold swM at h
  unfold swappedStores
  show (if (!(ts.length == 2 || ts.length == 3) || vs.length != ts.length || fnKind env.scope != .function) = true then pure none else _) = pure r
  split at h
  · rename_i c1; cases h; rw [if_pos c1]
  · rename_i c1
    rw [if_neg c1]
    show (if (vs.any fun | .Starred .. => true | _ => false) = true then pure none else _) = pure r
    split at h
    · rename_i c2; cases h; rw [if_pos c2]
    · rename_i c2
      rw [if_neg c2]
      show (if ((swN env.scope ts).length != ts.length || (swN env.scope ts).eraseDups.length != (swN env.scope ts).length) = true then pure none else _) = pure r
      split at h
      · rename_i c3; cases h; rw [if_pos c3]
      · rename_i c3
        rw [if_neg c3]
        show (if vs.all (foldedForSure 8) = true then pure none else _) = pure r
        split at h
        · rename_i c4; cases h; rw [if_pos c4]
        · rename_i c4
          rw [if_neg c4]
          show (if vs.all (constantsAlone 8) = true then _ else _) = pure r
          split at h
          · cases h
          · rename_i c5; cases h; rw [if_neg c5]; rfl

def Post (fa : FnA) (gB : G) (HB : Hp) (g : G) (H : Hp) (o : Out) (D : Ends) : Prop := match o.f with
  | .nx => ∀ g' H' σ', SOk fa gB HB g' H' o.env σ' o.st → Kp g H g' H' → D.nx σ' H'
  | .bk => ∀ g' H' σ', SOk fa gB HB g' H' o.env σ' o.st → Kp g H g' H' → D.bk σ' H'
  | .ct => ∀ g' H' σ', SOk fa gB HB g' H' o.env σ' o.st → Kp g H g' H' → D.ct σ' H'
  | .rt d n => ∀ g' H' v, ResOk fa gB HB g' H' v ⟨d, n, o.st⟩ → Kp g H g' H' → D.rt v H'
def tS (fa : FnA) (f : Run Out) : TS := fun D σ H => ∃ gB HB g env st o, SOk fa gB HB g H env σ st ∧ f env st = some o ∧ Post fa gB HB g H o D
theorem Post.kp {fa : FnA} {gB g g1 : G} {HB H H1 : Hp} {o : Out} {D : Ends} (h : Post fa gB HB g H o D) (k : Kp g H g1 H1) : Post fa gB HB g1 H1 o D := by
  unfold Post at h ⊢
  split at h
  · exact fun g' H' σ' s k' => h g' H' σ' s (k.trans k')
  · exact fun g' H' σ' s k' => h g' H' σ' s (k.trans k')
  · exact fun g' H' σ' s k' => h g' H' σ' s (k.trans k')
  · exact fun g' H' v r k' => h g' H' v r (k.trans k')
theorem PSsimp {X : Cx} {e : List Stmt} {t t' : TS} (h : PSs X e t) (i : ∀ D σ H, t' D σ H → t D σ H) : PSs X e t' := ⟨fun pins s σ H D I q => h.run pins s σ H D I (i D σ H q)⟩
section
variable {T : Prog} {fa : FnA} {n : Nat} {c : SC} {X : Cx} {e x y z tg iter : Expr} {pos : Pos} {es : List Expr} {ss ss' : List Stmt} {sm : Stmt}
/-! ### blocks -/
theorem sS_nil : PSs X [] (tS fa fun env st => some ⟨.nx, env, st⟩) := PSsimp pss_nil fun D σ H ⟨gB, HB, g, env, st, o, s, er, q⟩ => by
  cases er
  exact q g H σ s (.refl _ _)
def consS (f h : Run Out) : Run Out := fun env st => match f env st with
    | some ⟨.nx, env1, st1⟩ => h env1 st1
    | o => o
theorem sS_cons {f h : Run Out} (h1 : PS X sm (tS fa f)) (h2 : PSs X ss (tS fa h)) : PSs X (sm :: ss) (tS fa (consS f h)) := PSsimp (pss_cons h1 h2) fun D σ H ⟨gB, HB, g, env, st, o, s, er, q⟩ => by
  unfold consS at er
  cases e1 : f env st with
  | none => rw [e1] at er; cases er
  | some o1 =>
    obtain ⟨fl, env1, st1⟩ := o1
    refine ⟨gB, HB, g, env, st, _, s, e1, ?_⟩
    rw [e1] at er
    cases fl with
    | nx => exact fun g' H' σ' s' k => ⟨gB, HB, g', env1, st1, o, s', er, q.kp k⟩
    | bk => cases er; exact q
    | ct => cases er; exact q
    | rt d m => cases er; exact q
theorem sS_frz {i : Nat} {f : Run Out} (h : PSs X ss (tS fa f)) : PSs X ss (tS fa fun env st => f (frzE env i) st) := PSsimp h fun D σ H ⟨gB, HB, g, env, st, o, s, er, q⟩ => by
  obtain ⟨g', s', k⟩ := s.frz (i := i)
  exact ⟨gB, HB, g', _, st, o, s', er, q.kp k⟩
/-! ### small ones -/
theorem sS_pass : PS X (.Pass pos) (tS fa fun env st => some ⟨.nx, env, st⟩) := PSimp ps_pass fun D σ H ⟨gB, HB, g, env, st, o, s, er, q⟩ => by cases er; exact q g H σ s (.refl _ _)
theorem sS_doc {s : Str} {j : Nat} {p : Pos} : PS X (.Expr (.Constant (.str s) j p) pos) (tS fa fun env st => some ⟨.nx, env, st⟩) := PSimp ps_doc fun D σ H ⟨gB, HB, g, env, st, o, s, er, q⟩ => by cases er; exact q g H σ s (.refl _ _)
theorem sS_brk : PS X (.Break pos) (tS fa fun env st => some ⟨.bk, env, st⟩) := PSimp ps_break fun D σ H ⟨gB, HB, g, env, st, o, s, er, q⟩ => by cases er; exact q g H σ s (.refl _ _)
theorem sS_cnt : PS X (.Continue pos) (tS fa fun env st => some ⟨.ct, env, st⟩) := PSimp ps_continue fun D σ H ⟨gB, HB, g, env, st, o, s, er, q⟩ => by cases er; exact q g H σ s (.refl _ _)
theorem sS_rai : PS X sm (tS fa fun _ _ => none) := PSimp ps_never fun D σ H ⟨gB, HB, g, env, st, o, s, er, q⟩ => nomatch er
theorem sS_retN : PS X (.Return none pos) (tS fa fun env st => some ⟨.rt .non false, env, st⟩) := PSimp ps_retN fun D σ H ⟨gB, HB, g, env, st, o, s, er, q⟩ => by cases er; exact q g H .non ((res_old s.w .non).trans s.x) (.refl _ _)
theorem sS_ret {f : Run Res} (h : PE X e (tE fa f)) : PS X (.Return (some e) pos) (tS fa fun env st => match f env st with
      | some r => some ⟨.rt r.d r.nw, env, r.st⟩
      | none => none) := PSimp (ps_ret h) fun D σ H ⟨gB, HB, g, env, st, o, s, er, q⟩ => by
  dsimp only at er
  split at er
  · rename_i r e1
    cases er
    exact ⟨g, env, st, r, s.w, s.e, e1, fun g' H' v ro => q g' H' v (ro.trans s.x) ro.ext.kp⟩
  · cases er
theorem sS_retV (k : Cok T fa n c X) {i : Nat} (h : slotB c i e = true) : PS X (.Return (some e) pos) (tS fa fun env st => match env[i]? with
      | some (.ow d) => some ⟨.rt d true, env, st⟩
      | some (.fr d) => some ⟨.rt d false, env, st⟩
      | _ => none) := PSimp (ps_ret (slot_ok k h)) fun D σ H ⟨gB, HB, g, env, st, o, s, er, q⟩ => by
  dsimp only at er
  split at er
  · rename_i d hd
    cases er
    obtain ⟨a, ha, ow⟩ := s.e.ow i d hd
    exact ⟨.ref a, ha, q g H _ ⟨s.x, s.w, by rw [if_pos rfl]; exact ⟨a, rfl, s.o i d a hd ha, ow⟩⟩ (.refl _ _)⟩
  · rename_i d hd
    cases er
    obtain ⟨v, hv, r⟩ := s.e.fr i d hd
    exact ⟨v, hv, q g H v ((res_old s.w r).trans s.x) (.refl _ _)⟩
  · cases er
theorem sS_exp {f : Run Res} (h : PE X e (tE fa f)) (hc : swapsWith e none pos.line X.env = pure false) : PS X (.Expr e pos) (tS fa fun env st => match f env st with
    | some r => some ⟨.nx, env, r.st⟩
    | none => none) := PSimp (ps_expr h hc) fun D σ H ⟨gB, HB, g, env, st, o, s, er, q⟩ => by
  dsimp only at er
  split at er
  · rename_i r e1
    cases er
    exact ⟨g, env, st, r, s.w, s.e, e1, fun g' H' v ro => q g' H' σ (s.after ro.ext ro.wok) ro.ext.kp⟩
  · cases er
/-! ### name = value -/
def asgR (i : Nat) (f : Run Res) : Run Out := fun env st => match f env st with
    | some r => some ⟨.nx, env.set i (Sl.of r), r.st⟩
    | none => none
theorem asg_read {i : Nat} {f : Run Res} {D : Ends} {σ : L2.St} {H : Hp} (h : tS fa (asgR i f) D σ H) : tE fa f σ H fun v H' => D.nx (σ.set i (some v)) H' := by
  obtain ⟨gB, HB, g, env, st, o, s, er, q⟩ := h
  unfold asgR at er
  split at er
  · rename_i r e1
    cases er
    exact ⟨g, env, st, r, s.w, s.e, e1, fun g' H' v ro => q g' H' _ (s.asg ro) ro.ext.kp⟩
  · cases er
theorem sS_asg (k : Cok T fa n c X) {i : Nat} {s : Str} {p : Pos} {f : Run Res} (h : PE X e (tE fa f)) (ht : tslotB c i (.Name s p) = true) (hs : swapsWith e (some (.Name s p)) pos.line X.env = pure false) : PS X (.Assign [.Name s p] e pos) (tS fa (asgR i f)) := by
  simp only [tslotB, Bool.and_eq_true, decide_eq_true_eq] at ht
  obtain ⟨⟨h1, h2⟩, h3⟩ := ht
  obtain ⟨l1, l2⟩ := k.loc h2
  exact PSimp (ps_set k.nd (by rw [k.N]; exact h1) l1 h hs l2) fun D σ H q => asg_read q
theorem sS_setLc (k : Cok T fa n c X) {i : Nat} {s : Str} {p lp : Pos} {ifs : List Expr} {f : Run (Src × Store)} {own : List Nat} {t : Tg} {cond : Run (Bool × Store)} {ef : Run Res} {scope : Scope} (hN : c.N[i]? = some s) (hl : c.sc.names.lookup s = some .local)
    (hsw : swapsWith (.ListComp x [⟨tg, iter, ifs, 0⟩] scope lp) (some (.Name s p)) pos.line X.env = pure true) (hb : blkC c.N c.sc scope (ownP c own) = true) (ho : ∀ i ∈ tgSlots t, i ∈ own) (hp : plB iter = true)
    (hi : PI X tg iter (tI fa f)) (ht : t.chk (blkSC c scope) tg = true) (hc : ∀ X', Cok T fa n (blkSC c scope) X' → PTs X' ifs (tC fa cond)) (he : ∀ X', Cok T fa n (blkSC c scope) X' → Snd fa X' x ef) :
    PS X (.Assign [.Name s p] (.ListComp x [⟨tg, iter, ifs, 0⟩] scope lp) pos) (tS fa (asgR i (lcR f own t cond ef))) := by
  have ok : BlkOk X.N X.env.scope scope (ownP c own) := by rw [k.N, k.sc]; exact blkOk_by hb
  have z := ps_setLc (te := tF fa ef) (tt := tC fa cond) (g := tG fa t) k.calm k.nd (by rw [k.N]; exact hN) (by rw [k.sc]; exact hl) hsw hi ok (fun s H C cl fp => snd_tg (k.blk s H scope C cl fp) ht) (fun s H C cl fp => hc _ (k.blk s H scope C cl fp)) (fun s H C cl fp => pe_tF (he _ (k.blk s H scope C cl fp)).pe) (folded_ok hp)
  rw [ownP_snd] at z
  exact PSimp z fun D σ H h => lc_read ho (asg_read h)
theorem sS_setLc2 (k : Cok T fa n c X) {i : Nat} {s : Str} {p lp : Pos} {ifs ifs1 : List Expr} {tg1 iter1 : Expr} {f jt : Run (Src × Store)} {own : List Nat} {t u : Tg} {cond cond2 : Run (Bool × Store)} {ef : Run Res} {scope : Scope} (hN : c.N[i]? = some s) (hl : c.sc.names.lookup s = some .local)
    (hsw : swapsWith (.ListComp x [⟨tg, iter, ifs, 0⟩, ⟨tg1, iter1, ifs1, 0⟩] scope lp) (some (.Name s p)) pos.line X.env = pure true) (hb : blkC c.N c.sc scope (ownP c own) = true) (ho : ∀ i ∈ tgSlots t, i ∈ own) (hu : ∀ i ∈ tgSlots u, i ∈ own) (hp : plB iter = true) (hp1 : plB iter1 = true)
    (hi : PI X tg iter (tI fa f)) (ht : t.chk (blkSC c scope) tg = true) (hc : ∀ X', Cok T fa n (blkSC c scope) X' → PTs X' ifs (tC fa cond))
    (hi1 : ∀ X', Cok T fa n (blkSC c scope) X' → PI X' tg1 iter1 (tI fa jt)) (hut : u.chk (blkSC c scope) tg1 = true) (hc1 : ∀ X', Cok T fa n (blkSC c scope) X' → PTs X' ifs1 (tC fa cond2)) (he : ∀ X', Cok T fa n (blkSC c scope) X' → Snd fa X' x ef) :
    PS X (.Assign [.Name s p] (.ListComp x [⟨tg, iter, ifs, 0⟩, ⟨tg1, iter1, ifs1, 0⟩] scope lp) pos) (tS fa (asgR i (lc2R f own t cond u jt cond2 ef))) := by
  have ok : BlkOk X.N X.env.scope scope (ownP c own) := by rw [k.N, k.sc]; exact blkOk_by hb
  have z := ps_setLc2 (te := tF fa ef) (tt := tC fa cond) (g := tG fa t) (wi1 := tI fa jt) (g1 := tG fa u) (tt1 := tC fa cond2) (vs1 := tgSlots u) k.calm k.nd (by rw [k.N]; exact hN) (by rw [k.sc]; exact hl) hsw hi ok (by rw [ownP_snd]; exact hu) (fun s H C cl fp => snd_tg (k.blk s H scope C cl fp) ht) (fun s H C cl fp => hc _ (k.blk s H scope C cl fp))
    (fun s H C cl fp => hi1 _ (k.blk s H scope C cl fp)) (fun s H C cl fp => snd_tg (k.blk s H scope C cl fp) hut) (fun s H C cl fp => hc1 _ (k.blk s H scope C cl fp)) (fun s H C cl fp => pe_tF (he _ (k.blk s H scope C cl fp)).pe) (folded_ok hp) (fun env => folded_ok hp1)
  rw [ownP_snd] at z
  exact PSimp z fun D σ H h => lc2_read ho (asg_read h)
/-! ### several names -/
theorem setsV_snoc : ∀ (is : List Nat) (xs : List V) (σ : L2.St) (i : Nat) (x : V), is.length = xs.length → setsV (is ++ [i]) (xs ++ [x]) σ = (setsV is xs σ).set i (some x)
  | [], [], _, _, _, _ => by simp [setsV]
  | [], _ :: _, _, _, _, h => by simp at h
  | _ :: _, [], _, _, _, h => by simp at h
  | j :: is, y :: xs, σ, i, x, h => by
    simp only [List.cons_append, setsV]
    exact setsV_snoc is xs _ i x (by simpa using h)
theorem setsV_set : ∀ (is : List Nat) (xs : List V) (σ : L2.St) (i : Nat) (x : V), i ∉ is → (setsV is xs σ).set i (some x) = setsV is xs (σ.set i (some x))
  | [], _, _, _, _, _ => by simp [setsV]
  | _ :: _, [], _, _, _, _ => by simp [setsV]
  | j :: is, y :: xs, σ, i, x, h => by
    simp only [List.mem_cons, not_or] at h
    simp only [setsV]
    rw [setsV_set is xs _ i x h.2, List.set_comm _ _ (Ne.symm h.1)]
theorem setsV_rev : ∀ (is : List Nat) (xs : List V) (σ : L2.St), is.length = xs.length → is.Nodup → setsV is.reverse xs.reverse σ = setsV is xs σ
  | [], [], _, _, _ => rfl
  | [], _ :: _, _, h, _ => by simp at h
  | _ :: _, [], _, h, _ => by simp at h
  | i :: is, x :: xs, σ, h, nd => by
    have h' : is.length = xs.length := by simpa using h
    rw [List.nodup_cons] at nd
    rw [List.reverse_cons, List.reverse_cons, setsV_snoc _ _ _ _ _ (by simpa using h'), setsV_rev is xs σ h' nd.2, setsV_set is xs σ i x nd.1]
    rfl
theorem assign_names {E : Value → Shared → Prop} {pins : List (Addr × Obj)} {H : Hp} {Q : Unit → Shared → Prop} {M : Model} {A : Around} (nd : X.N.Nodup) : ∀ {is : List Nat} {ns : List Str} {xs : List V} {us : List Value} {σ : L2.St} {s : Shared}, Inv X pins σ H s → (∀ (j i : Nat) (s : Str), is[j]? = some i → ns[j]? = some s → X.N[i]? = some s ∧ X.env.scope.names.lookup s = some .local) →
    ns.length = is.length → xs.length = is.length → Vals xs us → (∀ s', Inv X pins (setsV is xs σ) H s' → Q () s') → wpAny M A (assignInOrder (ns.map fun m => bindName X.env m) us) Q E s
  | [], [], [], _, σ, s, I, _, _, _, r, q => by
    cases r
    exact assignInOrder_nil (q s (by unfold setsV; exact I))
  | i :: is, m :: ns, v :: xs, _, σ, s, I, hN, h1, h2, r, q => by
    cases r with
    | cons rv rr =>
      obtain ⟨a1, a2⟩ := hN 0 i m rfl rfl
      refine assignInOrder_cons (wpAny_bindName (store_ok I nd a1 (.inl a2) rv (fun s1 I1 => ?_) (.inr a2)))
      exact assign_names nd I1 (fun j i s hj hs => hN (j + 1) i s (by simpa using hj) (by simpa using hs)) (by simpa using h1) (by simpa using h2) rr fun s' I' => q s' (by unfold setsV; exact I')
  | [], _ :: _, _, _, _, _, _, _, h, _, _, _ => by simp at h
  | [], [], _ :: _, _, _, _, _, _, _, h, _, _ => by simp at h
  | _ :: _, [], _, _, _, _, _, _, h, _, _, _ => by simp at h
  | _ :: _, _ :: _, [], _, _, _, _, _, _, h, _, _ => by simp at h
theorem ps_parN (k : Cok T fa n c X) {is : List Nat} {ns : List Str} {ts vs : List Expr} {ta : TA} {kt k2 : Nat} {pt pt2 : Pos} (hl : ns.length = is.length) (hN : ∀ (j i : Nat) (s : Str), is[j]? = some i → ns[j]? = some s → X.N[i]? = some s ∧ X.env.scope.names.lookup s = some .local) (ha : PA X vs ta)
    (hw : swappedStores [.Tuple ts kt pt] (.Tuple vs k2 pt2) X.env = pure (some ns)) (hz : is.length ≤ 1000) : PS X (.Assign [.Tuple ts kt pt] (.Tuple vs k2 pt2) pos) (fun D σ H => ta σ H fun xs H1 => xs.length = is.length ∧ D.nx (setsV is.reverse xs.reverse σ) H1) := by
  refine ⟨fun pins s σ H D I h => ?_⟩
  rw [exec_Assign_arm]
  have hs : swapsWithSole [.Tuple ts kt pt] (.Tuple vs k2 pt2) pos.line X.env = pure false := rfl
  rw [hs, hw]
  refine wpAny_bind (wpAny_standAt (wpAny_bind (wpAny_pure ?_)))
  rw [if_neg (by decide)]
  refine wpAny_bind (Tuple_ (thn (ha.run _ pins s σ H _ I h) fun us s1 ⟨xs, H1, I1, r1, hx, q1⟩ => ?_))
  have hu : us.length = ns.length := by rw [← r1.length, hx, hl]
  refine wpAny_newObj_type ?_ (by show us.toArray.size ≤ sizeLine; rw [List.size_toArray, hu, hl]; exact Nat.le_trans hz (by decide))
  refine wpAny_bind (wpAny_pure ?_)
  unfold assignStores
  have hsz : ns.length = us.toArray.size := by rw [List.size_toArray, hu]
  dsimp only
  rw [hsz]
  refine wpAny_bind (wpAny_rule (wpAny_bind (unpackItems_tuple (I.ok.hd k.calm) (IsTup.new s1.heap _) fun h' hx' => ?_)))
  have I3 : Inv X pins σ H1 { s1 with heap := h' } := (I1.kept (t' := s1.toks) (h' := s1.heap.push { cls := .type "tuple", data := .seq us.toArray }) fun b o e => Heap.get?_push_of_some _ e).kept (h' := h') (t' := s1.toks) fun b o e => hx' b o (Nat.ne_of_lt (Heap.lt_size e)) e
  refine wpAny_bind ?_
  have rr : Vals xs.reverse us.toArray.toList.reverse := by
    have rev : ∀ {xs : List V} {us : List Value}, Vals xs us → Vals xs.reverse us.reverse := by
      intro xs us r
      induction r with
      | nil => exact .nil
      | cons a b ih => rw [List.reverse_cons, List.reverse_cons]; exact ih.append (.cons a .nil)
    simpa using rev r1
  refine assign_names k.nd I3 (fun j i s hj hs => ?_) (by simpa using hl) (by simpa using hx) rr fun s' I' => wpAny_pure ⟨_, H1, I', q1⟩
  have hj' : j < is.length := by simpa using (List.getElem?_eq_some_iff.mp hj).1
  rw [List.getElem?_reverse hj'] at hj
  rw [List.getElem?_reverse (by rw [hl]; exact hj'), hl] at hs
  exact hN _ i s hj hs
def tR (P : Pg) (fa : FnA) : Es → TA
  | .nil => tNil
  | .cons e r => tCons (tE fa (e.ev P)) (tR P fa r)
theorem each_paR {P : Pg} : ∀ {es : Es} {xs : List Expr}, EachOk fa c X P es xs → PA X xs (tR P fa es)
  | .nil, [], _ => pa_nil
  | .cons e r, x :: xs, h => pa_cons h.1.2.1.pe (each_paR h.2) (star_cons h.1.2.2)
  | .nil, _ :: _, h => h.elim
  | .cons _ _, [], h => h.elim
theorem evR_read {P : Pg} {gB : G} {HB : Hp} {env env2 : EV.Env} {σ : L2.St} {st2 : Store} : ∀ {es : Es} {is : List Nat} {env1 : EV.Env} {σ1 : L2.St} {g : G} {H : Hp} {st : Store} {rs : List Res} {Q : List V → Hp → Prop}, SOk fa gB HB g H env1 σ1 st → EnvOk fa g H env σ → es.evR P env st = some (rs, st2) → setAll is rs env1 = some env2 →
    (∀ g' H' vs, vs.length = is.length → Kp g H g' H' → SOk fa gB HB g' H' env2 (setsV is vs σ1) st2 → Q vs H') → tR P fa es σ H Q
  | .nil, is, env1, σ1, g, H, st, rs, Q, s, eo, e, b, q => by
    simp only [Es.evR] at e
    cases e
    cases is with
    | nil => cases b; exact q g H [] rfl (.refl _ _) (by unfold setsV; exact s)
    | cons _ _ => simp [setAll] at b
  | .cons e r, is, env1, σ1, g, H, st, rs, Q, s, eo, er, b, q => by
    simp only [Es.evR] at er
    split at er
    · cases er
    · rename_i x e1
      split at er
      · cases er
      · rename_i ds st3 e2
        cases er
        cases is with
        | nil => simp [setAll] at b
        | cons i is =>
          simp only [setAll] at b
          refine ⟨g, env, st, x, s.w, eo, e1, fun g1 H1 v ro => ?_⟩
          exact evR_read (s.asg (i := i) ro) (eo.mono ro.ext) e2 b fun g' H' vs hl kp s' => q g' H' (v :: vs) (by simp [hl]) (ro.ext.kp.trans kp) (by unfold setsV; exact s')
def asgTR (is : List Nat) (f : Run (List Res × Store)) : Run Out := fun env st => match f env st with
    | some (rs, st1) => match setAll is rs env with
      | some env1 => some ⟨.nx, env1, st1⟩
      | none => none
    | none => none
theorem asgT_read {P : Pg} {is : List Nat} {es : Es} {D : Ends} {σ : L2.St} {H : Hp} (h : tS fa (asgTR is (es.evR P)) D σ H) : tR P fa es σ H fun vs H1 => vs.length = is.length ∧ D.nx (setsV is vs σ) H1 := by
  obtain ⟨gB, HB, g, env, st, o, s, er, q⟩ := h
  unfold asgTR at er
  split at er
  · rename_i rs st1 e1
    split at er
    · rename_i env1 e2
      cases er
      exact evR_read s s.e e1 e2 fun g' H' vs hl kp s' => ⟨hl, q g' H' _ s' kp⟩
    · cases er
  · cases er
theorem tR_mono {P : Pg} {σ : L2.St} : ∀ {es : Es} {H : Hp} {Q Q' : List V → Hp → Prop}, tR P fa es σ H Q → (∀ vs H1, Q vs H1 → Q' vs H1) → tR P fa es σ H Q'
  | .nil, _, _, _, h, i => i _ _ h
  | .cons e r, H, Q, Q', ⟨g, env, st, x, w, eo, er, q⟩, i => ⟨g, env, st, x, w, eo, er, fun g' H' v ro => tR_mono (q g' H' v ro) fun vs H1 z => i _ _ z⟩
theorem sS_par (k : Cok T fa n c X) {P : Pg} {is : List Nat} {ns : List Str} {ts vs : List Expr} {ies : Es} {kt k2 : Nat} {pt pt2 : Pos} (nd : is.Nodup) (hl : ns.length = is.length) (hN : ∀ (j i : Nat) (s : Str), is[j]? = some i → ns[j]? = some s → c.N[i]? = some s ∧ c.sc.names.lookup s = some .local) (ha : EachOk fa c X P ies vs)
    (hw : swM c.sc ts vs = some (some ns)) (hz : is.length ≤ 1000) : PS X (.Assign [.Tuple ts kt pt] (.Tuple vs k2 pt2) pos) (tS fa (asgTR is (ies.evR P))) :=
  PSimp (ps_parN k hl (by rw [k.N, k.sc]; exact hN) (each_paR ha) (swM_ok (by rw [k.sc]; exact hw)) hz) fun D σ H h => tR_mono (asgT_read h) fun vs H1 ⟨h1, h2⟩ => ⟨h1, by rw [setsV_rev _ _ _ h1.symm nd]; exact h2⟩
theorem sS_tup (k : Cok T fa n c X) {P : Pg} {is : List Nat} {ts vs : List Expr} {ies : Es} {kt k2 : Nat} {pt pt2 : Pos} (ht : tslotsB c is ts = true) (ha : EachOk fa c X P ies vs) (hz : is.length ≤ 1000)
    (hw : swM c.sc ts vs = some none) : PS X (.Assign [.Tuple ts kt pt] (.Tuple vs k2 pt2) pos) (tS fa (asgTR is (ies.evR P))) := by
  obtain ⟨ps, l, f⟩ := tslots_pg k ht
  refine PSimp (ps_asg (pe_tup (each_paR ha)) (pg_tup k.calm ps l f) rfl (swM_ok (by rw [k.sc]; exact hw)) rfl) fun D σ H ⟨gB, HB, g, env, st, o, s, er, q⟩ => ?_
  unfold asgTR at er
  split at er
  · rename_i rs st1 e1
    split at er
    · rename_i env1 e2
      cases er
      exact evR_read s s.e e1 e2 fun g' H' vs h1 kp s' => ⟨by rw [h1]; exact Nat.le_trans hz (by decide), fun p hp => ⟨p, vs, rfl, SqT.of upd_same, h1, gNames_sets is vs σ h1 (q g' _ _ (s'.after (ext_new s'.w hp) (wok_new s'.w hp)) (kp.trans (ext_new s'.w hp).kp))⟩⟩
    · cases er
  · cases er
end
end EV

/-! EV, part Q: statements, the rest; every statement. -/
namespace EV
open PySem PySem.Spec PyProof.Rows L2
section
variable {T : Prog} {fa : FnA} {n : Nat} {c : SC} {X : Cx} {e x y z tg iter : Expr} {pos : Pos} {es : List Expr} {ss ss' : List Stmt} {sm : Stmt}
theorem SOk.bind {gB g : G} {HB H : Hp} {env env2 : EV.Env} {σ σ2 : L2.St} {st : Store} (s : SOk fa gB HB g H env σ st) (he : EnvOk fa g H env2 σ2) (ho : ∀ (i : Nat) (d : D), env2[i]? = some (Sl.ow d) → env[i]? = some (Sl.ow d) ∧ σ2[i]? = σ[i]?) : SOk fa gB HB g H env2 σ2 st :=
  ⟨s.x, s.w, he, fun i d a hi ha => by
    obtain ⟨h1, h2⟩ := ho i d hi
    rw [h2] at ha
    exact s.o i d a h1 ha⟩
def unpR (is : List Nat) (f : Run Res) : Run Out := fun env st => match f env st with
    | some r => match bindT (.tup is) r.d env with
      | some env1 => some ⟨.nx, env1, r.st⟩
      | none => none
    | none => none
theorem sS_unp (k : Cok T fa n c X) {is : List Nat} {ts : List Expr} {kt : Nat} {pt : Pos} {f : Run Res} (ht : tslotsB c is ts = true) (h : PE X e (tE fa f)) (hs : swapsWithSole [.Tuple ts kt pt] e pos.line X.env = pure false) (hw : swappedStores [.Tuple ts kt pt] e X.env = pure none) :
    PS X (.Assign [.Tuple ts kt pt] e pos) (tS fa (unpR is f)) :=
  PSimp (ps_asg (pe_tF h) (snd_tg k (t := .tup is) (by simp only [Tg.chk]; exact ht)) hs hw rfl) fun D σ H ⟨gB, HB, g, env, st, o, s, er, q⟩ => by
    unfold unpR at er
    split at er
    · rename_i r e1
      split at er
      · rename_i env1 e2
        cases er
        exact ⟨g, env, st, r, s.w, s.e, e1, fun g' H' v x' w' R => ⟨g', r.d, env, env1, R, e2, fun σ2 he _ ho => q g' H' σ2 ((s.after x' w').bind (he g' H' (.refl _ _) (s.e.mono x')) ho) x'.kp⟩⟩
      · cases er
    · cases er

/-! ### an item is set -/
def setIR (k : Nat) (f h : Run Res) : Run Out := fun env st => match f env st with
    | some r => match h env r.st with
      | some y => match setD k y.d r.d env y.st with
        | some (env1, st1) => some ⟨.nx, env1, st1⟩
        | none => none
      | none => none
    | none => none
theorem slotV {g : G} {H : Hp} {env : EV.Env} {σ : L2.St} {i : Nat} {d : D} (e : EnvOk fa g H env σ) (h : env[i]? = some (.fr d) ∨ env[i]? = some (.ow d)) : ∃ v, σ[i]? = some (some v) := by
  rcases h with h | h
  · obtain ⟨v, h1, _⟩ := e.fr i d h; exact ⟨v, h1⟩
  · obtain ⟨v, h1, _⟩ := e.ow i d h; exact ⟨_, h1⟩
theorem sS_setI (k : Cok T fa n c X) {kk : Nat} {s : Str} {p pt : Pos} {f h : Run Res} (hk : slotB c kk (.Name s p) = true) (hv : PE X e (tE fa f)) (hi : PE X x (tE fa h)) (hp : plB x = true)
    (ha : ∀ v, assign (.Subscript (.Name s p) x pt) X.env v = (do
      let ov ← holding [v] (eval (.Name s p) X.env)
      let iv ← holding [v, ov] (eval x X.env)
      standAt pt
      holding [v, ov, iv] (setItem ov iv v)
      release [v, ov, iv] []))
    (hs : swapsWith e (some (.Subscript (.Name s p) x pt)) pos.line X.env = pure false) :
    PS X (.Assign [.Subscript (.Name s p) x pt] e pos) (tS fa (setIR kk f h)) := by
  refine PSimp (PSor (ps_asg (pe_tF hv) (pg_sub (slot_ok k hk) (pe_tF hi) set_list ha) hs rfl rfl) (ps_dput (by have := k.units; omega) (slot_ok k hk) (pe_tF hi) (pe_tF hv) hs)) fun D σ H ⟨gB, HB, g, env, st, o, so, er, q⟩ => ?_
  unfold setIR at er
  split at er
  · rename_i r e1
    split at er
    · rename_i y e2
      split at er
      · rename_i env1 st1 e3
        cases er
        unfold setD at e3
        split at e3
        · -- an own list
          rename_i xs hx
          split at e3
          · rename_i j ey
            split at e3
            · rename_i m em
              cases e3
              obtain ⟨a, hA, _⟩ := so.e.ow kk _ hx
              refine .inl ⟨g, env, st, r, so.w, so.e, e1, fun g1 H1 v x1 w1 R1 => ⟨.ref a, hA, g1, env, r.st, y, w1, so.e.mono x1, e2, fun g2 H2 v2 x2 w2 R2 => ?_⟩⟩
              rw [ey] at R2
              cases R2
              have s2 := so.after (x1.trans x2) w2
              obtain ⟨a', hA', ow⟩ := s2.e.ow kk _ hx
              rw [hA] at hA'; cases hA'
              obtain ⟨vs, t1, t2⟩ := ow.top
              have hm : ixN vs.length j = some m := by rw [t2.length]; exact em
              have kp := kp_upd (o := .lst (vs.set m v)) ow.nF ow.nfrz
              obtain ⟨s3, k3⟩ := s2.setOw (o := .lst (vs.set m v)) (d' := .lst (xs.set m r.d)) hx hA ⟨vs.set m v, upd_same, Reps.kw kp.kw _ _ (t2.set m (R1.mono x2))⟩
              exact ⟨a, vs, j, m, rfl, rfl, t1, hm, q g2 _ σ s3 ((x1.trans x2).kp.trans k3)⟩
            · cases e3
          · cases e3
        · -- an own dict
          rename_i ks hx
          split at e3
          · rename_i kx ek
            split at e3
            · rename_i hl
              cases e3
              obtain ⟨a, hA, _⟩ := so.e.ow kk _ hx
              refine .inr ⟨g, env, st, r, so.w, so.e, e1, fun g1 H1 v x1 w1 R1 => ⟨.ref a, hA, g1, env, r.st, y, w1, so.e.mono x1, e2, fun g2 H2 v2 x2 w2 R2 => ?_⟩⟩
              have s2 := so.after (x1.trans x2) w2
              obtain ⟨a', hA', ow⟩ := s2.e.ow kk _ hx
              rw [hA] at hA'; cases hA'
              obtain ⟨vs, t1, t2⟩ := ow.top
              have ky : v2 = kV kx := keyD_view (.inl R2) ek
              subst ky
              have kp := kp_upd (o := .dK (putK vs kx v)) ow.nF ow.nfrz
              obtain ⟨s3, k3⟩ := s2.setOw (o := .dK (putK vs kx v)) (d' := .dct (putD ks kx r.d)) hx hA ⟨putK vs kx v, upd_same, RepK.kw kp.kw _ _ (t2.put (R1.mono x2))⟩
              exact ⟨a, _, rfl, .inl ⟨vs, kx, t1, rfl, by rw [t2.length]; exact hl, rfl⟩, q g2 _ σ s3 ((x1.trans x2).kp.trans k3)⟩
            · cases e3
          · cases e3
        · -- a cell
          rename_i cc hx
          split at e3
          · rename_i xs hc
            split at e3
            · rename_i j ey
              split at e3
              · rename_i m em
                cases e3
                obtain ⟨v0, hA, rc⟩ := so.e.fr kk _ hx
                refine .inl ⟨g, env, st, r, so.w, so.e, e1, fun g1 H1 v x1 w1 R1 => ⟨v0, hA, g1, env, r.st, y, w1, so.e.mono x1, e2, fun g2 H2 v2 x2 w2 R2 => ?_⟩⟩
                rw [ey] at R2
                cases R2
                have s2 := so.after (x1.trans x2) w2
                obtain ⟨v0', hA', rc'⟩ := s2.e.fr kk _ hx
                rw [hA] at hA'; cases hA'
                cases rc' with
                | cell hcn =>
                  obtain ⟨nF, vs, t1, t2⟩ := s2.w.cells cc _ hc
                  have hm : ixN vs.length j = some m := by rw [t2.length]; exact em
                  have kp := kp_upd (o := .lst (vs.set m v)) nF (cell_nfrz s2.w hc)
                  obtain ⟨s3, k3⟩ := s2.setCell (o := .lst (vs.set m v)) (x' := .lst (xs.set m r.d)) hc ⟨vs.set m v, upd_same, Reps.kw kp.kw _ _ (t2.set m (R1.mono x2))⟩
                  exact ⟨_, vs, j, m, rfl, rfl, t1, hm, q g2 _ σ s3 ((x1.trans x2).kp.trans k3)⟩
              · cases e3
            · cases e3
          · rename_i ks hc
            split at e3
            · rename_i kx ek
              split at e3
              · rename_i hl
                cases e3
                obtain ⟨v0, hA, rc⟩ := so.e.fr kk _ hx
                refine .inr ⟨g, env, st, r, so.w, so.e, e1, fun g1 H1 v x1 w1 R1 => ⟨v0, hA, g1, env, r.st, y, w1, so.e.mono x1, e2, fun g2 H2 v2 x2 w2 R2 => ?_⟩⟩
                have s2 := so.after (x1.trans x2) w2
                obtain ⟨v0', hA', rc'⟩ := s2.e.fr kk _ hx
                rw [hA] at hA'; cases hA'
                have ky : v2 = kV kx := keyD_view (.inl R2) ek
                subst ky
                cases rc' with
                | cell hcn =>
                  obtain ⟨nF, vs, t1, t2⟩ := s2.w.cells cc _ hc
                  have kp := kp_upd (o := .dK (putK vs kx v)) nF (cell_nfrz s2.w hc)
                  obtain ⟨s3, k3⟩ := s2.setCell (o := .dK (putK vs kx v)) (x' := .dct (putD ks kx r.d)) hc ⟨putK vs kx v, upd_same, RepK.kw kp.kw _ _ (t2.put (R1.mono x2))⟩
                  exact ⟨_, _, rfl, .inl ⟨vs, kx, t1, rfl, by rw [t2.length]; exact hl, rfl⟩, q g2 _ σ s3 ((x1.trans x2).kp.trans k3)⟩
              · cases e3
            · cases e3
          · cases e3
        · cases e3
      · cases er
    · cases er
  · cases er

/-! ### append -/
def appR (k : Nat) (f : Run Res) : Run Out := fun env st => match f env st with
    | some r => match env[k]? with
      | some (.ow (.lst xs)) => if xs.length < LIM then some ⟨.nx, env.set k (.ow (.lst (xs ++ [r.d]))), r.st⟩ else none
      | some (.fr (.cell c)) => match st[c]?, r.st[c]? with
        | some (.lst _), some (.lst xs) => if xs.length < LIM then some ⟨.nx, env, r.st.set c (.lst (xs ++ [r.d]))⟩ else none
        | _, _ => none
      | _ => none
    | none => none
theorem mtr_append : MtR X "list.append" rAppend := mt_append
theorem sS_app (k : Cok T fa n c X) {kk : Nat} {s : Str} {p q p2 : Pos} {f : Run Res} (hk : slotB c kk (.Name s p) = true) (hl : (q.endLine == p2.line) = true) (hp : plB x = true) (h : PE X x (tE fa f)) :
    PS X (.Expr (.Call (.Attribute (.Name s p) "append" q) [x] [] p2) pos) (tS fa (appR kk f)) :=
  PSimp (ps_expr (pe_bm (T := "list") PySem.F.plainAttrs_list PySem.F.slot_list_append PySem.F.type_list_append mtr_append (slot_ok k hk) (pa_cons (pe_tF h) pa_nil (star_cons hp)) rfl (by rw [star_cons hp]; rfl) hl (star_cons hp) rfl) rfl) fun D σ H ⟨gB, HB, g, env, st, o, so, er, qq⟩ => by
    unfold appR at er
    split at er
    · rename_i r e1
      split at er
      · rename_i xs hx
        split at er
        · rename_i hlen
          cases er
          obtain ⟨a, hA, ow0⟩ := so.e.ow kk _ hx
          obtain ⟨vs0, t0, _⟩ := ow0.top
          refine ⟨.ref a, hA, .inl ⟨rfl, vs0, SqL.of t0⟩, g, env, st, r, so.w, so.e, e1, fun g1 H1 v x1 w1 R1 => ?_⟩
          have s2 := so.after x1 w1
          obtain ⟨a', hA', ow⟩ := s2.e.ow kk _ hx
          rw [hA] at hA'; cases hA'
          obtain ⟨vs, t1, t2⟩ := ow.top
          have kp := kp_upd (o := .lst (vs ++ [v])) ow.nF ow.nfrz
          obtain ⟨s3, k3⟩ := s2.setOw (o := .lst (vs ++ [v])) (d' := .lst (xs ++ [r.d])) hx hA ⟨vs ++ [v], upd_same, Reps.kw kp.kw _ _ (t2.append (.cons R1 .nil))⟩
          exact ⟨a, vs, v, rfl, rfl, t1, by rw [t2.length]; exact hlen, qq g1 _ σ s3 (x1.kp.trans k3)⟩
        · cases er
      · rename_i cc hx
        split at er
        · rename_i ys xs hc0 hc
          split at er
          · rename_i hlen
            cases er
            obtain ⟨v0, hA, rc⟩ := so.e.fr kk _ hx
            cases rc with
            | cell hcn =>
              obtain ⟨_, vs0, t0, _⟩ := so.w.cells cc _ hc0
              refine ⟨_, hA, .inl ⟨rfl, vs0, SqL.of t0⟩, g, env, st, r, so.w, so.e, e1, fun g1 H1 v x1 w1 R1 => ?_⟩
              have s2 := so.after x1 w1
              obtain ⟨nF, vs, t1, t2⟩ := s2.w.cells cc _ hc
              rw [x1.cell cc hcn] at t1 nF
              have kp := kp_upd (o := .lst (vs ++ [v])) nF (by have := cell_nfrz s2.w hc; rw [x1.cell cc hcn] at this; exact this)
              obtain ⟨s3, k3⟩ := s2.setCell (o := .lst (vs ++ [v])) (x' := .lst (xs ++ [r.d])) hc (by rw [x1.cell cc hcn]; exact ⟨vs ++ [v], upd_same, Reps.kw kp.kw _ _ (t2.append (.cons R1 .nil))⟩)
              rw [x1.cell cc hcn] at s3 k3
              exact ⟨_, vs, v, rfl, rfl, t1, by rw [t2.length]; exact hlen, qq g1 _ σ s3 (x1.kp.trans k3)⟩
          · cases er
        · cases er
      · cases er
    · cases er

/-! ### xs.append(ys.pop(e)) -/
def appPopR (k j : Nat) (f : Run Res) : Run Out := fun env st => match f env st with
    | some ⟨.int m, _, st1⟩ => match env[j]? with
      | some (.ow (.lst ys)) => if -(2 ^ 63) ≤ m ∧ m < 2 ^ 63 ∧ k ≠ j then match seqIndex? m ys.length with
          | some p => match ys[p]? with
            | some y => match env[k]? with
              | some (.ow (.lst xs)) => if xs.length < LIM then some ⟨.nx, (env.set j (.ow (.lst (ys.eraseIdx p)))).set k (.ow (.lst (xs ++ [y]))), st1⟩ else none
              | _ => none
            | none => none
          | none => none
        else none
      | _ => none
    | _ => none
theorem mtr_popAt : MtR X "list.pop" rPopAt := mt_popAt
theorem sS_appPop (k : Cok T fa n c X) {kk jj : Nat} {s s2 : Str} {p q p2 pb qb pb2 : Pos} {f : Run Res} (hk : slotB c kk (.Name s p) = true) (hj : slotB c jj (.Name s2 pb) = true) (hl : (q.endLine == p2.line) = true) (hl2 : (qb.endLine == pb2.line) = true) (hp : plB x = true) (h : PE X x (tE fa f)) :
    PS X (.Expr (.Call (.Attribute (.Name s p) "append" q) [.Call (.Attribute (.Name s2 pb) "pop" qb) [x] [] pb2] [] p2) pos) (tS fa (appPopR kk jj f)) := by
  have popE := pe_bm (T := "list") PySem.F.plainAttrs_list PySem.F.slot_list_pop PySem.F.type_list_pop (mtr_popAt (X := X)) (slot_ok k hj) (pa_cons (pe_tF h) pa_nil (star_cons hp)) rfl (by rw [star_cons hp]; rfl) hl2 (star_cons hp) rfl
  refine PSimp (ps_expr (pe_bm (T := "list") PySem.F.plainAttrs_list PySem.F.slot_list_append PySem.F.type_list_append mtr_append (slot_ok k hk) (pa_cons popE pa_nil (star_cons rfl)) rfl (by rw [star_cons rfl]; rfl) hl (star_cons rfl) rfl) rfl) fun D σ H ⟨gB, HB, g, env, st, o, so, er, qq⟩ => ?_
  unfold appPopR at er
  split at er
  · rename_i m b0 st1 e1
    split at er
    · rename_i ys hy
      split at er
      · rename_i hm
        split at er
        · rename_i pp hpp
          split at er
          · rename_i y hyy
            split at er
            · rename_i xs hx
              split at er
              · rename_i hlen
                cases er
                obtain ⟨a, hA, ow0⟩ := so.e.ow kk _ hx
                obtain ⟨vs0, t0, _⟩ := ow0.top
                obtain ⟨b, hB, owb0⟩ := so.e.ow jj _ hy
                obtain ⟨us0, tb0, _⟩ := owb0.top
                refine ⟨.ref a, hA, .inl ⟨rfl, vs0, SqL.of t0⟩, .ref b, hB, .inl ⟨rfl, us0, SqL.of tb0⟩, g, env, st, _, so.w, so.e, e1, fun g1 H1 v x1 w1 R1 => ?_⟩
                cases R1
                have s2 := so.after x1 w1
                obtain ⟨b', hB', owb⟩ := s2.e.ow jj _ hy
                rw [hB] at hB'; cases hB'
                obtain ⟨us, tb1, tb2⟩ := owb.top
                obtain ⟨vy, hvy, ry⟩ := tb2.get hyy
                have kpb := kp_upd (o := .lst (us.eraseIdx pp)) owb.nF owb.nfrz
                obtain ⟨s3, k3⟩ := s2.setOw (o := .lst (us.eraseIdx pp)) (d' := .lst (ys.eraseIdx pp)) hy hB ⟨us.eraseIdx pp, upd_same, Reps.kw kpb.kw _ _ (tb2.eraseIdx pp)⟩
                refine ⟨b, us, m, pp, vy, rfl, rfl, tb1, hm.1, hm.2.1, by rw [tb2.length]; exact hpp, hvy, ?_⟩
                have ry2 := Rep.kw kpb.kw _ _ ry
                have hx3 : (env.set jj (.ow (.lst (ys.eraseIdx pp))))[kk]? = some (Sl.ow (.lst xs)) := by rw [List.getElem?_set_ne (fun z => hm.2.2 z.symm)]; exact hx
                obtain ⟨a', hA', ow⟩ := s3.e.ow kk _ hx3
                rw [hA] at hA'; cases hA'
                obtain ⟨vs, t1, t2⟩ := ow.top
                have kp := kp_upd (o := .lst (vs ++ [vy])) ow.nF ow.nfrz
                obtain ⟨s4, k4⟩ := s3.setOw (o := .lst (vs ++ [vy])) (d' := .lst (xs ++ [y])) hx3 hA ⟨vs ++ [vy], upd_same, Reps.kw kp.kw _ _ (t2.append (.cons ry2 .nil))⟩
                exact ⟨a, vs, vy, rfl, rfl, t1, by rw [t2.length]; exact hlen, qq g1 _ σ s4 ((x1.kp.trans k3).trans k4)⟩
              · cases er
            · cases er
          · cases er
        · cases er
      · cases er
    · cases er
  · cases er

/-! ### xs[i] += e -/
theorem pget_list : PGet X (fun o i H Q => ∃ a vs j m v, o = .ref a ∧ i = .int j ∧ 0 ≤ j ∧ H a = some (.lst vs) ∧ ixN vs.length j = some m ∧ vs[m]? = some v ∧ Q v H) := by
  intro pins s σ H o i ov iv Q I ro ri ⟨a, vs, j, m, v, e1, e2, h0, hA, hm, hv, q⟩
  subst e1 e2
  cases ro
  obtain ⟨t, rfl⟩ := ri
  obtain ⟨its, r, pl, hz⟩ := I.list (SqL.of hA)
  obtain ⟨u, ew, rw'⟩ := r.get hv
  obtain ⟨h1, h2, h3, h4⟩ := ixN_seq hm
  have hj : j.toNat = m := by
    unfold ixN at hm
    rw [if_pos h0] at hm
    rw [if_pos h4] at hm
    exact Option.some.inj hm
  have hn := line63
  exact wpAny_getItem_list pl.isList h0 (by omega) (by rw [hj]; simpa using ew) ⟨v, H, I, rw', q⟩
def augR (k : Nat) (h f : Run Res) : Run Out := fun env st => match h env st with
    | some ⟨.int j, _, st1⟩ => if j < 0 then none else match env[k]? with
      | some (.ow (.lst xs)) => match (ixD xs.length j).bind fun m => xs[m]? with
        | some (.int x) => match f env st1 with
          | some ⟨.int z, _, st2⟩ => match setD k (.int j) (.int (x + z)) env st2 with
            | some (env1, st3) => some ⟨.nx, env1, st3⟩
            | none => none
          | _ => none
        | _ => none
      | _ => none
    | _ => none
theorem sS_aug (k : Cok T fa n c X) {kk : Nat} {s : Str} {p pt : Pos} {f h : Run Res} (hk : slotB c kk (.Name s p) = true) (hi : PE X x (tE fa h)) (he : PE X e (tE fa f)) (hp : ∀ ov iv new, augStore x ov iv new = (do holding [new, ov, iv] (setItem ov iv new); release [new, ov, iv] []; pure .next)) :
    PS X (.AugAssign (.Subscript (.Name s p) x pt) .Add e pos) (tS fa (augR kk h f)) :=
  PSimp (ps_augS (slot_ok k hk) (pe_tF hi) pget_list (pe_tF he) ip_add set_list hp) fun D σ H ⟨gB, HB, g, env, st, o, so, er, q⟩ => by
    unfold augR at er
    split at er
    · rename_i j m1 st1 e1
      split at er
      · cases er
      · rename_i h0
        split at er
        · rename_i xs hx
          split at er
          · rename_i x0 ex
            split at er
            · rename_i z0 m2 st2 e2
              split at er
              · rename_i env1 st3 e3
                cases er
                obtain ⟨m, em, exm⟩ := Option.bind_eq_some_iff.mp ex
                obtain ⟨a, hA, _⟩ := so.e.ow kk _ hx
                refine ⟨.ref a, hA, g, env, st, _, so.w, so.e, e1, fun g1 H1 v1 x1 w1 R1 => ?_⟩
                cases R1
                have s1 := so.after x1 w1
                obtain ⟨a', hA', ow1⟩ := s1.e.ow kk _ hx
                rw [hA] at hA'; cases hA'
                obtain ⟨vs1, t1, t2⟩ := ow1.top
                obtain ⟨vx, evx, rvx⟩ := t2.get exm
                cases rvx
                refine ⟨a, vs1, j, m, .int x0, rfl, rfl, by omega, t1, by rw [t2.length]; exact em, evx, g1, env, st1, _, w1, so.e.mono x1, e2, fun g2 H2 v2 x2 w2 R2 => ?_⟩
                cases R2
                refine ⟨x0, z0, rfl, rfl, ?_⟩
                have s2 := s1.after x2 w2
                obtain ⟨a', hA', ow⟩ := s2.e.ow kk _ hx
                rw [hA] at hA'; cases hA'
                obtain ⟨vs, t3, t4⟩ := ow.top
                have hm : ixN vs.length j = some m := by rw [t4.length]; exact em
                unfold setD at e3
                rw [hx] at e3
                have em' : ixD xs.length j = some m := em
                simp only [em', Option.some.injEq, Prod.mk.injEq] at e3
                obtain ⟨rfl, rfl⟩ := e3
                have kp := kp_upd (o := .lst (vs.set m (.int (x0 + z0)))) ow.nF ow.nfrz
                obtain ⟨s3, k3⟩ := s2.setOw (o := .lst (vs.set m (.int (x0 + z0)))) (d' := .lst (xs.set m (.int (x0 + z0)))) hx hA ⟨vs.set m (.int (x0 + z0)), upd_same, Reps.kw kp.kw _ _ (t4.set m (.int _))⟩
                exact ⟨a, vs, j, m, rfl, rfl, t3, hm, q g2 _ σ s3 ((x1.trans x2).kp.trans k3)⟩
              · cases er
            · cases er
          · cases er
        · cases er
    · cases er

/-! ### if, while, for -/
def iffR (f : Run Res) (a b : Run Out) : Run Out := fun env st => match f env st with
    | some ⟨.bl true, _, st1⟩ => a env st1
    | some ⟨.bl false, _, st1⟩ => b env st1
    | _ => none
theorem sS_iff {f : Run Res} {a b : Run Out} (hc : PT X e (tC fa (evCf f))) (ha : PSs X ss (tS fa a)) (hb : PSs X ss' (tS fa b)) : PS X (.If e ss ss' pos) (tS fa (iffR f a b)) :=
  PSimp (ps_if hc ha hb) fun D σ H ⟨gB, HB, g, env, st, o, so, er, q⟩ => by
    unfold iffR at er
    split at er
    · rename_i m st1 e1
      refine ⟨g, env, st, (true, st1), so.w, so.e, by unfold evCf; rw [e1], fun g1 H1 x1 w1 => ?_⟩
      show (if (true : Bool) = true then _ else _)
      rw [if_pos rfl]
      exact ⟨gB, HB, g1, env, st1, o, so.after x1 w1, er, q.kp x1.kp⟩
    · rename_i m st1 e1
      refine ⟨g, env, st, (false, st1), so.w, so.e, by unfold evCf; rw [e1], fun g1 H1 x1 w1 => ?_⟩
      show (if (false : Bool) = true then _ else _)
      rw [if_neg Bool.false_ne_true]
      exact ⟨gB, HB, g1, env, st1, o, so.after x1 w1, er, q.kp x1.kp⟩
    · cases er
theorem sS_whl (k : Cok T fa n c X) {f : Run (Bool × Store)} {b : Run Out} {N : Nat} (hc : PT X e (tC fa f)) (hb : PSs X ss (tS fa b)) : PS X (.While e ss [] pos) (tS fa (whlGo f b N)) := by
  have hpo : PassesOwn (model X.prog X.w) X.A X.env X.xe := by rw [k.xe]; exact PassesOwn.never
  refine PSimp (ps_while hpo hc hb) fun D σ H ⟨gB, HB, g, env, st, o, so, er, q⟩ => ?_
  refine ⟨fun m σ' H' => ∃ g' env' st', SOk fa gB HB g' H' env' σ' st' ∧ Kp g H g' H' ∧ whlGo f b m env' st' = some o, ⟨N, g, env, st, so, .refl _ _, er⟩, ?_⟩
  rintro m σ1 H1 ⟨g1, env1, st1, s1, k1, e1⟩
  cases m with
  | zero => unfold whlGo at e1; cases e1
  | succ m =>
    unfold whlGo at e1
    split at e1
    · cases e1
    · rename_i st2 e2
      cases e1
      refine ⟨g1, env1, st1, _, s1.w, s1.e, e2, fun g2 H2 x2 w2 => ?_⟩
      show (if (false : Bool) = true then _ else _)
      rw [if_neg Bool.false_ne_true]
      exact q g2 H2 σ1 (s1.after x2 w2) (k1.trans x2.kp)
    · rename_i st2 e2
      refine ⟨g1, env1, st1, _, s1.w, s1.e, e2, fun g2 H2 x2 w2 => ?_⟩
      show (if (true : Bool) = true then _ else _)
      rw [if_pos rfl]
      refine ⟨fun σ' H' => ∃ g' env' st', SOk fa gB HB g' H' env' σ' st' ∧ Kp g H g' H' ∧ whlGo f b m env' st' = some o, fun σ' H' h => ⟨m, Nat.lt_succ_self m, h⟩, ?_⟩
      have s2 := s1.after x2 w2
      have k2 := k1.trans x2.kp
      cases e3 : b env1 st2 with
      | none => rw [e3] at e1; cases e1
      | some o2 =>
        obtain ⟨fl, env3, st3⟩ := o2
        rw [e3] at e1
        refine ⟨gB, HB, g2, env1, st2, _, s2, e3, ?_⟩
        cases fl with
        | nx => exact fun g3 H3 σ3 s3 k3 => ⟨g3, env3, st3, s3, k2.trans k3, e1⟩
        | ct => exact fun g3 H3 σ3 s3 k3 => ⟨g3, env3, st3, s3, k2.trans k3, e1⟩
        | bk => cases e1; exact fun g3 H3 σ3 s3 k3 => q g3 H3 σ3 s3 (k2.trans k3)
        | rt d m' => cases e1; exact fun g3 H3 v r k3 => q g3 H3 v r (k2.trans k3)
theorem for_read {t : Tg} {b : Run Out} {J : L2.It} {src : Src} {n : Nat} {gJ : G} {HJ : Hp} (it : Items fa J src gJ HJ) {gB : G} {HB : Hp} {env : EV.Env} {σ : L2.St} {st : Store} (s : SOk fa gB HB gJ HJ env σ st) {o : Out} (er : forGo t b src n n env st = some o) {D : Ends} (q : Post fa gB HB gJ HJ o D) :
    ∃ W : Nat → Nat → L2.St → Hp → Prop, (∃ m, W 0 m σ HJ) ∧ ∀ i m σ H, W i m σ H →
      (J.stop i H ∧ D.nx σ H) ∨ (J.go i H ∧ ∃ N : L2.St → Hp → Prop, (∀ σ' H', N σ' H' → ∃ m', m' < m ∧ W (i + 1) m' σ' H') ∧ ∀ x H', J.yld i H x H' → tG fa t x σ H' fun σ2 H2 => tS fa b { D with nx := N, ct := N, bk := D.nx } σ2 H2) := by
  refine ⟨fun i m σ H => i + m = n ∧ ∃ g env st, SOk fa gB HB g H env σ st ∧ Kp gJ HJ g H ∧ forGo t b src n m env st = some o, ⟨n, Nat.zero_add n, gJ, env, st, s, .refl _ _, er⟩, ?_⟩
  rintro i m σ1 H1 ⟨hi, g1, env1, st1, s1, k1, e1⟩
  cases m with
  | zero =>
    unfold forGo at e1
    split at e1
    · rename_i he
      cases e1
      obtain ⟨ds, es, hl⟩ := endAt_some he
      have ei : ds.length = i := by omega
      have hst := (it g1 H1 st1 ds k1 s1.w es).2
      rw [ei] at hst
      exact .inl ⟨hst, q g1 H1 σ1 s1 k1⟩
    · cases e1
  | succ m =>
    unfold forGo at e1
    split at e1
    · cases e1
    · rename_i d hd
      have ei : n - (m + 1) = i := by omega
      rw [ei] at hd
      obtain ⟨ds, es, hl, hid⟩ := itemAt_some hd
      obtain ⟨go, yl⟩ := (it g1 H1 st1 ds k1 s1.w es).1 i d hid
      refine .inr ⟨go, fun σ' H' => ∃ g env st, SOk fa gB HB g H' env σ' st ∧ Kp gJ HJ g H' ∧ forGo t b src n m env st = some o, fun σ' H' h => ⟨m, Nat.lt_succ_self m, by omega, h⟩, fun x' H' y' => ?_⟩
      obtain ⟨g2, x2, w2, r2⟩ := yl x' H' y'
      split at e1
      · cases e1
      · rename_i env2 eb
        have s2 := s1.after x2 w2
        have k2 := k1.trans x2.kp
        refine ⟨g2, d, env1, env2, r2, eb, fun σ2 he _ ho => ?_⟩
        have s3 := s2.bind (he g2 H' (.refl _ _) s2.e) ho
        cases e3 : b env2 st1 with
        | none => rw [e3] at e1; cases e1
        | some o2 =>
          obtain ⟨fl, env3, st3⟩ := o2
          rw [e3] at e1
          refine ⟨gB, HB, g2, env2, st1, _, s3, e3, ?_⟩
          cases fl with
          | nx => exact fun g3 H3 σ3 s4 k3 => ⟨g3, env3, st3, s4, k2.trans k3, e1⟩
          | ct => exact fun g3 H3 σ3 s4 k3 => ⟨g3, env3, st3, s4, k2.trans k3, e1⟩
          | bk => cases e1; exact fun g3 H3 σ3 s4 k3 => q g3 H3 σ3 s4 (k2.trans k3)
          | rt d m' => cases e1; exact fun g3 H3 v r k3 => q g3 H3 v r (k2.trans k3)
def forR (t : Tg) (f : Run (Src × Store)) (b : Run Out) : Run Out := fun env st => match f env st with
    | some (src, st1) => match src st1 with
      | some ds => forGo t b src ds.length ds.length env st1
      | none => none
    | none => none
theorem sS_for (k : Cok T fa n c X) {t : Tg} {f : Run (Src × Store)} {b : Run Out} (hi : PI X tg iter (tI fa f)) (ht : t.chk c tg = true) (hb : PSs X ss (tS fa b)) (hp : plB iter = true) : PS X (.For tg iter ss [] pos) (tS fa (forR t f b)) := by
  have hpo : PassesOwn (model X.prog X.w) X.A X.env X.xe := by rw [k.xe]; exact PassesOwn.never
  refine PSimp (ps_for hpo k.calm hi (snd_tg k ht) hb (folded_ok hp)) fun D σ H ⟨gB, HB, g, env, st, o, so, er, q⟩ => ?_
  unfold forR at er
  split at er
  · rename_i src st1 e1
    split at er
    · exact ⟨g, env, st, _, so.w, so.e, e1, fun g1 H1 J x1 w1 it => for_read it (so.after x1 w1) er (q.kp x1.kp)⟩
    · cases er
  · cases er
/-! ### for over a dict's keys -/
theorem ext_unlockB {gB g g' : G} {HB H H' : Hp} {a : Addr} {kvs : List (Key × V)} {od : Obj} (xB : Ext gB HB g H) (hA : H a = some (.dK kvs)) (x : Ext gB HB g' H') (hl : H' a = some (.frz od (.dK kvs))) : Ext gB HB g' (upd H' a (.dK kvs)) where
  mono := x.mono
  new := x.new
  keep := fun b u hb pl r => by
    have q := x.keep b u hb pl r
    have ne : b ≠ a := fun e => by subst e; rw [hl] at q; cases q; exact pl
    rw [upd_ne ne]; exact q
  keepD := fun b u hb r => by
    have q := x.keepD b u hb r
    by_cases e : b = a
    · subst e
      rcases q with q | ⟨ob, q⟩
      · rw [hl] at q; cases q
      · rw [hl] at q; cases q; exact .inl upd_same
    · rcases q with q | ⟨ob, q⟩
      · exact .inl (by rw [upd_ne e]; exact q)
      · exact .inr ⟨ob, by rw [upd_ne e]; exact q⟩
  own := fun b ob hb hc e => by
    have q := x.own b ob hb hc e
    have ne : b ≠ a := fun z => by
      subst z
      rw [hl] at q; cases q
      have := xB.lk _ _ _ e
      rw [hA] at this; cases this
    rw [upd_ne ne]; exact q
  cell := x.cell
  le := x.le
  fresh := x.fresh
  there := fun b hb => by
    by_cases e : b = a
    · rw [e, upd_same]; exact fun z => nomatch z
    · rw [upd_ne e]; exact x.there b hb
  lk := fun b ob u e => by
    have ne : b ≠ a := fun z => by
      subst z
      have := xB.lk _ _ _ e
      rw [hA] at this; cases this
    rw [upd_ne ne]; exact x.lk b ob u e
theorem SOk.unlock {gB g g' : G} {HB H H' : Hp} {a : Addr} {kvs : List (Key × V)} {od : Obj} {env : EV.Env} {σ : L2.St} {st : Store} (xB : Ext gB HB g H) (hA : H a = some (.dK kvs)) (s : SOk fa gB HB g' H' env σ st) (hl : H' a = some (.frz od (.dK kvs))) (hF : g'.F a) : SOk fa gB HB g' (upd H' a (.dK kvs)) env σ st :=
  ⟨ext_unlockB xB hA s.x hl, wok_unlock s.w hF hl, ⟨fun i d hi => let ⟨v, h1, h2⟩ := s.e.fr i d hi; ⟨v, h1, Rep.kw (kw_unlock hl) _ _ h2⟩, fun i d hi => let ⟨b, h1, h2⟩ := s.e.ow i d hi; ⟨b, h1, h2.unlock hF hl⟩, s.e.di, s.e.le⟩, s.o⟩
theorem kp_unlock {g g' : G} {H H' : Hp} {a : Addr} {kvs : List (Key × V)} {od : Obj} (hA : H a = some (.dK kvs)) (k : Kp g (upd H a (.frz od (.dK kvs))) g' H') : Kp g H g' (upd H' a (.dK kvs)) where
  mono := k.mono
  keep := fun b u hb pl r => by
    have ne : b ≠ a := fun e => by subst e; rw [hA] at r; cases r; exact pl
    rw [upd_ne ne]; exact k.keep b u hb pl (by rw [upd_ne ne]; exact r)
  keepD := fun b u hb r => by
    by_cases e : b = a
    · subst e
      rcases r with r | ⟨ob, r⟩
      · rw [hA] at r; cases r; exact .inl upd_same
      · rw [hA] at r; cases r
    · have q := k.keepD b u hb (by
        rcases r with r | ⟨ob, r⟩
        · exact .inl (by rw [upd_ne e]; exact r)
        · exact .inr ⟨ob, by rw [upd_ne e]; exact r⟩)
      rcases q with q | ⟨ob, q⟩
      · exact .inl (by rw [upd_ne e]; exact q)
      · exact .inr ⟨ob, by rw [upd_ne e]; exact q⟩
  cell := k.cell
  le := k.le
  lk := fun b ob u e => by
    have ne : b ≠ a := fun z => by subst z; rw [hA] at e; cases e
    rw [upd_ne ne]; exact k.lk b ob u (by rw [upd_ne ne]; exact e)
theorem ResOk.unlockB {gB g g' : G} {HB H H' : Hp} {a : Addr} {v : V} {r : Res} {kvs : List (Key × V)} {od : Obj} (xB : Ext gB HB g H) (hA : H a = some (.dK kvs)) (x : ResOk fa gB HB g' H' v r) (hl : H' a = some (.frz od (.dK kvs))) (hF : g'.F a) : ResOk fa gB HB g' (upd H' a (.dK kvs)) v r := by
  refine ⟨ext_unlockB xB hA x.ext hl, wok_unlock x.wok hF hl, ?_⟩
  have z := x.2.2
  split at z
  · rename_i hn
    rw [if_pos hn]
    obtain ⟨b, e, n, ow⟩ := z
    exact ⟨b, e, n, ow.unlock hF hl⟩
  · rename_i hn
    rw [if_neg hn]
    exact Rep.kw (kw_unlock hl) _ _ z
theorem sS_forK (k : Cok T fa n c X) {i : Nat} {t : Tg} {b : Run Out} (hi : slotB c i iter = true) (ht : t.chk c tg = true) (hb : PSs X ss (tS fa b)) (hp : plB iter = true) :
    PS X (.For tg iter ss [] pos) (tS fa (forR t (fun env st => match env[i]? with | some (.fr (.dct ks)) => some (fun _ => some (ks.map fun kv => dK kv.1), st) | _ => none) b)) := by
  have hpo : PassesOwn (model X.prog X.w) X.A X.env X.xe := by rw [k.xe]; exact PassesOwn.never
  have z := ps_for (pos := pos) hpo k.calm (pi_keys (slot_ok k hi)) (snd_tg k ht) hb (folded_ok hp)
  refine PSimp (PSor (ps_lock z) z) fun D σ H ⟨gB, HB, g, env, st, o, so, er, q⟩ => ?_
  unfold forR at er
  split at er
  · rename_i ds st1 e1
    dsimp only at e1
    split at e1
    · rename_i ks ek
      cases e1
      obtain ⟨v, hv, R⟩ := so.e.fr i _ ek
      cases R with
      | dct hF hR RK =>
        rename_i a kvs
        rcases hR with hA | ⟨od, hA⟩
        · refine .inl ⟨a, .dK kvs, hA, trivial, fun od => ⟨.ref a, hv, a, od, rfl, .inl ⟨kvs, upd_same, ?_⟩⟩⟩
          have xl : Ext g H g (upd H a (.frz od (.dK kvs))) := ext_lock hF hA
          have sl := so.after xl (wok_lock (od := od) so.w hF hA)
          refine for_read (items_key (fa := fa) (g := g) upd_same (RK.mono xl)) sl er ?_
          have still : ∀ {g' H'}, Kp g (upd H a (.frz od (.dK kvs))) g' H' → H' a = some (.frz od (.dK kvs)) := fun kp => kp.lk a od _ upd_same
          unfold Post at q ⊢
          split at q
          · exact fun g' H' σ' s' kp => ⟨still kp, q g' _ σ' (SOk.unlock so.x hA s' (still kp) (kp.mono a hF)) (kp_unlock hA kp)⟩
          · exact fun g' H' σ' s' kp => ⟨still kp, q g' _ σ' (SOk.unlock so.x hA s' (still kp) (kp.mono a hF)) (kp_unlock hA kp)⟩
          · exact fun g' H' σ' s' kp => ⟨still kp, q g' _ σ' (SOk.unlock so.x hA s' (still kp) (kp.mono a hF)) (kp_unlock hA kp)⟩
          · exact fun g' H' v' r' kp => ⟨still kp, q g' _ v' (r'.unlockB so.x hA (still kp) (kp.mono a hF)) (kp_unlock hA kp)⟩
        · exact .inr ⟨.ref a, hv, a, od, rfl, .inl ⟨kvs, hA, for_read (items_key (fa := fa) (g := g) hA RK) so er q⟩⟩
    · cases e1
  · cases er
end
end EV

/-! EV, part R: every statement that stands against the text is sound. -/
namespace EV
open PySem PySem.Spec PyProof.Rows L2
def isComp : Expr → Bool
  | .ListComp .. => true
  | .SetComp .. => true
  | .DictComp .. => true
  | _ => false
def isTup : Expr → Bool
  | .Tuple .. => true
  | _ => false
def E.noKey : E → Bool
  | .lc _ _ _ it _ => it.nk
  | .lc2 .. => true
  | _ => false
def parB (c : SC) (is : List Nat) (ts vs : List Expr) : Bool := match swM c.sc ts vs with
  | some none => true
  | some (some ns) => decide is.Nodup && decide (ns = is.map fun i => c.N.getD i "") && is.all (fun i => decide (i < c.N.length) && c.sc.names.lookup (c.N.getD i "") == some .local)
  | none => false
mutual
def S.chk : S → SC → Stmt → Bool
  | .asg i e, c, s => match s with
    | .Assign [.Name x p] v _ => tslotB c i (.Name x p) && e.chk c v && (!swB c.sc x p v || (e.noKey && c.sc.names.lookup x == some .local))
    | _ => false
  | .asgT is es, c, s => match s with
    | .Assign [.Tuple ts _ _] (.Tuple vs _ _) _ => tslotsB c is ts && es.chk c vs && decide (is.length ≤ 1000) && parB c is ts vs
    | _ => false
  | .unp is e, c, s => match s with
    | .Assign [.Tuple ts _ _] v _ => tslotsB c is ts && e.chk c v && !isTup v
    | _ => false
  | .setI k i e, c, s => match s with
    | .Assign [.Subscript (.Name x p) idx _] v _ => slotB c k (.Name x p) && i.chk c idx && plB idx && e.chk c v
    | _ => false
  | .augI k i e, c, s => match s with
    | .AugAssign (.Subscript (.Name x p) idx _) .Add v _ => slotB c k (.Name x p) && i.chk c idx && plB idx && e.chk c v
    | _ => false
  | .app k e, c, s => match s with
    | .Expr (.Call (.Attribute (.Name x p) f q) [y] [] r) _ => f == ("append" : Str) && slotB c k (.Name x p) && e.chk c y && plB y && q.endLine == r.line
    | _ => false
  | .appPop k j e, c, s => match s with
    | .Expr (.Call (.Attribute (.Name x p) f q) [.Call (.Attribute (.Name x2 pb) f2 qb) [y] [] r2] [] r) _ => f == ("append" : Str) && f2 == ("pop" : Str) && slotB c k (.Name x p) && slotB c j (.Name x2 pb) && e.chk c y && plB y && q.endLine == r.line && qb.endLine == r2.line
    | _ => false
  | .exp e, c, s => match s with
    | .Expr v _ => e.chk c v && !isComp v
    | _ => false
  | .ret e, c, s => match s with
    | .Return (some v) _ => e.chk c v
    | _ => false
  | .retN, _, s => match s with
    | .Return none _ => true
    | _ => false
  | .iff t a b, c, s => match s with
    | .If v p q _ => t.chk c v && a.chk c p && b.chk c q
    | _ => false
  | .whl t b, c, s => match s with
    | .While v p [] _ => t.chk c v && b.chk c p
    | _ => false
  | .for t it b, c, s => match s with
    | .For tg iter p [] _ => t.chk c tg && it.chk c iter tg && b.chk c p && plB iter
    | _ => false
  | .brk, _, s => match s with
    | .Break _ => true
    | _ => false
  | .cnt, _, s => match s with
    | .Continue _ => true
    | _ => false
  | .pas, _, s => match s with
    | .Pass _ => true
    | .Expr (.Constant (.str _) _ _) _ => true
    | _ => false
  | .rai, _, s => match s with
    | .Raise _ _ _ => true
    | _ => false
def Ss.chk : Ss → SC → List Stmt → Bool
  | .nil, _, ss => match ss with
    | [] => true
    | _ => false
  | .cons s r, c, ss => match ss with
    | x :: xs => s.chk c x && r.chk c xs
    | _ => false
  | .frz _ r, c, ss => r.chk c ss
end
section
variable {T : Prog} {fa : FnA} {n : Nat}
theorem swapsWith_none {e : Expr} {line : Nat} {env : PySem.Env} (h : isComp e = false) : swapsWith e none line env = pure false := by
  cases e <;> first | rfl | (simp [isComp] at h)
theorem swapsWith_sub {e o i : Expr} {p : Pos} {line : Nat} {env : PySem.Env} : swapsWith e (some (.Subscript o i p)) line env = pure false := by
  cases e <;> rfl
theorem swapsWith_tup {e : Expr} {ts : List Expr} {k : Nat} {p : Pos} {line : Nat} {env : PySem.Env} : swapsWithSole [.Tuple ts k p] e line env = pure false := by
  cases e <;> rfl
theorem swapped_tup {e : Expr} {ts : List Expr} {k : Nat} {p : Pos} {env : PySem.Env} (h : isTup e = false) : swappedStores [.Tuple ts k p] e env = pure none := by
  cases e <;> first | rfl | (simp [isTup] at h)
theorem assign_sub {x : Expr} {s : Str} {p pt : Pos} {env : PySem.Env} (h : plB x = true) : ∀ v, assign (.Subscript (.Name s p) x pt) env v = (do
      let ov ← holding [v] (eval (.Name s p) env)
      let iv ← holding [v, ov] (eval x env)
      standAt pt
      holding [v, ov, iv] (setItem ov iv v)
      release [v, ov, iv] []) := by
  intro v
  cases x <;> first | rfl | (simp [plB] at h)
theorem aug_sub {x : Expr} (h : plB x = true) : ∀ ov iv new, augStore x ov iv new = (do holding [new, ov, iv] (setItem ov iv new); release [new, ov, iv] []; pure .next) := by
  intro ov iv new
  cases x <;> first | rfl | (simp [plB] at h)
theorem S_ret_ev {P : Pg} {e : E} (h : ∀ i, e ≠ .var i) : S.ev P (.ret e) = fun env st => match e.ev P env st with
      | some r => some ⟨.rt r.d r.nw, env, r.st⟩
      | none => none := by
  first
    | (simp only [S.ev]; done)
    | (simp only [S.ev]
       cases e <;> first | exact absurd rfl (h _) | rfl)
theorem S_c_asg {c : SC} {X : Cx} {sm : Stmt} (k : Cok T fa n c X) (i : Nat) (e : E) (h : (S.asg i e).chk c sm = true) : PS X sm (tS fa ((S.asg i e).ev (PT_ T n))) := by
    simp only [S.chk] at h
    split at h
    · rename_i x p v pos
      simp only [Bool.and_eq_true, Bool.or_eq_true, Bool.not_eq_true'] at h
      obtain ⟨⟨h1, h2⟩, h3⟩ := h
      simp only [S.ev]
      have sw := swB_ok (env := X.env) (x := x) (p := p) (v := v) (line := pos.line)
      rw [k.sc] at sw
      rcases h3 with h3 | ⟨h3, h4⟩
      · rw [h3] at sw
        exact sS_asg k (E.snd e c X _ k h2).pe h1 sw
      · cases hsw : swB c.sc x p v with
        | false =>
          rw [hsw] at sw
          exact sS_asg k (E.snd e c X _ k h2).pe h1 sw
        | true =>
          rw [hsw] at sw
          have hN : c.N[i]? = some x := by
            simp only [tslotB, Bool.and_eq_true, decide_eq_true_eq] at h1
            exact h1.1.1
          have hL : c.sc.names.lookup x = some .local := eq_of_beq h4
          cases e with
          | lc elt own t it cd =>
            simp only [E.chk] at h2
            split at h2
            · simp only [Bool.and_eq_true, List.all_eq_true] at h2
              obtain ⟨⟨⟨⟨⟨⟨⟨a0, a1⟩, a2⟩, a3⟩, a4⟩, a5⟩, a6⟩, a7⟩ := h2
              cases eq_of_beq a0
              have ho : ∀ i ∈ tgSlots t, i ∈ own := fun i hi => by simpa using a1 i hi
              simp only [E.ev]
              exact sS_setLc k hN hL sw a2 ho a7 (It.snd it c X _ _ k a3 h3) a4 (fun X' k' => (Eo.snd cd _ X' k').pc _ a5) (fun X' k' => E.snd elt _ X' _ k' a6)
            · cases h2
          | lc2 elt own t it cd u jt ce =>
            simp only [E.chk] at h2
            split at h2
            · simp only [Bool.and_eq_true, List.all_eq_true] at h2
              obtain ⟨⟨⟨⟨⟨⟨⟨⟨⟨⟨⟨⟨⟨⟨⟨a0, a1⟩, a2⟩, a3⟩, a4⟩, a5⟩, a6⟩, a7⟩, a8⟩, a9⟩, a10⟩, a11⟩, a12⟩, a13⟩, a14⟩, a15⟩ := h2
              cases eq_of_beq a0
              cases eq_of_beq a1
              have ho : ∀ i ∈ tgSlots t, i ∈ own := fun i hi => by simpa using a4 i hi
              have hu : ∀ i ∈ tgSlots u, i ∈ own := fun i hi => by simpa using a15 i hi
              simp only [E.ev]
              exact sS_setLc2 k hN hL sw a5 ho hu a13 a14 (It.snd it c X _ _ k a6 a2) a7 (fun X' k' => (Eo.snd cd _ X' k').pc _ a8) (fun X' k' => It.snd jt _ X' _ _ k' a10 a3) a9 (fun X' k' => (Eo.snd ce _ X' k').pc _ a11) (fun X' k' => E.snd elt _ X' _ k' a12)
            · cases h2
          | _ => simp [E.noKey] at h3
    · cases h
theorem S_c_asgT {c : SC} {X : Cx} {sm : Stmt} (k : Cok T fa n c X) (is : List Nat) (es : Es) (h : (S.asgT is es).chk c sm = true) : PS X sm (tS fa ((S.asgT is es).ev (PT_ T n))) := by
    simp only [S.chk] at h
    split at h
    · simp only [Bool.and_eq_true, decide_eq_true_eq] at h
      obtain ⟨⟨⟨h1, h2⟩, h3⟩, h4⟩ := h
      simp only [S.ev]
      have ha := Es.snd es c X _ k h2
      unfold parB at h4
      split at h4
      · rename_i hm
        exact sS_tup k h1 ha h3 hm
      · rename_i ns hm
        simp only [Bool.and_eq_true, decide_eq_true_eq, List.all_eq_true] at h4
        obtain ⟨⟨b1, b2⟩, b3⟩ := h4
        refine sS_par k b1 (by rw [b2, List.length_map]) (fun j i s hj hs => ?_) ha hm h3
        rw [b2, List.getElem?_map, hj] at hs
        have es : c.N.getD i "" = s := Option.some.inj hs
        obtain ⟨b4, b5⟩ := b3 i (List.mem_of_getElem? hj)
        rw [es] at b5
        refine ⟨?_, eq_of_beq b5⟩
        rw [← es, List.getD_eq_getElem?_getD, List.getElem?_eq_getElem b4]; rfl
      · cases h4
    · cases h
theorem S_c_unp {c : SC} {X : Cx} {sm : Stmt} (k : Cok T fa n c X) (is : List Nat) (e : E) (h : (S.unp is e).chk c sm = true) : PS X sm (tS fa ((S.unp is e).ev (PT_ T n))) := by
    simp only [S.chk] at h
    split at h
    · simp only [Bool.and_eq_true, Bool.not_eq_true'] at h
      obtain ⟨⟨h1, h2⟩, h3⟩ := h
      simp only [S.ev]
      exact sS_unp k h1 (E.snd e c X _ k h2).pe swapsWith_tup (swapped_tup h3)
    · cases h
theorem S_c_setI {c : SC} {X : Cx} {sm : Stmt} (k : Cok T fa n c X) (kk : Nat) (i e : E) (h : (S.setI kk i e).chk c sm = true) : PS X sm (tS fa ((S.setI kk i e).ev (PT_ T n))) := by
    simp only [S.chk] at h
    split at h
    · simp only [Bool.and_eq_true] at h
      obtain ⟨⟨⟨h1, h2⟩, h3⟩, h4⟩ := h
      simp only [S.ev]
      exact sS_setI k h1 (E.snd e c X _ k h4).pe (E.snd i c X _ k h2).pe h3 (assign_sub h3) swapsWith_sub
    · cases h
theorem S_c_augI {c : SC} {X : Cx} {sm : Stmt} (k : Cok T fa n c X) (kk : Nat) (i e : E) (h : (S.augI kk i e).chk c sm = true) : PS X sm (tS fa ((S.augI kk i e).ev (PT_ T n))) := by
    simp only [S.chk] at h
    split at h
    · simp only [Bool.and_eq_true] at h
      obtain ⟨⟨⟨h1, h2⟩, h3⟩, h4⟩ := h
      simp only [S.ev]
      exact sS_aug k h1 (E.snd i c X _ k h2).pe (E.snd e c X _ k h4).pe (aug_sub h3)
    · cases h
theorem S_c_app {c : SC} {X : Cx} {sm : Stmt} (k : Cok T fa n c X) (kk : Nat) (e : E) (h : (S.app kk e).chk c sm = true) : PS X sm (tS fa ((S.app kk e).ev (PT_ T n))) := by
    simp only [S.chk] at h
    split at h
    · simp only [Bool.and_eq_true] at h
      obtain ⟨⟨⟨⟨h1, h2⟩, h3⟩, h4⟩, h5⟩ := h
      cases eq_of_beq h1
      simp only [S.ev]
      exact sS_app k h2 h5 h4 (E.snd e c X _ k h3).pe
    · cases h
theorem S_c_appPop {c : SC} {X : Cx} {sm : Stmt} (k : Cok T fa n c X) (kk j : Nat) (e : E) (h : (S.appPop kk j e).chk c sm = true) : PS X sm (tS fa ((S.appPop kk j e).ev (PT_ T n))) := by
    simp only [S.chk] at h
    split at h
    · simp only [Bool.and_eq_true] at h
      obtain ⟨⟨⟨⟨⟨⟨⟨h1, h2⟩, h3⟩, h4⟩, h5⟩, h6⟩, h7⟩, h8⟩ := h
      cases eq_of_beq h1
      cases eq_of_beq h2
      simp only [S.ev]
      exact sS_appPop k h3 h4 h7 h8 h6 (E.snd e c X _ k h5).pe
    · cases h
theorem S_c_exp {c : SC} {X : Cx} {sm : Stmt} (k : Cok T fa n c X) (e : E) (h : (S.exp e).chk c sm = true) : PS X sm (tS fa ((S.exp e).ev (PT_ T n))) := by
    simp only [S.chk] at h
    split at h
    · simp only [Bool.and_eq_true, Bool.not_eq_true'] at h
      simp only [S.ev]
      exact sS_exp (E.snd e c X _ k h.1).pe (swapsWith_none h.2)
    · cases h
theorem S_c_ret {c : SC} {X : Cx} {sm : Stmt} (k : Cok T fa n c X) (e : E) (h : (S.ret e).chk c sm = true) : PS X sm (tS fa ((S.ret e).ev (PT_ T n))) := by
    simp only [S.chk] at h
    split at h
    · by_cases hv : ∃ i, e = .var i
      · obtain ⟨i, rfl⟩ := hv
        simp only [E.chk] at h
        simp only [S.ev]
        exact sS_retV k h
      · rw [S_ret_ev fun i z => hv ⟨i, z⟩]
        exact sS_ret (E.snd e c X _ k h).pe
    · cases h
theorem S_c_retN {c : SC} {X : Cx} {sm : Stmt} (k : Cok T fa n c X)  (h : (S.retN).chk c sm = true) : PS X sm (tS fa ((S.retN).ev (PT_ T n))) := by
    simp only [S.chk] at h
    split at h
    · simp only [S.ev]; exact sS_retN
    · cases h
theorem S_c_iff {c : SC} {X : Cx} {sm : Stmt} (k : Cok T fa n c X) (t : E) (a b : Ss) (iha : ∀ ss, a.chk c ss = true → PSs X ss (tS fa (a.ev (PT_ T n)))) (ihb : ∀ ss, b.chk c ss = true → PSs X ss (tS fa (b.ev (PT_ T n)))) (h : (S.iff t a b).chk c sm = true) : PS X sm (tS fa ((S.iff t a b).ev (PT_ T n))) := by
    simp only [S.chk] at h
    split at h
    · simp only [Bool.and_eq_true] at h
      obtain ⟨⟨h1, h2⟩, h3⟩ := h
      simp only [S.ev]
      exact sS_iff (E.snd t c X _ k h1).pt (iha _ h2) (ihb _ h3)
    · cases h
theorem S_c_whl {c : SC} {X : Cx} {sm : Stmt} (k : Cok T fa n c X) (t : E) (b : Ss) (ihb : ∀ ss, b.chk c ss = true → PSs X ss (tS fa (b.ev (PT_ T n)))) (h : (S.whl t b).chk c sm = true) : PS X sm (tS fa ((S.whl t b).ev (PT_ T n))) := by
    simp only [S.chk] at h
    split at h
    · simp only [Bool.and_eq_true] at h
      simp only [S.ev, Eo.evC]
      exact sS_whl k (E.snd t c X _ k h.1).pt (ihb _ h.2)
    · cases h
theorem S_c_for {c : SC} {X : Cx} {sm : Stmt} (k : Cok T fa n c X) (t : Tg) (it : It) (b : Ss) (ihb : ∀ ss, b.chk c ss = true → PSs X ss (tS fa (b.ev (PT_ T n)))) (h : (S.for t it b).chk c sm = true) : PS X sm (tS fa ((S.for t it b).ev (PT_ T n))) := by
    simp only [S.chk] at h
    split at h
    · simp only [Bool.and_eq_true] at h
      obtain ⟨⟨⟨h1, h2⟩, h3⟩, h4⟩ := h
      have hb := ihb _ h3
      have hi := It.snd it c X _ _ k h2
      simp only [S.ev]
      cases it with
      | key i =>
        simp only [It.ev]
        exact sS_forK k (by simpa only [It.chk] using h2) h1 hb h4
      | ovr _ => exact sS_for k (hi rfl) h1 hb h4
      | rg1 _ => exact sS_for k (hi rfl) h1 hb h4
      | rg2 _ _ => exact sS_for k (hi rfl) h1 hb h4
      | rg3 _ _ _ => exact sS_for k (hi rfl) h1 hb h4
      | enu _ => exact sS_for k (hi rfl) h1 hb h4
      | zip _ _ => exact sS_for k (hi rfl) h1 hb h4
    · cases h
theorem S_c_brk {c : SC} {X : Cx} {sm : Stmt} (k : Cok T fa n c X)  (h : (S.brk).chk c sm = true) : PS X sm (tS fa ((S.brk).ev (PT_ T n))) := by
    simp only [S.chk] at h
    split at h
    · simp only [S.ev]; exact sS_brk
    · cases h
theorem S_c_cnt {c : SC} {X : Cx} {sm : Stmt} (k : Cok T fa n c X)  (h : (S.cnt).chk c sm = true) : PS X sm (tS fa ((S.cnt).ev (PT_ T n))) := by
    simp only [S.chk] at h
    split at h
    · simp only [S.ev]; exact sS_cnt
    · cases h
theorem S_c_pas {c : SC} {X : Cx} {sm : Stmt} (k : Cok T fa n c X)  (h : (S.pas).chk c sm = true) : PS X sm (tS fa ((S.pas).ev (PT_ T n))) := by
    simp only [S.chk] at h
    split at h
    · simp only [S.ev]; exact sS_pass
    · simp only [S.ev]; exact sS_doc
    · cases h
theorem S_c_rai {c : SC} {X : Cx} {sm : Stmt} (k : Cok T fa n c X)  (h : (S.rai).chk c sm = true) : PS X sm (tS fa ((S.rai).ev (PT_ T n))) := by
    simp only [S.chk] at h
    split at h
    · simp only [S.ev]; exact sS_rai
    · cases h
mutual
theorem S.snd : ∀ (ir : S) (c : SC) (X : Cx) (sm : Stmt), Cok T fa n c X → ir.chk c sm = true → PS X sm (tS fa (ir.ev (PT_ T n)))
  | .asg i e, c, X, sm, k, h => S_c_asg k i e h
  | .asgT is es, c, X, sm, k, h => S_c_asgT k is es h
  | .unp is e, c, X, sm, k, h => S_c_unp k is e h
  | .setI kk i e, c, X, sm, k, h => S_c_setI k kk i e h
  | .augI kk i e, c, X, sm, k, h => S_c_augI k kk i e h
  | .app kk e, c, X, sm, k, h => S_c_app k kk e h
  | .appPop kk j e, c, X, sm, k, h => S_c_appPop k kk j e h
  | .exp e, c, X, sm, k, h => S_c_exp k e h
  | .ret e, c, X, sm, k, h => S_c_ret k e h
  | .retN, c, X, sm, k, h => S_c_retN k  h
  | .iff t a b, c, X, sm, k, h => S_c_iff k t a b (fun ss h => Ss.snd a c X ss k h) (fun ss h => Ss.snd b c X ss k h) h
  | .whl t b, c, X, sm, k, h => S_c_whl k t b (fun ss h => Ss.snd b c X ss k h) h
  | .for t it b, c, X, sm, k, h => S_c_for k t it b (fun ss h => Ss.snd b c X ss k h) h
  | .brk, c, X, sm, k, h => S_c_brk k  h
  | .cnt, c, X, sm, k, h => S_c_cnt k  h
  | .pas, c, X, sm, k, h => S_c_pas k  h
  | .rai, c, X, sm, k, h => S_c_rai k  h
theorem Ss.snd : ∀ (ir : Ss) (c : SC) (X : Cx) (ss : List Stmt), Cok T fa n c X → ir.chk c ss = true → PSs X ss (tS fa (ir.ev (PT_ T n)))
  | .nil, c, X, ss, k, h => by
    simp only [Ss.chk] at h
    split at h
    · simp only [Ss.ev]; exact sS_nil
    · cases h
  | .cons s r, c, X, ss, k, h => by
    simp only [Ss.chk] at h
    split at h
    · simp only [Bool.and_eq_true] at h
      simp only [Ss.ev]
      exact sS_cons (S.snd s c X _ k h.1) (Ss.snd r c X _ k h.2)
    · cases h
  | .frz i r, c, X, ss, k, h => by
    simp only [Ss.chk] at h
    simp only [Ss.ev]
    exact sS_frz (Ss.snd r c X _ k h)
end
end
end EV

/-! EV, part S: defs keep their promises; the law. -/
namespace EV
open PySem PySem.Spec PyProof.Rows L2
def scB (N ps : List Str) (sc : Scope) : Bool :=
  (match sc.kind with | .function => true | _ => false) && !sc.isCoroutine && !sc.isGenerator && decide N.Nodup && decide (N.take ps.length = ps) &&
    ps.all (fun x => decide (sc.names.lookup x = some .local) || decide (sc.names.lookup x = some .cell)) && sc.names.all (fun y => match y.2 with | .free => false | _ => true)
theorem scB_ok {N ps : List Str} {sc : Scope} (h : scB N ps sc = true) : FnScope N ps sc := by
  simp only [scB, Bool.and_eq_true, Bool.not_eq_true', decide_eq_true_eq, List.all_eq_true, Bool.or_eq_true] at h
  obtain ⟨⟨⟨⟨⟨⟨h1, h2⟩, h3⟩, h4⟩, h5⟩, h6⟩, h7⟩ := h
  refine ⟨?_, h2, h3, h4, h5, h6, fun y hy e => ?_⟩
  · split at h1 <;> first | assumption | cases h1
  · have := h7 y hy
    rw [e] at this
    cases this
/-- a def of the text and its term -/
structure DefG (T : Prog) (x : Str) (f : Fn) (d : He.DefD) : Prop where
  ex : ∃ N ps, scB N ps d.scope = true ∧ f.ps = ps.length ∧ f.ns = N.length ∧ f.body.chk ⟨N, d.scope, fun _ => true, T.kw⟩ d.body = true ∧ d.dfl = [] ∧ d.kwd = [] ∧ d.at_ = (x, none) ∧
    (∀ (kV doc pm : Value) (an : Option Addr) (cdv ct : Value) (us : List Value), us.length = ps.length → bindArgs (PySem.W.fnOf d.name d.qual d.params d.body d.scope .none kV doc pm an cdv ct) ⟨us, []⟩ = pure (ps.zip us)) ∧
    (∀ ns pm, (x, ns, pm) ∈ T.kw → ∀ (kV doc pmv : Value) (an : Option Addr) (cdv ct : Value) (ws : List Value), ws.length = ns.length → bindArgs (PySem.W.fnOf d.name d.qual d.params d.body d.scope .none kV doc pmv an cdv ct) ⟨[], ns.zip ws⟩ = pure (ps.zip (permL ws pm)))
section
variable {T : Prog} {P : Program} {w : World} {K : PySem.W.Frag} {mg : Str → Option Value} {base : Heap} {fa : FnA} {n : Nat}
theorem env_start {g : G} {H : Hp} {N : List Str} {vs : List V} {ds : List D} (h : Reps fa g H vs ds) (hl : ds.length ≤ N.length) : EnvOk fa g H (startE N.length ds) (L2.start N vs) := by
  have hn : ∀ (i : Nat) (s : Sl), (startE N.length ds)[i]? = some s → (∃ d, ds[i]? = some d ∧ s = .fr d) ∨ s = .no := by
    intro i s e
    unfold startE at e
    by_cases hi : i < ds.length
    · rw [List.getElem?_append_left (by simpa using hi), List.getElem?_map, List.getElem?_eq_getElem hi] at e
      exact .inl ⟨ds[i], by simp [hi], (Option.some.inj e).symm⟩
    · rw [List.getElem?_append_right (by simpa using hi), List.getElem?_replicate] at e
      split at e
      · exact .inr (Option.some.inj e).symm
      · cases e
  refine ⟨fun i d e => ?_, fun i d e => ?_, fun i j d d2 a _ e => ?_, ?_⟩
  · rcases hn i _ e with ⟨d', h1, h2⟩ | h2
    · cases h2
      obtain ⟨v, h3, h4⟩ := h.get h1
      refine ⟨v, ?_, h4⟩
      unfold L2.start
      rw [List.getElem?_append_left (by rw [List.length_map]; exact (List.getElem?_eq_some_iff.mp h3).1), List.getElem?_map, h3]
      rfl
    · cases h2
  · rcases hn i _ e with ⟨d', h1, h2⟩ | h2 <;> cases h2
  · rcases hn i _ e with ⟨d', h1, h2⟩ | h2 <;> cases h2
  · unfold startE L2.start
    simp only [List.length_append, List.length_map, List.length_replicate]
    have := h.length
    omega
theorem run_succ {x : Str} {ds : List D} {st : Store} {r : Res} (h : T.run (n + 1) x ds st = some r) : ∃ f, T.fn x = some f ∧ ds.length = f.ps ∧ ∃ o, f.body.ev (PT_ T n) (startE f.ns ds) st = some o ∧
    ((∃ d k, o.f = .rt d k ∧ r = ⟨d, k, o.st⟩) ∨ (o.f = .nx ∧ r = ⟨.non, false, o.st⟩)) := by
  unfold Prog.run at h
  split at h
  · cases h
  · rename_i f e
    split at h
    · rename_i hl
      refine ⟨f, e, hl, ?_⟩
      split at h
      · rename_i d k env st1 e1
        cases h
        exact ⟨_, e1, .inl ⟨d, k, rfl, rfl⟩⟩
      · rename_i env st1 e1
        cases h
        exact ⟨_, e1, .inr ⟨rfl, rfl⟩⟩
      · cases h
    · cases h
/-- one def, one level up -/
theorem fn_step {x nm qual : Str} {params : Arguments} {body : List Stmt} {scope : Scope} {kws : List (Str × V)} {a : Addr} {fd : FuncData} {N ps : List Str} {f : Fn} (F : FunD K nm qual params body scope [] kws a fd) (S : FnScope N ps scope) (hf : T.fn x = some f) (h1 : f.ps = ps.length) (h2 : f.ns = N.length)
    (hc : f.body.chk ⟨N, scope, fun _ => true, T.kw⟩ body = true) (pk : Pk T n P w K mg base fa) : FnG P w K mg base CX0 (n + 1) a fd ps (spD fa T (n + 1) x) := by
  refine fnG_of F S (fun vs H Q E ⟨g, st, ds, r, wk, R, er, q⟩ => ?_) fun cdv A outer s H vs Q E hr gd ⟨g, st, ds, r, wk, R, er, q⟩ => ?_
  · obtain ⟨f', e1, e2, _⟩ := run_succ er
    rw [hf] at e1; cases e1
    rw [R.length, e2, h1]
  · refine ⟨tS fa (f.body.ev (PT_ T n)), PSs.nox (Ss.snd f.body ⟨N, scope, fun _ => true, T.kw⟩ _ body ⟨rfl, rfl, rfl, rfl, S.nd, rfl, rfl, hr, gd, pk⟩ hc), ?_⟩
    obtain ⟨f', e1, e2, o, e3, e4⟩ := run_succ er
    rw [hf] at e1; cases e1
    have hN : ps.length ≤ N.length := by have := congrArg List.length S.pre; rw [List.length_take] at this; omega
    rw [h2] at e3
    have so : SOk fa g H g H (startE N.length ds) (L2.start N vs) st := ⟨.refl _ _, wk, env_start R (by omega), fun i d a hi => by
      exfalso
      unfold startE at hi
      by_cases hl : i < ds.length
      · rw [List.getElem?_append_left (by simpa using hl), List.getElem?_map, List.getElem?_eq_getElem hl] at hi
        cases hi
      · rw [List.getElem?_append_right (by simpa using hl), List.getElem?_replicate] at hi
        split at hi <;> cases hi⟩
    refine ⟨g, H, g, _, st, o, so, e3, ?_⟩
    unfold Post
    rcases e4 with ⟨d, k, h3, rfl⟩ | ⟨h3, rfl⟩
    · rw [h3]; exact fun g' H' v ro _ => q g' H' v ro
    · rw [h3]; exact fun g' H' σ' s' _ => q g' H' .non ((res_old s'.w .non).trans s'.x)
theorem kbind_of {x qual : Str} {params : Arguments} {body : List Stmt} {scope : Scope} {kws : List (Str × V)} {a : Addr} {fd : FuncData} {args : Args} {bs : List (Str × Value)} (F : FunD K x qual params body scope [] kws a fd)
    (h : ∀ (kV doc pm : Value) (an : Option Addr) (cdv ct : Value), bindArgs (PySem.W.fnOf x qual params body scope .none kV doc pm an cdv ct) args = pure bs) (s : Shared) : BindsTo s fd args bs := by
  obtain ⟨oc, od, dV, kV, doc, pm, an, cdv, ct, osl, rfl, lk, hcd, hD, hK⟩ := F.ex
  rcases hD with ⟨_, rfl⟩ | ⟨e, _⟩
  · exact .of_eq (h kV doc pm an cdv ct)
  · exact absurd rfl e
/-- every def at every level -/
theorem pk_all {fas : List He.Fa} {fn : List He.DefD} {h : Heap} (X : K.In h) (G : h.Ns mainGlobals mg) (c : He.SaysD fas fn K) (hd : ∀ x f, T.fn x = some f → He.Fa.glo x ∈ fas ∧ ∃ d ∈ fn, DefG T x f d)
    (hg : ∀ x d, T.glo x = some d → ∃ u v, mg x = some u ∧ RelV v u ∧ ∀ g H, Rep fa g H v d) (hb : ∀ b ∈ BN, He.Fa.free b ∈ fas) (hS : ScrOk fa K) : ∀ n, Pk T n P w K mg base fa := by
  have all : ∀ x f, T.fn x = some f → ∃ a fd ps N params body scope qual nm, mg x = some (.ref a) ∧ PySem.W.keepIn K (.ref a) = true ∧ FunD K nm qual params body scope [] [] a fd ∧ FnScope N ps scope ∧ f.ps = ps.length ∧ f.ns = N.length ∧ f.body.chk ⟨N, scope, fun _ => true, T.kw⟩ body = true ∧ Binds K fd ps [] ∧
      ∀ ns pm, (x, ns, pm) ∈ T.kw → ∀ (s : Shared) (ws : List Value), K.In s.heap → ws.length = ns.length → (permL ws pm).length = ps.length → BindsTo s fd ⟨[], ns.zip ws⟩ (ps.zip (permL ws pm)) := by
    intro x f hf
    obtain ⟨h1, d, h2, ⟨N, ps, e1, e2, e3, e4, e5, e6, e7, e8, e9⟩⟩ := hd x f hf
    obtain ⟨fd, F⟩ := c.defs h2
    have q1 : d.dvs K = [] := by unfold He.DefD.dvs; rw [e5]; rfl
    have q2 : d.kws K = [] := by unfold He.DefD.kws; rw [e6]; rfl
    rw [q1, q2, e7] at F
    refine ⟨He.ga K x, fd, ps, N, d.params, d.body, d.scope, d.qual, d.name, He.glo_ok X G (c.facts h1), F.kp, F, scB_ok e1, e2, e3, e4, F.bindsN e8, fun ns pm hk s ws _ hl _ => kbind_of F (fun kV doc pmv an cdv ct => e9 ns pm hk kV doc pmv an cdv ct ws hl) s⟩
  intro n
  induction n with
  | zero =>
    refine ⟨fun x f hf => ?_, fun x ds st r h => (by unfold Prog.run at h; cases h), hg, fun b hb' => He.free_ok X G (c.facts (hb b hb')), hS⟩
    obtain ⟨a, fd, ps, N, params, body, scope, qual, nm, h1, h2, F, S, h3, h4, h5, h6, h7⟩ := all x f hf
    exact ⟨a, fd, ps, h1, h2, ⟨fun vs H Q E ⟨g, st, ds, r, _, _, er, _⟩ => (by unfold Prog.run at er; cases er), fun A outer s H args us vs Q E _ _ _ _ _ ⟨g, st, ds, r, _, _, er, _⟩ => (by unfold Prog.run at er; cases er)⟩, h6, h7⟩
  | succ n ih =>
    refine ⟨fun x f hf => ?_, fun x ds st r h => ?_, hg, ih.blt, hS⟩
    · obtain ⟨a, fd, ps, N, params, body, scope, qual, nm, h1, h2, F, S, h3, h4, h5, h6, h7⟩ := all x f hf
      exact ⟨a, fd, ps, h1, h2, fn_step F S hf h3 h4 h5 ih, h6, h7⟩
    · obtain ⟨f, h1, _⟩ := run_succ h
      exact ⟨f, h1⟩
end
end EV

/-! EV, part T: the law's end. -/
namespace EV
open PySem PySem.Spec PyProof.Rows L2
section
variable {T : Prog} {P : Program} {w : World} {K : PySem.W.Frag} {mg : Str → Option Value}
def lawA (K : PySem.W.Frag) : FnA := ⟨fun _ => none, fun a ns => ∀ H, SqL K H a (ns.map V.int)⟩
theorem law_sp {n most : Nat} (hrun : ∀ ns : List Int, ns.length ≤ most → ∃ m st, T.run n "law" [.scr ns] [] = some ⟨.bl true, m, st⟩) (H : Hp) (a : Addr) (ns : List Int) (hl : ns.length ≤ most) (hO : Only H) (hS : SqL K H a (ns.map V.int)) :
    spD (lawA K) T n "law" [.ref a] H (fun v _ => v = .bl true) fun _ _ _ => False := by
  obtain ⟨m, st, er⟩ := hrun ns hl
  refine ⟨⟨fun b => H b ≠ none, fun _ => 0, 0⟩, [], [.scr ns], _, ⟨rfl, fun b h => h, fun k c e => by simp at e, fun j k hj => absurd hj (Nat.not_lt_zero j)⟩, .cons ?_ .nil, er, fun g' H' v ro => ro.bl⟩
  rcases hS with (h | ⟨o, h⟩) | h
  · rcases hO a with z | ⟨o, xs, z⟩
    · rw [z] at h; cases h
    · rw [z] at h; cases h
  · exact .scr (show H a ≠ none by rw [h]; exact fun z => nomatch z) h
  · exact .scrK fun H' => .inr h
theorem law_of {fas : List He.Fa} {fn : List He.DefD} {n most : Nat} {h : Heap} {f : Fn} {fa : Addr} {d : He.DefD} {N : List Str} {x : Str} (X : K.In h) (G : h.Ns mainGlobals mg) (c : He.SaysD fas fn K) (hfa : mg ("law" : Str) = some (.ref fa)) (hd : ∀ x f, T.fn x = some f → He.Fa.glo x ∈ fas ∧ ∃ d ∈ fn, DefG T x f d)
    (hg : ∀ x, T.glo x = none) (hb : ∀ b ∈ BN, He.Fa.free b ∈ fas) (hf : T.fn "law" = some f) (hm : d ∈ fn) (e1 : scB N [x] d.scope = true) (e2 : f.ps = 1) (e3 : f.ns = N.length) (e4 : f.body.chk ⟨N, d.scope, fun _ => true, T.kw⟩ d.body = true) (e5 : d.dfl = []) (e6 : d.kwd = []) (e7 : d.at_ = (("law" : Str), none))
    (e8 : ∀ (kV doc pm : Value) (an : Option Addr) (cdv ct : Value) (us : List Value), us.length = [x].length → bindArgs (PySem.W.fnOf d.name d.qual d.params d.body d.scope .none kV doc pm an cdv ct) ⟨us, []⟩ = pure ([x].zip us))
    (hrun : ∀ ns : List Int, ns.length ≤ most → ∃ m st, T.run (n + 1) "law" [.scr ns] [] = some ⟨.bl true, m, st⟩) :
    ∃ (fd : FuncData) (sp : Sp), (∀ (s : Shared) (u : Value), BindsTo s fd ⟨[u], []⟩ [(x, u)]) ∧
      (∀ (H : Hp) (a : Addr) (ns : List Int), ns.length ≤ most → Only H → SqL K H a (ns.map V.int) → sp [.ref a] H (fun v _ => v = .bl true) fun _ _ _ => False) ∧
      ∀ base : Heap, K.In base → base.Ns mainGlobals mg → FnG P w K mg base CX0 (n + 1) fa fd [x] sp := by
  obtain ⟨q1, _⟩ := hd "law" f hf
  obtain ⟨fd, F⟩ := c.defs hm
  have z1 : d.dvs K = [] := by unfold He.DefD.dvs; rw [e5]; rfl
  have z2 : d.kws K = [] := by unfold He.DefD.kws; rw [e6]; rfl
  rw [z1, z2, e7] at F
  have eg := hfa.symm.trans (He.glo_ok X G (c.facts q1))
  cases eg
  refine ⟨fd, spD (lawA K) T (n + 1) "law", fun s u => F.bindsA e8 s [u] rfl, law_sp hrun, fun base hK hG => ?_⟩
  exact fn_step F (scB_ok e1) hf e2 e3 e4 (pk_all hK hG c hd (fun x d hx => by rw [hg x] at hx; cases hx) hb (show ScrOk (lawA K) K from fun a ns h => h) n)
end
end EV

/-! EV, part U: walks over a fixed list, by the list; for the plain laws. -/
namespace EV
open PySem
def forL (t : Tg) (b : Run Out) : List D → Run Out
  | [] => fun env st => some ⟨.nx, env, st⟩
  | d :: ds => fun env st => match bindT t d env with
    | none => none
    | some env1 => match b env1 st with
      | none => none
      | some ⟨.nx, env2, st2⟩ => forL t b ds env2 st2
      | some ⟨.ct, env2, st2⟩ => forL t b ds env2 st2
      | some ⟨.bk, env2, st2⟩ => some ⟨.nx, env2, st2⟩
      | some ⟨.rt d n, env2, st2⟩ => some ⟨.rt d n, env2, st2⟩
theorem itemAt_fix {ds : List D} {m : Nat} {st : Store} (h : m + 1 ≤ ds.length) : itemAt (fun _ => some ds) ds.length (ds.length - (m + 1)) st = some (ds[ds.length - (m + 1)]'(by omega)) := by
  unfold itemAt
  simp only [if_pos]
  exact List.getElem?_eq_getElem (by omega)
theorem forGo_fix (t : Tg) (b : Run Out) (ds : List D) : ∀ (m : Nat) (env : Env) (st : Store), m ≤ ds.length → forGo t b (fun _ => some ds) ds.length m env st = forL t b (ds.drop (ds.length - m)) env st
  | 0, env, st, _ => by
    unfold forGo
    rw [Nat.sub_zero, List.drop_length]
    unfold forL endAt
    simp
  | m + 1, env, st, h => by
    unfold forGo
    rw [itemAt_fix h, List.drop_eq_getElem_cons (by omega : ds.length - (m + 1) < ds.length)]
    have e : ds.length - (m + 1) + 1 = ds.length - m := by omega
    rw [e]
    unfold forL
    have ih : ∀ env st, forGo t b (fun _ => some ds) ds.length m env st = forL t b (ds.drop (ds.length - m)) env st := fun env st => forGo_fix t b ds m env st (by omega)
    simp only [ih] <;> rfl
theorem for_fix (t : Tg) (b : Run Out) (ds : List D) (env : Env) (st : Store) : forGo t b (fun _ => some ds) ds.length ds.length env st = forL t b ds env st := by
  rw [forGo_fix t b ds _ _ _ (Nat.le_refl _), Nat.sub_self, List.drop_zero]
def lcL (t : Tg) (cond : Run (Bool × Store)) (elt : Run Res) (env : Env) : List D → Store → Option (List D × Store)
  | [], st => some ([], st)
  | d :: ds, st => match bindT t d env with
    | none => none
    | some env2 => match cond env2 st with
      | none => none
      | some (false, st1) => lcL t cond elt env ds st1
      | some (true, st1) => match elt env2 st1 with
        | none => none
        | some r => match lcL t cond elt env ds r.st with
          | none => none
          | some (rs, st2) => some (r.d :: rs, st2)
theorem lcGo_fix (t : Tg) (cond : Run (Bool × Store)) (elt : Run Res) (env : Env) (ds : List D) : ∀ (m : Nat) (st : Store), m ≤ ds.length → lcGo t cond elt env (fun _ => some ds) ds.length m st = lcL t cond elt env (ds.drop (ds.length - m)) st
  | 0, st, _ => by
    unfold lcGo
    rw [Nat.sub_zero, List.drop_length]
    unfold lcL endAt
    simp
  | m + 1, st, h => by
    unfold lcGo
    rw [itemAt_fix h, List.drop_eq_getElem_cons (by omega : ds.length - (m + 1) < ds.length)]
    have e : ds.length - (m + 1) + 1 = ds.length - m := by omega
    rw [e]
    unfold lcL
    have ih : ∀ st, lcGo t cond elt env (fun _ => some ds) ds.length m st = lcL t cond elt env (ds.drop (ds.length - m)) st := fun st => lcGo_fix t cond elt env ds m st (by omega)
    simp only [ih] <;> rfl
theorem lcAll_fix (t : Tg) (cond : Run (Bool × Store)) (elt : Run Res) (env : Env) (ds : List D) (st : Store) (h : ds.length ≤ LIM) : lcAll t cond elt env (fun _ => some ds) st = lcL t cond elt env ds st := by
  unfold lcAll
  dsimp only
  rw [if_pos h, lcGo_fix t cond elt env ds _ _ (Nat.le_refl _), Nat.sub_self, List.drop_zero]
/-- a comprehension whose parts change nothing -/
theorem lcL_pure {t : Tg} {cond : Run (Bool × Store)} {elt : Run Res} {env : Env} {st : Store} {α : Type} {rep : α → D} {p : α → Bool} {f : α → D} : ∀ {xs : List α}, (∀ x ∈ xs, ∃ env2, bindT t (rep x) env = some env2 ∧ cond env2 st = some (p x, st) ∧ (p x = true → ∃ n, elt env2 st = some ⟨f x, n, st⟩)) →
    lcL t cond elt env (xs.map rep) st = some ((xs.filter p).map f, st)
  | [], _ => by unfold lcL; rfl
  | x :: xs, h => by
    obtain ⟨env2, h1, h2, h3⟩ := h x List.mem_cons_self
    have ih := lcL_pure (xs := xs) fun y hy => h y (List.mem_cons_of_mem _ hy)
    rw [List.map_cons]
    unfold lcL
    rw [h1]
    dsimp only
    rw [h2]
    cases hp : p x with
    | false =>
      dsimp only
      rw [ih, List.filter_cons_of_neg (by rw [hp]; exact Bool.false_ne_true)]
    | true =>
      obtain ⟨n, h4⟩ := h3 hp
      dsimp only
      rw [h4]
      dsimp only
      rw [ih, List.filter_cons_of_pos hp]
      rfl
end EV

/-! EV, part V: operators on ints, for the plain laws. -/
namespace EV
open PySem
def Sm (a : Nat) (x : Int) : Prop := x.natAbs < 2 ^ a
instance (a : Nat) (x : Int) : Decidable (Sm a x) := inferInstanceAs (Decidable (x.natAbs < 2 ^ a))
theorem Sm.mono {a b : Nat} {x : Int} (h : Sm a x) (l : a ≤ b) : Sm b x := Nat.lt_of_lt_of_le h (Nat.pow_le_pow_right (by decide) l)
theorem Sm.mul {a b : Nat} {x y : Int} (h : Sm a x) (k : Sm b y) : Sm (a + b) (x * y) := by
  unfold Sm at *
  rw [Int.natAbs_mul, Nat.pow_add]
  exact Nat.mul_lt_mul'' h k
theorem Sm.add {a b : Nat} {x y : Int} (h : Sm a x) (k : Sm b y) : Sm (max a b + 1) (x + y) := by
  have h1 := h.mono (Nat.le_max_left a b)
  have k1 := k.mono (Nat.le_max_right a b)
  unfold Sm at *
  have := Int.natAbs_add_le x y
  rw [Nat.pow_succ]
  omega
theorem Sm.log {a : Nat} {x : Int} (h : Sm a x) : x.natAbs.log2 ≤ a := by
  by_cases e : x.natAbs = 0
  · rw [e]; exact Nat.zero_le _
  · exact Nat.le_of_lt ((Nat.log2_lt e).mpr h)
theorem Sm.of {x : Int} (a : Nat) (h0 : 0 ≤ x) (h : x < ((2 ^ a : Nat) : Int)) : Sm a x := by
  unfold Sm; omega
theorem mul_ok {a b : Nat} {x y : Int} (h : Sm a x) (k : Sm b y) (l : a + b < 1000000) (st : Store) : binD .mul st (.int x) (.int y) = some (.int (x * y), false) := by
  unfold binD
  dsimp only
  rw [if_pos (by have := h.log; have := k.log; omega)]
theorem add_ok (x y : Int) (st : Store) : binD .add st (.int x) (.int y) = some (.int (x + y), false) := rfl
theorem sub_ok (x y : Int) (st : Store) : binD .sub st (.int x) (.int y) = some (.int (x - y), false) := rfl
theorem mod_ok {x y : Int} (h : 0 < y) (st : Store) : binD .mod st (.int x) (.int y) = some (.int (x % y), false) := by
  unfold binD; dsimp only; rw [if_pos h]
theorem fdiv_ok {x y : Int} (h : 0 < y) (k : Sm 8000 y) (st : Store) : binD .fdiv st (.int x) (.int y) = some (.int (x / y), false) := by
  unfold binD; dsimp only; rw [if_pos ⟨h, by have := k.log; omega⟩]
theorem int_ok (x : Int) (st : Store) : biD .int st [.int x] = some (.int x, false) := rfl
end EV

/-! EV, part X: rules, one a construct, for the plain laws. -/
namespace EV
open PySem PyProof.Rows L2
section
variable {P : Pg} {env : Env} {st st1 st2 st3 : Store} {x y z d : D} {n m : Bool} {a b c e : E} {r : Res}
def isV : E → Bool
  | .var _ => true
  | _ => false
theorem r_var {i : Nat} (h : env[i]? = some (.fr d)) : E.ev P (.var i) env st = some ⟨d, false, st⟩ := by
  unfold E.ev; simp only [h]
theorem b_var {i : Nat} {f : Run Res} (h : env[i]? = some (.fr d)) : bw (.var i) f env st = some (d, st) := by
  unfold bw; simp only [h]
theorem b_ow {i : Nat} {f : Run Res} (h : env[i]? = some (.ow d)) : bw (.var i) f env st = some (d, st) := by
  unfold bw; simp only [h]
theorem b_ev (hv : isV a = false) (h : E.ev P a env st = some ⟨d, n, st1⟩) : bw a (E.ev P a) env st = some (d, st1) := by
  cases a <;> first | (cases hv; done) | (unfold bw; simp only [h, Option.map])
theorem r_int {i : Int} : E.ev P (.int i) env st = some ⟨.int i, false, st⟩ := rfl
theorem r_str {i : Str} : E.ev P (.str i) env st = some ⟨.str i, false, st⟩ := rfl
theorem r_bl {i : Bool} : E.ev P (.bl i) env st = some ⟨.bl i, false, st⟩ := rfl
theorem r_non : E.ev P .non env st = some ⟨.non, false, st⟩ := rfl
theorem r_bin {o : BOp} (h1 : bw a (a.ev P) env st = some (x, st1)) (h2 : bw b (b.ev P) env st1 = some (y, st2)) (h3 : binD o st2 x y = some (d, n)) : E.ev P (.bin o a b) env st = some ⟨d, n, st2⟩ := by
  unfold E.ev; simp only [h1, h2, h3]
theorem r_neg {i : Int} (h1 : bw a (a.ev P) env st = some (.int i, st1)) : E.ev P (.neg a) env st = some ⟨.int (-i), false, st1⟩ := by
  unfold E.ev; simp only [h1]
theorem r_cmp {o : COp} {q : Bool} (h1 : bw a (a.ev P) env st = some (x, st1)) (h2 : bw b (b.ev P) env st1 = some (y, st2)) (h3 : cmpD o st2 x y = some q) : E.ev P (.cmp o a b) env st = some ⟨.bl q, false, st2⟩ := by
  unfold E.ev; simp only [h1, h2, h3]
theorem r_chn {o p : COp} {q t : Bool} (h1 : bw a (a.ev P) env st = some (x, st1)) (h2 : bw b (b.ev P) env st1 = some (y, st1)) (h3 : cmpD o st1 x y = some q) (h4 : bw c (c.ev P) env st1 = some (z, st1)) (h5 : cmpD p st1 y z = some t) : E.ev P (.chn o p a b c) env st = some ⟨.bl (q && t), false, st1⟩ := by
  unfold E.ev; simp only [h1, h2, h3]; cases q <;> simp only [h4, h5, Bool.false_and, Bool.true_and]
theorem r_and {q t : Bool} (h1 : E.ev P a env st = some ⟨.bl q, n, st1⟩) (h2 : q = true → E.ev P b env st1 = some ⟨.bl t, false, st1⟩) : E.ev P (.and a b) env st = some ⟨.bl (q && t), false, st1⟩ := by
  unfold E.ev; simp only [h1]; cases q
  · rfl
  · exact h2 rfl
theorem r_or {q t : Bool} (h1 : E.ev P a env st = some ⟨.bl q, n, st1⟩) (h2 : q = false → E.ev P b env st1 = some ⟨.bl t, false, st1⟩) : E.ev P (.or a b) env st = some ⟨.bl (q || t), false, st1⟩ := by
  unfold E.ev; simp only [h1]; cases q
  · exact h2 rfl
  · rfl
theorem r_and_t {r : Option Res} (h1 : E.ev P a env st = some ⟨.bl true, n, st1⟩) (h2 : E.ev P b env st1 = r) : E.ev P (.and a b) env st = r := by
  unfold E.ev; simp only [h1]; exact h2
theorem r_and_f (h1 : E.ev P a env st = some ⟨.bl false, n, st1⟩) : E.ev P (.and a b) env st = some ⟨.bl false, false, st1⟩ := by
  unfold E.ev; simp only [h1]
theorem r_or_f {r : Option Res} (h1 : E.ev P a env st = some ⟨.bl false, n, st1⟩) (h2 : E.ev P b env st1 = r) : E.ev P (.or a b) env st = r := by
  unfold E.ev; simp only [h1]; exact h2
theorem r_or_t (h1 : E.ev P a env st = some ⟨.bl true, n, st1⟩) : E.ev P (.or a b) env st = some ⟨.bl true, false, st1⟩ := by
  unfold E.ev; simp only [h1]
theorem r_not {q : Bool} (h1 : E.ev P a env st = some ⟨.bl q, n, st1⟩) : E.ev P (.not a) env st = some ⟨.bl (!q), false, st1⟩ := by
  unfold E.ev; simp only [h1]
theorem r_ife {q : Bool} {r : Option Res} (h1 : E.ev P c env st = some ⟨.bl q, n, st1⟩) (h2 : (if q = true then E.ev P a env st1 else E.ev P b env st1) = r) : E.ev P (.ife c a b) env st = r := by
  unfold E.ev; simp only [h1]; cases q
  · exact h2
  · exact h2
theorem r_ife_i {q : Bool} {i j : Int} (h1 : E.ev P c env st = some ⟨.bl q, n, st1⟩) (h2 : q = true → E.ev P a env st1 = some ⟨.int i, false, st1⟩) (h3 : q = false → E.ev P b env st1 = some ⟨.int j, false, st1⟩) : E.ev P (.ife c a b) env st = some ⟨.int (if q = true then i else j), false, st1⟩ := by
  unfold E.ev; simp only [h1]; cases q
  · exact h3 rfl
  · exact h2 rfl
theorem r_tup {es : Es} {ds : List D} (h1 : es.ev P env st = some (ds, st1)) (h2 : ds.length ≤ LIM) : E.ev P (.tup es) env st = some ⟨.tup ds, false, st1⟩ := by
  unfold E.ev; simp only [h1, h2, if_true]
theorem r_lst {es : Es} {ds : List D} (h1 : es.ev P env st = some (ds, st1)) (h2 : ds.length ≤ LIM) : E.ev P (.lst es) env st = some ⟨.lst ds, true, st1⟩ := by
  unfold E.ev; simp only [h1, h2, if_true]
theorem r_cel {es : Es} {ds : List D} (h1 : es.ev P env st = some (ds, st1)) (h2 : ds.length ≤ LIM) : E.ev P (.cel es) env st = some ⟨.cell st1.length, false, st1 ++ [.lst ds]⟩ := by
  unfold E.ev; simp only [h1, h2, if_true]
theorem r_mk {ds : List D} (h1 : E.ev P e env st = some ⟨.lst ds, true, st1⟩) : E.ev P (.mk e) env st = some ⟨.cell st1.length, false, st1 ++ [.lst ds]⟩ := by
  unfold E.ev; simp only [h1]
theorem r_call {f : Str} {es : Es} {ds : List D} {r : Option Res} (h1 : es.ev P env st = some (ds, st1)) (h2 : P.call f ds st1 = r) : E.ev P (.call f es) env st = r := by
  unfold E.ev; simp only [h1]; exact h2
theorem r_callP {T : Prog} {k : Nat} {f : Str} {es : Es} {ds : List D} {r : Option Res} (h1 : es.ev ⟨T.run k, T.glo, T.whl⟩ env st = some (ds, st1)) (h2 : T.run k f ds st1 = r) : E.ev ⟨T.run k, T.glo, T.whl⟩ (.call f es) env st = r :=
  r_call h1 h2
theorem r_callKP {T : Prog} {k : Nat} {f : Str} {es : Es} {ns : List Str} {pm : List Nat} {qs ds : List D} {r : Option Res} (h1 : es.ev ⟨T.run k, T.glo, T.whl⟩ env st = some (qs, st1)) (h0 : permD qs pm = some ds) (h2 : T.run k f ds st1 = r) : E.ev ⟨T.run k, T.glo, T.whl⟩ (.callK f es ns pm) env st = r := by
  unfold E.ev; simp only [h1, h0]; exact h2
theorem r_callK {f : Str} {es : Es} {ns : List Str} {pm : List Nat} {qs ds : List D} {r : Option Res} (h1 : es.ev P env st = some (qs, st1)) (h0 : permD qs pm = some ds) (h2 : P.call f ds st1 = r) : E.ev P (.callK f es ns pm) env st = r := by
  unfold E.ev; simp only [h1, h0]; exact h2
theorem r_bi {f : Bi} {es : Es} {ds : List D} (h1 : es.evB P env st = some (ds, st1)) (h2 : biD f st1 ds = some (d, n)) : E.ev P (.bi f es) env st = some ⟨d, n, st1⟩ := by
  unfold E.ev; simp only [h1, h2]
theorem r_isi {ts : List String} {q : Bool} (h1 : bw a (a.ev P) env st = some (x, st1)) (h2 : isiDs st1 x ts = some q) : E.ev P (.isi a ts) env st = some ⟨.bl q, false, st1⟩ := by
  unfold E.ev; simp only [h1, h2]
theorem r_mth {f : Mt} {es : Es} {ds : List D} (h1 : bw a (a.ev P) env st = some (x, st1)) (h0 : mtP f st1 x = true) (h2 : es.ev P env st1 = some (ds, st2)) (h3 : mtD f st2 x ds = some (d, n)) : E.ev P (.mth f a es) env st = some ⟨d, n, st2⟩ := by
  unfold E.ev; simp only [h1, h0, h2, h3, if_true]
/-- item by place: looked at a list or a tuple, an int -/
def atD (st : Store) (x y : D) : Option D := match dcD st x, keyD y with
  | some ks, some k => getK ks k
  | _, _ => match sqD st x, y with
    | some xs, .int j => (ixD xs.length j).bind fun m => xs[m]?
    | _, _ => none
theorem r_sub {i : E} (h1 : bw a (a.ev P) env st = some (x, st1)) (h2 : E.ev P i env st1 = some ⟨y, n, st2⟩) (h3 : atD st2 x y = some d) : E.ev P (.sub a i) env st = some ⟨d, false, st2⟩ := by
  unfold E.ev; simp only [h1, h2]
  unfold atD at h3
  cases e1 : dcD st2 x with
  | some ks =>
    cases e2 : keyD y with
    | some k =>
      simp only [e1, e2] at h3 ⊢
      simp only [h3]
    | none =>
      simp only [e1, e2] at h3 ⊢
      cases e3 : sqD st2 x with
      | none => simp only [e3] at h3; cases h3
      | some xs => cases y <;> simp only [e3] at h3 ⊢ <;> first | (simp only [h3]; done) | (cases h3; done) | (cases e2; done)
  | none =>
    cases e2 : keyD y with
    | some k =>
      simp only [e1, e2] at h3 ⊢
      cases e3 : sqD st2 x with
      | none => simp only [e3] at h3; cases h3
      | some xs => cases y <;> simp only [e3] at h3 ⊢ <;> first | (simp only [h3]; done) | (cases h3; done)
    | none =>
      simp only [e1, e2] at h3 ⊢
      cases e3 : sqD st2 x with
      | none => simp only [e3] at h3; cases h3
      | some xs => cases y <;> simp only [e3] at h3 ⊢ <;> first | (simp only [h3]; done) | (cases h3; done) | (cases e2; done)
theorem r_slc {lo hi : Eo} {l h : Option Int} {xs : List D} (h1 : bw a (a.ev P) env st = some (x, st1)) (h2 : lo.evI P env st1 = some (l, st2)) (h3 : hi.evI P env st2 = some (h, st3)) (h4 : rdD st3 x = some xs) : E.ev P (.slc a lo hi) env st = some ⟨.lst (cutD xs l h), true, st3⟩ := by
  unfold E.ev; simp only [h1, h2, h3, h4]
theorem r_rev {xs : List D} (h1 : bw a (a.ev P) env st = some (x, st1)) (h4 : lsD st1 x = some xs) : E.ev P (.rev a) env st = some ⟨.lst xs.reverse, true, st1⟩ := by
  unfold E.ev; simp only [h1, h4]
theorem evI_no : Eo.evI P .no env st = some (none, st) := rfl
theorem evI_so {i : Int} (h : E.ev P e env st = some ⟨.int i, n, st1⟩) : Eo.evI P (.so e) env st = some (some i, st1) := by
  unfold Eo.evI; simp only [h]
theorem evC_no : Eo.evC P .no env st = some (true, st) := rfl
theorem evC_so {q : Bool} (h : E.ev P e env st = some ⟨.bl q, n, st1⟩) : Eo.evC P (.so e) env st = some (q, st1) := by
  unfold Eo.evC; simp only [h]
def rngD (i : Int) (k : Nat) : List D := (List.range k).map fun (q : Nat) => D.int (i + (q : Nat))
theorem r_lrg {lo : Eo} {i j : Int} {l : Option Int} (h1 : lo.evI P env st = some (l, st1)) (hi : l.getD 0 = i) (h2 : E.ev P b env st1 = some ⟨.int j, n, st2⟩) (h3 : -(2 ^ 62) ≤ i ∧ i < 2 ^ 62 ∧ -(2 ^ 62) ≤ j ∧ j < 2 ^ 62 ∧ (j - i).toNat ≤ LIM) :
    E.ev P (.lrg lo b) env st = some ⟨.lst (rngD i (j - i).toNat), true, st2⟩ := by
  unfold E.ev; simp only [h1, h2]; subst hi; rw [if_pos h3]; rfl
theorem es_nil : Es.ev P .nil env st = some ([], st) := rfl
theorem es_cons {es : Es} {ds : List D} (h1 : E.ev P e env st = some ⟨d, n, st1⟩) (h2 : es.ev P env st1 = some (ds, st2)) : Es.ev P (.cons e es) env st = some (d :: ds, st2) := by
  rw [Es.ev]; simp only [h1, h2]
theorem esB_nil : Es.evB P .nil env st = some ([], st) := rfl
theorem esB_cons {es : Es} {ds : List D} (h1 : bw e (e.ev P) env st = some (d, st1)) (h2 : es.evB P env st1 = some (ds, st2)) : Es.evB P (.cons e es) env st = some (d :: ds, st2) := by
  rw [Es.evB]; simp only [h1, h2]
theorem esR_nil : Es.evR P .nil env st = some ([], st) := rfl
theorem esR_cons {es : Es} {ds : List Res} (h1 : E.ev P e env st = some ⟨d, n, st1⟩) (h2 : es.evR P env st1 = some (ds, st2)) : Es.evR P (.cons e es) env st = some (⟨d, n, st1⟩ :: ds, st2) := by
  rw [Es.evR]; simp only [h1, h2]
theorem at_sq {xs : List D} {i : Int} {j : Nat} (h : sqD st x = some xs) (hi : ixD xs.length i = some j) (hd : xs[j]? = some d) : atD st x (.int i) = some d := by
  have hn : dcD st x = none := by
    cases x with
    | cell k =>
      unfold sqD rdD lsD at h
      unfold dcD
      dsimp only at h ⊢
      split at h
      · rename_i e; rw [e]
      · cases h
    | dct k => unfold sqD rdD lsD at h; cases h
    | _ => rfl
  unfold atD
  simp only [hn, h, hi, Option.bind, hd]
theorem at_dc {ks : List (L2.Key × D)} {k : L2.Key} (h : dcD st x = some ks) (hk : keyD y = some k) (hd : getK ks k = some d) : atD st x y = some d := by
  unfold atD
  simp only [h, hk, hd]
theorem sq_cell {xs : List D} {k : Nat} (h : st[k]? = some (.lst xs)) : sqD st (.cell k) = some xs := by
  unfold sqD rdD lsD; simp only [h]
theorem sq_lst {xs : List D} : sqD st (.lst xs) = some xs := rfl
theorem sq_tup {xs : List D} : sqD st (.tup xs) = some xs := rfl
theorem ls_cell {xs : List D} {k : Nat} (h : st[k]? = some (.lst xs)) : lsD st (.cell k) = some xs := by
  unfold lsD; simp only [h]
/-! ### walks over lists that stay -/
theorem it_ovr {xs : List D} (h : E.ev P e env st = some ⟨d, n, st1⟩) (h2 : srcD d = some fun _ => some xs) : It.ev P (.ovr e) env st = some (fun _ => some xs, st1) := by
  unfold It.ev; simp only [h, h2, Option.bind, Option.isSome, if_true]
theorem it_rg1 {j : Int} (h : E.ev P e env st = some ⟨.int j, n, st1⟩) (h2 : -(2 ^ 62) ≤ j ∧ j < 2 ^ 62) : It.ev P (.rg1 e) env st = some (fun _ => some (rngD 0 j.toNat), st1) := by
  unfold It.ev; simp only [h]; rw [if_pos h2]; unfold rngD; simp
theorem it_rg2 {i j : Int} (h1 : E.ev P a env st = some ⟨.int i, n, st1⟩) (h : E.ev P b env st1 = some ⟨.int j, m, st2⟩) (h2 : -(2 ^ 62) ≤ i ∧ i < 2 ^ 62 ∧ -(2 ^ 62) ≤ j ∧ j < 2 ^ 62) : It.ev P (.rg2 a b) env st = some (fun _ => some (rngD i (j - i).toNat), st2) := by
  unfold It.ev; simp only [h1, h]; rw [if_pos h2]; rfl
def enuD (xs : List D) : List D := xs.zipIdx.map fun p => .tup [.int (p.2 : Nat), p.1]
theorem it_enu {xs : List D} (h : E.ev P e env st = some ⟨d, n, st1⟩) (h2 : srcL d = some fun _ => some xs) : It.ev P (.enu e) env st = some (fun _ => some (enuD xs), st1) := by
  unfold It.ev; simp only [h, h2, Option.bind, Option.isSome, if_true]; rfl
def zipD (xs ys : List D) : List D := (xs.zip ys).map fun p => .tup [p.1, p.2]
theorem it_zip {xs ys : List D} (h1 : E.ev P a env st = some ⟨x, n, st1⟩) (h2 : E.ev P b env st1 = some ⟨y, m, st2⟩) (h3 : srcL x = some fun _ => some xs) (h4 : srcL y = some fun _ => some ys) : It.ev P (.zip a b) env st = some (fun _ => some (zipD xs ys), st2) := by
  unfold It.ev; simp only [h1, h2, h3, h4, Option.isSome, and_self, if_true]; rfl
theorem it_zipT {xs ys : List D} (h1 : E.ev P a env st = some ⟨.tup xs, n, st1⟩) (h2 : E.ev P b env st1 = some ⟨.tup ys, m, st2⟩) : It.ev P (.zip a b) env st = some (fun _ => some (zipD xs ys), st2) := by
  unfold It.ev; simp only [h1, h2]; rfl
theorem it_key {i : Nat} {ks : List (Key × D)} (h : env[i]? = some (.fr (.dct ks))) : It.ev P (.key i) env st = some (fun _ => some (ks.map fun kv => dK kv.1), st) := by
  unfold It.ev; simp only [h]
theorem r_lc {t : Tg} {own : List Nat} {it : It} {cd : Eo} {ds rs : List D} (h1 : it.ev P env st = some (fun _ => some ds, st1)) (h2 : ds.length ≤ LIM) (h3 : lcL t (cd.evC P) (e.ev P) (wipeE env own) ds st1 = some (rs, st2)) : E.ev P (.lc e own t it cd) env st = some ⟨.lst rs, true, st2⟩ := by
  unfold E.ev; simp only [h1]; rw [lcAll_fix _ _ _ _ _ _ h2, h3]
/-! ### statements -/
theorem run_f {T : Prog} {f : Str} {F : Fn} {k : Nat} {ds : List D} {r : Res} (hf : T.fn f = some F) (hl : ds.length = F.ps) (h : ∃ o, F.body.ev ⟨T.run k, T.glo, T.whl⟩ (startE F.ns ds) st = some o ∧ ((∃ d q, o.f = .rt d q ∧ r = ⟨d, q, o.st⟩) ∨ (o.f = .nx ∧ r = ⟨.non, false, o.st⟩))) : T.run (k + 1) f ds st = some r := by
  obtain ⟨⟨f1, e1, s1⟩, h1, h2⟩ := h
  unfold Prog.run; simp only [hf, hl, if_true, h1]
  rcases h2 with ⟨d, q, rfl, rfl⟩ | ⟨rfl, rfl⟩ <;> rfl
theorem run_rt {T : Prog} {f : Str} {F : Fn} {k : Nat} {ds : List D} {q : Bool} {env' : Env} (hf : T.fn f = some F) (hl : ds.length = F.ps) (h : F.body.ev ⟨T.run k, T.glo, T.whl⟩ (startE F.ns ds) st = some ⟨.rt d q, env', st1⟩) : T.run (k + 1) f ds st = some ⟨d, q, st1⟩ :=
  run_f hf hl ⟨_, h, .inl ⟨_, _, rfl, rfl⟩⟩
theorem run_nx {T : Prog} {f : Str} {F : Fn} {k : Nat} {ds : List D} {env' : Env} (hf : T.fn f = some F) (hl : ds.length = F.ps) (h : F.body.ev ⟨T.run k, T.glo, T.whl⟩ (startE F.ns ds) st = some ⟨.nx, env', st1⟩) : T.run (k + 1) f ds st = some ⟨.non, false, st1⟩ :=
  run_f hf hl ⟨_, h, .inr ⟨rfl, rfl⟩⟩
variable {s : S} {ss s1 s2 : Ss} {env1 env2 : Env} {o : Option Out}
theorem s_nil : Ss.ev P .nil env st = some ⟨.nx, env, st⟩ := rfl
theorem s_cons (h1 : s.ev P env st = some ⟨.nx, env1, st1⟩) (h2 : ss.ev P env1 st1 = o) : Ss.ev P (.cons s ss) env st = o := by
  rw [Ss.ev]; simp only [h1]; exact h2
theorem s_frz {i : Nat} (h : ss.ev P (frzE env i) st = o) : Ss.ev P (.frz i ss) env st = o := by
  rw [Ss.ev]; exact h
theorem s_rt {q : Bool} (h1 : s.ev P env st = some ⟨.rt d q, env1, st1⟩) : Ss.ev P (.cons s ss) env st = some ⟨.rt d q, env1, st1⟩ := by
  rw [Ss.ev]; simp only [h1]
theorem s_asg {i : Nat} (h1 : E.ev P e env st = some ⟨d, n, st1⟩) (h2 : ss.ev P (env.set i (Sl.of ⟨d, n, st1⟩)) st1 = o) : Ss.ev P (.cons (.asg i e) ss) env st = o := by
  rw [Ss.ev, S.ev]; simp only [h1]; exact h2
theorem s_exp (h1 : E.ev P e env st = some ⟨d, n, st1⟩) (h2 : ss.ev P env st1 = o) : Ss.ev P (.cons (.exp e) ss) env st = o := by
  rw [Ss.ev, S.ev]; simp only [h1]; exact h2
theorem s_asgT {is : List Nat} {es : Es} {rs : List Res} (h1 : es.evR P env st = some (rs, st1)) (h0 : setAll is rs env = some env1) (h2 : ss.ev P env1 st1 = o) : Ss.ev P (.cons (.asgT is es) ss) env st = o := by
  rw [Ss.ev, S.ev]; simp only [h1, h0]; exact h2
theorem s_unp {is : List Nat} (h1 : E.ev P e env st = some ⟨d, n, st1⟩) (h0 : bindT (.tup is) d env = some env1) (h2 : ss.ev P env1 st1 = o) : Ss.ev P (.cons (.unp is e) ss) env st = o := by
  rw [Ss.ev, S.ev]; simp only [h1, h0]; exact h2
theorem s_setI {k : Nat} {i : E} (h1 : E.ev P e env st = some ⟨d, n, st1⟩) (h2 : E.ev P i env st1 = some ⟨y, m, st2⟩) (h3 : setD k y d env st2 = some (env1, st3)) (h4 : ss.ev P env1 st3 = o) : Ss.ev P (.cons (.setI k i e) ss) env st = o := by
  rw [Ss.ev, S.ev]; simp only [h1, h2, h3]; exact h4
theorem s_app {k : Nat} {xs : List D} (h1 : E.ev P e env st = some ⟨d, n, st1⟩) (h2 : env[k]? = some (.ow (.lst xs))) (h3 : xs.length < LIM) (h4 : ss.ev P (env.set k (.ow (.lst (xs ++ [d])))) st1 = o) : Ss.ev P (.cons (.app k e) ss) env st = o := by
  rw [Ss.ev, S.ev]; simp only [h1, h2, h3, if_true]; exact h4
theorem s_ret (h0 : isV e = false) (h1 : E.ev P e env st = some ⟨d, n, st1⟩) : Ss.ev P (.cons (.ret e) ss) env st = some ⟨.rt d n, env, st1⟩ := by
  rw [Ss.ev]
  cases e <;> first | (cases h0; done) | (rw [S.ev]; simp only [h1]; done) | (rw [S.ev]; simp only [h1]; intro _ h; cases h)
theorem s_retF {i : Nat} (h1 : env[i]? = some (.fr d)) : Ss.ev P (.cons (.ret (.var i)) ss) env st = some ⟨.rt d false, env, st⟩ := by
  rw [Ss.ev, S.ev]; simp only [h1]
theorem s_retO {i : Nat} (h1 : env[i]? = some (.ow d)) : Ss.ev P (.cons (.ret (.var i)) ss) env st = some ⟨.rt d true, env, st⟩ := by
  rw [Ss.ev, S.ev]; simp only [h1]
theorem s_iff_t (h1 : E.ev P c env st = some ⟨.bl true, n, st1⟩) (h2 : s1.ev P env st1 = some ⟨.nx, env2, st2⟩) (h3 : ss.ev P env2 st2 = o) : Ss.ev P (.cons (.iff c s1 s2) ss) env st = o := by
  rw [Ss.ev, S.ev]; simp only [h1, h2]; exact h3
theorem s_iff_f (h1 : E.ev P c env st = some ⟨.bl false, n, st1⟩) (h2 : s2.ev P env st1 = some ⟨.nx, env2, st2⟩) (h3 : ss.ev P env2 st2 = o) : Ss.ev P (.cons (.iff c s1 s2) ss) env st = o := by
  rw [Ss.ev, S.ev]; simp only [h1, h2]; exact h3
theorem s_iff_tr {q : Bool} (h1 : E.ev P c env st = some ⟨.bl true, n, st1⟩) (h2 : s1.ev P env st1 = some ⟨.rt d q, env2, st2⟩) : Ss.ev P (.cons (.iff c s1 s2) ss) env st = some ⟨.rt d q, env2, st2⟩ := by
  rw [Ss.ev, S.ev]; simp only [h1, h2]
theorem s_iff_fr {q : Bool} (h1 : E.ev P c env st = some ⟨.bl false, n, st1⟩) (h2 : s2.ev P env st1 = some ⟨.rt d q, env2, st2⟩) : Ss.ev P (.cons (.iff c s1 s2) ss) env st = some ⟨.rt d q, env2, st2⟩ := by
  rw [Ss.ev, S.ev]; simp only [h1, h2]
theorem s_iff_e (h1 : E.ev P c env st = some ⟨.bl false, n, st1⟩) (h3 : ss.ev P env st1 = o) : Ss.ev P (.cons (.iff c s1 .nil) ss) env st = o :=
  s_iff_f h1 rfl h3
theorem setX_cell {k c j : Nat} {i : Int} {v : D} {xs : List D} (h : env[k]? = some (.fr (.cell c))) (h2 : st[c]? = some (.lst xs)) (h3 : ixD xs.length i = some j) : setD k (.int i) v env st = some (env, st.set c (.lst (xs.set j v))) := by
  unfold setD; simp only [h, h2, h3]
theorem setX_ow {k j : Nat} {i : Int} {v : D} {xs : List D} (h : env[k]? = some (.ow (.lst xs))) (h3 : ixD xs.length i = some j) : setD k (.int i) v env st = some (env.set k (.ow (.lst (xs.set j v))), st) := by
  unfold setD; simp only [h, h3]
theorem s_augI {k m : Nat} {i : E} {j u z : Int} {q : Bool} {xs : List D} (h1 : E.ev P i env st = some ⟨.int j, n, st1⟩) (hj : 0 ≤ j) (h2 : env[k]? = some (.ow (.lst xs))) (h3 : ixD xs.length j = some m) (h4 : xs[m]? = some (.int u)) (h5 : E.ev P e env st1 = some ⟨.int z, q, st2⟩)
    (h6 : ss.ev P (env.set k (.ow (.lst (xs.set m (.int (u + z)))))) st2 = o) : Ss.ev P (.cons (.augI k i e) ss) env st = o := by
  rw [Ss.ev, S.ev]; simp only [h1, h2, h3, Option.bind, h4, h5, setX_ow h2 h3, if_neg (Int.not_lt.mpr hj)]; exact h6
theorem setX_owD {k : Nat} {y v : D} {kk : L2.Key} {ks : List (L2.Key × D)} (h : env[k]? = some (.ow (.dct ks))) (hy : keyD y = some kk) (hl : ks.length < LIM) : setD k y v env st = some (env.set k (.ow (.dct (putD ks kk v))), st) := by
  unfold setD; simp only [h, hy, hl, if_true]
/-- a loop over a list that stays -/
theorem s_for {t : Tg} {it : It} {bd : Ss} {ds : List D} (h1 : it.ev P env st = some (fun _ => some ds, st1)) (h2 : forL t (bd.ev P) ds env st1 = some ⟨.nx, env2, st2⟩) (h3 : ss.ev P env2 st2 = o) : Ss.ev P (.cons (.for t it bd) ss) env st = o := by
  rw [Ss.ev, S.ev]; simp only [h1, for_fix, h2]; exact h3
theorem s_for_rt {t : Tg} {it : It} {bd : Ss} {ds : List D} {q : Bool} (h1 : it.ev P env st = some (fun _ => some ds, st1)) (h2 : forL t (bd.ev P) ds env st1 = some ⟨.rt d q, env2, st2⟩) : Ss.ev P (.cons (.for t it bd) ss) env st = some ⟨.rt d q, env2, st2⟩ := by
  rw [Ss.ev, S.ev]; simp only [h1, for_fix, h2]
theorem f_nil {t : Tg} {b : Run Out} : forL t b [] env st = some ⟨.nx, env, st⟩ := rfl
theorem f_cons {t : Tg} {b : Run Out} {ds : List D} (h1 : bindT t d env = some env1) (h2 : b env1 st = some ⟨.nx, env2, st2⟩) (h3 : forL t b ds env2 st2 = o) : forL t b (d :: ds) env st = o := by
  rw [forL]; simp only [h1, h2]; exact h3
theorem f_rt {t : Tg} {b : Run Out} {ds : List D} {q : Bool} (h1 : bindT t d env = some env1) (h2 : b env1 st = some ⟨.rt x q, env2, st2⟩) : forL t b (d :: ds) env st = some ⟨.rt x q, env2, st2⟩ := by
  rw [forL]; simp only [h1, h2]
/-- a loop that keeps an invariant -/
theorem f_inv {α : Type} {t : Tg} {b : Run Out} {rep : α → D} (I : List α → Env → Store → Prop) : ∀ (xs : List α) (env : Env) (st : Store), I xs env st →
    (∀ y ys env st, y :: ys <:+ xs → I (y :: ys) env st → ∃ env1 env2 st2, bindT t (rep y) env = some env1 ∧ b env1 st = some ⟨.nx, env2, st2⟩ ∧ I ys env2 st2) →
    ∃ env2 st2, forL t b (xs.map rep) env st = some ⟨.nx, env2, st2⟩ ∧ I [] env2 st2
  | [], env, st, h, _ => ⟨env, st, rfl, h⟩
  | y :: ys, env, st, h, hs => by
    obtain ⟨env1, env2, st2, e1, e2, e3⟩ := hs y ys env st (List.suffix_refl _) h
    obtain ⟨env3, st3, e4, e5⟩ := f_inv I ys env2 st2 e3 fun z zs env st hz hi => hs z zs env st (hz.trans (List.suffix_cons _ _)) hi
    exact ⟨env3, st3, f_cons e1 e2 e4, e5⟩
end
/-! ### plain data: == is being the same -/
def D.pl : Nat → D → Bool
  | 0, _ => false
  | n + 1, d => match d with
    | .non => true
    | .int _ => true
    | .str s => PyData.strOk s
    | .lst xs => xs.all (D.pl n)
    | .tup xs => xs.all (D.pl n)
    | _ => false
theorem mapO_some {α : Type} {f : D → Option α} : ∀ {ds : List D} {ps : List α}, mapO f ds = some ps → ds.map f = ps.map some
  | [], ps, h => by unfold mapO at h; cases h; rfl
  | d :: ds, ps, h => by
    unfold mapO at h
    split at h
    · rename_i p qs e1 e2
      cases h
      simp [e1, mapO_some e2]
    · cases h
theorem py_plAll {n : Nat} {st : Store} (ih : ∀ d, D.pl n d = true → ∃ p, (∀ m, n ≤ m → D.py st m d = some p) ∧ p.canLay0 = true ∧ p.depth ≤ n) : ∀ (ds : List D), ds.all (D.pl n) = true →
    ∃ ps, (∀ m, n ≤ m → mapO (D.py st m) ds = some ps) ∧ PyData.canLayAll0 ps = true ∧ PyData.depthAll ps ≤ n
  | [], _ => ⟨[], fun _ _ => rfl, rfl, by simp [PyData.depthAll]⟩
  | d :: ds, h => by
    simp only [List.all_cons, Bool.and_eq_true] at h
    obtain ⟨p, h1, h2, h3⟩ := ih d h.1
    obtain ⟨ps, h4, h5, h6⟩ := py_plAll ih ds h.2
    refine ⟨p :: ps, fun m hm => ?_, ?_, ?_⟩
    · unfold mapO; rw [h1 m hm, h4 m hm]
    · simp [PyData.canLayAll0, h2, h5]
    · simp only [PyData.depthAll]; omega
theorem py_pl (st : Store) : ∀ (n : Nat) (d : D), D.pl n d = true → ∃ p, (∀ m, n ≤ m → D.py st m d = some p) ∧ p.canLay0 = true ∧ p.depth ≤ n
  | 0, d, h => by unfold D.pl at h; cases h
  | n + 1, d, h => by
    unfold D.pl at h
    cases d with
    | non => exact ⟨.none, fun m hm => (by obtain ⟨k, rfl⟩ : ∃ k, m = k + 1 := ⟨m - 1, by omega⟩; rfl), rfl, by simp [PyData.depth]⟩
    | int i => exact ⟨.int i, fun m hm => (by obtain ⟨k, rfl⟩ : ∃ k, m = k + 1 := ⟨m - 1, by omega⟩; rfl), rfl, by simp [PyData.depth]⟩
    | str i => exact ⟨.str i, fun m hm => (by obtain ⟨k, rfl⟩ : ∃ k, m = k + 1 := ⟨m - 1, by omega⟩; rfl), by simpa [PyData.canLay0] using h, by simp [PyData.depth]⟩
    | lst xs =>
      obtain ⟨ps, h1, h2, h3⟩ := py_plAll (py_pl st n) xs h
      exact ⟨.list ps, fun m hm => (by obtain ⟨k, rfl⟩ : ∃ k, m = k + 1 := ⟨m - 1, by omega⟩; unfold D.py; simp only [h1 k (by omega)]; rfl), by simpa [PyData.canLay0] using h2, by simp only [PyData.depth]; omega⟩
    | tup xs =>
      obtain ⟨ps, h1, h2, h3⟩ := py_plAll (py_pl st n) xs h
      exact ⟨.tuple ps, fun m hm => (by obtain ⟨k, rfl⟩ : ∃ k, m = k + 1 := ⟨m - 1, by omega⟩; unfold D.py; simp only [h1 k (by omega)]; rfl), by simpa [PyData.canLay0] using h2, by simp only [PyData.depth]; omega⟩
    | _ => cases h
theorem eqv_plAll {n : Nat} {st : Store} (ih : ∀ d e p q, D.pl n d = true → D.pl n e = true → D.py st n d = some p → D.py st n e = some q → (p.eqv q = true ↔ d = e)) : ∀ (ds es : List D) (ps qs : List PyData), ds.all (D.pl n) = true → es.all (D.pl n) = true → mapO (D.py st n) ds = some ps → mapO (D.py st n) es = some qs → (PyData.eqvAll ps qs = true ↔ ds = es)
  | [], [], ps, qs, _, _, h1, h2 => by unfold mapO at h1 h2; cases h1; cases h2; simp [PyData.eqvAll]
  | [], e :: es, ps, qs, _, _, h1, h2 => by
    unfold mapO at h1 h2; cases h1
    split at h2
    · cases h2; simp [PyData.eqvAll]
    · cases h2
  | d :: ds, [], ps, qs, _, _, h1, h2 => by
    unfold mapO at h1 h2; cases h2
    split at h1
    · cases h1; simp [PyData.eqvAll]
    · cases h1
  | d :: ds, e :: es, ps, qs, a1, a2, h1, h2 => by
    unfold mapO at h1 h2
    simp only [List.all_cons, Bool.and_eq_true] at a1 a2
    split at h1
    · rename_i p ps' e1 e2
      split at h2
      · rename_i q qs' e3 e4
        cases h1; cases h2
        have := eqv_plAll ih ds es _ _ a1.2 a2.2 e2 e4
        simp only [PyData.eqvAll, Bool.and_eq_true, List.cons.injEq, ih d e p q a1.1 a2.1 e1 e3, this]
      · cases h2
    · cases h1
theorem eqv_pl (st : Store) : ∀ (n : Nat) (d e : D) (p q : PyData), D.pl n d = true → D.pl n e = true → D.py st n d = some p → D.py st n e = some q → (p.eqv q = true ↔ d = e)
  | 0, d, e, p, q, h, _, _, _ => by unfold D.pl at h; cases h
  | n + 1, d, e, p, q, h, k, h1, h2 => by
    have ih := eqv_plAll (eqv_pl st n)
    unfold D.pl at h k
    unfold D.py at h1 h2
    cases d <;> cases e <;> first
      | (cases h; done)
      | (cases k; done)
      | (cases h1; cases h2; simp [PyData.eqv]; done)
      | skip
    all_goals dsimp only at h k h1 h2
    all_goals first
      | (cases h1; obtain ⟨qs, e2, rfl⟩ := Option.map_eq_some_iff.mp h2; simp [PyData.eqv]; done)
      | (cases h2; obtain ⟨qs, e2, rfl⟩ := Option.map_eq_some_iff.mp h1; simp [PyData.eqv]; done)
      | (obtain ⟨ps, e1, rfl⟩ := Option.map_eq_some_iff.mp h1; obtain ⟨qs, e2, rfl⟩ := Option.map_eq_some_iff.mp h2
         have z := ih _ _ ps qs h k e1 e2
         simp [PyData.eqv, z]; done)
theorem pl_mono : ∀ {n m : Nat} {d : D}, D.pl n d = true → n ≤ m → D.pl m d = true
  | 0, m, d, h, _ => by unfold D.pl at h; cases h
  | n + 1, 0, d, h, l => absurd l (by omega)
  | n + 1, m + 1, d, h, l => by
    unfold D.pl at h ⊢
    cases d with
    | lst xs => simp only [List.all_eq_true] at h ⊢; exact fun x hx => pl_mono (h x hx) (by omega)
    | tup xs => simp only [List.all_eq_true] at h ⊢; exact fun x hx => pl_mono (h x hx) (by omega)
    | _ => exact h
open Classical in
theorem eqD_pl {st : Store} {d e : D} (h : D.pl 30 d = true) (k : D.pl 30 e = true) : eqD st d e = some (decide (d = e)) := by
  obtain ⟨p, p1, p2, p3⟩ := py_pl st 30 d h
  obtain ⟨q, q1, q2, q3⟩ := py_pl st 30 e k
  have z := eqv_pl st 30 d e p q h k (p1 30 (Nat.le_refl _)) (q1 30 (Nat.le_refl _))
  unfold eqD D.shp
  rw [p1 30 (Nat.le_refl _), q1 30 (Nat.le_refl _)]
  have sp : SeqAt.shaped p = true := by unfold SeqAt.shaped; rw [p2]; simp; omega
  have sq : SeqAt.shaped q = true := by unfold SeqAt.shaped; rw [q2]; simp; omega
  simp only [sp, sq, if_true, Option.some.injEq]
  by_cases e1 : d = e
  · rw [decide_eq_true e1]; exact z.mpr e1
  · rw [decide_eq_false e1]; exact Bool.eq_false_iff.mpr fun h => e1 (z.mp h)
section
variable {st : Store}
theorem eqD_t {d : D} (h : D.pl 30 d = true) : cmpD .eq st d d = some true := by
  show eqD st d d = _
  rw [eqD_pl h h]; simp
theorem eqD_f {d e : D} (h : D.pl 30 d = true) (k : D.pl 30 e = true) (ne : d ≠ e) : cmpD .eq st d e = some false := by
  show eqD st d e = _
  rw [eqD_pl h k]; simp [ne]
theorem neD_t {d e : D} (h : D.pl 30 d = true) (k : D.pl 30 e = true) (ne : d ≠ e) : cmpD .ne st d e = some true := by
  show (eqD st d e).map (!·) = _
  rw [eqD_pl h k]; simp [ne]
theorem neD_f {d : D} (h : D.pl 30 d = true) : cmpD .ne st d d = some false := by
  show (eqD st d d).map (!·) = _
  rw [eqD_pl h h]; simp
theorem eqD_int (i j : Int) : cmpD .eq st (.int i) (.int j) = some (decide (i = j)) := by
  by_cases h : i = j
  · subst h; rw [eqD_t rfl]; simp
  · rw [eqD_f rfl rfl (by simpa using h)]; simp [h]
theorem neD_int (i j : Int) : cmpD .ne st (.int i) (.int j) = some (!decide (i = j)) := by
  by_cases h : i = j
  · subst h; rw [neD_f rfl]; simp
  · rw [neD_t rfl rfl (by simpa using h)]; simp [h]
end
end EV

/-! EV, part Y: the laws' common helpers: hash, cell, generator, draws. -/
namespace EV
open PySem PyProof.Rows L2
local macro_rules | `(tactic| walk_at "ev") => `(tactic| repeat' (first
  | with_reducible exact r_int | with_reducible exact r_str | with_reducible exact r_bl | with_reducible exact r_non | with_reducible exact es_nil | with_reducible exact esB_nil | with_reducible exact esR_nil | with_reducible exact evI_no | with_reducible exact evC_no
  | ((with_reducible apply r_var); rfl) | ((with_reducible apply b_var); rfl) | ((with_reducible apply b_ow); rfl)
  | ((with_reducible apply b_ev); · rfl)
  | with_reducible apply r_bin | with_reducible apply r_neg | with_reducible apply r_cmp | with_reducible apply r_not | with_reducible apply r_tup | with_reducible apply r_lst | with_reducible apply r_cel
  | with_reducible apply r_sub | with_reducible apply r_bi | with_reducible apply r_isi | with_reducible apply r_mth | with_reducible apply r_callP | with_reducible apply r_callKP | with_reducible apply r_call | with_reducible apply r_slc
  | with_reducible apply es_cons | with_reducible apply esB_cons | with_reducible apply esR_cons | with_reducible apply evI_so | with_reducible apply evC_so
  | with_reducible exact add_ok _ _ _ | with_reducible exact sub_ok _ _ _ | with_reducible exact int_ok _ _ | with_reducible exact eqD_int _ _ | with_reducible exact neD_int _ _
  | (show _ = some _; with_reducible assumption) | (show _ = some _; with_reducible apply_assumption)))
def L_hash : Fn := ⟨2, 3, (.cons (.asg 2 (.bin .mod (.bi .int (.cons (.bin .add (.bin .add (.bin .add (.bin .mul (.var 0) (.int 1140671)) (.bin .mul (.bin .mul (.int 27644437) (.var 1)) (.var 1))) (.bin .mul (.int 131) (.var 1))) (.int 19)) .nil)) (.int 2147483629)))
  (.cons (.asg 2 (.bin .mod (.bi .int (.cons (.bin .add (.bin .add (.bin .mul (.var 2) (.var 2)) (.bin .mul (.int 62089) (.var 1))) (.int 32416187)) .nil)) (.int 2147483587)))
  (.cons (.ret (.bin .mod (.bi .int (.cons (.bin .mul (.var 2) (.int 48271)) .nil)) (.int 2147483647)))
  .nil)))⟩
def L_cell : Fn := ⟨2, 2, (.cons (.iff (.cmp .lt (.var 1) (.bi .len (.cons (.var 0) .nil)))
   (.cons (.ret (.sub (.var 0) (.var 1)))
  .nil)
   .nil)
  (.cons (.ret (.bin .mod (.bi .sum (.cons (.slc (.var 0) .no (.so (.int 1))) .nil)) (.int 1000003)))
  .nil))⟩
def L_generator : Fn := ⟨2, 3, (.cons (.asg 2 (.call "_law_cell" (.cons (.var 0) (.cons (.var 1) .nil))))
  (.cons (.ret (.cel (.cons (.bin .mod (.bi .int (.cons (.bi .max (.cons (.bin .sub (.var 2) (.bin .pow (.int 10) (.int 18))) (.cons (.int 0) .nil))) .nil)) (.bin .pow (.bin .pow (.int 10) (.int 60)) (.int 10))) (.cons (.bin .mod (.bi .int (.cons (.var 2) .nil)) (.int 2147483647)) (.cons (.bin .mul (.int 1000) (.var 1)) .nil)))))
  .nil))⟩
def L_random : Fn := ⟨2, 4, (.cons (.iff (.cmp .gt (.sub (.var 0) (.int 0)) (.int 0))
   (.cons (.asg 2 (.bin .mod (.bi .int (.cons (.sub (.var 0) (.int 0)) .nil)) (.var 1)))
  (.cons (.setI 0 (.int 0) (.bin .fdiv (.sub (.var 0) (.int 0)) (.var 1)))
  (.cons (.ret (.var 2))
  .nil)))
   .nil)
  (.cons (.asg 2 (.int 0))
  (.cons (.for (.one 3) (.rg1 (.bin .add (.int 1) (.bin .fdiv (.mth .bits (.var 1) .nil) (.int 30))))
   (.cons (.setI 0 (.int 2) (.bin .add (.sub (.var 0) (.int 2)) (.int 1)))
  (.cons (.asg 2 (.bin .add (.bin .mul (.var 2) (.int 2147483587)) (.call "_law_hash" (.cons (.sub (.var 0) (.int 1)) (.cons (.sub (.var 0) (.int 2)) .nil)))))
  .nil)))
  (.cons (.ret (.bin .mod (.bi .int (.cons (.var 2) .nil)) (.var 1)))
  .nil))))⟩
section
variable {T : Prog}
theorem hash_run (hf : T.fn "_law_hash" = some L_hash) (n : Nat) (s i : Int) (st : Store) (hs : 0 ≤ s ∧ s < 2147483647) (hi : 0 ≤ i ∧ i < 10000000) :
    ∃ r, T.run (n + 1) "_law_hash" [.int s, .int i] st = some ⟨.int r, false, st⟩ ∧ 0 ≤ r ∧ r < 2147483647 := by
  have bs : Sm 31 s := Sm.of 31 hs.1 (by have := hs.2; omega)
  have bi : Sm 24 i := Sm.of 24 hi.1 (by have := hi.2; omega)
  have k1 : Sm 25 (1140671 : Int) := by decide
  have k2 : Sm 25 (27644437 : Int) := by decide
  have k3 : Sm 8 (131 : Int) := by decide
  have k4 : Sm 20 (62089 : Int) := by decide
  have k5 : Sm 20 (48271 : Int) := by decide
  have m1 := mul_ok bs k1 (by decide) st
  have m2 := mul_ok k2 bi (by decide) st
  have m3 := mul_ok (k2.mul bi) bi (by decide) st
  have m4 := mul_ok k3 bi (by decide) st
  have m6 := mul_ok k4 bi (by decide) st
  have bx : Sm 32 ((s * 1140671 + 27644437 * i * i + 131 * i + 19) % 2147483629) := Sm.of 32 (by omega) (by omega)
  have m5 := mul_ok bx bx (by decide) st
  have bY : ∀ x : Int, Sm 32 (x % 2147483587) := fun x => Sm.of 32 (by omega) (by omega)
  have m7 := fun x => mul_ok (bY x) k5 (by decide) st
  have p1 : (0 : Int) < 2147483629 := by decide
  have p2 : (0 : Int) < 2147483587 := by decide
  have p3 : (0 : Int) < 2147483647 := by decide
  have q1 := fun x => mod_ok (x := x) p1 st
  have q2 := fun x => mod_ok (x := x) p2 st
  have q3 := fun x => mod_ok (x := x) p3 st
  refine' ⟨_, ?a, ?b⟩
  case a =>
    apply run_rt hf rfl
    refine s_asg (by walk_at "ev") ?_
    refine s_asg (by walk_at "ev") ?_
    refine s_ret (by rfl) ?_
    walk_at "ev"
    exact q3 _
  case b => omega
/-- the generator's cell -/
def Gen (c : Cell) (m : Int) : Prop := ∃ g0 g1 g2 : Int, c = .lst [.int g0, .int g1, .int g2] ∧ 0 ≤ g0 ∧ 0 ≤ g1 ∧ g1 < 2147483647 ∧ 0 ≤ g2 ∧ g2 ≤ m
theorem random_run (hf : T.fn "_law_random" = some L_random) (hh : T.fn "_law_hash" = some L_hash) (n k : Nat) (st : Store) (c : Cell) (m b : Int) (hc : st[k]? = some c) (hg : Gen c m) (hm : m < 9000000) (hb : 0 < b ∧ b < 2147483648) (hbits : (Builtin.Int.intBits b : Int) / 30 = 0 ∨ (Builtin.Int.intBits b : Int) / 30 = 1) :
    ∃ r c', T.run (n + 2) "_law_random" [.cell k, .int b] st = some ⟨.int r, false, st.set k c'⟩ ∧ 0 ≤ r ∧ r < b ∧ Gen c' (m + 2) := by
  obtain ⟨g0, g1, g2, rfl, a1, a3, a4, a5, a6⟩ := hg
  have hk : k < st.length := (List.getElem?_eq_some_iff.mp hc).1
  have pb : 0 < b := hb.1
  have sb : Sm 8000 b := (Sm.of 32 (by omega) (by have := hb.2; omega)).mono (by decide)
  have q1 := fun x st => mod_ok (x := x) pb st
  have q2 := fun x st => fdiv_ok (x := x) pb sb st
  have hsq := sq_cell hc
  have hs : ∀ c : Cell, (st.set k c)[k]? = some c := fun c => List.getElem?_set_self hk
  have at0 : atD st (.cell k) (.int 0) = some (.int g0) := at_sq hsq rfl rfl
  by_cases h0 : 0 < g0
  · refine ⟨g0 % b, .lst [.int (g0 / b), .int g1, .int g2], ?_, Int.emod_nonneg _ (by omega), Int.emod_lt_of_pos _ pb, g0 / b, g1, g2, rfl, Int.ediv_nonneg a1 (by omega), a3, a4, a5, by omega⟩
    have h0' : cmpD .gt st (.int g0) (.int 0) = some true := by show some (decide _) = _; simpa using h0
    apply run_rt hf rfl
    refine' s_iff_tr ?h1 ?h2
    case h1 => walk_at "ev"
    case h2 =>
      refine' s_asg (by walk_at "ev") ?_
      refine' s_setI (by walk_at "ev") (by walk_at "ev") (setX_cell (by rfl) hc (by rfl)) ?_
      exact s_retF (by rfl)
  · have h0' : cmpD .gt st (.int g0) (.int 0) = some false := by show some (decide _) = _; simpa using h0
    obtain ⟨q, hq, hq2⟩ : ∃ q : Nat, (Builtin.Int.intBits b : Int) / 30 = q ∧ q ≤ 1 := by
      rcases hbits with h | h
      · exact ⟨0, h, by omega⟩
      · exact ⟨1, h, by omega⟩
    have s30 : Sm 8000 (30 : Int) := (show Sm 10 (30 : Int) by decide).mono (by decide)
    have q3 := fun x st => fdiv_ok (x := x) (show (0 : Int) < 30 by decide) s30 st
    have hmb : mtD .bits st (.int b) [] = some (.int (Builtin.Int.intBits b : Nat), false) := rfl
    have bm : Sm 32 (2147483587 : Int) := by decide
    have hA : ∃ env2 st2, forL (.one 3) (Ss.ev ⟨T.run (n + 1), T.glo, T.whl⟩ ((.cons (.setI 0 (.int 2) (.bin .add (.sub (.var 0) (.int 2)) (.int 1)))
  (.cons (.asg 2 (.bin .add (.bin .mul (.var 2) (.int 2147483587)) (.call "_law_hash" (.cons (.sub (.var 0) (.int 1)) (.cons (.sub (.var 0) (.int 2)) .nil)))))
  .nil)))) ((List.range (1 + q)).map fun (z : Nat) => D.int (0 + (z : Nat))) [.fr (.cell k), .fr (.int b), .fr (.int 0), .no] st = some ⟨.nx, env2, st2⟩ ∧
        ∃ (t : Nat) (dr : Int) (x3 : Sl), env2 = [.fr (.cell k), .fr (.int b), .fr (.int dr), x3] ∧ st2 = st.set k (.lst [.int g0, .int g1, .int (g2 + t)]) ∧ t ≤ 2 := by
      obtain ⟨env2, st2, e1, t, dr, x3, e2, e3, e4, e5⟩ := f_inv (rep := fun (z : Nat) => D.int (0 + (z : Nat))) (t := .one 3) (b := (Ss.ev ⟨T.run (n + 1), T.glo, T.whl⟩ ((.cons (.setI 0 (.int 2) (.bin .add (.sub (.var 0) (.int 2)) (.int 1)))
  (.cons (.asg 2 (.bin .add (.bin .mul (.var 2) (.int 2147483587)) (.call "_law_hash" (.cons (.sub (.var 0) (.int 1)) (.cons (.sub (.var 0) (.int 2)) .nil)))))
  .nil)))))
        (fun ys env st' => ∃ (t : Nat) (dr : Int) (x3 : Sl), env = [.fr (.cell k), .fr (.int b), .fr (.int dr), x3] ∧ st' = st.set k (.lst [.int g0, .int g1, .int (g2 + t)]) ∧ t + ys.length = 1 + q ∧ Sm (34 * (t + 1)) dr)
        (List.range (1 + q)) [.fr (.cell k), .fr (.int b), .fr (.int 0), .no] st ⟨0, 0, .no, rfl, by
          have : st[k] = .lst [.int g0, .int g1, .int g2] := by
            rw [List.getElem?_eq_getElem hk] at hc; exact Option.some.inj hc
          rw [show g2 + ((0 : Nat) : Int) = g2 by omega, ← this, List.set_getElem_self], by simp, by decide⟩ (by
          rintro y ys _ _ _ ⟨t, dr, x3, rfl, rfl, e1, e2⟩
          simp only [List.length_cons] at e1
          have hs1 := hs (.lst [.int g0, .int g1, .int (g2 + t)])
          have hs2 := hs (.lst [.int g0, .int g1, .int (g2 + t + 1)])
          obtain ⟨r, hr, r0, r1⟩ := hash_run hh n g1 (g2 + t + 1) (st.set k (.lst [.int g0, .int g1, .int (g2 + t + 1)])) ⟨a3, a4⟩ ⟨by omega, by omega⟩
          have a0 : atD (st.set k (.lst [.int g0, .int g1, .int (g2 + t)])) (.cell k) (.int 2) = some (.int (g2 + t)) := at_sq (sq_cell hs1) rfl rfl
          have a1 : atD (st.set k (.lst [.int g0, .int g1, .int (g2 + t + 1)])) (.cell k) (.int 1) = some (.int g1) := at_sq (sq_cell hs2) rfl rfl
          have a2 : atD (st.set k (.lst [.int g0, .int g1, .int (g2 + t + 1)])) (.cell k) (.int 2) = some (.int (g2 + t + 1)) := at_sq (sq_cell hs2) rfl rfl
          have mm := fun st => mul_ok e2 bm (by omega) st
          refine ⟨_, [.fr (.cell k), .fr (.int b), .fr (.int (dr * 2147483587 + r)), .fr (.int (0 + (y : Nat)))], st.set k (.lst [.int g0, .int g1, .int (g2 + t + 1)]), rfl, ?_, t + 1, _, _, rfl, by rw [show g2 + ((t + 1 : Nat) : Int) = g2 + t + 1 by omega], by omega, ?_⟩
          · refine' s_setI (by walk_at "ev") (by walk_at "ev") (setX_cell (by rfl) hs1 (by rfl)) ?_
            rw [List.set_set]
            show Ss.ev _ _ [.fr (.cell k), .fr (.int b), .fr (.int dr), .fr (.int (0 + (y : Nat)))] (st.set k (.lst [.int g0, .int g1, .int (g2 + t + 1)])) = _
            refine' s_asg (by walk_at "ev") ?_
            rfl
          · have := (e2.mul bm).add (Sm.of 32 r0 (by omega))
            refine Sm.mono this ?_
            omega)
      exact ⟨env2, st2, e1, t, dr, x3, e2, e3, by omega⟩
    obtain ⟨env2, st2, e1, t, dr, x3, rfl, rfl, et⟩ := hA
    have hj : (1 + (q : Int)).toNat = 1 + q := by omega
    refine ⟨dr % b, .lst [.int g0, .int g1, .int (g2 + t)], ?_, Int.emod_nonneg _ (by omega), Int.emod_lt_of_pos _ pb, g0, g1, g2 + t, rfl, a1, a3, a4, by omega, by omega⟩
    apply run_rt hf rfl
    refine' s_iff_e (n := false) (st1 := st) ?h1 ?h2
    case h1 => walk_at "ev"
    case h2 =>
      refine' s_asg (by walk_at "ev") ?_
      refine' s_for (ds := rngD 0 (1 + (q : Int)).toNat) (it_rg1 (j := 1 + (q : Int)) ?h3 (by omega)) ?h4 ?h5
      case h3 => rw [← hq]; walk_at "ev"; rfl
      case h4 => rw [hj]; exact e1
      case h5 =>
        refine' s_ret (by rfl) ?_
        walk_at "ev"
end
end EV

/-! EV, part Z: the laws' common helpers: exact, marked. -/
namespace EV
open PySem PyProof.Rows L2
local macro_rules | `(tactic| walk_at "ev") => `(tactic| repeat' (first
  | with_reducible exact r_int | with_reducible exact r_str | with_reducible exact r_bl | with_reducible exact r_non | with_reducible exact es_nil | with_reducible exact esB_nil | with_reducible exact esR_nil | with_reducible exact evI_no | with_reducible exact evC_no
  | ((with_reducible apply r_var); rfl) | ((with_reducible apply b_var); rfl) | ((with_reducible apply b_ow); rfl)
  | ((with_reducible apply b_ev); · rfl)
  | with_reducible apply r_bin | with_reducible apply r_neg | with_reducible apply r_cmp | with_reducible apply r_not | with_reducible apply r_tup | with_reducible apply r_lst | with_reducible apply r_cel
  | with_reducible apply r_sub | with_reducible apply r_bi | with_reducible apply r_isi | with_reducible apply r_mth | with_reducible apply r_callP | with_reducible apply r_callKP | with_reducible apply r_call | with_reducible apply r_slc
  | with_reducible apply es_cons | with_reducible apply esB_cons | with_reducible apply esR_cons | with_reducible apply evI_so | with_reducible apply evC_so
  | with_reducible exact add_ok _ _ _ | with_reducible exact sub_ok _ _ _ | with_reducible exact int_ok _ _ | with_reducible exact eqD_int _ _ | with_reducible exact neD_int _ _
  | (show _ = some _; with_reducible assumption) | (show _ = some _; with_reducible apply_assumption)))

local macro_rules | `(tactic| walk_at "ret") => `(tactic| ((apply s_ret); · rfl))
/-! ### comprehensions over any source -/
theorem lcGo_inv {t : Tg} {cond : Run (Bool × Store)} {elt : Run Res} {env : Env} {src : Src} {ds : List D} {f : Nat → D} (I : Nat → Store → Prop)
    (h : ∀ i (hi : i < ds.length) st, I i st → src st = some ds ∧ ∃ env2, bindT t ds[i] env = some env2 ∧ cond env2 st = some (true, st) ∧ ∃ st2 n, elt env2 st = some ⟨f i, n, st2⟩ ∧ I (i + 1) st2)
    (he : ∀ st, I ds.length st → src st = some ds) : ∀ (m : Nat) (st : Store), m ≤ ds.length → I (ds.length - m) st → ∃ st2, lcGo t cond elt env src ds.length m st = some ((List.range' (ds.length - m) m).map f, st2) ∧ I ds.length st2
  | 0, st, _, hI => by
    refine ⟨st, ?_, by simpa using hI⟩
    unfold lcGo endAt
    rw [he st (by simpa using hI)]
    simp
  | m + 1, st, hm, hI => by
    have hlt : ds.length - (m + 1) < ds.length := by omega
    obtain ⟨h1, env2, h2, h3, st2, n, h4, h5⟩ := h _ hlt st hI
    have e : ds.length - (m + 1) + 1 = ds.length - m := by omega
    rw [e] at h5
    obtain ⟨st3, h6, h7⟩ := lcGo_inv I h he m st2 (by omega) h5
    refine ⟨st3, ?_, h7⟩
    unfold lcGo itemAt
    simp only [h1, if_true, List.getElem?_eq_getElem hlt, h2, h3, h4, h6]
    rw [List.range'_succ, List.map_cons, e]
theorem lcAll_inv {t : Tg} {cond : Run (Bool × Store)} {elt : Run Res} {env : Env} {src : Src} {ds : List D} {f : Nat → D} {st : Store} (I : Nat → Store → Prop) (hs : src st = some ds) (hl : ds.length ≤ LIM) (h0 : I 0 st)
    (h : ∀ i (hi : i < ds.length) st, I i st → src st = some ds ∧ ∃ env2, bindT t ds[i] env = some env2 ∧ cond env2 st = some (true, st) ∧ ∃ st2 n, elt env2 st = some ⟨f i, n, st2⟩ ∧ I (i + 1) st2)
    (he : ∀ st, I ds.length st → src st = some ds) : ∃ st2, lcAll t cond elt env src st = some ((List.range ds.length).map f, st2) ∧ I ds.length st2 := by
  unfold lcAll
  simp only [hs, hl, if_true]
  obtain ⟨st2, h1, h2⟩ := lcGo_inv I h he ds.length st (Nat.le_refl _) (by simpa using h0)
  exact ⟨st2, by rw [h1, List.range_eq_range']; simp, h2⟩
theorem r_lcS {P : Pg} {env : Env} {st st1 st2 : Store} {e : E} {t : Tg} {own : List Nat} {it : It} {cd : Eo} {src : Src} {rs : List D} (h1 : it.ev P env st = some (src, st1)) (h3 : lcAll t (cd.evC P) (e.ev P) (wipeE env own) src st1 = some (rs, st2)) : E.ev P (.lc e own t it cd) env st = some ⟨.lst rs, true, st2⟩ := by
  unfold E.ev; simp only [h1, h3]
theorem nin_true {st : Store} {n : Nat} : cmpD .nin st (.bl false) (.lst ((List.range n).map fun _ => .bl true)) = some true := by
  have hm : ∀ (l : List Nat), mapO (D.py st 29) (l.map fun _ => D.bl true) = some (l.map fun _ => PyData.bool true) := by
    intro l; induction l with
    | nil => rfl
    | cons a l ih => simp only [List.map_cons]; unfold mapO; rw [ih]; rfl
  have h1 : D.py st 30 (.lst ((List.range n).map fun _ => .bl true)) = some (.list ((List.range n).map fun _ => .bool true)) := by
    unfold D.py; simp only [hm]; rfl
  have hc : ∀ (l : List Nat), PyData.canLayAll0 (l.map fun _ => PyData.bool true) = true ∧ PyData.depthAll (l.map fun _ => PyData.bool true) ≤ 1 := by
    intro l; induction l with
    | nil => exact ⟨rfl, by simp [PyData.depthAll]⟩
    | cons a l ih => simp only [List.map_cons, PyData.canLayAll0, PyData.canLay0, PyData.depthAll, PyData.depth, ih.1]; exact ⟨rfl, by have := ih.2; omega⟩
  have h2 : (D.lst ((List.range n).map fun _ => .bl true)).shp st = some (.list ((List.range n).map fun _ => .bool true)) := by
    unfold D.shp; rw [h1]
    have : SeqAt.shaped (.list ((List.range n).map fun _ => PyData.bool true)) = true := by
      unfold SeqAt.shaped PyData.canLay0 PyData.depth
      have := hc (List.range n)
      simp [this.1]; omega
    simp only [this, if_true]
  have h3 : (D.bl false).shp st = some (.bool false) := rfl
  show (inD st (.bl false) (.lst ((List.range n).map fun _ => .bl true))).map (!·) = _
  unfold inD
  simp only [dcD, lsD, h2, h3]
  simp [PyData.eqv]
/-! ### what is told reads as what is due -/
inductive Rd (st : Store) : Nat → D → D → Prop
  | non {n : Nat} : Rd st (n + 1) .non .non
  | bl {n : Nat} (b : Bool) : Rd st (n + 1) (.bl b) (.bl b)
  | int {n : Nat} (i : Int) : Rd st (n + 1) (.int i) (.int i)
  | str {n : Nat} (s : Str) : PyData.strOk s = true → Rd st (n + 1) (.str s) (.str s)
  | lst {n : Nat} {ts ds : List D} : ts.length = ds.length → ts.length ≤ LIM → (∀ p ∈ ts.zip ds, Rd st n p.1 p.2) → Rd st (n + 1) (.lst ts) (.lst ds)
  | cell {n k : Nat} {ts ds : List D} : st[k]? = some (.lst ts) → ts.length = ds.length → ts.length ≤ LIM → (∀ p ∈ ts.zip ds, Rd st n p.1 p.2) → Rd st (n + 1) (.cell k) (.lst ds)
  | tup {n : Nat} {ts ds : List D} : ts.length = ds.length → ts.length ≤ LIM → (∀ p ∈ ts.zip ds, Rd st n p.1 p.2) → Rd st (n + 1) (.tup ts) (.tup ds)
def L_exact : Fn := ⟨2, 4, (.cons (.iff (.isi (.var 1) ["list"])
   (.cons (.ret (.and (.isi (.var 0) ["list"]) (.and (.cmp .eq (.bi .len (.cons (.var 0) .nil)) (.bi .len (.cons (.var 1) .nil))) (.cmp .nin (.bl false) (.lc (.call "_law_exact" (.cons (.var 2) (.cons (.var 3) .nil))) [2, 3] (.tup [2, 3]) (.zip (.var 0) (.var 1)) .no)))))
  .nil)
   .nil)
  (.cons (.iff (.isi (.var 1) ["tuple"])
   (.cons (.ret (.and (.isi (.var 0) ["tuple"]) (.and (.cmp .eq (.bi .len (.cons (.var 0) .nil)) (.bi .len (.cons (.var 1) .nil))) (.cmp .nin (.bl false) (.lc (.call "_law_exact" (.cons (.var 2) (.cons (.var 3) .nil))) [2, 3] (.tup [2, 3]) (.zip (.var 0) (.var 1)) .no)))))
  .nil)
   .nil)
  (.cons (.iff (.cmp .isO (.var 1) .non)
   (.cons (.ret (.cmp .isO (.var 0) .non))
  .nil)
   .nil)
  (.cons (.iff (.cmp .isO (.var 1) (.bl true))
   (.cons (.ret (.cmp .isO (.var 0) (.bl true)))
  .nil)
   .nil)
  (.cons (.iff (.cmp .isO (.var 1) (.bl false))
   (.cons (.ret (.cmp .isO (.var 0) (.bl false)))
  .nil)
   .nil)
  (.cons (.iff (.isi (.var 1) ["int"])
   (.cons (.ret (.and (.isi (.var 0) ["int"]) (.and (.not (.isi (.var 0) ["bool"])) (.cmp .eq (.var 0) (.var 1)))))
  .nil)
   .nil)
  (.cons (.ret (.and (.isi (.var 0) ["str"]) (.cmp .eq (.var 0) (.var 1))))
  .nil)))))))⟩
section
variable {T : Prog}
/-- the comprehension of the tests of pairs -/
theorem exact_lc {n : Nat} {st : Store} {ts ds : List D} {src : Src} {env : Env} (hs : src st = some ((ts.zip ds).map fun p => .tup [p.1, p.2])) (hl : ts.length ≤ LIM) (hen : env.length = 4)
    (ih : ∀ p ∈ ts.zip ds, T.run n "_law_exact" [p.1, p.2] st = some ⟨.bl true, false, st⟩) :
    ∃ k, lcAll (.tup [2, 3]) (Eo.evC ⟨T.run n, T.glo, T.whl⟩ .no) (E.ev ⟨T.run n, T.glo, T.whl⟩ (.call "_law_exact" (.cons (.var 2) (.cons (.var 3) .nil)))) env src st = some ((List.range k).map fun _ => .bl true, st) := by
  obtain ⟨a, b, c, d, rfl⟩ : ∃ a b c d, env = [a, b, c, d] := by
    match env, hen with | [a, b, c, d], _ => exact ⟨a, b, c, d, rfl⟩
  obtain ⟨st2, h1, rfl⟩ := lcAll_inv (t := .tup [2, 3]) (cond := Eo.evC ⟨T.run n, T.glo, T.whl⟩ .no) (elt := E.ev ⟨T.run n, T.glo, T.whl⟩ (.call "_law_exact" (.cons (.var 2) (.cons (.var 3) .nil)))) (env := [a, b, c, d]) (f := fun _ => .bl true) (fun _ st' => st' = st) hs (by simp; omega) rfl (by
    rintro i hi _ rfl
    refine ⟨hs, ?_⟩
    simp only [List.length_map] at hi
    rw [List.getElem_map]
    refine ⟨[a, b, .fr (ts.zip ds)[i].1, .fr (ts.zip ds)[i].2], rfl, rfl, _, false, ?_, rfl⟩
    have := ih _ (List.getElem_mem hi)
    walk_at "ev") (by rintro _ rfl; exact hs)
  exact ⟨_, h1⟩
theorem exact_run (hf : T.fn "_law_exact" = some L_exact) {st : Store} : ∀ (n k : Nat) (t d : D), Rd st n t d → T.run (n + k) "_law_exact" [t, d] st = some ⟨.bl true, false, st⟩
  | 0, _, _, _, h => nomatch h
  | n + 1, k, t, d, h => by
    rw [Nat.succ_add]
    cases h with
    | non =>
      apply run_rt hf rfl
      refine' s_iff_e (n := false) (st1 := st) (by walk_at "ev") ?_
      refine' s_iff_e (n := false) (st1 := st) (by walk_at "ev") ?_
      refine' s_iff_tr (n := false) (st1 := st) (by walk_at "ev") ?zz
      case zz =>
        walk_at "ret"
        walk_at "ev"
    | bl b =>
      cases b with
      | true =>
        apply run_rt hf rfl
        refine' s_iff_e (n := false) (st1 := st) (by walk_at "ev") ?_
        refine' s_iff_e (n := false) (st1 := st) (by walk_at "ev") ?_
        refine' s_iff_e (n := false) (st1 := st) (by walk_at "ev") ?_
        refine' s_iff_tr (n := false) (st1 := st) (by walk_at "ev") ?zz
        case zz =>
          walk_at "ret"
          walk_at "ev"
      | false =>
        apply run_rt hf rfl
        refine' s_iff_e (n := false) (st1 := st) (by walk_at "ev") ?_
        refine' s_iff_e (n := false) (st1 := st) (by walk_at "ev") ?_
        refine' s_iff_e (n := false) (st1 := st) (by walk_at "ev") ?_
        refine' s_iff_e (n := false) (st1 := st) (by walk_at "ev") ?_
        refine' s_iff_tr (n := false) (st1 := st) (by walk_at "ev") ?zz
        case zz =>
          walk_at "ret"
          walk_at "ev"
    | int i =>
      apply run_rt hf rfl
      have he : cmpD .eq st (.int i) (.int i) = some true := eqD_t rfl
      refine' s_iff_e (n := false) (st1 := st) (by walk_at "ev") ?_
      refine' s_iff_e (n := false) (st1 := st) (by walk_at "ev") ?_
      refine' s_iff_e (n := false) (st1 := st) (by walk_at "ev") ?_
      refine' s_iff_e (n := false) (st1 := st) (by walk_at "ev") ?_
      refine' s_iff_e (n := false) (st1 := st) (by walk_at "ev") ?_
      refine' s_iff_tr (n := false) (st1 := st) (by walk_at "ev") ?zz
      case zz =>
        walk_at "ret"
        refine' r_and_t (n := false) (st1 := st) (by walk_at "ev") (r_and_t (n := false) (st1 := st) (r_not (q := false) (n := false) (by walk_at "ev")) ?_)
        exact r_cmp (b_var rfl) (b_var rfl) he
    | str s hs =>
      apply run_rt hf rfl
      have he : cmpD .eq st (.str s) (.str s) = some true := eqD_t (by unfold D.pl; exact hs)
      refine' s_iff_e (n := false) (st1 := st) (by walk_at "ev") ?_
      refine' s_iff_e (n := false) (st1 := st) (by walk_at "ev") ?_
      refine' s_iff_e (n := false) (st1 := st) (by walk_at "ev") ?_
      refine' s_iff_e (n := false) (st1 := st) (by walk_at "ev") ?_
      refine' s_iff_e (n := false) (st1 := st) (by walk_at "ev") ?_
      refine' s_iff_e (n := false) (st1 := st) (by walk_at "ev") ?_
      walk_at "ret"
      refine' r_and_t (n := false) (st1 := st) (by walk_at "ev") ?_
      exact r_cmp (b_var rfl) (b_var rfl) he
    | lst hl hm hp =>
      rename_i ts ds
      apply run_rt hf rfl
      have he : cmpD .eq st (.int ts.length) (.int ds.length) = some true := by rw [hl]; exact eqD_t rfl
      obtain ⟨z, hz⟩ := exact_lc (T := T) (n := n + k) (st := st) (ts := ts) (ds := ds) (src := fun _ => some ((ts.zip ds).map fun p => .tup [p.1, p.2])) (env := [.fr (.lst ts), .fr (.lst ds), .no, .no]) rfl hm rfl fun p hp' => exact_run hf n k p.1 p.2 (hp p hp')
      refine' s_iff_tr (n := false) (st1 := st) (by walk_at "ev") ?zz
      case zz =>
        walk_at "ret"
        refine' r_and_t (n := false) (st1 := st) (by walk_at "ev") (r_and_t (n := false) (st1 := st) (r_cmp (b_ev (by rfl) (r_bi (esB_cons (b_var rfl) esB_nil) rfl)) (b_ev (by rfl) (r_bi (esB_cons (b_var rfl) esB_nil) rfl)) he) ?_)
        exact r_cmp (b_ev (by rfl) r_bl) (b_ev (by rfl) (r_lcS (it_zip (r_var rfl) (r_var rfl) rfl rfl) hz)) nin_true
    | cell hc hl hm hp =>
      rename_i c ts ds
      apply run_rt hf rfl
      have hls := ls_cell hc
      have he : cmpD .eq st (.int ts.length) (.int ds.length) = some true := by rw [hl]; exact eqD_t rfl
      have hlen : biD .len st [.cell c] = some (.int ts.length, false) := by unfold biD sqD rdD; simp only [hls]
      have hisi : isiDs st (.cell c) ["list"] = some true := by unfold isiDs isiD tyD; simp only [hc]; rfl
      obtain ⟨z, hz⟩ := exact_lc (T := T) (n := n + k) (st := st) (ts := ts) (ds := ds) (src := fun st => match lsD st (.cell c), some ds with
          | some xs, some ys => some ((xs.zip ys).map fun p => .tup [p.1, p.2])
          | _, _ => none) (env := [.fr (.cell c), .fr (.lst ds), .no, .no]) (by simp only [hls]) hm rfl fun p hp' => exact_run hf n k p.1 p.2 (hp p hp')
      refine' s_iff_tr (n := false) (st1 := st) (by walk_at "ev") ?zz
      case zz =>
        walk_at "ret"
        refine' r_and_t (n := false) (st1 := st) (by walk_at "ev") (r_and_t (n := false) (st1 := st) (r_cmp (b_ev (by rfl) (r_bi (esB_cons (b_var rfl) esB_nil) hlen)) (b_ev (by rfl) (r_bi (esB_cons (b_var rfl) esB_nil) rfl)) he) ?_)
        refine r_cmp (b_ev (by rfl) r_bl) (b_ev (by rfl) (r_lcS (src := fun st => match lsD st (.cell c), some ds with
          | some xs, some ys => some ((xs.zip ys).map fun p => .tup [p.1, p.2])
          | _, _ => none) ?_ hz)) nin_true
        show It.ev _ (.zip (.var 0) (.var 1)) [.fr (.cell c), .fr (.lst ds), .no, .no] st = _
        unfold It.ev
        have v0 : E.ev ⟨T.run (n + k), T.glo, T.whl⟩ (.var 0) [.fr (.cell c), .fr (.lst ds), .no, .no] st = some ⟨.cell c, false, st⟩ := r_var rfl
        have v1 : E.ev ⟨T.run (n + k), T.glo, T.whl⟩ (.var 1) [.fr (.cell c), .fr (.lst ds), .no, .no] st = some ⟨.lst ds, false, st⟩ := r_var rfl
        simp only [v0, v1, srcL, hls, Option.isSome, and_self, if_true] <;> rfl
    | tup hl hm hp =>
      rename_i ts ds
      apply run_rt hf rfl
      have he : cmpD .eq st (.int ts.length) (.int ds.length) = some true := by rw [hl]; exact eqD_t rfl
      obtain ⟨z, hz⟩ := exact_lc (T := T) (n := n + k) (st := st) (ts := ts) (ds := ds) (src := fun _ => some ((ts.zip ds).map fun p => .tup [p.1, p.2])) (env := [.fr (.tup ts), .fr (.tup ds), .no, .no]) rfl hm rfl fun p hp' => exact_run hf n k p.1 p.2 (hp p hp')
      refine' s_iff_e (n := false) (st1 := st) (by walk_at "ev") ?_
      refine' s_iff_tr (n := false) (st1 := st) (by walk_at "ev") ?zz
      case zz =>
        walk_at "ret"
        refine' r_and_t (n := false) (st1 := st) (by walk_at "ev") (r_and_t (n := false) (st1 := st) (r_cmp (b_ev (by rfl) (r_bi (esB_cons (b_var rfl) esB_nil) rfl)) (b_ev (by rfl) (r_bi (esB_cons (b_var rfl) esB_nil) rfl)) he) ?_)
        exact r_cmp (b_ev (by rfl) r_bl) (b_ev (by rfl) (r_lcS (it_zipT (r_var rfl) (r_var rfl)) hz)) nin_true
/-! ### marked -/
/-- a tree of cells of lists and of tuples; what it reads as; the cells -/
inductive Tr (st : Store) : Nat → D → D → List Nat → Prop
  | non {n : Nat} : Tr st (n + 1) .non .non []
  | int {n : Nat} (i : Int) : Tr st (n + 1) (.int i) (.int i) []
  | str {n : Nat} (s : Str) : PyData.strOk s = true → Tr st (n + 1) (.str s) (.str s) []
  | cell {n k : Nat} {is : List (D × D × List Nat)} : st[k]? = some (.lst (is.map (·.1))) → is.length < LIM → (is.map (·.2.1)).getLast? ≠ some (.str "marked") → (∀ p ∈ is, Tr st n p.1 p.2.1 p.2.2) → Tr st (n + 1) (.cell k) (.lst (is.map (·.2.1))) (k :: is.flatMap (·.2.2))
  | tup {n : Nat} {is : List (D × D × List Nat)} : is.length < LIM → (∀ p ∈ is, Tr st n p.1 p.2.1 p.2.2) → Tr st (n + 1) (.tup (is.map (·.1))) (.tup (is.map (·.2.1))) (is.flatMap (·.2.2))
theorem zip_of_map {α : Type} (f g : α → D) : ∀ (l : List α), (l.map f).zip (l.map g) = l.map fun x => (f x, g x)
  | [] => rfl
  | a :: l => by simp [zip_of_map f g l]
theorem Tr.rd {st : Store} : ∀ {n : Nat} {t d : D} {cs : List Nat}, Tr st n t d cs → Rd st n t d
  | 0, _, _, _, h => nomatch h
  | n + 1, _, _, _, .non => .non
  | n + 1, _, _, _, .int i => .int i
  | n + 1, _, _, _, .str s h => .str s h
  | n + 1, _, _, _, .cell (is := is) h1 h2 h3 h4 => .cell h1 (by simp) (by simp; omega) fun p hp => by
    rw [zip_of_map] at hp
    obtain ⟨q, hq, rfl⟩ := List.mem_map.mp hp
    exact (h4 q hq).rd
  | n + 1, _, _, _, .tup (is := is) h2 h4 => .tup (by simp) (by simp; omega) fun p hp => by
    rw [zip_of_map] at hp
    obtain ⟨q, hq, rfl⟩ := List.mem_map.mp hp
    exact (h4 q hq).rd
/-- a tree stays where its cells stay -/
theorem Tr.keep {st st' : Store} : ∀ {n : Nat} {t d : D} {cs : List Nat}, Tr st n t d cs → (∀ j ∈ cs, st'[j]? = st[j]?) → Tr st' n t d cs
  | 0, _, _, _, h, _ => nomatch h
  | n + 1, _, _, _, .non, _ => .non
  | n + 1, _, _, _, .int i, _ => .int i
  | n + 1, _, _, _, .str s h, _ => .str s h
  | n + 1, _, _, _, .cell h1 h2 h3 h4, e => .cell (by rw [e _ List.mem_cons_self]; exact h1) h2 h3 fun p hp => (h4 p hp).keep fun j hj => e j (List.mem_cons_of_mem _ (List.mem_flatMap.mpr ⟨p, hp, hj⟩))
  | n + 1, _, _, _, .tup h2 h4, e => .tup h2 fun p hp => (h4 p hp).keep fun j hj => e j (List.mem_flatMap.mpr ⟨p, hp, hj⟩)
/-- what reads as plain data is that data -/
theorem Rd.py {st : Store} : ∀ {n : Nat} {t d : D}, Rd st n t d → ∀ m, n ≤ m → D.py st m t = D.py st m d ∧ ∃ p, D.py st m d = some p ∧ p.canLay0 = true ∧ p.depth ≤ n
  | 0, _, _, h, _, _ => nomatch h
  | n + 1, t, d, h, m, hm => by
    obtain ⟨k, rfl⟩ : ∃ k, m = k + 1 := ⟨m - 1, by omega⟩
    have all : ∀ (ts ds : List D), ts.length = ds.length → (∀ p ∈ ts.zip ds, Rd st n p.1 p.2) → mapO (D.py st k) ts = mapO (D.py st k) ds ∧ ∃ ps, mapO (D.py st k) ds = some ps ∧ PyData.canLayAll0 ps = true ∧ PyData.depthAll ps ≤ n := by
      intro ts
      induction ts with
      | nil =>
        intro ds hl _
        cases ds with
        | nil => exact ⟨rfl, [], rfl, rfl, by simp [PyData.depthAll]⟩
        | cons d ds => simp at hl
      | cons a ts ih =>
        intro ds hl hp
        cases ds with
        | nil => simp at hl
        | cons b ds =>
          obtain ⟨e1, p, e2, e3, e4⟩ := (hp (a, b) (by simp)).py k (by omega)
          obtain ⟨e5, ps, e6, e7, e8⟩ := ih ds (by simpa using hl) fun q hq => hp q (by simp [hq])
          refine ⟨?_, p :: ps, ?_, ?_, ?_⟩
          · unfold mapO; rw [e1, e5]
          · unfold mapO; rw [e2, e6]
          · simp [PyData.canLayAll0, e3, e7]
          · simp only [PyData.depthAll]; omega
    cases h with
    | non => exact ⟨rfl, .none, rfl, rfl, by simp [PyData.depth]⟩
    | bl b => exact ⟨rfl, .bool b, rfl, rfl, by simp [PyData.depth]⟩
    | int i => exact ⟨rfl, .int i, rfl, rfl, by simp [PyData.depth]⟩
    | str s hs => exact ⟨rfl, .str s, rfl, by simpa [PyData.canLay0] using hs, by simp [PyData.depth]⟩
    | lst hl hm hp =>
      obtain ⟨e1, ps, e2, e3, e4⟩ := all _ _ hl hp
      refine ⟨by unfold D.py; simp only [e1], .list ps, by unfold D.py; simp only [e2]; rfl, by simpa [PyData.canLay0] using e3, by simp only [PyData.depth]; omega⟩
    | tup hl hm hp =>
      obtain ⟨e1, ps, e2, e3, e4⟩ := all _ _ hl hp
      refine ⟨by unfold D.py; simp only [e1], .tuple ps, by unfold D.py; simp only [e2]; rfl, by simpa [PyData.canLay0] using e3, by simp only [PyData.depth]; omega⟩
    | cell hc hl hm hp =>
      obtain ⟨e1, ps, e2, e3, e4⟩ := all _ _ hl hp
      refine ⟨by unfold D.py; simp only [hc, e1], .list ps, by unfold D.py; simp only [e2]; rfl, by simpa [PyData.canLay0] using e3, by simp only [PyData.depth]; omega⟩
theorem Rd.shp {st : Store} {n : Nat} {t d : D} (h : Rd st n t d) (hn : n ≤ 30) : t.shp st = d.shp st ∧ ∃ p, t.shp st = some p ∧ D.py st 30 d = some p := by
  obtain ⟨e1, p, e2, e3, e4⟩ := h.py 30 hn
  have : SeqAt.shaped p = true := by unfold SeqAt.shaped; rw [e3]; simp; omega
  unfold D.shp
  rw [e1, e2]
  simp only [this, if_true]
  exact ⟨trivial, p, rfl, rfl⟩
/-- what reads as something else than a text is not that text -/
theorem Rd.eq_str {st : Store} {n : Nat} {t d : D} (h : Rd st n t d) (hn : n ≤ 30) {s : Str} (hs : PyData.strOk s = true) (hne : d ≠ .str s) : cmpD .eq st t (.str s) = some false := by
  obtain ⟨_, p, e1, e2⟩ := h.shp hn
  have e3 : (D.str s).shp st = some (.str s) := by
    have : SeqAt.shaped (.str s) = true := by
      unfold SeqAt.shaped PyData.canLay0
      rw [hs]; simp [PyData.depth]
    show (if SeqAt.shaped (.str s) = true then some (PyData.str s) else none) = _
    rw [if_pos this]
  show eqD st t (.str s) = _
  unfold eqD
  rw [e1, e3]
  show some (p.eqv (.str s)) = _
  congr 1
  unfold D.py at e2
  cases h with
  | non => cases e2; rfl
  | bl b => cases e2; rfl
  | int i => cases e2; rfl
  | str x hx =>
    cases e2
    have : x ≠ s := fun e => hne (by rw [e])
    simpa [PyData.eqv] using this
  | lst hl hm hp => obtain ⟨ps, _, rfl⟩ := Option.map_eq_some_iff.mp e2; simp [PyData.eqv]
  | tup hl hm hp => obtain ⟨ps, _, rfl⟩ := Option.map_eq_some_iff.mp e2; simp [PyData.eqv]
  | cell hc hl hm hp => obtain ⟨ps, _, rfl⟩ := Option.map_eq_some_iff.mp e2; simp [PyData.eqv]
end
end EV

/-! EV, part AA: the laws' common helpers: marked; cells and generators. -/
namespace EV
open PySem PyProof.Rows L2
local macro_rules | `(tactic| walk_at "ev") => `(tactic| repeat' (first
  | with_reducible exact r_int | with_reducible exact r_str | with_reducible exact r_bl | with_reducible exact r_non | with_reducible exact es_nil | with_reducible exact esB_nil | with_reducible exact esR_nil | with_reducible exact evI_no | with_reducible exact evC_no
  | ((with_reducible apply r_var); rfl) | ((with_reducible apply b_var); rfl) | ((with_reducible apply b_ow); rfl)
  | ((with_reducible apply b_ev); · rfl)
  | with_reducible apply r_bin | with_reducible apply r_neg | with_reducible apply r_cmp | with_reducible apply r_not | with_reducible apply r_tup | with_reducible apply r_lst | with_reducible apply r_cel
  | with_reducible apply r_sub | with_reducible apply r_bi | with_reducible apply r_isi | with_reducible apply r_mth | with_reducible apply r_callP | with_reducible apply r_callKP | with_reducible apply r_call | with_reducible apply r_slc
  | with_reducible apply es_cons | with_reducible apply esB_cons | with_reducible apply esR_cons | with_reducible apply evI_so | with_reducible apply evC_so
  | with_reducible exact add_ok _ _ _ | with_reducible exact sub_ok _ _ _ | with_reducible exact int_ok _ _ | with_reducible exact eqD_int _ _ | with_reducible exact neD_int _ _
  | (show _ = some _; with_reducible assumption) | (show _ = some _; with_reducible apply_assumption)))
local macro_rules | `(tactic| walk_at "ret") => `(tactic| ((apply s_ret); · rfl))
def L_marked : Fn := ⟨1, 3, (.cons (.iff (.isi (.var 0) ["list"])
   (.cons (.iff (.and (.cmp .ne (.var 0) (.lst .nil)) (.cmp .eq (.sub (.var 0) (.neg (.int 1))) (.str "marked")))
   (.cons (.ret (.bl false))
  .nil)
   .nil)
  (.cons (.asg 1 (.lc (.call "_law_marked" (.cons (.var 2) .nil)) [2] (.one 2) (.ovr (.var 0)) .no))
  (.cons (.app 0 (.str "marked"))
  (.cons (.ret (.cmp .nin (.bl false) (.var 1)))
  .nil))))
   .nil)
  (.cons (.iff (.isi (.var 0) ["tuple"])
   (.cons (.ret (.cmp .nin (.bl false) (.lc (.call "_law_marked" (.cons (.var 2) .nil)) [2] (.one 2) (.ovr (.var 0)) .no)))
  .nil)
   .nil)
  (.cons (.ret (.or (.cmp .isO (.var 0) .non) (.isi (.var 0) ["int", "str"])))
  .nil)))⟩
section
variable {P : Pg} {env env1 env2 : Env} {st st1 st2 : Store} {d : D} {n : Bool} {e : E} {ss : Ss} {o : Option Out}
theorem s_appC {k c : Nat} {xs ys : List D} (h1 : E.ev P e env st = some ⟨d, n, st1⟩) (h2 : env[k]? = some (.fr (.cell c))) (h5 : st[c]? = some (.lst ys)) (h6 : st1[c]? = some (.lst xs)) (h3 : xs.length < LIM) (h4 : ss.ev P env (st1.set c (.lst (xs ++ [d]))) = o) : Ss.ev P (.cons (.app k e) ss) env st = o := by
  rw [Ss.ev, S.ev]; simp only [h1, h2, h5, h6, h3, if_true]; exact h4
end
theorem Rd.ne_nil {st : Store} {n : Nat} {t : D} {ds : List D} (h : Rd st n t (.lst ds)) (hn : n ≤ 30) : cmpD .ne st t (.lst []) = some (!ds.isEmpty) := by
  obtain ⟨_, p, e1, e2⟩ := h.shp hn
  have e3 : (D.lst []).shp st = some (.list []) := rfl
  show (eqD st t (.lst [])).map (!·) = _
  unfold eqD
  rw [e1, e3]
  unfold D.py at e2
  obtain ⟨ps, e4, rfl⟩ := Option.map_eq_some_iff.mp e2
  cases ds with
  | nil => unfold mapO at e4; cases e4; rfl
  | cons a ds =>
    unfold mapO at e4
    split at e4
    · cases e4; rfl
    · cases e4
section
variable {T : Prog}
theorem marked_lc {n : Nat} {st : Store} {is : List (D × D × List Nat)} {src : Src} {env : Env} {K : List Nat} (hen : env.length = 3) (hl : is.length < LIM) (hd : (K ++ is.flatMap (·.2.2)).Nodup)
    (hs : ∀ st', (∀ j ∈ K, st'[j]? = st[j]?) → src st' = some (is.map (·.1)))
    (ih : ∀ p ∈ is, ∀ st', Tr st' n p.1 p.2.1 p.2.2 → ∃ st2, T.run n' "_law_marked" [p.1] st' = some ⟨.bl true, false, st2⟩ ∧ st2.length = st'.length ∧ ∀ j, j ∉ p.2.2 → st2[j]? = st'[j]?) (hT : ∀ p ∈ is, Tr st n p.1 p.2.1 p.2.2) :
    ∃ st2, lcAll (.one 2) (Eo.evC ⟨T.run n', T.glo, T.whl⟩ .no) (E.ev ⟨T.run n', T.glo, T.whl⟩ (.call "_law_marked" (.cons (.var 2) .nil))) env src st = some ((List.range is.length).map fun _ => .bl true, st2) ∧ st2.length = st.length ∧ ∀ j, j ∉ is.flatMap (·.2.2) → st2[j]? = st[j]? := by
  obtain ⟨a, b, c, rfl⟩ : ∃ a b c, env = [a, b, c] := by
    match env, hen with | [a, b, c], _ => exact ⟨a, b, c, rfl⟩
  have hK : ∀ st', (∀ j, j ∉ is.flatMap (·.2.2) → st'[j]? = st[j]?) → src st' = some (is.map (·.1)) := fun st' h => hs st' fun j hj => h j fun hj2 => (List.nodup_append.mp hd).2.2 j hj j hj2 rfl
  have sub : ∀ i j, j ∈ (is.take i).flatMap (·.2.2) → j ∈ is.flatMap (·.2.2) := fun i j hj => by
    obtain ⟨p, hp, hj⟩ := List.mem_flatMap.mp hj
    exact List.mem_flatMap.mpr ⟨p, List.mem_of_mem_take hp, hj⟩
  obtain ⟨st2, h1, h2, h3⟩ := lcAll_inv (t := .one 2) (cond := Eo.evC ⟨T.run n', T.glo, T.whl⟩ .no) (elt := E.ev ⟨T.run n', T.glo, T.whl⟩ (.call "_law_marked" (.cons (.var 2) .nil))) (env := [a, b, c]) (ds := is.map (·.1)) (f := fun _ => .bl true) (st := st) (src := src)
    (fun i st' => st'.length = st.length ∧ ∀ j, j ∉ (is.take i).flatMap (·.2.2) → st'[j]? = st[j]?) (hK st fun _ _ => rfl) (by simp; omega) ⟨rfl, fun _ _ => rfl⟩ (by
    rintro i hi st' ⟨e1, e2⟩
    have hi' : i < is.length := by simpa using hi
    refine ⟨hK st' fun j hj => e2 j fun z => hj (sub i j z), ?_⟩
    rw [List.getElem_map]
    refine ⟨[a, b, .fr is[i].1], rfl, rfl, ?_⟩
    have hspl : is = is.take i ++ is[i] :: is.drop (i + 1) := by
      rw [← List.drop_eq_getElem_cons hi', List.take_append_drop]
    have hnd : ((is.take i).flatMap (·.2.2) ++ (is[i].2.2 ++ (is.drop (i + 1)).flatMap (·.2.2))).Nodup := by
      have h0 := (List.nodup_append.mp hd).2.1
      rw [hspl, List.flatMap_append, List.flatMap_cons] at h0
      exact h0
    have dis : ∀ j ∈ is[i].2.2, j ∉ (is.take i).flatMap (·.2.2) := fun j hj z => (List.nodup_append.mp hnd).2.2 j z j (List.mem_append_left _ hj) rfl
    obtain ⟨st2, f1, f2, f3⟩ := ih is[i] (List.getElem_mem hi') st' ((hT _ (List.getElem_mem hi')).keep fun j hj => e2 j (dis j hj))
    refine ⟨st2, false, ?_, f2.trans e1, fun j hj => ?_⟩
    · walk_at "ev"
    · rw [List.take_succ_eq_append_getElem hi', List.flatMap_append] at hj
      simp only [List.flatMap_cons, List.flatMap_nil, List.append_nil, List.mem_append, not_or] at hj
      rw [f3 j hj.2, e2 j hj.1]) (by
    rintro st' ⟨e1, e2⟩
    exact hK st' fun j hj => e2 j fun z => hj (sub _ j z))
  rw [List.length_map] at h1 h3
  rw [List.take_of_length_le (Nat.le_refl _)] at h3
  exact ⟨st2, h1, h2, h3⟩
theorem marked_run (hf : T.fn "_law_marked" = some L_marked) : ∀ (n k : Nat) (st : Store) (t d : D) (cs : List Nat), n ≤ 30 → Tr st n t d cs → cs.Nodup →
    ∃ st2, T.run (n + k) "_law_marked" [t] st = some ⟨.bl true, false, st2⟩ ∧ st2.length = st.length ∧ ∀ j, j ∉ cs → st2[j]? = st[j]?
  | 0, _, _, _, _, _, _, h, _ => nomatch h
  | n + 1, k, st, t, d, cs, hn, h, hd => by
    rw [Nat.succ_add]
    have rd := h.rd
    cases h with
    | non =>
      refine ⟨st, ?_, rfl, fun _ _ => rfl⟩
      apply run_rt hf rfl
      refine' s_iff_e (n := false) (st1 := st) (by walk_at "ev") ?_
      refine' s_iff_e (n := false) (st1 := st) (by walk_at "ev") ?_
      walk_at "ret"
      exact r_or_t (r_cmp (b_var rfl) (b_ev rfl r_non) rfl)
    | int i =>
      refine ⟨st, ?_, rfl, fun _ _ => rfl⟩
      apply run_rt hf rfl
      refine' s_iff_e (n := false) (st1 := st) (by walk_at "ev") ?_
      refine' s_iff_e (n := false) (st1 := st) (by walk_at "ev") ?_
      walk_at "ret"
      exact r_or_f (r_cmp (b_var rfl) (b_ev rfl r_non) rfl) (r_isi (b_var rfl) rfl)
    | str s hs =>
      refine ⟨st, ?_, rfl, fun _ _ => rfl⟩
      apply run_rt hf rfl
      refine' s_iff_e (n := false) (st1 := st) (by walk_at "ev") ?_
      refine' s_iff_e (n := false) (st1 := st) (by walk_at "ev") ?_
      walk_at "ret"
      exact r_or_f (r_cmp (b_var rfl) (b_ev rfl r_non) rfl) (r_isi (b_var rfl) rfl)
    | tup hl hp =>
      rename_i is
      obtain ⟨st2, h1, h2, h3⟩ := marked_lc (T := T) (n' := n + k) (src := fun _ => some (is.map (·.1))) (env := [.fr (.tup (is.map (·.1))), .no, .no]) (K := []) rfl hl (by simpa using hd) (fun _ _ => rfl) (fun p hq st' hT => marked_run hf n k st' p.1 p.2.1 p.2.2 (by omega) hT (by
        obtain ⟨i, hi, rfl⟩ := List.mem_iff_getElem.mp hq
        have hspl : is = is.take i ++ is[i] :: is.drop (i + 1) := by
          rw [← List.drop_eq_getElem_cons hi, List.take_append_drop]
        rw [hspl, List.flatMap_append, List.flatMap_cons] at hd
        exact (List.nodup_append.mp (List.nodup_append.mp hd).2.1).1)) hp
      refine ⟨st2, ?_, h2, h3⟩
      apply run_rt hf rfl
      refine' s_iff_e (n := false) (st1 := st) (by walk_at "ev") ?_
      refine' s_iff_tr (n := false) (st1 := st) (by walk_at "ev") ?zz
      case zz =>
        walk_at "ret"
        exact r_cmp (b_ev rfl r_bl) (b_ev rfl (r_lcS (it_ovr (r_var rfl) rfl) h1)) nin_true
    | cell hc hl hm hp =>
      rename_i c is
      have hd2 := List.nodup_cons.mp hd
      have hisi : isiDs st (.cell c) ["list"] = some true := by unfold isiDs isiD tyD; simp only [hc]; rfl
      obtain ⟨st2, h1, h2, h3⟩ := marked_lc (T := T) (n' := n + k) (src := fun st => lsD st (.cell c)) (env := [.fr (.cell c), .no, .no]) (K := [c]) rfl hl (by simpa using hd) (fun st' h => ls_cell (by rw [h c (by simp)]; exact hc)) (fun p hq st' hT => marked_run hf n k st' p.1 p.2.1 p.2.2 (by omega) hT (by
        obtain ⟨i, hi, rfl⟩ := List.mem_iff_getElem.mp hq
        have hspl : is = is.take i ++ is[i] :: is.drop (i + 1) := by
          rw [← List.drop_eq_getElem_cons hi, List.take_append_drop]
        have hd3 := hd2.2
        rw [hspl, List.flatMap_append, List.flatMap_cons] at hd3
        exact (List.nodup_append.mp (List.nodup_append.mp hd3).2.1).1)) hp
      have hc2 : st2[c]? = some (.lst (is.map (·.1))) := by rw [h3 c hd2.1]; exact hc
      refine ⟨st2.set c (.lst (is.map (·.1) ++ [.str "marked"])), ?_, by rw [List.length_set]; exact h2, fun j hj => ?_⟩
      · apply run_rt hf rfl
        refine' s_iff_tr (n := false) (st1 := st) (by walk_at "ev") ?zz
        case zz =>
          refine' s_iff_e (n := false) (st1 := st) ?k1 ?k3
          case k1 =>
            have hne := rd.ne_nil hn
            cases e : is with
            | nil => rw [e] at hne; exact r_and_f (r_cmp (b_var rfl) (b_ev rfl (r_lst es_nil (by decide))) hne)
            | cons a r =>
              have hne' : cmpD .ne st (.cell c) (.lst []) = some true := by rw [e] at hne; exact hne
              have hpos : 0 < is.length := by rw [e]; simp
              obtain ⟨q, hq⟩ : ∃ q, is[is.length - 1]? = some q := ⟨_, List.getElem?_eq_getElem (by omega)⟩
              have hat : atD st (.cell c) (.int (-1)) = some q.1 := at_sq (j := is.length - 1) (sq_cell hc) (by
                show L2.ixN (is.map (·.1)).length (-1) = _
                unfold L2.ixN
                rw [List.length_map, if_neg (by omega), if_pos (by omega)]
                congr 1; omega) (by rw [List.getElem?_map, hq]; rfl)
              have hqm : q ∈ is := List.mem_of_getElem? hq
              have hqd : q.2.1 ≠ .str "marked" := fun z => hm (by rw [List.getLast?_eq_getElem?, List.length_map, List.getElem?_map, hq, Option.map_some, z])
              have he : cmpD .eq st q.1 (.str "marked") = some false := (hp q hqm).rd.eq_str (by omega) (by decide +kernel) hqd
              refine r_and_t (r_cmp (b_var rfl) (b_ev rfl (r_lst es_nil (by decide))) hne') ?_
              exact r_cmp (b_ev rfl (r_sub (b_var rfl) (r_neg (b_ev rfl r_int)) hat)) (b_ev rfl r_str) he
          case k3 =>
            refine s_asg (n := true) (r_lcS (src := fun st => lsD st (.cell c)) ?_ h1) ?_
            · show It.ev _ (.ovr (.var 0)) [.fr (.cell c), .no, .no] st = _
              unfold It.ev
              have v0 : E.ev ⟨T.run (n + k), T.glo, T.whl⟩ (.var 0) [.fr (.cell c), .no, .no] st = some ⟨.cell c, false, st⟩ := r_var rfl
              simp only [v0, srcD, srcL, Option.bind, ls_cell hc, Option.isSome, if_true]
            · refine' s_appC (n := false) r_str (by rfl) hc2 hc2 (by rw [List.length_map]; exact hl) ?_
              walk_at "ret"
              exact r_cmp (b_ev rfl r_bl) (b_ow rfl) nin_true
      · rw [List.getElem?_set_ne (fun z => hj (by rw [z]; exact List.mem_cons_self)), h3 j fun z => hj (List.mem_cons_of_mem _ z)]
theorem intsX_map : ∀ (ns : List Int), intsD (ns.map D.int) = some ns
  | [] => rfl
  | n :: ns => by simp only [List.map_cons, intsD, intsX_map ns, Option.map]
theorem cell_run (hf : T.fn "_law_cell" = some L_cell) (n : Nat) (ns : List Int) (i : Int) (hi : 0 ≤ i) (st : Store) : ∃ s, T.run (n + 1) "_law_cell" [.scr ns, .int i] st = some ⟨.int s, false, st⟩ := by
  have hlen : biD .len st [.scr ns] = some (.int ns.length, false) := by unfold biD sqD rdD; simp only [List.length_map]
  by_cases h : i < ns.length
  · have hc : cmpD .lt st (.int i) (.int ns.length) = some true := by show some (decide _) = _; simpa using h
    obtain ⟨j, rfl⟩ : ∃ j : Nat, i = j := ⟨i.toNat, by omega⟩
    have hj : j < ns.length := by omega
    have hat : atD st (.scr ns) (.int j) = some (.int ns[j]) := at_sq (j := j) (xs := ns.map D.int) rfl (by
      show L2.ixN _ _ = _
      unfold L2.ixN
      rw [List.length_map, if_pos (by omega), if_pos (by omega)]; rfl) (by rw [List.getElem?_map, List.getElem?_eq_getElem hj]; rfl)
    refine ⟨ns[j], ?_⟩
    apply run_rt hf rfl
    refine' s_iff_tr (n := false) (st1 := st) (by walk_at "ev") ?zz
    case zz =>
      walk_at "ret"
      walk_at "ev"
  · have hc : cmpD .lt st (.int i) (.int ns.length) = some false := by show some (decide _) = _; simpa using h
    have q1 := fun x => mod_ok (x := x) (show (0 : Int) < 1000003 by decide) st
    have hsum : ∃ z, biD .sum st [.lst (cutD (ns.map D.int) none (some 1))] = some (.int z, false) := by
      have : cutD (ns.map D.int) none (some 1) = (ns.take 1).map D.int := by
        cases ns with
        | nil => rfl
        | cons a r =>
          unfold cutD
          simp [HT.sIx]
      rw [this]
      exact ⟨(ns.take 1).sum, by unfold biD; simp only [lsD, Option.bind, intsX_map]⟩
    obtain ⟨z, hz⟩ := hsum
    refine ⟨z % 1000003, ?_⟩
    apply run_rt hf rfl
    refine' s_iff_e (n := false) (st1 := st) (by walk_at "ev") ?_
    walk_at "ret"
    refine r_bin (b_ev rfl (r_bi (esB_cons (b_ev rfl (r_slc (xs := ns.map D.int) (b_var rfl) evI_no (evI_so r_int) rfl)) esB_nil) hz)) (b_ev rfl r_int) (q1 _)
theorem gen_run (hf : T.fn "_law_generator" = some L_generator) (hc : T.fn "_law_cell" = some L_cell) (n : Nat) (ns : List Int) (i : Int) (hi : 0 ≤ i ∧ i < 100) (st : Store) :
    ∃ c, T.run (n + 2) "_law_generator" [.scr ns, .int i] st = some ⟨.cell st.length, false, st ++ [c]⟩ ∧ Gen c (1000 * i) := by
  obtain ⟨s, hs⟩ := cell_run hc n ns i hi.1 st
  have p2 : (0 : Int) < 2147483647 := by decide
  have pw1 : binD .pow st (.int 10) (.int 18) = some (.int (10 ^ 18), false) := by rfl
  have pw2 : binD .pow st (.int 10) (.int 60) = some (.int (10 ^ 60), false) := by rfl
  have pw3 : binD .pow st (.int (10 ^ 60)) (.int 10) = some (.int (10 ^ 600), false) := by rfl
  have p3 : (0 : Int) < 10 ^ 600 := by decide +kernel
  have q1 := fun x => mod_ok (x := x) p3 st
  have q2 := fun x => mod_ok (x := x) p2 st
  have mz := mul_ok (show Sm 20 (1000 : Int) by decide) (Sm.of 20 hi.1 (by omega)) (by decide) st
  have hmx : ∀ x y, biD .max st [.int x, .int y] = some (.int (if y > x then y else x), false) := fun _ _ => rfl
  refine ⟨.lst [.int ((if (0 : Int) > s - 10 ^ 18 then 0 else s - 10 ^ 18) % 10 ^ 600), .int (s % 2147483647), .int (1000 * i)], ?_, _, _, _, rfl, Int.emod_nonneg _ (Int.ne_of_gt p3), Int.emod_nonneg _ (by omega), Int.emod_lt_of_pos _ p2, by omega, Int.le_refl _⟩
  apply run_rt hf rfl
  refine' s_asg (d := .int s) (n := false) (st1 := st) (by walk_at "ev") ?_
  walk_at "ret"
  refine r_cel (ds := [_, _, _]) (es_cons (n := false) (st1 := st) ?_ (es_cons (n := false) (st1 := st) ?_ (es_cons (n := false) (st1 := st) ?_ es_nil))) (show 3 ≤ LIM by decide)
  · exact r_bin (b_ev rfl (r_bi (esB_cons (b_ev rfl (r_bi (esB_cons (b_ev rfl (r_bin (b_var rfl) (b_ev rfl (r_bin (b_ev rfl r_int) (b_ev rfl r_int) pw1)) (sub_ok _ _ _))) (esB_cons (b_ev rfl r_int) esB_nil)) (hmx _ _))) esB_nil) (int_ok _ _))) (b_ev rfl (r_bin (b_ev rfl (r_bin (b_ev rfl r_int) (b_ev rfl r_int) pw2)) (b_ev rfl r_int) pw3)) (q1 _)
  · exact r_bin (b_ev rfl (r_bi (esB_cons (b_var rfl) esB_nil) (int_ok _ _))) (b_ev rfl r_int) (q2 _)
  · walk_at "ev"
end
end EV

/-! EV, part BB: whole numbers, counts, greatest common parts. -/
namespace EV
open PySem PyProof.Rows L2
local macro_rules | `(tactic| walk_at "ev") => `(tactic| repeat' (first
  | with_reducible exact r_int | with_reducible exact r_str | with_reducible exact r_bl | with_reducible exact r_non | with_reducible exact es_nil | with_reducible exact esB_nil | with_reducible exact esR_nil | with_reducible exact evI_no | with_reducible exact evC_no
  | ((with_reducible apply r_var); rfl) | ((with_reducible apply b_var); rfl) | ((with_reducible apply b_ow); rfl)
  | ((with_reducible apply b_ev); · rfl)
  | with_reducible apply r_bin | with_reducible apply r_neg | with_reducible apply r_cmp | with_reducible apply r_not | with_reducible apply r_tup | with_reducible apply r_lst | with_reducible apply r_cel
  | with_reducible apply r_sub | with_reducible apply r_bi | with_reducible apply r_isi | with_reducible apply r_mth | with_reducible apply r_callP | with_reducible apply r_callKP | with_reducible apply r_call | with_reducible apply r_slc
  | with_reducible apply es_cons | with_reducible apply esB_cons | with_reducible apply esR_cons | with_reducible apply evI_so | with_reducible apply evC_so
  | with_reducible exact add_ok _ _ _ | with_reducible exact sub_ok _ _ _ | with_reducible exact int_ok _ _ | with_reducible exact eqD_int _ _ | with_reducible exact neD_int _ _
  | (show _ = some _; with_reducible assumption) | (show _ = some _; with_reducible apply_assumption)))
local macro_rules | `(tactic| walk_at "ret") => `(tactic| ((apply s_ret); · rfl))
section
variable {P : Pg} {env env1 env2 : Env} {st st1 st2 : Store} {c : E} {b ss : Ss} {o : Option Out}
theorem w_end {f : Run (Bool × Store)} {g : Run Out} {n : Nat} (hc : f env st = some (false, st1)) : whlGo f g (n + 1) env st = some ⟨.nx, env, st1⟩ := by
  unfold whlGo; simp only [hc]
theorem w_step {f : Run (Bool × Store)} {g : Run Out} {n : Nat} (hc : f env st = some (true, st1)) (hb : g env st1 = some ⟨.nx, env2, st2⟩) (h : whlGo f g n env2 st2 = o) : whlGo f g (n + 1) env st = o := by
  rw [whlGo]; simp only [hc, hb]; exact h
theorem s_whl (h : whlGo (Eo.evC P (.so c)) (b.ev P) P.whl env st = some ⟨.nx, env1, st1⟩) (h2 : ss.ev P env1 st1 = o) : Ss.ev P (.cons (.whl c b) ss) env st = o := by
  rw [Ss.ev, S.ev]; simp only [h]; exact h2
end
def L_whole : Fn := ⟨1, 1, (.cons (.ret (.and (.isi (.var 0) ["int"]) (.not (.isi (.var 0) ["bool"])))) .nil)⟩
def L_count : Fn := ⟨1, 1, (.cons (.ret (.and (.call "is_whole" (.cons (.var 0) .nil)) (.cmp .ge (.var 0) (.int 0)))) .nil)⟩
def L_common : Fn := ⟨2, 2, (.cons (.asgT [0, 1] (.cons (.bi .abs (.cons (.var 0) .nil)) (.cons (.bi .abs (.cons (.var 1) .nil)) .nil)))
  (.cons (.whl (.cmp .gt (.var 1) (.int 0))
   (.frz 1 (.cons (.asgT [0, 1] (.cons (.var 1) (.cons (.bin .mod (.var 0) (.var 1)) .nil)))
  .nil)))
  (.cons (.ret (.var 0))
  .nil)))⟩
def L_lowest : Fn := ⟨2, 3, (.cons (.asg 2 (.call "common_of" (.cons (.var 0) (.cons (.var 1) .nil))))
  (.cons (.iff (.cmp .lt (.var 1) (.int 0))
   (.cons (.asg 2 (.bin .sub (.int 0) (.var 2)))
  .nil)
   .nil)
  (.cons (.ret (.tup (.cons (.bin .fdiv (.var 0) (.var 2)) (.cons (.bin .fdiv (.var 1) (.var 2)) .nil))))
  .nil)))⟩
section
variable {T : Prog}
theorem wholeT_run (hf : T.fn "is_whole" = some L_whole) (n : Nat) (i : Int) (st : Store) : T.run (n + 1) "is_whole" [.int i] st = some ⟨.bl true, false, st⟩ := by
  apply run_rt hf rfl
  walk_at "ret"
  exact r_and_t (r_isi (b_var rfl) rfl) (r_not (q := false) (r_isi (b_var rfl) rfl))
theorem countT_run (hf : T.fn "is_whole" = some L_whole) (hf2 : T.fn "is_count" = some L_count) (n : Nat) (i : Int) (hi : 0 ≤ i) (st : Store) : T.run (n + 2) "is_count" [.int i] st = some ⟨.bl true, false, st⟩ := by
  have hc : cmpD .ge st (.int i) (.int 0) = some true := by show some (decide _) = _; simpa using hi
  apply run_rt hf2 rfl
  walk_at "ret"
  exact r_and_t (r_callP (es_cons (r_var rfl) es_nil) (wholeT_run hf n i st)) (r_cmp (b_var rfl) (b_ev rfl r_int) hc)
/-- the loop of common_of -/
theorem gcd_loop (P : Pg) (st : Store) : ∀ (k : Nat) (a b : Nat) (m : Nat), b < 2 ^ k → ∃ b', whlGo (Eo.evC P (.so (.cmp .gt (.var 1) (.int 0)))) (Ss.ev P (.frz 1 (.cons (.asgT [0, 1] (.cons (.var 1) (.cons (.bin .mod (.var 0) (.var 1)) .nil))) .nil))) (m + (2 * k + 2)) [.fr (.int a), .fr (.int b)] st = some ⟨.nx, [.fr (.int (Nat.gcd a b : Nat)), b'], st⟩ := by
  intro k
  have one : ∀ (a b : Nat) (n : Nat) (o : Option Out), 0 < b → whlGo (Eo.evC P (.so (.cmp .gt (.var 1) (.int 0)))) (Ss.ev P (.frz 1 (.cons (.asgT [0, 1] (.cons (.var 1) (.cons (.bin .mod (.var 0) (.var 1)) .nil))) .nil))) n [.fr (.int b), .fr (.int (a % b : Nat))] st = o →
      whlGo (Eo.evC P (.so (.cmp .gt (.var 1) (.int 0)))) (Ss.ev P (.frz 1 (.cons (.asgT [0, 1] (.cons (.var 1) (.cons (.bin .mod (.var 0) (.var 1)) .nil))) .nil))) (n + 1) [.fr (.int a), .fr (.int b)] st = o := by
    intro a b n o hb h
    have hgt : cmpD .gt st (.int b) (.int 0) = some true := by show some (decide _) = _; simp; omega
    have hm := mod_ok (x := (a : Int)) (show (0 : Int) < (b : Int) by omega) st
    have e : (a : Int) % (b : Int) = ((a % b : Nat) : Int) := by simp
    rw [e] at hm
    exact w_step (evC_so (r_cmp (b_var rfl) (b_ev rfl r_int) hgt)) (s_frz (s_asgT (rs := [⟨.int b, false, st⟩, ⟨.int (a % b : Nat), false, st⟩]) (esR_cons (r_var rfl) (esR_cons (r_bin (b_var rfl) (b_var rfl) hm) esR_nil)) rfl rfl)) h
  have zero : ∀ (a : Nat) (n : Nat), whlGo (Eo.evC P (.so (.cmp .gt (.var 1) (.int 0)))) (Ss.ev P (.frz 1 (.cons (.asgT [0, 1] (.cons (.var 1) (.cons (.bin .mod (.var 0) (.var 1)) .nil))) .nil))) (n + 1) [.fr (.int a), .fr (.int (0 : Nat))] st = some ⟨.nx, [.fr (.int a), .fr (.int (0 : Nat))], st⟩ := by
    intro a n
    exact w_end (evC_so (r_cmp (b_var rfl) (b_ev rfl r_int) rfl))
  induction k with
  | zero =>
    intro a b m hb
    have : b = 0 := by simpa using hb
    subst this
    exact ⟨.fr (.int (0 : Nat)), by rw [Nat.gcd_zero_right]; exact zero a (m + 1)⟩
  | succ k ih =>
    intro a b m hb
    by_cases h0 : b = 0
    · subst h0
      exact ⟨.fr (.int (0 : Nat)), by rw [Nat.gcd_zero_right]; exact zero a (m + (2 * (k + 1) + 1))⟩
    · by_cases h1 : a % b = 0
      · refine ⟨.fr (.int (0 : Nat)), one a b (m + (2 * (k + 1) + 1)) _ (by omega) ?_⟩
        rw [h1]
        have e : Nat.gcd a b = b := by rw [Nat.gcd_comm, Nat.gcd_rec, h1, Nat.gcd_zero_left]
        rw [e]
        exact zero b (m + 2 * (k + 1))
      · have hlt : a % b < b := Nat.mod_lt _ (by omega)
        have h2 : b % (a % b) < 2 ^ k := by
          have h3 : b % (a % b) < a % b := Nat.mod_lt _ (by omega)
          have h4 := Nat.div_add_mod b (a % b)
          have h5 : 1 ≤ b / (a % b) := (Nat.one_le_div_iff (by omega)).mpr (by omega)
          have h6 : a % b * 1 ≤ a % b * (b / (a % b)) := Nat.mul_le_mul_left _ h5
          have h7 : 2 ^ (k + 1) = 2 * 2 ^ k := by rw [Nat.pow_succ]; omega
          omega
        obtain ⟨b', hb'⟩ := ih (a % b) (b % (a % b)) m h2
        refine ⟨b', one a b (m + (2 * (k + 1) + 1)) _ (by omega) (one b (a % b) (m + (2 * k + 2)) _ (by omega) ?_)⟩
        have e : Nat.gcd a b = Nat.gcd (a % b) (b % (a % b)) := by
          rw [Nat.gcd_comm a b, Nat.gcd_rec b a, Nat.gcd_rec (a % b) b, Nat.gcd_comm]
        rw [e]
        exact hb'
theorem abs_nat (a : Nat) (st : Store) : biD .abs st [.int (a : Int)] = some (.int (a : Int), false) := by
  show some (D.int (if (a : Int) < 0 then -(a : Int) else a), false) = _
  rw [if_neg (by omega)]
theorem common_run (hf : T.fn "common_of" = some L_common) (hw : T.whl = 1000000) (n : Nat) (a b : Nat) (hb : b < 2 ^ 8000) (st : Store) : T.run (n + 1) "common_of" [.int a, .int b] st = some ⟨.int (Nat.gcd a b : Nat), false, st⟩ := by
  obtain ⟨b', h⟩ := gcd_loop ⟨T.run n, T.glo, T.whl⟩ st 8000 a b (1000000 - 16002) hb
  apply run_rt hf rfl
  refine s_asgT (rs := [⟨.int a, false, st⟩, ⟨.int b, false, st⟩]) (esR_cons (r_bi (esB_cons (b_var rfl) esB_nil) (abs_nat a st)) (esR_cons (r_bi (esB_cons (b_var rfl) esB_nil) (abs_nat b st)) esR_nil)) rfl ?_
  refine s_whl (env1 := [.fr (.int (Nat.gcd a b : Nat)), b']) (st1 := st) ?_ (s_retF (by rfl))
  show whlGo _ _ T.whl _ _ = _
  rw [hw]
  exact h
/-- a fraction in lowest terms, as data -/
def frD (a b : Nat) : D := .tup [.int (a / Nat.gcd a b : Nat), .int (b / Nat.gcd a b : Nat)]
theorem lowest_run (hf : T.fn "common_of" = some L_common) (hf2 : T.fn "lowest_of" = some L_lowest) (hw : T.whl = 1000000) (n : Nat) (a b : Nat) (hb0 : 0 < b) (hb : b < 2 ^ 8000) (st : Store) : T.run (n + 2) "lowest_of" [.int a, .int b] st = some ⟨frD a b, false, st⟩ := by
  have c := common_run hf hw n a b hb st
  have g0 : 0 < Nat.gcd a b := Nat.gcd_pos_of_pos_right _ hb0
  have gl : Nat.gcd a b ≤ b := Nat.gcd_le_right _ hb0
  have hg : Sm 8000 ((Nat.gcd a b : Nat) : Int) := by unfold Sm; simp only [Int.natAbs_natCast]; omega
  have hlt : cmpD .lt st (.int b) (.int 0) = some false := by show some (decide _) = _; simp
  have q : ∀ x : Nat, binD .fdiv st (.int x) (.int (Nat.gcd a b : Nat)) = some (.int (x / Nat.gcd a b : Nat), false) := fun x => by
    rw [fdiv_ok (by omega) hg]
    simp
  apply run_rt hf2 rfl
  refine s_asg (r_callP (es_cons (r_var rfl) (es_cons (r_var rfl) es_nil)) c) ?_
  refine s_iff_e (n := false) (st1 := st) (r_cmp (b_var rfl) (b_ev rfl r_int) hlt) ?_
  exact s_ret rfl (r_tup (es_cons (r_bin (b_var rfl) (b_var rfl) (q a)) (es_cons (r_bin (b_var rfl) (b_var rfl) (q b)) es_nil)) (show 2 ≤ LIM by decide))
end
/-! ### as many turns as five a figure are enough -/
def fibF : Nat → Nat
  | 0 => 0
  | 1 => 1
  | n + 2 => fibF n + fibF (n + 1)
def eucl : Nat → Nat × Nat → Nat × Nat
  | 0, p => p
  | n + 1, p => eucl n (if 0 < p.2 then (p.2, p.1 % p.2) else (p.1, 0))
theorem eucl_zero : ∀ (n a : Nat), eucl n (a, 0) = (a, 0)
  | 0, a => rfl
  | n + 1, a => by unfold eucl; simp only [Nat.lt_irrefl, if_false]; exact eucl_zero n a
theorem eucl_gcd : ∀ (n a b : Nat), Nat.gcd (eucl n (a, b)).1 (eucl n (a, b)).2 = Nat.gcd a b
  | 0, a, b => rfl
  | n + 1, a, b => by
    unfold eucl
    by_cases h : 0 < b
    · simp only [h, if_true]
      rw [eucl_gcd n b (a % b), Nat.gcd_comm a b, Nat.gcd_rec b a, Nat.gcd_comm]
    · have : b = 0 := by omega
      subst this
      simp only [Nat.lt_irrefl, if_false]
      rw [eucl_gcd n a 0]
theorem fib_le : ∀ n, fibF (n + 1) ≤ fibF (n + 2)
  | 0 => by decide
  | n + 1 => by
    show fibF (n + 2) ≤ fibF (n + 1) + fibF (n + 2)
    omega
theorem lame_gt : ∀ (n a b : Nat), b < a → b < fibF (n + 2) ∨ a < fibF (n + 3) → (eucl n (a, b)).2 = 0
  | 0, a, b, h, hl => by
    have h2 : fibF 2 = 1 := rfl
    have h3 : fibF 3 = 2 := rfl
    show b = 0
    rcases hl with z | z
    · rw [h2] at z; omega
    · rw [h3] at z; omega
  | n + 1, a, b, h, hl => by
    unfold eucl
    by_cases hb : 0 < b
    · simp only [hb, if_true]
      refine lame_gt n b (a % b) (Nat.mod_lt _ hb) ?_
      have f : fibF (n + 4) = fibF (n + 2) + fibF (n + 3) := rfl
      by_cases z : b < fibF (n + 3)
      · exact .inr z
      · refine .inl ?_
        have z2 : a < fibF (n + 4) := by
          rcases hl with y | y
          · exact absurd y z
          · exact y
        have h4 : a % b ≤ a - b := by
          rw [Nat.mod_eq_sub_mod (by omega)]
          exact Nat.mod_le _ _
        omega
    · have : b = 0 := by omega
      subst this
      simp only [Nat.lt_irrefl, if_false]
      rw [eucl_zero]
theorem lame (n a b : Nat) (h : b < fibF (n + 3)) : (eucl (n + 1) (a, b)).2 = 0 := by
  unfold eucl
  by_cases hb : 0 < b
  · simp only [hb, if_true]
    exact lame_gt n b (a % b) (Nat.mod_lt _ hb) (.inr h)
  · have : b = 0 := by omega
    subst this
    simp only [Nat.lt_irrefl, if_false]
    rw [eucl_zero]
theorem fib_ten : ∀ d, 10 ^ d ≤ fibF (5 * d + 3)
  | 0 => by decide
  | d + 1 => by
    have ih := fib_ten d
    have e : 5 * (d + 1) + 3 = (5 * d + 3) + 5 := by omega
    rw [e]
    generalize hn : 5 * d + 3 = n at *
    obtain ⟨k, rfl⟩ : ∃ k, n = k + 1 := ⟨n - 1, by omega⟩
    have f2 : fibF (k + 2) = fibF k + fibF (k + 1) := rfl
    have f3 : fibF (k + 3) = fibF (k + 1) + fibF (k + 2) := rfl
    have f4 : fibF (k + 4) = fibF (k + 2) + fibF (k + 3) := rfl
    have f5 : fibF (k + 5) = fibF (k + 3) + fibF (k + 4) := rfl
    have f6 : fibF (k + 6) = fibF (k + 4) + fibF (k + 5) := rfl
    have hl : fibF (k + 1) ≤ 2 * fibF k := by
      obtain ⟨j, rfl⟩ : ∃ j, k = j + 2 := ⟨k - 2, by omega⟩
      have g2 : fibF (j + 3) = fibF (j + 1) + fibF (j + 2) := rfl
      have := fib_le j
      show fibF (j + 3) ≤ 2 * fibF (j + 2)
      omega
    have hp : 10 ^ (d + 1) = 10 ^ d * 10 := Nat.pow_succ _ _
    show 10 ^ (d + 1) ≤ fibF (k + 6)
    omega
/-- five turns a figure, and one -/
theorem eucl_enough (a b d : Nat) (h : b < 10 ^ d) : eucl (5 * d + 1) (a, b) = (Nat.gcd a b, 0) := by
  have h2 := lame (5 * d) a b (Nat.lt_of_lt_of_le h (fib_ten d))
  have h3 := eucl_gcd (5 * d + 1) a b
  rw [h2, Nat.gcd_zero_right] at h3
  rw [← h3, ← h2]
end EV

/-! k88: dictionaries of counts, as counting functions. -/
namespace EV
open PySem PyProof.Rows L2
abbrev Asc := List (Int × Nat)
def getA (f : Asc) (k : Int) : Option Nat := (f.find? fun p => decide (p.1 = k)).map (·.2)
def putA (f : Asc) (k : Int) (v : Nat) : Asc := if (f.any fun p => decide (p.1 = k)) = true then f.map fun p => if p.1 = k then (p.1, v) else p else f ++ [(k, v)]
def asD (f : Asc) : List (L2.Key × D) := f.map fun p => (Sum.inl p.1, .int (p.2 : Nat))
theorem getK_as (f : Asc) (k : Int) : getK (asD f) (Sum.inl k) = (getA f k).map fun v => D.int (v : Nat) := by
  unfold getK getA asD
  induction f with
  | nil => rfl
  | cons p f ih =>
    simp only [List.map_cons, List.find?_cons]
    by_cases h : p.1 = k
    · simp [h]
    · simp only [Sum.inl.injEq, h, decide_false]
      exact ih
theorem putD_as (f : Asc) (k : Int) (v : Nat) : putD (asD f) (Sum.inl k) (.int (v : Nat)) = asD (putA f k v) := by
  have ha : ((asD f).any fun kv => decide (kv.1 = Sum.inl k)) = f.any fun p => decide (p.1 = k) := by
    unfold asD; rw [List.any_map]; congr 1; funext p; simp
  unfold putD putA
  rw [ha]
  split
  · unfold asD
    rw [List.map_map, List.map_map]
    apply List.map_congr_left
    intro p _
    by_cases h : p.1 = k
    · simp [h]
    · simp [h]
  · unfold asD; simp
theorem getA_none {f : Asc} {k : Int} : getA f k = none ↔ k ∉ f.map (·.1) := by
  unfold getA
  rw [Option.map_eq_none_iff, List.find?_eq_none]
  simp only [decide_eq_true_eq, List.mem_map, not_exists, not_and]
theorem getA_put (f : Asc) (k x : Int) (v : Nat) : getA (putA f k v) x = if x = k then some v else getA f x := by
  unfold putA
  split
  · rename_i ha
    induction f with
    | nil => simp at ha
    | cons p f ih =>
      unfold getA
      simp only [List.map_cons, List.find?_cons]
      by_cases hp : p.1 = k
      · by_cases hx : x = k
        · subst hx; simp [hp]
        · have : ¬ k = x := fun z => hx z.symm
          simp only [hp, if_true, this, decide_false, hx, if_false]
          have e : (List.map (fun p => if p.1 = k then (p.1, v) else p) f).find? (fun p => decide (p.1 = x)) = f.find? (fun p => decide (p.1 = x)) := by
            clear ih ha
            induction f with
            | nil => rfl
            | cons q f ih2 =>
              simp only [List.map_cons, List.find?_cons]
              by_cases hq : q.1 = k
              · simp only [hq, if_true, this, decide_false]; exact ih2
              · simp only [hq, if_false]
                by_cases hqx : q.1 = x
                · simp [hqx]
                · simp only [hqx, decide_false]; exact ih2
          rw [e]
      · have ha2 : (f.any fun p => decide (p.1 = k)) = true := by simpa [hp] using ha
        simp only [hp, if_false]
        by_cases hx : p.1 = x
        · have : ¬ x = k := fun z => hp (hx.trans z)
          simp [hx, this]
        · simp only [hx, decide_false]
          exact ih ha2
  · rename_i ha
    have hn : k ∉ f.map (·.1) := by
      intro z
      obtain ⟨p, hp, rfl⟩ := List.mem_map.mp z
      exact ha (List.any_eq_true.mpr ⟨p, hp, by simp⟩)
    unfold getA
    rw [List.find?_append]
    by_cases hx : x = k
    · subst hx
      have := getA_none.mpr hn
      unfold getA at this
      rw [Option.map_eq_none_iff] at this
      rw [this]
      simp
    · have : ¬ k = x := fun z => hx z.symm
      simp [this, hx]
theorem putA_nodup {f : Asc} {k : Int} {v : Nat} (h : (f.map (·.1)).Nodup) : ((putA f k v).map (·.1)).Nodup := by
  unfold putA
  split
  · have : (f.map fun p => if p.1 = k then (p.1, v) else p).map (·.1) = f.map (·.1) := by
      rw [List.map_map]
      apply List.map_congr_left
      intro p _
      by_cases hp : p.1 = k <;> simp [hp]
    rw [this]; exact h
  · rename_i ha
    rw [List.map_append]
    refine List.nodup_append.mpr ⟨h, by simp, ?_⟩
    intro a h1 b h2 e
    simp only [List.map_cons, List.map_nil, List.mem_singleton] at h2
    subst e; subst h2
    obtain ⟨p, hp, hk⟩ := List.mem_map.mp h1
    exact ha (List.any_eq_true.mpr ⟨p, hp, by simp [hk]⟩)
/-- the dictionary says how often each is there -/
structure RpC (f : Asc) (c : Int → Nat) : Prop where
  nd : (f.map (·.1)).Nodup
  get : ∀ k, getA f k = if c k = 0 then none else some (c k)
theorem RpC.key {f : Asc} {c : Int → Nat} (h : RpC f c) {k : Int} : k ∈ f.map (·.1) ↔ c k ≠ 0 := by
  have := (getA_none (f := f) (k := k))
  rw [h.get k] at this
  by_cases z : c k = 0
  · simp only [z, if_true, true_iff] at this
    exact ⟨fun y => absurd y this, fun y => absurd z y⟩
  · simp only [z, if_false, reduceCtorEq, false_iff, Classical.not_not] at this
    exact ⟨fun _ => z, fun _ => this⟩
theorem RpC.put {f : Asc} {c : Int → Nat} (h : RpC f c) (k : Int) {v : Nat} (hv : 0 < v) : RpC (putA f k (c k + v)) (fun x => c x + if x = k then v else 0) := by
  refine ⟨putA_nodup h.nd, fun x => ?_⟩
  rw [getA_put]
  by_cases hx : x = k
  · subst hx; simp only [if_true]; rw [if_neg (by omega)]
  · simp only [hx, if_false, Nat.add_zero]; exact h.get x
theorem RpC.congr {f : Asc} {c d : Int → Nat} (h : RpC f c) (e : ∀ x, c x = d x) : RpC f d := by
  have : c = d := funext e
  rw [← this]; exact h
theorem RpC.val {f : Asc} {c : Int → Nat} (h : RpC f c) {p : Int × Nat} (hp : p ∈ f) : p.2 = c p.1 ∧ 0 < p.2 := by
  have h1 : getA f p.1 = some p.2 := by
    have hn := h.nd
    clear h
    unfold getA
    induction f with
    | nil => cases hp
    | cons q f ih =>
      simp only [List.map_cons, List.nodup_cons] at hn
      rcases List.mem_cons.mp hp with e | hp
      · subst e; simp
      · have : q.1 ≠ p.1 := fun z => hn.1 (List.mem_map.mpr ⟨p, hp, z.symm⟩)
        simp only [List.find?_cons, this, decide_false]
        exact ih hp hn.2
  rw [h.get] at h1
  by_cases z : c p.1 = 0
  · rw [if_pos z] at h1; cases h1
  · rw [if_neg z] at h1
    have := Option.some.inj h1
    omega
def expd (f : Asc) : List Int := f.flatMap fun p => List.replicate p.2 p.1
theorem expd_count : ∀ (f : Asc) (x : Int), (f.map (·.1)).Nodup → (expd f).count x = (getA f x).getD 0
  | [], x, _ => rfl
  | p :: f, x, h => by
    simp only [List.map_cons, List.nodup_cons] at h
    have ih := expd_count f x h.2
    unfold expd at ih ⊢
    rw [List.flatMap_cons, List.count_append, ih, List.count_replicate]
    unfold getA
    simp only [List.find?_cons]
    by_cases hp : p.1 = x
    · have : getA f x = none := getA_none.mpr (hp ▸ h.1)
      unfold getA at this
      rw [this]
      simp [hp]
    · have : ¬ (p.1 == x) = true := by simpa using hp
      simp [hp, this]
theorem RpC.perm {f : Asc} {L : List Int} (h : RpC f fun x => L.count x) : (expd f).Perm L := by
  rw [List.perm_iff_count]
  intro x
  rw [expd_count f x h.nd, h.get]
  by_cases z : L.count x = 0
  · simp [z]
  · simp [z]
theorem sum_expd (g : Int → Nat) : ∀ f : Asc, ((expd f).map g).sum = (f.map fun p => p.2 * g p.1).sum
  | [] => rfl
  | p :: f => by
    have ih := sum_expd g f
    unfold expd at ih ⊢
    rw [List.flatMap_cons, List.map_append, List.sum_append, ih, List.map_replicate, List.map_cons, List.sum_cons, List.sum_replicate_nat]
theorem RpC.sum {f : Asc} {L : List Int} (h : RpC f fun x => L.count x) (g : Int → Nat) : (f.map fun p => p.2 * g p.1).sum = (L.map g).sum := by
  rw [← sum_expd]
  exact (h.perm.map g).sum_nat
def nextS (L w : List Int) : List Int := L.flatMap fun t => w.map fun s => t + s
theorem count_shift (t x : Int) : ∀ w : List Int, (w.map fun s => t + s).count x = w.count (x - t)
  | [] => rfl
  | s :: w => by
    rw [List.map_cons, List.count_cons, List.count_cons, count_shift t x w]
    by_cases h : t + s = x
    · have : s = x - t := by omega
      have h2 : t + (x - t) = x := by omega
      simp [this, h2]
    · have : ¬ s = x - t := by omega
      simp [h, this]
theorem count_next (w : List Int) (x : Int) : ∀ L : List Int, (nextS L w).count x = (L.map fun t => w.count (x - t)).sum
  | [] => rfl
  | t :: L => by
    unfold nextS
    rw [List.flatMap_cons, List.count_append, count_shift, List.map_cons, List.sum_cons, ← count_next w x L]
    rfl
end EV

/-! EV, part DD: lists of ints as data. -/
namespace EV
open PySem PyProof.Rows L2
local macro_rules | `(tactic| walk_at "ev") => `(tactic| repeat' (first
  | with_reducible exact r_int | with_reducible exact r_str | with_reducible exact r_bl | with_reducible exact r_non | with_reducible exact es_nil | with_reducible exact esB_nil | with_reducible exact esR_nil | with_reducible exact evI_no | with_reducible exact evC_no
  | ((with_reducible apply r_var); rfl) | ((with_reducible apply b_var); rfl) | ((with_reducible apply b_ow); rfl)
  | ((with_reducible apply b_ev); · rfl)
  | with_reducible apply r_bin | with_reducible apply r_neg | with_reducible apply r_cmp | with_reducible apply r_not | with_reducible apply r_tup | with_reducible apply r_lst | with_reducible apply r_cel
  | with_reducible apply r_sub | with_reducible apply r_bi | with_reducible apply r_isi | with_reducible apply r_mth | with_reducible apply r_callP | with_reducible apply r_callKP | with_reducible apply r_call | with_reducible apply r_slc
  | with_reducible apply es_cons | with_reducible apply esB_cons | with_reducible apply esR_cons | with_reducible apply evI_so | with_reducible apply evC_so
  | with_reducible exact add_ok _ _ _ | with_reducible exact sub_ok _ _ _ | with_reducible exact int_ok _ _ | with_reducible exact eqD_int _ _ | with_reducible exact neD_int _ _
  | (show _ = some _; with_reducible assumption) | (show _ = some _; with_reducible apply_assumption)))
local macro_rules | `(tactic| walk_at "ret") => `(tactic| ((apply s_ret); · rfl))
/-- a list of ints -/
def iD (ns : List Int) : D := .lst (ns.map D.int)
theorem iD_len (ns : List Int) (st : Store) : biD .len st [iD ns] = some (.int ns.length, false) := by
  unfold biD iD sqD rdD lsD; simp only [List.length_map]
theorem pl_iD (n : Nat) (ns : List Int) : D.pl (n + 2) (iD ns) = true := by
  unfold iD D.pl
  simp only [List.all_map, List.all_eq_true]
  intro x _
  rfl
theorem iD_inj {a b : List Int} (h : iD a = iD b) : a = b := by
  unfold iD at h
  injection h with h
  induction a generalizing b with
  | nil => cases b with
    | nil => rfl
    | cons => simp at h
  | cons x a ih => cases b with
    | nil => simp at h
    | cons y b =>
      simp only [List.map_cons, List.cons.injEq, D.int.injEq] at h
      rw [h.1, ih h.2]
theorem eq_iD (st : Store) (a b : List Int) : cmpD .eq st (iD a) (iD b) = some (decide (a = b)) := by
  by_cases h : a = b
  · subst h; rw [eqD_t (pl_iD 28 _)]; simp
  · rw [eqD_f (pl_iD 28 _) (pl_iD 28 _) fun e => h (iD_inj e)]; simp [h]
theorem lcL_map {t : Tg} {P : Pg} {elt : Run Res} {env : Env} {st : Store} {α : Type} {rep : α → D} {f : α → D} {xs : List α} (h : ∀ x ∈ xs, ∃ env2, bindT t (rep x) env = some env2 ∧ ∃ n, elt env2 st = some ⟨f x, n, st⟩) :
    lcL t (Eo.evC P .no) elt env (xs.map rep) st = some (xs.map f, st) := by
  have := lcL_pure (t := t) (cond := Eo.evC P .no) (elt := elt) (env := env) (st := st) (rep := rep) (p := fun _ => true) (f := f) (xs := xs) fun x hx => by
    obtain ⟨e, h1, n, h2⟩ := h x hx
    exact ⟨e, h1, rfl, fun _ => ⟨n, h2⟩⟩
  rwa [List.filter_eq_self.mpr (fun _ _ => rfl)] at this
theorem listsD_map {st : Store} {α : Type} (f : α → List D) : ∀ (xs : List α), listsD st (xs.map fun x => .lst (f x)) = some (xs.map f)
  | [] => rfl
  | x :: xs => by simp only [List.map_cons, listsD, lsD, listsD_map f xs]
theorem intsX_mapf {α : Type} (f : α → Int) : ∀ (xs : List α), intsD (xs.map fun x => .int (f x)) = some (xs.map f)
  | [] => rfl
  | x :: xs => by simp only [List.map_cons, intsD, intsX_mapf f xs, Option.map]
end EV

/-! EV, part EE: wheels; fractions by five turns a figure. -/
namespace EV
open PySem PyProof.Rows L2
local macro_rules | `(tactic| walk_at "ev") => `(tactic| repeat' (first
  | with_reducible exact r_int | with_reducible exact r_str | with_reducible exact r_bl | with_reducible exact r_non | with_reducible exact es_nil | with_reducible exact esB_nil | with_reducible exact esR_nil | with_reducible exact evI_no | with_reducible exact evC_no
  | ((with_reducible apply r_var); rfl) | ((with_reducible apply b_var); rfl) | ((with_reducible apply b_ow); rfl)
  | ((with_reducible apply b_ev); · rfl)
  | with_reducible apply r_bin | with_reducible apply r_neg | with_reducible apply r_cmp | with_reducible apply r_not | with_reducible apply r_tup | with_reducible apply r_lst | with_reducible apply r_cel
  | with_reducible apply r_sub | with_reducible apply r_bi | with_reducible apply r_isi | with_reducible apply r_mth | with_reducible apply r_callP | with_reducible apply r_callKP | with_reducible apply r_call | with_reducible apply r_slc
  | with_reducible apply es_cons | with_reducible apply esB_cons | with_reducible apply esR_cons | with_reducible apply evI_so | with_reducible apply evC_so
  | with_reducible exact add_ok _ _ _ | with_reducible exact sub_ok _ _ _ | with_reducible exact int_ok _ _ | with_reducible exact eqD_int _ _ | with_reducible exact neD_int _ _
  | (show _ = some _; with_reducible assumption) | (show _ = some _; with_reducible apply_assumption)))
local macro_rules | `(tactic| walk_at "ret") => `(tactic| ((apply s_ret); · rfl))

theorem dig_lt (b : Nat) : b < 10 ^ (Str.ofString (toString (b : Int))).length := by
  have e : toString ((b : Nat) : Int) = Nat.repr b := rfl
  rw [e, PySem.ofString_length]
  have h : (Nat.repr b).length = (Nat.toDigits 10 b).length := by
    rw [← String.length_toList, Nat.toList_repr]
  rw [h]
  exact (Nat.length_toDigits_le_iff (by decide) Nat.length_toDigits_pos).mp (Nat.le_refl _)
def L_low : Fn := ⟨2, 5, (.cons (.asgT [2, 3] (.cons (.bi .abs (.cons (.var 0) .nil)) (.cons (.var 1) .nil)))
  (.cons (.for (.one 4) (.rg1 (.bin .add (.bin .mul (.bi .len (.cons (.bi .str (.cons (.var 1) .nil)) .nil)) (.int 5)) (.int 1)))
   (.frz 2 (.cons (.unp [2, 3] (.ife (.cmp .gt (.var 3) (.int 0)) (.tup (.cons (.var 3) (.cons (.bin .mod (.var 2) (.var 3)) .nil))) (.tup (.cons (.var 2) (.cons (.int 0) .nil)))))
  .nil)))
  (.cons (.ret (.tup (.cons (.bin .fdiv (.var 0) (.var 2)) (.cons (.bin .fdiv (.var 1) (.var 2)) .nil))))
  .nil)))⟩
abbrev bodyLow : Ss := (.frz 2 (.cons (.unp [2, 3] (.ife (.cmp .gt (.var 3) (.int 0)) (.tup (.cons (.var 3) (.cons (.bin .mod (.var 2) (.var 3)) .nil))) (.tup (.cons (.var 2) (.cons (.int 0) .nil)))))
  .nil))
theorem low_loop (P : Pg) (st : Store) (x0 x1 : Sl) : ∀ (l : List Nat) (a b : Nat) (x4 : Sl), ∃ x4', forL (.one 4) (Ss.ev P bodyLow) (l.map fun (q : Nat) => D.int (0 + (q : Nat))) [x0, x1, .fr (.int a), .fr (.int b), x4] st = some ⟨.nx, [x0, x1, .fr (.int (eucl l.length (a, b)).1), .fr (.int (eucl l.length (a, b)).2), x4'], st⟩
  | [], a, b, x4 => ⟨x4, rfl⟩
  | q :: l, a, b, x4 => by
    have h2 : (2 : Nat) ≤ LIM := by decide
    by_cases h : 0 < b
    · obtain ⟨y, hy⟩ := low_loop P st x0 x1 l b (a % b) (.fr (.int (0 + (q : Nat))))
      have hgt : cmpD .gt st (.int b) (.int 0) = some true := by show some (decide _) = _; simp; omega
      have hm := mod_ok (x := (a : Int)) (show (0 : Int) < (b : Int) by omega) st
      have e : (a : Int) % (b : Int) = ((a % b : Nat) : Int) := by simp
      rw [e] at hm
      refine ⟨y, f_cons (env1 := [x0, x1, .fr (.int a), .fr (.int b), .fr (.int (0 + (q : Nat)))]) rfl (s_frz (s_unp (d := .tup [.int b, .int (a % b : Nat)]) (n := false) (st1 := st) (r_ife (q := true) (n := false) (st1 := st) (r_cmp (b_var rfl) (b_ev rfl r_int) hgt) ?_) rfl rfl)) ?_⟩
      · rw [if_pos rfl]
        exact r_tup (es_cons (r_var rfl) (es_cons (r_bin (b_var rfl) (b_var rfl) hm) es_nil)) h2
      · rw [List.length_cons]
        unfold eucl
        simp only [h, if_true]
        exact hy
    · have hb : b = 0 := by omega
      subst hb
      obtain ⟨y, hy⟩ := low_loop P st x0 x1 l a 0 (.fr (.int (0 + (q : Nat))))
      refine ⟨y, f_cons (env1 := [x0, x1, .fr (.int a), .fr (.int (0 : Nat)), .fr (.int (0 + (q : Nat)))]) rfl (s_frz (s_unp (d := .tup [.int a, .int (0 : Nat)]) (n := false) (st1 := st) (r_ife (q := false) (n := false) (st1 := st) (r_cmp (b_var rfl) (b_ev rfl r_int) rfl) ?_) rfl rfl)) ?_⟩
      · rw [if_neg Bool.false_ne_true]
        exact r_tup (es_cons (r_var rfl) (es_cons r_int es_nil)) h2
      · rw [List.length_cons]
        unfold eucl
        simp only [Nat.lt_irrefl, if_false]
        exact hy
section
variable {T : Prog}
theorem low_run (hf : T.fn "_law_low" = some L_low) (n : Nat) (a b : Nat) (hb0 : 0 < b) (hb : b < 2 ^ 1900) (st : Store) : T.run (n + 1) "_law_low" [.int a, .int b] st = some ⟨frD a b, false, st⟩ := by
  have hlog : ((b : Int)).natAbs.log2 < 1920 := by
    rw [Int.natAbs_natCast]
    exact (Nat.log2_lt (by omega)).mpr (Nat.lt_of_lt_of_le hb (Nat.pow_le_pow_right (by decide) (by decide)))
  have hlen := int_text_fits hlog
  have hstr : biD .str st [.int b] = some (.str (toString (b : Int)), false) := by
    show (if ((b : Int)).natAbs.log2 < 1920 then some (D.str (toString (b : Int)), false) else none) = _
    rw [if_pos hlog]
  generalize hd : (Str.ofString (toString (b : Int))).length = d at hlen
  have hl2 : biD .len st [.str (toString (b : Int))] = some (.int (d : Nat), false) := by
    show (if (Str.ofString (toString (b : Int))).length ≤ LIM then some (D.int ((Str.ofString (toString (b : Int))).length : Nat), false) else none) = _
    rw [hd, if_pos (show d ≤ LIM from hlen)]
  have hdl : d ≤ 16777216 := hlen
  have hmul := mul_ok (Sm.of (x := (d : Int)) 30 (by omega) (by omega)) (show Sm 10 (5 : Int) by decide) (by decide) st
  have he : eucl (5 * d + 1) (a, b) = (Nat.gcd a b, 0) := eucl_enough a b d (hd ▸ dig_lt b)
  have hj : ((d : Int) * 5 + 1).toNat = 5 * d + 1 := by omega
  obtain ⟨y, hy⟩ := low_loop ⟨T.run n, T.glo, T.whl⟩ st (.fr (.int a)) (.fr (.int b)) (List.range (5 * d + 1)) a b .no
  rw [List.length_range, he] at hy
  have g0 : 0 < Nat.gcd a b := Nat.gcd_pos_of_pos_right _ hb0
  have gl : Nat.gcd a b ≤ b := Nat.gcd_le_right _ hb0
  have hg : Sm 8000 ((Nat.gcd a b : Nat) : Int) := by
    unfold Sm; simp only [Int.natAbs_natCast]
    exact Nat.lt_of_le_of_lt gl (Nat.lt_of_lt_of_le hb (Nat.pow_le_pow_right (by decide) (by decide)))
  have q : ∀ x : Nat, binD .fdiv st (.int x) (.int (Nat.gcd a b : Nat)) = some (.int (x / Nat.gcd a b : Nat), false) := fun x => by
    rw [fdiv_ok (by omega) hg]
    simp
  apply run_rt hf rfl
  refine s_asgT (rs := [⟨.int a, false, st⟩, ⟨.int b, false, st⟩]) (st1 := st) (esR_cons (r_bi (esB_cons (b_var rfl) esB_nil) (abs_nat a st)) (esR_cons (r_var rfl) esR_nil)) rfl ?_
  refine s_for (ds := rngD 0 ((d : Int) * 5 + 1).toNat) (st1 := st) (env2 := [.fr (.int a), .fr (.int b), .fr (.int (Nat.gcd a b : Nat)), .fr (.int (0 : Nat)), y]) (st2 := st) (it_rg1 (j := (d : Int) * 5 + 1) (r_bin (b_ev rfl (r_bin (b_ev rfl (r_bi (esB_cons (b_ev rfl (r_bi (esB_cons (b_var rfl) esB_nil) hstr)) esB_nil) hl2)) (b_ev rfl r_int) hmul)) (b_ev rfl r_int) (add_ok _ _ _)) (by omega)) ?_ ?_
  · rw [hj]; exact hy
  · exact s_ret rfl (r_tup (es_cons (r_bin (b_var rfl) (b_var rfl) (q a)) (es_cons (r_bin (b_var rfl) (b_var rfl) (q b)) es_nil)) (show 2 ≤ LIM by decide))
def L_wheel : Fn := ⟨1, 2, (.cons (.ret (.and (.isi (.var 0) ["list"]) (.and (.cmp .ne (.var 0) (.lst .nil)) (.bi .all (.cons (.lc (.call "is_count" (.cons (.var 1) .nil)) [1] (.one 1) (.ovr (.var 0)) .no) .nil)))))
  .nil)⟩
def L_chkw : Fn := ⟨1, 1, (.cons (.iff (.not (.call "is_wheel" (.cons (.var 0) .nil)))
   (.cons .rai
  .nil)
   .nil)
  .nil)⟩
def WhI (w : List Int) : Prop := w ≠ [] ∧ (∀ x ∈ w, 0 ≤ x) ∧ w.length ≤ 1000
theorem ne_nil_iD (st : Store) {w : List Int} (h : w ≠ []) : cmpD .ne st (iD w) (.lst []) = some true := neD_t (pl_iD 28 w) (by decide) fun e => h (by
  unfold iD at e
  injection e with e
  exact List.map_eq_nil_iff.mp e)
theorem all_true (st : Store) {α : Type} (l : List α) : biD .all st [.lst (l.map fun _ => .bl true)] = some (.bl true, false) := by
  have hb : blsD (l.map fun _ => D.bl true) = some (l.map fun _ => true) := by
    induction l with
    | nil => rfl
    | cons a l ih => simp only [List.map_cons, blsD, ih, Option.map]
  unfold biD
  simp only [lsD, Option.bind, hb]
  simp
theorem wheelT_run (hw : T.fn "is_whole" = some L_whole) (hc : T.fn "is_count" = some L_count) (hf : T.fn "is_wheel" = some L_wheel) (n : Nat) {w : List Int} (h : WhI w) (st : Store) : T.run (n + 3) "is_wheel" [iD w] st = some ⟨.bl true, false, st⟩ := by
  have hlc : lcL (.one 1) (Eo.evC ⟨T.run (n + 2), T.glo, T.whl⟩ .no) (E.ev ⟨T.run (n + 2), T.glo, T.whl⟩ (.call "is_count" (.cons (.var 1) .nil))) [.fr (iD w), .no] (w.map D.int) st = some (w.map fun _ => .bl true, st) := lcL_map fun x hx => ⟨_, rfl, false, r_callP (es_cons (r_var rfl) es_nil) (countT_run hw hc n x (h.2.1 x hx) st)⟩
  apply run_rt hf rfl
  walk_at "ret"
  exact r_and_t (r_isi (b_var rfl) rfl) (r_and_t (r_cmp (b_var rfl) (b_ev rfl (r_lst es_nil (by decide))) (ne_nil_iD st h.1)) (r_bi (esB_cons (b_ev rfl (r_lc (it_ovr (xs := w.map D.int) (r_var rfl) rfl) (by rw [List.length_map]; exact Nat.le_trans h.2.2 (by decide)) hlc)) esB_nil) (all_true st w)))
theorem chkw_run (hw : T.fn "is_whole" = some L_whole) (hc : T.fn "is_count" = some L_count) (hf : T.fn "is_wheel" = some L_wheel) (hk : T.fn "check_wheel" = some L_chkw) (n : Nat) {w : List Int} (h : WhI w) (st : Store) : T.run (n + 4) "check_wheel" [iD w] st = some ⟨.non, false, st⟩ := by
  apply run_nx hk rfl
  exact s_iff_e (n := false) (r_not (q := true) (r_callP (es_cons (r_var rfl) es_nil) (wheelT_run hw hc hf n h st))) rfl
end
end EV

/-! EV, part FF: draws of lists: wheels, picks, drawn orders. -/
namespace EV
open PySem PyProof.Rows L2
local macro_rules | `(tactic| walk_at "ev") => `(tactic| repeat' (first
  | with_reducible exact r_int | with_reducible exact r_str | with_reducible exact r_bl | with_reducible exact r_non | with_reducible exact es_nil | with_reducible exact esB_nil | with_reducible exact esR_nil | with_reducible exact evI_no | with_reducible exact evC_no
  | ((with_reducible apply r_var); rfl) | ((with_reducible apply b_var); rfl) | ((with_reducible apply b_ow); rfl)
  | ((with_reducible apply b_ev); · rfl)
  | with_reducible apply r_bin | with_reducible apply r_neg | with_reducible apply r_cmp | with_reducible apply r_not | with_reducible apply r_tup | with_reducible apply r_lst | with_reducible apply r_cel
  | with_reducible apply r_sub | with_reducible apply r_bi | with_reducible apply r_isi | with_reducible apply r_mth | with_reducible apply r_callP | with_reducible apply r_callKP | with_reducible apply r_call | with_reducible apply r_slc
  | with_reducible apply es_cons | with_reducible apply esB_cons | with_reducible apply esR_cons | with_reducible apply evI_so | with_reducible apply evC_so
  | with_reducible exact add_ok _ _ _ | with_reducible exact sub_ok _ _ _ | with_reducible exact int_ok _ _ | with_reducible exact eqD_int _ _ | with_reducible exact neD_int _ _
  | (show _ = some _; with_reducible assumption) | (show _ = some _; with_reducible apply_assumption)))
local macro_rules | `(tactic| walk_at "ret") => `(tactic| ((apply s_ret); · rfl))

theorem lcL_ex {t : Tg} {P : Pg} {elt : Run Res} {env : Env} (N : Nat) (I : Nat → Store → Prop) (Q : D → Prop) : ∀ (xs : List D) (i : Nat) (st : Store), (∀ x ∈ xs, ∀ i st, i < N → I i st → ∃ env2, bindT t x env = some env2 ∧ ∃ d n st2, elt env2 st = some ⟨d, n, st2⟩ ∧ Q d ∧ I (i + 1) st2) → i + xs.length ≤ N → I i st →
    ∃ ds st2, lcL t (Eo.evC P .no) elt env xs st = some (ds, st2) ∧ ds.length = xs.length ∧ (∀ d ∈ ds, Q d) ∧ I (i + xs.length) st2
  | [], i, st, _, _, h => ⟨[], st, rfl, rfl, by simp, h⟩
  | x :: xs, i, st, hs, hN, h => by
    simp only [List.length_cons] at hN
    obtain ⟨env2, h1, d, n, st2, h2, h3, h4⟩ := hs x List.mem_cons_self i st (by omega) h
    obtain ⟨ds, st3, h5, h6, h7, h8⟩ := lcL_ex (P := P) N I Q xs (i + 1) st2 (fun y hy => hs y (List.mem_cons_of_mem _ hy)) (by omega) h4
    refine ⟨d :: ds, st3, ?_, by simp [h6], ?_, by rw [List.length_cons, show i + (xs.length + 1) = i + 1 + xs.length by omega]; exact h8⟩
    · unfold lcL
      simp only [h1, evC_no, h2, h5]
    · intro e he
      rcases List.mem_cons.mp he with rfl | he
      · exact h3
      · exact h7 e he
theorem ints_of {top : Int} : ∀ {ds : List D}, (∀ d ∈ ds, ∃ x, d = D.int x ∧ 0 ≤ x ∧ x < top) → ∃ ws : List Int, ds = ws.map D.int ∧ (∀ x ∈ ws, 0 ≤ x ∧ x < top)
  | [], _ => ⟨[], rfl, by simp⟩
  | d :: ds, h => by
    obtain ⟨x, rfl, h1⟩ := h d List.mem_cons_self
    obtain ⟨ws, rfl, h2⟩ := ints_of fun e he => h e (List.mem_cons_of_mem _ he)
    exact ⟨x :: ws, rfl, fun y hy => by
      rcases List.mem_cons.mp hy with rfl | hy
      · exact h1
      · exact h2 y hy⟩
theorem bits_small (b : Int) (h0 : 0 < b) (h : b ≤ 1000) : (Builtin.Int.intBits b : Int) / 30 = 0 := by
  have all : ∀ n : Fin 1001, (Builtin.Int.intBits ((n.val : Nat) : Int) : Int) / 30 = 0 := by decide +kernel
  have := all ⟨b.toNat, by omega⟩
  rw [show ((b.toNat : Nat) : Int) = b by omega] at this
  exact this
/-- the draws' cell, the rest as it was -/
def GA (k : Nat) (st : Store) (m : Int) (st' : Store) : Prop := ∃ c, st' = st.set k c ∧ k < st.length ∧ Gen c m
theorem GA.get {k : Nat} {st st' : Store} {m : Int} (h : GA k st m st') : ∃ c, st'[k]? = some c ∧ Gen c m := by
  obtain ⟨c, rfl, hk, g⟩ := h
  exact ⟨c, List.getElem?_set_self hk, g⟩
theorem GA.start {k : Nat} {st : Store} {m : Int} {c : Cell} (h : st[k]? = some c) (g : Gen c m) : GA k st m st := by
  have hk := (List.getElem?_eq_some_iff.mp h).1
  refine ⟨c, ?_, hk, g⟩
  rw [List.getElem?_eq_getElem hk] at h
  rw [← Option.some.inj h, List.set_getElem_self]
theorem GA.trans {k : Nat} {a b c : Store} {m n : Int} (h : GA k a m b) (h2 : GA k b n c) : GA k a n c := by
  obtain ⟨x, rfl, hk, _⟩ := h
  obtain ⟨y, rfl, _, g⟩ := h2
  exact ⟨y, List.set_set .., hk, g⟩
theorem GA.len {k : Nat} {a b : Store} {m : Int} (h : GA k a m b) : b.length = a.length := by
  obtain ⟨x, rfl, _, _⟩ := h; simp
theorem Gen.mono {c : Cell} {m n : Int} (h : Gen c m) (l : m ≤ n) : Gen c n := by
  obtain ⟨a, b, d, e, h1, h2, h3, h4, h5⟩ := h
  exact ⟨a, b, d, e, h1, h2, h3, h4, Int.le_trans h5 l⟩
theorem GA.mono {k : Nat} {a b : Store} {m n : Int} (h : GA k a m b) (l : m ≤ n) : GA k a n b := by
  obtain ⟨c, e, hk, g⟩ := h
  exact ⟨c, e, hk, g.mono l⟩
def L_wheelG : Fn := ⟨3, 4, (.cons (.ret (.lc (.call "_law_random" (.cons (.var 0) (.cons (.var 2) .nil))) [3] (.one 3) (.rg1 (.bin .add (.int 1) (.call "_law_random" (.cons (.var 0) (.cons (.var 1) .nil))))) .no))
  .nil)⟩
def L_pick : Fn := ⟨2, 2, (.cons (.ret (.sub (.var 1) (.call "_law_random" (.cons (.var 0) (.cons (.bi .len (.cons (.var 1) .nil)) .nil)))))
  .nil)⟩
def L_order : Fn := ⟨2, 4, (.cons (.asgT [2, 3] (.cons (.bi .list (.cons (.var 1) .nil)) (.cons (.lst .nil) .nil)))
  (.cons (.whl (.cmp .ne (.var 2) (.lst .nil))
   (.cons (.appPop 3 2 (.call "_law_random" (.cons (.var 0) (.cons (.bi .len (.cons (.var 2) .nil)) .nil))))
  .nil))
  (.cons (.ret (.var 3))
  .nil)))⟩
section
variable {T : Prog}
/-- a bound of draws -/
def Bd (b : Int) : Prop := (0 < b ∧ b < 2147483648) ∧ ((Builtin.Int.intBits b : Int) / 30 = 0 ∨ (Builtin.Int.intBits b : Int) / 30 = 1)
theorem Bd.small {b : Int} (h0 : 0 < b) (h : b ≤ 1000) : Bd b := ⟨⟨h0, by omega⟩, .inl (bits_small b h0 h)⟩
theorem drawT (hf : T.fn "_law_random" = some L_random) (hh : T.fn "_law_hash" = some L_hash) (n k : Nat) (st : Store) (m b : Int) (hg : ∃ c, st[k]? = some c ∧ Gen c m) (hm : m < 8000000) (hb : Bd b) :
    ∃ r st', T.run (n + 2) "_law_random" [.cell k, .int b] st = some ⟨.int r, false, st'⟩ ∧ 0 ≤ r ∧ r < b ∧ GA k st (m + 2) st' := by
  obtain ⟨c, hc, g⟩ := hg
  obtain ⟨r, c', e1, e2, e3, e4⟩ := random_run hf hh n k st c m b hc g (by omega) hb.1 hb.2
  exact ⟨r, _, e1, e2, e3, c', rfl, (List.getElem?_eq_some_iff.mp hc).1, e4⟩
theorem wheelG_run (hf : T.fn "_law_random" = some L_random) (hh : T.fn "_law_hash" = some L_hash) (hw : T.fn "_law_wheel" = some L_wheelG) (n k : Nat) (st : Store) (m most top : Int) (hg : ∃ c, st[k]? = some c ∧ Gen c m) (hm : m < 7000000) (h1 : 0 < most ∧ most ≤ 1000) (h2 : Bd top) :
    ∃ ws st', T.run (n + 3) "_law_wheel" [.cell k, .int most, .int top] st = some ⟨iD ws, true, st'⟩ ∧ 1 ≤ ws.length ∧ (ws.length : Int) ≤ most ∧ (∀ x ∈ ws, 0 ≤ x ∧ x < top) ∧ GA k st (m + 2 + 2 * most) st' := by
  obtain ⟨r, st1, e1, e2, e3, e4⟩ := drawT hf hh n k st m most hg (by omega) (Bd.small h1.1 h1.2)
  have hl : (rngD 0 (1 + r).toNat).length = (1 + r).toNat := by unfold rngD; simp
  obtain ⟨ds, st2, f1, f2, f3, f4⟩ := lcL_ex (t := .one 3) (P := ⟨T.run (n + 2), T.glo, T.whl⟩) (elt := E.ev ⟨T.run (n + 2), T.glo, T.whl⟩ (.call "_law_random" (.cons (.var 0) (.cons (.var 2) .nil)))) (env := [.fr (.cell k), .fr (.int most), .fr (.int top), .no]) (1 + r).toNat
    (fun i s => GA k st (m + 2 + 2 * (i : Nat)) s) (fun d => ∃ x, d = .int x ∧ 0 ≤ x ∧ x < top) (rngD 0 (1 + r).toNat) 0 st1 (by
      intro x hx i s hi hI
      refine ⟨[.fr (.cell k), .fr (.int most), .fr (.int top), .fr x], rfl, ?_⟩
      obtain ⟨y, s2, g1, g2, g3, g4⟩ := drawT hf hh n k s (m + 2 + 2 * (i : Nat)) top hI.get (by omega) h2
      exact ⟨_, false, s2, r_callP (es_cons (r_var rfl) (es_cons (r_var rfl) es_nil)) g1, ⟨y, rfl, g2, g3⟩, (hI.trans g4).mono (by omega)⟩) (by rw [hl]; omega) (e4.mono (by omega))
  obtain ⟨ws, rfl, hws⟩ := ints_of f3
  rw [List.length_map, hl] at f2
  rw [hl] at f4
  refine ⟨ws, st2, ?_, by omega, by omega, hws, f4.mono (by omega)⟩
  apply run_rt hw rfl
  exact s_ret rfl (r_lc (it_rg1 (j := 1 + r) (r_bin (b_ev rfl r_int) (b_ev rfl (r_callP (es_cons (r_var rfl) (es_cons (r_var rfl) es_nil)) e1)) (add_ok _ _ _)) (by omega)) (by rw [hl]; show _ ≤ 16777216; omega) f1)
theorem pick_run (hf : T.fn "_law_random" = some L_random) (hh : T.fn "_law_hash" = some L_hash) (hp : T.fn "_law_pick" = some L_pick) (n k : Nat) (st : Store) (m : Int) (things : List D) (hg : ∃ c, st[k]? = some c ∧ Gen c m) (hm : m < 7000000) (h1 : 0 < things.length ∧ things.length ≤ 1000) :
    ∃ (i : Nat) (hi : i < things.length) (st' : Store), T.run (n + 3) "_law_pick" [.cell k, .lst things] st = some ⟨things[i], false, st'⟩ ∧ GA k st (m + 2) st' := by
  obtain ⟨r, st1, e1, e2, e3, e4⟩ := drawT hf hh n k st m things.length hg (by omega) (Bd.small (by omega) (by omega))
  have hi : r.toNat < things.length := by omega
  have hlen : biD .len st [.lst things] = some (.int things.length, false) := rfl
  have hat : atD st1 (.lst things) (.int r) = some things[r.toNat] := at_sq (j := r.toNat) rfl (by
    show L2.ixN _ _ = _
    unfold L2.ixN
    rw [if_pos e2, if_pos e3]) (List.getElem?_eq_getElem hi)
  refine ⟨r.toNat, hi, st1, ?_, e4⟩
  apply run_rt hp rfl
  exact s_ret rfl (r_sub (b_var rfl) (r_callP (es_cons (r_var rfl) (es_cons (r_bi (esB_cons (b_var rfl) esB_nil) hlen) es_nil)) e1) hat)
theorem order_loop (hf : T.fn "_law_random" = some L_random) (hh : T.fn "_law_hash" = some L_hash) (n k : Nat) (st0 : Store) (x1 : Sl) : ∀ (j : Nat) (left found : List D) (st : Store) (m : Int) (f : Nat), left.length = j → j ≤ 1000 → found.length + j ≤ 1000 → D.pl 30 (.lst left) = true → GA k st0 m st → m + 2 * j < 7000000 →
    ∃ (ys : List D) (st' : Store), whlGo (Eo.evC ⟨T.run (n + 2), T.glo, T.whl⟩ (.so (.cmp .ne (.var 2) (.lst .nil)))) (Ss.ev ⟨T.run (n + 2), T.glo, T.whl⟩ (.cons (.appPop 3 2 (.call "_law_random" (.cons (.var 0) (.cons (.bi .len (.cons (.var 2) .nil)) .nil)))) .nil)) (f + (j + 1)) [.fr (.cell k), x1, .ow (.lst left), .ow (.lst found)] st =
      some ⟨.nx, [.fr (.cell k), x1, .ow (.lst []), .ow (.lst (found ++ ys))], st'⟩ ∧ ys.Perm left ∧ GA k st0 (m + 2 * j) st' := by
  intro j
  induction j with
  | zero =>
    intro left found st m f hl _ _ hp hg _
    have : left = [] := List.length_eq_zero_iff.mp hl
    subst this
    refine ⟨[], st, ?_, .refl _, hg.mono (by omega)⟩
    rw [List.append_nil]
    exact w_end (evC_so (r_cmp (b_ow rfl) (b_ev rfl (r_lst es_nil (by decide))) (neD_f (by decide))))
  | succ j ih =>
    intro left found st m f hl h1 h2 hp hg hm
    obtain ⟨r, st1, e1, e2, e3, e4⟩ := drawT hf hh n k st m left.length hg.get (by omega) (Bd.small (by omega) (by omega))
    have hi : r.toNat < left.length := by omega
    have hne : cmpD .ne st (.lst left) (.lst []) = some true := neD_t hp (by decide) fun e => by
      injection e with e
      subst e
      simp at hl
    have hlen : biD .len st [.lst left] = some (.int left.length, false) := rfl
    have hpl : D.pl 30 (.lst (left.eraseIdx r.toNat)) = true := by
      unfold D.pl at hp ⊢
      simp only [List.all_eq_true] at hp ⊢
      exact fun x hx => hp x (List.mem_of_mem_eraseIdx hx)
    obtain ⟨ys, st2, f1, f2, f3⟩ := ih (left.eraseIdx r.toNat) (found ++ [left[r.toNat]]) st1 (m + 2) f (by rw [List.length_eraseIdx, if_pos hi]; omega) (by omega) (by rw [List.length_append]; simp; omega) hpl (hg.trans e4) (by omega)
    refine ⟨left[r.toNat] :: ys, st2, ?_, ?_, f3.mono (by omega)⟩
    · have hseq : seqIndex? r left.length = some r.toNat := (L2.ixN_seq (by
        unfold L2.ixN
        rw [if_pos e2, if_pos e3])).1
      have hev : E.ev ⟨T.run (n + 2), T.glo, T.whl⟩ (.call "_law_random" (.cons (.var 0) (.cons (.bi .len (.cons (.var 2) .nil)) .nil))) [.fr (.cell k), x1, .ow (.lst left), .ow (.lst found)] st = some ⟨.int r, false, st1⟩ := r_callP (es_cons (r_var rfl) (es_cons (r_bi (esB_cons (b_ow rfl) esB_nil) hlen) es_nil)) e1
      refine w_step (evC_so (r_cmp (b_ow rfl) (b_ev rfl (r_lst es_nil (by decide))) hne)) (s_cons (env1 := [.fr (.cell k), x1, .ow (.lst (left.eraseIdx r.toNat)), .ow (.lst (found ++ [left[r.toNat]]))]) (st1 := st1) ?_ rfl) ?_
      · unfold S.ev
        simp only [hev]
        have hb : -(2 ^ 63) ≤ r ∧ r < 2 ^ 63 ∧ (3 : Nat) ≠ 2 := ⟨by omega, by omega, by decide⟩
        have hb2 : found.length < LIM := by show _ < 16777216; omega
        simp only [List.getElem?_cons_succ, List.getElem?_cons_zero, if_pos hb, hseq, List.getElem?_eq_getElem hi, if_pos hb2]
        rfl
      · rw [show found ++ left[r.toNat] :: ys = found ++ [left[r.toNat]] ++ ys by simp]
        exact f1
    · refine (f2.cons _).trans ?_
      rw [List.eraseIdx_eq_take_drop_succ]
      have e : left = left.take r.toNat ++ left[r.toNat] :: left.drop (r.toNat + 1) := by
        rw [← List.drop_eq_getElem_cons hi, List.take_append_drop]
      exact (List.perm_middle.symm).trans (by rw [← e])
theorem order_run (hf : T.fn "_law_random" = some L_random) (hh : T.fn "_law_hash" = some L_hash) (ho : T.fn "_law_drawn_order" = some L_order) (hw : T.whl = 1000000) (n k : Nat) (st : Store) (m : Int) (xs : List D) (hg : ∃ c, st[k]? = some c ∧ Gen c m) (hm : m < 6000000) (h1 : xs.length ≤ 1000) (hp : D.pl 30 (.lst xs) = true) :
    ∃ (ys : List D) (st' : Store), T.run (n + 3) "_law_drawn_order" [.cell k, .lst xs] st = some ⟨.lst ys, true, st'⟩ ∧ ys.Perm xs ∧ GA k st (m + 2 * xs.length) st' := by
  obtain ⟨c, hc, g⟩ := hg
  obtain ⟨ys, st', e1, e2, e3⟩ := order_loop hf hh n k st (.fr (.lst xs)) xs.length xs [] st m (1000000 - (xs.length + 1)) rfl h1 (by simp; omega) hp (GA.start hc g) (by omega)
  refine ⟨ys, st', ?_, e2, e3⟩
  have hli : biD .list st [.lst xs] = some (.lst xs, true) := rfl
  apply run_rt ho rfl
  refine s_asgT (rs := [⟨.lst xs, true, st⟩, ⟨.lst [], true, st⟩]) (esR_cons (r_bi (esB_cons (b_var rfl) esB_nil) hli) (esR_cons (r_lst es_nil (by decide)) esR_nil)) rfl ?_
  refine s_whl (env1 := [.fr (.cell k), .fr (.lst xs), .ow (.lst []), .ow (.lst ([] ++ ys))]) (st1 := st') ?_ (s_retO (by rfl))
  show whlGo _ _ T.whl _ _ = _
  rw [hw, show 1000000 = 1000000 - (xs.length + 1) + (xs.length + 1) by omega]
  exact e1
end
end EV

/-! EV, part GG: texts of lists of ints; dicts of pairs; products of lists; ranges with steps. -/
namespace EV
open PySem PyProof.Rows L2
local macro_rules | `(tactic| walk_at "ev") => `(tactic| repeat' (first
  | with_reducible exact r_int | with_reducible exact r_str | with_reducible exact r_bl | with_reducible exact r_non | with_reducible exact es_nil | with_reducible exact esB_nil | with_reducible exact esR_nil | with_reducible exact evI_no | with_reducible exact evC_no
  | ((with_reducible apply r_var); rfl) | ((with_reducible apply b_var); rfl) | ((with_reducible apply b_ow); rfl)
  | ((with_reducible apply b_ev); · rfl)
  | with_reducible apply r_bin | with_reducible apply r_neg | with_reducible apply r_cmp | with_reducible apply r_not | with_reducible apply r_tup | with_reducible apply r_lst | with_reducible apply r_cel
  | with_reducible apply r_sub | with_reducible apply r_bi | with_reducible apply r_isi | with_reducible apply r_mth | with_reducible apply r_callP | with_reducible apply r_callKP | with_reducible apply r_call | with_reducible apply r_slc
  | with_reducible apply es_cons | with_reducible apply esB_cons | with_reducible apply esR_cons | with_reducible apply evI_so | with_reducible apply evC_so
  | with_reducible exact add_ok _ _ _ | with_reducible exact sub_ok _ _ _ | with_reducible exact int_ok _ _ | with_reducible exact eqD_int _ _ | with_reducible exact neD_int _ _
  | (show _ = some _; with_reducible assumption) | (show _ = some _; with_reducible apply_assumption)))
local macro_rules | `(tactic| walk_at "ret") => `(tactic| ((apply s_ret); · rfl))
theorem ok_app {a b : Str} (ha : PyData.strOk a = true) (hb : PyData.strOk b = true) : PyData.strOk (a ++ b) = true := by
  unfold PyData.strOk at *
  show (a.cps ++ b.cps).all _ = true
  rw [Array.all_append, ha, hb]; rfl
theorem ok_of (s : String) : PyData.strOk (Str.ofString s) = true := by
  rw [Str.ofString_eq_toList]
  unfold PyData.strOk
  simp only [List.all_toArray, List.all_map, List.all_eq_true]
  intro c _
  have := c.valid
  simp only [Function.comp_def, decide_eq_true_eq]
  have h : c.toNat = c.val.toNat := rfl
  rw [h]
  rcases this with z | z
  · omega
  · omega
theorem ok_textFrom : ∀ (ts : List Str) (k : Nat) (acc : Str), PyData.strOk acc = true → (∀ t ∈ ts, PyData.strOk t = true) → PyData.strOk (textFrom k acc ts) = true
  | [], _, acc, h, _ => h
  | t :: ts, k, acc, h, ht => by
    unfold textFrom
    exact ok_textFrom ts (k + 1) _ (ok_app (ok_app h (ok_of _)) (ht t List.mem_cons_self)) fun u hu => ht u (List.mem_cons_of_mem _ hu)
theorem ok_listText {ts : List Str} (h : ∀ t ∈ ts, PyData.strOk t = true) : PyData.strOk (listText ts) = true := by
  unfold listText
  exact ok_app (ok_textFrom _ _ _ (ok_of _) h) (ok_of _)
theorem piled_le {M : Nat} : ∀ {ts : List Str}, (∀ t ∈ ts, t.length ≤ M) → piled ts ≤ ts.length * (M + 2)
  | [], _ => by simp [piled]
  | t :: ts, h => by
    rw [piled_cons, List.length_cons, Nat.succ_mul]
    have := piled_le fun u hu => h u (List.mem_cons_of_mem _ hu)
    have := h t List.mem_cons_self
    omega
theorem listText_le {M : Nat} {ts : List Str} (h : ∀ t ∈ ts, t.length ≤ M) : (listText ts).length ≤ 2 + ts.length * (M + 2) := by
  have hX : (listText ts).length = (textFrom 0 "[" ts).length + 1 := by
    show (textFrom 0 "[" ts ++ "]").length = _
    rw [strLen_append]; rfl
  have e1 : (("[" : Str)).length = 1 := rfl
  cases ts with
  | nil => rw [hX]; show _ + 1 ≤ _; unfold textFrom; rw [e1]; omega
  | cons t r =>
    have hp := piled_le h
    rw [piled_cons] at hp
    have h2 := textFrom_length_pos r 1 (("[" : Str) ++ (if (0 : Nat) > 0 then ", " else "" : String) ++ t) (Nat.succ_pos 0)
    have e : ((("[" : Str) ++ (if (0 : Nat) > 0 then ", " else "" : String) ++ t)).length = 1 + t.length := by
      rw [strLen_append, strLen_append]; rfl
    have hY : (textFrom 0 "[" (t :: r)).length = (textFrom 1 (("[" : Str) ++ (if (0 : Nat) > 0 then ", " else "" : String) ++ t) r).length := rfl
    rw [hX, hY, h2, e]
    omega
theorem shownA_map : ∀ xs : List PyData, PyData.shownAll xs = xs.map PyData.shown
  | [] => by simp only [PyData.shownAll, List.map_nil]
  | x :: xs => by simp only [PyData.shownAll, List.map_cons, shownA_map xs]
theorem showA_all : ∀ {xs : List PyData}, (∀ x ∈ xs, x.showable = true) → PyData.showableAll xs = true
  | [], _ => rfl
  | x :: xs, h => by
    unfold PyData.showableAll
    rw [h x List.mem_cons_self, showA_all fun y hy => h y (List.mem_cons_of_mem _ hy)]; rfl
def pyI (w : List Int) : PyData := .list (w.map PyData.int)
/-- short wheels -/
def Sh8 (w : List Int) : Prop := w.length ≤ 8 ∧ ∀ x ∈ w, 0 ≤ x ∧ x < 2147483648
theorem shown_int {x : Int} (h : 0 ≤ x ∧ x < 2147483648) : (PyData.int x).showable = true ∧ (PyData.int x).shown.length ≤ 40 ∧ PyData.strOk (PyData.int x).shown = true := by
  have hl : x.natAbs.log2 < 32 := by
    by_cases z : x.natAbs = 0
    · rw [z]; decide
    · exact (Nat.log2_lt z).mpr (by omega)
  have e : (PyData.int x).shown = Str.ofString (toString x) := by unfold PyData.shown; rfl
  refine ⟨?_, ?_, ?_⟩
  · unfold PyData.showable; simp; omega
  · rw [e, PySem.ofString_length]
    have := int_text_length_le (k := 32) (by decide) hl
    omega
  · rw [e]; exact ok_of _
theorem shown_pyI {w : List Int} (h : Sh8 w) : (pyI w).showable = true ∧ (pyI w).shown.length ≤ 400 ∧ PyData.strOk (pyI w).shown = true := by
  have h3 : ∀ t ∈ PyData.shownAll (w.map PyData.int), t.length ≤ 40 ∧ PyData.strOk t = true := fun t ht => by
    rw [shownA_map, List.map_map] at ht
    obtain ⟨x, hx, rfl⟩ := List.mem_map.mp ht
    exact (shown_int (h.2 x hx)).2
  have e : (pyI w).shown = listText (PyData.shownAll (w.map PyData.int)) := by unfold pyI PyData.shown; rfl
  refine ⟨?_, ?_, ?_⟩
  · unfold pyI PyData.showable
    refine showA_all fun p hp => ?_
    obtain ⟨x, hx, rfl⟩ := List.mem_map.mp hp
    exact (shown_int (h.2 x hx)).1
  · rw [e]
    have := listText_le fun t ht => (h3 t ht).1
    have e2 : (PyData.shownAll (w.map PyData.int)).length = w.length := by rw [shownA_map]; simp
    rw [e2] at this
    have := h.1
    omega
  · rw [e]; exact ok_listText fun t ht => (h3 t ht).2
theorem shown_rows {row : List (List Int)} (hl : row.length ≤ 100) (h : ∀ w ∈ row, Sh8 w) : (PyData.list (row.map pyI)).showable = true ∧ (PyData.list (row.map pyI)).shown.length ≤ 50000 ∧ PyData.strOk (PyData.list (row.map pyI)).shown = true := by
  have h3 : ∀ t ∈ PyData.shownAll (row.map pyI), t.length ≤ 400 ∧ PyData.strOk t = true := fun t ht => by
    rw [shownA_map, List.map_map] at ht
    obtain ⟨x, hx, rfl⟩ := List.mem_map.mp ht
    exact (shown_pyI (h x hx)).2
  have e : (PyData.list (row.map pyI)).shown = listText (PyData.shownAll (row.map pyI)) := by unfold PyData.shown; rfl
  refine ⟨?_, ?_, ?_⟩
  · unfold PyData.showable
    refine showA_all fun p hp => ?_
    obtain ⟨x, hx, rfl⟩ := List.mem_map.mp hp
    exact (shown_pyI (h x hx)).1
  · rw [e]
    have := listText_le fun t ht => (h3 t ht).1
    have e2 : (PyData.shownAll (row.map pyI)).length = row.length := by rw [shownA_map]; simp
    rw [e2] at this
    omega
  · rw [e]; exact ok_listText fun t ht => (h3 t ht).2
theorem pyA_ints (st : Store) (n : Nat) : ∀ xs : List Int, mapO (D.py st (n + 1)) (xs.map D.int) = some (xs.map PyData.int)
  | [] => rfl
  | x :: xs => by simp only [List.map_cons]; unfold mapO; rw [pyA_ints st n xs]; rfl
theorem pyA_iD (st : Store) (n : Nat) (w : List Int) : D.py st (n + 2) (iD w) = some (pyI w) := by
  unfold iD D.py
  dsimp only
  rw [pyA_ints]; rfl
theorem pyA_rows (st : Store) (n : Nat) : ∀ row : List (List Int), mapO (D.py st (n + 2)) (row.map iD) = some (row.map pyI)
  | [] => rfl
  | x :: xs => by simp only [List.map_cons]; unfold mapO; rw [pyA_rows st n xs, pyA_iD]
theorem repr_of {d : D} {p : PyData} (hd : D.pl 30 d = true) (h : ∀ st, D.py st 30 d = some p) (h1 : p.showable = true) (h2 : p.shown.length ≤ 50000) (st : Store) : biD .repr st [d] = some (.str p.shown, false) := by
  obtain ⟨q, q1, q2, q3⟩ := py_pl st 30 d hd
  have e : q = p := by
    have := q1 30 (Nat.le_refl _)
    rw [h st] at this
    exact (Option.some.inj this).symm
  subst e
  have sp : SeqAt.shaped q = true := by unfold SeqAt.shaped; rw [q2]; simp; omega
  have hs : d.shp st = some q := by
    unfold D.shp
    rw [h st]
    simp only [sp, if_true]
  unfold biD
  simp only [hs]
  rw [if_pos ⟨h1, Nat.le_trans h2 (by decide)⟩]
theorem repr_iD {w : List Int} (h : Sh8 w) : ∃ s, PyData.strOk s = true ∧ ∀ st, biD .repr st [iD w] = some (.str s, false) := by
  obtain ⟨a, b, c⟩ := shown_pyI h
  exact ⟨_, c, repr_of (pl_iD 28 w) (fun st => pyA_iD st 28 w) a (by omega)⟩
theorem repr_rows {row : List (List Int)} (hl : row.length ≤ 100) (h : ∀ w ∈ row, Sh8 w) : ∃ s, PyData.strOk s = true ∧ ∀ st, biD .repr st [.lst (row.map iD)] = some (.str s, false) := by
  obtain ⟨a, b, c⟩ := shown_rows hl h
  refine ⟨_, c, repr_of ?_ (fun st => ?_) a b⟩
  · unfold D.pl
    simp only [List.all_map, List.all_eq_true]
    intro w _
    exact pl_iD 27 w
  · unfold D.py
    dsimp only
    rw [pyA_rows]; rfl
theorem mul_list {st : Store} (xs : List D) (k : Nat) (h : xs.length * k ≤ 16777216) (hk : k < 16777216) : binD .mul st (.lst xs) (.int (k : Nat)) = some (.lst (List.flatten (List.replicate k xs)), true) := by
  show (if xs.length * ((k : Nat) : Int).toNat ≤ LIM ∧ -(2 ^ 63) ≤ ((k : Nat) : Int) ∧ ((k : Nat) : Int) < 2 ^ 63 then some (D.lst (List.flatten (List.replicate ((k : Nat) : Int).toNat xs)), true) else none) = _
  rw [Int.toNat_natCast, if_pos ⟨h, by omega, by omega⟩]
theorem get_put (k k' : Key) (v : D) : ∀ ks : List (Key × D), getK (putD ks k v) k' = if k = k' then some v else getK ks k' := by
  intro ks
  unfold putD
  by_cases h : (ks.any fun kv => decide (kv.1 = k)) = true
  · rw [if_pos h]
    induction ks with
    | nil => cases h
    | cons p ks ih =>
      unfold getK at *
      rw [List.map_cons, List.find?_cons, List.find?_cons]
      by_cases hp : p.1 = k
      · by_cases e : k = k'
        · subst e; simp [hp]
        · have : ¬ p.1 = k' := by rw [hp]; exact e
          simp only [hp, if_true, e, decide_false, if_false]
          by_cases ha : (ks.any fun kv => decide (kv.1 = k)) = true
          · have := ih ha; rw [if_neg e] at this; exact this
          · have hn : ks.map (fun kv => if kv.1 = k then (kv.1, v) else kv) = ks := by
              rw [List.map_congr_left (g := id), List.map_id]
              intro q hq
              have : ¬ q.1 = k := fun z => ha (List.any_eq_true.mpr ⟨q, hq, by simpa using z⟩)
              simp [this]
            rw [hn]
      · have ha : (ks.any fun kv => decide (kv.1 = k)) = true := by
          rw [List.any_cons] at h
          simpa [hp] using h
        have := ih ha
        simp only [hp, if_false]
        by_cases e2 : p.1 = k'
        · have : ¬ k = k' := fun z => hp (e2.trans z.symm)
          simp [e2, this]
        · simp only [e2, decide_false]; exact this
  · rw [if_neg h]
    unfold getK
    rw [List.find?_append]
    by_cases e : k = k'
    · subst e
      have : ks.find? (fun kv => decide (kv.1 = k)) = none := by
        rw [List.find?_eq_none]
        intro q hq z
        exact h (List.any_eq_true.mpr ⟨q, hq, z⟩)
      simp [this]
    · simp [e]
theorem get_mk (f : Int → D) (t : Int) : ∀ (ks : List Int) (acc : List (Key × D)), getK (mkD (ks.map Sum.inl) (ks.map f) acc) (Sum.inl t) = if t ∈ ks then some (f t) else getK acc (Sum.inl t)
  | [], acc => by unfold mkD; simp
  | k :: ks, acc => by
    simp only [List.map_cons]
    unfold mkD
    rw [get_mk f t ks, get_put]
    by_cases h : t ∈ ks
    · simp [h]
    · by_cases e : k = t
      · subst e; simp
      · have e2 : ¬ t = k := fun z => e z.symm
        have e3 : ¬ (Sum.inl k : Key) = Sum.inl t := fun z => e (by injection z)
        simp [h, e2, e3]
theorem keys_intsD : ∀ ks : List Int, keysD (ks.map D.int) = some (ks.map Sum.inl)
  | [] => rfl
  | k :: ks => by simp only [List.map_cons, keysD, keyD, keys_intsD ks]
theorem pairs_ints (f : Int → D) : ∀ ks : List Int, pairsD (ks.map fun t => .tup [.int t, f t]) = some (ks.map D.int, ks.map f)
  | [] => rfl
  | k :: ks => by simp only [List.map_cons, pairsD, pairs_ints f ks, Option.map]
theorem dict_ints (st : Store) (f : Int → D) (ks : List Int) : biD .dict st [.lst (ks.map fun t => .tup [.int t, f t])] = some (.dct (mkD (ks.map Sum.inl) (ks.map f) []), true) := by
  unfold biD
  simp only [lsD, Option.bind, pairs_ints, keys_intsD]
theorem get_ints (st : Store) (f : Int → D) (ks : List Int) (t : Int) (z : D) : mtD .get st (.dct (mkD (ks.map Sum.inl) (ks.map f) [])) [.int t, z] = some (if t ∈ ks then f t else z, false) := by
  show some ((getK (mkD (ks.map Sum.inl) (ks.map f) []) (Sum.inl t)).getD z, false) = _
  rw [get_mk]
  by_cases h : t ∈ ks
  · simp [h]
  · simp [h, getK]
section
variable {P : Pg} {env : Env} {st st1 st2 st3 : Store} {a b c : E} {n m q : Bool}
theorem it_rg3 {i j k : Int} (h1 : E.ev P a env st = some ⟨.int i, n, st1⟩) (h2 : E.ev P b env st1 = some ⟨.int j, m, st2⟩) (h3 : E.ev P c env st2 = some ⟨.int k, q, st3⟩) (h : k ≠ 0 ∧ k.natAbs < 1073741824 ∧ Builtin.Range.small i j k = true) : It.ev P (.rg3 a b c) env st = some (fun _ => some ((List.range (Builtin.Range.rangeSize i j k).toNat).map fun q => .int (i + (q : Nat) * k)), st3) := by
  unfold It.ev; simp only [h1, h2, h3]; rw [if_pos h]
end
end EV

namespace K88
open EV
/-- def is_whole (top 6): 0 value -/
def f_is_whole : Fn := ⟨1, 1, (.cons (.ret (.and (.isi (.var 0) ["int"]) (.not (.isi (.var 0) ["bool"]))))
  .nil)⟩
def n_is_whole : List PySem.Str := ["value"]
/-- def is_count (top 7): 0 value -/
def f_is_count : Fn := ⟨1, 1, (.cons (.ret (.and (.call "is_whole" (.cons (.var 0) .nil)) (.cmp .ge (.var 0) (.int 0))))
  .nil)⟩
def n_is_count : List PySem.Str := ["value"]
/-- def common_of (top 9): 0 one, 1 other -/
def f_common_of : Fn := ⟨2, 2, (.cons (.asgT [0, 1] (.cons (.bi .abs (.cons (.var 0) .nil)) (.cons (.bi .abs (.cons (.var 1) .nil)) .nil)))
  (.cons (.whl (.cmp .gt (.var 1) (.int 0))
   (.frz 1 (.cons (.asgT [0, 1] (.cons (.var 1) (.cons (.bin .mod (.var 0) (.var 1)) .nil)))
  .nil)))
  (.cons (.ret (.var 0))
  .nil)))⟩
def n_common_of : List PySem.Str := ["one", "other"]
/-- def lowest_of (top 10): 0 above, 1 below, 2 part -/
def f_lowest_of : Fn := ⟨2, 3, (.cons (.asg 2 (.call "common_of" (.cons (.var 0) (.cons (.var 1) .nil))))
  (.cons (.iff (.cmp .lt (.var 1) (.int 0))
   (.cons (.asg 2 (.bin .sub (.int 0) (.var 2)))
  .nil)
   .nil)
  (.cons (.ret (.tup (.cons (.bin .fdiv (.var 0) (.var 2)) (.cons (.bin .fdiv (.var 1) (.var 2)) .nil))))
  .nil)))⟩
def n_lowest_of : List PySem.Str := ["above", "below", "part"]
/-- def is_wheel (top 12): 0 value, 1 sector -/
def f_is_wheel : Fn := ⟨1, 2, (.cons (.ret (.and (.isi (.var 0) ["list"]) (.and (.cmp .ne (.var 0) (.lst .nil)) (.bi .all (.cons (.lc (.call "is_count" (.cons (.var 1) .nil)) [1] (.one 1) (.ovr (.var 0)) .no) .nil)))))
  .nil)⟩
def n_is_wheel : List PySem.Str := ["value", "sector"]
/-- def check_wheel (top 13): 0 wheel -/
def f_check_wheel : Fn := ⟨1, 1, (.cons (.iff (.not (.call "is_wheel" (.cons (.var 0) .nil)))
   (.cons .rai
  .nil)
   .nil)
  .nil)⟩
def n_check_wheel : List PySem.Str := ["wheel"]
/-- def check_row (top 15): 0 row, 1 wheel -/
def f_check_row : Fn := ⟨1, 2, (.cons (.iff (.or (.not (.isi (.var 0) ["list"])) (.or (.cmp .eq (.var 0) (.lst .nil)) (.not (.bi .all (.cons (.lc (.call "is_wheel" (.cons (.var 1) .nil)) [1] (.one 1) (.ovr (.var 0)) .no) .nil)))))
   (.cons .rai
  .nil)
   .nil)
  .nil)⟩
def n_check_row : List PySem.Str := ["row", "wheel"]
/-- def counts_of_sums (top 16): 0 row, 1 found, 2 wheel, 3 later, 4 total, 5 sector -/
def f_counts_of_sums : Fn := ⟨1, 6, (.cons (.asg 1 (.dic (.cons (.int 0) (.int 1) .nil)))
  (.cons (.for (.one 2) (.ovr (.var 0))
   (.cons (.asg 3 (.dic .nil))
  (.frz 1 (.cons (.for (.one 4) (.key 1)
   (.cons (.for (.one 5) (.ovr (.var 2))
   (.cons (.setI 3 (.bin .add (.var 4) (.var 5)) (.bin .add (.mth .get (.var 3) (.cons (.bin .add (.var 4) (.var 5)) (.cons (.int 0) .nil))) (.sub (.var 1) (.var 4))))
  .nil))
  .nil))
  (.frz 3 (.cons (.asg 1 (.var 3))
  .nil))))))
  (.cons (.ret (.var 1))
  .nil)))⟩
def n_counts_of_sums : List PySem.Str := ["row", "found", "wheel", "later", "total", "sector"]
/-- def table_of (top 17): 0 row, 1 counts, 2 whole, 3 total -/
def f_table_of : Fn := ⟨1, 4, (.cons (.asg 1 (.call "counts_of_sums" (.cons (.var 0) .nil)))
  (.frz 1 (.cons (.asg 2 (.bi .sum (.cons (.lc (.sub (.var 1) (.var 3)) [3] (.one 3) (.key 1) .no) .nil)))
  (.frz 2 (.cons (.ret (.mk (.lc (.tup (.cons (.var 3) (.cons (.call "lowest_of" (.cons (.sub (.var 1) (.var 3)) (.cons (.var 2) .nil))) .nil))) [3] (.one 3) (.ovr (.bi .sorted (.cons (.var 1) .nil))) .no)))
  .nil)))))⟩
def n_table_of : List PySem.Str := ["row", "counts", "whole", "total"]
/-- def sum_table (top 18): 0 row -/
def f_sum_table : Fn := ⟨1, 1, (.cons (.exp (.call "check_row" (.cons (.var 0) .nil)))
  (.cons (.ret (.call "table_of" (.cons (.var 0) .nil)))
  .nil))⟩
def n_sum_table : List PySem.Str := ["row"]
/-- def are_same_sums (top 19): 0 row, 1 late -/
def f_are_same_sums : Fn := ⟨2, 2, (.cons (.exp (.call "check_row" (.cons (.var 0) .nil)))
  (.cons (.exp (.call "check_row" (.cons (.var 1) .nil)))
  (.cons (.ret (.cmp .eq (.call "table_of" (.cons (.var 0) .nil)) (.call "table_of" (.cons (.var 1) .nil))))
  .nil)))⟩
def n_are_same_sums : List PySem.Str := ["row", "late"]
/-- def chance_of_sum (top 20): 0 wheel, 1 many, 2 total, 3 counts, 4 whole, 5 turn -/
def f_chance_of_sum : Fn := ⟨3, 6, (.cons (.exp (.call "check_wheel" (.cons (.var 0) .nil)))
  (.cons (.iff (.not (.call "is_count" (.cons (.var 1) .nil)))
   (.cons .rai
  .nil)
   .nil)
  (.cons (.iff (.not (.call "is_count" (.cons (.var 2) .nil)))
   (.cons .rai
  .nil)
   .nil)
  (.cons (.asg 3 (.call "counts_of_sums" (.cons (.bin .mul (.lst (.cons (.var 0) .nil)) (.var 1)) .nil)))
  (.cons (.asg 4 (.int 1))
  (.cons (.for (.one 5) (.rg1 (.var 1))
   (.cons (.asg 4 (.bin .mul (.var 4) (.bi .len (.cons (.var 0) .nil))))
  .nil))
  (.frz 4 (.cons (.ret (.call "lowest_of" (.cons (.mth .get (.var 3) (.cons (.var 2) (.cons (.int 0) .nil))) (.cons (.var 4) .nil))))
  .nil))))))))⟩
def n_chance_of_sum : List PySem.Str := ["wheel", "many", "total", "counts", "whole", "turn"]
/-- def _law_hash (top 22): 0 seed, 1 index, 2 mixed -/
def f__law_hash : Fn := ⟨2, 3, (.cons (.asg 2 (.bin .mod (.bi .int (.cons (.bin .add (.bin .add (.bin .add (.bin .mul (.var 0) (.int 1140671)) (.bin .mul (.bin .mul (.int 27644437) (.var 1)) (.var 1))) (.bin .mul (.int 131) (.var 1))) (.int 19)) .nil)) (.int 2147483629)))
  (.cons (.asg 2 (.bin .mod (.bi .int (.cons (.bin .add (.bin .add (.bin .mul (.var 2) (.var 2)) (.bin .mul (.int 62089) (.var 1))) (.int 32416187)) .nil)) (.int 2147483587)))
  (.cons (.ret (.bin .mod (.bi .int (.cons (.bin .mul (.var 2) (.int 48271)) .nil)) (.int 2147483647)))
  .nil)))⟩
def n__law_hash : List PySem.Str := ["seed", "index", "mixed"]
/-- def _law_cell (top 23): 0 script, 1 index -/
def f__law_cell : Fn := ⟨2, 2, (.cons (.iff (.cmp .lt (.var 1) (.bi .len (.cons (.var 0) .nil)))
   (.cons (.ret (.sub (.var 0) (.var 1)))
  .nil)
   .nil)
  (.cons (.ret (.bin .mod (.bi .sum (.cons (.slc (.var 0) .no (.so (.int 1))) .nil)) (.int 1000003)))
  .nil))⟩
def n__law_cell : List PySem.Str := ["script", "index"]
/-- def _law_generator (top 24): 0 script, 1 index, 2 seed -/
def f__law_generator : Fn := ⟨2, 3, (.cons (.asg 2 (.call "_law_cell" (.cons (.var 0) (.cons (.var 1) .nil))))
  (.cons (.ret (.cel (.cons (.bin .mod (.bi .int (.cons (.bi .max (.cons (.bin .sub (.var 2) (.bin .pow (.int 10) (.int 18))) (.cons (.int 0) .nil))) .nil)) (.bin .pow (.bin .pow (.int 10) (.int 60)) (.int 10))) (.cons (.bin .mod (.bi .int (.cons (.var 2) .nil)) (.int 2147483647)) (.cons (.bin .mul (.int 1000) (.var 1)) .nil)))))
  .nil))⟩
def n__law_generator : List PySem.Str := ["script", "index", "seed"]
/-- def _law_random (top 25): 0 generator, 1 bound, 2 drawn, 3 turn -/
def f__law_random : Fn := ⟨2, 4, (.cons (.iff (.cmp .gt (.sub (.var 0) (.int 0)) (.int 0))
   (.cons (.asg 2 (.bin .mod (.bi .int (.cons (.sub (.var 0) (.int 0)) .nil)) (.var 1)))
  (.cons (.setI 0 (.int 0) (.bin .fdiv (.sub (.var 0) (.int 0)) (.var 1)))
  (.cons (.ret (.var 2))
  .nil)))
   .nil)
  (.cons (.asg 2 (.int 0))
  (.cons (.for (.one 3) (.rg1 (.bin .add (.int 1) (.bin .fdiv (.mth .bits (.var 1) .nil) (.int 30))))
   (.cons (.setI 0 (.int 2) (.bin .add (.sub (.var 0) (.int 2)) (.int 1)))
  (.cons (.asg 2 (.bin .add (.bin .mul (.var 2) (.int 2147483587)) (.call "_law_hash" (.cons (.sub (.var 0) (.int 1)) (.cons (.sub (.var 0) (.int 2)) .nil)))))
  .nil)))
  (.cons (.ret (.bin .mod (.bi .int (.cons (.var 2) .nil)) (.var 1)))
  .nil))))⟩
def n__law_random : List PySem.Str := ["generator", "bound", "drawn", "turn"]
/-- def _law_pick (top 26): 0 generator, 1 things -/
def f__law_pick : Fn := ⟨2, 2, (.cons (.ret (.sub (.var 1) (.call "_law_random" (.cons (.var 0) (.cons (.bi .len (.cons (.var 1) .nil)) .nil)))))
  .nil)⟩
def n__law_pick : List PySem.Str := ["generator", "things"]
/-- def _law_drawn_order (top 27): 0 generator, 1 things, 2 left, 3 found -/
def f__law_drawn_order : Fn := ⟨2, 4, (.cons (.asgT [2, 3] (.cons (.bi .list (.cons (.var 1) .nil)) (.cons (.lst .nil) .nil)))
  (.cons (.whl (.cmp .ne (.var 2) (.lst .nil))
   (.cons (.appPop 3 2 (.call "_law_random" (.cons (.var 0) (.cons (.bi .len (.cons (.var 2) .nil)) .nil))))
  .nil))
  (.cons (.ret (.var 3))
  .nil)))⟩
def n__law_drawn_order : List PySem.Str := ["generator", "things", "left", "found"]
/-- def _law_marked (top 28): 0 told, 1 kept, 2 item -/
def f__law_marked : Fn := ⟨1, 3, (.cons (.iff (.isi (.var 0) ["list"])
   (.cons (.iff (.and (.cmp .ne (.var 0) (.lst .nil)) (.cmp .eq (.sub (.var 0) (.neg (.int 1))) (.str "marked")))
   (.cons (.ret (.bl false))
  .nil)
   .nil)
  (.cons (.asg 1 (.lc (.call "_law_marked" (.cons (.var 2) .nil)) [2] (.one 2) (.ovr (.var 0)) .no))
  (.cons (.app 0 (.str "marked"))
  (.cons (.ret (.cmp .nin (.bl false) (.var 1)))
  .nil))))
   .nil)
  (.cons (.iff (.isi (.var 0) ["tuple"])
   (.cons (.ret (.cmp .nin (.bl false) (.lc (.call "_law_marked" (.cons (.var 2) .nil)) [2] (.one 2) (.ovr (.var 0)) .no)))
  .nil)
   .nil)
  (.cons (.ret (.or (.cmp .isO (.var 0) .non) (.isi (.var 0) ["int", "str"])))
  .nil)))⟩
def n__law_marked : List PySem.Str := ["told", "kept", "item"]
/-- def _law_exact (top 29): 0 told, 1 due, 2 one, 3 other -/
def f__law_exact : Fn := ⟨2, 4, (.cons (.iff (.isi (.var 1) ["list"])
   (.cons (.ret (.and (.isi (.var 0) ["list"]) (.and (.cmp .eq (.bi .len (.cons (.var 0) .nil)) (.bi .len (.cons (.var 1) .nil))) (.cmp .nin (.bl false) (.lc (.call "_law_exact" (.cons (.var 2) (.cons (.var 3) .nil))) [2, 3] (.tup [2, 3]) (.zip (.var 0) (.var 1)) .no)))))
  .nil)
   .nil)
  (.cons (.iff (.isi (.var 1) ["tuple"])
   (.cons (.ret (.and (.isi (.var 0) ["tuple"]) (.and (.cmp .eq (.bi .len (.cons (.var 0) .nil)) (.bi .len (.cons (.var 1) .nil))) (.cmp .nin (.bl false) (.lc (.call "_law_exact" (.cons (.var 2) (.cons (.var 3) .nil))) [2, 3] (.tup [2, 3]) (.zip (.var 0) (.var 1)) .no)))))
  .nil)
   .nil)
  (.cons (.iff (.cmp .isO (.var 1) .non)
   (.cons (.ret (.cmp .isO (.var 0) .non))
  .nil)
   .nil)
  (.cons (.iff (.cmp .isO (.var 1) (.bl true))
   (.cons (.ret (.cmp .isO (.var 0) (.bl true)))
  .nil)
   .nil)
  (.cons (.iff (.cmp .isO (.var 1) (.bl false))
   (.cons (.ret (.cmp .isO (.var 0) (.bl false)))
  .nil)
   .nil)
  (.cons (.iff (.isi (.var 1) ["int"])
   (.cons (.ret (.and (.isi (.var 0) ["int"]) (.and (.not (.isi (.var 0) ["bool"])) (.cmp .eq (.var 0) (.var 1)))))
  .nil)
   .nil)
  (.cons (.ret (.and (.isi (.var 0) ["str"]) (.cmp .eq (.var 0) (.var 1))))
  .nil)))))))⟩
def n__law_exact : List PySem.Str := ["told", "due", "one", "other"]
/-- def _law_unlike (top 30): 0 items, 1 found, 2 item -/
def f__law_unlike : Fn := ⟨1, 3, (.cons (.asg 1 (.lst .nil))
  (.cons (.for (.one 2) (.ovr (.bi .sorted (.cons (.var 0) .nil)))
   (.cons (.iff (.cmp .nin (.var 2) (.var 1))
   (.cons (.app 1 (.var 2))
  .nil)
   .nil)
  .nil))
  (.cons (.ret (.var 1))
  .nil)))⟩
def n__law_unlike : List PySem.Str := ["items", "found", "item"]
/-- def _law_low (top 31): 0 above, 1 below, 2 one, 3 other, 4 turn -/
def f__law_low : Fn := ⟨2, 5, (.cons (.asgT [2, 3] (.cons (.bi .abs (.cons (.var 0) .nil)) (.cons (.var 1) .nil)))
  (.cons (.for (.one 4) (.rg1 (.bin .add (.bin .mul (.bi .len (.cons (.bi .str (.cons (.var 1) .nil)) .nil)) (.int 5)) (.int 1)))
   (.frz 2 (.cons (.unp [2, 3] (.ife (.cmp .gt (.var 3) (.int 0)) (.tup (.cons (.var 3) (.cons (.bin .mod (.var 2) (.var 3)) .nil))) (.tup (.cons (.var 2) (.cons (.int 0) .nil)))))
  .nil)))
  (.cons (.ret (.tup (.cons (.bin .fdiv (.var 0) (.var 2)) (.cons (.bin .fdiv (.var 1) (.var 2)) .nil))))
  .nil)))⟩
def n__law_low : List PySem.Str := ["above", "below", "one", "other", "turn"]
/-- def _law_wheel (top 32): 0 generator, 1 most, 2 top, 3 turn -/
def f__law_wheel : Fn := ⟨3, 4, (.cons (.ret (.lc (.call "_law_random" (.cons (.var 0) (.cons (.var 2) .nil))) [3] (.one 3) (.rg1 (.bin .add (.int 1) (.call "_law_random" (.cons (.var 0) (.cons (.var 1) .nil))))) .no))
  .nil)⟩
def n__law_wheel : List PySem.Str := ["generator", "most", "top", "turn"]
/-- def _law_table (top 33): 0 row, 1 rows, 2 wheel, 3 sector, 4 told, 5 sums, 6 total -/
def f__law_table : Fn := ⟨1, 7, (.cons (.asg 1 (.lst (.cons (.lst .nil) .nil)))
  (.cons (.for (.one 2) (.ovr (.var 0))
   (.frz 1 (.cons (.asg 1 (.bi .sum (.cons (.lc (.lc (.bin .add (.var 4) (.lst (.cons (.var 3) .nil))) [3] (.one 3) (.ovr (.var 2)) .no) [4] (.one 4) (.ovr (.var 1)) .no) (.cons (.lst .nil) .nil))))
  .nil)))
  (.frz 1 (.cons (.asg 5 (.bi .sorted (.cons (.lc (.bi .sum (.cons (.var 4) .nil)) [4] (.one 4) (.ovr (.var 1)) .no) .nil)))
  (.frz 5 (.cons (.ret (.lc (.tup (.cons (.var 6) (.cons (.call "_law_low" (.cons (.mth .count (.var 5) (.cons (.var 6) .nil)) (.cons (.bi .len (.cons (.var 5) .nil)) .nil))) .nil))) [6] (.one 6) (.ovr (.bi .sorted (.cons (.call "_law_unlike" (.cons (.var 5) .nil)) .nil))) .no))
  .nil))))))⟩
def n__law_table : List PySem.Str := ["row", "rows", "wheel", "sector", "told", "sums", "total"]
/-- def _law_row_right (top 34): 0 generator, 1 row, 2 turn, 3 kept, 4 due, 5 told, 6 lists, 7 wheel, 8 sector, 9 late, 10 alike -/
def f__law_row_right : Fn := ⟨1, 11, (.cons (.asg 1 (.lc (.call "_law_wheel" (.cons (.var 0) (.cons (.int 4) (.cons (.call "_law_pick" (.cons (.var 0) (.cons (.lst (.cons (.int 3) (.cons (.int 7) (.cons (.bin .pow (.int 10) (.int 9)) .nil)))) .nil))) .nil)))) [2] (.one 2) (.rg1 (.bin .add (.int 1) (.call "_law_random" (.cons (.var 0) (.cons (.int 4) .nil))))) .no))
  (.frz 1 (.cons (.asgT [3, 4] (.cons (.bi .repr (.cons (.var 1) .nil)) (.cons (.call "_law_table" (.cons (.var 1) .nil)) .nil)))
  (.frz 1 (.cons (.asg 5 (.call "sum_table" (.cons (.var 1) .nil)))
  (.frz 4 (.frz 1 (.frz 5 (.cons (.iff (.or (.not (.call "_law_exact" (.cons (.var 5) (.cons (.var 4) .nil)))) (.or (.not (.call "_law_marked" (.cons (.var 5) .nil))) (.not (.call "_law_exact" (.cons (.callK "sum_table" (.cons (.var 1) .nil) ["row"] [0]) (.cons (.var 4) .nil))))))
   (.cons (.ret (.bl false))
  .nil)
   .nil)
  (.frz 1 (.cons (.asg 6 (.lst (.cons (.call "_law_drawn_order" (.cons (.var 0) (.cons (.var 1) .nil))) (.cons (.lc (.bin .mul (.rev (.var 7)) (.int 2)) [7] (.one 7) (.ovr (.var 1)) .no) (.cons (.bin .add (.slc (.var 1) .no (.so (.neg (.int 1)))) (.lst (.cons (.lc (.bin .add (.var 8) (.int 1)) [8] (.one 8) (.ovr (.sub (.var 1) (.neg (.int 1)))) .no) .nil))) .nil)))))
  (.frz 1 (.cons (.for (.one 9) (.ovr (.bin .add (.var 6) (.lst (.cons (.lc (.call "_law_wheel" (.cons (.var 0) (.cons (.int 4) (.cons (.int 3) .nil)))) [7] (.one 7) (.ovr (.var 1)) .no) (.cons (.bin .add (.var 1) (.lst (.cons (.lst (.cons (.int 0) .nil)) .nil))) (.cons (.slc (.var 1) .no (.so (.int 1))) .nil))))))
   (.cons (.asg 10 (.cmp .eq (.call "_law_table" (.cons (.var 9) .nil)) (.var 4)))
  (.frz 1 (.cons (.iff (.not (.call "_law_exact" (.cons (.lst (.cons (.call "are_same_sums" (.cons (.var 1) (.cons (.var 9) .nil))) (.cons (.callK "are_same_sums" (.cons (.var 9) (.cons (.var 1) .nil)) ["late", "row"] [1, 0]) .nil))) (.cons (.lst (.cons (.var 10) (.cons (.var 10) .nil))) .nil))))
   (.cons (.ret (.bl false))
  .nil)
   .nil)
  .nil))))
  (.cons (.ret (.cmp .eq (.bi .repr (.cons (.var 1) .nil)) (.var 3)))
  .nil))))))))))))))⟩
def n__law_row_right : List PySem.Str := ["generator", "row", "turn", "kept", "due", "told", "lists", "wheel", "sector", "late", "alike"]
/-- def _law_turned_right (top 35): 0 generator, 1 wheel, 2 many, 3 kept, 4 table, 5 total, 6 due, 7 top, 8 turns -/
def f__law_turned_right : Fn := ⟨1, 9, (.cons (.asgT [1, 2] (.cons (.call "_law_wheel" (.cons (.var 0) (.cons (.int 5) (.cons (.int 7) .nil)))) (.cons (.call "_law_random" (.cons (.var 0) (.cons (.int 5) .nil))) .nil)))
  (.frz 1 (.cons (.asgT [3, 4] (.cons (.bi .repr (.cons (.var 1) .nil)) (.cons (.ife (.cmp .gt (.var 2) (.int 0)) (.bi .dict (.cons (.call "_law_table" (.cons (.bin .mul (.lst (.cons (.var 1) .nil)) (.var 2)) .nil)) .nil)) (.bi .dict (.cons (.lst (.cons (.tup (.cons (.int 0) (.cons (.tup (.cons (.int 1) (.cons (.int 1) .nil))) .nil))) .nil)) .nil))) .nil)))
  (.cons (.for (.one 5) (.rg3 (.int 0) (.int 32) (.bin .add (.int 1) (.call "_law_random" (.cons (.var 0) (.cons (.int 3) .nil)))))
   (.cons (.asg 6 (.mth .get (.var 4) (.cons (.var 5) (.cons (.tup (.cons (.int 0) (.cons (.int 1) .nil))) .nil))))
  (.frz 6 (.frz 2 (.frz 1 (.cons (.iff (.not (.call "_law_exact" (.cons (.lst (.cons (.call "chance_of_sum" (.cons (.var 1) (.cons (.var 2) (.cons (.var 5) .nil)))) (.cons (.callK "chance_of_sum" (.cons (.var 5) (.cons (.var 2) (.cons (.var 1) .nil))) ["total", "many", "wheel"] [2, 1, 0]) .nil))) (.cons (.lst (.cons (.var 6) (.cons (.var 6) .nil))) .nil))))
   (.cons (.ret (.bl false))
  .nil)
   .nil)
  .nil))))))
  (.cons (.asgT [7, 8] (.cons (.bi .max (.cons (.var 1) .nil)) (.cons (.bin .add (.int 20) (.call "_law_random" (.cons (.var 0) (.cons (.int 41) .nil)))) .nil)))
  (.frz 7 (.frz 8 (.cons (.asg 6 (.call "_law_low" (.cons (.call "_law_power" (.cons (.mth .count (.var 1) (.cons (.var 7) .nil)) (.cons (.var 8) .nil))) (.cons (.call "_law_power" (.cons (.bi .len (.cons (.var 1) .nil)) (.cons (.var 8) .nil))) .nil))))
  (.frz 6 (.frz 8 (.frz 1 (.cons (.ret (.and (.call "_law_exact" (.cons (.call "chance_of_sum" (.cons (.var 1) (.cons (.var 8) (.cons (.bin .mul (.var 7) (.var 8)) .nil)))) (.cons (.var 6) .nil))) (.and (.call "_law_exact" (.cons (.call "chance_of_sum" (.cons (.var 1) (.cons (.var 8) (.cons (.bin .add (.bin .mul (.var 7) (.var 8)) (.int 1)) .nil)))) (.cons (.tup (.cons (.int 0) (.cons (.int 1) .nil))) .nil))) (.cmp .eq (.bi .repr (.cons (.var 1) .nil)) (.var 3)))))
  .nil))))))))))))⟩
def n__law_turned_right : List PySem.Str := ["generator", "wheel", "many", "kept", "table", "total", "due", "top", "turns"]
/-- def _law_power (top 36): 0 number, 1 times, 2 found, 3 turn -/
def f__law_power : Fn := ⟨2, 4, (.cons (.asg 2 (.int 1))
  (.cons (.for (.one 3) (.rg1 (.var 1))
   (.cons (.asg 2 (.bin .mul (.var 2) (.var 0)))
  .nil))
  (.cons (.ret (.var 2))
  .nil)))⟩
def n__law_power : List PySem.Str := ["number", "times", "found", "turn"]
/-- def law (top 37): 0 script, 1 index, 2 generator -/
def f_law : Fn := ⟨1, 3, (.cons (.for (.one 1) (.rg1 (.int 4))
   (.cons (.asg 2 (.call "_law_generator" (.cons (.var 0) (.cons (.var 1) .nil))))
  (.frz 2 (.cons (.iff (.or (.not (.call "_law_row_right" (.cons (.var 2) .nil))) (.not (.call "_law_turned_right" (.cons (.var 2) .nil))))
   (.cons (.ret (.bl false))
  .nil)
   .nil)
  .nil))))
  (.cons (.ret (.bl true))
  .nil))⟩
def n_law : List PySem.Str := ["script", "index", "generator"]
def prog : Prog := ⟨fun x => if x = "is_whole" then some f_is_whole else if x = "is_count" then some f_is_count else if x = "common_of" then some f_common_of else if x = "lowest_of" then some f_lowest_of else if x = "is_wheel" then some f_is_wheel else if x = "check_wheel" then some f_check_wheel else if x = "check_row" then some f_check_row else if x = "counts_of_sums" then some f_counts_of_sums else if x = "table_of" then some f_table_of else if x = "sum_table" then some f_sum_table else if x = "are_same_sums" then some f_are_same_sums else if x = "chance_of_sum" then some f_chance_of_sum else if x = "_law_hash" then some f__law_hash else if x = "_law_cell" then some f__law_cell else if x = "_law_generator" then some f__law_generator else if x = "_law_random" then some f__law_random else if x = "_law_pick" then some f__law_pick else if x = "_law_drawn_order" then some f__law_drawn_order else if x = "_law_marked" then some f__law_marked else if x = "_law_exact" then some f__law_exact else if x = "_law_unlike" then some f__law_unlike else if x = "_law_low" then some f__law_low else if x = "_law_wheel" then some f__law_wheel else if x = "_law_table" then some f__law_table else if x = "_law_row_right" then some f__law_row_right else if x = "_law_turned_right" then some f__law_turned_right else if x = "_law_power" then some f__law_power else if x = "law" then some f_law else none, fun x =>  none, [("are_same_sums", ["late", "row"], [1, 0]), ("sum_table", ["row"], [0]), ("chance_of_sum", ["total", "many", "wheel"], [2, 1, 0])], 1000000⟩
end K88

/-! k88: counts_of_sums. -/
namespace K88
open PySem PyProof.Rows L2 EV
local macro_rules | `(tactic| walk_at "ev") => `(tactic| repeat' (first
  | with_reducible exact r_int | with_reducible exact r_str | with_reducible exact r_bl | with_reducible exact r_non | with_reducible exact es_nil | with_reducible exact esB_nil | with_reducible exact esR_nil | with_reducible exact evI_no | with_reducible exact evC_no
  | ((with_reducible apply r_var); rfl) | ((with_reducible apply b_var); rfl) | ((with_reducible apply b_ow); rfl)
  | ((with_reducible apply b_ev); · rfl)
  | with_reducible apply r_bin | with_reducible apply r_neg | with_reducible apply r_cmp | with_reducible apply r_not | with_reducible apply r_tup | with_reducible apply r_lst | with_reducible apply r_cel
  | with_reducible apply r_sub | with_reducible apply r_bi | with_reducible apply r_isi | with_reducible apply r_mth | with_reducible apply r_callP | with_reducible apply r_callKP | with_reducible apply r_call | with_reducible apply r_slc
  | with_reducible apply es_cons | with_reducible apply esB_cons | with_reducible apply esR_cons | with_reducible apply evI_so | with_reducible apply evC_so
  | with_reducible exact add_ok _ _ _ | with_reducible exact sub_ok _ _ _ | with_reducible exact int_ok _ _ | with_reducible exact eqD_int _ _ | with_reducible exact neD_int _ _
  | (show _ = some _; with_reducible assumption) | (show _ = some _; with_reducible apply_assumption)))
local macro_rules | `(tactic| walk_at "ret") => `(tactic| ((apply s_ret); · rfl))

/-- the keys -/
def ks_map (F : Asc) : List D := (asD F).map fun kv => dK kv.1
def SmL (L : List Int) : Prop := ∀ ks : List Int, ks.Nodup → (∀ k ∈ ks, k ∈ L) → ks.length < LIM
def SmR : List (List Int) → List Int → Prop
  | [], _ => True
  | w :: r, L => SmL (nextS L w) ∧ SmR r (nextS L w)
def allS : List (List Int) → List Int → List Int
  | [], L => L
  | w :: r, L => allS r (nextS L w)
theorem RpC.small {f : Asc} {c : Int → Nat} (h : RpC f c) {S : List Int} (hs : ∀ k, c k ≠ 0 → k ∈ S) (hS : SmL S) : (asD f).length < LIM := by
  unfold asD
  rw [List.length_map, ← List.length_map (f := (·.1)) (as := f)]
  exact hS _ h.nd fun k hk => hs k (h.key.mp hk)
abbrev bodyI : Ss := (.cons (.setI 3 (.bin .add (.var 4) (.var 5)) (.bin .add (.mth .get (.var 3) (.cons (.bin .add (.var 4) (.var 5)) (.cons (.int 0) .nil))) (.sub (.var 1) (.var 4)))) .nil)
theorem counts_in (P : Pg) (st : Store) (rw_ w : D) (F : Asc) (t : Int) (v : Nat) (hv : 0 < v) (hF : getA F t = some v) (S : List Int) (hS : SmL S) : ∀ (ss : List Int) (g : Asc) (c : Int → Nat) (x5 : Sl), RpC g c → (∀ k, c k ≠ 0 → k ∈ S) → (∀ s ∈ ss, t + s ∈ S) →
    ∃ g' x5', forL (.one 5) (Ss.ev P bodyI) (ss.map D.int) [.fr rw_, .fr (.dct (asD F)), .fr w, .ow (.dct (asD g)), .fr (.int t), x5] st = some ⟨.nx, [.fr rw_, .fr (.dct (asD F)), .fr w, .ow (.dct (asD g')), .fr (.int t), x5'], st⟩ ∧ RpC g' (fun x => c x + v * ss.count (x - t)) ∧ (∀ k, c k + v * ss.count (k - t) ≠ 0 → k ∈ S)
  | [], g, c, x5, h, hs, _ => ⟨g, x5, rfl, h.congr fun x => by simp, fun k hk => hs k (by simpa using hk)⟩
  | s :: ss, g, c, x5, h, hs, hss => by
    have hp := h.put (t + s) hv
    have hs2 : ∀ k, (c k + if k = t + s then v else 0) ≠ 0 → k ∈ S := fun k hk => by
      by_cases e : k = t + s
      · rw [e]; exact hss s List.mem_cons_self
      · simp only [e, if_false, Nat.add_zero] at hk; exact hs k hk
    obtain ⟨g', y5, e1, e2, e3⟩ := counts_in P st rw_ w F t v hv hF S hS ss (putA g (t + s) (c (t + s) + v)) _ (.fr (.int s)) hp hs2 fun s' h' => hss s' (List.mem_cons_of_mem _ h')
    have hcnt : ∀ x, c x + v * (s :: ss).count (x - t) = (c x + if x = t + s then v else 0) + v * ss.count (x - t) := fun x => by
      rw [List.count_cons]
      by_cases e : x = t + s
      · have e2 : s = x - t := by omega
        have e3 : (s == x - t) = true := by simpa using e2
        rw [if_pos e, if_pos e3, Nat.mul_add]; omega
      · have e2 : ¬ s = x - t := by omega
        have e3 : ¬ (s == x - t) = true := by simpa using e2
        rw [if_neg e, if_neg e3, Nat.add_zero]; omega
    refine ⟨g', y5, ?_, e2.congr fun x => (hcnt x).symm, fun k hk => e3 k (by rw [← hcnt]; exact hk)⟩
    have hget : mtD .get st (.dct (asD g)) [.int (t + s), .int 0] = some (.int (c (t + s) : Nat), false) := by
      show some ((getK (asD g) (Sum.inl (t + s))).getD (.int 0), false) = _
      rw [getK_as, h.get]
      by_cases z : c (t + s) = 0
      · simp [z]
      · simp [z]
    have hat : atD st (.dct (asD F)) (.int t) = some (.int (v : Nat)) := at_dc rfl rfl (by rw [getK_as, hF]; rfl)
    have hset := setX_owD (st := st) (env := [.fr rw_, .fr (.dct (asD F)), .fr w, .ow (.dct (asD g)), .fr (.int t), .fr (.int s)]) (k := 3) (y := .int (t + s)) (v := .int ((c (t + s) + v : Nat) : Int)) (kk := Sum.inl (t + s)) (ks := asD g) rfl rfl (RpC.small h hs hS)
    rw [putD_as] at hset
    refine f_cons (env1 := [.fr rw_, .fr (.dct (asD F)), .fr w, .ow (.dct (asD g)), .fr (.int t), .fr (.int s)]) rfl (s_setI (d := .int ((c (t + s) + v : Nat) : Int)) (n := false) (st1 := st) ?_ (r_bin (b_var rfl) (b_var rfl) (add_ok _ _ _)) hset rfl) e1
    refine r_bin (b_ev rfl (r_mth (b_ow rfl) rfl (es_cons (r_bin (b_var rfl) (b_var rfl) (add_ok _ _ _)) (es_cons r_int es_nil)) hget)) (b_ev rfl (r_sub (b_var rfl) (r_var rfl) hat)) ?_
    rw [add_ok]; simp
theorem counts_mid (P : Pg) (st : Store) (rw_ : D) (w : List Int) (F : Asc) (S : List Int) (hS : SmL S) : ∀ (ps : Asc) (g : Asc) (c : Int → Nat) (x4 x5 : Sl), RpC g c → (∀ p ∈ ps, getA F p.1 = some p.2 ∧ 0 < p.2) → (∀ k, c k ≠ 0 → k ∈ S) → (∀ p ∈ ps, ∀ s ∈ w, p.1 + s ∈ S) →
    ∃ g' x4' x5', forL (.one 4) (Ss.ev P (.cons (.for (.one 5) (.ovr (.var 2)) bodyI) .nil)) (ps.map fun p => .int p.1) [.fr rw_, .fr (.dct (asD F)), .fr (iD w), .ow (.dct (asD g)), x4, x5] st = some ⟨.nx, [.fr rw_, .fr (.dct (asD F)), .fr (iD w), .ow (.dct (asD g')), x4', x5'], st⟩ ∧ RpC g' (fun x => c x + (ps.map fun p => p.2 * w.count (x - p.1)).sum)
  | [], g, c, x4, x5, h, _, _, _ => ⟨g, x4, x5, rfl, h.congr fun x => by simp⟩
  | p :: ps, g, c, x4, x5, h, hF, hs, hw => by
    obtain ⟨f1, f2⟩ := hF p List.mem_cons_self
    obtain ⟨g1, y5, e1, e2, e3⟩ := counts_in P st rw_ (iD w) F p.1 p.2 f2 f1 S hS w g c x5 h hs (hw p List.mem_cons_self)
    obtain ⟨g2, z4, z5, e4, e5⟩ := counts_mid P st rw_ w F S hS ps g1 _ (.fr (.int p.1)) y5 e2 (fun q hq => hF q (List.mem_cons_of_mem _ hq)) e3 (fun q hq => hw q (List.mem_cons_of_mem _ hq))
    refine ⟨g2, z4, z5, f_cons (env1 := [.fr rw_, .fr (.dct (asD F)), .fr (iD w), .ow (.dct (asD g)), .fr (.int p.1), x5]) rfl (s_for (ds := w.map D.int) (st1 := st) (it_ovr (r_var rfl) rfl) e1 rfl) e4, e5.congr fun x => ?_⟩
    rw [List.map_cons, List.sum_cons]; omega
abbrev bodyO : Ss := (.cons (.asg 3 (.dic .nil))
  (.frz 1 (.cons (.for (.one 4) (.key 1)
   (.cons (.for (.one 5) (.ovr (.var 2)) bodyI)
  .nil))
  (.frz 3 (.cons (.asg 1 (.var 3))
  .nil)))))
/-- slot 1: the dictionary so far, own or not -/
def isAs (s : Sl) (F : Asc) : Prop := s = .ow (.dct (asD F)) ∨ s = .fr (.dct (asD F))
theorem counts_out (P : Pg) (st : Store) (rw_ : D) : ∀ (row : List (List Int)) (F : Asc) (L : List Int) (x1 x2 x3 x4 x5 : Sl), isAs x1 F → RpC F (fun x => L.count x) → SmR row L →
    ∃ F' x1' x2' x3' x4' x5', forL (.one 2) (Ss.ev P bodyO) (row.map iD) [.fr rw_, x1, x2, x3, x4, x5] st = some ⟨.nx, [.fr rw_, x1', x2', x3', x4', x5'], st⟩ ∧ isAs x1' F' ∧ RpC F' (fun x => (allS row L).count x)
  | [], F, L, x1, x2, x3, x4, x5, h1, h2, _ => ⟨F, x1, x2, x3, x4, x5, rfl, h1, h2⟩
  | w :: row, F, L, x1, x2, x3, x4, x5, h1, h2, h3 => by
    have hF : ∀ p ∈ F, getA F p.1 = some p.2 ∧ 0 < p.2 := fun p hp => by
      obtain ⟨a, b⟩ := h2.val hp
      refine ⟨?_, b⟩
      rw [h2.get, if_neg (by omega), a]
    have hmem : ∀ p ∈ F, ∀ s ∈ w, p.1 + s ∈ nextS L w := fun p hp s hs => by
      have : L.count p.1 ≠ 0 := h2.key.mp (List.mem_map_of_mem hp)
      have hL : p.1 ∈ L := List.count_pos_iff.mp (by omega)
      exact List.mem_flatMap.mpr ⟨p.1, hL, List.mem_map_of_mem hs⟩
    obtain ⟨g, z4, z5, e1, e2⟩ := counts_mid P st rw_ w F (nextS L w) h3.1 F [] (fun _ => 0) x4 x5 ⟨by simp, fun k => by simp [getA]⟩ hF (fun k hk => absurd rfl hk) hmem
    have e3 : RpC g (fun x => (nextS L w).count x) := e2.congr fun x => by
      rw [count_next, ← h2.sum fun t => w.count (x - t)]; omega
    obtain ⟨F', y1, y2, y3, y4, y5, f1, f2, f3⟩ := counts_out P st rw_ row g (nextS L w) (.fr (.dct (asD g))) (.fr (iD w)) (.fr (.dct (asD g))) z4 z5 (.inr rfl) e3 h3.2
    refine ⟨F', y1, y2, y3, y4, y5, ?_, f2, f3⟩
    have hdic : ∀ env, E.ev P (.dic .nil) env st = some ⟨.dct (asD []), true, st⟩ := fun env => by
      unfold E.ev Ps.ev; rfl
    have hk : ks_map F = F.map fun p => D.int p.1 := by unfold ks_map asD; rw [List.map_map]; rfl
    have hfr : frzE [.fr rw_, x1, .fr (iD w), .ow (.dct (asD [])), x4, x5] 1 = [.fr rw_, .fr (.dct (asD F)), .fr (iD w), .ow (.dct (asD [])), x4, x5] := by
      rcases h1 with rfl | rfl <;> rfl
    refine f_cons (env1 := [.fr rw_, x1, .fr (iD w), x3, x4, x5]) rfl (s_asg (hdic _) (s_frz ?_)) f1
    show Ss.ev P _ (frzE [.fr rw_, x1, .fr (iD w), .ow (.dct (asD [])), x4, x5] 1) st = _
    rw [hfr]
    refine s_for (ds := F.map fun p => D.int p.1) (st1 := st) ?_ e1 (s_frz (s_asg (r_var rfl) rfl))
    rw [← hk]
    exact it_key rfl
theorem counts_run (n : Nat) (st : Store) (row : List (List Int)) (hS : SmR row [0]) : ∃ F b, prog.run (n + 1) "counts_of_sums" [.lst (row.map iD)] st = some ⟨.dct (asD F), b, st⟩ ∧ RpC F (fun x => (allS row [0]).count x) := by
  have hf : prog.fn "counts_of_sums" = some f_counts_of_sums := by rfl
  obtain ⟨F, x1, x2, x3, x4, x5, e1, e2, e3⟩ := counts_out ⟨prog.run n, prog.glo, prog.whl⟩ st (.lst (row.map iD)) row [(0, 1)] [0] (.ow (.dct (asD [(0, 1)]))) .no .no .no .no (.inl rfl) ⟨by simp, fun k => by
    unfold getA
    by_cases h : k = 0
    · subst h; simp
    · have : ¬ (0 : Int) = k := fun z => h z.symm
      simp [this, List.count_cons]⟩ hS
  have hdic : ∀ env, E.ev ⟨prog.run n, prog.glo, prog.whl⟩ (.dic (.cons (.int 0) (.int 1) .nil)) env st = some ⟨.dct (asD [(0, 1)]), true, st⟩ := fun env => by
    unfold E.ev Ps.ev; rfl
  rcases e2 with rfl | rfl
  · refine ⟨F, true, ?_, e3⟩
    apply run_rt hf rfl
    exact s_asg (hdic _) (s_for (ds := row.map iD) (st1 := st) (it_ovr (r_var rfl) rfl) e1 (s_retO (by rfl)))
  · refine ⟨F, false, ?_, e3⟩
    apply run_rt hf rfl
    exact s_asg (hdic _) (s_for (ds := row.map iD) (st1 := st) (it_ovr (r_var rfl) rfl) e1 (s_retF (by rfl)))
end K88

/-! k88: tables. -/
namespace EV
open PySem PyProof.Rows L2
theorem py_ints (st : Store) (n : Nat) : ∀ xs : List Int, mapO (D.py st (n + 1)) (xs.map D.int) = some (xs.map PyData.int)
  | [] => rfl
  | x :: xs => by simp only [List.map_cons]; unfold mapO; rw [py_ints st n xs]; rfl
theorem any_eqv (x : Int) : ∀ ys : List Int, ys.any ((fun z => PyData.eqv z (.int x)) ∘ PyData.int) = decide (x ∈ ys)
  | [] => by simp
  | y :: ys => by
    rw [List.any_cons, any_eqv x ys]
    have e : ((fun z => PyData.eqv z (.int x)) ∘ PyData.int) y = (y == x) := by simp [PyData.eqv]
    rw [e]
    by_cases h : x = y
    · subst h; simp
    · have h' : ¬ y = x := fun z => h z.symm
      simp [h, h']
theorem in_ints (st : Store) (x : Int) (xs : List Int) : inD st (.int x) (iD xs) = some (decide (x ∈ xs)) := by
  obtain ⟨p, p1, p2, p3⟩ := py_pl st 30 (iD xs) (pl_iD 28 xs)
  have hp := p1 30 (Nat.le_refl _)
  have e : D.py st 30 (iD xs) = some (.list (xs.map PyData.int)) := by
    unfold iD D.py; simp only [py_ints]; rfl
  rw [e] at hp
  cases hp
  have s1 : (iD xs).shp st = some (.list (xs.map PyData.int)) := by
    unfold D.shp
    rw [e]
    have : SeqAt.shaped (.list (xs.map PyData.int)) = true := by unfold SeqAt.shaped; rw [p2]; simp; omega
    simp only [this, if_true]
  have s2 : (D.int x).shp st = some (.int x) := rfl
  unfold iD at s1 ⊢
  unfold inD
  simp only [dcD, lsD, s1, s2]
  congr 1
  rw [List.any_map]
  exact any_eqv x xs
theorem cell_shp {st : Store} {i : Nat} {xs : List D} (h : st[i]? = some (.lst xs)) : (D.cell i).shp st = (D.lst xs).shp st := by
  unfold D.shp D.py; simp only [h]
/-- each once -/
def unl : List Int → List Int → List Int
  | acc, [] => acc
  | acc, x :: xs => unl (if x ∈ acc then acc else acc ++ [x]) xs
theorem unl_nodup : ∀ (xs acc : List Int), acc.Nodup → (unl acc xs).Nodup
  | [], acc, h => h
  | x :: xs, acc, h => by
    unfold unl
    by_cases hx : x ∈ acc
    · rw [if_pos hx]; exact unl_nodup xs acc h
    · rw [if_neg hx]
      refine unl_nodup xs _ (List.nodup_append.mpr ⟨h, by simp, ?_⟩)
      intro a ha b hb e
      simp only [List.mem_singleton] at hb
      subst e; subst hb
      exact hx ha
theorem unl_mem : ∀ (xs acc : List Int) (y : Int), y ∈ unl acc xs ↔ y ∈ acc ∨ y ∈ xs
  | [], acc, y => by simp [unl]
  | x :: xs, acc, y => by
    unfold unl
    rw [unl_mem xs]
    by_cases hx : x ∈ acc
    · rw [if_pos hx]
      constructor
      · rintro (h | h)
        · exact .inl h
        · exact .inr (List.mem_cons_of_mem _ h)
      · rintro (h | h)
        · exact .inl h
        · rcases List.mem_cons.mp h with rfl | h
          · exact .inl hx
          · exact .inr h
    · rw [if_neg hx]
      simp only [List.mem_append, List.mem_cons, List.not_mem_nil, or_false, or_assoc]
theorem unl_len : ∀ (xs acc : List Int), (unl acc xs).length ≤ acc.length + xs.length
  | [], acc => by simp [unl]
  | x :: xs, acc => by
    unfold unl
    have := unl_len xs (if x ∈ acc then acc else acc ++ [x])
    split at this <;> rename_i h <;> simp only [h, if_true, if_false, List.length_append, List.length_cons, List.length_nil] at this ⊢ <;> omega
theorem sortI_perm_eq {a b : List Int} (h : a.Perm b) : sortI a = sortI b := sortI_eq ((sortI_perm a).trans h) (sortI_sorted a)
theorem nodup_len : ∀ (ks L : List Int), ks.Nodup → (∀ k ∈ ks, k ∈ L) → ks.length ≤ L.length
  | [], L, _, _ => Nat.zero_le _
  | k :: ks, L, h, hs => by
    obtain ⟨A, B, rfl⟩ := List.append_of_mem (hs k List.mem_cons_self)
    obtain ⟨h1, h2⟩ := List.nodup_cons.mp h
    have := nodup_len ks (A ++ B) h2 fun j hj => by
      have h3 := hs j (List.mem_cons_of_mem _ hj)
      rcases List.mem_append.mp h3 with z | z
      · exact List.mem_append_left _ z
      · rcases List.mem_cons.mp z with rfl | z
        · exact absurd hj h1
        · exact List.mem_append_right _ z
    simp only [List.length_append, List.length_cons] at this ⊢
    omega
/-- the table of a list of sums -/
def tabL (L : List Int) : List D := (sortI (unl [] (sortI L))).map fun t => .tup [.int t, frD (L.count t) L.length]
theorem tabL_perm {L M : List Int} (h : L.Perm M) : tabL L = tabL M := by
  unfold tabL
  rw [sortI_perm_eq h, h.length_eq]
  apply List.map_congr_left
  intro t _
  rw [h.count_eq]
theorem RpC.keys_sort {f : Asc} {L : List Int} (h : RpC f fun x => L.count x) : sortI (f.map (·.1)) = sortI (unl [] (sortI L)) := by
  refine sortI_perm_eq ?_
  rw [List.perm_ext_iff_of_nodup h.nd (unl_nodup _ _ (by simp))]
  intro a
  rw [h.key, unl_mem]
  simp only [List.not_mem_nil, false_or, (sortI_perm L).mem_iff]
  exact ⟨fun z => List.count_pos_iff.mp (Nat.pos_of_ne_zero z), fun z => Nat.ne_of_gt (List.count_pos_iff.mpr z)⟩
theorem tab_pl (L : List Int) : D.pl 30 (.lst (tabL L)) = true := by
  unfold tabL D.pl
  simp only [List.all_map, List.all_eq_true]
  intro t _
  rfl
end EV
namespace K88
open PySem PyProof.Rows L2 EV
local macro_rules | `(tactic| walk_at "ev") => `(tactic| repeat' (first
  | with_reducible exact r_int | with_reducible exact r_str | with_reducible exact r_bl | with_reducible exact r_non | with_reducible exact es_nil | with_reducible exact esB_nil | with_reducible exact esR_nil | with_reducible exact evI_no | with_reducible exact evC_no
  | ((with_reducible apply r_var); rfl) | ((with_reducible apply b_var); rfl) | ((with_reducible apply b_ow); rfl)
  | ((with_reducible apply b_ev); · rfl)
  | with_reducible apply r_bin | with_reducible apply r_neg | with_reducible apply r_cmp | with_reducible apply r_not | with_reducible apply r_tup | with_reducible apply r_lst | with_reducible apply r_cel
  | with_reducible apply r_sub | with_reducible apply r_bi | with_reducible apply r_isi | with_reducible apply r_mth | with_reducible apply r_callP | with_reducible apply r_callKP | with_reducible apply r_call | with_reducible apply r_slc
  | with_reducible apply es_cons | with_reducible apply esB_cons | with_reducible apply esR_cons | with_reducible apply evI_so | with_reducible apply evC_so
  | with_reducible exact add_ok _ _ _ | with_reducible exact sub_ok _ _ _ | with_reducible exact int_ok _ _ | with_reducible exact eqD_int _ _ | with_reducible exact neD_int _ _
  | (show _ = some _; with_reducible assumption) | (show _ = some _; with_reducible apply_assumption)))
local macro_rules | `(tactic| walk_at "ret") => `(tactic| ((apply s_ret); · rfl))

def rowD (row : List (List Int)) : D := .lst (row.map iD)
structure RwOk (row : List (List Int)) : Prop where
  ne : row ≠ []
  wh : ∀ w ∈ row, WhI w
  sm : SmR row [0]
  le : row.length ≤ 1000
def sums (row : List (List Int)) : List Int := allS row [0]
theorem nextS_len (L w : List Int) : (nextS L w).length = L.length * w.length := by
  unfold nextS
  induction L with
  | nil => simp
  | cons t L ih => rw [List.flatMap_cons, List.length_append, ih, List.length_map, List.length_cons, Nat.succ_mul]; omega
theorem allS_pos : ∀ (row : List (List Int)) (L : List Int), (∀ w ∈ row, w ≠ []) → 0 < L.length → 0 < (allS row L).length
  | [], L, _, h => h
  | w :: row, L, hw, h => by
    unfold allS
    refine allS_pos row _ (fun v hv => hw v (List.mem_cons_of_mem _ hv)) ?_
    rw [nextS_len]
    exact Nat.mul_pos h (List.length_pos_iff.mpr (hw w List.mem_cons_self))
theorem wheel_run (n : Nat) {w : List Int} (h : WhI w) (st : Store) : prog.run (n + 3) "is_wheel" [iD w] st = some ⟨.bl true, false, st⟩ := wheelT_run rfl rfl rfl n h st
theorem pl_row (n : Nat) (row : List (List Int)) : D.pl (n + 3) (rowD row) = true := by
  unfold rowD D.pl
  simp only [List.all_map, List.all_eq_true]
  intro w _
  exact pl_iD n w
theorem chkr_run (n : Nat) {row : List (List Int)} (h : RwOk row) (st : Store) : prog.run (n + 4) "check_row" [rowD row] st = some ⟨.non, false, st⟩ := by
  have hlc : lcL (.one 1) (Eo.evC ⟨prog.run (n + 3), prog.glo, prog.whl⟩ .no) (E.ev ⟨prog.run (n + 3), prog.glo, prog.whl⟩ (.call "is_wheel" (.cons (.var 1) .nil))) [.fr (rowD row), .no] (row.map iD) st = some (row.map fun _ => .bl true, st) := lcL_map fun w hw => ⟨_, rfl, false, r_callP (es_cons (r_var rfl) es_nil) (wheel_run n (h.wh w hw) st)⟩
  have hne : cmpD .eq st (rowD row) (.lst []) = some false := eqD_f (pl_row 27 row) (by decide) fun e => h.ne (by
    unfold rowD at e
    injection e with e
    exact List.map_eq_nil_iff.mp e)
  apply run_nx (F := f_check_row) rfl rfl
  exact s_iff_e (n := false) (r_or_f (r_not (q := true) (n := false) (r_isi (b_var rfl) rfl)) (r_or_f (r_cmp (b_var rfl) (b_ev rfl (r_lst es_nil (by decide))) hne) (r_not (q := true) (n := false) (r_bi (esB_cons (b_ev rfl (r_lc (it_ovr (xs := row.map iD) (r_var rfl) rfl) (by rw [List.length_map]; exact Nat.le_trans h.le (by decide)) hlc)) esB_nil) (all_true st row))))) rfl
theorem low_ok (n : Nat) (a b : Nat) (hb0 : 0 < b) (hb : b < 2 ^ 8000) (st : Store) : prog.run (n + 2) "lowest_of" [.int a, .int b] st = some ⟨frD a b, false, st⟩ := lowest_run rfl rfl rfl n a b hb0 hb st
/-- table_of, in a new cell -/
theorem table_run (n : Nat) {row : List (List Int)} (h : RwOk row) (hz : (sums row).length < 2 ^ 8000) (hk : (unl [] (sortI (sums row))).length ≤ LIM) (st : Store) : prog.run (n + 3) "table_of" [rowD row] st = some ⟨.cell st.length, false, st ++ [.lst (tabL (sums row))]⟩ := by
  obtain ⟨F, b, e1, e2⟩ := counts_run (n + 1) st row h.sm
  change RpC F (fun x => (sums row).count x) at e2
  generalize hL : sums row = L at e2 hz hk ⊢
  have hLp : 0 < L.length := by
    rw [← hL]
    exact allS_pos row [0] (fun w hw => (h.wh w hw).1) (by simp)
  have hget : ∀ p ∈ F, atD st (.dct (asD F)) (.int p.1) = some (.int (p.2 : Nat)) := fun p hp => at_dc rfl rfl (by
    obtain ⟨a, b⟩ := e2.val hp
    rw [getK_as, e2.get, if_neg (by omega), a]; rfl)
  have hget2 : ∀ t ∈ sortI (F.map (·.1)), atD st (.dct (asD F)) (.int t) = some (.int (L.count t : Nat)) ∧ 0 < L.count t := fun t ht => by
    have ht2 := (sortI_perm _).mem_iff.mp ht
    have hc := e2.key.mp ht2
    exact ⟨at_dc rfl rfl (by rw [getK_as, e2.get, if_neg hc]; rfl), Nat.pos_of_ne_zero hc⟩
  have hlen : F.length ≤ LIM := by
    have e : F.length = (unl [] (sortI L)).length := by
      have z : (sortI (F.map (·.1))).length = (sortI (unl [] (sortI L))).length := by rw [e2.keys_sort]
      rw [(sortI_perm _).length_eq, (sortI_perm _).length_eq, List.length_map] at z
      exact z
    rw [e]; exact hk
  have hsum : biD .sum st [.lst (F.map fun p => .int (p.2 : Nat))] = some (.int (L.length : Nat), false) := by
    have h1 : (F.map fun p => ((p.2 : Nat) : Int)).sum = ((F.map fun p => p.2).sum : Nat) := by
      clear e1 e2 hget hget2 hlen
      induction F with
      | nil => rfl
      | cons p F ih => simp only [List.map_cons, List.sum_cons, ih]; omega
    have h2 : (F.map fun p => p.2).sum = L.length := by
      have z := e2.sum fun _ => 1
      simp only [Nat.mul_one] at z
      rw [z, List.map_const', List.sum_replicate_nat, Nat.mul_one]
    unfold biD
    simp only [lsD, Option.bind, intsX_mapf]
    rw [h1, h2]
  have hsort : biD .sorted st [.dct (asD F)] = some (iD (sortI (F.map (·.1))), true) := by
    have h1 : intsD ((asD F).map fun kv => dK kv.1) = some (F.map (·.1)) := by
      unfold asD; rw [List.map_map]; exact intsX_mapf (fun p : Int × Nat => p.1) F
    unfold biD
    simp only [lsD, Option.bind, dcD, h1]
    rfl
  have lc1 : lcL (.one 3) (Eo.evC ⟨prog.run (n + 2), prog.glo, prog.whl⟩ .no) (E.ev ⟨prog.run (n + 2), prog.glo, prog.whl⟩ (.sub (.var 1) (.var 3))) [.fr (rowD row), .fr (.dct (asD F)), .no, .no] (F.map fun p => .int p.1) st = some (F.map fun p => .int (p.2 : Nat), st) := lcL_map fun p hp => ⟨_, rfl, false, r_sub (b_var rfl) (r_var rfl) (hget p hp)⟩
  have lc2 : lcL (.one 3) (Eo.evC ⟨prog.run (n + 2), prog.glo, prog.whl⟩ .no) (E.ev ⟨prog.run (n + 2), prog.glo, prog.whl⟩ (.tup (.cons (.var 3) (.cons (.call "lowest_of" (.cons (.sub (.var 1) (.var 3)) (.cons (.var 2) .nil))) .nil)))) [.fr (rowD row), .fr (.dct (asD F)), .fr (.int (L.length : Nat)), .no] ((sortI (F.map (·.1))).map D.int) st = some ((sortI (F.map (·.1))).map fun t => .tup [.int t, frD (L.count t) L.length], st) := lcL_map fun t ht => ⟨_, rfl, false, by
    exact r_tup (es_cons (r_var rfl) (es_cons (r_callP (es_cons (r_sub (b_var rfl) (r_var rfl) (hget2 t ht).1) (es_cons (r_var rfl) es_nil)) (low_ok n _ _ hLp hz st)) es_nil)) (show 2 ≤ LIM by decide)⟩
  have hks : (asD F).map (fun kv => dK kv.1) = F.map fun p => .int p.1 := by unfold asD; rw [List.map_map]; rfl
  have main : ∀ x1, frzE [.fr (rowD row), x1, .no, .no] 1 = [.fr (rowD row), .fr (.dct (asD F)), .no, .no] → Ss.ev ⟨prog.run (n + 2), prog.glo, prog.whl⟩ (.frz 1 (.cons (.asg 2 (.bi .sum (.cons (.lc (.sub (.var 1) (.var 3)) [3] (.one 3) (.key 1) .no) .nil)))
  (.frz 2 (.cons (.ret (.mk (.lc (.tup (.cons (.var 3) (.cons (.call "lowest_of" (.cons (.sub (.var 1) (.var 3)) (.cons (.var 2) .nil))) .nil))) [3] (.one 3) (.ovr (.bi .sorted (.cons (.var 1) .nil))) .no)))
  .nil)))) [.fr (rowD row), x1, .no, .no] st = some ⟨.rt (.cell st.length) false, [.fr (rowD row), .fr (.dct (asD F)), .fr (.int (L.length : Nat)), .no], st ++ [.lst (tabL L)]⟩ := by
    intro x1 hx
    refine s_frz ?_
    rw [hx]
    have k1 : It.ev ⟨prog.run (n + 2), prog.glo, prog.whl⟩ (.key 1) [.fr (rowD row), .fr (.dct (asD F)), .no, .no] st = some (fun _ => some (F.map fun p => .int p.1), st) := by
      rw [← hks]; exact it_key rfl
    refine s_asg (d := .int (L.length : Nat)) (n := false) (st1 := st) (r_bi (esB_cons (b_ev rfl (r_lc k1 (by rw [List.length_map]; exact hlen) lc1)) esB_nil) hsum) (s_frz ?_)
    show Ss.ev _ _ [.fr (rowD row), .fr (.dct (asD F)), .fr (.int (L.length : Nat)), .no] st = _
    have e3 : tabL L = (sortI (F.map (·.1))).map fun t => .tup [.int t, frD (L.count t) L.length] := by
      unfold tabL; rw [e2.keys_sort]
    rw [e3]
    exact s_ret rfl (r_mk (r_lc (it_ovr (xs := (sortI (F.map fun p : Int × Nat => p.1)).map D.int) (r_bi (esB_cons (b_var rfl) esB_nil) hsort) rfl) (by rw [List.length_map, (sortI_perm _).length_eq, List.length_map]; exact hlen) lc2))
  apply run_rt (F := f_table_of) rfl rfl
  refine s_asg (r_callP (es_cons (r_var rfl) es_nil) e1) ?_
  cases b
  · exact main (.fr (.dct (asD F))) rfl
  · exact main (.ow (.dct (asD F))) rfl
/-- what a row must be for its table to be made -/
structure TbOk (row : List (List Int)) : Prop where
  rw_ : RwOk row
  sz : (sums row).length < 2 ^ 1000
  ks : (unl [] (sortI (sums row))).length ≤ LIM
theorem TbOk.sz2 {row : List (List Int)} (h : TbOk row) : (sums row).length < 2 ^ 8000 := Nat.lt_of_lt_of_le h.sz (Nat.pow_le_pow_right (by decide) (by decide))
theorem sumt_run (n : Nat) {row : List (List Int)} (h : TbOk row) (st : Store) : prog.run (n + 5) "sum_table" [rowD row] st = some ⟨.cell st.length, false, st ++ [.lst (tabL (sums row))]⟩ := by
  apply run_rt (F := f_sum_table) rfl rfl
  exact s_exp (r_callP (es_cons (r_var rfl) es_nil) (chkr_run n h.rw_ st)) (s_ret rfl (r_callP (es_cons (r_var rfl) es_nil) (table_run (n + 1) h.rw_ h.sz2 h.ks st)))
open Classical in
noncomputable def sameB (a b : List (List Int)) : Bool := decide (D.lst (tabL (sums a)) = D.lst (tabL (sums b)))
theorem sameB_comm (a b : List (List Int)) : sameB a b = sameB b a := by unfold sameB; exact decide_eq_decide.mpr ⟨fun h => h.symm, fun h => h.symm⟩
theorem same_run (n : Nat) {a b : List (List Int)} (ha : TbOk a) (hb : TbOk b) (st : Store) : prog.run (n + 5) "are_same_sums" [rowD a, rowD b] st = some ⟨.bl (sameB a b), false, (st ++ [.lst (tabL (sums a))]) ++ [.lst (tabL (sums b))]⟩ := by
  have heq : cmpD .eq ((st ++ [Cell.lst (tabL (sums a))]) ++ [.lst (tabL (sums b))]) (.cell st.length) (.cell (st ++ [Cell.lst (tabL (sums a))]).length) = some (sameB a b) := by
    show eqD _ _ _ = _
    have z := eqD_pl (st := (st ++ [Cell.lst (tabL (sums a))]) ++ [.lst (tabL (sums b))]) (tab_pl (sums a)) (tab_pl (sums b))
    unfold eqD at z ⊢
    rw [cell_shp (xs := tabL (sums a)) (by simp), cell_shp (xs := tabL (sums b)) (by simp)]
    rw [z]
    rfl
  apply run_rt (F := f_are_same_sums) rfl rfl
  refine s_exp (r_callP (es_cons (r_var rfl) es_nil) (chkr_run n ha.rw_ st)) (s_exp (r_callP (es_cons (r_var rfl) es_nil) (chkr_run n hb.rw_ st)) (s_ret rfl ?_))
  exact r_cmp (b_ev rfl (r_callP (es_cons (r_var rfl) es_nil) (table_run (n + 1) ha.rw_ ha.sz2 ha.ks st))) (b_ev rfl (r_callP (es_cons (r_var rfl) es_nil) (table_run (n + 1) hb.rw_ hb.sz2 hb.ks _))) heq
end K88

/-! k88: the law's tables, chances of sums. -/
namespace K88
open PySem PyProof.Rows L2 EV
local macro_rules | `(tactic| walk_at "ev") => `(tactic| repeat' (first
  | with_reducible exact r_int | with_reducible exact r_str | with_reducible exact r_bl | with_reducible exact r_non | with_reducible exact es_nil | with_reducible exact esB_nil | with_reducible exact esR_nil | with_reducible exact evI_no | with_reducible exact evC_no
  | ((with_reducible apply r_var); rfl) | ((with_reducible apply b_var); rfl) | ((with_reducible apply b_ow); rfl)
  | ((with_reducible apply b_ev); · rfl)
  | with_reducible apply r_bin | with_reducible apply r_neg | with_reducible apply r_cmp | with_reducible apply r_not | with_reducible apply r_tup | with_reducible apply r_lst | with_reducible apply r_cel
  | with_reducible apply r_sub | with_reducible apply r_bi | with_reducible apply r_isi | with_reducible apply r_mth | with_reducible apply r_callP | with_reducible apply r_callKP | with_reducible apply r_call | with_reducible apply r_slc
  | with_reducible apply es_cons | with_reducible apply esB_cons | with_reducible apply esR_cons | with_reducible apply evI_so | with_reducible apply evC_so
  | with_reducible exact add_ok _ _ _ | with_reducible exact sub_ok _ _ _ | with_reducible exact int_ok _ _ | with_reducible exact eqD_int _ _ | with_reducible exact neD_int _ _
  | (show _ = some _; with_reducible assumption) | (show _ = some _; with_reducible apply_assumption)))
local macro_rules | `(tactic| walk_at "ret") => `(tactic| ((apply s_ret); · rfl))

theorem nin_ints (st : Store) (x : Int) (xs : List Int) : cmpD .nin st (.int x) (iD xs) = some (!decide (x ∈ xs)) := by
  show (inD st (.int x) (iD xs)).map (!·) = _
  rw [in_ints]; rfl
theorem unl_loop (P : Pg) (st : Store) (x0 : Sl) : ∀ (xs acc : List Int) (x2 : Sl), acc.length + xs.length < LIM → ∃ x2', forL (.one 2) (Ss.ev P (.cons (.iff (.cmp .nin (.var 2) (.var 1)) (.cons (.app 1 (.var 2)) .nil) .nil) .nil)) (xs.map D.int) [x0, .ow (iD acc), x2] st = some ⟨.nx, [x0, .ow (iD (unl acc xs)), x2'], st⟩
  | [], acc, x2, _ => ⟨x2, rfl⟩
  | x :: xs, acc, x2, hl => by
    simp only [List.length_cons] at hl
    by_cases h : x ∈ acc
    · obtain ⟨y, hy⟩ := unl_loop P st x0 xs acc (.fr (.int x)) (by omega)
      refine ⟨y, f_cons (env1 := [x0, .ow (iD acc), .fr (.int x)]) rfl (s_iff_e (n := false) (r_cmp (b_var rfl) (b_ow rfl) (by rw [nin_ints]; simp [h])) rfl) ?_⟩
      unfold unl; rw [if_pos h]; exact hy
    · obtain ⟨y, hy⟩ := unl_loop P st x0 xs (acc ++ [x]) (.fr (.int x)) (by rw [List.length_append]; simp only [List.length_cons, List.length_nil]; omega)
      have e : (iD acc) = .lst (acc.map D.int) := rfl
      refine ⟨y, f_cons (env1 := [x0, .ow (iD acc), .fr (.int x)]) rfl (s_iff_t (n := false) (st1 := st) (env2 := [x0, .ow (iD (acc ++ [x])), .fr (.int x)]) (st2 := st) (r_cmp (b_var rfl) (b_ow rfl) (by rw [nin_ints]; simp [h])) (s_app (xs := acc.map D.int) (r_var rfl) rfl (by rw [List.length_map]; omega) ?_) rfl) ?_⟩
      · show some _ = some _
        congr 2
        show [x0, Sl.ow (D.lst (acc.map D.int ++ [D.int x])), _] = _
        unfold iD; simp
      · unfold unl; rw [if_neg h]; exact hy
theorem unlike_run (n : Nat) (xs : List Int) (hl : xs.length < LIM) (st : Store) : prog.run (n + 1) "_law_unlike" [iD xs] st = some ⟨iD (unl [] (sortI xs)), true, st⟩ := by
  have hsort : biD .sorted st [iD xs] = some (iD (sortI xs), true) := by
    unfold biD iD; simp only [lsD, Option.bind, intsX_map]
  obtain ⟨y, hy⟩ := unl_loop ⟨prog.run n, prog.glo, prog.whl⟩ st (.fr (iD xs)) (sortI xs) [] .no (by rw [(sortI_perm xs).length_eq]; simpa using hl)
  apply run_rt (F := f__law_unlike) rfl rfl
  refine s_asg (r_lst es_nil (by decide)) (s_for (ds := (sortI xs).map D.int) (st1 := st) (it_ovr (r_bi (esB_cons (b_var rfl) esB_nil) hsort) rfl) hy (s_retO (by rfl)))
/-- all ways to show -/
def nextR (R : List (List Int)) (w : List Int) : List (List Int) := R.flatMap fun t => w.map fun s => t ++ [s]
def allR : List (List Int) → List (List Int) → List (List Int)
  | [], R => R
  | w :: r, R => allR r (nextR R w)
theorem nextR_sum (w : List Int) : ∀ R : List (List Int), (nextR R w).map List.sum = nextS (R.map List.sum) w
  | [] => rfl
  | t :: R => by
    unfold nextR nextS
    rw [List.flatMap_cons, List.map_append, List.map_cons, List.flatMap_cons]
    congr 1
    · rw [List.map_map]
      apply List.map_congr_left
      intro s _
      simp
    · exact nextR_sum w R
theorem allR_sum : ∀ (row R : List (List Int)), (allR row R).map List.sum = allS row (R.map List.sum)
  | [], R => rfl
  | w :: row, R => by
    unfold allR allS
    rw [allR_sum row, nextR_sum]
theorem nextR_len (R : List (List Int)) (w : List Int) : (nextR R w).length = R.length * w.length := by
  unfold nextR
  induction R with
  | nil => simp
  | cons t R ih => rw [List.flatMap_cons, List.length_append, ih, List.length_map, List.length_cons, Nat.succ_mul]; omega
def SmT : List (List Int) → Nat → Prop
  | [], _ => True
  | w :: r, k => k * w.length ≤ LIM ∧ SmT r (k * w.length)
theorem rows_loop (P : Pg) (st : Store) (x0 x5 x6 : Sl) : ∀ (row R : List (List Int)) (x1 x2 x3 x4 : Sl), (x1 = .ow (.lst (R.map iD)) ∨ x1 = .fr (.lst (R.map iD))) → R ≠ [] → R.length ≤ LIM → (∀ t ∈ R, t.length + row.length ≤ 1000) → (∀ w ∈ row, w ≠ [] ∧ w.length ≤ 1000) → SmT row R.length →
    ∃ x1' x2' x3' x4', forL (.one 2) (Ss.ev P (.frz 1 (.cons (.asg 1 (.bi .sum (.cons (.lc (.lc (.bin .add (.var 4) (.lst (.cons (.var 3) .nil))) [3] (.one 3) (.ovr (.var 2)) .no) [4] (.one 4) (.ovr (.var 1)) .no) (.cons (.lst .nil) .nil)))) .nil))) (row.map iD) [x0, x1, x2, x3, x4, x5, x6] st = some ⟨.nx, [x0, x1', x2', x3', x4', x5, x6], st⟩ ∧ (x1' = .ow (.lst ((allR row R).map iD)) ∨ x1' = .fr (.lst ((allR row R).map iD)))
  | [], R, x1, x2, x3, x4, h, _, _, _, _, _ => ⟨x1, x2, x3, x4, rfl, h⟩
  | w :: row, R, x1, x2, x3, x4, h, hR, hRl, hlen, hw, hT => by
    obtain ⟨hT1, hT2⟩ := hT
    obtain ⟨w1, w2⟩ := hw w List.mem_cons_self
    have hin : ∀ t ∈ R, lcL (.one 3) (Eo.evC P .no) (E.ev P (.bin .add (.var 4) (.lst (.cons (.var 3) .nil)))) [x0, .fr (.lst (R.map iD)), .fr (iD w), .no, .fr (iD t), x5, x6] (w.map D.int) st = some (w.map fun s => iD (t ++ [s]), st) := fun t ht => lcL_map fun s _ => ⟨_, rfl, true, by
      have hadd : binD .add st (iD t) (.lst [.int s]) = some (iD (t ++ [s]), true) := by
        have hl := hlen t ht
        unfold binD iD
        simp only [lsD]
        rw [if_pos (by show _ ≤ 16777216; rw [List.length_map]; simp only [List.length_cons, List.length_nil] at hl ⊢; omega)]
        simp
      exact r_bin (b_var rfl) (b_ev rfl (r_lst (es_cons (r_var rfl) es_nil) (show 1 ≤ LIM by decide))) hadd⟩
    have hout : lcL (.one 4) (Eo.evC P .no) (E.ev P (.lc (.bin .add (.var 4) (.lst (.cons (.var 3) .nil))) [3] (.one 3) (.ovr (.var 2)) .no)) [x0, .fr (.lst (R.map iD)), .fr (iD w), x3, .no, x5, x6] (R.map iD) st = some (R.map fun t => .lst (w.map fun s => iD (t ++ [s])), st) := lcL_map fun t ht => ⟨_, rfl, true, r_lc (it_ovr (xs := w.map D.int) (r_var rfl) rfl) (by rw [List.length_map]; exact Nat.le_trans w2 (by decide)) (hin t ht)⟩
    have hsum : biD .sum st [.lst (R.map fun t => .lst (w.map fun s => iD (t ++ [s]))), .lst []] = some (.lst ((nextR R w).map iD), true) := by
      have e : (R.map fun t => w.map fun s => iD (t ++ [s])).flatten = (nextR R w).map iD := by
        unfold nextR
        rw [List.map_flatMap, List.flatMap_def]; simp [Function.comp_def]
      have hl : (nextR R w).length ≤ LIM := by rw [nextR_len]; exact hT1
      unfold biD
      simp only [lsD, Option.bind, listsD_map fun t => w.map fun s => iD (t ++ [s])]
      rw [e, if_pos ⟨by rw [List.length_map]; exact hl, by simpa using hR⟩]
    have hne : nextR R w ≠ [] := by
      intro z
      have z2 := nextR_len R w
      rw [z] at z2
      simp only [List.length_nil] at z2
      have p1 := List.length_pos_iff.mpr hR
      have p2 := List.length_pos_iff.mpr w1
      have := Nat.mul_pos p1 p2
      omega
    obtain ⟨y1, y2, y3, y4, e1, e2⟩ := rows_loop P st x0 x5 x6 row (nextR R w) (.ow (.lst ((nextR R w).map iD))) (.fr (iD w)) x3 x4 (.inl rfl) hne (by rw [nextR_len]; exact hT1) (by
      intro t ht
      unfold nextR at ht
      obtain ⟨u, hu, h3⟩ := List.mem_flatMap.mp ht
      obtain ⟨s, _, rfl⟩ := List.mem_map.mp h3
      have := hlen u hu
      simp only [List.length_cons, List.length_append, List.length_nil] at this ⊢
      omega) (fun v hv => hw v (List.mem_cons_of_mem _ hv)) (by rw [nextR_len]; exact hT2)
    refine ⟨y1, y2, y3, y4, f_cons (env1 := [x0, x1, .fr (iD w), x3, x4, x5, x6]) rfl (s_frz ?_) e1, e2⟩
    have hfr : frzE [x0, x1, .fr (iD w), x3, x4, x5, x6] 1 = [x0, .fr (.lst (R.map iD)), .fr (iD w), x3, x4, x5, x6] := by
      rcases h with rfl | rfl <;> rfl
    rw [hfr]
    exact s_asg (r_bi (esB_cons (b_ev rfl (r_lc (it_ovr (xs := R.map iD) (r_var rfl) rfl) (by rw [List.length_map]; exact hRl) hout)) (esB_cons (b_ev rfl (r_lst es_nil (by decide))) esB_nil)) hsum) rfl
/-- what a row must be for the law's table to be made -/
structure LtOk (row : List (List Int)) : Prop where
  wh : ∀ w ∈ row, w ≠ [] ∧ w.length ≤ 1000
  le : row.length ≤ 900
  sm : SmT row 1
  sz : (sums row).length < LIM
theorem ltable_run (n : Nat) {row : List (List Int)} (h : LtOk row) (st : Store) : prog.run (n + 2) "_law_table" [rowD row] st = some ⟨.lst (tabL (sums row)), true, st⟩ := by
  obtain ⟨x1, x2, x3, x4, e1, e2⟩ := rows_loop ⟨prog.run (n + 1), prog.glo, prog.whl⟩ st (.fr (rowD row)) .no .no row [[]] (.ow (.lst [iD []])) .no .no .no (.inl rfl) (by simp) (by decide) (by simp; exact Nat.le_trans h.le (by decide)) h.wh h.sm
  have hsz := h.sz
  have hS : (allR row [[]]).map List.sum = sums row := by rw [allR_sum]; rfl
  have hlp : 0 < (sums row).length := allS_pos row [0] (fun w hw => (h.wh w hw).1) (by simp)
  generalize hL : sums row = L at hsz hS hlp ⊢
  have hRl : (allR row [[]]).length = L.length := by rw [← hS, List.length_map]
  have hs1 : ∀ t ∈ allR row [[]], biD .sum st [iD t] = some (.int t.sum, false) := fun t _ => by
    unfold biD iD; simp only [lsD, Option.bind, intsX_map]
  have lc1 : lcL (.one 4) (Eo.evC ⟨prog.run (n + 1), prog.glo, prog.whl⟩ .no) (E.ev ⟨prog.run (n + 1), prog.glo, prog.whl⟩ (.bi .sum (.cons (.var 4) .nil))) [.fr (rowD row), .fr (.lst ((allR row [[]]).map iD)), x2, x3, .no, .no, .no] ((allR row [[]]).map iD) st = some ((allR row [[]]).map fun t => .int t.sum, st) := lcL_map fun t ht => ⟨_, rfl, false, r_bi (esB_cons (b_var rfl) esB_nil) (hs1 t ht)⟩
  have hsort : biD .sorted st [.lst ((allR row [[]]).map fun t => .int t.sum)] = some (iD (sortI L), true) := by
    unfold biD; simp only [lsD, Option.bind, intsX_mapf]
    rw [hS]; rfl
  have hun := unlike_run n (sortI L) (by rw [(sortI_perm L).length_eq]; exact hsz) st
  have hsort2 : biD .sorted st [iD (unl [] (sortI (sortI L)))] = some (iD (sortI (unl [] (sortI (sortI L)))), true) := by
    unfold biD iD; simp only [lsD, Option.bind, intsX_map]
  have hcnt : ∀ t : Int, mtD .count st (iD (sortI L)) [.int t] = some (.int ((sortI L).count t : Nat), false) := fun t => by
    unfold mtD iD; simp only [lsD, Option.bind, intsX_map]
  have hlen : biD .len st [iD (sortI L)] = some (.int ((sortI L).length : Nat), false) := iD_len _ st
  have hb : (sortI L).length < 2 ^ 1900 := by
    rw [(sortI_perm L).length_eq]
    exact Nat.lt_of_lt_of_le hsz (Nat.le_trans (show 16777216 ≤ 2 ^ 24 by decide) (Nat.pow_le_pow_right (by decide) (by decide)))
  have hb0 : 0 < (sortI L).length := by rw [(sortI_perm L).length_eq]; exact hlp
  have lc2 : ∀ x2 x3 x4, lcL (.one 6) (Eo.evC ⟨prog.run (n + 1), prog.glo, prog.whl⟩ .no) (E.ev ⟨prog.run (n + 1), prog.glo, prog.whl⟩ (.tup (.cons (.var 6) (.cons (.call "_law_low" (.cons (.mth .count (.var 5) (.cons (.var 6) .nil)) (.cons (.bi .len (.cons (.var 5) .nil)) .nil))) .nil)))) [.fr (rowD row), .fr (.lst ((allR row [[]]).map iD)), x2, x3, x4, .fr (iD (sortI L)), .no] ((sortI (unl [] (sortI (sortI L)))).map D.int) st = some ((sortI (unl [] (sortI (sortI L)))).map fun t => .tup [.int t, frD ((sortI L).count t) (sortI L).length], st) := fun x2 x3 x4 => lcL_map fun t _ => ⟨_, rfl, false, by
    exact r_tup (es_cons (r_var rfl) (es_cons (r_callP (es_cons (r_mth (b_var rfl) rfl (es_cons (r_var rfl) es_nil) (hcnt t)) (es_cons (r_bi (esB_cons (b_var rfl) esB_nil) hlen) es_nil)) (low_run (T := prog) rfl n _ _ hb0 hb st)) es_nil)) (show 2 ≤ LIM by decide)⟩
  have hfin : (sortI (unl [] (sortI (sortI L)))).map (fun t => D.tup [.int t, frD ((sortI L).count t) (sortI L).length]) = tabL L := by
    rw [← tabL_perm (sortI_perm L)]; rfl
  have hul : (sortI (unl [] (sortI (sortI L)))).length ≤ LIM := by
    rw [(sortI_perm _).length_eq]
    have := unl_len (sortI (sortI L)) []
    rw [(sortI_perm _).length_eq, (sortI_perm _).length_eq] at this
    simp only [List.length_nil] at this
    omega
  apply run_rt (F := f__law_table) rfl rfl
  refine s_asg (r_lst (es_cons (r_lst es_nil (by decide)) es_nil) (show 1 ≤ LIM by decide)) (s_for (ds := row.map iD) (st1 := st) (it_ovr (r_var rfl) rfl) e1 (s_frz ?_))
  have hfr : frzE [.fr (rowD row), x1, x2, x3, x4, .no, .no] 1 = [.fr (rowD row), .fr (.lst ((allR row [[]]).map iD)), x2, x3, x4, .no, .no] := by
    rcases e2 with rfl | rfl <;> rfl
  rw [hfr]
  refine s_asg (d := iD (sortI L)) (n := true) (st1 := st) (r_bi (esB_cons (b_ev rfl (r_lc (it_ovr (xs := (allR row [[]]).map iD) (r_var rfl) rfl) (by rw [List.length_map, hRl]; omega) lc1)) esB_nil) hsort) (s_frz ?_)
  show Ss.ev _ _ [.fr (rowD row), .fr (.lst ((allR row [[]]).map iD)), x2, x3, x4, .fr (iD (sortI L)), .no] st = _
  rw [← hfin]
  exact s_ret rfl (r_lc (it_ovr (xs := (sortI (unl [] (sortI (sortI L)))).map D.int) (r_bi (esB_cons (b_ev rfl (r_callP (es_cons (r_var rfl) es_nil) hun)) esB_nil) hsort2) rfl) (by rw [List.length_map]; exact hul) (lc2 x2 x3 x4))
end K88

/-! k88: powers, the chance of a sum, what rows are small. -/
namespace K88
open PySem PyProof.Rows L2 EV
local macro_rules | `(tactic| walk_at "ev") => `(tactic| repeat' (first
  | with_reducible exact r_int | with_reducible exact r_str | with_reducible exact r_bl | with_reducible exact r_non | with_reducible exact es_nil | with_reducible exact esB_nil | with_reducible exact esR_nil | with_reducible exact evI_no | with_reducible exact evC_no
  | ((with_reducible apply r_var); rfl) | ((with_reducible apply b_var); rfl) | ((with_reducible apply b_ow); rfl)
  | ((with_reducible apply b_ev); · rfl)
  | with_reducible apply r_bin | with_reducible apply r_neg | with_reducible apply r_cmp | with_reducible apply r_not | with_reducible apply r_tup | with_reducible apply r_lst | with_reducible apply r_cel
  | with_reducible apply r_sub | with_reducible apply r_bi | with_reducible apply r_isi | with_reducible apply r_mth | with_reducible apply r_callP | with_reducible apply r_callKP | with_reducible apply r_call | with_reducible apply r_slc
  | with_reducible apply es_cons | with_reducible apply esB_cons | with_reducible apply esR_cons | with_reducible apply evI_so | with_reducible apply evC_so
  | with_reducible exact add_ok _ _ _ | with_reducible exact sub_ok _ _ _ | with_reducible exact int_ok _ _ | with_reducible exact eqD_int _ _ | with_reducible exact neD_int _ _
  | (show _ = some _; with_reducible assumption) | (show _ = some _; with_reducible apply_assumption)))
local macro_rules | `(tactic| walk_at "ret") => `(tactic| ((apply s_ret); · rfl))
theorem pow_sm {b : Nat} (hb : b ≤ 8) {t : Nat} (ht : t ≤ 60) : b ^ t < 2 ^ 200 := by
  have h1 : b ^ t ≤ 8 ^ t := Nat.pow_le_pow_left hb t
  have h2 : 8 ^ t ≤ 8 ^ 60 := Nat.pow_le_pow_right (by decide) ht
  have h3 : 8 ^ 60 < 2 ^ 200 := by decide
  omega
theorem sm_pow {b : Nat} (hb : b ≤ 8) {t : Nat} (ht : t ≤ 60) : Sm 200 ((b ^ t : Nat) : Int) := by
  have := pow_sm hb ht
  unfold Sm; rw [Int.natAbs_natCast]; exact this
theorem power_loop (P : Pg) (st : Store) (b : Nat) (hb : b ≤ 8) (x1 : Sl) : ∀ (l : List Nat) (t : Nat) (x2 x3 : Sl), x2 = Sl.fr (.int (b ^ t : Nat)) → t + l.length ≤ 60 → ∃ x3', forL (.one 3) (Ss.ev P (.cons (.asg 2 (.bin .mul (.var 2) (.var 0))) .nil)) (l.map fun (q : Nat) => D.int (0 + (q : Nat))) [.fr (.int b), x1, x2, x3] st = some ⟨.nx, [.fr (.int b), x1, .fr (.int (b ^ (t + l.length) : Nat)), x3'], st⟩
  | [], t, x2, x3, h, _ => ⟨x3, by rw [h]; rfl⟩
  | q :: l, t, x2, x3, h, hl => by
    subst h
    simp only [List.length_cons] at hl
    obtain ⟨y, hy⟩ := power_loop P st b hb x1 l (t + 1) _ (.fr (.int (0 + (q : Nat)))) rfl (by omega)
    have hm := mul_ok (sm_pow hb (t := t) (by omega)) (show Sm 10 (b : Int) from Sm.of 10 (by omega) (by omega)) (by decide) st
    have e : ((b ^ t : Nat) : Int) * (b : Int) = ((b ^ (t + 1) : Nat) : Int) := by rw [Nat.pow_succ]; push_cast; rfl
    rw [e] at hm
    refine ⟨y, f_cons (env1 := [.fr (.int b), x1, .fr (.int (b ^ t : Nat)), .fr (.int (0 + (q : Nat)))]) rfl (s_asg (r_bin (b_var rfl) (b_var rfl) hm) rfl) ?_⟩
    have e2 : t + (l.length + 1) = t + 1 + l.length := by omega
    rw [List.length_cons, e2]
    exact hy
theorem power_run (n b t : Nat) (hb : b ≤ 8) (ht : t ≤ 60) (st : Store) : prog.run (n + 1) "_law_power" [.int b, .int t] st = some ⟨.int (b ^ t : Nat), false, st⟩ := by
  obtain ⟨y, hy⟩ := power_loop ⟨prog.run n, prog.glo, prog.whl⟩ st b hb (.fr (.int t)) (List.range t) 0 (.fr (.int 1)) .no rfl (by simpa using ht)
  simp only [List.length_range, Nat.zero_add] at hy
  apply run_rt (F := f__law_power) rfl rfl
  refine s_asg r_int (s_for (ds := rngD 0 ((t : Int)).toNat) (st1 := st) (env2 := [.fr (.int b), .fr (.int t), .fr (.int (b ^ t : Nat)), y]) (st2 := st) (it_rg1 (j := (t : Int)) (r_var rfl) (by omega)) ?_ (s_retF (d := .int (b ^ t : Nat)) (by rfl)))
  rw [Int.toNat_natCast]
  exact hy
/-! ### small rows -/
theorem SmL.of {L : List Int} (h : L.length < LIM) : SmL L := fun ks hn hk => Nat.lt_of_le_of_lt (nodup_len ks L hn hk) h
theorem SmL.rng {L : List Int} {b : Nat} (h : ∀ x ∈ L, 0 ≤ x ∧ x < (b : Int)) (hb : b < LIM) : SmL L := fun ks hn hk => by
  refine Nat.lt_of_le_of_lt (nodup_len ks ((List.range b).map fun i => ((i : Nat) : Int)) hn fun k hkk => ?_) (by rw [List.length_map, List.length_range]; exact hb)
  have := h k (hk k hkk)
  exact List.mem_map.mpr ⟨k.toNat, List.mem_range.mpr (by omega), by omega⟩
theorem SmR.of : ∀ {row : List (List Int)} {L : List Int}, (∀ w ∈ row, 1 ≤ w.length ∧ w.length ≤ 8) → L.length * 8 ^ row.length < LIM → SmR row L
  | [], L, _, _ => trivial
  | w :: row, L, h, hl => by
    obtain ⟨h1, h2⟩ := h w List.mem_cons_self
    have hp : 1 ≤ 8 ^ row.length := Nat.pow_pos (by decide)
    have e : 8 ^ (w :: row).length = 8 * 8 ^ row.length := by rw [List.length_cons, Nat.pow_succ, Nat.mul_comm]
    rw [e, ← Nat.mul_assoc] at hl
    have hn : (nextS L w).length ≤ L.length * 8 := by rw [nextS_len]; exact Nat.mul_le_mul_left _ h2
    have hl2 : (nextS L w).length * 8 ^ row.length < LIM := Nat.lt_of_le_of_lt (Nat.mul_le_mul_right _ hn) hl
    refine ⟨SmL.of (Nat.lt_of_le_of_lt ?_ hl2), SmR.of (fun v hv => h v (List.mem_cons_of_mem _ hv)) hl2⟩
    exact Nat.le_mul_of_pos_right _ hp
theorem SmR.rng : ∀ {row : List (List Int)} {L : List Int} {b : Nat}, (∀ w ∈ row, ∀ x ∈ w, 0 ≤ x ∧ x ≤ 6) → (∀ x ∈ L, 0 ≤ x ∧ x < (b : Int)) → b + 6 * row.length < LIM → SmR row L
  | [], L, b, _, _, _ => trivial
  | w :: row, L, b, h, hL, hb => by
    have hn : ∀ x ∈ nextS L w, 0 ≤ x ∧ x < ((b + 6 : Nat) : Int) := fun x hx => by
      obtain ⟨t, ht, h3⟩ := List.mem_flatMap.mp hx
      obtain ⟨s, hs, rfl⟩ := List.mem_map.mp h3
      have := hL t ht
      have := h w List.mem_cons_self s hs
      omega
    rw [List.length_cons] at hb
    exact ⟨SmL.rng hn (by omega), SmR.rng (fun v hv => h v (List.mem_cons_of_mem _ hv)) hn (by omega)⟩
theorem SmT.of : ∀ {row : List (List Int)} {k : Nat}, (∀ w ∈ row, 1 ≤ w.length ∧ w.length ≤ 8) → k * 8 ^ row.length < LIM → SmT row k
  | [], k, _, _ => trivial
  | w :: row, k, h, hl => by
    obtain ⟨h1, h2⟩ := h w List.mem_cons_self
    have hp : 1 ≤ 8 ^ row.length := Nat.pow_pos (by decide)
    have e : 8 ^ (w :: row).length = 8 * 8 ^ row.length := by rw [List.length_cons, Nat.pow_succ, Nat.mul_comm]
    rw [e, ← Nat.mul_assoc] at hl
    have hn : k * w.length ≤ k * 8 := Nat.mul_le_mul_left _ h2
    have hl2 : (k * w.length) * 8 ^ row.length < LIM := Nat.lt_of_le_of_lt (Nat.mul_le_mul_right _ hn) hl
    exact ⟨Nat.le_of_lt (Nat.lt_of_le_of_lt (Nat.le_mul_of_pos_right _ hp) hl2), SmT.of (fun v hv => h v (List.mem_cons_of_mem _ hv)) hl2⟩
theorem allS_len : ∀ {row : List (List Int)} {L : List Int}, (∀ w ∈ row, w.length ≤ 8) → (allS row L).length ≤ L.length * 8 ^ row.length
  | [], L, _ => by unfold allS; simp
  | w :: row, L, h => by
    unfold allS
    have := allS_len (row := row) (L := nextS L w) fun v hv => h v (List.mem_cons_of_mem _ hv)
    have e : 8 ^ (w :: row).length = 8 * 8 ^ row.length := by rw [List.length_cons, Nat.pow_succ, Nat.mul_comm]
    have hn : (nextS L w).length ≤ L.length * 8 := by rw [nextS_len]; exact Nat.mul_le_mul_left _ (h w List.mem_cons_self)
    rw [e, ← Nat.mul_assoc]
    exact Nat.le_trans this (Nat.mul_le_mul_right _ hn)
/-- a small row: one to five wheels of one to eight sectors -/
structure Ok5 (row : List (List Int)) : Prop where
  ne : row ≠ []
  le : row.length ≤ 5
  wh : ∀ w ∈ row, 1 ≤ w.length ∧ w.length ≤ 8 ∧ ∀ x ∈ w, 0 ≤ x ∧ x < 2147483648
theorem Ok5.pw {row : List (List Int)} (h : Ok5 row) : 8 ^ row.length ≤ 32768 := by
  have h2 : 8 ^ row.length ≤ 8 ^ 5 := Nat.pow_le_pow_right (by decide) h.le
  have h3 : 8 ^ 5 = 32768 := by decide
  omega
theorem Ok5.sz {row : List (List Int)} (h : Ok5 row) : (sums row).length ≤ 32768 := by
  have := allS_len (row := row) (L := [0]) fun w hw => (h.wh w hw).2.1
  have h2 := h.pw
  unfold sums
  simp only [List.length_cons, List.length_nil, Nat.zero_add, Nat.one_mul] at this
  omega
theorem lim_eq : LIM = 16777216 := rfl
theorem Ok5.whI {row : List (List Int)} (h : Ok5 row) : ∀ w ∈ row, WhI w := fun w hw => by
  obtain ⟨a, b, c⟩ := h.wh w hw
  exact ⟨List.length_pos_iff.mp (by omega), fun x hx => (c x hx).1, by omega⟩
theorem Ok5.tb {row : List (List Int)} (h : Ok5 row) : TbOk row := by
  have h2 := h.pw
  have h3 := h.sz
  refine ⟨⟨h.ne, h.whI, SmR.of (fun w hw => ⟨(h.wh w hw).1, (h.wh w hw).2.1⟩) ?_, by have := h.le; omega⟩, Nat.lt_of_le_of_lt h3 (by decide), ?_⟩
  · simp only [List.length_cons, List.length_nil, Nat.zero_add, Nat.one_mul, lim_eq]; omega
  · have := unl_len (sortI (sums row)) []
    rw [(sortI_perm _).length_eq] at this
    simp only [List.length_nil] at this
    rw [lim_eq]; omega
theorem Ok5.lt {row : List (List Int)} (h : Ok5 row) : LtOk row := by
  have h2 := h.pw
  have h3 := h.sz
  refine ⟨fun w hw => ⟨List.length_pos_iff.mp (by have := (h.wh w hw).1; omega), by have := (h.wh w hw).2.1; omega⟩, by have := h.le; omega, SmT.of (fun w hw => ⟨(h.wh w hw).1, (h.wh w hw).2.1⟩) ?_, by rw [lim_eq]; omega⟩
  rw [Nat.one_mul, lim_eq]; omega
theorem Ok5.sh {row : List (List Int)} (h : Ok5 row) : row.length ≤ 100 ∧ ∀ w ∈ row, Sh8 w := ⟨by have := h.le; omega, fun w hw => ⟨(h.wh w hw).2.1, (h.wh w hw).2.2⟩⟩
/-! ### the same wheel many times -/
theorem allS_rep_len (w : List Int) : ∀ (m : Nat) (L : List Int), (allS (List.replicate m w) L).length = L.length * w.length ^ m
  | 0, L => by simp [allS]
  | m + 1, L => by
    rw [List.replicate_succ]
    unfold allS
    rw [allS_rep_len w m, nextS_len, Nat.pow_succ, Nat.mul_assoc, Nat.mul_comm w.length]
theorem sum_top {w : List Int} {top : Int} (hw : ∀ x ∈ w, x ≤ top) (a : Int) : ∀ L : List Int, (∀ t ∈ L, t ≤ a) → (L.map fun t => w.count (a + top - t)).sum = L.count a * w.count top
  | [], _ => by simp
  | t :: L, h => by
    rw [List.map_cons, List.sum_cons, sum_top hw a L fun u hu => h u (List.mem_cons_of_mem _ hu), List.count_cons]
    by_cases e : t = a
    · subst e
      have : t + top - t = top := by omega
      rw [this]
      simp only [beq_self_eq_true, if_true, Nat.add_mul, Nat.one_mul]
      omega
    · have h1 : w.count (a + top - t) = 0 := List.count_eq_zero.mpr fun hm => by
        have := hw _ hm
        have := h t List.mem_cons_self
        omega
      have h2 : ¬ (t == a) = true := by simpa using e
      rw [h1, if_neg h2, Nat.add_zero, Nat.zero_add]
theorem allS_le {w : List Int} {top : Int} (hw : ∀ x ∈ w, x ≤ top) : ∀ (m : Nat) (L : List Int) (a : Int), (∀ t ∈ L, t ≤ a) → ∀ t ∈ allS (List.replicate m w) L, t ≤ a + top * m
  | 0, L, a, h, t, ht => by
    have := h t ht
    simpa using this
  | m + 1, L, a, h, t, ht => by
    rw [List.replicate_succ] at ht
    unfold allS at ht
    have := allS_le hw m (nextS L w) (a + top) (fun u hu => by
      obtain ⟨t, ht, h3⟩ := List.mem_flatMap.mp hu
      obtain ⟨s, hs, rfl⟩ := List.mem_map.mp h3
      have := h t ht
      have := hw s hs
      omega) t ht
    have e : top * ((m + 1 : Nat) : Int) = top * (m : Int) + top := by push_cast; rw [Int.mul_add, Int.mul_one]
    omega
theorem allS_top {w : List Int} {top : Int} (hw : ∀ x ∈ w, x ≤ top) : ∀ (m : Nat) (L : List Int) (a : Int), (∀ t ∈ L, t ≤ a) → (allS (List.replicate m w) L).count (a + top * m) = L.count a * w.count top ^ m
  | 0, L, a, h => by simp [allS]
  | m + 1, L, a, h => by
    rw [List.replicate_succ]
    unfold allS
    have e : a + top * ((m + 1 : Nat) : Int) = (a + top) + top * (m : Int) := by push_cast; rw [Int.mul_add, Int.mul_one]; omega
    rw [e, allS_top hw m (nextS L w) (a + top) fun u hu => by
      obtain ⟨t, ht, h3⟩ := List.mem_flatMap.mp hu
      obtain ⟨s, hs, rfl⟩ := List.mem_map.mp h3
      have := h t ht
      have := hw s hs
      omega]
    rw [count_next, sum_top hw a L h, Nat.pow_succ, Nat.mul_assoc, Nat.mul_comm (w.count top)]
theorem sums_top {w : List Int} {top : Int} (hw : ∀ x ∈ w, x ≤ top) (m : Nat) : (sums (List.replicate m w)).count (top * m) = w.count top ^ m := by
  have := allS_top hw m [0] 0 (by simp)
  unfold sums
  rw [Int.zero_add] at this
  rw [this]; simp
theorem sums_over {w : List Int} {top : Int} (hw : ∀ x ∈ w, x ≤ top) (m : Nat) : (sums (List.replicate m w)).count (top * m + 1) = 0 := List.count_eq_zero.mpr fun h => by
  have := allS_le hw m [0] 0 (by simp) _ h
  omega
theorem sums_len (w : List Int) (m : Nat) : (sums (List.replicate m w)).length = w.length ^ m := by
  unfold sums; rw [allS_rep_len]; simp
/-! ### the chance of a sum -/
theorem whole_loop (P : Pg) (st : Store) (w : List Int) (hb : w.length ≤ 8) (x1 x2 x3 : Sl) : ∀ (l : List Nat) (t : Nat) (x4 x5 : Sl), x4 = Sl.fr (.int (w.length ^ t : Nat)) → t + l.length ≤ 60 → ∃ x5', forL (.one 5) (Ss.ev P (.cons (.asg 4 (.bin .mul (.var 4) (.bi .len (.cons (.var 0) .nil)))) .nil)) (l.map fun (q : Nat) => D.int (0 + (q : Nat))) [.fr (iD w), x1, x2, x3, x4, x5] st = some ⟨.nx, [.fr (iD w), x1, x2, x3, .fr (.int (w.length ^ (t + l.length) : Nat)), x5'], st⟩
  | [], t, x4, x5, h, _ => ⟨x5, by rw [h]; rfl⟩
  | q :: l, t, x4, x5, h, hl => by
    subst h
    simp only [List.length_cons] at hl
    obtain ⟨y, hy⟩ := whole_loop P st w hb x1 x2 x3 l (t + 1) _ (.fr (.int (0 + (q : Nat)))) rfl (by omega)
    have hm := mul_ok (sm_pow hb (t := t) (by omega)) (show Sm 10 ((w.length : Nat) : Int) from Sm.of 10 (by omega) (by omega)) (by decide) st
    have e : ((w.length ^ t : Nat) : Int) * ((w.length : Nat) : Int) = ((w.length ^ (t + 1) : Nat) : Int) := by rw [Nat.pow_succ]; push_cast; rfl
    rw [e] at hm
    refine ⟨y, f_cons (env1 := [.fr (iD w), x1, x2, x3, .fr (.int (w.length ^ t : Nat)), .fr (.int (0 + (q : Nat)))]) rfl (s_asg (r_bin (b_var rfl) (b_ev rfl (r_bi (esB_cons (b_var rfl) esB_nil) (iD_len w st))) hm) rfl) ?_⟩
    have e2 : t + (l.length + 1) = t + 1 + l.length := by omega
    rw [List.length_cons, e2]
    exact hy
theorem chance_run (n : Nat) {w : List Int} (h : WhI w) (h8 : w.length ≤ 8) (m : Nat) (hm : m ≤ 60) (hS : SmR (List.replicate m w) [0]) (t : Int) (ht : 0 ≤ t) (st : Store) :
    prog.run (n + 5) "chance_of_sum" [iD w, .int m, .int t] st = some ⟨frD ((sums (List.replicate m w)).count t) (w.length ^ m), false, st⟩ := by
  obtain ⟨F, b, e1, e2⟩ := counts_run (n + 3) st (List.replicate m w) hS
  change RpC F (fun x => (sums (List.replicate m w)).count x) at e2
  have hrow : (List.replicate m w).map iD = List.flatten (List.replicate m [iD w]) := by
    rw [List.map_replicate]
    induction m with
    | zero => rfl
    | succ m ih =>
      rw [List.replicate_succ, List.replicate_succ, List.flatten_cons]
      show _ = iD w :: _
      congr 1
      clear ih hS e1 e2
      induction m with
      | zero => rfl
      | succ m ih => rw [List.replicate_succ, List.replicate_succ, List.flatten_cons]; show _ = iD w :: _; rw [ih (by omega)]
  have hmul : binD .mul st (.lst [iD w]) (.int (m : Nat)) = some (.lst ((List.replicate m w).map iD), true) := by
    rw [hrow]; exact mul_list [iD w] m (by simp; omega) (by omega)
  have hck := chkw_run (T := prog) rfl rfl rfl rfl n h st
  have hcm := countT_run (T := prog) rfl rfl (n + 2) (m : Int) (by omega) st
  have hct := countT_run (T := prog) rfl rfl (n + 2) t ht st
  have hget : mtD .get st (.dct (asD F)) [.int t, .int 0] = some (.int ((sums (List.replicate m w)).count t : Nat), false) := by
    show some ((getK (asD F) (Sum.inl t)).getD (.int 0), false) = _
    rw [getK_as, e2.get]
    by_cases z : (sums (List.replicate m w)).count t = 0
    · simp [z]
    · simp [z]
  have hlp : 0 < w.length ^ m := Nat.pow_pos (List.length_pos_iff.mpr h.1)
  have hlow := low_ok (n + 2) ((sums (List.replicate m w)).count t) (w.length ^ m) hlp (Nat.lt_of_lt_of_le (pow_sm h8 hm) (Nat.pow_le_pow_right (by decide) (by decide))) st
  have main : ∀ x3, (bw (.var 3) (E.ev ⟨prog.run (n + 4), prog.glo, prog.whl⟩ (.var 3)) [.fr (iD w), .fr (.int m), .fr (.int t), x3, .fr (.int (w.length ^ m : Nat)), .no] st = bw (.var 3) (E.ev ⟨prog.run (n + 4), prog.glo, prog.whl⟩ (.var 3)) [.fr (iD w), .fr (.int m), .fr (.int t), x3, .fr (.int (w.length ^ m : Nat)), .no] st) → (x3 = .fr (.dct (asD F)) ∨ x3 = .ow (.dct (asD F))) →
      ∃ env', Ss.ev ⟨prog.run (n + 4), prog.glo, prog.whl⟩ (.cons (.asg 4 (.int 1))
  (.cons (.for (.one 5) (.rg1 (.var 1))
   (.cons (.asg 4 (.bin .mul (.var 4) (.bi .len (.cons (.var 0) .nil))))
  .nil))
  (.frz 4 (.cons (.ret (.call "lowest_of" (.cons (.mth .get (.var 3) (.cons (.var 2) (.cons (.int 0) .nil))) (.cons (.var 4) .nil))))
  .nil)))) [.fr (iD w), .fr (.int m), .fr (.int t), x3, .no, .no] st = some ⟨.rt (frD ((sums (List.replicate m w)).count t) (w.length ^ m)) false, env', st⟩ := by
    intro x3 _ hx
    obtain ⟨y, hy⟩ := whole_loop ⟨prog.run (n + 4), prog.glo, prog.whl⟩ st w h8 (.fr (.int m)) (.fr (.int t)) x3 (List.range m) 0 (.fr (.int 1)) .no rfl (by simpa using hm)
    simp only [List.length_range, Nat.zero_add] at hy
    refine ⟨[.fr (iD w), .fr (.int m), .fr (.int t), x3, .fr (.int (w.length ^ m : Nat)), y], ?_⟩
    refine s_asg r_int (s_for (ds := rngD 0 ((m : Int)).toNat) (st1 := st) (env2 := [.fr (iD w), .fr (.int m), .fr (.int t), x3, .fr (.int (w.length ^ m : Nat)), y]) (st2 := st) (it_rg1 (j := (m : Int)) (r_var rfl) (by omega)) ?_ (s_frz ?_))
    · rw [Int.toNat_natCast]; exact hy
    · show Ss.ev _ _ [.fr (iD w), .fr (.int m), .fr (.int t), x3, .fr (.int (w.length ^ m : Nat)), y] st = _
      rcases hx with rfl | rfl
      · exact s_ret rfl (r_callP (es_cons (r_mth (b_var rfl) rfl (es_cons (r_var rfl) (es_cons r_int es_nil)) hget) (es_cons (r_var rfl) es_nil)) hlow)
      · exact s_ret rfl (r_callP (es_cons (r_mth (b_ow rfl) rfl (es_cons (r_var rfl) (es_cons r_int es_nil)) hget) (es_cons (r_var rfl) es_nil)) hlow)
  have step : ∀ x3 d q, prog.run (n + 4) "counts_of_sums" [.lst ((List.replicate m w).map iD)] st = some ⟨d, q, st⟩ → Sl.of ⟨d, q, st⟩ = x3 → (x3 = .fr (.dct (asD F)) ∨ x3 = .ow (.dct (asD F))) → prog.run (n + 5) "chance_of_sum" [iD w, .int m, .int t] st = some ⟨frD ((sums (List.replicate m w)).count t) (w.length ^ m), false, st⟩ := by
    intro x3 d q hc hx hx2
    obtain ⟨env', he⟩ := main x3 rfl hx2
    apply run_rt (F := f_chance_of_sum) rfl rfl (env' := env')
    refine s_exp (r_callP (es_cons (r_var rfl) es_nil) hck) (s_iff_e (n := false) (r_not (q := true) (r_callP (es_cons (r_var rfl) es_nil) hcm)) (s_iff_e (n := false) (r_not (q := true) (r_callP (es_cons (r_var rfl) es_nil) hct)) ?_))
    refine s_asg (r_callP (es_cons (r_bin (b_ev rfl (r_lst (es_cons (r_var rfl) es_nil) (show 1 ≤ LIM by decide))) (b_var rfl) hmul) es_nil) hc) ?_
    rw [hx]
    exact he
  cases b
  · exact step _ _ _ e1 rfl (.inl rfl)
  · exact step _ _ _ e1 rfl (.inr rfl)
end K88

/-! k88: rows drawn are right. -/
namespace K88
open PySem PyProof.Rows L2 EV
local macro_rules | `(tactic| walk_at "ev") => `(tactic| repeat' (first
  | with_reducible exact r_int | with_reducible exact r_str | with_reducible exact r_bl | with_reducible exact r_non | with_reducible exact es_nil | with_reducible exact esB_nil | with_reducible exact esR_nil | with_reducible exact evI_no | with_reducible exact evC_no
  | ((with_reducible apply r_var); rfl) | ((with_reducible apply b_var); rfl) | ((with_reducible apply b_ow); rfl)
  | ((with_reducible apply b_ev); · rfl)
  | with_reducible apply r_bin | with_reducible apply r_neg | with_reducible apply r_cmp | with_reducible apply r_not | with_reducible apply r_tup | with_reducible apply r_lst | with_reducible apply r_cel
  | with_reducible apply r_sub | with_reducible apply r_bi | with_reducible apply r_isi | with_reducible apply r_mth | with_reducible apply r_callP | with_reducible apply r_callKP | with_reducible apply r_call | with_reducible apply r_slc
  | with_reducible apply es_cons | with_reducible apply esB_cons | with_reducible apply esR_cons | with_reducible apply evI_so | with_reducible apply evC_so
  | with_reducible exact add_ok _ _ _ | with_reducible exact sub_ok _ _ _ | with_reducible exact int_ok _ _ | with_reducible exact eqD_int _ _ | with_reducible exact neD_int _ _
  | (show _ = some _; with_reducible assumption) | (show _ = some _; with_reducible apply_assumption)))
local macro_rules | `(tactic| walk_at "ret") => `(tactic| ((apply s_ret); · rfl))
theorem wheels_of {R : List Int → Prop} : ∀ {ds : List D}, (∀ d ∈ ds, ∃ w, d = iD w ∧ R w) → ∃ ws : List (List Int), ds = ws.map iD ∧ ∀ w ∈ ws, R w
  | [], _ => ⟨[], rfl, by simp⟩
  | d :: ds, h => by
    obtain ⟨x, rfl, h1⟩ := h d List.mem_cons_self
    obtain ⟨ws, rfl, h2⟩ := wheels_of fun e he => h e (List.mem_cons_of_mem _ he)
    exact ⟨x :: ws, rfl, fun y hy => by
      rcases List.mem_cons.mp hy with rfl | hy
      · exact h1
      · exact h2 y hy⟩
/-- the generator: at k, no more than m drawn -/
def Gk (k : Nat) (st : Store) (m : Int) : Prop := ∃ c, st[k]? = some c ∧ Gen c m
theorem Gk.mono {k : Nat} {st : Store} {m n : Int} (h : Gk k st m) (l : m ≤ n) : Gk k st n := by
  obtain ⟨c, a, b⟩ := h; exact ⟨c, a, b.mono l⟩
theorem Gk.lt {k : Nat} {st : Store} {m : Int} (h : Gk k st m) : k < st.length := by
  obtain ⟨c, a, b⟩ := h; exact (List.getElem?_eq_some_iff.mp a).1
theorem Gk.app {k : Nat} {st : Store} {m : Int} (h : Gk k st m) (cs : List Cell) : Gk k (st ++ cs) m := by
  have := h.lt
  obtain ⟨c, a, b⟩ := h
  exact ⟨c, by rw [List.getElem?_append_left this]; exact a, b⟩
/-- a wheel drawn -/
def W4 (w : List Int) : Prop := 1 ≤ w.length ∧ w.length ≤ 4 ∧ ∀ x ∈ w, 0 ≤ x ∧ x < 1000000000
theorem bd3 : Bd 3 := ⟨by decide, .inl (by decide +kernel)⟩
theorem bd4 : Bd 4 := ⟨by decide, .inl (by decide +kernel)⟩
theorem bd7 : Bd 7 := ⟨by decide, .inl (by decide +kernel)⟩
theorem bd9 : Bd 1000000000 := ⟨by decide, .inr (by decide +kernel)⟩
theorem wheel_drawn (k : Nat) (st : Store) (m most top : Int) (hg : Gk k st m) (hm : m < 7000000) (h1 : 0 < most ∧ most ≤ 1000) (h2 : Bd top) :
    ∃ ws st', prog.run 28 "_law_wheel" [.cell k, .int most, .int top] st = some ⟨iD ws, true, st'⟩ ∧ 1 ≤ ws.length ∧ (ws.length : Int) ≤ most ∧ (∀ x ∈ ws, 0 ≤ x ∧ x < top) ∧ GA k st (m + 2 + 2 * most) st' :=
  wheelG_run (T := prog) rfl rfl rfl 25 k st m most top hg hm h1 h2
abbrev P28 : Pg := ⟨prog.run 28, prog.glo, prog.whl⟩
theorem row_drawn (k : Nat) (st : Store) (m : Int) (hg : Gk k st m) (hm : m < 1000000) :
    ∃ row st', row ≠ [] ∧ row.length ≤ 4 ∧ (∀ w ∈ row, W4 w) ∧ E.ev P28 (.lc (.call "_law_wheel" (.cons (.var 0) (.cons (.int 4) (.cons (.call "_law_pick" (.cons (.var 0) (.cons (.lst (.cons (.int 3) (.cons (.int 7) (.cons (.bin .pow (.int 10) (.int 9)) .nil)))) .nil))) .nil)))) [2] (.one 2) (.rg1 (.bin .add (.int 1) (.call "_law_random" (.cons (.var 0) (.cons (.int 4) .nil))))) .no) [.fr (.cell k), .no, .no, .no, .no, .no, .no, .no, .no, .no, .no] st = some ⟨rowD row, true, st'⟩ ∧ GA k st (m + 60) st' := by
  obtain ⟨r, st1, e1, e2, e3, e4⟩ := drawT (T := prog) rfl rfl 26 k st m 4 hg (by omega) bd4
  have hl : (rngD 0 (1 + r).toNat).length = (1 + r).toNat := by unfold rngD; simp
  have hpw : ∀ st, binD .pow st (.int 10) (.int 9) = some (.int 1000000000, false) := fun st => by rfl
  obtain ⟨ds, st2, f1, f2, f3, f4⟩ := lcL_ex (t := .one 2) (P := P28) (elt := E.ev P28 (.call "_law_wheel" (.cons (.var 0) (.cons (.int 4) (.cons (.call "_law_pick" (.cons (.var 0) (.cons (.lst (.cons (.int 3) (.cons (.int 7) (.cons (.bin .pow (.int 10) (.int 9)) .nil)))) .nil))) .nil))))) (env := [.fr (.cell k), .no, .no, .no, .no, .no, .no, .no, .no, .no, .no]) (1 + r).toNat
    (fun i s => GA k st (m + 2 + 12 * (i : Nat)) s) (fun d => ∃ w, d = iD w ∧ W4 w) (rngD 0 (1 + r).toNat) 0 st1 (by
      intro x hx i s hi hI
      refine ⟨[.fr (.cell k), .no, .fr x, .no, .no, .no, .no, .no, .no, .no, .no], rfl, ?_⟩
      obtain ⟨j, hj, s2, g1, g2⟩ := pick_run (T := prog) rfl rfl rfl 25 k s (m + 2 + 12 * (i : Nat)) [.int 3, .int 7, .int 1000000000] hI.get (by omega) (by simp)
      have hb : ∃ top, [D.int 3, .int 7, .int 1000000000][j] = .int top ∧ Bd top ∧ top ≤ 1000000000 := by
        simp only [List.length_cons, List.length_nil] at hj
        match j, hj with
        | 0, _ => exact ⟨3, rfl, bd3, by decide⟩
        | 1, _ => exact ⟨7, rfl, bd7, by decide⟩
        | 2, _ => exact ⟨_, rfl, bd9, by decide⟩
      obtain ⟨top, b1, b2, b3⟩ := hb
      rw [b1] at g1
      obtain ⟨w, s3, g3, g4, g5, g6, g7⟩ := wheel_drawn k s2 (m + 2 + 12 * (i : Nat) + 2) 4 top (hI.trans g2).get (by omega) (by decide) b2
      exact ⟨_, true, s3, r_callP (es_cons (r_var rfl) (es_cons r_int (es_cons (r_callP (es_cons (r_var rfl) (es_cons (r_lst (es_cons r_int (es_cons r_int (es_cons (r_bin (b_ev rfl r_int) (b_ev rfl r_int) (hpw _)) es_nil))) (show 3 ≤ LIM by decide)) es_nil)) g1) es_nil))) g3, ⟨w, rfl, g4, by omega, fun x hx => ⟨(g6 x hx).1, by have := (g6 x hx).2; omega⟩⟩, ((hI.trans g2).trans g7).mono (by omega)⟩) (by rw [hl]; omega) (e4.mono (by omega))
  obtain ⟨row, rfl, hw⟩ := wheels_of f3
  rw [List.length_map, hl] at f2
  rw [hl] at f4
  refine ⟨row, st2, List.length_pos_iff.mp (by omega), by omega, hw, ?_, f4.mono (by omega)⟩
  exact r_lc (it_rg1 (j := 1 + r) (r_bin (b_ev rfl r_int) (b_ev rfl (r_callP (es_cons (r_var rfl) (es_cons r_int es_nil)) e1)) (add_ok _ _ _)) (by omega)) (by rw [hl]; show _ ≤ 16777216; omega) f1
theorem W4.ok {w : List Int} (h : W4 w) : 1 ≤ w.length ∧ w.length ≤ 8 ∧ ∀ x ∈ w, 0 ≤ x ∧ x < 2147483648 := ⟨h.1, by have := h.2.1; omega, fun x hx => by have := h.2.2 x hx; omega⟩
theorem ok_row {row : List (List Int)} (h1 : row ≠ []) (h2 : row.length ≤ 5) (h3 : ∀ w ∈ row, W4 w) : Ok5 row := ⟨h1, h2, fun w hw => (h3 w hw).ok⟩
theorem rd_int {st : Store} {n : Nat} (i : Int) : Rd st (n + 1) (.int i) (.int i) := .int i
theorem tr_fr {st : Store} (t : Int) (a b : Nat) : Tr st 3 (.tup [.int t, frD a b]) (.tup [.int t, frD a b]) [] := by
  have h1 : Tr st 2 (frD a b) (frD a b) [] := Tr.tup (is := [(.int (a / Nat.gcd a b : Nat), .int (a / Nat.gcd a b : Nat), []), (.int (b / Nat.gcd a b : Nat), .int (b / Nat.gcd a b : Nat), [])]) (show 2 < LIM by decide) fun p hp => by
    simp only [List.mem_cons, List.not_mem_nil, or_false] at hp
    rcases hp with rfl | rfl <;> exact .int _
  exact Tr.tup (is := [(.int t, .int t, []), (frD a b, frD a b, [])]) (show 2 < LIM by decide) fun p hp => by
    simp only [List.mem_cons, List.not_mem_nil, or_false] at hp
    rcases hp with rfl | rfl
    · exact .int _
    · exact h1
/-- what is told of a table -/
theorem told_tab {st : Store} {k : Nat} (L : List Int) (h : st[k]? = some (.lst (tabL L))) (hl : (tabL L).length < LIM) : Tr st 4 (.cell k) (.lst (tabL L)) [k] := by
  have e : (tabL L).map (fun d => ((d, d, ([] : List Nat)) : D × D × List Nat)) = (tabL L).map fun d => (d, d, []) := rfl
  have hm1 : ((tabL L).map (fun d => ((d, d, ([] : List Nat)) : D × D × List Nat))).map (·.1) = tabL L := by rw [List.map_map]; exact List.map_id _
  have hm2 : ((tabL L).map (fun d => ((d, d, ([] : List Nat)) : D × D × List Nat))).map (·.2.1) = tabL L := by rw [List.map_map]; exact List.map_id _
  have hm3 : ((tabL L).map (fun d => ((d, d, ([] : List Nat)) : D × D × List Nat))).flatMap (·.2.2) = [] := by
    rw [List.flatMap_eq_nil_iff]
    intro p hp
    obtain ⟨d, _, rfl⟩ := List.mem_map.mp hp
    rfl
  have z := Tr.cell (st := st) (n := 3) (k := k) (is := (tabL L).map fun d => (d, d, [])) (by rw [hm1]; exact h) (by rw [List.length_map]; exact hl) (by
    rw [hm2]
    intro z
    have := List.mem_of_getLast? z
    unfold tabL at this
    obtain ⟨t, _, z⟩ := List.mem_map.mp this
    cases z) fun p hp => by
      obtain ⟨d, hd, rfl⟩ := List.mem_map.mp hp
      unfold tabL at hd
      obtain ⟨t, _, rfl⟩ := List.mem_map.mp hd
      exact tr_fr _ _ _
  rw [hm2, hm3] at z
  exact z
theorem tab_len {row : List (List Int)} (h : Ok5 row) : (tabL (sums row)).length < LIM := by
  unfold tabL
  rw [List.length_map, (sortI_perm _).length_eq]
  have := unl_len (sortI (sums row)) []
  rw [(sortI_perm _).length_eq] at this
  have h3 := h.sz
  simp only [List.length_nil] at this
  rw [lim_eq]; omega
theorem rd_bools (st : Store) (a b : Bool) : Rd st 4 (.lst [.bl a, .bl b]) (.lst [.bl a, .bl b]) := Rd.lst rfl (show 2 ≤ LIM by decide) fun p hp => by
  simp only [List.zip_cons_cons, List.zip_nil_right, List.mem_cons, List.not_mem_nil, or_false] at hp
  rcases hp with rfl | rfl <;> exact .bl _
/-! ### the loop over the six lists -/
abbrev bodyR : Ss := (.cons (.asg 10 (.cmp .eq (.call "_law_table" (.cons (.var 9) .nil)) (.var 4)))
  (.frz 1 (.cons (.iff (.not (.call "_law_exact" (.cons (.lst (.cons (.call "are_same_sums" (.cons (.var 1) (.cons (.var 9) .nil))) (.cons (.callK "are_same_sums" (.cons (.var 9) (.cons (.var 1) .nil)) ["late", "row"] [1, 0]) .nil))) (.cons (.lst (.cons (.var 10) (.cons (.var 10) .nil))) .nil))))
   (.cons (.ret (.bl false))
  .nil)
   .nil)
  .nil)))
theorem six_loop (k : Nat) (m : Int) (row : List (List Int)) (hr : Ok5 row) (x2 x3 x5 x6 x7 x8 : Sl) : ∀ (lates : List (List (List Int))) (x9 x10 : Sl) (st : Store), (∀ l ∈ lates, Ok5 l) → Gk k st m →
    ∃ x9' x10' st', forL (.one 9) (Ss.ev P28 bodyR) (lates.map rowD) [.fr (.cell k), .fr (rowD row), x2, x3, .fr (.lst (tabL (sums row))), x5, x6, x7, x8, x9, x10] st = some ⟨.nx, [.fr (.cell k), .fr (rowD row), x2, x3, .fr (.lst (tabL (sums row))), x5, x6, x7, x8, x9', x10'], st'⟩ ∧ Gk k st' m
  | [], x9, x10, st, _, hg => ⟨x9, x10, st, rfl, hg⟩
  | late :: lates, x9, x10, st, h, hg => by
    have hl := h late List.mem_cons_self
    have ht := ltable_run 26 hl.lt st
    have heq : cmpD .eq st (.lst (tabL (sums late))) (.lst (tabL (sums row))) = some (sameB row late) := by
      rw [sameB_comm]
      exact eqD_pl (tab_pl _) (tab_pl _)
    have s1 := same_run 23 hr.tb hl.tb st
    generalize hs1 : (st ++ [Cell.lst (tabL (sums row))]) ++ [.lst (tabL (sums late))] = st1 at s1
    have g1 : Gk k st1 m := by rw [← hs1]; exact (hg.app _).app _
    have s2 := same_run 23 hr.tb hl.tb st1
    generalize hs2 : (st1 ++ [Cell.lst (tabL (sums row))]) ++ [.lst (tabL (sums late))] = st2 at s2
    have g2 : Gk k st2 m := by rw [← hs2]; exact (g1.app _).app _
    have ex := exact_run (T := prog) rfl 4 24 _ _ (rd_bools st2 (sameB row late) (sameB row late))
    obtain ⟨y9, y10, st3, e1, e2⟩ := six_loop k m row hr x2 x3 x5 x6 x7 x8 lates (.fr (rowD late)) (.fr (.bl (sameB row late))) st2 (fun l hl => h l (List.mem_cons_of_mem _ hl)) g2
    refine ⟨y9, y10, st3, f_cons (env1 := [.fr (.cell k), .fr (rowD row), x2, x3, .fr (.lst (tabL (sums row))), x5, x6, x7, x8, .fr (rowD late), x10]) rfl (s_asg (d := .bl (sameB row late)) (n := false) (st1 := st) (r_cmp (b_ev rfl (r_callP (es_cons (r_var rfl) es_nil) ht)) (b_var rfl) heq) (s_frz ?_)) e1, e2⟩
    show Ss.ev _ _ [.fr (.cell k), .fr (rowD row), x2, x3, .fr (.lst (tabL (sums row))), x5, x6, x7, x8, .fr (rowD late), .fr (.bl (sameB row late))] st = _
    exact s_iff_e (n := false) (st1 := st2) (r_not (q := true) (n := false) (r_callP (es_cons (r_lst (es_cons (r_callP (es_cons (r_var rfl) (es_cons (r_var rfl) es_nil)) s1) (es_cons (r_callKP (es_cons (r_var rfl) (es_cons (r_var rfl) es_nil)) rfl s2) es_nil)) (show 2 ≤ LIM by decide)) (es_cons (r_lst (es_cons (r_var rfl) (es_cons (r_var rfl) es_nil)) (show 2 ≤ LIM by decide)) es_nil)) ex)) rfl
end K88

/-! k88: a drawn row is right. -/
namespace K88
open PySem PyProof.Rows L2 EV
local macro_rules | `(tactic| walk_at "ev") => `(tactic| repeat' (first
  | with_reducible exact r_int | with_reducible exact r_str | with_reducible exact r_bl | with_reducible exact r_non | with_reducible exact es_nil | with_reducible exact esB_nil | with_reducible exact esR_nil | with_reducible exact evI_no | with_reducible exact evC_no
  | ((with_reducible apply r_var); rfl) | ((with_reducible apply b_var); rfl) | ((with_reducible apply b_ow); rfl)
  | ((with_reducible apply b_ev); · rfl)
  | with_reducible apply r_bin | with_reducible apply r_neg | with_reducible apply r_cmp | with_reducible apply r_not | with_reducible apply r_tup | with_reducible apply r_lst | with_reducible apply r_cel
  | with_reducible apply r_sub | with_reducible apply r_bi | with_reducible apply r_isi | with_reducible apply r_mth | with_reducible apply r_callP | with_reducible apply r_callKP | with_reducible apply r_call | with_reducible apply r_slc
  | with_reducible apply es_cons | with_reducible apply esB_cons | with_reducible apply esR_cons | with_reducible apply evI_so | with_reducible apply evC_so
  | with_reducible exact add_ok _ _ _ | with_reducible exact sub_ok _ _ _ | with_reducible exact int_ok _ _ | with_reducible exact eqD_int _ _ | with_reducible exact neD_int _ _
  | (show _ = some _; with_reducible assumption) | (show _ = some _; with_reducible apply_assumption)))
local macro_rules | `(tactic| walk_at "ret") => `(tactic| ((apply s_ret); · rfl))
theorem add_lists (st : Store) (xs ys : List D) (h : xs.length + ys.length ≤ 16777216) : binD .add st (.lst xs) (.lst ys) = some (.lst (xs ++ ys), true) := by
  show (if xs.length + ys.length ≤ LIM then some (D.lst (xs ++ ys), true) else none) = _
  rw [if_pos h]
theorem cut_last (xs : List D) : EV.cutD xs none (some (-1)) = xs.dropLast := by
  have h0 : HT.sIx xs.length 0 none = 0 := by unfold HT.sIx; simp
  unfold EV.cutD
  rw [List.dropLast_eq_take]
  cases xs with
  | nil => simp
  | cons a r =>
    have h1 : HT.sIx (a :: r).length (a :: r).length (some (-1)) = (a :: r).length - 1 := by
      unfold HT.sIx; simp
      try omega
    rw [h1, h0]; simp
theorem cut_one (xs : List D) : EV.cutD xs none (some 1) = xs.take 1 := by
  cases xs with
  | nil => rfl
  | cons a r => unfold EV.cutD; simp [HT.sIx]
theorem rowD_inj_len (row : List (List Int)) : (row.map iD).length = row.length := List.length_map _
theorem row_right_run (k : Nat) (st : Store) (m : Int) (hg : Gk k st m) (hm : m < 500000) : ∃ st', prog.run 29 "_law_row_right" [.cell k] st = some ⟨.bl true, false, st'⟩ ∧ Gk k st' (m + 200) := by
  obtain ⟨row, st1, rne, rle, rw4, e1, G1⟩ := row_drawn k st m hg (by omega)
  have hr : Ok5 row := ok_row rne (by omega) rw4
  obtain ⟨s, sok, hrep⟩ := repr_rows hr.sh.1 hr.sh.2
  have htab := fun st => ltable_run 26 hr.lt st
  have hsum := fun st => sumt_run 23 hr.tb st
  have htl := tab_len hr
  have g1 : Gk k st1 (m + 60) := G1.get
  generalize hL : sums row = L at htab hsum htl
  -- the first table
  have t1 := told_tab (st := st1 ++ [.lst (tabL L)]) (k := st1.length) L (by simp) htl
  have ex1 := exact_run (T := prog) rfl 4 24 _ _ t1.rd
  obtain ⟨st3, mk1, mk2, mk3⟩ := marked_run (T := prog) rfl 4 24 _ _ _ _ (by decide) t1 (by simp)
  have g2 : Gk k (st1 ++ [.lst (tabL L)]) (m + 60) := g1.app _
  have g3 : Gk k st3 (m + 60) := by
    obtain ⟨c, a, b⟩ := g2
    exact ⟨c, by rw [mk3 k (by have := g1.lt; simp; omega)]; exact a, b⟩
  have t2 := told_tab (st := st3 ++ [.lst (tabL L)]) (k := st3.length) L (by simp) htl
  have ex2 := exact_run (T := prog) rfl 4 24 _ _ t2.rd
  generalize hst4 : st3 ++ [Cell.lst (tabL L)] = st4 at t2 ex2
  have g4 : Gk k st4 (m + 60) := by rw [← hst4]; exact g3.app _
  have hsum4 := hsum st3
  rw [hst4] at hsum4
  -- the six rows
  obtain ⟨ys, st5, o1, o2, G5⟩ := order_run (T := prog) rfl rfl rfl rfl 25 k st4 (m + 60) (row.map iD) g4 (by omega) (by rw [List.length_map]; omega) (pl_row 27 row)
  obtain ⟨lateA, rfl, lA⟩ := wheels_of (R := fun w => w ∈ row) (ds := ys) fun d hd => by
    obtain ⟨w, hw, rfl⟩ := List.mem_map.mp (o2.mem_iff.mp hd)
    exact ⟨w, rfl, hw⟩
  have lAl : lateA.length = row.length := by
    have := o2.length_eq
    simpa using this
  have g5 : Gk k st5 (m + 60 + 2 * (row.map iD).length) := G5.get
  have okA : Ok5 lateA := ok_row (List.length_pos_iff.mp (by rw [lAl]; exact List.length_pos_iff.mpr rne)) (by omega) fun w hw => rw4 w (lA w hw)
  have okB : Ok5 (row.map fun w => w.reverse ++ w.reverse) := ⟨by simpa using rne, by rw [List.length_map]; omega, fun w hw => by
    obtain ⟨v, hv, rfl⟩ := List.mem_map.mp hw
    obtain ⟨a, b, c⟩ := rw4 v hv
    refine ⟨by simp; omega, by simp; omega, fun x hx => ?_⟩
    have hx2 : x ∈ v := by simpa using hx
    have := c x hx2; omega⟩
  obtain ⟨last, hlast⟩ : ∃ last, row.getLast? = some last := ⟨row.getLast rne, List.getLast?_eq_some_getLast rne⟩
  have hlm : last ∈ row := List.mem_of_getLast? hlast
  have okC : Ok5 (row.dropLast ++ [last.map (· + 1)]) := ⟨by simp, by simp; omega, fun w hw => by
    rcases List.mem_append.mp hw with h | h
    · exact (rw4 w (List.dropLast_subset _ h)).ok
    · simp only [List.mem_singleton] at h
      subst h
      obtain ⟨a, b, c⟩ := rw4 last hlm
      refine ⟨by simpa using a, by simp; omega, fun x hx => ?_⟩
      obtain ⟨y, hy, rfl⟩ := List.mem_map.mp hx
      have := c y hy; omega⟩
  have okE : Ok5 (row ++ [[0]]) := ⟨by simp, by simp; omega, fun w hw => by
    rcases List.mem_append.mp hw with h | h
    · exact (rw4 w h).ok
    · simp only [List.mem_singleton] at h
      subst h
      exact ⟨by decide, by decide, fun x hx => by simp only [List.mem_singleton] at hx; subst hx; decide⟩⟩
  have okF : Ok5 (row.take 1) := ⟨by simpa using rne, by simp; omega, fun w hw => (rw4 w (List.mem_of_mem_take hw)).ok⟩
  -- pieces
  have hB : ∀ (st : Store) (x3 x5 : Sl), E.ev P28 (.lc (.bin .mul (.rev (.var 7)) (.int 2)) [7] (.one 7) (.ovr (.var 1)) .no) [.fr (.cell k), .fr (rowD row), .no, x3, .fr (.lst (tabL L)), x5, .no, .no, .no, .no, .no] st = some ⟨rowD (row.map fun w => w.reverse ++ w.reverse), true, st⟩ := fun st x3 x5 => by
    have hlc : lcL (.one 7) (Eo.evC P28 .no) (E.ev P28 (.bin .mul (.rev (.var 7)) (.int 2))) [.fr (.cell k), .fr (rowD row), .no, x3, .fr (.lst (tabL L)), x5, .no, .no, .no, .no, .no] (row.map iD) st = some (row.map fun w => iD (w.reverse ++ w.reverse), st) := lcL_map fun w hw => ⟨_, rfl, true, by
      have hmul : binD .mul st (.lst (w.map D.int).reverse) (.int 2) = some (iD (w.reverse ++ w.reverse), true) := by
        have := mul_list (st := st) (w.map D.int).reverse 2 (by have := (rw4 w hw).2.1; simp; omega) (by decide)
        rw [show ((2 : Nat) : Int) = 2 from rfl] at this
        rw [this]
        unfold iD
        simp [List.replicate]
      exact r_bin (b_ev rfl (r_rev (xs := w.map D.int) (b_var rfl) rfl)) (b_ev rfl r_int) hmul⟩
    have := r_lc (P := P28) (own := [7]) (it_ovr (xs := row.map iD) (r_var (i := 1) (P := P28) (env := [.fr (.cell k), .fr (rowD row), .no, x3, .fr (.lst (tabL L)), x5, .no, .no, .no, .no, .no]) (st := st) rfl) rfl) (by rw [List.length_map]; exact Nat.le_trans rle (by decide)) hlc
    rw [show rowD (row.map fun w => w.reverse ++ w.reverse) = .lst (row.map fun w => iD (w.reverse ++ w.reverse)) by unfold rowD; rw [List.map_map]; rfl]
    exact this
  have hat : ∀ st, atD st (rowD row) (.int (-1)) = some (iD last) := fun st => at_sq (j := row.length - 1) (xs := row.map iD) rfl (by
      have := List.length_pos_iff.mpr rne
      show L2.ixN (row.map iD).length (-1) = _
      unfold L2.ixN
      rw [List.length_map, if_neg (by omega), if_pos (by omega)]
      congr 1; omega) (by rw [List.getElem?_map, ← List.getLast?_eq_getElem?, hlast]; rfl)
  have hC : ∀ (st : Store) (x3 x5 : Sl), E.ev P28 (.bin .add (.slc (.var 1) .no (.so (.neg (.int 1)))) (.lst (.cons (.lc (.bin .add (.var 8) (.int 1)) [8] (.one 8) (.ovr (.sub (.var 1) (.neg (.int 1)))) .no) .nil))) [.fr (.cell k), .fr (rowD row), .no, x3, .fr (.lst (tabL L)), x5, .no, .no, .no, .no, .no] st = some ⟨rowD (row.dropLast ++ [last.map (· + 1)]), true, st⟩ := fun st x3 x5 => by
    have hlc : lcL (.one 8) (Eo.evC P28 .no) (E.ev P28 (.bin .add (.var 8) (.int 1))) [.fr (.cell k), .fr (rowD row), .no, x3, .fr (.lst (tabL L)), x5, .no, .no, .no, .no, .no] (last.map D.int) st = some (last.map fun x => .int (x + 1), st) := lcL_map fun x hx => ⟨_, rfl, false, r_bin (b_var rfl) (b_ev rfl r_int) (add_ok _ _ _)⟩
    have hlc2 := r_lc (P := P28) (own := [8]) (it_ovr (xs := last.map D.int) (r_sub (P := P28) (a := .var 1) (i := .neg (.int 1)) (env := [.fr (.cell k), .fr (rowD row), .no, x3, .fr (.lst (tabL L)), x5, .no, .no, .no, .no, .no]) (st := st) (b_var rfl) (r_neg (b_ev rfl r_int)) (hat st)) rfl) (by rw [List.length_map]; exact Nat.le_trans (rw4 last hlm).2.1 (by decide)) hlc
    have hadd : binD .add st (.lst (EV.cutD (row.map iD) none (some (-1)))) (.lst [.lst (last.map fun x => .int (x + 1))]) = some (rowD (row.dropLast ++ [last.map (· + 1)]), true) := by
      rw [add_lists _ _ _ (by rw [cut_last]; simp; omega), cut_last]
      unfold rowD iD
      simp
    exact r_bin (b_ev rfl (r_slc (xs := row.map iD) (b_var rfl) evI_no (evI_so (r_neg (b_ev rfl r_int))) rfl)) (b_ev rfl (r_lst (es_cons hlc2 es_nil) (show 1 ≤ LIM by decide))) hadd
  -- the drawn wheels
  obtain ⟨ds, st6, d1, d2, d3, d4⟩ := lcL_ex (t := .one 7) (P := P28) (elt := E.ev P28 (.call "_law_wheel" (.cons (.var 0) (.cons (.int 4) (.cons (.int 3) .nil))))) (env := [.fr (.cell k), .fr (rowD row), .no, .fr (.str s), .fr (.lst (tabL L)), .fr (.cell st1.length), .ow (.lst ([lateA, row.map fun w => w.reverse ++ w.reverse, row.dropLast ++ [last.map (· + 1)]].map rowD)), .no, .no, .no, .no]) row.length
    (fun i s => GA k st5 (m + 68 + 10 * (i : Nat)) s) (fun d => ∃ w, d = iD w ∧ W4 w) (row.map iD) 0 st5 (by
      intro x hx i s2 hi hI
      refine ⟨_, rfl, ?_⟩
      obtain ⟨w, s3, h3, h4, h5, h6, h7⟩ := wheel_drawn k s2 (m + 68 + 10 * (i : Nat)) 4 3 hI.get (by omega) (by decide) bd3
      exact ⟨_, true, s3, r_callP (es_cons (r_var rfl) (es_cons r_int (es_cons r_int es_nil))) h3, ⟨w, rfl, h4, by omega, fun x hx => ⟨(h6 x hx).1, by have := (h6 x hx).2; omega⟩⟩, (hI.trans h7).mono (by omega)⟩) (by simp) (by
      obtain ⟨c, a, b⟩ := g5
      exact GA.start a (b.mono (by rw [List.length_map]; omega)))
  obtain ⟨lateD, rfl, lD⟩ := wheels_of d3
  rw [List.length_map, List.length_map] at d2
  rw [List.length_map] at d4
  have okD : Ok5 lateD := ok_row (List.length_pos_iff.mp (by rw [d2]; exact List.length_pos_iff.mpr rne)) (by omega) lD
  have g6 : Gk k st6 (m + 200) := Gk.mono d4.get (by omega)
  have lp := six_loop k (m + 200) row hr .no (.fr (.str s)) (.fr (.cell st1.length)) (.ow (.lst ([lateA, row.map fun w => w.reverse ++ w.reverse, row.dropLast ++ [last.map (· + 1)]].map rowD))) .no .no [lateA, row.map fun w => w.reverse ++ w.reverse, row.dropLast ++ [last.map (· + 1)], lateD, row ++ [[0]], row.take 1] .no .no st6 (fun l hl => by
    simp only [List.mem_cons, List.not_mem_nil, or_false] at hl
    rcases hl with rfl | rfl | rfl | rfl | rfl | rfl
    · exact okA
    · exact okB
    · exact okC
    · exact okD
    · exact okE
    · exact okF) g6
  rw [hL] at lp
  obtain ⟨y9, y10, st7, l1, l2⟩ := lp
  refine ⟨st7, ?_, l2⟩
  apply run_rt (F := f__law_row_right) rfl rfl
  refine s_asg e1 (s_frz ?_)
  show Ss.ev _ _ [.fr (.cell k), .fr (rowD row), .no, .no, .no, .no, .no, .no, .no, .no, .no] st1 = _
  refine s_asgT (rs := [⟨.str s, false, st1⟩, ⟨.lst (tabL L), true, st1⟩]) (st1 := st1) (esR_cons (r_bi (esB_cons (b_var rfl) esB_nil) (hrep st1)) (esR_cons (r_callP (es_cons (r_var rfl) es_nil) (htab st1)) esR_nil)) rfl (s_frz ?_)
  show Ss.ev _ _ [.fr (.cell k), .fr (rowD row), .no, .fr (.str s), .ow (.lst (tabL L)), .no, .no, .no, .no, .no, .no] st1 = _
  refine s_asg (r_callP (es_cons (r_var rfl) es_nil) (hsum st1)) (s_frz (s_frz (s_frz ?_)))
  show Ss.ev _ _ [.fr (.cell k), .fr (rowD row), .no, .fr (.str s), .fr (.lst (tabL L)), .fr (.cell st1.length), .no, .no, .no, .no, .no] (st1 ++ [.lst (tabL L)]) = _
  refine s_iff_e (n := false) (st1 := st4) (r_or_f (st1 := st1 ++ [.lst (tabL L)]) (r_not (q := true) (n := false) (r_callP (es_cons (r_var rfl) (es_cons (r_var rfl) es_nil)) ex1)) (r_or_f (st1 := st3) (r_not (q := true) (n := false) (r_callP (es_cons (r_var rfl) es_nil) mk1)) (r_not (q := true) (n := false) (r_callP (es_cons (r_callKP (es_cons (r_var rfl) es_nil) rfl hsum4) (es_cons (r_var rfl) es_nil)) ex2)))) (s_frz ?_)
  show Ss.ev _ _ [.fr (.cell k), .fr (rowD row), .no, .fr (.str s), .fr (.lst (tabL L)), .fr (.cell st1.length), .no, .no, .no, .no, .no] st4 = _
  refine s_asg (d := .lst ([lateA, row.map fun w => w.reverse ++ w.reverse, row.dropLast ++ [last.map (· + 1)]].map rowD)) (n := true) (st1 := st5) (r_lst (es_cons (r_callP (es_cons (r_var rfl) (es_cons (r_var rfl) es_nil)) o1) (es_cons (hB st5 _ _) (es_cons (hC st5 _ _) es_nil))) (show 3 ≤ LIM by decide)) (s_frz ?_)
  show Ss.ev _ _ [.fr (.cell k), .fr (rowD row), .no, .fr (.str s), .fr (.lst (tabL L)), .fr (.cell st1.length), .ow (.lst ([lateA, row.map fun w => w.reverse ++ w.reverse, row.dropLast ++ [last.map (· + 1)]].map rowD)), .no, .no, .no, .no] st5 = _
  have hE : binD .add st6 (rowD row) (.lst [.lst [.int 0]]) = some (rowD (row ++ [[0]]), true) := by
    unfold rowD
    rw [add_lists _ _ _ (by simp; omega)]
    simp [iD]
  have hF : D.lst (EV.cutD (row.map iD) none (some 1)) = rowD (row.take 1) := by
    rw [cut_one]; unfold rowD; rw [List.map_take]
  have hadd : binD .add st6 (.lst ([lateA, row.map fun w => w.reverse ++ w.reverse, row.dropLast ++ [last.map (· + 1)]].map rowD)) (.lst ([lateD, row ++ [[0]], row.take 1].map rowD)) = some (.lst ([lateA, row.map fun w => w.reverse ++ w.reverse, row.dropLast ++ [last.map (· + 1)], lateD, row ++ [[0]], row.take 1].map rowD), true) := by
    rw [add_lists _ _ _ (by simp)]; rfl
  refine s_for (ds := [lateA, row.map fun w => w.reverse ++ w.reverse, row.dropLast ++ [last.map (· + 1)], lateD, row ++ [[0]], row.take 1].map rowD) (st1 := st6) (it_ovr (n := true) (r_bin (b_ow rfl) (b_ev rfl (r_lst (ds := [lateD, row ++ [[0]], row.take 1].map rowD) (st1 := st6) (es_cons (r_lc (it_ovr (xs := row.map iD) (r_var rfl) rfl) (by rw [List.length_map]; exact Nat.le_trans rle (by decide)) d1) (es_cons (r_bin (b_var rfl) (b_ev rfl (r_lst (es_cons (r_lst (es_cons r_int es_nil) (show 1 ≤ LIM by decide)) es_nil) (show 1 ≤ LIM by decide))) hE) (es_cons (by rw [← hF]; exact r_slc (xs := row.map iD) (b_var rfl) evI_no (evI_so r_int) rfl) es_nil))) (show 3 ≤ LIM by decide))) hadd) rfl) l1 ?_
  have hq : cmpD .eq st7 (.str s) (.str s) = some true := eqD_t (by unfold D.pl; exact sok)
  exact s_ret rfl (r_cmp (b_ev rfl (r_bi (esB_cons (b_var rfl) esB_nil) (hrep st7))) (b_var rfl) hq)
end K88

/-! k88: a wheel turned many times; the law. -/
namespace K88
open PySem PyProof.Rows L2 EV
local macro_rules | `(tactic| walk_at "ev") => `(tactic| repeat' (first
  | with_reducible exact r_int | with_reducible exact r_str | with_reducible exact r_bl | with_reducible exact r_non | with_reducible exact es_nil | with_reducible exact esB_nil | with_reducible exact esR_nil | with_reducible exact evI_no | with_reducible exact evC_no
  | ((with_reducible apply r_var); rfl) | ((with_reducible apply b_var); rfl) | ((with_reducible apply b_ow); rfl)
  | ((with_reducible apply b_ev); · rfl)
  | with_reducible apply r_bin | with_reducible apply r_neg | with_reducible apply r_cmp | with_reducible apply r_not | with_reducible apply r_tup | with_reducible apply r_lst | with_reducible apply r_cel
  | with_reducible apply r_sub | with_reducible apply r_bi | with_reducible apply r_isi | with_reducible apply r_mth | with_reducible apply r_callP | with_reducible apply r_callKP | with_reducible apply r_call | with_reducible apply r_slc
  | with_reducible apply es_cons | with_reducible apply esB_cons | with_reducible apply esR_cons | with_reducible apply evI_so | with_reducible apply evC_so
  | with_reducible exact add_ok _ _ _ | with_reducible exact sub_ok _ _ _ | with_reducible exact int_ok _ _ | with_reducible exact eqD_int _ _ | with_reducible exact neD_int _ _
  | (show _ = some _; with_reducible assumption) | (show _ = some _; with_reducible apply_assumption)))
local macro_rules | `(tactic| walk_at "ret") => `(tactic| ((apply s_ret); · rfl))
theorem fr_zero {n : Nat} (h : 0 < n) : frD 0 n = .tup [.int 0, .int 1] := by
  unfold frD
  rw [Nat.gcd_zero_left, Nat.zero_div, Nat.div_self h]; rfl
theorem tr_frD {st : Store} (a b : Nat) : Tr st 2 (frD a b) (frD a b) [] := Tr.tup (is := [(.int (a / Nat.gcd a b : Nat), .int (a / Nat.gcd a b : Nat), []), (.int (b / Nat.gcd a b : Nat), .int (b / Nat.gcd a b : Nat), [])]) (show 2 < LIM by decide) fun p hp => by
    simp only [List.mem_cons, List.not_mem_nil, or_false] at hp
    rcases hp with rfl | rfl <;> exact .int _
theorem rd_two {st : Store} (a b : Nat) : Rd st 4 (.lst [frD a b, frD a b]) (.lst [frD a b, frD a b]) := Rd.lst rfl (show 2 ≤ LIM by decide) fun p hp => by
  simp only [List.zip_cons_cons, List.zip_nil_right, List.mem_cons, List.not_mem_nil, or_false] at hp
  have h : Rd st 3 (frD a b) (frD a b) := (Tr.tup (is := [(.int (a / Nat.gcd a b : Nat), .int (a / Nat.gcd a b : Nat), []), (.int (b / Nat.gcd a b : Nat), .int (b / Nat.gcd a b : Nat), [])]) (show 2 < LIM by decide) fun p hp => by
    simp only [List.mem_cons, List.not_mem_nil, or_false] at hp
    rcases hp with rfl | rfl <;> exact .int _).rd
  rcases hp with rfl | rfl <;> exact h
theorem tabL_zero : tabL [0] = [.tup [.int 0, .tup [.int 1, .int 1]]] := by rfl
def ksL (L : List Int) : List Int := sortI (unl [] (sortI L))
def dcL (L : List Int) : List (L2.Key × D) := mkD ((ksL L).map Sum.inl) ((ksL L).map fun t => frD (L.count t) L.length) []
theorem dict_tab (st : Store) (L : List Int) : biD .dict st [.lst (tabL L)] = some (.dct (dcL L), true) := dict_ints st (fun t => frD (L.count t) L.length) (ksL L)
theorem get_tab (st : Store) {L : List Int} (hL : 0 < L.length) (t : Int) : mtD .get st (.dct (dcL L)) [.int t, .tup [.int 0, .int 1]] = some (frD (L.count t) L.length, false) := by
  have := get_ints st (fun t => frD (L.count t) L.length) (ksL L) t (.tup [.int 0, .int 1])
  unfold dcL
  rw [this]
  have hm : t ∈ ksL L ↔ t ∈ L := by
    unfold ksL
    rw [(sortI_perm _).mem_iff, unl_mem]
    simp [(sortI_perm L).mem_iff]
  by_cases h : t ∈ L
  · rw [if_pos (hm.mpr h)]
  · rw [if_neg fun z => h (hm.mp z), List.count_eq_zero.mpr h, fr_zero hL]
abbrev bodyT : Ss := (.cons (.asg 6 (.mth .get (.var 4) (.cons (.var 5) (.cons (.tup (.cons (.int 0) (.cons (.int 1) .nil))) .nil))))
  (.frz 6 (.frz 2 (.frz 1 (.cons (.iff (.not (.call "_law_exact" (.cons (.lst (.cons (.call "chance_of_sum" (.cons (.var 1) (.cons (.var 2) (.cons (.var 5) .nil)))) (.cons (.callK "chance_of_sum" (.cons (.var 5) (.cons (.var 2) (.cons (.var 1) .nil))) ["total", "many", "wheel"] [2, 1, 0]) .nil))) (.cons (.lst (.cons (.var 6) (.cons (.var 6) .nil))) .nil))))
   (.cons (.ret (.bl false))
  .nil)
   .nil)
  .nil)))))
theorem turn_loop (st : Store) (x0 x3 x7 x8 : Sl) {w : List Int} (h : WhI w) (h8 : w.length ≤ 8) (m : Nat) (hm : m ≤ 60) (hS : SmR (List.replicate m w) [0]) (c : Int) (hc : 0 ≤ c) : ∀ (l : List Nat) (x5 x6 : Sl),
    ∃ x5' x6', forL (.one 5) (Ss.ev P28 bodyT) (l.map fun (q : Nat) => D.int (0 + (q : Nat) * c)) [x0, .fr (iD w), .fr (.int m), x3, .ow (.dct (dcL (sums (List.replicate m w)))), x5, x6, x7, x8] st = some ⟨.nx, [x0, .fr (iD w), .fr (.int m), x3, .ow (.dct (dcL (sums (List.replicate m w)))), x5', x6', x7, x8], st⟩
  | [], x5, x6 => ⟨x5, x6, rfl⟩
  | q :: l, x5, x6 => by
    have ht : (0 : Int) ≤ 0 + (q : Nat) * c := by have := Int.mul_nonneg (Int.natCast_nonneg q) hc; omega
    have hL : 0 < (sums (List.replicate m w)).length := by rw [sums_len]; exact Nat.pow_pos (List.length_pos_iff.mpr h.1)
    have hget := get_tab st hL (0 + (q : Nat) * c)
    have hch := chance_run 23 h h8 m hm hS (0 + (q : Nat) * c) ht st
    rw [← sums_len w m] at hch
    generalize htt : (0 + (q : Nat) * c) = t at ht hget hch
    generalize hLL : sums (List.replicate m w) = L at hL hget hch
    have ex := exact_run (T := prog) rfl 4 24 _ _ (rd_two (st := st) (L.count t) L.length)
    obtain ⟨y5, y6, hy⟩ := turn_loop st x0 x3 x7 x8 h h8 m hm hS c hc l (.fr (.int t)) (.fr (frD (L.count t) L.length))
    rw [hLL] at hy
    refine ⟨y5, y6, ?_⟩
    rw [List.map_cons, htt]
    refine f_cons (env1 := [x0, .fr (iD w), .fr (.int m), x3, .ow (.dct (dcL L)), .fr (.int t), x6, x7, x8]) rfl (s_asg (d := frD (L.count t) L.length) (n := false) (st1 := st) (r_mth (b_ow rfl) rfl (es_cons (r_var rfl) (es_cons (r_tup (es_cons r_int (es_cons r_int es_nil)) (show 2 ≤ LIM by decide)) es_nil)) hget) (s_frz (s_frz (s_frz ?_)))) hy
    show Ss.ev _ _ [x0, .fr (iD w), .fr (.int m), x3, .ow (.dct (dcL L)), .fr (.int t), .fr (frD (L.count t) L.length), x7, x8] st = _
    exact s_iff_e (n := false) (st1 := st) (r_not (q := true) (n := false) (r_callP (es_cons (r_lst (es_cons (r_callP (es_cons (r_var rfl) (es_cons (r_var rfl) (es_cons (r_var rfl) es_nil))) hch) (es_cons (r_callKP (es_cons (r_var rfl) (es_cons (r_var rfl) (es_cons (r_var rfl) es_nil))) rfl hch) es_nil)) (show 2 ≤ LIM by decide)) (es_cons (r_lst (es_cons (r_var rfl) (es_cons (r_var rfl) es_nil)) (show 2 ≤ LIM by decide)) es_nil)) ex)) rfl
theorem maxI_ge : ∀ (l : List Int) (m : Int), m ≤ maxI m l ∧ ∀ x ∈ l, x ≤ maxI m l
  | [], m => ⟨Int.le_refl _, by simp⟩
  | n :: r, m => by
    unfold maxI
    obtain ⟨a, b⟩ := maxI_ge r (if n > m then n else m)
    have h1 : m ≤ (if n > m then n else m) ∧ n ≤ (if n > m then n else m) := by split <;> omega
    exact ⟨by omega, fun x hx => by
      rcases List.mem_cons.mp hx with rfl | hx
      · omega
      · exact b x hx⟩
theorem maxI_lt {b : Int} : ∀ (l : List Int) (m : Int), m < b → (∀ x ∈ l, x < b) → maxI m l < b
  | [], m, h, _ => h
  | n :: r, m, h, hl => by
    unfold maxI
    refine maxI_lt r _ ?_ fun x hx => hl x (List.mem_cons_of_mem _ hx)
    have := hl n List.mem_cons_self
    split <;> omega
theorem bd5 : Bd 5 := ⟨by decide, .inl (by decide +kernel)⟩
theorem bd41 : Bd 41 := ⟨by decide, .inl (by decide +kernel)⟩
theorem turned_right_run (k : Nat) (st : Store) (m : Int) (hg : Gk k st m) (hm : m < 500000) : ∃ st', prog.run 29 "_law_turned_right" [.cell k] st = some ⟨.bl true, false, st'⟩ := by
  obtain ⟨w, st1, e1, w1, w2, w3, G1⟩ := wheel_drawn k st m 5 7 hg (by omega) (by decide) bd7
  obtain ⟨many, st2, e2, m1, m2, G2⟩ := drawT (T := prog) rfl rfl 26 k st1 (m + 12) 5 (G1.mono (by omega)).get (by omega) bd5
  obtain ⟨mn, rfl⟩ : ∃ mn : Nat, many = (mn : Int) := ⟨many.toNat, by omega⟩
  obtain ⟨c0, st3, e3, c1, c2, G3⟩ := drawT (T := prog) rfl rfl 26 k st2 (m + 14) 3 (G2.mono (by omega)).get (by omega) bd3
  obtain ⟨u0, st4, e4, u1, u2, G4⟩ := drawT (T := prog) rfl rfl 26 k st3 (m + 16) 41 (G3.mono (by omega)).get (by omega) bd41
  obtain ⟨tn, htn⟩ : ∃ tn : Nat, 20 + u0 = (tn : Int) := ⟨(20 + u0).toNat, by omega⟩
  have hw : WhI w := ⟨List.length_pos_iff.mp (by omega), fun x hx => (w3 x hx).1, by omega⟩
  have h8 : w.length ≤ 8 := by omega
  have hS : ∀ n, n ≤ 60 → SmR (List.replicate n w) [0] := fun n hn => SmR.rng (b := 1) (fun v hv x hx => by
    rw [(List.mem_replicate.mp hv).2] at hx
    have := w3 x hx; omega) (by simp) (by rw [List.length_replicate, lim_eq]; omega)
  have hsh : Sh8 w := ⟨h8, fun x hx => by have := w3 x hx; omega⟩
  obtain ⟨s, sok, hrep⟩ := repr_iD hsh
  -- the table
  have hfour : E.ev P28 (.ife (.cmp .gt (.var 2) (.int 0)) (.bi .dict (.cons (.call "_law_table" (.cons (.bin .mul (.lst (.cons (.var 1) .nil)) (.var 2)) .nil)) .nil)) (.bi .dict (.cons (.lst (.cons (.tup (.cons (.int 0) (.cons (.tup (.cons (.int 1) (.cons (.int 1) .nil))) .nil))) .nil)) .nil))) [.fr (.cell k), .fr (iD w), .fr (.int mn), .no, .no, .no, .no, .no, .no] st2 = some ⟨.dct (dcL (sums (List.replicate mn w))), true, st2⟩ := by
    by_cases hz : mn = 0
    · subst hz
      refine r_ife (q := false) (n := false) (st1 := st2) (r_cmp (b_var rfl) (b_ev rfl r_int) rfl) ?_
      rw [if_neg (by decide)]
      have hd := dict_tab st2 [0]
      rw [tabL_zero] at hd
      exact r_bi (esB_cons (b_ev rfl (r_lst (es_cons (r_tup (es_cons r_int (es_cons (r_tup (es_cons r_int (es_cons r_int es_nil)) (show 2 ≤ LIM by decide)) es_nil)) (show 2 ≤ LIM by decide)) es_nil) (show 1 ≤ LIM by decide))) esB_nil) hd
    · have hgt : cmpD .gt st2 (.int (mn : Nat)) (.int 0) = some true := by show some (decide _) = _; simp; omega
      refine r_ife (q := true) (n := false) (st1 := st2) (r_cmp (b_var rfl) (b_ev rfl r_int) hgt) ?_
      rw [if_pos rfl]
      have ok : Ok5 (List.replicate mn w) := ⟨by
        cases mn with
        | zero => exact absurd rfl hz
        | succ n => simp [List.replicate_succ], by rw [List.length_replicate]; omega, fun v hv => by
        rw [(List.mem_replicate.mp hv).2]
        exact ⟨by omega, h8, hsh.2⟩⟩
      have hrow : (List.replicate mn w).map iD = List.flatten (List.replicate mn [iD w]) := by
        rw [List.map_replicate]
        clear hz e2 m2 hgt ok m1
        induction mn with
        | zero => rfl
        | succ n ih => rw [List.replicate_succ, List.replicate_succ, List.flatten_cons, ← ih]; rfl
      have hmul : binD .mul st2 (.lst [iD w]) (.int (mn : Nat)) = some (rowD (List.replicate mn w), true) := by
        unfold rowD
        rw [hrow]; exact mul_list [iD w] mn (by simp; omega) (by omega)
      exact r_bi (esB_cons (b_ev rfl (r_callP (es_cons (r_bin (b_ev rfl (r_lst (es_cons (r_var rfl) es_nil) (show 1 ≤ LIM by decide))) (b_var rfl) hmul) es_nil) (ltable_run 26 ok.lt st2))) esB_nil) (dict_tab st2 _)
  -- the loop
  have hc : (1 + c0 ≠ 0 ∧ (1 + c0).natAbs < 1073741824 ∧ Builtin.Range.small 0 32 (1 + c0) = true) := by
    have : c0 = 0 ∨ c0 = 1 ∨ c0 = 2 := by omega
    rcases this with rfl | rfl | rfl <;> decide
  obtain ⟨y5, y6, hy⟩ := turn_loop st3 (.fr (.cell k)) (.fr (.str s)) .no .no hw h8 mn (by omega) (hS mn (by omega)) (1 + c0) (by omega) (List.range (Builtin.Range.rangeSize 0 32 (1 + c0)).toNat) .no .no
  -- the top
  obtain ⟨a, r, hwr⟩ : ∃ a r, w = a :: r := by
    cases w with
    | nil => exact absurd rfl hw.1
    | cons a r => exact ⟨a, r, rfl⟩
  have hmax : biD .max st3 [iD w] = some (.int (maxI a r), false) := by
    unfold biD iD
    simp only [lsD, Option.bind, intsX_map]
    rw [hwr]
  have htop : ∀ x ∈ w, x ≤ maxI a r := fun x hx => by
    rw [hwr] at hx
    rcases List.mem_cons.mp hx with rfl | hx
    · exact (maxI_ge r x).1
    · exact (maxI_ge r a).2 x hx
  have htl : maxI a r < 7 := maxI_lt r a (w3 a (by rw [hwr]; exact List.mem_cons_self)).2 fun x hx => (w3 x (by rw [hwr]; exact List.mem_cons_of_mem _ hx)).2
  have ht0 : 0 ≤ maxI a r := Int.le_trans (w3 a (by rw [hwr]; exact List.mem_cons_self)).1 (maxI_ge r a).1
  generalize maxI a r = top at hmax htop htl ht0
  have hcnt : ∀ st, mtD .count st (iD w) [.int top] = some (.int (w.count top : Nat), false) := fun st => by
    unfold mtD iD; simp only [lsD, Option.bind, intsX_map]
  have htn60 : tn ≤ 60 := by omega
  have hcl : w.count top ≤ 8 := Nat.le_trans List.count_le_length h8
  have hp0 : 0 < w.length ^ tn := Nat.pow_pos (by omega)
  have hlow := low_run (T := prog) rfl 27 (w.count top ^ tn) (w.length ^ tn) hp0 (Nat.lt_of_lt_of_le (pow_sm h8 htn60) (Nat.pow_le_pow_right (by decide) (by decide))) st4
  have htt : (0 : Int) ≤ top * tn := Int.mul_nonneg ht0 (by omega)
  have hch1 := chance_run 23 hw h8 tn htn60 (hS tn htn60) (top * tn) htt st4
  rw [sums_top htop] at hch1
  have hch2 := chance_run 23 hw h8 tn htn60 (hS tn htn60) (top * tn + 1) (by omega) st4
  rw [sums_over htop, fr_zero hp0] at hch2
  have hmul := mul_ok (show Sm 10 top from Sm.of 10 ht0 (by omega)) (show Sm 10 ((tn : Nat) : Int) from Sm.of 10 (by omega) (by omega)) (by decide) st4
  have ex1 := exact_run (T := prog) rfl 2 26 _ _ (tr_frD (st := st4) (w.count top ^ tn) (w.length ^ tn)).rd
  have ex2 := exact_run (T := prog) rfl 2 26 _ _ (tr_frD (st := st4) 0 1).rd
  have hf1 : frD 0 1 = .tup [.int 0, .int 1] := fr_zero (by decide)
  rw [hf1] at ex2
  have hq : cmpD .eq st4 (.str s) (.str s) = some true := eqD_t (by unfold D.pl; exact sok)
  refine ⟨st4, ?_⟩
  apply run_rt (F := f__law_turned_right) rfl rfl
  refine s_asgT (rs := [⟨iD w, true, st1⟩, ⟨.int mn, false, st2⟩]) (st1 := st2) (esR_cons (r_callP (es_cons (r_var rfl) (es_cons r_int (es_cons r_int es_nil))) e1) (esR_cons (r_callP (es_cons (r_var rfl) (es_cons r_int es_nil)) e2) esR_nil)) rfl (s_frz ?_)
  show Ss.ev _ _ [.fr (.cell k), .fr (iD w), .fr (.int mn), .no, .no, .no, .no, .no, .no] st2 = _
  refine s_asgT (rs := [⟨.str s, false, st2⟩, ⟨.dct (dcL (sums (List.replicate mn w))), true, st2⟩]) (st1 := st2) (esR_cons (r_bi (esB_cons (b_var rfl) esB_nil) (hrep st2)) (esR_cons hfour esR_nil)) rfl ?_
  refine s_for (st1 := st3) (it_rg3 (i := 0) (j := 32) (k := 1 + c0) r_int r_int (r_bin (b_ev rfl r_int) (b_ev rfl (r_callP (es_cons (r_var rfl) (es_cons r_int es_nil)) e3)) (add_ok _ _ _)) hc) hy ?_
  refine s_asgT (rs := [⟨.int top, false, st3⟩, ⟨.int (20 + u0), false, st4⟩]) (st1 := st4) (esR_cons (r_bi (esB_cons (b_var rfl) esB_nil) hmax) (esR_cons (r_bin (b_ev rfl r_int) (b_ev rfl (r_callP (es_cons (r_var rfl) (es_cons r_int es_nil)) e4)) (add_ok _ _ _)) esR_nil)) rfl (s_frz (s_frz ?_))
  rw [htn]
  show Ss.ev _ _ [.fr (.cell k), .fr (iD w), .fr (.int mn), .fr (.str s), Sl.ow (.dct (dcL (sums (List.replicate mn w)))), y5, y6, .fr (.int top), .fr (.int tn)] st4 = _
  refine s_asg (d := frD (w.count top ^ tn) (w.length ^ tn)) (n := false) (st1 := st4) (r_callP (es_cons (r_callP (es_cons (r_mth (b_var rfl) rfl (es_cons (r_var rfl) es_nil) (hcnt st4)) (es_cons (r_var rfl) es_nil)) (power_run 27 _ _ hcl htn60 st4)) (es_cons (r_callP (es_cons (r_bi (esB_cons (b_var rfl) esB_nil) (iD_len w st4)) (es_cons (r_var rfl) es_nil)) (power_run 27 _ _ h8 htn60 st4)) es_nil)) hlow) (s_frz (s_frz (s_frz ?_)))
  show Ss.ev _ _ [.fr (.cell k), .fr (iD w), .fr (.int mn), .fr (.str s), Sl.ow (.dct (dcL (sums (List.replicate mn w)))), y5, .fr (frD (w.count top ^ tn) (w.length ^ tn)), .fr (.int top), .fr (.int tn)] st4 = _
  have hm1 : E.ev P28 (.bin .mul (.var 7) (.var 8)) [.fr (.cell k), .fr (iD w), .fr (.int mn), .fr (.str s), Sl.ow (.dct (dcL (sums (List.replicate mn w)))), y5, .fr (frD (w.count top ^ tn) (w.length ^ tn)), .fr (.int top), .fr (.int tn)] st4 = some ⟨.int (top * tn), false, st4⟩ := r_bin (b_var rfl) (b_var rfl) hmul
  refine s_ret rfl ?_
  refine r_and_t (n := false) (st1 := st4) ?k1 ?k2
  case k1 =>
    refine r_callP (ds := [frD (w.count top ^ tn) (w.length ^ tn), frD (w.count top ^ tn) (w.length ^ tn)]) (st1 := st4) ?_ ex1
    refine es_cons (n := false) (st1 := st4) ?_ (es_cons (r_var rfl) es_nil)
    exact r_callP (es_cons (r_var rfl) (es_cons (r_var rfl) (es_cons hm1 es_nil))) hch1
  refine r_and_t (n := false) (st1 := st4) ?k1 ?k3
  case k1 =>
    refine r_callP (ds := [.tup [.int 0, .int 1], .tup [.int 0, .int 1]]) (st1 := st4) ?_ ex2
    refine es_cons (n := false) (st1 := st4) ?_ (es_cons (r_tup (es_cons r_int (es_cons r_int es_nil)) (show 2 ≤ LIM by decide)) es_nil)
    exact r_callP (es_cons (r_var rfl) (es_cons (r_var rfl) (es_cons (r_bin (b_ev rfl hm1) (b_ev rfl r_int) (add_ok _ _ _)) es_nil))) hch2
  exact r_cmp (b_ev rfl (r_bi (esB_cons (b_var rfl) esB_nil) (hrep st4))) (b_var rfl) hq
abbrev bodyW : Ss := (.cons (.asg 2 (.call "_law_generator" (.cons (.var 0) (.cons (.var 1) .nil))))
  (.frz 2 (.cons (.iff (.or (.not (.call "_law_row_right" (.cons (.var 2) .nil))) (.not (.call "_law_turned_right" (.cons (.var 2) .nil))))
   (.cons (.ret (.bl false))
  .nil)
   .nil)
  .nil)))
theorem law_loop (ns : List Int) : ∀ (l : List Nat) (x1 x2 : Sl) (st : Store), (∀ q ∈ l, q < 100) → ∃ env st', forL (.one 1) (Ss.ev ⟨prog.run 29, prog.glo, prog.whl⟩ bodyW) (l.map fun (q : Nat) => D.int (0 + (q : Nat))) [.fr (.scr ns), x1, x2] st = some ⟨.nx, env, st'⟩
  | [], x1, x2, st, _ => ⟨_, _, rfl⟩
  | q :: l, x1, x2, st, h => by
    have hq := h q List.mem_cons_self
    obtain ⟨c, hc, hG⟩ := gen_run (T := prog) rfl rfl 27 ns (0 + (q : Nat)) (by omega) st
    have g0 : Gk st.length (st ++ [c]) (1000 * (0 + (q : Nat))) := ⟨c, by simp, hG⟩
    obtain ⟨st2, r1, g1⟩ := row_right_run st.length (st ++ [c]) _ g0 (by omega)
    obtain ⟨st3, r2⟩ := turned_right_run st.length st2 _ g1 (by omega)
    obtain ⟨env, st4, hl⟩ := law_loop ns l (.fr (.int (0 + (q : Nat)))) (.fr (.cell st.length)) st3 fun p hp => h p (List.mem_cons_of_mem _ hp)
    refine ⟨env, st4, f_cons (env1 := [.fr (.scr ns), .fr (.int (0 + (q : Nat))), x2]) rfl (s_asg (d := .cell st.length) (n := false) (st1 := st ++ [c]) (r_callP (es_cons (r_var rfl) (es_cons (r_var rfl) es_nil)) hc) (s_frz ?_)) hl⟩
    show Ss.ev _ _ [.fr (.scr ns), .fr (.int (0 + (q : Nat))), .fr (.cell st.length)] (st ++ [c]) = _
    exact s_iff_e (n := false) (st1 := st3) (r_or_f (st1 := st2) (r_not (q := true) (n := false) (r_callP (es_cons (r_var rfl) es_nil) r1)) (r_not (q := true) (n := false) (r_callP (es_cons (r_var rfl) es_nil) r2))) rfl
theorem law_run (ns : List Int) (hl : ns.length ≤ 63) : ∃ m st, prog.run 30 "law" [.scr ns] [] = some ⟨.bl true, m, st⟩ := by
  obtain ⟨env, st', h⟩ := law_loop ns (List.range 4) .no .no [] fun q hq => by have := List.mem_range.mp hq; omega
  refine ⟨false, st', ?_⟩
  apply run_rt (F := f_law) rfl rfl
  refine s_for (ds := rngD 0 4) (st1 := []) (it_rg1 (j := 4) r_int (by decide)) h ?_
  exact s_ret rfl r_bl
end K88

namespace K88
open PySem PySem.Spec PyProof.Rows L2 EV
def topS (i : Nat) : Stmt := PySem.Challenge.pw_lottohouse_k88_whole_sums_of_wheels.main.body.getD i (.Pass ⟨0, 0, 0, 0⟩)
def d_is_whole : He.DefD := ⟨("is_whole", none), "is_whole", "is_whole", defArgs (topS 6), defBody (topS 6), defScope (topS 6), [], []⟩
theorem g_is_whole : DefG prog "is_whole" f_is_whole d_is_whole := ⟨n_is_whole, ["value"], by decide +kernel, rfl, rfl, by decide +kernel, rfl, rfl, rfl, fun _ _ _ _ _ _ us hl => match us, hl with | [_], _ => rfl, fun ns pm h => absurd rfl ((by decide +kernel : ∀ q ∈ prog.kw, q.1 ≠ ("is_whole" : PySem.Str)) _ h)⟩
def d_is_count : He.DefD := ⟨("is_count", none), "is_count", "is_count", defArgs (topS 7), defBody (topS 7), defScope (topS 7), [], []⟩
theorem g_is_count : DefG prog "is_count" f_is_count d_is_count := ⟨n_is_count, ["value"], by decide +kernel, rfl, rfl, by decide +kernel, rfl, rfl, rfl, fun _ _ _ _ _ _ us hl => match us, hl with | [_], _ => rfl, fun ns pm h => absurd rfl ((by decide +kernel : ∀ q ∈ prog.kw, q.1 ≠ ("is_count" : PySem.Str)) _ h)⟩
def d_common_of : He.DefD := ⟨("common_of", none), "common_of", "common_of", defArgs (topS 9), defBody (topS 9), defScope (topS 9), [], []⟩
theorem g_common_of : DefG prog "common_of" f_common_of d_common_of := ⟨n_common_of, ["one", "other"], by decide +kernel, rfl, rfl, by decide +kernel, rfl, rfl, rfl, fun _ _ _ _ _ _ us hl => match us, hl with | [_, _], _ => rfl, fun ns pm h => absurd rfl ((by decide +kernel : ∀ q ∈ prog.kw, q.1 ≠ ("common_of" : PySem.Str)) _ h)⟩
def d_lowest_of : He.DefD := ⟨("lowest_of", none), "lowest_of", "lowest_of", defArgs (topS 10), defBody (topS 10), defScope (topS 10), [], []⟩
theorem g_lowest_of : DefG prog "lowest_of" f_lowest_of d_lowest_of := ⟨n_lowest_of, ["above", "below"], by decide +kernel, rfl, rfl, by decide +kernel, rfl, rfl, rfl, fun _ _ _ _ _ _ us hl => match us, hl with | [_, _], _ => rfl, fun ns pm h => absurd rfl ((by decide +kernel : ∀ q ∈ prog.kw, q.1 ≠ ("lowest_of" : PySem.Str)) _ h)⟩
def d_is_wheel : He.DefD := ⟨("is_wheel", none), "is_wheel", "is_wheel", defArgs (topS 12), defBody (topS 12), defScope (topS 12), [], []⟩
theorem g_is_wheel : DefG prog "is_wheel" f_is_wheel d_is_wheel := ⟨n_is_wheel, ["value"], by decide +kernel, rfl, rfl, by decide +kernel, rfl, rfl, rfl, fun _ _ _ _ _ _ us hl => match us, hl with | [_], _ => rfl, fun ns pm h => absurd rfl ((by decide +kernel : ∀ q ∈ prog.kw, q.1 ≠ ("is_wheel" : PySem.Str)) _ h)⟩
def d_check_wheel : He.DefD := ⟨("check_wheel", none), "check_wheel", "check_wheel", defArgs (topS 13), defBody (topS 13), defScope (topS 13), [], []⟩
theorem g_check_wheel : DefG prog "check_wheel" f_check_wheel d_check_wheel := ⟨n_check_wheel, ["wheel"], by decide +kernel, rfl, rfl, by decide +kernel, rfl, rfl, rfl, fun _ _ _ _ _ _ us hl => match us, hl with | [_], _ => rfl, fun ns pm h => absurd rfl ((by decide +kernel : ∀ q ∈ prog.kw, q.1 ≠ ("check_wheel" : PySem.Str)) _ h)⟩
def d_check_row : He.DefD := ⟨("check_row", none), "check_row", "check_row", defArgs (topS 15), defBody (topS 15), defScope (topS 15), [], []⟩
theorem g_check_row : DefG prog "check_row" f_check_row d_check_row := ⟨n_check_row, ["row"], by decide +kernel, rfl, rfl, by decide +kernel, rfl, rfl, rfl, fun _ _ _ _ _ _ us hl => match us, hl with | [_], _ => rfl, fun ns pm h => absurd rfl ((by decide +kernel : ∀ q ∈ prog.kw, q.1 ≠ ("check_row" : PySem.Str)) _ h)⟩
def d_counts_of_sums : He.DefD := ⟨("counts_of_sums", none), "counts_of_sums", "counts_of_sums", defArgs (topS 16), defBody (topS 16), defScope (topS 16), [], []⟩
theorem g_counts_of_sums : DefG prog "counts_of_sums" f_counts_of_sums d_counts_of_sums := ⟨n_counts_of_sums, ["row"], by decide +kernel, rfl, rfl, by decide +kernel, rfl, rfl, rfl, fun _ _ _ _ _ _ us hl => match us, hl with | [_], _ => rfl, fun ns pm h => absurd rfl ((by decide +kernel : ∀ q ∈ prog.kw, q.1 ≠ ("counts_of_sums" : PySem.Str)) _ h)⟩
def d_table_of : He.DefD := ⟨("table_of", none), "table_of", "table_of", defArgs (topS 17), defBody (topS 17), defScope (topS 17), [], []⟩
theorem g_table_of : DefG prog "table_of" f_table_of d_table_of := ⟨n_table_of, ["row"], by decide +kernel, rfl, rfl, by decide +kernel, rfl, rfl, rfl, fun _ _ _ _ _ _ us hl => match us, hl with | [_], _ => rfl, fun ns pm h => absurd rfl ((by decide +kernel : ∀ q ∈ prog.kw, q.1 ≠ ("table_of" : PySem.Str)) _ h)⟩
def d_sum_table : He.DefD := ⟨("sum_table", none), "sum_table", "sum_table", defArgs (topS 18), defBody (topS 18), defScope (topS 18), [], []⟩
theorem g_sum_table : DefG prog "sum_table" f_sum_table d_sum_table := ⟨n_sum_table, ["row"], by decide +kernel, rfl, rfl, by decide +kernel, rfl, rfl, rfl, fun _ _ _ _ _ _ us hl => match us, hl with | [_], _ => rfl, fun ns pm h kV doc pmv an cdv ct ws hl => by
    have h' := (by decide +kernel : ∀ q ∈ prog.kw, q.1 = ("sum_table" : PySem.Str) → q.2 ∈ ([(["row"], [0])] : List (List PySem.Str × List Nat))) _ h rfl
    simp only [List.mem_cons, List.not_mem_nil, or_false, Prod.mk.injEq] at h'
    rcases h' with ⟨rfl, rfl⟩
    · match ws, hl with | [_], _ => rfl⟩
def d_are_same_sums : He.DefD := ⟨("are_same_sums", none), "are_same_sums", "are_same_sums", defArgs (topS 19), defBody (topS 19), defScope (topS 19), [], []⟩
theorem g_are_same_sums : DefG prog "are_same_sums" f_are_same_sums d_are_same_sums := ⟨n_are_same_sums, ["row", "late"], by decide +kernel, rfl, rfl, by decide +kernel, rfl, rfl, rfl, fun _ _ _ _ _ _ us hl => match us, hl with | [_, _], _ => rfl, fun ns pm h kV doc pmv an cdv ct ws hl => by
    have h' := (by decide +kernel : ∀ q ∈ prog.kw, q.1 = ("are_same_sums" : PySem.Str) → q.2 ∈ ([(["late", "row"], [1, 0])] : List (List PySem.Str × List Nat))) _ h rfl
    simp only [List.mem_cons, List.not_mem_nil, or_false, Prod.mk.injEq] at h'
    rcases h' with ⟨rfl, rfl⟩
    · match ws, hl with | [_, _], _ => rfl⟩
def d_chance_of_sum : He.DefD := ⟨("chance_of_sum", none), "chance_of_sum", "chance_of_sum", defArgs (topS 20), defBody (topS 20), defScope (topS 20), [], []⟩
theorem g_chance_of_sum : DefG prog "chance_of_sum" f_chance_of_sum d_chance_of_sum := ⟨n_chance_of_sum, ["wheel", "many", "total"], by decide +kernel, rfl, rfl, by decide +kernel, rfl, rfl, rfl, fun _ _ _ _ _ _ us hl => match us, hl with | [_, _, _], _ => rfl, fun ns pm h kV doc pmv an cdv ct ws hl => by
    have h' := (by decide +kernel : ∀ q ∈ prog.kw, q.1 = ("chance_of_sum" : PySem.Str) → q.2 ∈ ([(["total", "many", "wheel"], [2, 1, 0])] : List (List PySem.Str × List Nat))) _ h rfl
    simp only [List.mem_cons, List.not_mem_nil, or_false, Prod.mk.injEq] at h'
    rcases h' with ⟨rfl, rfl⟩
    · match ws, hl with | [_, _, _], _ => rfl⟩
def d__law_hash : He.DefD := ⟨("_law_hash", none), "_law_hash", "_law_hash", defArgs (topS 22), defBody (topS 22), defScope (topS 22), [], []⟩
theorem g__law_hash : DefG prog "_law_hash" f__law_hash d__law_hash := ⟨n__law_hash, ["seed", "index"], by decide +kernel, rfl, rfl, by decide +kernel, rfl, rfl, rfl, fun _ _ _ _ _ _ us hl => match us, hl with | [_, _], _ => rfl, fun ns pm h => absurd rfl ((by decide +kernel : ∀ q ∈ prog.kw, q.1 ≠ ("_law_hash" : PySem.Str)) _ h)⟩
def d__law_cell : He.DefD := ⟨("_law_cell", none), "_law_cell", "_law_cell", defArgs (topS 23), defBody (topS 23), defScope (topS 23), [], []⟩
theorem g__law_cell : DefG prog "_law_cell" f__law_cell d__law_cell := ⟨n__law_cell, ["script", "index"], by decide +kernel, rfl, rfl, by decide +kernel, rfl, rfl, rfl, fun _ _ _ _ _ _ us hl => match us, hl with | [_, _], _ => rfl, fun ns pm h => absurd rfl ((by decide +kernel : ∀ q ∈ prog.kw, q.1 ≠ ("_law_cell" : PySem.Str)) _ h)⟩
def d__law_generator : He.DefD := ⟨("_law_generator", none), "_law_generator", "_law_generator", defArgs (topS 24), defBody (topS 24), defScope (topS 24), [], []⟩
theorem g__law_generator : DefG prog "_law_generator" f__law_generator d__law_generator := ⟨n__law_generator, ["script", "index"], by decide +kernel, rfl, rfl, by decide +kernel, rfl, rfl, rfl, fun _ _ _ _ _ _ us hl => match us, hl with | [_, _], _ => rfl, fun ns pm h => absurd rfl ((by decide +kernel : ∀ q ∈ prog.kw, q.1 ≠ ("_law_generator" : PySem.Str)) _ h)⟩
def d__law_random : He.DefD := ⟨("_law_random", none), "_law_random", "_law_random", defArgs (topS 25), defBody (topS 25), defScope (topS 25), [], []⟩
theorem g__law_random : DefG prog "_law_random" f__law_random d__law_random := ⟨n__law_random, ["generator", "bound"], by decide +kernel, rfl, rfl, by decide +kernel, rfl, rfl, rfl, fun _ _ _ _ _ _ us hl => match us, hl with | [_, _], _ => rfl, fun ns pm h => absurd rfl ((by decide +kernel : ∀ q ∈ prog.kw, q.1 ≠ ("_law_random" : PySem.Str)) _ h)⟩
def d__law_pick : He.DefD := ⟨("_law_pick", none), "_law_pick", "_law_pick", defArgs (topS 26), defBody (topS 26), defScope (topS 26), [], []⟩
theorem g__law_pick : DefG prog "_law_pick" f__law_pick d__law_pick := ⟨n__law_pick, ["generator", "things"], by decide +kernel, rfl, rfl, by decide +kernel, rfl, rfl, rfl, fun _ _ _ _ _ _ us hl => match us, hl with | [_, _], _ => rfl, fun ns pm h => absurd rfl ((by decide +kernel : ∀ q ∈ prog.kw, q.1 ≠ ("_law_pick" : PySem.Str)) _ h)⟩
def d__law_drawn_order : He.DefD := ⟨("_law_drawn_order", none), "_law_drawn_order", "_law_drawn_order", defArgs (topS 27), defBody (topS 27), defScope (topS 27), [], []⟩
theorem g__law_drawn_order : DefG prog "_law_drawn_order" f__law_drawn_order d__law_drawn_order := ⟨n__law_drawn_order, ["generator", "things"], by decide +kernel, rfl, rfl, by decide +kernel, rfl, rfl, rfl, fun _ _ _ _ _ _ us hl => match us, hl with | [_, _], _ => rfl, fun ns pm h => absurd rfl ((by decide +kernel : ∀ q ∈ prog.kw, q.1 ≠ ("_law_drawn_order" : PySem.Str)) _ h)⟩
def d__law_marked : He.DefD := ⟨("_law_marked", none), "_law_marked", "_law_marked", defArgs (topS 28), defBody (topS 28), defScope (topS 28), [], []⟩
theorem g__law_marked : DefG prog "_law_marked" f__law_marked d__law_marked := ⟨n__law_marked, ["told"], by decide +kernel, rfl, rfl, by decide +kernel, rfl, rfl, rfl, fun _ _ _ _ _ _ us hl => match us, hl with | [_], _ => rfl, fun ns pm h => absurd rfl ((by decide +kernel : ∀ q ∈ prog.kw, q.1 ≠ ("_law_marked" : PySem.Str)) _ h)⟩
def d__law_exact : He.DefD := ⟨("_law_exact", none), "_law_exact", "_law_exact", defArgs (topS 29), defBody (topS 29), defScope (topS 29), [], []⟩
theorem g__law_exact : DefG prog "_law_exact" f__law_exact d__law_exact := ⟨n__law_exact, ["told", "due"], by decide +kernel, rfl, rfl, by decide +kernel, rfl, rfl, rfl, fun _ _ _ _ _ _ us hl => match us, hl with | [_, _], _ => rfl, fun ns pm h => absurd rfl ((by decide +kernel : ∀ q ∈ prog.kw, q.1 ≠ ("_law_exact" : PySem.Str)) _ h)⟩
def d__law_unlike : He.DefD := ⟨("_law_unlike", none), "_law_unlike", "_law_unlike", defArgs (topS 30), defBody (topS 30), defScope (topS 30), [], []⟩
theorem g__law_unlike : DefG prog "_law_unlike" f__law_unlike d__law_unlike := ⟨n__law_unlike, ["items"], by decide +kernel, rfl, rfl, by decide +kernel, rfl, rfl, rfl, fun _ _ _ _ _ _ us hl => match us, hl with | [_], _ => rfl, fun ns pm h => absurd rfl ((by decide +kernel : ∀ q ∈ prog.kw, q.1 ≠ ("_law_unlike" : PySem.Str)) _ h)⟩
def d__law_low : He.DefD := ⟨("_law_low", none), "_law_low", "_law_low", defArgs (topS 31), defBody (topS 31), defScope (topS 31), [], []⟩
theorem g__law_low : DefG prog "_law_low" f__law_low d__law_low := ⟨n__law_low, ["above", "below"], by decide +kernel, rfl, rfl, by decide +kernel, rfl, rfl, rfl, fun _ _ _ _ _ _ us hl => match us, hl with | [_, _], _ => rfl, fun ns pm h => absurd rfl ((by decide +kernel : ∀ q ∈ prog.kw, q.1 ≠ ("_law_low" : PySem.Str)) _ h)⟩
def d__law_wheel : He.DefD := ⟨("_law_wheel", none), "_law_wheel", "_law_wheel", defArgs (topS 32), defBody (topS 32), defScope (topS 32), [], []⟩
theorem g__law_wheel : DefG prog "_law_wheel" f__law_wheel d__law_wheel := ⟨n__law_wheel, ["generator", "most", "top"], by decide +kernel, rfl, rfl, by decide +kernel, rfl, rfl, rfl, fun _ _ _ _ _ _ us hl => match us, hl with | [_, _, _], _ => rfl, fun ns pm h => absurd rfl ((by decide +kernel : ∀ q ∈ prog.kw, q.1 ≠ ("_law_wheel" : PySem.Str)) _ h)⟩
def d__law_table : He.DefD := ⟨("_law_table", none), "_law_table", "_law_table", defArgs (topS 33), defBody (topS 33), defScope (topS 33), [], []⟩
theorem g__law_table : DefG prog "_law_table" f__law_table d__law_table := ⟨n__law_table, ["row"], by decide +kernel, rfl, rfl, by decide +kernel, rfl, rfl, rfl, fun _ _ _ _ _ _ us hl => match us, hl with | [_], _ => rfl, fun ns pm h => absurd rfl ((by decide +kernel : ∀ q ∈ prog.kw, q.1 ≠ ("_law_table" : PySem.Str)) _ h)⟩
def d__law_row_right : He.DefD := ⟨("_law_row_right", none), "_law_row_right", "_law_row_right", defArgs (topS 34), defBody (topS 34), defScope (topS 34), [], []⟩
theorem g__law_row_right : DefG prog "_law_row_right" f__law_row_right d__law_row_right := ⟨n__law_row_right, ["generator"], by decide +kernel, rfl, rfl, by decide +kernel, rfl, rfl, rfl, fun _ _ _ _ _ _ us hl => match us, hl with | [_], _ => rfl, fun ns pm h => absurd rfl ((by decide +kernel : ∀ q ∈ prog.kw, q.1 ≠ ("_law_row_right" : PySem.Str)) _ h)⟩
def d__law_turned_right : He.DefD := ⟨("_law_turned_right", none), "_law_turned_right", "_law_turned_right", defArgs (topS 35), defBody (topS 35), defScope (topS 35), [], []⟩
theorem g__law_turned_right : DefG prog "_law_turned_right" f__law_turned_right d__law_turned_right := ⟨n__law_turned_right, ["generator"], by decide +kernel, rfl, rfl, by decide +kernel, rfl, rfl, rfl, fun _ _ _ _ _ _ us hl => match us, hl with | [_], _ => rfl, fun ns pm h => absurd rfl ((by decide +kernel : ∀ q ∈ prog.kw, q.1 ≠ ("_law_turned_right" : PySem.Str)) _ h)⟩
def d__law_power : He.DefD := ⟨("_law_power", none), "_law_power", "_law_power", defArgs (topS 36), defBody (topS 36), defScope (topS 36), [], []⟩
theorem g__law_power : DefG prog "_law_power" f__law_power d__law_power := ⟨n__law_power, ["number", "times"], by decide +kernel, rfl, rfl, by decide +kernel, rfl, rfl, rfl, fun _ _ _ _ _ _ us hl => match us, hl with | [_, _], _ => rfl, fun ns pm h => absurd rfl ((by decide +kernel : ∀ q ∈ prog.kw, q.1 ≠ ("_law_power" : PySem.Str)) _ h)⟩
def d_law : He.DefD := ⟨("law", none), "law", "law", defArgs (topS 37), defBody (topS 37), defScope (topS 37), [], []⟩
theorem g_law : DefG prog "law" f_law d_law := ⟨n_law, ["script"], by decide +kernel, rfl, rfl, by decide +kernel, rfl, rfl, rfl, fun _ _ _ _ _ _ us hl => match us, hl with | [_], _ => rfl, fun ns pm h => absurd rfl ((by decide +kernel : ∀ q ∈ prog.kw, q.1 ≠ ("law" : PySem.Str)) _ h)⟩
def defs : List He.DefD := [d_is_whole, d_is_count, d_common_of, d_lowest_of, d_is_wheel, d_check_wheel, d_check_row, d_counts_of_sums, d_table_of, d_sum_table, d_are_same_sums, d_chance_of_sum, d__law_hash, d__law_cell, d__law_generator, d__law_random, d__law_pick, d__law_drawn_order, d__law_marked, d__law_exact, d__law_unlike, d__law_low, d__law_wheel, d__law_table, d__law_row_right, d__law_turned_right, d__law_power, d_law]
def names : List PySem.Str := ["is_whole", "is_count", "common_of", "lowest_of", "is_wheel", "check_wheel", "check_row", "counts_of_sums", "table_of", "sum_table", "are_same_sums", "chance_of_sum", "_law_hash", "_law_cell", "_law_generator", "_law_random", "_law_pick", "_law_drawn_order", "_law_marked", "_law_exact", "_law_unlike", "_law_low", "_law_wheel", "_law_table", "_law_row_right", "_law_turned_right", "_law_power", "law"]
def facts : List He.Fa := names.map He.Fa.glo ++ BN.map He.Fa.free
theorem all : ∀ x f, prog.fn x = some f → He.Fa.glo x ∈ facts ∧ ∃ d ∈ defs, DefG prog x f d := by
  intro x f h
  simp only [prog] at h
  by_cases e : x = "is_whole"
  · subst e; rw [if_pos rfl] at h; cases h; exact ⟨List.mem_append_left _ (List.mem_map_of_mem (by decide +kernel)), d_is_whole, by simp [defs], g_is_whole⟩
  rw [if_neg e] at h; clear e
  by_cases e : x = "is_count"
  · subst e; rw [if_pos rfl] at h; cases h; exact ⟨List.mem_append_left _ (List.mem_map_of_mem (by decide +kernel)), d_is_count, by simp [defs], g_is_count⟩
  rw [if_neg e] at h; clear e
  by_cases e : x = "common_of"
  · subst e; rw [if_pos rfl] at h; cases h; exact ⟨List.mem_append_left _ (List.mem_map_of_mem (by decide +kernel)), d_common_of, by simp [defs], g_common_of⟩
  rw [if_neg e] at h; clear e
  by_cases e : x = "lowest_of"
  · subst e; rw [if_pos rfl] at h; cases h; exact ⟨List.mem_append_left _ (List.mem_map_of_mem (by decide +kernel)), d_lowest_of, by simp [defs], g_lowest_of⟩
  rw [if_neg e] at h; clear e
  by_cases e : x = "is_wheel"
  · subst e; rw [if_pos rfl] at h; cases h; exact ⟨List.mem_append_left _ (List.mem_map_of_mem (by decide +kernel)), d_is_wheel, by simp [defs], g_is_wheel⟩
  rw [if_neg e] at h; clear e
  by_cases e : x = "check_wheel"
  · subst e; rw [if_pos rfl] at h; cases h; exact ⟨List.mem_append_left _ (List.mem_map_of_mem (by decide +kernel)), d_check_wheel, by simp [defs], g_check_wheel⟩
  rw [if_neg e] at h; clear e
  by_cases e : x = "check_row"
  · subst e; rw [if_pos rfl] at h; cases h; exact ⟨List.mem_append_left _ (List.mem_map_of_mem (by decide +kernel)), d_check_row, by simp [defs], g_check_row⟩
  rw [if_neg e] at h; clear e
  by_cases e : x = "counts_of_sums"
  · subst e; rw [if_pos rfl] at h; cases h; exact ⟨List.mem_append_left _ (List.mem_map_of_mem (by decide +kernel)), d_counts_of_sums, by simp [defs], g_counts_of_sums⟩
  rw [if_neg e] at h; clear e
  by_cases e : x = "table_of"
  · subst e; rw [if_pos rfl] at h; cases h; exact ⟨List.mem_append_left _ (List.mem_map_of_mem (by decide +kernel)), d_table_of, by simp [defs], g_table_of⟩
  rw [if_neg e] at h; clear e
  by_cases e : x = "sum_table"
  · subst e; rw [if_pos rfl] at h; cases h; exact ⟨List.mem_append_left _ (List.mem_map_of_mem (by decide +kernel)), d_sum_table, by simp [defs], g_sum_table⟩
  rw [if_neg e] at h; clear e
  by_cases e : x = "are_same_sums"
  · subst e; rw [if_pos rfl] at h; cases h; exact ⟨List.mem_append_left _ (List.mem_map_of_mem (by decide +kernel)), d_are_same_sums, by simp [defs], g_are_same_sums⟩
  rw [if_neg e] at h; clear e
  by_cases e : x = "chance_of_sum"
  · subst e; rw [if_pos rfl] at h; cases h; exact ⟨List.mem_append_left _ (List.mem_map_of_mem (by decide +kernel)), d_chance_of_sum, by simp [defs], g_chance_of_sum⟩
  rw [if_neg e] at h; clear e
  by_cases e : x = "_law_hash"
  · subst e; rw [if_pos rfl] at h; cases h; exact ⟨List.mem_append_left _ (List.mem_map_of_mem (by decide +kernel)), d__law_hash, by simp [defs], g__law_hash⟩
  rw [if_neg e] at h; clear e
  by_cases e : x = "_law_cell"
  · subst e; rw [if_pos rfl] at h; cases h; exact ⟨List.mem_append_left _ (List.mem_map_of_mem (by decide +kernel)), d__law_cell, by simp [defs], g__law_cell⟩
  rw [if_neg e] at h; clear e
  by_cases e : x = "_law_generator"
  · subst e; rw [if_pos rfl] at h; cases h; exact ⟨List.mem_append_left _ (List.mem_map_of_mem (by decide +kernel)), d__law_generator, by simp [defs], g__law_generator⟩
  rw [if_neg e] at h; clear e
  by_cases e : x = "_law_random"
  · subst e; rw [if_pos rfl] at h; cases h; exact ⟨List.mem_append_left _ (List.mem_map_of_mem (by decide +kernel)), d__law_random, by simp [defs], g__law_random⟩
  rw [if_neg e] at h; clear e
  by_cases e : x = "_law_pick"
  · subst e; rw [if_pos rfl] at h; cases h; exact ⟨List.mem_append_left _ (List.mem_map_of_mem (by decide +kernel)), d__law_pick, by simp [defs], g__law_pick⟩
  rw [if_neg e] at h; clear e
  by_cases e : x = "_law_drawn_order"
  · subst e; rw [if_pos rfl] at h; cases h; exact ⟨List.mem_append_left _ (List.mem_map_of_mem (by decide +kernel)), d__law_drawn_order, by simp [defs], g__law_drawn_order⟩
  rw [if_neg e] at h; clear e
  by_cases e : x = "_law_marked"
  · subst e; rw [if_pos rfl] at h; cases h; exact ⟨List.mem_append_left _ (List.mem_map_of_mem (by decide +kernel)), d__law_marked, by simp [defs], g__law_marked⟩
  rw [if_neg e] at h; clear e
  by_cases e : x = "_law_exact"
  · subst e; rw [if_pos rfl] at h; cases h; exact ⟨List.mem_append_left _ (List.mem_map_of_mem (by decide +kernel)), d__law_exact, by simp [defs], g__law_exact⟩
  rw [if_neg e] at h; clear e
  by_cases e : x = "_law_unlike"
  · subst e; rw [if_pos rfl] at h; cases h; exact ⟨List.mem_append_left _ (List.mem_map_of_mem (by decide +kernel)), d__law_unlike, by simp [defs], g__law_unlike⟩
  rw [if_neg e] at h; clear e
  by_cases e : x = "_law_low"
  · subst e; rw [if_pos rfl] at h; cases h; exact ⟨List.mem_append_left _ (List.mem_map_of_mem (by decide +kernel)), d__law_low, by simp [defs], g__law_low⟩
  rw [if_neg e] at h; clear e
  by_cases e : x = "_law_wheel"
  · subst e; rw [if_pos rfl] at h; cases h; exact ⟨List.mem_append_left _ (List.mem_map_of_mem (by decide +kernel)), d__law_wheel, by simp [defs], g__law_wheel⟩
  rw [if_neg e] at h; clear e
  by_cases e : x = "_law_table"
  · subst e; rw [if_pos rfl] at h; cases h; exact ⟨List.mem_append_left _ (List.mem_map_of_mem (by decide +kernel)), d__law_table, by simp [defs], g__law_table⟩
  rw [if_neg e] at h; clear e
  by_cases e : x = "_law_row_right"
  · subst e; rw [if_pos rfl] at h; cases h; exact ⟨List.mem_append_left _ (List.mem_map_of_mem (by decide +kernel)), d__law_row_right, by simp [defs], g__law_row_right⟩
  rw [if_neg e] at h; clear e
  by_cases e : x = "_law_turned_right"
  · subst e; rw [if_pos rfl] at h; cases h; exact ⟨List.mem_append_left _ (List.mem_map_of_mem (by decide +kernel)), d__law_turned_right, by simp [defs], g__law_turned_right⟩
  rw [if_neg e] at h; clear e
  by_cases e : x = "_law_power"
  · subst e; rw [if_pos rfl] at h; cases h; exact ⟨List.mem_append_left _ (List.mem_map_of_mem (by decide +kernel)), d__law_power, by simp [defs], g__law_power⟩
  rw [if_neg e] at h; clear e
  by_cases e : x = "law"
  · subst e; rw [if_pos rfl] at h; cases h; exact ⟨List.mem_append_left _ (List.mem_map_of_mem (by decide +kernel)), d_law, by simp [defs], g_law⟩
  rw [if_neg e] at h; clear e
  cases h
end K88

/-! k88's head: facts by names, the run of the top. -/
namespace K88
open PySem PySem.Spec PyProof.Rows L2 EV
abbrev R : PySem.W.OpenRow := PySem.W.OpenLaw.row PySem.Challenge.rw_lottohouse_k88_whole_sums_of_wheels
abbrev hk : PySem.W.Hook := He.hookD 4 facts defs
def ob (s : PySem.W.SharedT) : He.AlD := He.obsDG 4 facts defs (HandSHeadRun.getT s)
theorem ob_eq (s : PySem.W.SharedT) : ob s = hk.obs s.abs := He.obsDG_eq (HandSHeadRun.getT_eq s)
def others : List PySem.Str := (["LottoError", "InvalidNumber", "InvalidWheel", "InvalidWheels"] : List PySem.Str) ++ names.dropLast
theorem run (w : World) : HandSHeadRun.RunEq R (PySem.W.view R.prog [37]) hk ob 2000 others w := by
  intro os
  kernel_rfl
end K88
open PySem PySem.W PySem.Calls PyProof.Rows
theorem k88_holds_of (hrun : ∀ ns : List Int, ns.length ≤ 63 → ∃ m st, K88.prog.run 30 "law" [.scr ns] [] = some ⟨.bl true, m, st⟩) : PySem.Challenge.rw_lottohouse_k88_whole_sums_of_wheels.Holds := by
  w_on; o_law
  refine HandSHeadRun.head_any (r := OpenLaw.row PySem.Challenge.rw_lottohouse_k88_whole_sums_of_wheels) (q := view (OpenLaw.row PySem.Challenge.rw_lottohouse_k88_whole_sums_of_wheels).prog [37]) (H := K88.hk) (ob := K88.ob) (M := 2000) (loose := K88.others) (d := HandSHeadRun.topDef (OpenLaw.row PySem.Challenge.rw_lottohouse_k88_whole_sums_of_wheels).prog 37) (kwd := []) K88.ob_eq
    (by kernel_rfl) (fun s => by kernel_rfl) K88.run (by kernel_rfl) (by kernel_rfl) (by kernel_rfl) (by rfl) (by first | assumption | decide +kernel) (by decide +kernel) ⟨rfl, rfl, rfl, rfl, rfl, by decide +kernel⟩ ?hw ?hc
  case hw => w_witness2
  case hc =>
    refine EV.walkG (l := PySem.Challenge.rw_lottohouse_k88_whole_sums_of_wheels) (n := 63) (k := 30) (x := "script") rfl (by decide) (by kernel_rfl) ⟨rfl, by decide, by decide⟩ ?F
    intro w mg fa h Y G hmg0
    obtain ⟨K, KX, c⟩ := Y
    have hmg : mg ("law" : PySem.Str) = some (.ref fa) := by
      have e : (HandSHeadRun.topDef (OpenLaw.row PySem.Challenge.rw_lottohouse_k88_whole_sums_of_wheels).prog 37).name = ("law" : PySem.Str) := by kernel_rfl
      rw [← e]
      exact hmg0
    obtain ⟨fd, sp, h1, h2, h3⟩ := EV.law_of (T := K88.prog) (P := PySem.Challenge.pw_lottohouse_k88_whole_sums_of_wheels) (w := w) (n := 29) (most := 63) (d := K88.d_law) (N := K88.n_law) (x := "script") KX G c hmg K88.all (fun _ => rfl) (fun b hb => List.mem_append_right _ (List.mem_map_of_mem hb)) (f := K88.f_law) (by rfl) (by simp [K88.defs]) (by decide +kernel) rfl rfl (by decide +kernel) rfl rfl rfl (fun _ _ _ _ _ _ us hl => match us, hl with | [_], _ => rfl) hrun
    exact ⟨K, fd, sp, KX, h1, h2, h3⟩

theorem PySem.Challenge.cw_lottohouse_k88_whole_sums_of_wheels_holds : PySem.Challenge.rw_lottohouse_k88_whole_sums_of_wheels.Holds := by
  exact k88_holds_of K88.law_run

