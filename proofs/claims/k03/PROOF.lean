import PyProof.Rows.All
import HandS.ForMost
import HandS.ForExc
import HandS.TupAny
import HandS.Slots
import HandS.SlotsOwn
import HandS.Lambda
import HandS.TupLe
import HandS.TupMul
import HandS.Deep
import HandS.IsInst
import HandS.Style
import PyProof.P3In
import HandS.WordsDict
import HandS.Walk
import HandS.Zip
import HandS.CallSlots
import HandS.Defaults
import HandS.Small
import HandS.RaiseMore
import PyProof.ReprRoads
import HandS.ClsMeth
import HandS.ExcInit
import HandS.ExcOwn
import KE.KExcSuper
import KE.KSuper
import HandS.ExcIs
import HandS.ExcField
import HandS.Codes
import PyProof.InstNe
import HandS.Strs
import KE.GoesMore
import KE.GoesEnum
import KE.KLam
import HandS.Words
import HandS.Head0
import HandS.Head1
import HandS.Head2
import HandS.HeadEnd
import HandS.HeadHook1
import HandS.HeadHook2
import HandS.HeadHook3
import HandS.HeadHook4
import HandS.HeadWalk
import KE.KExcInit
import HandS.EndBits
import HandS.EndTab
import PySem.Challenge.RW_pairsettle_k03_tables_made
set_option Elab.async false
set_option linter.all false
set_option maxRecDepth 100000
set_option maxHeartbeats 4000000
/-! Ev1: data, stores, results; what of the abstract heap bears them. -/
namespace Ev
open PySem L2
/-- a value told as data; ref: a mutable object of the store -/
inductive D where
  | non | bl (b : Bool) | int (i : Int) | str (x : Str)
  | tup (xs : List D) | lst (xs : List D) | scr (xs : List D) | dct (ks vs : List D)
  | ins (c : Nat) (fs : List D)
  | exc (c : Nat) (f : D)
  | glb (n : Nat)
  | clo (k : Nat) (env : List (Option D))
  | ref (n : Nat)
instance : Inhabited D := ⟨.non⟩
/-- a mutable object -/
inductive Ob where
  | lst (xs : List D) | dct (ks vs : List D) | ins (c : Nat) (fs : List (Str × D)) | slo (c : Nat) (fs : List (Option D))
abbrev Store := List Ob
abbrev EnvD := List (Option D)
/-- a value, or an object that was just made and that nobody else holds -/
inductive RV where
  | val (d : D) | new (o : Ob)
inductive R (α : Type) where
  | ok (a : α) (S : Store) | ex (x : D) (S : Store) | bad
def R.sat {α : Type} (r : R α) (Q : α → Store → Prop) (E : D → Store → Prop) : Prop :=
  match r with
  | .ok a S => Q a S
  | .ex x S => E x S
  | .bad => False
def R.bind {α β : Type} (r : R α) (f : α → Store → R β) : R β :=
  match r with
  | .ok a S => f a S
  | .ex x S => .ex x S
  | .bad => .bad
theorem R.sat_bind {α β : Type} {r : R α} {f : α → Store → R β} {Q : β → Store → Prop} {E : D → Store → Prop} : (r.bind f).sat Q E ↔ r.sat (fun a S => (f a S).sat Q E) E := by
  cases r <;> exact Iff.rfl
theorem R.sat_imp {α : Type} {r : R α} {Q Q' : α → Store → Prop} {E E' : D → Store → Prop} (h : r.sat Q E) (hq : ∀ a S, Q a S → Q' a S) (he : ∀ x S, E x S → E' x S) : r.sat Q' E' := by
  cases r with
  | ok a S => exact hq a S h
  | ex x S => exact he x S h
  | bad => exact h
def Ob.toD : Ob → D
  | .lst xs => .lst xs
  | .dct ks vs => .dct ks vs
  | .ins c fs => .ins c (fs.map (·.2))
  | .slo c fs => .ins c (fs.map (·.getD .non))
def RV.d : RV → D
  | .val d => d
  | .new o => o.toD
/-! ### the program's places -/
/-- what a walk knows of the written part: class addresses, functions' addresses, the tables of code objects -/
structure Gm where
  K : PySem.W.Frag
  cls : Nat → Addr
  fn : Nat → Addr
  xf : Nat → Str
  T : List (Addr × Str)
/-- the store's objects' addresses, and those of objects that are hidden (in the making) -/
structure Mu where
  st : List Addr
  hd : List Addr
def Mu.add (μ : Mu) (p : Addr) : Mu := ⟨μ.st ++ [p], μ.hd⟩
def Mu.hide (μ : Mu) (p : Addr) : Mu := ⟨μ.st, p :: μ.hd⟩
/-- neither of them -/
def Mu.no (μ : Mu) (a : Addr) : Prop := a ∉ μ.st ∧ a ∉ μ.hd
/-- an object at a that nobody changes: not one of the store's -/
def Still (H : Hp) (μ : Mu) (a : Addr) (o : HO) : Prop := H a = some o ∧ μ.no a
/-- a static tuple of the written part -/
def StaT (K : PySem.W.Frag) (a : Addr) (xs : List V) : Prop :=
  ∃ (o : Obj) (its : Array Value) (n : Nat), K.lookup a = some o ∧ o.cls = .type "tuple" ∧ o.data = .seq its n ∧ its.size ≤ sizeLine ∧ Vals xs its.toList
/-- a key of a dict as a datum -/
def keyD : Key → D
  | .inl i => .int i
  | .inr x => .str x
mutual
inductive Rep (Γ : Gm) (H : Hp) (μ : Mu) : V → D → Prop
  | non : Rep Γ H μ .non .non
  | bl (b : Bool) : Rep Γ H μ (.bl b) (.bl b)
  | int (i : Int) : Rep Γ H μ (.int i) (.int i)
  | str (x : Str) : Rep Γ H μ (.str x) (.str x)
  | tup {a : Addr} {vs : List V} {ds : List D} : (Still H μ a (.tup vs) ∨ StaT Γ.K a vs) → Reps Γ H μ vs ds → Rep Γ H μ (.ref a) (.tup ds)
  | lst {a : Addr} {vs : List V} {ds : List D} : Still H μ a (.lst vs) → Reps Γ H μ vs ds → Rep Γ H μ (.ref a) (.lst ds)
  | scr {a : Addr} {ob : Obj} {vs : List V} {ds : List D} : Still H μ a (.frz ob (.lst vs)) → Reps Γ H μ vs ds → Rep Γ H μ (.ref a) (.scr ds)
  | dct {a : Addr} {kvs : List (Key × V)} {ds : List D} : Still H μ a (.dK kvs) → Reps Γ H μ (kvs.map (·.2)) ds → Rep Γ H μ (.ref a) (.dct (kvs.map fun q => keyD q.1) ds)
  | ins {a dx : Addr} {c : Nat} {vs : List V} {ds : List D} : Still H μ a (SlX.SlO a (Γ.cls c) dx (vs.map some)) → Still H μ dx (.xd []) → Reps Γ H μ vs ds → Rep Γ H μ (.ref a) (.ins c ds)
  | exc {a dx : Addr} {c : Nat} {oe : Obj} {u : HO} {v : V} {d : D} : Still H μ a (.frz oe u) → oe.cls = .ref (Γ.cls c) → oe.dict = some dx → (∃ vs, oe.data = .fields vs) → Still H μ dx (.xd [(Γ.xf c, v)]) → Rep Γ H μ v d → Rep Γ H μ (.ref a) (.exc c d)
  | glb (n : Nat) : Rep Γ H μ (.ref (Γ.fn n)) (.glb n)
  | xdd {a : Addr} : Still H μ a (.xd []) → Rep Γ H μ (.ref a) (.clo 0 [])
  | ref {a : Addr} {n : Nat} : μ.st[n]? = some a → Rep Γ H μ (.ref a) (.ref n)
inductive Reps (Γ : Gm) (H : Hp) (μ : Mu) : List V → List D → Prop
  | nil : Reps Γ H μ [] []
  | cons {v : V} {vs : List V} {d : D} {ds : List D} : Rep Γ H μ v d → Reps Γ H μ vs ds → Reps Γ H μ (v :: vs) (d :: ds)
end
/-- how things go on: nothing but the store's objects is changed, new ones of the store are new -/
structure Ext (Γ : Gm) (μ : Mu) (H : Hp) (μ' : Mu) (H' : Hp) : Prop where
  pre : ∃ r, μ'.st = μ.st ++ r
  hid : μ'.hd = μ.hd
  keep : ∀ b o, H b = some o → b ∉ μ.st → (∀ ps, o ≠ .tbl ps) → H' b = some o
  here : ∀ b o, H b = some o → ∃ o', H' b = some o'
  new : ∀ b ∈ μ'.st, b ∉ μ.st → H b = none
  tabs : LamX.Tabs Γ.T H → LamX.Tabs Γ.T H'
section
variable {Γ : Gm} {H H' H1 H2 : Hp} {μ μ' μ1 μ2 : Mu}
theorem Ext.refl : Ext Γ μ H μ H := ⟨⟨[], by simp⟩, rfl, fun _ _ h _ _ => h, fun _ o h => ⟨o, h⟩, fun b h1 h2 => absurd h1 h2, fun h => h⟩
theorem Ext.trans (a : Ext Γ μ H μ1 H1) (b : Ext Γ μ1 H1 μ2 H2) : Ext Γ μ H μ2 H2 where
  pre := by
    obtain ⟨r, h1⟩ := a.pre
    obtain ⟨q, h2⟩ := b.pre
    exact ⟨r ++ q, by rw [h2, h1]; simp⟩
  hid := b.hid.trans a.hid
  keep := fun c o h hm n => by
    refine b.keep c o (a.keep c o h hm n) (fun z => ?_) n
    have q := a.new c z hm
    rw [h] at q; cases q
  here := fun c o h => by
    obtain ⟨o1, h1⟩ := a.here c o h
    exact b.here c o1 h1
  new := fun c hc hm => by
    by_cases h1 : c ∈ μ1.st
    · exact a.new c h1 hm
    · have q := b.new c hc h1
      cases e : H c with
      | none => rfl
      | some o =>
        obtain ⟨o1, h1⟩ := a.here c o e
        rw [q] at h1; cases h1
  tabs := fun h => b.tabs (a.tabs h)
theorem Ext.nmem (a : Ext Γ μ H μ' H') {b : Addr} {o : HO} (h : H b = some o) (hm : μ.no b) : μ'.no b := by
  refine ⟨fun z => ?_, by rw [a.hid]; exact hm.2⟩
  have q := a.new b z hm.1
  rw [h] at q; cases q
theorem Ext.still (a : Ext Γ μ H μ' H') {b : Addr} {o : HO} (h : Still H μ b o) (n : ∀ ps, o ≠ .tbl ps) : Still H' μ' b o := ⟨a.keep b o h.1 h.2.1 n, a.nmem h.1 h.2⟩
theorem Ext.at (a : Ext Γ μ H μ' H') {n : Nat} {b : Addr} (h : μ.st[n]? = some b) : μ'.st[n]? = some b := by
  obtain ⟨r, e⟩ := a.pre
  have hl : n < μ.st.length := (List.getElem?_eq_some_iff.mp h).1
  rw [e, List.getElem?_append_left hl]; exact h
theorem slO_tbl {a C dx : Addr} {vs : List (Option V)} (ps : Array Value) : SlX.SlO a C dx vs ≠ .tbl ps := fun z => by
  unfold SlX.SlO at z; cases z
mutual
theorem Rep.ext (x : Ext Γ μ H μ' H') : ∀ {v : V} {d : D}, Rep Γ H μ v d → Rep Γ H' μ' v d
  | _, _, .non => .non
  | _, _, .bl b => .bl b
  | _, _, .int i => .int i
  | _, _, .str s => .str s
  | _, _, .tup h r => .tup (h.imp (fun h => x.still h fun ps z => by cases z) id) (Reps.ext x r)
  | _, _, .lst h r => .lst (x.still h fun ps z => by cases z) (Reps.ext x r)
  | _, _, .scr h r => .scr (x.still h fun ps z => by cases z) (Reps.ext x r)
  | _, _, .dct h r => .dct (x.still h fun ps z => by cases z) (Reps.ext x r)
  | _, _, .ins h h2 r => .ins (x.still h slO_tbl) (x.still h2 fun ps z => by cases z) (Reps.ext x r)
  | _, _, .exc h h1 h2 h3 h4 r => .exc (x.still h fun ps z => by cases z) h1 h2 h3 (x.still h4 fun ps z => by cases z) (Rep.ext x r)
  | _, _, .glb n => .glb n
  | _, _, .xdd h => .xdd (x.still h fun ps z => by cases z)
  | _, _, .ref h => .ref (x.at h)
theorem Reps.ext (x : Ext Γ μ H μ' H') : ∀ {vs : List V} {ds : List D}, Reps Γ H μ vs ds → Reps Γ H' μ' vs ds
  | _, _, .nil => .nil
  | _, _, .cons r t => .cons (Rep.ext x r) (Reps.ext x t)
end
theorem Reps.length : ∀ {vs : List V} {ds : List D}, Reps Γ H μ vs ds → vs.length = ds.length
  | _, _, .nil => rfl
  | _, _, .cons _ t => congrArg (· + 1) t.length
theorem Reps.get : ∀ {vs : List V} {ds : List D} {i : Nat} {d : D}, Reps Γ H μ vs ds → ds[i]? = some d → ∃ v, vs[i]? = some v ∧ Rep Γ H μ v d
  | _, _, _, _, .nil, e => by simp at e
  | _, _, 0, _, .cons r _, e => by simp at e; subst e; exact ⟨_, rfl, r⟩
  | _, _, i + 1, d, .cons _ t, e => by
    obtain ⟨u, h1, h2⟩ := t.get (i := i) (d := d) (by simpa using e)
    exact ⟨u, by simpa using h1, h2⟩
theorem Reps.getV : ∀ {vs : List V} {ds : List D} {i : Nat} {v : V}, Reps Γ H μ vs ds → vs[i]? = some v → ∃ d, ds[i]? = some d ∧ Rep Γ H μ v d
  | _, _, _, _, .nil, e => by simp at e
  | _, _, 0, _, .cons r _, e => by simp at e; subst e; exact ⟨_, rfl, r⟩
  | _, _, i + 1, d, .cons _ t, e => by
    obtain ⟨u, h1, h2⟩ := t.getV (i := i) (v := d) (by simpa using e)
    exact ⟨u, by simpa using h1, h2⟩
theorem Reps.append : ∀ {vs ws : List V} {ds es : List D}, Reps Γ H μ vs ds → Reps Γ H μ ws es → Reps Γ H μ (vs ++ ws) (ds ++ es)
  | _, _, _, _, .nil, s => s
  | _, _, _, _, .cons r t, s => .cons r (t.append s)
theorem Reps.set : ∀ {vs : List V} {ds : List D} {v : V} {d : D} (i : Nat), Reps Γ H μ vs ds → Rep Γ H μ v d → Reps Γ H μ (vs.set i v) (ds.set i d)
  | _, _, _, _, _, .nil, _ => .nil
  | _, _, _, _, 0, .cons _ t, s => .cons s t
  | _, _, _, _, i + 1, .cons r t, s => .cons r (t.set i s)
theorem Reps.take : ∀ {vs : List V} {ds : List D} (n : Nat), Reps Γ H μ vs ds → Reps Γ H μ (vs.take n) (ds.take n)
  | _, _, 0, _ => .nil
  | _, _, _ + 1, .nil => .nil
  | _, _, n + 1, .cons r t => .cons r (t.take n)
theorem Reps.drop : ∀ {vs : List V} {ds : List D} (n : Nat), Reps Γ H μ vs ds → Reps Γ H μ (vs.drop n) (ds.drop n)
  | _, _, 0, r => r
  | _, _, _ + 1, .nil => .nil
  | _, _, n + 1, .cons _ t => t.drop n
theorem Reps.eraseIdx : ∀ {vs : List V} {ds : List D} (n : Nat), Reps Γ H μ vs ds → Reps Γ H μ (vs.eraseIdx n) (ds.eraseIdx n)
  | _, _, _, .nil => .nil
  | _, _, 0, .cons _ t => t
  | _, _, n + 1, .cons r t => .cons r (t.eraseIdx n)
theorem Reps.reverse {vs : List V} {ds : List D} (h : Reps Γ H μ vs ds) : Reps Γ H μ vs.reverse ds.reverse := by
  induction h using Reps.rec (motive_1 := fun _ _ _ => True) with
  | nil => exact .nil
  | cons r t _ ih => rw [List.reverse_cons, List.reverse_cons]; exact ih.append (.cons r .nil)
  | _ => trivial
end
/-! ### the store -/
/-- slots, some of them filled -/
def RepO (Γ : Gm) (H : Hp) (μ : Mu) (vs : List (Option V)) (fs : List (Option D)) : Prop := vs.length = fs.length ∧ ∀ (i : Nat) (d : D), fs[i]? = some (some d) → ∃ v, vs[i]? = some (some v) ∧ Rep Γ H μ v d
theorem RepO.map {Γ : Gm} {H H' : Hp} {μ μ' : Mu} {vs : List (Option V)} {fs : List (Option D)} (k : ∀ {v d}, Rep Γ H μ v d → Rep Γ H' μ' v d) (h : RepO Γ H μ vs fs) : RepO Γ H' μ' vs fs := ⟨h.1, fun i d e => by
  obtain ⟨v, h1, h2⟩ := h.2 i d e
  exact ⟨v, h1, k h2⟩⟩
theorem slO_code {a C dx : Addr} {vs : List (Option V)} (q : Str) : SlX.SlO a C dx vs ≠ LamX.CodeO a q := fun z => by
  unfold SlX.SlO LamX.CodeO at z
  have e := HO.ext.inj z
  have hc := congrFun e (⟨Array.replicate (a + 1) { cls := .none, data := .fields #[.none, .str q default] }, default⟩ : Heap)
  have hg : (⟨Array.replicate (a + 1) { cls := .none, data := .fields #[.none, .str q default] }, default⟩ : Heap).get? a = some { cls := .none, data := .fields #[.none, .str q default] } := by
    unfold Heap.get?
    rw [show (Array.replicate (a + 1) ({ cls := .none, data := .fields #[.none, .str q default] } : Obj))[a]? = some { cls := .none, data := .fields #[.none, .str q default] } by simp]
  obtain ⟨sl, h1, _⟩ := (Eq.mpr hc ⟨_, _, _, hg, rfl, rfl⟩ : ∃ sl : Array (Option Value), _)
  rw [hg] at h1
  have h2 := congrArg Obj.cls (Option.some.inj h1)
  cases h2
def ObAt (Γ : Gm) (H : Hp) (μ : Mu) (a : Addr) : Ob → Prop
  | .lst ds => ∃ vs, H a = some (.lst vs) ∧ Reps Γ H μ vs ds
  | .dct ks ds => ∃ kvs : List (Key × V), H a = some (.dK kvs) ∧ ks = kvs.map (fun q => keyD q.1) ∧ Reps Γ H μ (kvs.map (·.2)) ds
  | .ins c fs => ∃ (dx : Addr) (fvs : List (Str × V)), H a = some (.ins (Γ.cls c) dx fvs) ∧ fvs.map (·.1) = fs.map (·.1) ∧ Reps Γ H μ (fvs.map (·.2)) (fs.map (·.2))
  | .slo c fs => ∃ (dx : Addr) (vs : List (Option V)), H a = some (SlX.SlO a (Γ.cls c) dx vs) ∧ Rep Γ H μ (.ref dx) (.clo 0 []) ∧ RepO Γ H μ vs fs
structure Sim (Γ : Gm) (μ : Mu) (H : Hp) (S : Store) : Prop where
  len : μ.st.length = S.length
  nd : μ.st.Nodup
  ats : ∀ (n : Nat) (a : Addr) (ob : Ob), μ.st[n]? = some a → S[n]? = some ob → ObAt Γ H μ a ob
  apart : ∀ b ∈ μ.st, b ∉ μ.hd
  hth : ∀ b ∈ μ.hd, ∃ o, H b = some o
section
variable {Γ : Gm} {H H' H1 H2 : Hp} {μ μ' μ1 μ2 : Mu} {S : Store} {a p : Addr} {ob : Ob}
theorem ObAt.some (x : ObAt Γ H μ a ob) : ∃ o, H a = some o := by
  cases ob with
  | lst ds => obtain ⟨vs, h, _⟩ := x; exact ⟨_, h⟩
  | dct ks ds => obtain ⟨vs, h, _⟩ := x; exact ⟨_, h⟩
  | ins c fs => obtain ⟨dx, vs, h, _⟩ := x; exact ⟨_, h⟩
  | slo c fs => obtain ⟨dx, vs, h, _⟩ := x; exact ⟨_, h⟩
/-- the object itself stands as before -/
theorem ObAt.ext (x : Ext Γ μ H μ' H') (e : ∀ o, H a = Option.some o → H' a = Option.some o) (h : ObAt Γ H μ a ob) : ObAt Γ H' μ' a ob := by
  cases ob with
  | lst ds => obtain ⟨vs, h, r⟩ := h; exact ⟨vs, e _ h, r.ext x⟩
  | dct ks ds => obtain ⟨vs, h, k, r⟩ := h; exact ⟨vs, e _ h, k, r.ext x⟩
  | ins c fs => obtain ⟨dx, vs, h, k, r⟩ := h; exact ⟨dx, vs, e _ h, k, r.ext x⟩
  | slo c fs => obtain ⟨dx, vs, h, k, r⟩ := h; exact ⟨dx, vs, e _ h, k.ext x, r.map fun r => r.ext x⟩
theorem Sim.get (x : Sim Γ μ H S) {n : Nat} (h : S[n]? = Option.some ob) : ∃ a, μ.st[n]? = Option.some a ∧ ObAt Γ H μ a ob := by
  have hl : n < μ.st.length := by rw [x.len]; exact (List.getElem?_eq_some_iff.mp h).1
  exact ⟨μ.st[n], List.getElem?_eq_getElem hl, x.ats n _ ob (List.getElem?_eq_getElem hl) h⟩
theorem Sim.there (x : Sim Γ μ H S) : ∀ b ∈ μ.st, ∃ o, H b = Option.some o := fun b hb => by
  obtain ⟨n, hn, e⟩ := List.getElem_of_mem hb
  have hs : n < S.length := by rw [← x.len]; exact hn
  exact (x.ats n b S[n] (by rw [← e]; exact List.getElem?_eq_getElem hn) (List.getElem?_eq_getElem hs)).some
theorem Sim.nnew (x : Sim Γ μ H S) (hp : H p = none) : μ.no p := by
  refine ⟨fun z => ?_, fun z => ?_⟩
  · obtain ⟨o, h⟩ := x.there p z
    rw [hp] at h; cases h
  · obtain ⟨o, h⟩ := x.hth p z
    rw [hp] at h; cases h
theorem tabs_upd {T : List (Addr × Str)} (hp : H p = none) (o : HO) (h : LamX.Tabs T H) : LamX.Tabs T (upd H p o) := h.ext fun b u e => by
  rw [upd_ne (ne_of_none e hp)]; exact e
theorem hth_upd (x : Sim Γ μ H S) (p : Addr) (o : HO) : ∀ b ∈ μ.hd, ∃ u, upd H p o b = Option.some u := fun b hb => by
  by_cases e : b = p
  · exact ⟨o, by rw [e, upd_same]⟩
  · obtain ⟨u, hu⟩ := x.hth b hb
    exact ⟨u, by rw [upd_ne e]; exact hu⟩
/-- a new object that is not one of the store's -/
theorem Ext.laid (hp : H p = none) (o : HO) : Ext Γ μ H μ (upd H p o) :=
  ⟨⟨[], by simp⟩, rfl, fun b u e _ _ => by rw [upd_ne (ne_of_none e hp)]; exact e, fun b u e => ⟨u, by rw [upd_ne (ne_of_none e hp)]; exact e⟩, fun b h1 h2 => absurd h1 h2, tabs_upd hp o⟩
theorem Sim.laid (x : Sim Γ μ H S) (hp : H p = none) (o : HO) : Sim Γ μ (upd H p o) S :=
  ⟨x.len, x.nd, fun n a ob h1 h2 => (x.ats n a ob h1 h2).ext (Ext.laid hp o) fun u e => by rw [upd_ne (ne_of_none e hp)]; exact e, x.apart, hth_upd x p o⟩
/-- a new object joins the store -/
theorem Ext.alloc (hp : H p = none) (o : HO) : Ext Γ μ H (μ.add p) (upd H p o) :=
  ⟨⟨[p], rfl⟩, rfl, fun b u e _ _ => by rw [upd_ne (ne_of_none e hp)]; exact e, fun b u e => ⟨u, by rw [upd_ne (ne_of_none e hp)]; exact e⟩, fun b h1 h2 => by
    rcases List.mem_append.mp h1 with h | h
    · exact absurd h h2
    · rw [List.mem_singleton.mp h]; exact hp, tabs_upd hp o⟩
theorem Sim.alloc (x : Sim Γ μ H S) (hp : H p = none) (o : HO) (ha : ObAt Γ (upd H p o) (μ.add p) p ob) : Sim Γ (μ.add p) (upd H p o) (S ++ [ob]) := by
  refine ⟨by simp [Mu.add, x.len], ?_, fun n a ob' h1 h2 => ?_, fun b hb => ?_, hth_upd x p o⟩
  · refine List.nodup_append.mpr ⟨x.nd, by simp, fun b hb c hc e => ?_⟩
    rw [List.mem_singleton.mp hc] at e
    exact (x.nnew hp).1 (e ▸ hb)
  · have h1 : (μ.st ++ [p])[n]? = Option.some a := h1
    by_cases hn : n < μ.st.length
    · rw [List.getElem?_append_left hn] at h1
      rw [List.getElem?_append_left (by rw [← x.len]; exact hn)] at h2
      exact (x.ats n a ob' h1 h2).ext (Ext.alloc hp o) fun u e => by rw [upd_ne (ne_of_none e hp)]; exact e
    · rw [List.getElem?_append_right (by omega)] at h1
      rw [List.getElem?_append_right (by rw [← x.len]; omega)] at h2
      have e0 : n - μ.st.length = 0 := by
        have := (List.getElem?_eq_some_iff.mp h1).1
        simp at this; omega
      rw [e0] at h1
      rw [← x.len, e0] at h2
      simp at h1 h2
      subst h1; subst h2
      exact ha
  · rcases List.mem_append.mp hb with h | h
    · exact x.apart b h
    · rw [List.mem_singleton.mp h]; exact (x.nnew hp).2
theorem tabs_write {T : List (Addr × Str)} (ht : ∀ ps, H p ≠ Option.some (.tbl ps)) (hc : ∀ q, H p ≠ Option.some (LamX.CodeO p q)) (o : HO) (h : LamX.Tabs T H) : LamX.Tabs T (upd H p o) := fun q hq => by
  obtain ⟨ps, a1, a2, a3⟩ := h q hq
  refine ⟨ps, by rw [upd_ne (fun z => ht ps (by rw [← z]; exact a1))]; exact a1, a2, fun pos cv hcv => ?_⟩
  obtain ⟨c, e1, e2⟩ := a3 pos cv hcv
  exact ⟨c, e1, by rw [upd_ne (fun z => hc q.2 (by rw [z] at e2; exact e2))]; exact e2⟩
/-- an object of the store is written -/
theorem Ext.write (hm : p ∈ μ.st) (o : HO) (ht : ∀ ps, H p ≠ Option.some (.tbl ps)) (hc : ∀ q, H p ≠ Option.some (LamX.CodeO p q)) : Ext Γ μ H μ (upd H p o) :=
  ⟨⟨[], by simp⟩, rfl, fun b u e hb _ => by rw [upd_ne (fun (z : b = p) => hb (by rw [z]; exact hm))]; exact e, fun b u e => by
    by_cases hb : b = p
    · exact ⟨o, by rw [hb, upd_same]⟩
    · exact ⟨u, by rw [upd_ne hb]; exact e⟩, fun b h1 h2 => absurd h1 h2, tabs_write ht hc o⟩
theorem mut_tbl {H : Hp} {p : Addr} (h : ObAt Γ H μ p ob) : (∃ u, H p = Option.some u) ∧ (∀ ps, H p ≠ Option.some (.tbl ps)) ∧ ∀ q, H p ≠ Option.some (LamX.CodeO p q) := by
  have code : ∀ q, ∃ φ, LamX.CodeO p q = .ext φ := fun q => ⟨_, rfl⟩
  have aux : ∀ {u : HO}, (∀ ps, u ≠ .tbl ps) → (∀ φ, u ≠ .ext φ) → H p = Option.some u → (∃ u, H p = Option.some u) ∧ (∀ ps, H p ≠ Option.some (.tbl ps)) ∧ ∀ q, H p ≠ Option.some (LamX.CodeO p q) := fun {u} n1 n2 e =>
    ⟨⟨u, e⟩, fun ps z => n1 ps (Option.some.inj (e.symm.trans z)), fun q z => by
      obtain ⟨φ, hφ⟩ := code q
      exact n2 φ ((Option.some.inj (e.symm.trans z)).trans hφ)⟩
  cases ob with
  | lst ds => obtain ⟨vs, h, _⟩ := h; exact aux (fun _ z => by cases z) (fun _ z => by cases z) h
  | dct ks ds => obtain ⟨vs, h, _⟩ := h; exact aux (fun _ z => by cases z) (fun _ z => by cases z) h
  | ins c fs => obtain ⟨dx, vs, h, _⟩ := h; exact aux (fun _ z => by cases z) (fun _ z => by cases z) h
  | slo c fs =>
    obtain ⟨dx, vs, h, _⟩ := h
    exact ⟨⟨_, h⟩, fun ps z => slO_tbl ps (Option.some.inj (h.symm.trans z)), fun q z => slO_code q (Option.some.inj (h.symm.trans z))⟩
theorem Sim.write (x : Sim Γ μ H S) {n : Nat} {ob' : Ob} (hn : μ.st[n]? = Option.some p) (hs : S[n]? = Option.some ob) (o : HO) (ha : ObAt Γ (upd H p o) μ p ob') : Ext Γ μ H μ (upd H p o) ∧ Sim Γ μ (upd H p o) (S.set n ob') := by
  obtain ⟨m1, m2, m3⟩ := mut_tbl (x.ats n p ob hn hs)
  have xe : Ext Γ μ H μ (upd H p o) := Ext.write (List.mem_of_getElem? hn) o m2 m3
  refine ⟨xe, by simp [x.len], x.nd, fun k a ob2 h1 h2 => ?_, x.apart, hth_upd x p o⟩
  by_cases hk : k = n
  · subst hk
    rw [hn] at h1; cases h1
    rw [List.getElem?_set_self (List.getElem?_eq_some_iff.mp hs).1] at h2
    cases h2
    exact ha
  · rw [List.getElem?_set_ne (Ne.symm hk)] at h2
    have ne : a ≠ p := fun z => by
      subst z
      obtain ⟨l1, e1⟩ := List.getElem?_eq_some_iff.mp h1
      obtain ⟨l2, e2⟩ := List.getElem?_eq_some_iff.mp hn
      exact hk ((List.getElem_inj x.nd).mp (e1.trans e2.symm))
    exact (x.ats k a ob2 h1 h2).ext xe fun u e => by rw [upd_ne ne]; exact e
end
/-! ### the frame's slots -/
def EnvRep (Γ : Gm) (H : Hp) (μ : Mu) (σ : L2.St) (env : EnvD) : Prop := σ.length = env.length ∧ ∀ (i : Nat) (d : D), env[i]? = some (some d) → ∃ v, σ[i]? = some (some v) ∧ Rep Γ H μ v d
section
variable {Γ : Gm} {H H' : Hp} {μ μ' : Mu} {σ : L2.St} {env : EnvD}
theorem EnvRep.ext (x : Ext Γ μ H μ' H') (h : EnvRep Γ H μ σ env) : EnvRep Γ H' μ' σ env := ⟨h.1, fun i d e => by
  obtain ⟨v, h1, h2⟩ := h.2 i d e
  exact ⟨v, h1, h2.ext x⟩⟩
theorem EnvRep.set {v : V} {d : D} (h : EnvRep Γ H μ σ env) (i : Nat) (r : Rep Γ H μ v d) : EnvRep Γ H μ (σ.set i (some v)) (env.set i (some d)) := ⟨by simp [h.1], fun j e hj => by
  by_cases hi : j = i
  · subst hi
    have hl : j < env.length := by
      have := (List.getElem?_eq_some_iff.mp hj).1
      simpa using this
    rw [List.getElem?_set_self hl] at hj
    cases hj
    exact ⟨v, by rw [List.getElem?_set_self (by rw [h.1]; exact hl)], r⟩
  · rw [List.getElem?_set_ne (Ne.symm hi)] at hj
    obtain ⟨u, h1, h2⟩ := h.2 j e hj
    exact ⟨u, by rw [List.getElem?_set_ne (Ne.symm hi)]; exact h1, h2⟩⟩
theorem EnvRep.drop (h : EnvRep Γ H μ σ env) (i : Nat) : EnvRep Γ H μ (σ.set i none) (env.set i none) := ⟨by simp [h.1], fun j e hj => by
  by_cases hi : j = i
  · subst hi
    have hl : j < env.length := by
      have := (List.getElem?_eq_some_iff.mp hj).1
      simpa using this
    rw [List.getElem?_set_self hl] at hj
    cases hj
  · rw [List.getElem?_set_ne (Ne.symm hi)] at hj
    obtain ⟨u, h1, h2⟩ := h.2 j e hj
    exact ⟨u, by rw [List.getElem?_set_ne (Ne.symm hi)]; exact h1, h2⟩⟩
theorem EnvRep.setOld {x : Option V} (h : EnvRep Γ H μ σ env) (i : Nat) : EnvRep Γ H μ (σ.set i x) (env.set i none) := ⟨by simp [h.1], fun j e hj => by
  by_cases hi : j = i
  · subst hi
    have hl : j < env.length := by
      have := (List.getElem?_eq_some_iff.mp hj).1
      simpa using this
    rw [List.getElem?_set_self hl] at hj
    cases hj
  · rw [List.getElem?_set_ne (Ne.symm hi)] at hj
    obtain ⟨u, h1, h2⟩ := h.2 j e hj
    exact ⟨u, by rw [List.getElem?_set_ne (Ne.symm hi)]; exact h1, h2⟩⟩
end
end Ev
/-! Ev2: readings of an expression by a function of data; names, constants, operators. -/
namespace Ev
open PySem L2
/-- what stands behind an expression that gave r -/
def RVAt (Γ : Gm) (H₀ : Hp) (μ' : Mu) (H' : Hp) (S' : Store) (v : V) : RV → Prop
  | .val d => Sim Γ μ' H' S' ∧ Rep Γ H' μ' v d
  | .new ob => ∃ a, v = .ref a ∧ H₀ a = none ∧ μ'.no a ∧ Sim Γ μ' H' S' ∧ Rep Γ H' μ' (.ref a) ob.toD ∧ Sim Γ (μ'.add a) H' (S' ++ [ob])
theorem RVAt.sim {Γ : Gm} {H₀ : Hp} {μ' : Mu} {H' : Hp} {S' : Store} {v : V} {r : RV} (h : RVAt Γ H₀ μ' H' S' v r) : Sim Γ μ' H' S' ∧ Rep Γ H' μ' v r.d := by
  cases r with
  | val d => exact h
  | new ob => obtain ⟨a, rfl, _, _, h1, h2, _⟩ := h; exact ⟨h1, h2⟩
/-- the exception x as it flies -/
def XAt (Γ : Gm) (H : Hp) (μ : Mu) (cls : Value) (dx : Option Addr) : D → Prop
  | .exc c d => cls = .ref (Γ.cls c) ∧ ∃ a v, dx = some a ∧ Still H μ a (.xd [(Γ.xf c, v)]) ∧ Rep Γ H μ v d
  | _ => False
theorem XAt.ext {Γ : Gm} {H H' : Hp} {μ μ' : Mu} {cls : Value} {dx : Option Addr} {x : D} (e : Ext Γ μ H μ' H') (h : XAt Γ H μ cls dx x) : XAt Γ H' μ' cls dx x := by
  cases x with
  | exc c d =>
    obtain ⟨h1, a, v, h2, h3, h4⟩ := h
    exact ⟨h1, a, v, h2, e.still h3 (fun ps z => by cases z), h4.ext e⟩
  | _ => exact False.elim h
def Post (Γ : Gm) (μ : Mu) (H : Hp) (Q : VK) (r : RV) (S' : Store) : Prop := ∀ v H' μ', Ext Γ μ H μ' H' → RVAt Γ H μ' H' S' v r → Q v H'
def XPost (Γ : Gm) (W : WX) (σ : L2.St) (μ : Mu) (H : Hp) (x : D) (S' : Store) : Prop := ∀ cls dx H' μ', Ext Γ μ H μ' H' → Sim Γ μ' H' S' → XAt Γ H' μ' cls dx x → W cls dx σ H'
abbrev ME := EnvD → Store → R RV
abbrev MT := EnvD → Store → R Bool
abbrev MA := EnvD → Store → R (List D)
/-- the state as data -/
structure At (Γ : Gm) (σ : L2.St) (H : Hp) (env : EnvD) (S : Store) (μ : Mu) : Prop where
  env : EnvRep Γ H μ σ env
  sim : Sim Γ μ H S
  tabs : LamX.Tabs Γ.T H
theorem At.next {Γ : Gm} {σ : L2.St} {H H' : Hp} {env : EnvD} {S S' : Store} {μ μ' : Mu} (a : At Γ σ H env S μ) (x : Ext Γ μ H μ' H') (s : Sim Γ μ' H' S') : At Γ σ H' env S' μ' := ⟨a.env.ext x, s, x.tabs a.tabs⟩
def rdE (Γ : Gm) (W : WX) (f : ME) : TE := fun σ H Q => ∃ env S μ, At Γ σ H env S μ ∧ (f env S).sat (Post Γ μ H Q) (XPost Γ W σ μ H)
def PostT (Γ : Gm) (μ : Mu) (H : Hp) (Q : Bool → Hp → Prop) (b : Bool) (S' : Store) : Prop := ∀ H' μ', Ext Γ μ H μ' H' → Sim Γ μ' H' S' → Q b H'
def rdT (Γ : Gm) (W : WX) (f : MT) : TT := fun σ H Q => ∃ env S μ, At Γ σ H env S μ ∧ (f env S).sat (PostT Γ μ H Q) (XPost Γ W σ μ H)
def PostA (Γ : Gm) (μ : Mu) (H : Hp) (Q : List V → Hp → Prop) (ds : List D) (S' : Store) : Prop := ∀ vs H' μ', Ext Γ μ H μ' H' → Sim Γ μ' H' S' → Reps Γ H' μ' vs ds → Q vs H'
def rdA (Γ : Gm) (W : WX) (f : MA) : TA := fun σ H Q => ∃ env S μ, At Γ σ H env S μ ∧ (f env S).sat (PostA Γ μ H Q) (XPost Γ W σ μ H)
theorem _root_.L2.PE.weak {X : Cx} {e : Expr} {t t' : TE} (h : PE X e t) (w : ∀ σ H Q, t' σ H Q → t σ H Q) : PE X e t' := ⟨fun pins s σ H Q I q => h.run pins s σ H Q I (w σ H Q q)⟩
theorem _root_.L2.PT.weak {X : Cx} {e : Expr} {t t' : TT} (h : PT X e t) (w : ∀ σ H Q, t' σ H Q → t σ H Q) : PT X e t' := ⟨fun pins s σ H Q I q => h.run pins s σ H Q I (w σ H Q q)⟩
theorem _root_.L2.PW.weak {X : Cx} {e : Expr} {t t' : TT} (h : PW X e t) (w : ∀ σ H Q, t' σ H Q → t σ H Q) : PW X e t' := ⟨fun wh pins s σ H Q I q => h.run wh pins s σ H Q I (w σ H Q q)⟩
theorem _root_.L2.PA.weak {X : Cx} {e : List Expr} {t t' : TA} (h : PA X e t) (w : ∀ σ H Q, t' σ H Q → t σ H Q) : PA X e t' := ⟨fun pos pins s σ H Q I q => h.run pos pins s σ H Q I (w σ H Q q)⟩
/-- composition: what follows is asked at the state behind -/
theorem rd_use {Γ : Gm} {W : WX} {f : ME} {σ : L2.St} {H : Hp} {env : EnvD} {S : Store} {μ : Mu} {g : RV → Store → Prop} (a : At Γ σ H env S μ)
    (h : (f env S).sat g (XPost Γ W σ μ H)) {Q : VK} (q : ∀ r S' v H' μ', Ext Γ μ H μ' H' → RVAt Γ H μ' H' S' v r → g r S' → Q v H') : rdE Γ W f σ H Q :=
  ⟨env, S, μ, a, R.sat_imp h (fun r S' hg v H' μ' x rv => q r S' v H' μ' x rv hg) fun _ _ e => e⟩
theorem XPost.ext {Γ : Gm} {W : WX} {σ : L2.St} {H H1 : Hp} {μ μ1 : Mu} {x : D} {S' : Store} (e : Ext Γ μ H μ1 H1) (h : XPost Γ W σ μ H x S') : XPost Γ W σ μ1 H1 x S' := fun cls dx H' μ' e' s q => h cls dx H' μ' (e.trans e') s q
theorem RVAt.ext0 {Γ : Gm} {H₀ H₁ : Hp} {μ' : Mu} {H' : Hp} {S' : Store} {v : V} {r : RV} (e : ∀ a, H₁ a = none → H₀ a = none) (h : RVAt Γ H₁ μ' H' S' v r) : RVAt Γ H₀ μ' H' S' v r := by
  cases r with
  | val d => exact h
  | new ob => obtain ⟨a, h0, h1, h2⟩ := h; exact ⟨a, h0, e a h1, h2⟩
theorem Ext.back {Γ : Gm} {μ μ' : Mu} {H H' : Hp} (x : Ext Γ μ H μ' H') : ∀ a, H' a = none → H a = none := fun a h => by
  cases e : H a with
  | none => rfl
  | some o => obtain ⟨o', h'⟩ := x.here a o e; rw [h] at h'; cases h'
theorem Post.ext {Γ : Gm} {Q : VK} {H H1 : Hp} {μ μ1 : Mu} {r : RV} {S' : Store} (e : Ext Γ μ H μ1 H1) (h : Post Γ μ H Q r S') : Post Γ μ1 H1 Q r S' := fun v H' μ' e' rv => h v H' μ' (e.trans e') (rv.ext0 e.back)
theorem PostT.ext {Γ : Gm} {Q : Bool → Hp → Prop} {H H1 : Hp} {μ μ1 : Mu} {r : Bool} {S' : Store} (e : Ext Γ μ H μ1 H1) (h : PostT Γ μ H Q r S') : PostT Γ μ1 H1 Q r S' := fun H' μ' e' s => h H' μ' (e.trans e') s
theorem PostA.ext {Γ : Gm} {Q : List V → Hp → Prop} {H H1 : Hp} {μ μ1 : Mu} {r : List D} {S' : Store} (e : Ext Γ μ H μ1 H1) (h : PostA Γ μ H Q r S') : PostA Γ μ1 H1 Q r S' := fun v H' μ' e' s => h v H' μ' (e.trans e') s
theorem Post.here {Γ : Gm} {Q : VK} {H : Hp} {μ : Mu} {S : Store} {v : V} {d : D} (s : Sim Γ μ H S) (r : Rep Γ H μ v d) (h : Post Γ μ H Q (.val d) S) : Q v H := h v H μ .refl ⟨s, r⟩
/-- a new tuple, list .. that nobody writes -/
theorem Post.laid {Γ : Gm} {Q : VK} {H : Hp} {μ : Mu} {S : Store} {p : Addr} {o : HO} {d : D} (s : Sim Γ μ H S) (hp : H p = none) (r : Rep Γ (upd H p o) μ (.ref p) d) (h : Post Γ μ H Q (.val d) S) : Q (.ref p) (upd H p o) :=
  h _ _ μ (Ext.laid hp o) ⟨s.laid hp o, r⟩
/-- a new mutable object -/
theorem Post.new {Γ : Gm} {Q : VK} {H : Hp} {μ : Mu} {S : Store} {p : Addr} {o : HO} {ob : Ob} (s : Sim Γ μ H S) (hp : H p = none) (r : Rep Γ (upd H p o) μ (.ref p) ob.toD) (r2 : ObAt Γ (upd H p o) (μ.add p) p ob) (h : Post Γ μ H Q (.new ob) S) : Q (.ref p) (upd H p o) :=
  h _ _ μ (Ext.laid hp o) ⟨p, rfl, hp, s.nnew hp, s.laid hp o, r, s.alloc hp o r2⟩
theorem still_new {H : Hp} {μ : Mu} {p : Addr} {o : HO} (h : μ.no p) : Still (upd H p o) μ p o := ⟨upd_same, h⟩
theorem Post.newL {Γ : Gm} {Q : VK} {H : Hp} {μ : Mu} {S : Store} {p : Addr} {vs : List V} {ds : List D} (s : Sim Γ μ H S) (hp : H p = none) (r : Reps Γ H μ vs ds) (h : Post Γ μ H Q (.new (.lst ds)) S) : Q (.ref p) (upd H p (.lst vs)) :=
  Post.new (ob := .lst ds) s hp (.lst (still_new (s.nnew hp)) (r.ext (Ext.laid hp _))) ⟨vs, upd_same, r.ext (Ext.alloc hp _)⟩ h
theorem Post.newT {Γ : Gm} {Q : VK} {H : Hp} {μ : Mu} {S : Store} {p : Addr} {vs : List V} {ds : List D} (s : Sim Γ μ H S) (hp : H p = none) (r : Reps Γ H μ vs ds) (h : Post Γ μ H Q (.val (.tup ds)) S) : Q (.ref p) (upd H p (.tup vs)) :=
  h.laid s hp (.tup (.inl (still_new (s.nnew hp))) (r.ext (Ext.laid hp _)))
section
variable {Γ : Gm} {X : Cx} {W : WX} {pos : Pos}
/-! ### names, constants -/
def varF (i : Nat) : ME := fun env S => match env[i]? with | some (some d) => .ok (.val d) S | _ => .bad
theorem sd_var {i : Nat} {x : Str} (hN : X.N[i]? = some x) (hv : Vis X.env.scope x) (hd : (x == ("__debug__" : Str)) = false) (hcd : (x == ("__classdict__" : Str)) = false) : PE X (.Name x pos) (rdE Γ W (varF i)) :=
  (pe_var hN hv hd hcd).weak fun σ H Q h => by
    obtain ⟨env, S, μ, a, h⟩ := h
    unfold varF at h
    split at h
    · rename_i d e
      obtain ⟨v, h1, h2⟩ := a.env.2 i d e
      exact ⟨v, h1, h.here a.sim h2⟩
    · exact False.elim h
def conF (d : D) : ME := fun _ S => .ok (.val d) S
theorem sd_con {e : Expr} {v : V} {d : D} (h : PE X e (tC v)) (r : ∀ H μ, Rep Γ H μ v d) : PE X e (rdE Γ W (conF d)) := h.weak fun σ H Q h => by
  obtain ⟨env, S, μ, a, h⟩ := h
  exact Post.here a.sim (r H μ) h
theorem sd_int {i : Int} {j : Nat} : PE X (.Constant (.int i) j pos) (rdE Γ W (conF (.int i))) := sd_con pe_int fun _ _ => .int i
theorem sd_bl {b : Bool} {j : Nat} : PE X (.Constant (.bool b) j pos) (rdE Γ W (conF (.bl b))) := sd_con pe_bl fun _ _ => .bl b
theorem sd_non {j : Nat} : PE X (.Constant .none j pos) (rdE Γ W (conF .non)) := sd_con pe_non fun _ _ => .non
theorem sd_str {x : Str} {j : Nat} : PE X (.Constant (.str x) j pos) (rdE Γ W (conF (.str x))) := sd_con pe_str fun _ _ => .str x
/-! ### two in a row -/
def opF (op : Store → D → D → Option RV) (f g : ME) : ME := fun env S => (f env S).bind fun x S1 => (g env S1).bind fun y S2 => match op S2 x.d y.d with | some r => .ok r S2 | none => .bad
/-- an operator's values: whatever rule of the values gives what op tells -/
def OpD (Γ : Gm) (op : Store → D → D → Option RV) (r : R2) : Prop := ∀ (H : Hp) (μ : Mu) (S : Store) (x y : V) (dx dy : D) (z : RV) (Q : VK), Sim Γ μ H S → Rep Γ H μ x dx → Rep Γ H μ y dy → op S dx dy = some z → Post Γ μ H Q z S → r x y H Q
theorem rd_two {op : Store → D → D → Option RV} {f g : ME} {r : R2} (hr : OpD Γ op r) {σ : L2.St} {H : Hp} {Q : VK} (h : rdE Γ W (opF op f g) σ H Q) : tOp r (rdE Γ W f) (rdE Γ W g) σ H Q := by
  obtain ⟨env, S, μ, a, h⟩ := h
  unfold opF at h
  rw [R.sat_bind] at h
  refine rd_use a (R.sat_imp h (fun r S' q => q) fun x S' q => q) fun r1 S1 v1 H1 μ1 x1 rv1 q1 => ?_
  obtain ⟨s1, p1⟩ := rv1.sim
  rw [R.sat_bind] at q1
  refine rd_use (a.next x1 s1) (R.sat_imp q1 (fun r S' q => q) fun x S' q => q.ext x1) fun r2 S2 v2 H2 μ2 x2 rv2 q2 => ?_
  obtain ⟨s2, p2⟩ := rv2.sim
  split at q2
  · rename_i z e
    exact hr H2 μ2 S2 v1 v2 _ _ z Q s2 (p1.ext x2) p2 e (Post.ext (x1.trans x2) q2)
  · exact False.elim q2
theorem sd_op {op : Operator} {a b : Expr} {f g : ME} {r : R2} {o : Store → D → D → Option RV} (ho : OpR X (binaryOp op) r) (hr : OpD Γ o r) (ha : PE X a (rdE Γ W f)) (hb : PE X b (rdE Γ W g)) : PE X (.BinOp a op b pos) (rdE Γ W (opF o f g)) :=
  (pe_op ho ha hb).weak fun σ H Q h => rd_two hr h
theorem sd_cmp {op : CmpOp} {a b : Expr} {f g : ME} {r : R2} {o : Store → D → D → Option RV} (ho : OpR X (compareOp op) r) (hr : OpD Γ o r) (ha : PE X a (rdE Γ W f)) (hb : PE X b (rdE Γ W g)) (hm : behindInMarks op b = false) : PE X (.Compare a [op] [b] pos) (rdE Γ W (opF o f g)) :=
  (pe_cmpR ho ha hb hm).weak fun σ H Q h => rd_two hr h
def testF (f : ME) : MT := fun env S => (f env S).bind fun x S1 => match x with | .val (.bl b) => .ok b S1 | _ => .bad
theorem rd_test {f : ME} {t : TE} {σ : L2.St} {H : Hp} {Q : Bool → Hp → Prop} (ht : ∀ Q', rdE Γ W f σ H Q' → t σ H Q') (h : rdT Γ W (testF f) σ H Q) : t σ H fun x H' => ∃ k, x = .bl k ∧ Q k H' := by
  obtain ⟨env, S, μ, a, h⟩ := h
  unfold testF at h
  rw [R.sat_bind] at h
  refine ht _ (rd_use a h fun r1 S1 v1 H1 μ1 x1 rv1 q1 => ?_)
  split at q1
  · rename_i b
    obtain ⟨s1, p1⟩ := rv1.sim
    cases p1
    exact ⟨b, rfl, q1 H1 μ1 x1 s1⟩
  · exact False.elim q1
theorem sd_cmpT {op : CmpOp} {a b : Expr} {f g : ME} {r : R2} {o : Store → D → D → Option RV} (ho : OpR X (compareOp op) r) (hr : OpD Γ o r) (ha : PE X a (rdE Γ W f)) (hb : PE X b (rdE Γ W g)) (hm : behindInMarks op b = false) : PT X (.Compare a [op] [b] pos) (rdT Γ W (testF (opF o f g))) :=
  (pt_cmpR ho ha hb hm).weak fun σ H Q h => rd_test (fun Q' h' => rd_two hr h') h
theorem sd_valT {e : Expr} {f : ME} (h : PE X e (rdE Γ W f)) (he : ∀ whole, isTrue e X.env whole = (do let v ← whole; standAt e.pos; holding [v] (truthy v))) : PT X e (rdT Γ W (testF f)) :=
  (pt_val h he).weak fun σ H Q h => rd_test (fun Q' h' => h') h
/-! ### chains -/
def chainF (o1 o2 : Store → D → D → Option RV) (f g k : ME) : ME := fun env S => (f env S).bind fun x S1 => (g env S1).bind fun y S2 => match o1 S2 x.d y.d with
  | some (.val (.bl true)) => (k env S2).bind fun z S3 => match o2 S3 y.d z.d with | some r => .ok r S3 | none => .bad
  | some (.val (.bl false)) => .ok (.val (.bl false)) S2
  | _ => .bad
theorem rd_chain {o1 o2 : Store → D → D → Option RV} {f g k : ME} {r r' : R2} (hr : OpD Γ o1 r) (hr' : OpD Γ o2 r') {σ : L2.St} {H : Hp} {Q : VK} (h : rdE Γ W (chainF o1 o2 f g k) σ H Q) :
    tChain r r' (rdE Γ W f) (rdE Γ W g) (rdE Γ W k) σ H Q := by
  obtain ⟨env, S, μ, a, h⟩ := h
  unfold chainF at h
  rw [R.sat_bind] at h
  refine rd_use a (R.sat_imp h (fun r S' q => q) fun x S' q => q) fun r1 S1 v1 H1 μ1 x1 rv1 q1 => ?_
  obtain ⟨s1, p1⟩ := rv1.sim
  rw [R.sat_bind] at q1
  refine rd_use (a.next x1 s1) (R.sat_imp q1 (fun r S' q => q) fun x S' q => q.ext x1) fun r2 S2 v2 H2 μ2 x2 rv2 q2 => ?_
  obtain ⟨s2, p2⟩ := rv2.sim
  have x12 := x1.trans x2
  split at q2
  · rename_i e
    refine hr H2 μ2 S2 v1 v2 _ _ _ _ s2 (p1.ext x2) p2 e fun v H' μ' x' rv' => ?_
    obtain ⟨s', p'⟩ := rv'
    cases p'
    refine ⟨true, rfl, ?_⟩
    rw [if_pos rfl]
    rw [R.sat_bind] at q2
    have x1' := x12.trans x'
    refine rd_use (a.next x1' s') (R.sat_imp q2 (fun r S' q => q) fun x S' q => q.ext x1') fun r3 S3 v3 H3 μ3 x3 rv3 q3 => ?_
    obtain ⟨s3, p3⟩ := rv3.sim
    split at q3
    · rename_i z e3
      exact hr' H3 μ3 S3 v2 v3 _ _ z Q s3 (p2.ext (x'.trans x3)) p3 e3 (Post.ext (x1'.trans x3) q3)
    · exact False.elim q3
  · rename_i e
    refine hr H2 μ2 S2 v1 v2 _ _ _ _ s2 (p1.ext x2) p2 e fun v H' μ' x' rv' => ?_
    obtain ⟨s', p'⟩ := rv'
    cases p'
    refine ⟨false, rfl, ?_⟩
    rw [if_neg (by decide)]
    exact q2 _ _ _ (x12.trans x') ⟨s', .bl false⟩
  · exact False.elim q2
end
end Ev
/-! Ev3: operators and comparisons of data. -/
namespace Ev
open PySem L2
/-! ### what stands behind a datum -/
def lstOf (S : Store) : D → Option (List D)
  | .lst xs => some xs
  | .ref n => match S[n]? with | some (.lst xs) => some xs | _ => none
  | _ => none
def tupOf : D → Option (List D)
  | .tup xs => some xs
  | _ => none
def scrOf : D → Option (List D)
  | .scr xs => some xs
  | _ => none
/-- the items of a list, of a tuple -/
def seqOf (S : Store) (d : D) : Option (List D) :=
  match d with
  | .tup xs => some xs
  | .scr xs => some xs
  | .lst xs => some xs
  | .ref n => match S[n]? with | some (.lst xs) => some xs | _ => none
  | _ => none
section
variable {Γ : Gm} {H : Hp} {μ : Mu} {S : Store} {v : V} {d : D} {xs : List D}
theorem lstOf_ok (s : Sim Γ μ H S) (r : Rep Γ H μ v d) (h : lstOf S d = some xs) : ∃ a vs, v = .ref a ∧ H a = some (.lst vs) ∧ Reps Γ H μ vs xs := by
  cases r with
  | lst h1 h2 => cases h; exact ⟨_, _, rfl, h1.1, h2⟩
  | ref h1 =>
    simp only [lstOf] at h
    split at h
    · rename_i e2
      cases h
      obtain ⟨vs, h3, h4⟩ := s.ats _ _ _ h1 e2
      exact ⟨_, vs, rfl, h3, h4⟩
    · cases h
  | _ => cases h
theorem Rep.tupA (r : Rep Γ H μ v (.tup xs)) : ∃ a vs, v = .ref a ∧ SqT Γ.K H a vs ∧ Reps Γ H μ vs xs := by
  cases r with
  | tup h1 h2 =>
    rcases h1 with h1 | h1
    · exact ⟨_, _, rfl, .inl (.inl h1.1), h2⟩
    · exact ⟨_, _, rfl, .inr h1, h2⟩
theorem Rep.scrA (r : Rep Γ H μ v (.scr xs)) : ∃ a vs, v = .ref a ∧ SqL Γ.K H a vs ∧ Reps Γ H μ vs xs := by
  cases r with
  | scr h1 h2 => exact ⟨_, _, rfl, .inl (.inr ⟨_, h1.1⟩), h2⟩
theorem seqOf_ok (s : Sim Γ μ H S) (r : Rep Γ H μ v d) (h : seqOf S d = some xs) : ∃ a vs, v = .ref a ∧ (SqL Γ.K H a vs ∨ SqT Γ.K H a vs) ∧ Reps Γ H μ vs xs := by
  cases d with
  | tup ys => cases h; obtain ⟨a, vs, e, h1, h2⟩ := r.tupA; exact ⟨a, vs, e, .inr h1, h2⟩
  | scr ys => cases h; obtain ⟨a, vs, e, h1, h2⟩ := r.scrA; exact ⟨a, vs, e, .inl h1, h2⟩
  | lst ys => obtain ⟨a, vs, e, h1, h2⟩ := lstOf_ok (xs := xs) s r h; exact ⟨a, vs, e, .inl (.of h1), h2⟩
  | ref n => obtain ⟨a, vs, e, h1, h2⟩ := lstOf_ok (xs := xs) s r h; exact ⟨a, vs, e, .inl (.of h1), h2⟩
  | _ => cases h
theorem Rep.intA {i : Int} (r : Rep Γ H μ v (.int i)) : v = .int i := by cases r; rfl
theorem Rep.strA {x : Str} (r : Rep Γ H μ v (.str x)) : v = .str x := by cases r; rfl
theorem Rep.blA {b : Bool} (r : Rep Γ H μ v (.bl b)) : v = .bl b := by cases r; rfl
theorem Rep.nonA (r : Rep Γ H μ v .non) : v = .non := by cases r; rfl
/-! ### as the library's data -/
mutual
def py0 : D → Option PyData
  | .non => some .none
  | .bl b => some (.bool b)
  | .int i => some (.int i)
  | .str x => some (.str x)
  | .tup xs => (py0s xs).map .tuple
  | .lst xs => (py0s xs).map .list
  | .scr xs => (py0s xs).map .list
  | _ => none
def py0s : List D → Option (List PyData)
  | [] => some []
  | d :: ds => match py0 d, py0s ds with | some p, some ps => some (p :: ps) | _, _ => none
end
def pyOf (S : Store) : D → Option PyData
  | .ref n => match S[n]? with | some (.lst xs) => (py0s xs).map .list | _ => none
  | d => py0 d
mutual
theorem py0_ok : ∀ {d : D} {v : V} {p : PyData}, Rep Γ H μ v d → py0 d = some p → Dp Γ.K H v p
  | .non, _, _, r, h => by cases r; unfold py0 at h; cases h; exact .non
  | .bl b, _, _, r, h => by cases r; unfold py0 at h; cases h; exact .bl b
  | .int i, _, _, r, h => by cases r; unfold py0 at h; cases h; exact .int i
  | .str x, _, _, r, h => by cases r; unfold py0 at h; cases h; exact .str x
  | .tup xs, _, _, r, h => by
    obtain ⟨a, vs, rfl, h1, h2⟩ := r.tupA
    unfold py0 at h
    obtain ⟨ps, h3, rfl⟩ := Option.map_eq_some_iff.mp h
    exact .tup h1 (py0s_ok h2 h3)
  | .lst xs, _, _, r, h => by
    cases r with
    | lst h1 h2 =>
      unfold py0 at h
      obtain ⟨ps, h3, rfl⟩ := Option.map_eq_some_iff.mp h
      exact .lst (.of h1.1) (py0s_ok h2 h3)
  | .scr xs, _, _, r, h => by
    obtain ⟨a, vs, rfl, h1, h2⟩ := r.scrA
    unfold py0 at h
    obtain ⟨ps, h3, rfl⟩ := Option.map_eq_some_iff.mp h
    exact .lst h1 (py0s_ok h2 h3)
  | .dct _ _, _, _, _, h => by unfold py0 at h; cases h
  | .ins _ _, _, _, _, h => by unfold py0 at h; cases h
  | .exc _ _, _, _, _, h => by unfold py0 at h; cases h
  | .glb _, _, _, _, h => by unfold py0 at h; cases h
  | .clo _ _, _, _, _, h => by unfold py0 at h; cases h
  | .ref _, _, _, _, h => by unfold py0 at h; cases h
theorem py0s_ok : ∀ {ds : List D} {vs : List V} {ps : List PyData}, Reps Γ H μ vs ds → py0s ds = some ps → DpAll Γ.K H vs ps
  | [], _, _, r, h => by cases r; unfold py0s at h; cases h; exact .nil
  | d :: ds, _, _, r, h => by
    cases r with
    | cons r1 r2 =>
      unfold py0s at h
      split at h
      · rename_i p ps e1 e2
        cases h
        exact .cons (py0_ok r1 e1) (py0s_ok r2 e2)
      · cases h
end
theorem pyOf_ok (s : Sim Γ μ H S) {p : PyData} (r : Rep Γ H μ v d) (h : pyOf S d = some p) : Dp Γ.K H v p := by
  cases d with
  | ref n =>
    unfold pyOf at h
    split at h
    · rename_i n' e0
      cases e0
      split at h
      · rename_i xs e
        obtain ⟨ps, h3, rfl⟩ := Option.map_eq_some_iff.mp h
        obtain ⟨a, vs, rfl, h1, h2⟩ := lstOf_ok (xs := xs) s r (by unfold lstOf; simp only [e])
        exact .lst (.of h1) (py0s_ok h2 h3)
      · cases h
    · rename_i n1; exact absurd rfl (n1 n)
  | _ => exact py0_ok r h
end
/-! ### arithmetic -/
def addD (S : Store) (x y : D) : Option RV :=
  match x, y with
  | .int i, .int j => some (.val (.int (i + j)))
  | .str a, .str b => if a.length + b.length ≤ 16777216 then some (.val (.str (a ++ b))) else none
  | .tup xs, .tup ys => if xs.length + ys.length ≤ 16777216 then some (.val (.tup (xs ++ ys))) else none
  | x, y => match lstOf S x, lstOf S y with
    | some xs, some ys => if xs.length + ys.length ≤ 16777216 then some (.new (.lst (xs ++ ys))) else none
    | _, _ => none
def rAddD (K : PySem.W.Frag) : R2 := fun x y H Q => (rI0 fun i j => .int (i + j)) x y H Q ∨ (∃ i j, x = .str i ∧ y = .str j ∧ i.length + j.length ≤ sizeLine ∧ Q (.str (i ++ j)) H) ∨ rCat x y H Q ∨ rCatA K x y H Q
theorem op_addD {X : Cx} : OpR X (binaryOp .Add) (rAddD X.K) := op_add.or (op_add_str.or (op_cat.or op_catA))
theorem add_ok {Γ : Gm} : OpD Γ addD (rAddD Γ.K) := by
  intro H μ S x y dx dy z Q s rx ry h q
  unfold addD at h
  split at h
  · rename_i i j
    cases h
    cases rx; cases ry
    exact .inl ⟨i, j, rfl, rfl, q.here s (.int _)⟩
  · rename_i a b
    split at h
    · rename_i hl
      cases h
      cases rx; cases ry
      exact .inr (.inl ⟨a, b, rfl, rfl, by rw [sizeLine_eq]; exact hl, q.here s (.str _)⟩)
    · cases h
  · rename_i xs ys
    split at h
    · rename_i hl
      cases h
      obtain ⟨a, vs, rfl, h1, h2⟩ := rx.tupA
      obtain ⟨b, ws, rfl, h3, h4⟩ := ry.tupA
      have l1 := h2.length
      have l2 := h4.length
      refine .inr (.inr (.inr ⟨a, b, vs, ws, rfl, rfl, h1, h3, by rw [sizeLine_eq]; omega, fun e => ?_, fun _ e => ?_, fun _ _ p hp => ?_⟩))
      · have : xs = [] := by subst e; exact List.eq_nil_of_length_eq_zero l1.symm
        subst this
        exact q.here s ry
      · have : ys = [] := by subst e; exact List.eq_nil_of_length_eq_zero l2.symm
        subst this
        rw [List.append_nil] at q
        exact q.here s rx
      · exact Post.newT s hp (h2.append h4) q
    · cases h
  · split at h
    · rename_i xs ys e1 e2
      split at h
      · rename_i hl
        cases h
        obtain ⟨a, vs, rfl, h1, h2⟩ := lstOf_ok s rx e1
        obtain ⟨b, ws, rfl, h3, h4⟩ := lstOf_ok s ry e2
        have l1 := h2.length
        have l2 := h4.length
        exact .inr (.inr (.inl ⟨a, b, vs, ws, rfl, rfl, h1, h3, by rw [sizeLine_eq]; omega, fun p hp => Post.newL s hp (h2.append h4) q⟩))
      · cases h
    · cases h
def subD (_ : Store) (x y : D) : Option RV :=
  match x, y with
  | .int i, .int j => some (.val (.int (i - j)))
  | _, _ => none
theorem sub_ok {Γ : Gm} : OpD Γ subD (rI0 fun i j => .int (i - j)) := by
  intro H μ S x y dx dy z Q s rx ry h q
  unfold subD at h
  split at h
  · rename_i i j
    cases h
    cases rx; cases ry
    exact ⟨i, j, rfl, rfl, q.here s (.int _)⟩
  · cases h
def smallI (i : Int) : Bool := decide (-(18446744073709551616) < i) && decide (i < 18446744073709551616)
theorem smallI_ok {i : Int} (h : smallI i = true) : -(2 ^ 64) < i ∧ i < 2 ^ 64 := by
  unfold smallI at h
  simp only [Bool.and_eq_true, decide_eq_true_eq] at h
  have e : (2 : Int) ^ 64 = 18446744073709551616 := by decide
  rw [e]; exact h
def repD (n : Nat) (xs : List D) : List D := (List.replicate n xs).flatten
theorem Reps.rep {Γ : Gm} {H : Hp} {μ : Mu} {vs : List V} {ds : List D} (r : Reps Γ H μ vs ds) : ∀ n : Nat, Reps Γ H μ (List.replicate n vs).flatten (List.replicate n ds).flatten
  | 0 => .nil
  | n + 1 => by rw [List.replicate_succ, List.replicate_succ, List.flatten_cons, List.flatten_cons]; exact r.append (r.rep n)
def mulD (S : Store) (x y : D) : Option RV :=
  match x, y with
  | .int i, .int j => if smallI i || smallI j then some (.val (.int (i * j))) else none
  | .tup xs, .int k => if !xs.isEmpty && decide (2 ≤ k) && decide (k ≤ 1000) && decide (xs.length ≤ 1000) then some (.val (.tup (repD k.toNat xs))) else none
  | x, .int k => match lstOf S x with
    | some xs => if decide (-(9223372036854775808) ≤ k) && decide (k < 9223372036854775808) && decide (xs.length * k.toNat ≤ 16777216) then some (.new (.lst (repD k.toNat xs))) else none
    | none => none
  | _, _ => none
def rMulD (K : PySem.W.Frag) : R2 := fun x y H Q => (rI CMul fun i j => .int (i * j)) x y H Q ∨ rRep x y H Q ∨ rRepT K x y H Q
theorem op_mulD {X : Cx} : OpR X (binaryOp .Mult) (rMulD X.K) := op_mul.or (op_rep.or op_repT)
theorem mul_ok {Γ : Gm} : OpD Γ mulD (rMulD Γ.K) := by
  intro H μ S x y dx dy z Q s rx ry h q
  unfold mulD at h
  split at h
  · rename_i i j
    split at h
    · rename_i hl
      cases h
      cases rx; cases ry
      refine .inl ⟨i, j, rfl, rfl, ?_, q.here s (.int _)⟩
      rcases Bool.or_eq_true_iff.mp hl with hl | hl
      · exact .inl (smallI_ok hl)
      · exact .inr (smallI_ok hl)
    · cases h
  · rename_i xs k
    split at h
    · rename_i hl
      cases h
      simp only [Bool.and_eq_true, decide_eq_true_eq, Bool.not_eq_true', List.isEmpty_eq_false_iff] at hl
      obtain ⟨a, vs, rfl, h1, h2⟩ := rx.tupA
      cases ry
      have l1 := h2.length
      refine .inr (.inr ⟨a, k, vs, rfl, rfl, h1, fun e => ?_, hl.1.1.2, hl.1.2, by omega, fun p hp => Post.newT s hp (h2.rep _) q⟩)
      subst e
      exact hl.1.1.1 (List.eq_nil_of_length_eq_zero l1.symm)
    · cases h
  · rename_i k _ _
    split at h
    · rename_i xs e
      split at h
      · rename_i hl
        cases h
        simp only [Bool.and_eq_true, decide_eq_true_eq] at hl
        obtain ⟨a, vs, rfl, h1, h2⟩ := lstOf_ok s rx e
        cases ry
        have l1 := h2.length
        have e63 : (2 : Int) ^ 63 = 9223372036854775808 := by decide
        exact .inr (.inl ⟨a, k, vs, rfl, rfl, h1, by rw [e63]; exact hl.1.1, by rw [e63]; exact hl.1.2, by rw [sizeLine_eq, l1]; exact hl.2, fun p hp => Post.newL s hp (h2.rep _) q⟩)
      · cases h
    · cases h
  · cases h
def modD (_ : Store) (x y : D) : Option RV :=
  match x, y with
  | .int i, .int j => if j = 0 then none else some (.val (.int (i.fmod j)))
  | _, _ => none
theorem mod_ok {Γ : Gm} : OpD Γ modD (rI (fun _ j => j ≠ 0) fun i j => .int (i.fmod j)) := by
  intro H μ S x y dx dy z Q s rx ry h q
  unfold modD at h
  split at h
  · rename_i i j
    split at h
    · cases h
    · rename_i hj
      cases h
      cases rx; cases ry
      exact ⟨i, j, rfl, rfl, hj, q.here s (.int _)⟩
  · cases h
def fdivD (_ : Store) (x y : D) : Option RV :=
  match x, y with
  | .int i, .int j => if j ≠ 0 ∧ j.natAbs < 1073741824 then some (.val (.int (i.fdiv j))) else none
  | _, _ => none
theorem fdiv_ok {Γ : Gm} : OpD Γ fdivD (rI CDivN fun i j => .int (i.fdiv j)) := by
  intro H μ S x y dx dy z Q s rx ry h q
  unfold fdivD at h
  split at h
  · rename_i i j
    split at h
    · rename_i hj
      cases h
      cases rx; cases ry
      exact ⟨i, j, rfl, rfl, hj, q.here s (.int _)⟩
    · cases h
  · cases h
def powD (_ : Store) (x y : D) : Option RV :=
  match x, y with
  | .int i, .int j => if 0 ≤ j ∧ j ≤ 1000000 ∧ i.natAbs < 18446744073709551616 then some (.val (.int (i ^ j.toNat))) else none
  | _, _ => none
theorem pow_ok {Γ : Gm} : OpD Γ powD (rI CPow fun i j => .int (i ^ j.toNat)) := by
  intro H μ S x y dx dy z Q s rx ry h q
  unfold powD at h
  split at h
  · rename_i i j
    split at h
    · rename_i hj
      cases h
      cases rx; cases ry
      refine ⟨i, j, rfl, rfl, ⟨hj.1, hj.2.1, ?_⟩, q.here s (.int _)⟩
      have e : (2 : Nat) ^ 64 = 18446744073709551616 := by decide
      rw [e]; exact hj.2.2
    · cases h
  · cases h
/-! ### comparisons -/
def eqB (S : Store) (x y : D) : Option Bool := match pyOf S x, pyOf S y with
  | some p, some q => if SeqAt.shaped p && SeqAt.shaped q then some (PyData.eqv p q) else none
  | _, _ => none
def eqD (S : Store) (x y : D) : Option RV := (eqB S x y).map fun b => .val (.bl b)
def neD (S : Store) (x y : D) : Option RV := (eqB S x y).map fun b => .val (.bl (!b))
theorem eqB_ok {Γ : Gm} {H : Hp} {μ : Mu} {S : Store} {x y : V} {dx dy : D} {b : Bool} (s : Sim Γ μ H S) (rx : Rep Γ H μ x dx) (ry : Rep Γ H μ y dy) (h : eqB S dx dy = some b) :
    ∃ d e, Dp Γ.K H x d ∧ Dp Γ.K H y e ∧ SeqAt.shaped d = true ∧ SeqAt.shaped e = true ∧ b = PyData.eqv d e := by
  unfold eqB at h
  split at h
  · rename_i p q e1 e2
    split at h
    · rename_i hs
      cases h
      obtain ⟨s1, s2⟩ := Bool.and_eq_true_iff.mp hs
      exact ⟨p, q, pyOf_ok s rx e1, pyOf_ok s ry e2, s1, s2, rfl⟩
    · cases h
  · cases h
theorem eq_ok {Γ : Gm} : OpD Γ eqD (rEqD Γ.K) := by
  intro H μ S x y dx dy z Q s rx ry h q
  obtain ⟨b, hb, rfl⟩ := Option.map_eq_some_iff.mp h
  obtain ⟨d, e, h1, h2, h3, h4, rfl⟩ := eqB_ok s rx ry hb
  exact ⟨d, e, h1, h2, h3, h4, q.here s (.bl _)⟩
theorem ne_ok {Γ : Gm} : OpD Γ neD (rNeD Γ.K) := by
  intro H μ S x y dx dy z Q s rx ry h q
  obtain ⟨b, hb, rfl⟩ := Option.map_eq_some_iff.mp h
  obtain ⟨d, e, h1, h2, h3, h4, rfl⟩ := eqB_ok s rx ry hb
  exact ⟨d, e, h1, h2, h3, h4, q.here s (.bl _)⟩
def isNon : D → Bool
  | .non => true
  | _ => false
def isND (_ : Store) (x y : D) : Option RV := match y with | .non => some (.val (.bl (isNon x))) | _ => none
def notND (_ : Store) (x y : D) : Option RV := match y with | .non => some (.val (.bl (!isNon x))) | _ => none
theorem rep_non {Γ : Gm} {H : Hp} {μ : Mu} {x : V} {d : D} (r : Rep Γ H μ x d) : decide (x = .non) = isNon d := by
  cases r <;> rfl
theorem isN_ok {Γ : Gm} : OpD Γ isND (fun x y H Q => y = .non ∧ Q (.bl (decide (x = .non))) H) := by
  intro H μ S x y dx dy z Q s rx ry h q
  unfold isND at h
  split at h
  · cases h
    cases ry
    refine ⟨rfl, ?_⟩
    rw [rep_non rx]
    exact q.here s (.bl _)
  · cases h
theorem notN_ok {Γ : Gm} : OpD Γ notND (fun x y H Q => y = .non ∧ Q (.bl (!decide (x = .non))) H) := by
  intro H μ S x y dx dy z Q s rx ry h q
  unfold notND at h
  split at h
  · cases h
    cases ry
    refine ⟨rfl, ?_⟩
    rw [rep_non rx]
    exact q.here s (.bl _)
  · cases h
end Ev
/-! Ev4: argument lists, displays, subscripts, slices, tests, dicts. -/
namespace Ev
open PySem L2
/-! ### argument lists -/
def argsF : List ME → MA
  | [] => fun _ S => .ok [] S
  | f :: fs => fun env S => (f env S).bind fun x S1 => (argsF fs env S1).bind fun xs S2 => .ok (x.d :: xs) S2
def notStar : Expr → Bool
  | .Starred _ _ => false
  | _ => true
theorem star_cons {e : Expr} {es : List Expr} {env : Env} (h : notStar e = true) : starEach (e :: es) env = (false, eval e env) :: starEach es env := by
  cases e <;> first | rfl | cases h
theorem star_any : ∀ {es : List Expr} {env : Env} {pos : Pos}, es.all notStar = true → (backTo pos (starEach es env)).any (·.1) = false
  | [], _, _, _ => rfl
  | e :: es, env, pos, h => by
    obtain ⟨h1, h2⟩ := Bool.and_eq_true_iff.mp (show (notStar e && es.all notStar) = true from h)
    rw [star_cons h1]
    exact star_any (es := es) (env := env) (pos := pos) h2
section
variable {Γ : Gm} {X : Cx} {W : WX} {pos : Pos}
theorem sd_nil : PA X [] (rdA Γ W (argsF [])) := pa_nil.weak fun σ H Q h => by
  obtain ⟨env, S, μ, a, h⟩ := h
  exact h _ H μ .refl a.sim .nil
theorem sd_cons {e : Expr} {es : List Expr} {f : ME} {fs : List ME} (hs : notStar e = true) (he : PE X e (rdE Γ W f)) (hr : PA X es (rdA Γ W (argsF fs))) : PA X (e :: es) (rdA Γ W (argsF (f :: fs))) :=
  (pa_cons he hr (star_cons hs)).weak fun σ H Q h => by
    obtain ⟨env, S, μ, a, h⟩ := h
    unfold argsF at h
    rw [R.sat_bind] at h
    refine rd_use a (R.sat_imp h (fun r S' q => q) fun x S' q => q) fun r1 S1 v1 H1 μ1 x1 rv1 q1 => ?_
    obtain ⟨s1, p1⟩ := rv1.sim
    rw [R.sat_bind] at q1
    refine ⟨env, S1, μ1, a.next x1 s1, R.sat_imp q1 (fun ds S2 q2 vs H2 μ2 x2 s2 rs => ?_) fun x S' q => q.ext x1⟩
    exact q2 _ _ _ (x1.trans x2) s2 (.cons (p1.ext x2) rs)
/-- a list of expressions, each by its function -/
inductive Sds (Γ : Gm) (X : Cx) (W : WX) : List Expr → List ME → Prop
  | nil : Sds Γ X W [] []
  | cons {e : Expr} {es : List Expr} {f : ME} {fs : List ME} : notStar e = true → PE X e (rdE Γ W f) → Sds Γ X W es fs → Sds Γ X W (e :: es) (f :: fs)
theorem Sds.pa {es : List Expr} {fs : List ME} (h : Sds Γ X W es fs) : PA X es (rdA Γ W (argsF fs)) := by
  induction h with
  | nil => exact sd_nil
  | cons hs he _ ih => exact sd_cons hs he ih
theorem Sds.ns {es : List Expr} {fs : List ME} (h : Sds Γ X W es fs) : es.all notStar = true := by
  induction h with
  | nil => rfl
  | cons hs he _ ih => rw [List.all_cons, hs, ih]; rfl
/-! ### displays -/
def fitF (k : List D → RV) (m : MA) : ME := fun env S => (m env S).bind fun xs S1 => if xs.length ≤ 16777216 then .ok (k xs) S1 else .bad
def tupF (m : MA) : ME := fitF (fun xs => .val (.tup xs)) m
def lstF (m : MA) : ME := fitF (fun xs => .new (.lst xs)) m
theorem rd_args {m : MA} {f : List D → Store → R RV} {σ : L2.St} {H : Hp} {Q : VK} {k : List V → Hp → Prop} (h : rdE Γ W (fun env S => (m env S).bind f) σ H Q)
    (hk : ∀ vs H' μ' ds S' env, At Γ σ H' env S' μ' → Reps Γ H' μ' vs ds → (f ds S').sat (Post Γ μ' H' Q) (XPost Γ W σ μ' H') → k vs H') : rdA Γ W m σ H k := by
  obtain ⟨env, S, μ, a, h⟩ := h
  rw [R.sat_bind] at h
  refine ⟨env, S, μ, a, R.sat_imp h (fun ds S' q vs H' μ' x s rs => ?_) fun x S' q => q⟩
  exact hk vs H' μ' ds S' env (a.next x s) rs (R.sat_imp q (fun r S2 p => p.ext x) fun e S2 p => p.ext x)
theorem sd_tup {es : List Expr} {m : MA} {k : Nat} (h : PA X es (rdA Γ W m)) : PE X (.Tuple es k pos) (rdE Γ W (tupF m)) :=
  (pe_tup h).weak fun σ H Q h => rd_args h fun vs H' μ' ds S' env a rs q => by
    split at q
    · rename_i hl
      exact ⟨by rw [sizeLine_eq, rs.length]; exact hl, fun p hp => Post.newT a.sim hp rs q⟩
    · exact False.elim q
theorem sd_lst {es : List Expr} {m : MA} (h : PA X es (rdA Γ W m)) : PE X (.List es pos) (rdE Γ W (lstF m)) :=
  (pe_lst h).weak fun σ H Q h => rd_args h fun vs H' μ' ds S' env a rs q => by
    split at q
    · rename_i hl
      exact ⟨by rw [sizeLine_eq, rs.length]; exact hl, fun p hp => Post.newL a.sim hp rs q⟩
    · exact False.elim q
/-! ### dicts with int and text keys -/
def isKey (k : Key) : D → Bool
  | .int i => match k with | .inl j => i == j | .inr _ => false
  | .str x => match k with | .inr y => decide (x = y) | .inl _ => false
  | _ => false
def keyOf : D → Option Key
  | .int i => some (.inl i)
  | .str x => some (.inr x)
  | _ => none
def lookD (k : Key) : List D → List D → Option D
  | kd :: ks, v :: vs => if isKey k kd then some v else lookD k ks vs
  | _, _ => none
/-- in its place, or at the end -/
def putD (k : Key) (y : D) : List D → List D → List D × List D
  | kd :: ks, v :: vs => if isKey k kd then (kd :: ks, y :: vs) else ((kd :: (putD k y ks vs).1), v :: (putD k y ks vs).2)
  | _, _ => ([keyD k], [y])
theorem isKey_keyD (k j : Key) : isKey k (keyD j) = decide (j = k) := by
  cases j with
  | inl i =>
    cases k with
    | inl j =>
      show (i == j) = _
      by_cases h : i = j
      · subst h; simp
      · rw [decide_eq_false (fun z => h (Sum.inl.inj z))]; exact beq_eq_false_iff_ne.mpr h
    | inr y => exact (decide_eq_false (fun z => nomatch z)).symm
  | inr x =>
    cases k with
    | inl j => exact (decide_eq_false (fun z => nomatch z)).symm
    | inr y =>
      show decide (x = y) = _
      by_cases h : x = y
      · subst h; simp
      · rw [decide_eq_false h, decide_eq_false (fun z => h (Sum.inr.inj z))]
theorem keyOf_ok {H : Hp} {μ : Mu} {v : V} {d : D} {k : Key} (r : Rep Γ H μ v d) (h : keyOf d = some k) : v = kV k := by
  cases r <;> cases h <;> rfl
theorem look_ok {H : Hp} {μ : Mu} {k : Key} : ∀ {kvs : List (Key × V)} {ds : List D}, Reps Γ H μ (kvs.map (·.2)) ds →
    (lookD k (kvs.map fun q => keyD q.1) ds = none ∧ valV kvs k = none) ∨ ∃ d v, lookD k (kvs.map fun q => keyD q.1) ds = some d ∧ valV kvs k = some v ∧ Rep Γ H μ v d
  | [], _, r => by cases r; exact .inl ⟨rfl, rfl⟩
  | (j, w) :: kvs, _, r => by
    cases r with
    | cons r1 r2 =>
      rename_i d ds
      by_cases e : j = k
      · refine .inr ⟨d, w, ?_, valV_pos e, r1⟩
        show (if isKey k (keyD j) = true then _ else _) = _
        rw [isKey_keyD, if_pos (decide_eq_true e)]
      · have e1 : lookD k (((j, w) :: kvs).map fun q => keyD q.1) (d :: ds) = lookD k (kvs.map fun q => keyD q.1) ds := by
          show (if isKey k (keyD j) = true then _ else _) = _
          rw [isKey_keyD, if_neg (by rw [decide_eq_false e]; decide)]
        rw [e1, valV_neg (show ¬ (j, w).1 = k from e)]
        exact look_ok r2
def putL (k : Key) (y : V) : List (Key × V) → List (Key × V)
  | [] => [(k, y)]
  | (j, v) :: r => if j = k then (j, y) :: r else (j, v) :: putL k y r
end
def dctOf (S : Store) : D → Option (List D × List D)
  | .dct ks vs => some (ks, vs)
  | .ref n => match S[n]? with | some (.dct ks vs) => some (ks, vs) | _ => none
  | _ => none
theorem dctOf_ok {Γ : Gm} {H : Hp} {μ : Mu} {S : Store} {v : V} {d : D} {ks vs : List D} (s : Sim Γ μ H S) (r : Rep Γ H μ v d) (h : dctOf S d = some (ks, vs)) :
    ∃ a kvs, v = .ref a ∧ H a = some (.dK kvs) ∧ ks = kvs.map (fun q => keyD q.1) ∧ Reps Γ H μ (kvs.map (·.2)) vs := by
  cases r with
  | dct h1 h2 => cases h; exact ⟨_, _, rfl, h1.1, rfl, h2⟩
  | ref h1 =>
    simp only [dctOf] at h
    split at h
    · rename_i e2
      cases h
      obtain ⟨kvs, h3, h4, h5⟩ := s.ats _ _ _ h1 e2
      exact ⟨_, kvs, rfl, h3, h4, h5⟩
    · cases h
  | _ => cases h
/-! ### subscripts -/
def idxD (S : Store) (x y : D) : Option RV :=
  match y with
  | .int i => match x with
    | .str z => if z.length ≤ 16777216 then (atI z.cps.toList i).map fun c => .val (.str ⟨#[c]⟩) else none
    | x => match seqOf S x with
      | some xs => (atI xs i).map .val
      | none => match dctOf S x with
        | some (ks, vs) => (lookD (.inl i) ks vs).map .val
        | none => none
  | .str k => match dctOf S x with
    | some (ks, vs) => (lookD (.inr k) ks vs).map .val
    | none => none
  | _ => none
def rIdx (K : PySem.W.Frag) : R2 := fun x y H Q => rIx K x y H Q ∨ ∃ a v, x = .ref a ∧ DGet H a y (some v) ∧ Q v H
theorem ix_dict {X : Cx} (hu : X.A.units + 1 < cLine) : IxR X (fun x y H Q => ∃ a v, x = .ref a ∧ DGet H a y (some v) ∧ Q v H) := by
  intro value slice pins s σ H x y v u Q I rx ry h hs
  obtain ⟨a, w, rfl, g, q⟩ := h
  cases rx
  exact PyProof.Rows.tail_any (dict_typeIs I g) PySem.F.slot_dict_getitem.lookup (d_getItem hu I g ry fun w' s3 I3 rw' => ⟨w, H, I3, rw', q⟩) hs
theorem ix_idx {X : Cx} (hu : X.A.units + 1 < cLine) : IxR X (rIdx X.K) := ix_seq.or (ix_dict hu)
theorem atI_reps {Γ : Gm} {H : Hp} {μ : Mu} {vs : List V} {ds : List D} {i : Int} {d : D} (r : Reps Γ H μ vs ds) (h : atI ds i = some d) : ∃ v, atI vs i = some v ∧ Rep Γ H μ v d := by
  unfold atI at h ⊢
  rw [r.length]
  cases e : ixN ds.length i with
  | none => rw [e] at h; cases h
  | some j =>
    rw [e] at h
    exact r.get h
theorem idx_ok {Γ : Gm} : OpD Γ idxD (rIdx Γ.K) := by
  intro H μ S x y dx dy z Q s rx ry h q
  have dict : ∀ {ks vs : List D} {k : Key}, dctOf S dx = some (ks, vs) → y = kV k → (lookD k ks vs).map RV.val = some z → rIdx Γ.K x y H Q := fun {ks vs k} e ey hl => by
    obtain ⟨d, hd, rfl⟩ := Option.map_eq_some_iff.mp hl
    obtain ⟨a, kvs, rfl, h1, rfl, h3⟩ := dctOf_ok s rx e
    subst ey
    rcases look_ok (k := k) h3 with ⟨h4, _⟩ | ⟨d', v, h4, h5, h6⟩
    · rw [h4] at hd; cases hd
    · rw [h4] at hd; cases hd
      exact .inr ⟨a, v, rfl, by rw [← h5]; exact .k h1, q.here s h6⟩
  unfold idxD at h
  split at h
  · rename_i i
    cases ry
    split at h
    · rename_i z'
      split at h
      · rename_i hl
        obtain ⟨c, hc, rfl⟩ := Option.map_eq_some_iff.mp h
        cases rx
        exact .inl (.inr (.inr ⟨z', i, c, rfl, rfl, by rw [sizeLine_eq]; exact hl, hc, q.here s (.str _)⟩))
      · cases h
    · split at h
      · rename_i xs e
        obtain ⟨d, hd, rfl⟩ := Option.map_eq_some_iff.mp h
        obtain ⟨a, vs, rfl, h1, h2⟩ := seqOf_ok s rx e
        obtain ⟨v, hv, rv⟩ := atI_reps h2 hd
        rcases h1 with h1 | h1
        · exact .inl (.inl ⟨a, vs, i, v, rfl, rfl, h1, hv, q.here s rv⟩)
        · exact .inl (.inr (.inl ⟨a, vs, i, v, rfl, rfl, h1, hv, q.here s rv⟩))
      · split at h
        · rename_i ks vs e
          exact dict (k := .inl i) e rfl h
        · cases h
  · rename_i k
    cases ry
    split at h
    · rename_i ks vs e
      exact dict (k := .inr k) e rfl h
    · cases h
  · cases h
section
variable {Γ : Gm} {X : Cx} {W : WX} {pos : Pos}
def plainIx : Expr → Bool
  | .Slice _ _ _ _ => false
  | .Tuple _ _ _ => false
  | .Starred _ _ => false
  | _ => true
theorem plainIx_ok {b : Expr} (h : plainIx b = true) : PlainIx b := by
  intro o i
  cases b <;> first | rfl | cases h
theorem sd_idx {a b : Expr} {f g : ME} (hK : X.K = Γ.K) (hu : X.A.units + 1 < cLine) (ha : PE X a (rdE Γ W f)) (hb : PE X b (rdE Γ W g)) (hs : plainIx b = true) : PE X (.Subscript a b pos) (rdE Γ W (opF idxD f g)) :=
  (pe_ix (ix_idx hu) ha hb (plainIx_ok hs)).weak fun σ H Q h => by
    rw [hK]
    exact rd_two idx_ok h
/-! ### slices -/
def cutD (xs : List D) (lo hi : Option Int) : List D := (xs.drop (HT.sIx xs.length 0 lo)).take (HT.sIx xs.length xs.length hi - HT.sIx xs.length 0 lo)
theorem cut_reps {H : Hp} {μ : Mu} {vs : List V} {ds : List D} (r : Reps Γ H μ vs ds) (lo hi : Option Int) : Reps Γ H μ (cutV vs lo hi) (cutD ds lo hi) := by
  unfold cutV cutD
  rw [r.length]
  exact (r.drop _).take _
def sliD (S : Store) (x : D) (lo hi : Option Int) : Option RV :=
  match x with
  | .str z => if z.length ≤ 16777216 then some (.val (.str (cutS z lo hi))) else none
  | .tup xs => some (.val (.tup (cutD xs lo hi)))
  | .scr xs => some (.new (.lst (cutD xs lo hi)))
  | x => match lstOf S x with
    | some xs => some (.new (.lst (cutD xs lo hi)))
    | none => none
def rSli (K : PySem.W.Frag) : V → Option Int → Option Int → Hp → VK → Prop := fun x lo hi H Q => rSlS x lo hi H Q ∨ rSlA K x lo hi H Q ∨ rSlL K x lo hi H Q
theorem sl_all {X : Cx} : SlR X (rSli X.K) := sl_str.or (sl_tupA.or sl_list)
theorem sli_ok {H : Hp} {μ : Mu} {S : Store} {x : V} {dx : D} {lo hi : Option Int} {z : RV} {Q : VK} (s : Sim Γ μ H S) (rx : Rep Γ H μ x dx) (h : sliD S dx lo hi = some z) (q : Post Γ μ H Q z S) : rSli Γ.K x lo hi H Q := by
  unfold sliD at h
  split at h
  · rename_i y
    split at h
    · rename_i hl
      cases h
      cases rx
      exact .inl ⟨y, rfl, by rw [sizeLine_eq]; exact hl, q.here s (.str _)⟩
    · cases h
  · rename_i xs
    cases h
    obtain ⟨a, vs, rfl, h1, h2⟩ := rx.tupA
    refine .inr (.inl ⟨a, vs, rfl, h1, fun e => ?_, fun _ p hp => Post.newT s hp (cut_reps h2 lo hi) q⟩)
    have e2 : cutD xs lo hi = xs := by
      unfold cutD
      rw [← h2.length, e.1, e.2]
      simp [h2.length]
    rw [e2] at q
    exact q.here s rx
  · rename_i xs
    cases h
    obtain ⟨a, vs, rfl, h1, h2⟩ := rx.scrA
    exact .inr (.inr ⟨a, vs, rfl, h1, fun p hp => Post.newL s hp (cut_reps h2 lo hi) q⟩)
  · split at h
    · rename_i xs e
      cases h
      obtain ⟨a, vs, rfl, h1, h2⟩ := lstOf_ok s rx e
      exact .inr (.inr ⟨a, vs, rfl, .of h1, fun p hp => Post.newL s hp (cut_reps h2 lo hi) q⟩)
    · cases h
/-- a part of a slice: none, or an int -/
abbrev MO := EnvD → Store → R (Option Int)
def partF : Option ME → MO
  | none => fun _ S => .ok none S
  | some f => fun env S => (f env S).bind fun x S1 => match x with | .val (.int i) => .ok (some i) S1 | _ => .bad
def sliF (f : ME) (lo hi : Option ME) : ME := fun env S => (f env S).bind fun x S1 => (partF lo env S1).bind fun l S2 => (partF hi env S2).bind fun u S3 => match sliD S3 x.d l u with | some r => .ok r S3 | none => .bad
def PostO (Γ : Gm) (μ : Mu) (H : Hp) (Q : Option Int → Hp → Prop) (b : Option Int) (S' : Store) : Prop := ∀ H' μ', Ext Γ μ H μ' H' → Sim Γ μ' H' S' → Q b H'
def rdO (Γ : Gm) (W : WX) (f : MO) : TO := fun σ H Q => ∃ env S μ, At Γ σ H env S μ ∧ (f env S).sat (PostO Γ μ H Q) (XPost Γ W σ μ H)
theorem _root_.L2.PO.weak {X : Cx} {e : Option Expr} {t t' : TO} (h : PO X e t) (w : ∀ σ H Q, t' σ H Q → t σ H Q) : PO X e t' := ⟨fun pins s σ H Q I q => h.run pins s σ H Q I (w σ H Q q)⟩
/-- the parts, each by its function -/
inductive Sdo (Γ : Gm) (X : Cx) (W : WX) : Option Expr → Option ME → Prop
  | none : Sdo Γ X W none none
  | some {e : Expr} {f : ME} : PE X e (rdE Γ W f) → Sdo Γ X W (some e) (some f)
theorem Sdo.po {e : Option Expr} {f : Option ME} (h : Sdo Γ X W e f) : PO X e (rdO Γ W (partF f)) := by
  cases h with
  | none =>
    refine po_none.weak fun σ H Q h => ?_
    obtain ⟨env, S, μ, a, h⟩ := h
    exact h H μ .refl a.sim
  | some he =>
    refine (po_some he).weak fun σ H Q h => ?_
    obtain ⟨env, S, μ, a, h⟩ := h
    simp only [partF] at h
    rw [R.sat_bind] at h
    refine rd_use a h fun r1 S1 v1 H1 μ1 x1 rv1 q1 => ?_
    split at q1
    · rename_i i
      obtain ⟨s1, p1⟩ := rv1.sim
      cases p1
      exact ⟨i, rfl, q1 H1 μ1 x1 s1⟩
    · exact False.elim q1
theorem sd_sli {e : Expr} {lo hi : Option Expr} {f : ME} {l u : Option ME} {p2 : Pos} (hK : X.K = Γ.K) (he : PE X e (rdE Γ W f)) (hl : Sdo Γ X W lo l) (hh : Sdo Γ X W hi u) : PE X (.Subscript e (.Slice lo hi none p2) pos) (rdE Γ W (sliF f l u)) :=
  (pe_slice sl_all he hl.po hh.po).weak fun σ H Q h => by
    obtain ⟨env, S, μ, a, h⟩ := h
    unfold sliF at h
    rw [R.sat_bind] at h
    refine rd_use a (R.sat_imp h (fun r S' q => q) fun x S' q => q) fun r1 S1 v1 H1 μ1 x1 rv1 q1 => ?_
    obtain ⟨s1, p1⟩ := rv1.sim
    rw [R.sat_bind] at q1
    have a1 := a.next x1 s1
    refine ⟨env, S1, μ1, a1, R.sat_imp q1 (fun o S2 q2 H2 μ2 x2 s2 => ?_) fun x S' q => q.ext x1⟩
    rw [R.sat_bind] at q2
    have x12 := x1.trans x2
    refine ⟨env, S2, μ2, a1.next x2 s2, R.sat_imp q2 (fun o2 S3 q3 H3 μ3 x3 s3 => ?_) fun x S' q => q.ext x12⟩
    split at q3
    · rename_i z e3
      rw [hK]
      exact sli_ok s3 (p1.ext (x2.trans x3)) e3 (Post.ext (x12.trans x3) q3)
    · exact False.elim q3
/-! ### tests -/
def andTF : List MT → MT
  | [] => fun _ _ => .bad
  | [f] => f
  | f :: fs => fun env S => (f env S).bind fun b S1 => if b then andTF fs env S1 else .ok false S1
def orTF : List MT → MT
  | [] => fun _ _ => .bad
  | [f] => f
  | f :: fs => fun env S => (f env S).bind fun b S1 => if b then .ok true S1 else orTF fs env S1
inductive Sdts (Γ : Gm) (X : Cx) (W : WX) : List Expr → List MT → Prop
  | nil : Sdts Γ X W [] []
  | cons {e : Expr} {es : List Expr} {f : MT} {fs : List MT} : PT X e (rdT Γ W f) → Sdts Γ X W es fs → Sdts Γ X W (e :: es) (f :: fs)
theorem rdT_use {f : MT} {σ : L2.St} {H : Hp} {env : EnvD} {S : Store} {μ : Mu} {g : Bool → Store → Prop} (a : At Γ σ H env S μ)
    (h : (f env S).sat g (XPost Γ W σ μ H)) {Q : Bool → Hp → Prop} (q : ∀ b S' H' μ', Ext Γ μ H μ' H' → Sim Γ μ' H' S' → g b S' → Q b H') : rdT Γ W f σ H Q :=
  ⟨env, S, μ, a, R.sat_imp h (fun b S' hg H' μ' x s => q b S' H' μ' x s hg) fun _ _ e => e⟩
theorem Sdts.and {es : List Expr} {fs : List MT} (h : Sdts Γ X W es fs) (h0 : es ≠ []) : PW X (.BoolOp .And es pos) (rdT Γ W (andTF fs)) := by
  induction h with
  | nil => exact absurd rfl h0
  | cons he hr ih =>
    cases hr with
    | nil => exact pw_and1 he
    | cons he2 hr2 =>
      refine (pw_and he (ih (by simp))).weak fun σ H Q h => ?_
      obtain ⟨env, S, μ, a, h⟩ := h
      simp only [andTF] at h
      rw [R.sat_bind] at h
      refine rdT_use a h fun b S1 H1 μ1 x1 s1 q1 => ?_
      cases b with
      | true =>
        rw [if_pos rfl] at q1 ⊢
        exact ⟨env, S1, μ1, a.next x1 s1, R.sat_imp q1 (fun r S' q => q.ext x1) fun x S' q => q.ext x1⟩
      | false =>
        rw [if_neg (by decide)] at q1 ⊢
        exact q1 H1 μ1 x1 s1
theorem Sdts.or {es : List Expr} {fs : List MT} (h : Sdts Γ X W es fs) (h0 : es ≠ []) : PW X (.BoolOp .Or es pos) (rdT Γ W (orTF fs)) := by
  induction h with
  | nil => exact absurd rfl h0
  | cons he hr ih =>
    cases hr with
    | nil => exact pw_or1 he
    | cons he2 hr2 =>
      refine (pw_or he (ih (by simp))).weak fun σ H Q h => ?_
      obtain ⟨env, S, μ, a, h⟩ := h
      simp only [orTF] at h
      rw [R.sat_bind] at h
      refine rdT_use a h fun b S1 H1 μ1 x1 s1 q1 => ?_
      cases b with
      | true =>
        rw [if_pos rfl] at q1 ⊢
        exact q1 H1 μ1 x1 s1
      | false =>
        rw [if_neg (by decide)] at q1 ⊢
        exact ⟨env, S1, μ1, a.next x1 s1, R.sat_imp q1 (fun r S' q => q.ext x1) fun x S' q => q.ext x1⟩
def notTF (f : MT) : MT := fun env S => (f env S).bind fun b S1 => .ok (!b) S1
theorem sd_notT {e : Expr} {f : MT} (h : PT X e (rdT Γ W f)) : PT X (.UnaryOp .Not e pos) (rdT Γ W (notTF f)) := (pt_not h).weak fun σ H Q h => by
  obtain ⟨env, S, μ, a, h⟩ := h
  unfold notTF at h
  rw [R.sat_bind] at h
  exact rdT_use a h fun b S1 H1 μ1 x1 s1 q1 => q1 H1 μ1 x1 s1
/-! ### and, or, not as values (bools ahead) -/
def andVF : List ME → ME
  | [] => fun _ _ => .bad
  | [f] => f
  | f :: fs => fun env S => (f env S).bind fun x S1 => match x with
    | .val (.bl true) => andVF fs env S1
    | .val (.bl false) => .ok (.val (.bl false)) S1
    | _ => .bad
def orVF : List ME → ME
  | [] => fun _ _ => .bad
  | [f] => f
  | f :: fs => fun env S => (f env S).bind fun x S1 => match x with
    | .val (.bl true) => .ok (.val (.bl true)) S1
    | .val (.bl false) => orVF fs env S1
    | _ => .bad
theorem Sds.and {es : List Expr} {fs : List ME} (h : Sds Γ X W es fs) (h0 : es ≠ []) : PE X (.BoolOp .And es pos) (rdE Γ W (andVF fs)) := by
  induction h with
  | nil => exact absurd rfl h0
  | cons _ he hr ih =>
    cases hr with
    | nil => exact pe_one he
    | cons _ he2 hr2 =>
      refine (pe_and he (ih (by simp))).weak fun σ H Q h => ?_
      obtain ⟨env, S, μ, a, h⟩ := h
      simp only [andVF] at h
      rw [R.sat_bind] at h
      refine rd_use a h fun r1 S1 v1 H1 μ1 x1 rv1 q1 => ?_
      obtain ⟨s1, p1⟩ := rv1.sim
      split at q1
      · cases p1
        refine ⟨true, rfl, ?_⟩
        rw [if_pos rfl]
        exact ⟨env, S1, μ1, a.next x1 s1, R.sat_imp q1 (fun r S' q => q.ext x1) fun x S' q => q.ext x1⟩
      · cases p1
        refine ⟨false, rfl, ?_⟩
        rw [if_neg (by decide)]
        exact q1 _ H1 μ1 x1 ⟨s1, .bl _⟩
      · exact False.elim q1
theorem Sds.or {es : List Expr} {fs : List ME} (h : Sds Γ X W es fs) (h0 : es ≠ []) : PE X (.BoolOp .Or es pos) (rdE Γ W (orVF fs)) := by
  induction h with
  | nil => exact absurd rfl h0
  | cons _ he hr ih =>
    cases hr with
    | nil => exact pe_one he
    | cons _ he2 hr2 =>
      refine (pe_or he (ih (by simp))).weak fun σ H Q h => ?_
      obtain ⟨env, S, μ, a, h⟩ := h
      simp only [orVF] at h
      rw [R.sat_bind] at h
      refine rd_use a h fun r1 S1 v1 H1 μ1 x1 rv1 q1 => ?_
      obtain ⟨s1, p1⟩ := rv1.sim
      split at q1
      · cases p1
        refine ⟨true, rfl, ?_⟩
        rw [if_pos rfl]
        exact q1 _ H1 μ1 x1 ⟨s1, .bl _⟩
      · cases p1
        refine ⟨false, rfl, ?_⟩
        rw [if_neg (by decide)]
        exact ⟨env, S1, μ1, a.next x1 s1, R.sat_imp q1 (fun r S' q => q.ext x1) fun x S' q => q.ext x1⟩
      · exact False.elim q1
def notVF (f : ME) : ME := fun env S => (f env S).bind fun x S1 => match x with | .val (.bl b) => .ok (.val (.bl (!b))) S1 | _ => .bad
theorem sd_notV {e : Expr} {f : ME} (h : PE X e (rdE Γ W f)) : PE X (.UnaryOp .Not e pos) (rdE Γ W (notVF f)) := (pe_not h).weak fun σ H Q h => by
  obtain ⟨env, S, μ, a, h⟩ := h
  unfold notVF at h
  rw [R.sat_bind] at h
  refine rd_use a h fun r1 S1 v1 H1 μ1 x1 rv1 q1 => ?_
  obtain ⟨s1, p1⟩ := rv1.sim
  split at q1
  · rename_i b
    cases p1
    exact ⟨b, rfl, q1 _ H1 μ1 x1 ⟨s1, .bl _⟩⟩
  · exact False.elim q1
def negF (f : ME) : ME := fun env S => (f env S).bind fun x S1 => match x with | .val (.int b) => .ok (.val (.int (-b))) S1 | _ => .bad
theorem sd_neg {e : Expr} {f : ME} (h : PE X e (rdE Γ W f)) : PE X (.UnaryOp .USub e pos) (rdE Γ W (negF f)) := (pe_un un_neg h).weak fun σ H Q h => by
  obtain ⟨env, S, μ, a, h⟩ := h
  unfold negF at h
  rw [R.sat_bind] at h
  refine rd_use a h fun r1 S1 v1 H1 μ1 x1 rv1 q1 => ?_
  obtain ⟨s1, p1⟩ := rv1.sim
  split at q1
  · rename_i b
    cases p1
    exact ⟨b, rfl, q1 _ H1 μ1 x1 ⟨s1, .int _⟩⟩
  · exact False.elim q1
def ifF (c : MT) (f g : ME) : ME := fun env S => (c env S).bind fun b S1 => if b then f env S1 else g env S1
theorem sd_if {c a b : Expr} {t : MT} {f g : ME} (hc : PT X c (rdT Γ W t)) (ha : PE X a (rdE Γ W f)) (hb : PE X b (rdE Γ W g)) : PE X (.IfExp c a b pos) (rdE Γ W (ifF t f g)) := (pe_ifExp hc ha hb).weak fun σ H Q h => by
  obtain ⟨env, S, μ, a, h⟩ := h
  unfold ifF at h
  rw [R.sat_bind] at h
  refine rdT_use a h fun b S1 H1 μ1 x1 s1 q1 => ?_
  cases b with
  | true =>
    rw [if_pos rfl] at q1 ⊢
    exact ⟨env, S1, μ1, a.next x1 s1, R.sat_imp q1 (fun r S' q => q.ext x1) fun x S' q => q.ext x1⟩
  | false =>
    rw [if_neg (by decide)] at q1 ⊢
    exact ⟨env, S1, μ1, a.next x1 s1, R.sat_imp q1 (fun r S' q => q.ext x1) fun x S' q => q.ext x1⟩
end
end Ev
/-! Ev5: in, order, built-in calls. -/
namespace Ev
open PySem L2 PyProof.Rows
/-! ### in -/
def hitB (S : Store) (x c : D) : Option Bool :=
  match c with
  | .str y => match x with | .str z => some (!(Builtin.Str.occurrences y z 0 y.length 1).isEmpty) | _ => none
  | c => match dctOf S c with
    | some (ks, vs) => match keyOf x with | some k => some (lookD k ks vs).isSome | none => none
    | none => match pyOf S c, pyOf S x with
      | some (.list ps), some p => if SeqAt.shaped (.list ps) && SeqAt.shaped p then some (ps.any fun z => PyData.eqv z p) else none
      | some (.tuple ps), some p => if SeqAt.shaped (.tuple ps) && SeqAt.shaped p then some (ps.any fun z => PyData.eqv z p) else none
      | _, _ => none
def inD (S : Store) (x c : D) : Option RV := (hitB S x c).map fun b => .val (.bl b)
def notInD (S : Store) (x c : D) : Option RV := (hitB S x c).map fun b => .val (.bl (!b))
def rHit (K : PySem.W.Frag) (g : Bool → Bool) : R2 := fun x y H Q =>
  (∃ i j, x = .str i ∧ y = .str j ∧ Q (.bl (g (!(Builtin.Str.occurrences j i 0 j.length 1).isEmpty))) H) ∨
  (∃ d ds, Dp K H x d ∧ Dp K H y (.list ds) ∧ SeqAt.shaped d = true ∧ SeqAt.shaped (.list ds) = true ∧ Q (.bl (g (ds.any fun z => PyData.eqv z d))) H) ∨
  (∃ d ds, Dp K H x d ∧ Dp K H y (.tuple ds) ∧ SeqAt.shaped d = true ∧ SeqAt.shaped (.tuple ds) = true ∧ Q (.bl (g (ds.any fun z => PyData.eqv z d))) H) ∨
  ∃ a o, y = .ref a ∧ DGet H a x o ∧ Q (.bl (g o.isSome)) H
theorem room_tup {A : Around} {d : PyData} {ds : List PyData} (h : SeqAt.shaped d = true) (hu : A.units + 65 < cLine) : A.units + 1 + min (PyData.depthAll ds) d.depth < cLine := by
  have h1 := SeqAt.depth_of_shaped h
  have h2 : min (PyData.depthAll ds) d.depth ≤ d.depth := Nat.min_le_right _ _
  omega
theorem op_hit {X : Cx} (hu : X.A.units + 65 < cLine) : OpR X (compareOp .In) (rHit X.K id) := by
  refine op_in_str.or ((op_inD hu).or (OpR.or ?_ ?_))
  · intro pins s σ H x y v u Q I rx ry h
    obtain ⟨d, ds, hd, he, sd, se, q⟩ := h
    obtain ⟨as, r1⟩ := Dp.reads I d x v hd rx
    obtain ⟨bs, r2⟩ := Dp.reads I (.tuple ds) y u he ry
    exact SeqAt.in_tuple_reads r2 r1 (SeqAt.canLay_of_shaped se) (SeqAt.canLay_of_shaped sd) (room_tup sd hu) ⟨.bl _, H, I, rfl, q⟩
  · intro pins s σ H x y v u Q I rx ry h
    obtain ⟨a, o, rfl, g, q⟩ := h
    cases ry
    exact d_in (by omega) I g rx fun s3 I3 => ⟨.bl o.isSome, H, I3, rfl, q⟩
theorem op_nohit {X : Cx} (hu : X.A.units + 65 < cLine) : OpR X (compareOp .NotIn) (rHit X.K (!·)) := by
  refine op_notIn_str.or ((op_notInD hu).or (OpR.or ?_ ?_))
  · intro pins s σ H x y v u Q I rx ry h
    obtain ⟨d, ds, hd, he, sd, se, q⟩ := h
    obtain ⟨as, r1⟩ := Dp.reads I d x v hd rx
    obtain ⟨bs, r2⟩ := Dp.reads I (.tuple ds) y u he ry
    exact SeqAt.notIn_tuple_reads r2 r1 (SeqAt.canLay_of_shaped se) (SeqAt.canLay_of_shaped sd) (room_tup sd hu) ⟨.bl _, H, I, rfl, q⟩
  · intro pins s σ H x y v u Q I rx ry h
    obtain ⟨a, o, rfl, g, q⟩ := h
    cases ry
    exact d_notIn (by omega) I g rx fun s3 I3 => ⟨.bl (!o.isSome), H, I3, rfl, q⟩
theorem hit_ok {Γ : Gm} {g : Bool → Bool} {H : Hp} {μ : Mu} {S : Store} {x y : V} {dx dy : D} {b : Bool} {Q : VK} (s : Sim Γ μ H S) (rx : Rep Γ H μ x dx) (ry : Rep Γ H μ y dy) (h : hitB S dx dy = some b) (q : Q (.bl (g b)) H) : rHit Γ.K g x y H Q := by
  unfold hitB at h
  split at h
  · split at h
    · cases h; cases rx; cases ry
      exact .inl ⟨_, _, rfl, rfl, q⟩
    · cases h
  · split at h
    · rename_i ks vs e
      split at h
      · rename_i k ek
        cases h
        obtain ⟨a, kvs, rfl, h1, rfl, h3⟩ := dctOf_ok s ry e
        have ex := keyOf_ok rx ek
        subst ex
        refine .inr (.inr (.inr ⟨a, valV kvs k, rfl, .k h1, ?_⟩))
        rcases look_ok (k := k) h3 with ⟨h4, h5⟩ | ⟨d', v, h4, h5, _⟩
        · rw [h4] at q; rw [h5]; exact q
        · rw [h4] at q; rw [h5]; exact q
      · cases h
    · split at h
      · rename_i ps p e1 e2
        split at h
        · rename_i hs
          cases h
          obtain ⟨s1, s2⟩ := Bool.and_eq_true_iff.mp hs
          exact .inr (.inl ⟨p, ps, pyOf_ok s rx e2, pyOf_ok s ry e1, s2, s1, q⟩)
        · cases h
      · rename_i ps p e1 e2
        split at h
        · rename_i hs
          cases h
          obtain ⟨s1, s2⟩ := Bool.and_eq_true_iff.mp hs
          exact .inr (.inr (.inl ⟨p, ps, pyOf_ok s rx e2, pyOf_ok s ry e1, s2, s1, q⟩))
        · cases h
      · cases h
theorem in_ok {Γ : Gm} : OpD Γ inD (rHit Γ.K id) := by
  intro H μ S x y dx dy z Q s rx ry h q
  obtain ⟨b, hb, rfl⟩ := Option.map_eq_some_iff.mp h
  exact hit_ok s rx ry hb (q.here s (.bl _))
theorem notIn_ok {Γ : Gm} : OpD Γ notInD (rHit Γ.K (!·)) := by
  intro H μ S x y dx dy z Q s rx ry h q
  obtain ⟨b, hb, rfl⟩ := Option.map_eq_some_iff.mp h
  exact hit_ok (g := (!·)) s rx ry hb (q.here s (.bl _))
/-! ### order: ints, texts, tuples of ints -/
def intsOf : List D → Option (List Int)
  | [] => some []
  | .int i :: r => (intsOf r).map (i :: ·)
  | _ :: _ => none
theorem intsOf_ok {Γ : Gm} {H : Hp} {μ : Mu} : ∀ {ds : List D} {vs : List V} {ns : List Int}, Reps Γ H μ vs ds → intsOf ds = some ns → vs = ns.map V.int
  | [], _, _, r, h => by cases r; cases h; rfl
  | .int i :: ds, _, _, r, h => by
    cases r with
    | cons r1 r2 =>
      unfold intsOf at h
      obtain ⟨ms, hm, rfl⟩ := Option.map_eq_some_iff.mp h
      cases r1
      rw [intsOf_ok r2 hm]; rfl
  | .non :: _, _, _, _, h | .bl _ :: _, _, _, _, h | .str _ :: _, _, _, _, h | .tup _ :: _, _, _, _, h | .lst _ :: _, _, _, _, h | .scr _ :: _, _, _, _, h | .dct _ _ :: _, _, _, _, h
  | .ins _ _ :: _, _, _, _, h | .exc _ _ :: _, _, _, _, h | .glb _ :: _, _, _, _, h | .clo _ _ :: _, _, _, _, h | .ref _ :: _, _, _, _, h => by cases h
/-- item by item, then by what len tells -/
def lexD (r : Int → Int → Bool) (z : Bool) : List Int → List Int → Bool
  | x :: xs, y :: ys => if x = y then lexD r z xs ys else r x y
  | _, _ => z
def ordD (ri : Int → Int → Bool) (rs : List Nat → List Nat → Bool) (S : Store) (x y : D) : Option RV :=
  match x, y with
  | .int i, .int j => some (.val (.bl (ri i j)))
  | .str a, .str b => some (.val (.bl (rs a.cps.toList b.cps.toList)))
  | .tup xs, .tup ys => match intsOf xs, intsOf ys with
    | some ns, some ms => some (.val (.bl (lexD ri (ri ns.length ms.length) ns ms)))
    | _, _ => none
  | _, _ => none
def ltD := ordD (fun i j => decide (i < j)) (fun a b => decide (a < b))
def leD := ordD (fun i j => decide (i ≤ j)) (fun a b => !decide (b < a))
def gtD := ordD (fun i j => decide (j < i)) (fun a b => decide (b < a))
def geD := ordD (fun i j => decide (j ≤ i)) (fun a b => !decide (a < b))
theorem lexAt_eq (r : Int → Int → Bool) (z : Bool) : ∀ (ns ms pre qre : List Int), pre.length = qre.length →
    Ob.lexAt (fun j => decide ((pre ++ ns).getD j 0 = (qre ++ ms).getD j 0)) (fun j => r ((pre ++ ns).getD j 0) ((qre ++ ms).getD j 0)) z pre.length (min ns.length ms.length) = lexD r z ns ms
  | [], ms, pre, qre, _ => by simp [lexD, Ob.lexAt]
  | x :: xs, [], pre, qre, _ => by simp [lexD, Ob.lexAt]
  | x :: xs, y :: ys, pre, qre, h => by
    have e1 : (pre ++ x :: xs).getD pre.length 0 = x := by simp [List.getD]
    have e2 : (qre ++ y :: ys).getD pre.length 0 = y := by rw [h]; simp [List.getD]
    have e3 : min (x :: xs).length (y :: ys).length = min xs.length ys.length + 1 := by simp only [List.length_cons]; omega
    rw [e3, Ob.lexAt_succ]
    have ih := lexAt_eq r z xs ys (pre ++ [x]) (qre ++ [y]) (by simp [h])
    rw [List.append_assoc, List.append_assoc] at ih
    have e4 : (pre ++ [x]).length = pre.length + 1 := by simp
    rw [e4] at ih
    simp only [List.cons_append, List.nil_append] at ih
    show (if decide ((pre ++ x :: xs).getD pre.length 0 = (qre ++ y :: ys).getD pre.length 0) = true then _ else r ((pre ++ x :: xs).getD pre.length 0) ((qre ++ y :: ys).getD pre.length 0)) = _
    rw [e1, e2]
    by_cases q : x = y
    · rw [if_pos (decide_eq_true q), ih]
      show _ = (if x = y then _ else _)
      rw [if_pos q]
    · rw [if_neg (by rw [decide_eq_false q]; decide)]
      show _ = (if x = y then _ else _)
      rw [if_neg q]
def rOrdT (K : PySem.W.Frag) (r : Int → Int → Bool) : R2 := fun x y H Q => ∃ (a b : Addr) (ns ms : List Int), x = .ref a ∧ y = .ref b ∧ SqT K H a (ns.map V.int) ∧ SqT K H b (ms.map V.int) ∧ Q (.bl (lexD r (r ns.length ms.length) ns ms)) H
theorem op_ordT {X : Cx} {op : CmpOp} {r : Int → Int → Bool} (hop : ∀ a b, compareOp op a b = richCompare op a b)
    (hi : ∀ {A : Around} {s : Shared} (a b : Int) (t u : Tok), Ob.RcOp op A s (.int a t) (.int b u) (r a b))
    (ht : ∀ {A : Around} {s : Shared} {l b : Addr} {items items2 : Array Value} {e q : Nat → Bool}, s.heap.IsTuple l items → s.heap.IsTuple b items2 → A.units < cLine →
      (∀ j (h1 : j < items.size) (h2 : j < items2.size), SeqAt.EqAt A.in1 s items[j] items2[j] (e j)) →
      (∀ j (h1 : j < items.size) (h2 : j < items2.size), e j = false → Ob.RcOp op A.in1 s items[j] items2[j] (q j)) →
      Ob.RcOp op A s (.ref l) (.ref b) (Ob.lexAt e q (r items.size items2.size) 0 (min items.size items2.size)))
    (hu : X.A.units < cLine) : OpR X (compareOp op) (rOrdT X.K r) := by
  intro pins s σ H x y v u Q I rx ry h
  obtain ⟨a, b, ns, ms, rfl, rfl, ha, hb, q⟩ := h
  cases rx
  cases ry
  obtain ⟨its, r1, p1, _⟩ := I.tuple ha
  obtain ⟨its2, r2, p2, _⟩ := I.tuple hb
  have i1 : IntsAre its ns := Vals.ints r1
  have i2 : IntsAre its2 ms := Vals.ints r2
  have e1 : its.toArray.size = ns.length := by rw [List.size_toArray]; exact i1.length
  have e2 : its2.toArray.size = ms.length := by rw [List.size_toArray]; exact i2.length
  have at1 : ∀ j (h1 : j < its.toArray.size), ∃ t, its.toArray[j] = .int (ns.getD j 0) t := fun j h1 => PyProof.Rows.IntsAre.int_at i1 _ _ (by simp at h1; simp [h1])
  have at2 : ∀ j (h1 : j < its2.toArray.size), ∃ t, its2.toArray[j] = .int (ms.getD j 0) t := fun j h1 => PyProof.Rows.IntsAre.int_at i2 _ _ (by simp at h1; simp [h1])
  have RR := ht (A := X.A) (s := s) (e := fun j => decide (ns.getD j 0 = ms.getD j 0)) (q := fun j => r (ns.getD j 0) (ms.getD j 0)) p1 p2 hu (fun j h1 h2 => by
    obtain ⟨t, et⟩ := at1 j h1
    obtain ⟨t', et'⟩ := at2 j h2
    rw [et, et']
    have z : (ns.getD j 0 == ms.getD j 0) = decide (ns.getD j 0 = ms.getD j 0) := by
      by_cases q : ns.getD j 0 = ms.getD j 0
      · rw [decide_eq_true q]; exact beq_iff_eq.mpr q
      · rw [decide_eq_false q]; exact beq_eq_false_iff_ne.mpr q
    rw [← z]
    exact SeqAt.EqAt.int_int _ _ _ _) (fun j h1 h2 _ => by
    obtain ⟨t, et⟩ := at1 j h1
    obtain ⟨t', et'⟩ := at2 j h2
    rw [et, et']
    exact hi _ _ _ _)
  rw [e1, e2] at RR
  have eq := lexAt_eq r (r ns.length ms.length) ns ms [] [] rfl
  simp only [List.nil_append, List.length_nil] at eq
  rw [eq] at RR
  rw [hop]
  exact RR _ _ _ _ ⟨.bl _, H, I, rfl, q⟩
def rOrd (K : PySem.W.Frag) (ri : Int → Int → Bool) (rs : List Nat → List Nat → Bool) : R2 := fun x y H Q => (∃ i j, x = .int i ∧ y = .int j ∧ Q (.bl (ri i j)) H) ∨ (∃ i j, x = .str i ∧ y = .str j ∧ Q (.bl (rs i.cps.toList j.cps.toList)) H) ∨ rOrdT K ri x y H Q
theorem ord_ok {Γ : Gm} {ri : Int → Int → Bool} {rs : List Nat → List Nat → Bool} : OpD Γ (ordD ri rs) (rOrd Γ.K ri rs) := by
  intro H μ S x y dx dy z Q s rx ry h q
  unfold ordD at h
  split at h
  · cases h; cases rx; cases ry
    exact .inl ⟨_, _, rfl, rfl, q.here s (.bl _)⟩
  · cases h; cases rx; cases ry
    exact .inr (.inl ⟨_, _, rfl, rfl, q.here s (.bl _)⟩)
  · split at h
    · rename_i e1 e2
      cases h
      obtain ⟨a, vs, rfl, h1, h2⟩ := rx.tupA
      obtain ⟨b, ws, rfl, h3, h4⟩ := ry.tupA
      rw [intsOf_ok h2 e1] at h1
      rw [intsOf_ok h4 e2] at h3
      exact .inr (.inr ⟨a, b, _, _, rfl, rfl, h1, h3, q.here s (.bl _)⟩)
    · cases h
  · cases h
section
variable {X : Cx}
theorem nat_lt (a b : Nat) : decide ((a : Int) < (b : Int)) = decide (a < b) := by simp
theorem nat_le (a b : Nat) : decide ((a : Int) ≤ (b : Int)) = decide (a ≤ b) := by simp
theorem op_ltO (hu : X.A.units < cLine) : OpR X (compareOp .Lt) (rOrd X.K (fun i j => decide (i < j)) (fun a b => decide (a < b))) :=
  op_lt.or (op_lt_str.or (op_ordT (fun _ _ => rfl) (fun _ _ _ _ => Ob.RcOp.lt_int _ _ _ _) (fun h1 h2 h3 h4 h5 => by have := Ob.RcOp.tuples_lt h1 h2 h3 h4 h5; simp only [nat_lt]; exact this) hu))
theorem op_leO (hu : X.A.units < cLine) : OpR X (compareOp .LtE) (rOrd X.K (fun i j => decide (i ≤ j)) (fun a b => !decide (b < a))) :=
  op_le.or (op_le_str.or (op_ordT (fun _ _ => rfl) (fun _ _ _ _ => Ob.RcOp.le_int _ _ _ _) (fun h1 h2 h3 h4 h5 => by have := Ob.RcOp.tuples_le h1 h2 h3 h4 h5; simp only [nat_le]; exact this) hu))
theorem op_gtO (hu : X.A.units < cLine) : OpR X (compareOp .Gt) (rOrd X.K (fun i j => decide (j < i)) (fun a b => decide (b < a))) :=
  op_gt.or (op_gt_str.or (op_ordT (fun _ _ => rfl) (fun _ _ _ _ => Ob.RcOp.gt_int _ _ _ _) (fun h1 h2 h3 h4 h5 => by have := Ob.RcOp.tuples_gt h1 h2 h3 h4 h5; simp only [nat_lt]; exact this) hu))
theorem op_geO (hu : X.A.units < cLine) : OpR X (compareOp .GtE) (rOrd X.K (fun i j => decide (j ≤ i)) (fun a b => !decide (a < b))) :=
  op_ge.or (op_ge_str.or (op_ordT (fun _ _ => rfl) (fun _ _ _ _ => Ob.RcOp.ge_int _ _ _ _) (fun h1 h2 h3 h4 h5 => by have := Ob.RcOp.tuples_ge h1 h2 h3 h4 h5; simp only [nat_le]; exact this) hu))
end
/-! ### built-in calls -/
def CallD (Γ : Gm) (o : Store → List D → Option RV) (r : List V → Hp → VK → Prop) : Prop := ∀ (H : Hp) (μ : Mu) (S : Store) (vs : List V) (ds : List D) (z : RV) (Q : VK), Sim Γ μ H S → Reps Γ H μ vs ds → o S ds = some z → Post Γ μ H Q z S → r vs H Q
def bltF (o : Store → List D → Option RV) (m : MA) : ME := fun env S => (m env S).bind fun ds S1 => match o S1 ds with | some z => .ok z S1 | none => .bad
section
variable {Γ : Gm} {X : Cx} {W : WX} {pos : Pos}
theorem rd_blt {o : Store → List D → Option RV} {r : List V → Hp → VK → Prop} (hr : CallD Γ o r) {m : MA} {σ : L2.St} {H : Hp} {Q : VK} (h : rdE Γ W (bltF o m) σ H Q) : tCB r (rdA Γ W m) σ H Q :=
  rd_args h fun vs H' μ' ds S' env a rs q => by
    split at q
    · rename_i z e
      exact hr H' μ' S' vs ds z Q a.sim rs e q
    · exact False.elim q
theorem sd_blt {o : Store → List D → Option RV} {r : List V → Hp → VK → Prop} {x : Str} {id : String} {p : Pos} {e : Expr} {es : List Expr} {m : MA} (hc : CallR X (.builtin id) r) (hr : CallD Γ o r) (hg : Gl X x) (hm : X.mg x = none) (hv : bootBuiltins x = some (.builtin id))
    (ha : PA X (e :: es) (rdA Γ W m)) (hs : (e :: es).all notStar = true) (hn : x ≠ "__name__") (hdb : (x == ("__debug__" : Str)) = false) : PE X (.Call (.Name x p) (e :: es) [] pos) (rdE Γ W (bltF o m)) :=
  (pe_callB hc hg hm hv ha hn hdb (star_cons (Bool.and_eq_true_iff.mp (show (notStar e && es.all notStar) = true from hs)).1) (star_any (Bool.and_eq_true_iff.mp (show (notStar e && es.all notStar) = true from hs)).2)).weak fun σ H Q h => rd_blt hr h
theorem sd_bty {o : Store → List D → Option RV} {r : List V → Hp → VK → Prop} {x : Str} {T : String} {p : Pos} {e : Expr} {es : List Expr} {m : MA} (hc : CallR X (.type T) r) (hr : CallD Γ o r) (hg : Gl X x) (hm : X.mg x = none) (hv : bootBuiltins x = some (.type T))
    (ha : PA X (e :: es) (rdA Γ W m)) (hs : (e :: es).all notStar = true) (hn : x ≠ "__name__") (hdb : (x == ("__debug__" : Str)) = false) : PE X (.Call (.Name x p) (e :: es) [] pos) (rdE Γ W (bltF o m)) :=
  (pe_callTy hc hg hm hv ha hn hdb (star_cons (Bool.and_eq_true_iff.mp (show (notStar e && es.all notStar) = true from hs)).1) (star_any (Bool.and_eq_true_iff.mp (show (notStar e && es.all notStar) = true from hs)).2)).weak fun σ H Q h => rd_blt hr h
end
theorem reps1 {Γ : Gm} {H : Hp} {μ : Mu} {vs : List V} {d : D} (r : Reps Γ H μ vs [d]) : ∃ v, vs = [v] ∧ Rep Γ H μ v d := by
  cases r with
  | cons r1 r2 => cases r2; exact ⟨_, rfl, r1⟩
theorem reps2 {Γ : Gm} {H : Hp} {μ : Mu} {vs : List V} {d e : D} (r : Reps Γ H μ vs [d, e]) : ∃ v w, vs = [v, w] ∧ Rep Γ H μ v d ∧ Rep Γ H μ w e := by
  cases r with
  | cons r1 r2 => obtain ⟨w, rfl, h⟩ := reps1 r2; exact ⟨_, _, rfl, r1, h⟩
/-! len -/
def lenD (S : Store) (ds : List D) : Option RV := match ds with
  | [.str z] => if z.length ≤ 16777216 then some (.val (.int z.length)) else none
  | [d] => match seqOf S d with
    | some xs => some (.val (.int xs.length))
    | none => match dctOf S d with
      | some (ks, _) => some (.val (.int ks.length))
      | none => none
  | _ => none
def rLenD (K : PySem.W.Frag) : List V → Hp → VK → Prop := fun xs H Q => (∃ p ys, xs = [.ref p] ∧ (SqL K H p ys ∨ SqT K H p ys) ∧ Q (.int ys.length) H) ∨ (∃ z, xs = [.str z] ∧ z.length ≤ sizeLine ∧ Q (.int z.length) H) ∨ ∃ a kvs, xs = [V.ref a] ∧ H a = some (.dK kvs) ∧ Q (.int kvs.length) H
theorem call_lenA {X : Cx} : CallR X (.builtin "len") (rLenD X.K) := call_len_seq.or (call_len_str.or call_lenD)
theorem len_ok {Γ : Gm} : CallD Γ lenD (rLenD Γ.K) := by
  intro H μ S vs ds z Q s r h q
  unfold lenD at h
  split at h
  · rename_i y
    split at h
    · rename_i hl
      cases h
      obtain ⟨v, rfl, rv⟩ := reps1 r
      cases rv
      exact .inr (.inl ⟨y, rfl, by rw [sizeLine_eq]; exact hl, q.here s (.int _)⟩)
    · cases h
  · obtain ⟨v, rfl, rv⟩ := reps1 r
    split at h
    · rename_i xs e
      cases h
      obtain ⟨a, ws, rfl, h1, h2⟩ := seqOf_ok s rv e
      rw [← h2.length] at q
      exact .inl ⟨a, ws, rfl, h1, q.here s (.int _)⟩
    · split at h
      · rename_i ks vs e
        cases h
        obtain ⟨a, kvs, rfl, h1, rfl, h3⟩ := dctOf_ok s rv e
        rw [List.length_map] at q
        exact .inr (.inr ⟨a, kvs, rfl, h1, q.here s (.int _)⟩)
      · cases h
  · cases h
/-! int -/
def intD (_ : Store) (ds : List D) : Option RV := match ds with
  | [.int i] => some (.val (.int i))
  | [.bl b] => some (.val (.int (if b then 1 else 0)))
  | [.str x] => match PySem.intText? x with
    | some n => if x.length ≤ 640 then some (.val (.int n)) else none
    | none => none
  | _ => none
def rIntD : List V → Hp → VK → Prop := fun xs H Q => ((∃ i, xs = [.int i] ∧ Q (.int i) H) ∨ ∃ k, xs = [.bl k] ∧ Q (.int (if k then 1 else 0)) H) ∨ ∃ a n, xs = [.str a] ∧ PySem.intText? a = some n ∧ a.length ≤ 640 ∧ Q (.int n) H
theorem call_intA {X : Cx} : CallR X (.type "int") rIntD := call_int1.or call_int_str
theorem int_ok {Γ : Gm} : CallD Γ intD rIntD := by
  intro H μ S vs ds z Q s r h q
  unfold intD at h
  split at h
  · cases h; obtain ⟨v, rfl, rv⟩ := reps1 r; cases rv
    exact .inl (.inl ⟨_, rfl, q.here s (.int _)⟩)
  · cases h; obtain ⟨v, rfl, rv⟩ := reps1 r; cases rv
    exact .inl (.inr ⟨_, rfl, q.here s (.int _)⟩)
  · split at h
    · rename_i n e
      split at h
      · rename_i hl
        cases h; obtain ⟨v, rfl, rv⟩ := reps1 r; cases rv
        exact .inr ⟨_, n, rfl, e, hl, q.here s (.int _)⟩
      · cases h
    · cases h
  · cases h
/-! str of an int -/
def strD (_ : Store) (ds : List D) : Option RV := match ds with
  | [.int i] => if i.natAbs.log2 < 1920 then some (.val (.str (toString i))) else none
  | _ => none
theorem str_ok {Γ : Gm} : CallD Γ strD (fun xs H Q => ∃ i, xs = [.int i] ∧ i.natAbs.log2 < 1920 ∧ Q (.str (toString i)) H) := by
  intro H μ S vs ds z Q s r h q
  unfold strD at h
  split at h
  · split at h
    · rename_i hl
      cases h; obtain ⟨v, rfl, rv⟩ := reps1 r; cases rv
      exact ⟨_, rfl, hl, q.here s (.str _)⟩
    · cases h
  · cases h
/-! tuple(x), list(x) of lists and tuples -/
def tupleD (S : Store) (ds : List D) : Option RV := match ds with
  | [.tup xs] => some (.val (.tup xs))
  | [d] => match seqOf S d with
    | some xs => some (.val (.tup xs))
    | none => none
  | _ => none
theorem tuple_ok {Γ : Gm} : CallD Γ tupleD (fun xs H Q => ∃ p ys, xs = [.ref p] ∧ ((SqL Γ.K H p ys ∧ ∀ l, H l = none → Q (.ref l) (upd H l (.tup ys))) ∨ (SqT Γ.K H p ys ∧ Q (.ref p) H))) := by
  intro H μ S vs ds z Q s r h q
  unfold tupleD at h
  split at h
  · cases h; obtain ⟨v, rfl, rv⟩ := reps1 r
    obtain ⟨a, ws, rfl, h1, h2⟩ := rv.tupA
    exact ⟨a, ws, rfl, .inr ⟨h1, q.here s rv⟩⟩
  · rename_i d hnt
    split at h
    · rename_i xs e
      cases h
      obtain ⟨v, rfl, rv⟩ := reps1 r
      have key : ∃ a ws, v = .ref a ∧ SqL Γ.K H a ws ∧ Reps Γ H μ ws xs := by
        cases d with
        | tup ys => exact absurd rfl (hnt ys)
        | scr ys => cases e; exact rv.scrA
        | lst ys => obtain ⟨a, ws, e1, h1, h2⟩ := lstOf_ok (xs := xs) s rv e; exact ⟨a, ws, e1, .of h1, h2⟩
        | ref n => obtain ⟨a, ws, e1, h1, h2⟩ := lstOf_ok (xs := xs) s rv e; exact ⟨a, ws, e1, .of h1, h2⟩
        | _ => cases e
      obtain ⟨a, ws, rfl, h1, h2⟩ := key
      exact ⟨a, ws, rfl, .inl ⟨h1, fun l hl => Post.newT s hl h2 q⟩⟩
    · cases h
  · cases h
def listD (S : Store) (ds : List D) : Option RV := match ds with
  | [d] => match seqOf S d with
    | some xs => some (.new (.lst xs))
    | none => none
  | _ => none
theorem list_ok {Γ : Gm} : CallD Γ listD (fun xs H Q => ∃ p ys, xs = [.ref p] ∧ (SqL Γ.K H p ys ∨ SqT Γ.K H p ys) ∧ ∀ l, H l = none → Q (.ref l) (upd H l (.lst ys))) := by
  intro H μ S vs ds z Q s r h q
  unfold listD at h
  split at h
  · split at h
    · rename_i xs e
      cases h
      obtain ⟨v, rfl, rv⟩ := reps1 r
      obtain ⟨a, ws, rfl, h1, h2⟩ := seqOf_ok s rv e
      exact ⟨a, ws, rfl, h1, fun l hl => Post.newL s hl h2 q⟩
    · cases h
  · cases h
/-! min, max of two; of a list -/
def min2D (_ : Store) (ds : List D) : Option RV := match ds with
  | [.int i, .int j] => some (.val (.int (if j < i then j else i)))
  | _ => none
def max2D (_ : Store) (ds : List D) : Option RV := match ds with
  | [.int i, .int j] => some (.val (.int (if j > i then j else i)))
  | _ => none
theorem min2_ok {Γ : Gm} : CallD Γ min2D (fun xs H Q => ∃ i j, xs = [.int i, .int j] ∧ Q (.int (if j < i then j else i)) H) := by
  intro H μ S vs ds z Q s r h q
  unfold min2D at h
  split at h
  · cases h; obtain ⟨v, w, rfl, r1, r2⟩ := reps2 r; cases r1; cases r2
    exact ⟨_, _, rfl, q.here s (.int _)⟩
  · cases h
theorem max2_ok {Γ : Gm} : CallD Γ max2D (fun xs H Q => ∃ i j, xs = [.int i, .int j] ∧ Q (.int (if j > i then j else i)) H) := by
  intro H μ S vs ds z Q s r h q
  unfold max2D at h
  split at h
  · cases h; obtain ⟨v, w, rfl, r1, r2⟩ := reps2 r; cases r1; cases r2
    exact ⟨_, _, rfl, q.here s (.int _)⟩
  · cases h
/-- ints of a list that stands -/
def lstI (S : Store) (d : D) : Option (List Int) := match d with
  | .tup _ => none
  | d => match seqOf S d with | some xs => intsOf xs | none => none
theorem lstI_ok {Γ : Gm} {H : Hp} {μ : Mu} {S : Store} {v : V} {d : D} {ns : List Int} (s : Sim Γ μ H S) (rv : Rep Γ H μ v d) (h : lstI S d = some ns) : ∃ a, v = .ref a ∧ SqL Γ.K H a (ns.map V.int) := by
  have key : ∀ xs, seqOf S d = some xs → (∀ ys, d ≠ .tup ys) → ∃ a ws, v = .ref a ∧ SqL Γ.K H a ws ∧ Reps Γ H μ ws xs := fun xs e hnt => by
    cases d with
    | tup ys => exact absurd rfl (hnt ys)
    | scr ys => cases e; exact rv.scrA
    | lst ys => obtain ⟨a, ws, e1, h1, h2⟩ := lstOf_ok (xs := xs) s rv e; exact ⟨a, ws, e1, .of h1, h2⟩
    | ref n => obtain ⟨a, ws, e1, h1, h2⟩ := lstOf_ok (xs := xs) s rv e; exact ⟨a, ws, e1, .of h1, h2⟩
    | _ => cases e
  unfold lstI at h
  split at h
  · cases h
  · rename_i hnt
    split at h
    · rename_i xs e
      obtain ⟨a, ws, rfl, h1, h2⟩ := key xs e hnt
      rw [intsOf_ok h2 h] at h1
      exact ⟨a, rfl, h1⟩
    · cases h
def sumD (S : Store) (ds : List D) : Option RV := match ds with
  | [d] => (lstI S d).map fun ns => .val (.int ns.sum)
  | _ => none
theorem sum_ok {Γ : Gm} : CallD Γ sumD (rSum Γ.K) := by
  intro H μ S vs ds z Q s r h q
  unfold sumD at h
  split at h
  · obtain ⟨ns, e, rfl⟩ := Option.map_eq_some_iff.mp h
    obtain ⟨v, rfl, rv⟩ := reps1 r
    obtain ⟨a, rfl, h1⟩ := lstI_ok s rv e
    exact ⟨a, ns, rfl, h1, q.here s (.int _)⟩
  · cases h
def maxL : List Int → Int
  | [] => 0
  | [x] => x
  | x :: y :: r => if maxL (y :: r) ≤ x then x else maxL (y :: r)
def minL : List Int → Int
  | [] => 0
  | [x] => x
  | x :: y :: r => if x ≤ minL (y :: r) then x else minL (y :: r)
theorem maxL_ok : ∀ (ns : List Int), 0 < ns.length → maxL ns ∈ ns ∧ ∀ y ∈ ns, y ≤ maxL ns
  | [], h => absurd h (by simp)
  | [x], _ => ⟨by simp [maxL], fun y hy => by simp at hy; simp [maxL, hy]⟩
  | x :: y :: r, _ => by
    obtain ⟨h1, h2⟩ := maxL_ok (y :: r) (by simp)
    unfold maxL
    split
    · rename_i h
      refine ⟨List.mem_cons_self, fun z hz => ?_⟩
      rcases List.mem_cons.mp hz with rfl | hz
      · exact Int.le_refl _
      · exact Int.le_trans (h2 z hz) h
    · rename_i h
      refine ⟨List.mem_cons_of_mem _ h1, fun z hz => ?_⟩
      rcases List.mem_cons.mp hz with rfl | hz
      · omega
      · exact h2 z hz
theorem minL_ok : ∀ (ns : List Int), 0 < ns.length → minL ns ∈ ns ∧ ∀ y ∈ ns, minL ns ≤ y
  | [], h => absurd h (by simp)
  | [x], _ => ⟨by simp [minL], fun y hy => by simp at hy; simp [minL, hy]⟩
  | x :: y :: r, _ => by
    obtain ⟨h1, h2⟩ := minL_ok (y :: r) (by simp)
    unfold minL
    split
    · rename_i h
      refine ⟨List.mem_cons_self, fun z hz => ?_⟩
      rcases List.mem_cons.mp hz with rfl | hz
      · exact Int.le_refl _
      · exact Int.le_trans h (h2 z hz)
    · rename_i h
      refine ⟨List.mem_cons_of_mem _ h1, fun z hz => ?_⟩
      rcases List.mem_cons.mp hz with rfl | hz
      · omega
      · exact h2 z hz
def maxD (S : Store) (ds : List D) : Option RV := match ds with
  | [d] => match lstI S d with | some (n :: ns) => some (.val (.int (maxL (n :: ns)))) | _ => none
  | _ => none
def minD (S : Store) (ds : List D) : Option RV := match ds with
  | [d] => match lstI S d with | some (n :: ns) => some (.val (.int (minL (n :: ns)))) | _ => none
  | _ => none
theorem max_ok {Γ : Gm} : CallD Γ maxD (rMax Γ.K) := by
  intro H μ S vs ds z Q s r h q
  unfold maxD at h
  split at h
  · split at h
    · rename_i n ns e
      cases h
      obtain ⟨v, rfl, rv⟩ := reps1 r
      obtain ⟨a, rfl, h1⟩ := lstI_ok s rv e
      obtain ⟨m1, m2⟩ := maxL_ok (n :: ns) (by simp)
      refine ⟨a, n :: ns, rfl, h1, by simp, fun m hm hle => ?_⟩
      have : m = maxL (n :: ns) := Int.le_antisymm (m2 m hm) (hle _ m1)
      rw [this]
      exact q.here s (.int _)
    · cases h
  · cases h
theorem min_ok {Γ : Gm} : CallD Γ minD (rMin Γ.K) := by
  intro H μ S vs ds z Q s r h q
  unfold minD at h
  split at h
  · split at h
    · rename_i n ns e
      cases h
      obtain ⟨v, rfl, rv⟩ := reps1 r
      obtain ⟨a, rfl, h1⟩ := lstI_ok s rv e
      obtain ⟨m1, m2⟩ := minL_ok (n :: ns) (by simp)
      refine ⟨a, n :: ns, rfl, h1, by simp, fun m hm hle => ?_⟩
      have : m = minL (n :: ns) := Int.le_antisymm (hle _ m1) (m2 m hm)
      rw [this]
      exact q.here s (.int _)
    · cases h
  · cases h
/-! all, any of a list of bools -/
def blsOf : List D → Option (List Bool)
  | [] => some []
  | .bl i :: r => (blsOf r).map (i :: ·)
  | _ :: _ => none
theorem blsOf_ok {Γ : Gm} {H : Hp} {μ : Mu} : ∀ {ds : List D} {vs : List V} {ns : List Bool}, Reps Γ H μ vs ds → blsOf ds = some ns → vs = ns.map V.bl
  | [], _, _, r, h => by cases r; cases h; rfl
  | .bl i :: ds, _, _, r, h => by
    cases r with
    | cons r1 r2 =>
      unfold blsOf at h
      obtain ⟨ms, hm, rfl⟩ := Option.map_eq_some_iff.mp h
      cases r1
      rw [blsOf_ok r2 hm]; rfl
  | .non :: _, _, _, _, h | .int _ :: _, _, _, _, h | .str _ :: _, _, _, _, h | .tup _ :: _, _, _, _, h | .lst _ :: _, _, _, _, h | .scr _ :: _, _, _, _, h | .dct _ _ :: _, _, _, _, h
  | .ins _ _ :: _, _, _, _, h | .exc _ _ :: _, _, _, _, h | .glb _ :: _, _, _, _, h | .clo _ _ :: _, _, _, _, h | .ref _ :: _, _, _, _, h => by cases h
def allD (S : Store) (ds : List D) : Option RV := match ds with
  | [d] => match lstOf S d with | some xs => (blsOf xs).map fun bs => .val (.bl (bs.all id)) | none => none
  | _ => none
def anyD (S : Store) (ds : List D) : Option RV := match ds with
  | [d] => match lstOf S d with | some xs => (blsOf xs).map fun bs => .val (.bl (bs.any id)) | none => none
  | _ => none
theorem all_ok {Γ : Gm} : CallD Γ allD (rAll Γ.K) := by
  intro H μ S vs ds z Q s r h q
  unfold allD at h
  split at h
  · split at h
    · rename_i xs e
      obtain ⟨bs, e2, rfl⟩ := Option.map_eq_some_iff.mp h
      obtain ⟨v, rfl, rv⟩ := reps1 r
      obtain ⟨a, ws, rfl, h1, h2⟩ := lstOf_ok s rv e
      rw [blsOf_ok h2 e2] at h1
      exact ⟨a, bs, rfl, .of h1, q.here s (.bl _)⟩
    · cases h
  · cases h
theorem any_ok {Γ : Gm} : CallD Γ anyD (rAny Γ.K) := by
  intro H μ S vs ds z Q s r h q
  unfold anyD at h
  split at h
  · split at h
    · rename_i xs e
      obtain ⟨bs, e2, rfl⟩ := Option.map_eq_some_iff.mp h
      obtain ⟨v, rfl, rv⟩ := reps1 r
      obtain ⟨a, ws, rfl, h1, h2⟩ := lstOf_ok s rv e
      rw [blsOf_ok h2 e2] at h1
      exact ⟨a, bs, rfl, .of h1, q.here s (.bl _)⟩
    · cases h
  · cases h
end Ev
/-! Ev6: statements. -/
namespace Ev
open PySem L2 PyProof.Rows
inductive RS where
  | nx (env : EnvD) (S : Store) | ret (r : RV) (S : Store) | brk (env : EnvD) (S : Store) | cnt (env : EnvD) (S : Store) | ex (x : D) (env : EnvD) (S : Store) | bad
abbrev MS := EnvD → Store → RS
structure SPost where
  nx : EnvD → Store → Prop
  rt : RV → Store → Prop
  bk : EnvD → Store → Prop
  ct : EnvD → Store → Prop
  ex : D → EnvD → Store → Prop
def RS.sat (r : RS) (p : SPost) : Prop :=
  match r with
  | .nx e S => p.nx e S
  | .ret r S => p.rt r S
  | .brk e S => p.bk e S
  | .cnt e S => p.ct e S
  | .ex x e S => p.ex x e S
  | .bad => False
theorem RS.sat_imp {r : RS} {p q : SPost} (h : r.sat p) (h1 : ∀ e S, p.nx e S → q.nx e S) (h2 : ∀ r S, p.rt r S → q.rt r S) (h3 : ∀ e S, p.bk e S → q.bk e S) (h4 : ∀ e S, p.ct e S → q.ct e S) (h5 : ∀ x e S, p.ex x e S → q.ex x e S) : r.sat q := by
  cases r with
  | nx e S => exact h1 _ _ h
  | ret r S => exact h2 _ _ h
  | brk e S => exact h3 _ _ h
  | cnt e S => exact h4 _ _ h
  | ex x e S => exact h5 _ _ _ h
  | bad => exact h
/-- an expression ahead of the rest of a statement -/
def R.then {α : Type} (r : R α) (env : EnvD) (f : α → Store → RS) : RS :=
  match r with
  | .ok a S => f a S
  | .ex x S => .ex x env S
  | .bad => .bad
theorem R.sat_then {α : Type} {r : R α} {env : EnvD} {f : α → Store → RS} {p : SPost} : (r.then env f).sat p ↔ r.sat (fun a S => (f a S).sat p) (fun x S => p.ex x env S) := by
  cases r <;> exact Iff.rfl
/-- what the statement's end asks -/
def spost (Γ : Gm) (W : WX) (D : Ends) (μ : Mu) (H : Hp) : SPost where
  nx := fun e S => ∀ σ' H' μ', Ext Γ μ H μ' H' → At Γ σ' H' e S μ' → D.nx σ' H'
  rt := fun r S => ∀ v H' μ', Ext Γ μ H μ' H' → RVAt Γ H μ' H' S v r → D.rt v H'
  bk := fun e S => ∀ σ' H' μ', Ext Γ μ H μ' H' → At Γ σ' H' e S μ' → D.bk σ' H'
  ct := fun e S => ∀ σ' H' μ', Ext Γ μ H μ' H' → At Γ σ' H' e S μ' → D.ct σ' H'
  ex := fun x e S => ∀ cls dx σ' H' μ', Ext Γ μ H μ' H' → At Γ σ' H' e S μ' → XAt Γ H' μ' cls dx x → W cls dx σ' H'
def rdS (Γ : Gm) (W : WX) (g : MS) : TS := fun D σ H => ∃ env S μ, At Γ σ H env S μ ∧ (g env S).sat (spost Γ W D μ H)
theorem _root_.L2.PS.weak {X : Cx} {e : Stmt} {t t' : TS} (h : PS X e t) (w : ∀ D σ H, t' D σ H → t D σ H) : PS X e t' := ⟨fun pins s σ H D I q => h.run pins s σ H D I (w D σ H q)⟩
theorem _root_.L2.PSs.weak {X : Cx} {e : List Stmt} {t t' : TS} (h : PSs X e t) (w : ∀ D σ H, t' D σ H → t D σ H) : PSs X e t' := ⟨fun pins s σ H D I q => h.run pins s σ H D I (w D σ H q)⟩
theorem spost.ext {Γ : Gm} {W : WX} {D : Ends} {μ μ1 : Mu} {H H1 : Hp} {r : RS} (x : Ext Γ μ H μ1 H1) (h : r.sat (spost Γ W D μ H)) : r.sat (spost Γ W D μ1 H1) :=
  RS.sat_imp h (fun e S q σ' H' μ' e1 a => q σ' H' μ' (x.trans e1) a) (fun r S q v H' μ' e1 a => q v H' μ' (x.trans e1) (a.ext0 x.back)) (fun e S q σ' H' μ' e1 a => q σ' H' μ' (x.trans e1) a) (fun e S q σ' H' μ' e1 a => q σ' H' μ' (x.trans e1) a)
    (fun y e S q cls dx σ' H' μ' e1 a xa => q cls dx σ' H' μ' (x.trans e1) a xa)
/-- an expression's exception is the statement's -/
theorem xpost_of {Γ : Gm} {W : WX} {Z : Ends} {μ : Mu} {H : Hp} {σ : L2.St} {env : EnvD} {S : Store} {x : D} {S' : Store} (a : At Γ σ H env S μ) (h : (spost Γ W Z μ H).ex x env S') : XPost Γ W σ μ H x S' := fun cls dx H' μ' e s xa => h cls dx σ H' μ' e (a.next e s) xa
section
variable {Γ : Gm} {X : Cx} {W : WX} {pos : Pos}
theorem rdS_then {f : ME} {k : RV → Store → RS} {D : Ends} {σ : L2.St} {H : Hp} {env : EnvD} {S : Store} {μ : Mu} {Q : VK} (a : At Γ σ H env S μ) (h : ((f env S).then env k).sat (spost Γ W D μ H))
    (q : ∀ r S' v H' μ', Ext Γ μ H μ' H' → RVAt Γ H μ' H' S' v r → (k r S').sat (spost Γ W D μ' H') → Q v H') : rdE Γ W f σ H Q := by
  rw [R.sat_then] at h
  exact rd_use a (R.sat_imp h (fun r S' q => q) fun x S' q => xpost_of a q) fun r S' v H' μ' x rv g => q r S' v H' μ' x rv (spost.ext x g)
theorem rdS_thenT {f : MT} {k : Bool → Store → RS} {D : Ends} {σ : L2.St} {H : Hp} {env : EnvD} {S : Store} {μ : Mu} {Q : Bool → Hp → Prop} (a : At Γ σ H env S μ) (h : ((f env S).then env k).sat (spost Γ W D μ H))
    (q : ∀ b S' H' μ', Ext Γ μ H μ' H' → Sim Γ μ' H' S' → (k b S').sat (spost Γ W D μ' H') → Q b H') : rdT Γ W f σ H Q := by
  rw [R.sat_then] at h
  exact rdT_use a (R.sat_imp h (fun r S' q => q) fun x S' q => xpost_of a q) fun b S' H' μ' x s g => q b S' H' μ' x s (spost.ext x g)
/-! ### blocks -/
def nilS : MS := fun env S => .nx env S
def seqS (f g : MS) : MS := fun env S => match f env S with | .nx e S1 => g e S1 | r => r
theorem sd_snil : PSs X [] (rdS Γ W nilS) := pss_nil.weak fun D σ H h => by
  obtain ⟨env, S, μ, a, h⟩ := h
  exact h σ H μ .refl a
theorem rd_seq {f g : MS} {D : Ends} {σ : L2.St} {H : Hp} (h : rdS Γ W (seqS f g) D σ H) : tSeq (rdS Γ W f) (rdS Γ W g) D σ H := by
  obtain ⟨env, S, μ, a, h⟩ := h
  refine ⟨env, S, μ, a, ?_⟩
  unfold seqS at h
  cases e : f env S with
  | nx e1 S1 =>
    rw [e] at h
    exact fun σ' H' μ' x a' => ⟨e1, S1, μ', a', spost.ext x h⟩
  | ret r S1 => rw [e] at h; exact h
  | brk e1 S1 => rw [e] at h; exact h
  | cnt e1 S1 => rw [e] at h; exact h
  | ex x e1 S1 => rw [e] at h; exact h
  | bad => rw [e] at h; exact h
theorem sd_scons {st : Stmt} {rest : List Stmt} {f g : MS} (h1 : PS X st (rdS Γ W f)) (h2 : PSs X rest (rdS Γ W g)) : PSs X (st :: rest) (rdS Γ W (seqS f g)) := (pss_cons h1 h2).weak fun D σ H h => rd_seq h
theorem sd_sone {st : Stmt} {f : MS} (h1 : PS X st (rdS Γ W f)) : PSs X [st] (rdS Γ W f) := pss_one h1
/-! ### the small ones -/
theorem sd_pass : PS X (.Pass pos) (rdS Γ W nilS) := ps_pass.weak fun D σ H h => by
  obtain ⟨env, S, μ, a, h⟩ := h
  exact h σ H μ .refl a
theorem sd_doc {x : Str} {j : Nat} {pos' : Pos} : PS X (.Expr (.Constant (.str x) j pos) pos') (rdS Γ W nilS) := ps_doc.weak fun D σ H h => by
  obtain ⟨env, S, μ, a, h⟩ := h
  exact h σ H μ .refl a
def brkS : MS := fun env S => .brk env S
def cntS : MS := fun env S => .cnt env S
theorem sd_break : PS X (.Break pos) (rdS Γ W brkS) := ps_break.weak fun D σ H h => by
  obtain ⟨env, S, μ, a, h⟩ := h
  exact h σ H μ .refl a
theorem sd_continue : PS X (.Continue pos) (rdS Γ W cntS) := ps_continue.weak fun D σ H h => by
  obtain ⟨env, S, μ, a, h⟩ := h
  exact h σ H μ .refl a
def retS (f : ME) : MS := fun env S => (f env S).then env fun r S1 => .ret r S1
theorem sd_ret {e : Expr} {f : ME} (h : PE X e (rdE Γ W f)) : PS X (.Return (some e) pos) (rdS Γ W (retS f)) := (ps_ret h).weak fun D σ H h => by
  obtain ⟨env, S, μ, a, h⟩ := h
  unfold retS at h
  rw [R.sat_then] at h
  exact rd_use a (R.sat_imp h (fun r S' q => q) fun x S' q => xpost_of a q) fun r S' v H' μ' x rv g => g v H' μ' x rv
def retN : MS := fun _ S => .ret (.val .non) S
theorem sd_retN : PS X (.Return none pos) (rdS Γ W retN) := ps_retN.weak fun D σ H h => by
  obtain ⟨env, S, μ, a, h⟩ := h
  exact h _ _ _ .refl ⟨a.sim, .non⟩
def dropS (f : ME) : MS := fun env S => (f env S).then env fun _ S1 => .nx env S1
theorem sd_expr {e : Expr} {f : ME} (h : PE X e (rdE Γ W f)) (hs : swapsWith e none pos.line X.env = pure false) : PS X (.Expr e pos) (rdS Γ W (dropS f)) := (ps_expr h hs).weak fun D σ H h => by
  obtain ⟨env, S, μ, a, h⟩ := h
  exact rdS_then a h fun r S' v H' μ' x rv g => g σ H' μ' .refl (a.next x rv.sim.1)
def ifS (c : MT) (f g : MS) : MS := fun env S => (c env S).then env fun b S1 => if b then f env S1 else g env S1
theorem sd_ifS {c : Expr} {p q : List Stmt} {t : MT} {f g : MS} (hc : PT X c (rdT Γ W t)) (hp : PSs X p (rdS Γ W f)) (hq : PSs X q (rdS Γ W g)) : PS X (.If c p q pos) (rdS Γ W (ifS t f g)) := (ps_if hc hp hq).weak fun D σ H h => by
  obtain ⟨env, S, μ, a, h⟩ := h
  refine rdS_thenT a h fun b S' H' μ' x s g => ?_
  cases b with
  | true => exact ⟨env, S', μ', a.next x s, g⟩
  | false => exact ⟨env, S', μ', a.next x s, g⟩
/-! ### targets -/
inductive Tg where
  | nm (i : Nat) | tp (ts : List Tg)
mutual
def bindT : Tg → D → EnvD → Option EnvD
  | .nm i, d, env => some (env.set i (some d))
  | .tp ts, d, env => match d with | .tup ds => bindTs ts ds env | _ => none
def bindTs : List Tg → List D → EnvD → Option EnvD
  | [], [], env => some env
  | t :: ts, d :: ds, env => match bindT t d env with | some e => bindTs ts ds e | none => none
  | _, _, _ => none
end
mutual
def Tg.slots : Tg → List Nat
  | .nm i => [i]
  | .tp ts => slotsL ts
def slotsL : List Tg → List Nat
  | [] => []
  | t :: ts => t.slots ++ slotsL ts
end
/-- nothing but these slots is changed -/
def SlotsBut (is : List Nat) (σ σ' : L2.St) : Prop := σ'.length = σ.length ∧ ∀ j, j ∉ is → σ'[j]? = σ[j]?
def rdG (Γ : Gm) (t : Tg) : TG := fun v σ H Q => ∃ env μ d env1, EnvRep Γ H μ σ env ∧ Rep Γ H μ v d ∧ bindT t d env = some env1 ∧ ∀ σ', EnvRep Γ H μ σ' env1 → SlotsBut t.slots σ σ' → Q σ' H
def rdGs (Γ : Gm) (ts : List Tg) : TGs := fun vs σ H Q => ∃ env μ ds env1, EnvRep Γ H μ σ env ∧ Reps Γ H μ vs ds ∧ bindTs ts ds env = some env1 ∧ ∀ σ', EnvRep Γ H μ σ' env1 → SlotsBut (slotsL ts) σ σ' → Q σ' H
theorem _root_.L2.PG.weak {X : Cx} {e : Expr} {t t' : TG} (h : PG X e t) (w : ∀ v σ H Q, t' v σ H Q → t v σ H Q) : PG X e t' := ⟨fun pins s σ H v u Q I r q => h.run pins s σ H v u Q I r (w v σ H Q q)⟩
theorem _root_.L2.PGs.weak {X : Cx} {e : List Expr} {t t' : TGs} (h : PGs X e t) (w : ∀ v σ H Q, t' v σ H Q → t v σ H Q) : PGs X e t' := ⟨fun pins s σ H v u Q I r q => h.run pins s σ H v u Q I r (w v σ H Q q)⟩
theorem sg_name {i : Nat} {x : Str} (hN : X.N.Nodup) (hi : X.N[i]? = some x) (hx : Loc X.env.scope x) (hf : X.fn x = true ∨ X.env.scope.names.lookup x = some .local) : PG X (.Name x pos) (rdG Γ (.nm i)) :=
  (pg_name hN hi hx hf).weak fun v σ H Q h => by
    obtain ⟨env, μ, d, env1, he, r, hb, q⟩ := h
    simp only [bindT] at hb
    cases hb
    refine q _ (he.set i r) ⟨by simp, fun j hj => ?_⟩
    simp only [Tg.slots, List.mem_singleton] at hj
    exact List.getElem?_set_ne (Ne.symm hj)
theorem sgs_nil : PGs X [] (rdGs Γ []) := pgs_nil.weak fun vs σ H Q h => by
  obtain ⟨env, μ, ds, env1, he, r, hb, q⟩ := h
  cases ds with
  | nil =>
    cases r
    simp only [bindTs] at hb
    cases hb
    exact ⟨rfl, q σ he ⟨rfl, fun _ _ => rfl⟩⟩
  | cons d ds => simp [bindTs] at hb
theorem asg_cons {e : Expr} {es : List Expr} {env : Env} (h : notStar e = true) : assignEach (e :: es) env = (false, assign e env) :: assignEach es env := by
  cases e <;> first | rfl | cases h
theorem sgs_cons {e : Expr} {es : List Expr} {t : Tg} {ts : List Tg} (hs : notStar e = true) (h1 : PG X e (rdG Γ t)) (h2 : PGs X es (rdGs Γ ts)) : PGs X (e :: es) (rdGs Γ (t :: ts)) :=
  (pgs_cons h1 h2 (by rw [asg_cons hs]; rfl)).weak fun vs σ H Q h => by
    obtain ⟨env, μ, ds, env1, he, r, hb, q⟩ := h
    cases ds with
    | nil => simp [bindTs] at hb
    | cons d ds =>
      cases r with
      | cons r1 r2 =>
        simp only [bindTs] at hb
        split at hb
        · rename_i e2 h3
          refine ⟨_, _, rfl, env, μ, d, e2, he, r1, h3, fun σ' h4 b1 => ⟨e2, μ, ds, env1, h4, r2, hb, fun σ2 h5 b2 => q σ2 h5 ⟨b2.1.trans b1.1, fun j hj => ?_⟩⟩⟩
          simp only [slotsL, List.mem_append, not_or] at hj
          exact (b2.2 j hj.2).trans (b1.2 j hj.1)
        · cases hb
theorem asg_len : ∀ {es : List Expr} {env : Env}, es.all notStar = true → (assignEach es env).length = es.length ∧ (assignEach es env).findIdx? (·.1) = none
  | [], _, _ => ⟨rfl, rfl⟩
  | e :: es, env, h => by
    obtain ⟨h1, h2⟩ := Bool.and_eq_true_iff.mp (show (notStar e && es.all notStar) = true from h)
    obtain ⟨h3, h4⟩ := asg_len (env := env) h2
    rw [asg_cons h1]
    exact ⟨by rw [List.length_cons, List.length_cons, h3], by rw [List.findIdx?_cons]; simp [h4]⟩
theorem bindTs_len : ∀ {ts : List Tg} {ds : List D} {env env1 : EnvD}, bindTs ts ds env = some env1 → ts.length = ds.length
  | [], [], _, _, _ => rfl
  | t :: ts, d :: ds, env, env1, h => by
    simp only [bindTs] at h
    split at h
    · exact congrArg (· + 1) (bindTs_len h)
    · cases h
  | [], _ :: _, _, _, h => by simp [bindTs] at h
  | _ :: _, [], _, _, h => by simp [bindTs] at h
theorem sg_tup {es : List Expr} {k : Nat} {ts : List Tg} (hK : X.K = Γ.K) (hc : X.calm = true) (hs : es.all notStar = true) (hl : es.length = ts.length) (h : PGs X es (rdGs Γ ts)) : PG X (.Tuple es k pos) (rdG Γ (.tp ts)) :=
  (pg_tup (n := es.length) hc h (asg_len hs).1 (asg_len hs).2).weak fun v σ H Q h => by
    obtain ⟨env, μ, d, env1, he, r, hb, q⟩ := h
    simp only [bindT] at hb
    split at hb
    · rename_i ds
      obtain ⟨a, vs, rfl, h1, h2⟩ := r.tupA
      rw [hK]
      exact ⟨a, vs, rfl, h1, by rw [h2.length, hl, bindTs_len hb], env, μ, ds, env1, he, h2, hb, fun σ' h b => q σ' h (by simp only [Tg.slots]; exact b)⟩
    · cases hb
/-! ### assignments -/
/-- a value for a name: a new object becomes one of the store's where the name's objects are to be changed -/
def takeV (mt : Bool) (r : RV) (S : Store) : D × Store :=
  match mt, r with
  | true, .new ob => (.ref S.length, S ++ [ob])
  | _, r => (r.d, S)
theorem take_ok {mt : Bool} {r : RV} {S : Store} {v : V} {H₀ H : Hp} {μ₀ μ : Mu} (x : Ext Γ μ₀ H₀ μ H) (h : RVAt Γ H₀ μ H S v r) : ∃ μ', Ext Γ μ₀ H₀ μ' H ∧ Sim Γ μ' H (takeV mt r S).2 ∧ Rep Γ H μ' v (takeV mt r S).1 := by
  cases r with
  | val d =>
    obtain ⟨s, r⟩ := h
    cases mt <;> exact ⟨μ, x, s, r⟩
  | new ob =>
    obtain ⟨a, rfl, h0, hm, s, r, s2⟩ := h
    cases mt with
    | false => exact ⟨μ, x, s, r⟩
    | true =>
      refine ⟨μ.add a, ⟨?_, x.hid, x.keep, x.here, fun b hb hn => ?_, x.tabs⟩, s2, .ref ?_⟩
      · obtain ⟨q, hq⟩ := x.pre
        exact ⟨q ++ [a], by show μ.st ++ [a] = _; rw [hq]; simp⟩
      · rcases List.mem_append.mp hb with hb | hb
        · exact x.new b hb hn
        · rw [List.mem_singleton.mp hb]; exact h0
      · show (μ.st ++ [a])[S.length]? = _
        rw [← s.len]; simp
def setS (mt : Bool) (i : Nat) (f : ME) : MS := fun env S => (f env S).then env fun r S1 => .nx (env.set i (some (takeV mt r S1).1)) (takeV mt r S1).2
theorem sd_set {mt : Bool} {i : Nat} {x : Str} {e : Expr} {f : ME} {pos' : Pos} (hN : X.N.Nodup) (hi : X.N[i]? = some x) (hx : Loc X.env.scope x) (he : PE X e (rdE Γ W f)) (hs : swapsWith e (some (.Name x pos')) pos.line X.env = pure false)
    (hf : X.fn x = true ∨ X.env.scope.names.lookup x = some .local) : PS X (.Assign [.Name x pos'] e pos) (rdS Γ W (setS mt i f)) :=
  (ps_set hN hi hx he hs hf).weak fun D σ H h => by
    obtain ⟨env, S, μ, a, h⟩ := h
    unfold setS at h
    rw [R.sat_then] at h
    refine rd_use a (R.sat_imp h (fun r S' q => q) fun x S' q => xpost_of a q) fun r S' v H' μ' x rv g => ?_
    obtain ⟨μ2, x2, s2, r2⟩ := take_ok (mt := mt) x rv
    exact g _ H' μ2 x2 ⟨(a.env.ext x2).set i r2, s2, x2.tabs a.tabs⟩
def asgS (t : Tg) (f : ME) : MS := fun env S => (f env S).then env fun r S1 => match bindT t r.d env with | some e => .nx e S1 | none => .bad
theorem sd_asg {tg e : Expr} {f : ME} {t : Tg} (he : PE X e (rdE Γ W f)) (hg : PG X tg (rdG Γ t)) (hs : swapsWithSole [tg] e pos.line X.env = pure false) (hw : swappedStores [tg] e X.env = pure none) (h1 : (assignEach [tg] X.env).map (·.2) = [assign tg X.env]) :
    PS X (.Assign [tg] e pos) (rdS Γ W (asgS t f)) :=
  (ps_asg he hg hs hw h1).weak fun D σ H h => by
    obtain ⟨env, S, μ, a, h⟩ := h
    unfold asgS at h
    refine rdS_then a h fun r S' v H' μ' x rv g => ?_
    split at g
    · rename_i e2 hb
      obtain ⟨s1, r1⟩ := rv.sim
      exact ⟨env, μ', r.d, e2, a.env.ext x, r1, hb, fun σ' h' _ => g σ' H' μ' .refl ⟨h', s1, x.tabs a.tabs⟩⟩
    · exact False.elim g
end
end Ev
/-! Ev7: loops, what is walked, comprehensions. -/
namespace Ev
open PySem L2 PyProof.Rows
/-- a new list that is in the making -/
theorem Ext.hideL {Γ : Gm} {μ : Mu} {H : Hp} {p : Addr} (hp : H p = none) (o : HO) {v : V} {d : D} (r : Rep Γ H μ v d) : Rep Γ (upd H p o) (μ.hide p) v d := by
  have st : ∀ {b u}, Still H μ b u → Still (upd H p o) (μ.hide p) b u := fun {b u} h => by
    have ne := ne_of_none h.1 hp
    refine ⟨by rw [upd_ne ne]; exact h.1, h.2.1, fun z => ?_⟩
    rcases List.mem_cons.mp z with z | z
    · exact ne z
    · exact h.2.2 z
  induction r using Rep.rec (motive_2 := fun vs ds _ => Reps Γ (upd H p o) (μ.hide p) vs ds) with
  | non => exact .non
  | bl b => exact .bl b
  | int i => exact .int i
  | str x => exact .str x
  | tup h _ ih => exact .tup (h.imp st id) ih
  | lst h _ ih => exact .lst (st h) ih
  | scr h _ ih => exact .scr (st h) ih
  | dct h _ ih => exact .dct (st h) ih
  | ins h h2 _ ih => exact .ins (st h) (st h2) ih
  | exc h h1 h2 h3 h4 _ ih => exact .exc (st h) h1 h2 h3 (st h4) ih
  | glb n => exact .glb n
  | xdd h => exact .xdd (st h)
  | ref h => exact .ref h
  | nil => exact .nil
  | cons _ _ i1 i2 => exact .cons i1 i2
section
variable {Γ : Gm} {μ : Mu} {H : Hp} {p : Addr}
theorem Reps.hideL (hp : H p = none) (o : HO) : ∀ {vs : List V} {ds : List D}, Reps Γ H μ vs ds → Reps Γ (upd H p o) (μ.hide p) vs ds
  | _, _, .nil => .nil
  | _, _, .cons r t => .cons (Ext.hideL hp o r) (t.hideL hp o)
/-- seen from (μ₀, H₀), perhaps with one thing more in the making -/
def Vw (Γ : Gm) (μ₀ : Mu) (H₀ : Hp) (μ : Mu) (H : Hp) : Prop := Ext Γ μ₀ H₀ μ H ∨ ∃ p o, H₀ p = none ∧ Ext Γ (μ₀.hide p) (upd H₀ p o) μ H
theorem Vw.rep {μ₀ : Mu} {H₀ : Hp} (w : Vw Γ μ₀ H₀ μ H) {v : V} {d : D} (r : Rep Γ H₀ μ₀ v d) : Rep Γ H μ v d := by
  rcases w with x | ⟨p, o, hp, x⟩
  · exact r.ext x
  · exact (Ext.hideL hp o r).ext x
theorem Vw.still {μ₀ : Mu} {H₀ : Hp} (w : Vw Γ μ₀ H₀ μ H) {b : Addr} {u : HO} (h : Still H₀ μ₀ b u) (n : ∀ ps, u ≠ .tbl ps) : Still H μ b u := by
  rcases w with x | ⟨p, o, hp, x⟩
  · exact x.still h n
  · have ne := ne_of_none h.1 hp
    refine x.still ⟨by rw [upd_ne ne]; exact h.1, h.2.1, fun z => ?_⟩ n
    rcases List.mem_cons.mp z with z | z
    · exact ne z
    · exact h.2.2 z
end
/-- what is walked: items that stand, or a list of the store as it is at each turn -/
inductive Src where
  | st (ds : List D) | rf (n : Nat)
abbrev MI := EnvD → Store → R Src
def Step1 (H H' : Hp) : Prop := H' = H ∨ ∃ p ys, H p = none ∧ H' = upd H p (.tup ys)
theorem Step1.ext {Γ : Gm} {μ : Mu} {H H' : Hp} (h : Step1 H H') : Ext Γ μ H μ H' := by
  rcases h with rfl | ⟨p, ys, hp, rfl⟩
  · exact .refl
  · exact .laid hp _
theorem Step1.sim {Γ : Gm} {μ : Mu} {H H' : Hp} {S : Store} (h : Step1 H H') (s : Sim Γ μ H S) : Sim Γ μ H' S := by
  rcases h with rfl | ⟨p, ys, hp, rfl⟩
  · exact s
  · exact s.laid hp _
/-- J feeds the items ds from (μ₀, H₀) on -/
def Feeds (Γ : Gm) (J : It) (μ₀ : Mu) (H₀ : Hp) (ds : List D) : Prop := ∃ (G : Hp → Prop) (Y : Nat → Hp → V → Hp → Prop), Walk J ds.length G Y ∧ (∀ μ H, Vw Γ μ₀ H₀ μ H → G H) ∧
  ∀ μ H S i x H', Vw Γ μ₀ H₀ μ H → Sim Γ μ H S → i < ds.length → Y i H x H' → ∃ d, ds[i]? = some d ∧ Step1 H H' ∧ Rep Γ H' μ x d
def FeedsS (Γ : Gm) (J : It) (μ₀ : Mu) (H₀ : Hp) : Src → Prop
  | .st ds => Feeds Γ J μ₀ H₀ ds
  | .rf n => ∃ a, μ₀.st[n]? = some a ∧ J = Itl Γ.K a
def rdI (Γ : Gm) (W : WX) (m : MI) : TI := fun σ H Rr => ∃ env S μ, At Γ σ H env S μ ∧ (m env S).sat (fun src S' => ∀ J H' μ', Ext Γ μ H μ' H' → Sim Γ μ' H' S' → FeedsS Γ J μ' H' src → Rr J H') (XPost Γ W σ μ H)
theorem _root_.L2.PI.weak {X : Cx} {tg e : Expr} {t t' : TI} (h : PI X tg e t) (w : ∀ σ H Q, t' σ H Q → t σ H Q) : PI X tg e t' := ⟨fun pins s σ H Q I q => h.run pins s σ H Q I (w σ H Q q)⟩
section
variable {Γ : Gm} {μ : Mu} {H : Hp}
theorem feeds_lst {a : Addr} {vs : List V} {ds : List D} (st : Still H μ a (.lst vs)) (r : Reps Γ H μ vs ds) : Feeds Γ (Itl Γ.K a) μ H ds := by
  refine ⟨fun H => SqL Γ.K H a vs, _, by rw [← r.length]; exact walk_list (xs := vs), fun μ' H' x => SqL.of (x.still st fun ps z => by cases z).1, fun μ' H' _ i v H2 x _ hi y => ?_⟩
  obtain ⟨rfl, y⟩ := y
  obtain ⟨d, h1, h2⟩ := r.getV y
  exact ⟨d, h1, .inl rfl, x.rep h2⟩
theorem feeds_scr {a : Addr} {ob : Obj} {vs : List V} {ds : List D} (st : Still H μ a (.frz ob (.lst vs))) (r : Reps Γ H μ vs ds) : Feeds Γ (Itl Γ.K a) μ H ds := by
  refine ⟨fun H => SqL Γ.K H a vs, _, by rw [← r.length]; exact walk_list (xs := vs), fun μ' H' x => .inl (.inr ⟨ob, (x.still st fun ps z => by cases z).1⟩), fun μ' H' _ i v H2 x _ hi y => ?_⟩
  obtain ⟨rfl, y⟩ := y
  obtain ⟨d, h1, h2⟩ := r.getV y
  exact ⟨d, h1, .inl rfl, x.rep h2⟩
theorem feeds_tup {a : Addr} {vs : List V} {ds : List D} (st : Still H μ a (.tup vs) ∨ StaT Γ.K a vs) (r : Reps Γ H μ vs ds) : Feeds Γ (Itt Γ.K a) μ H ds := by
  refine ⟨fun H => SqT Γ.K H a vs, _, by rw [← r.length]; exact walk_tup (xs := vs), fun μ' H' x => ?_, fun μ' H' _ i v H2 x _ hi y => ?_⟩
  · rcases st with st | st
    · exact .of (x.still st fun ps z => by cases z).1
    · exact .inr st
  · obtain ⟨rfl, y⟩ := y
    obtain ⟨d, h1, h2⟩ := r.getV y
    exact ⟨d, h1, .inl rfl, x.rep h2⟩
def rangeL (lo : Int) (n : Nat) : List D := (List.range n).map fun (i : Nat) => .int (lo + (i : Int))
theorem feeds_range {lo : Int} {n : Nat} : Feeds Γ (Itr lo n) μ H (rangeL lo n) := by
  refine ⟨fun _ => True, _, by rw [show (rangeL lo n).length = n by simp [rangeL]]; exact walk_range, fun _ _ _ => trivial, fun μ' H' _ i v H2 x _ hi y => ?_⟩
  obtain ⟨rfl, rfl⟩ := y
  have hi' : i < n := by simpa [rangeL] using hi
  exact ⟨.int (lo + i), by simp [rangeL, hi'], .inl rfl, .int _⟩
def signsL (z : Str) : List D := z.cps.toList.map fun c => .str ⟨#[c]⟩
theorem feeds_str {z : Str} : Feeds Γ (Its z) μ H (signsL z) := by
  refine ⟨fun _ => True, _, by rw [show (signsL z).length = z.cps.size by simp [signsL]]; exact walk_str, fun _ _ _ => trivial, fun μ' H' _ i v H2 x _ hi y => ?_⟩
  obtain ⟨rfl, c, hc, rfl⟩ := y
  have e : z.cps.toList[i]? = some c := by rw [Array.getElem?_toList]; exact hc
  exact ⟨.str ⟨#[c]⟩, by simp [signsL, e], .inl rfl, .str _⟩
def enumL (ds : List D) : Nat → List D
  | i => match ds with | [] => [] | d :: r => .tup [.int (i : Nat), d] :: enumL r (i + 1)
theorem enumL_get : ∀ (ds : List D) (k i : Nat), (enumL ds k)[i]? = ds[i]?.map fun d => .tup [.int ((k + i : Nat) : Int), d]
  | [], k, i => by simp [enumL]
  | d :: ds, k, 0 => by simp [enumL]
  | d :: ds, k, i + 1 => by
    have := enumL_get ds (k + 1) i
    simp only [enumL, List.getElem?_cons_succ, this]
    rw [show k + 1 + i = k + (i + 1) by omega]
theorem enumL_length : ∀ (ds : List D) (k : Nat), (enumL ds k).length = ds.length
  | [], _ => rfl
  | _ :: ds, k => congrArg (· + 1) (enumL_length ds (k + 1))
theorem step_tup {p : Addr} {ys : List V} (hp : H p = none) : Step1 H (upd H p (.tup ys)) := .inr ⟨p, ys, hp, rfl⟩
theorem pair_rep {p : Addr} {x y : V} {d e : D} {S : Store} (hm : μ.no p) (hp : H p = none) (rx : Rep Γ H μ x d) (ry : Rep Γ H μ y e) : Rep Γ (upd H p (.tup [x, y])) μ (.ref p) (.tup [d, e]) :=
  .tup (.inl ⟨upd_same, hm⟩) (.cons (rx.ext (Ext.laid hp _)) (.cons (ry.ext (Ext.laid hp _)) .nil))
end
/-! ### the loop -/
def forL (t : Tg) (body : MS) : List D → MS
  | [] => fun env S => .nx env S
  | d :: ds => fun env S => match bindT t d env with
    | none => .bad
    | some e1 => match body e1 S with
      | .nx e2 S2 => forL t body ds e2 S2
      | .cnt e2 S2 => forL t body ds e2 S2
      | .brk e2 S2 => .nx e2 S2
      | r => r
def forR (n : Nat) (t : Tg) (body : MS) : Nat → Nat → MS
  | 0, _ => fun _ _ => .bad
  | k + 1, i => fun env S => match S[n]? with
    | some (.lst xs) => match xs[i]? with
      | none => .nx env S
      | some d => match bindT t d env with
        | none => .bad
        | some e1 => match body e1 S with
          | .nx e2 S2 => forR n t body k (i + 1) e2 S2
          | .cnt e2 S2 => forR n t body k (i + 1) e2 S2
          | .brk e2 S2 => .nx e2 S2
          | r => r
    | _ => .bad
def loopS (fuel : Nat) (t : Tg) (body : MS) : Src → MS
  | .st ds => forL t body ds
  | .rf n => forR n t body fuel 0
def forS (fuel : Nat) (t : Tg) (it : MI) (body : MS) : MS := fun env S => (it env S).then env fun src S1 => loopS fuel t body src env S1
section
variable {Γ : Gm} {X : Cx} {W : WX} {pos : Pos}
/-- one turn's end -/
theorem turn_sat {Z : Ends} {μ : Mu} {H : Hp} {r : RS} {k : MS} {N : L2.St → Hp → Prop}
    (h : (match r with | .nx e2 S2 => k e2 S2 | .cnt e2 S2 => k e2 S2 | .brk e2 S2 => .nx e2 S2 | r => r : RS).sat (spost Γ W Z μ H))
    (hN : ∀ e2 S2 σ' H' μ', Ext Γ μ H μ' H' → At Γ σ' H' e2 S2 μ' → (k e2 S2).sat (spost Γ W Z μ' H') → N σ' H') :
    r.sat (spost Γ W { nx := N, rt := Z.rt, bk := Z.nx, ct := N } μ H) := by
  cases r with
  | nx e2 S2 => exact fun σ' H' μ' x a => hN e2 S2 σ' H' μ' x a (spost.ext x h)
  | cnt e2 S2 => exact fun σ' H' μ' x a => hN e2 S2 σ' H' μ' x a (spost.ext x h)
  | brk e2 S2 => exact h
  | ret r S2 => exact h
  | ex y e2 S2 => exact h
  | bad => exact h
theorem rd_for {fuel : Nat} {t : Tg} {it : MI} {body : MS} {Z : Ends} {σ : L2.St} {H : Hp} (hK : X.K = Γ.K) (h : rdS Γ W (forS fuel t it body) Z σ H) : tFor (rdI Γ W it) (rdG Γ t) (rdS Γ W body) Z σ H := by
  obtain ⟨env, S, μ, a, h⟩ := h
  unfold forS at h
  rw [R.sat_then] at h
  refine ⟨env, S, μ, a, R.sat_imp h (fun src S1 q => ?_) fun x S' q => xpost_of a q⟩
  intro J H1 μ1 x1 s1 fd
  have a1 := a.next x1 s1
  have q1 := spost.ext x1 q
  cases src with
  | st ds =>
    obtain ⟨G, Y, w, hG, hY⟩ := fd
    refine for_it w (fun i σ' H' => ∃ env' S' μ', Ext Γ μ1 H1 μ' H' ∧ At Γ σ' H' env' S' μ' ∧ (forL t body (ds.drop i) env' S').sat (spost Γ W Z μ' H')) ⟨env, S1, μ1, .refl, a1, q1⟩ (fun i σ' H' _ ⟨_, _, μ', x', _, _⟩ => hG μ' H' (.inl x')) ?_ ?_
    · rintro i x σ' H' H2 hi ⟨env', S', μ', x', a', q'⟩ y
      obtain ⟨d, hd, hst, hr⟩ := hY μ' H' S' i x H2 (.inl x') a'.sim hi y
      have ed : ds.drop i = d :: ds.drop (i + 1) := by
        obtain ⟨h1, h2⟩ := List.getElem?_eq_some_iff.mp hd
        rw [List.drop_eq_getElem_cons h1, h2]
      rw [ed] at q'
      simp only [forL] at q'
      split at q'
      · exact False.elim q'
      · rename_i e1 he1
        have x2 := hst.ext (Γ := Γ) (μ := μ')
        have a2 : At Γ σ' H2 env' S' μ' := a'.next x2 (hst.sim a'.sim)
        refine ⟨env', μ', d, e1, a2.env, hr, he1, fun σ2 h2 _ => ?_⟩
        refine ⟨e1, S', μ', ⟨h2, a2.sim, a2.tabs⟩, ?_⟩
        refine turn_sat (Z := Z) (k := forL t body (ds.drop (i + 1))) (spost.ext x2 q') fun e2 S2 σ3 H3 μ3 x3 a3 q3 => ⟨e2, S2, μ3, x'.trans (x2.trans x3), a3, q3⟩
    · rintro σ' H' ⟨env', S', μ', x', a', q'⟩
      rw [List.drop_length] at q'
      exact q' σ' H' μ' .refl a'
  | rf n =>
    obtain ⟨l, hl, rfl⟩ := fd
    refine ⟨fun i m σ' H' => ∃ env' S' μ', Ext Γ μ1 H1 μ' H' ∧ At Γ σ' H' env' S' μ' ∧ (forR n t body m i env' S').sat (spost Γ W Z μ' H'), ⟨fuel, env, S1, μ1, .refl, a1, q1⟩, ?_⟩
    rintro i m σ' H' ⟨env', S', μ', x', a', q'⟩
    cases m with
    | zero => exact False.elim q'
    | succ k =>
      simp only [forR] at q'
      split at q'
      · rename_i xs hS
        have hl' := x'.at hl
        obtain ⟨vs, hv, rv⟩ := a'.sim.ats n l _ hl' hS
        split at q'
        · rename_i hn
          refine .inl ⟨⟨vs, .of hv, ?_⟩, q' σ' H' μ' .refl a'⟩
          rw [rv.length]
          exact List.getElem?_eq_none_iff.mp hn
        · rename_i d hd
          obtain ⟨v, hv1, rv1⟩ := rv.get hd
          split at q'
          · exact False.elim q'
          · rename_i e1 he1
            refine .inr ⟨⟨vs, v, .of hv, hv1⟩, fun σ2 H2 => ∃ m', m' < k + 1 ∧ ∃ env' S' μ', Ext Γ μ1 H1 μ' H2 ∧ At Γ σ2 H2 env' S' μ' ∧ (forR n t body m' (i + 1) env' S').sat (spost Γ W Z μ' H2), fun σ2 H2 z => z, fun x H2 y => ?_⟩
            obtain ⟨rfl, y⟩ := y
            have e2 := y vs (.of hv)
            rw [hv1] at e2
            cases e2
            refine ⟨env', μ', d, e1, a'.env, rv1, he1, fun σ2 h2 _ => ?_⟩
            refine ⟨e1, S', μ', ⟨h2, a'.sim, a'.tabs⟩, ?_⟩
            exact turn_sat (Z := Z) (k := forR n t body k (i + 1)) q' fun e2 S2 σ3 H3 μ3 x3 a3 q3 => ⟨k, Nat.lt_succ_self k, e2, S2, μ3, x'.trans x3, a3, q3⟩
      · exact False.elim q'
theorem sd_for {fuel : Nat} {t : Tg} {tg iter : Expr} {body : List Stmt} {it : MI} {b : MS} (hK : X.K = Γ.K) (hp : PassesOwn (model X.prog X.w) X.A X.env X.xe) (hc : X.calm = true) (hi : PI X tg iter (rdI Γ W it)) (hg : PG X tg (rdG Γ t)) (hb : PSs X body (rdS Γ W b))
    (hs : ∀ x, foldedSetIterable iter X.env x = pure x) : PS X (.For tg iter body [] pos) (rdS Γ W (forS fuel t it b)) := (ps_for hp hc hi hg hb hs).weak fun D σ H h => rd_for hK h
/-! ### while -/
def whS (c : MT) (body : MS) : Nat → MS
  | 0 => fun _ _ => .bad
  | k + 1 => fun env S => (c env S).then env fun b S1 => if b then (match body env S1 with
      | .nx e2 S2 => whS c body k e2 S2
      | .cnt e2 S2 => whS c body k e2 S2
      | .brk e2 S2 => .nx e2 S2
      | r => r) else .nx env S1
theorem sd_while {fuel : Nat} {c : Expr} {body : List Stmt} {m : MT} {b : MS} (hp : PassesOwn (model X.prog X.w) X.A X.env X.xe) (hc : PT X c (rdT Γ W m)) (hb : PSs X body (rdS Γ W b)) : PS X (.While c body [] pos) (rdS Γ W (whS m b fuel)) :=
  (ps_while hp hc hb).weak fun Z σ H h => by
    obtain ⟨env, S, μ, a, h⟩ := h
    refine ⟨fun n σ' H' => ∃ env' S' μ', Ext Γ μ H μ' H' ∧ At Γ σ' H' env' S' μ' ∧ (whS m b n env' S').sat (spost Γ W Z μ' H'), ⟨fuel, env, S, μ, .refl, a, h⟩, ?_⟩
    rintro n σ' H' ⟨env', S', μ', x', a', q'⟩
    cases n with
    | zero => exact False.elim q'
    | succ k =>
      simp only [whS] at q'
      refine rdS_thenT a' q' fun bb S1 H1 μ1 x1 s1 g => ?_
      have a1 := a'.next x1 s1
      cases bb with
      | true =>
        rw [if_pos rfl] at g ⊢
        refine ⟨fun σ2 H2 => ∃ m', m' < k + 1 ∧ ∃ env' S' μ', Ext Γ μ H μ' H2 ∧ At Γ σ2 H2 env' S' μ' ∧ (whS m b m' env' S').sat (spost Γ W Z μ' H2), fun σ2 H2 z => z, env', S1, μ1, a1, ?_⟩
        exact turn_sat (Z := Z) (k := whS m b k) g fun e2 S2 σ3 H3 μ3 x3 a3 q3 => ⟨k, Nat.lt_succ_self k, e2, S2, μ3, (x'.trans x1).trans x3, a3, q3⟩
      | false =>
        rw [if_neg (by decide)] at g ⊢
        exact g σ' H1 μ1 .refl a1
end
/-! ### comprehensions -/
def lcL (t : Tg) (c : MT) (f : ME) : List D → EnvD → Store → R (List D)
  | [], _, S => .ok [] S
  | d :: ds, env, S => match bindT t d env with
    | none => .bad
    | some e1 => (c e1 S).bind fun b S1 => if b then (f e1 S1).bind fun y S2 => (lcL t c f ds env S2).bind fun ys S3 => .ok (y.d :: ys) S3
        else lcL t c f ds env S1
def lcR (n : Nat) (t : Tg) (c : MT) (f : ME) : Nat → Nat → EnvD → Store → R (List D)
  | 0, _, _, _ => .bad
  | k + 1, i, env, S => match S[n]? with
    | some (.lst xs) => match xs[i]? with
      | none => .ok [] S
      | some d => match bindT t d env with
        | none => .bad
        | some e1 => (c e1 S).bind fun b S1 => if b then (f e1 S1).bind fun y S2 => (lcR n t c f k (i + 1) env S2).bind fun ys S3 => .ok (y.d :: ys) S3
            else lcR n t c f k (i + 1) env S1
    | _ => .bad
def noEx {α : Type} (r : R α) : R α := match r with | .ex _ _ => .bad | r => r
def lcSrc (fuel : Nat) (t : Tg) (c : MT) (f : ME) : Src → EnvD → Store → R (List D)
  | .st ds => lcL t c f ds
  | .rf n => lcR n t c f fuel 0
def wipeD (vs : List Nat) (env : EnvD) : EnvD := match vs with
  | [] => env
  | i :: vs => (wipeD vs env).set i none
def lcF (fuel : Nat) (vs : List Nat) (t : Tg) (it : MI) (c : MT) (f : ME) : ME := fun env S => (it env S).bind fun src S1 =>
  (noEx (lcSrc fuel t c f src (wipeD vs env) S1)).bind fun ys S2 => if ys.length ≤ 16777216 then .ok (.new (.lst ys)) S2 else .bad
end Ev
/-! Ev8: comprehensions, what is walked, further statements. -/
namespace Ev
open PySem L2 PyProof.Rows
theorem wipe_get (σ : L2.St) (vs : List Nat) (j : Nat) : (wipe σ vs)[j]? = if j ∈ vs then (if j < σ.length then some none else none) else σ[j]? := by
  induction vs with
  | nil => simp [wipe]
  | cons v vs ih =>
    unfold wipe
    by_cases e : v = j
    · subst e
      rw [if_pos List.mem_cons_self, List.getElem?_set, if_pos rfl, wipe_length]
    · rw [List.getElem?_set_ne e, ih]
      have h : (j ∈ v :: vs) ↔ j ∈ vs := ⟨fun h => (List.mem_cons.mp h).resolve_left (Ne.symm e), List.mem_cons_of_mem _⟩
      simp only [h]
theorem wipe_same {σ σ2 : L2.St} {vs ss : List Nat} (hs : ∀ j ∈ ss, j ∈ vs) (b : SlotsBut ss (wipe σ vs) σ2) : wipe σ2 vs = wipe σ vs := by
  refine List.ext_getElem? fun j => ?_
  rw [wipe_get]
  have hl : σ2.length = σ.length := by rw [b.1, wipe_length]
  by_cases h : j ∈ vs
  · rw [if_pos h, wipe_get, if_pos h, hl]
  · rw [if_neg h]
    exact b.2 j fun z => h (hs j z)
theorem EnvRep.wipe {Γ : Gm} {H : Hp} {μ : Mu} {σ : L2.St} {env : EnvD} (h : EnvRep Γ H μ σ env) : ∀ vs : List Nat, EnvRep Γ H μ (L2.wipe σ vs) (wipeD vs env)
  | [] => h
  | v :: vs => (h.wipe vs).drop v
/-- out of the making: seen with fewer hidden ones -/
theorem Rep.unhide {Γ : Gm} {μ : Mu} {H : Hp} {p : Addr} {v : V} {d : D} (r : Rep Γ H (μ.hide p) v d) : Rep Γ H μ v d := by
  have st : ∀ {b u}, Still H (μ.hide p) b u → Still H μ b u := fun {b u} h => ⟨h.1, h.2.1, fun z => h.2.2 (List.mem_cons_of_mem _ z)⟩
  induction r using Rep.rec (motive_2 := fun vs ds _ => Reps Γ H μ vs ds) with
  | non => exact .non
  | bl b => exact .bl b
  | int i => exact .int i
  | str x => exact .str x
  | tup h _ ih => exact .tup (h.imp st id) ih
  | lst h _ ih => exact .lst (st h) ih
  | scr h _ ih => exact .scr (st h) ih
  | dct h _ ih => exact .dct (st h) ih
  | ins h h2 _ ih => exact .ins (st h) (st h2) ih
  | exc h h1 h2 h3 h4 _ ih => exact .exc (st h) h1 h2 h3 (st h4) ih
  | glb n => exact .glb n
  | xdd h => exact .xdd (st h)
  | ref h => exact .ref h
  | nil => exact .nil
  | cons _ _ i1 i2 => exact .cons i1 i2
section
variable {Γ : Gm} {μ : Mu} {H : Hp} {p : Addr}
theorem Reps.unhide : ∀ {vs : List V} {ds : List D}, Reps Γ H (μ.hide p) vs ds → Reps Γ H μ vs ds
  | _, _, .nil => .nil
  | _, _, .cons r t => .cons r.unhide t.unhide
/-- a hidden object is written: nobody sees it -/
theorem Rep.wrhid {v : V} {d : D} (hm : p ∈ μ.hd) (o : HO) (r : Rep Γ H μ v d) : Rep Γ (upd H p o) μ v d := by
  have st : ∀ {b u}, Still H μ b u → Still (upd H p o) μ b u := fun {b u} h => ⟨by rw [upd_ne (fun (z : b = p) => h.2.2 (by rw [z]; exact hm))]; exact h.1, h.2⟩
  induction r using Rep.rec (motive_2 := fun vs ds _ => Reps Γ (upd H p o) μ vs ds) with
  | non => exact .non
  | bl b => exact .bl b
  | int i => exact .int i
  | str x => exact .str x
  | tup h _ ih => exact .tup (h.imp st id) ih
  | lst h _ ih => exact .lst (st h) ih
  | scr h _ ih => exact .scr (st h) ih
  | dct h _ ih => exact .dct (st h) ih
  | ins h h2 _ ih => exact .ins (st h) (st h2) ih
  | exc h h1 h2 h3 h4 _ ih => exact .exc (st h) h1 h2 h3 (st h4) ih
  | glb n => exact .glb n
  | xdd h => exact .xdd (st h)
  | ref h => exact .ref h
  | nil => exact .nil
  | cons _ _ i1 i2 => exact .cons i1 i2
theorem Reps.wrhid (hm : p ∈ μ.hd) (o : HO) : ∀ {vs : List V} {ds : List D}, Reps Γ H μ vs ds → Reps Γ (upd H p o) μ vs ds
  | _, _, .nil => .nil
  | _, _, .cons r t => .cons (r.wrhid hm o) (t.wrhid hm o)
theorem ObAt.map {H' : Hp} {μ' : Mu} {a : Addr} {ob : Ob} (e : ∀ o, H a = Option.some o → H' a = Option.some o) (k : ∀ {vs ds}, Reps Γ H μ vs ds → Reps Γ H' μ' vs ds) (h : ObAt Γ H μ a ob) : ObAt Γ H' μ' a ob := by
  cases ob with
  | lst ds => obtain ⟨vs, h, r⟩ := h; exact ⟨vs, e _ h, k r⟩
  | dct ks ds => obtain ⟨vs, h, q, r⟩ := h; exact ⟨vs, e _ h, q, k r⟩
  | ins c fs => obtain ⟨dx, vs, h, q, r⟩ := h; exact ⟨dx, vs, e _ h, q, k r⟩
  | slo c fs =>
    have k1 : ∀ {v d}, Rep Γ H μ v d → Rep Γ H' μ' v d := fun {v d} r => by
      cases k (.cons r .nil) with
      | cons r _ => exact r
    obtain ⟨dx, vs, h, q, r⟩ := h; exact ⟨dx, vs, e _ h, k1 q, r.map k1⟩
/-- the state, with one more thing hidden -/
theorem At.hide {σ : L2.St} {env : EnvD} {S : Store} (a : At Γ σ H env S μ) (hp : H p = none) (o : HO) : At Γ σ (upd H p o) env S (μ.hide p) := by
  refine ⟨⟨a.env.1, fun i d e => ?_⟩, ⟨a.sim.len, a.sim.nd, fun n b ob h1 h2 => ?_, fun b hb z => ?_, fun b hb => ?_⟩, tabs_upd hp o a.tabs⟩
  · obtain ⟨v, h1, h2⟩ := a.env.2 i d e
    exact ⟨v, h1, Ext.hideL hp o h2⟩
  · have h := a.sim.ats n b ob h1 h2
    exact h.map (fun u e => by rw [upd_ne (ne_of_none e hp)]; exact e) fun r => r.hideL hp o
  · rcases List.mem_cons.mp z with z | z
    · obtain ⟨u, hu⟩ := a.sim.there b hb
      rw [z, hp] at hu; cases hu
    · exact a.sim.apart b hb z
  · rcases List.mem_cons.mp hb with z | z
    · exact ⟨o, by rw [z, upd_same]⟩
    · obtain ⟨u, hu⟩ := a.sim.hth b z
      exact ⟨u, by rw [upd_ne (ne_of_none hu hp)]; exact hu⟩
theorem Sim.unhide {S : Store} (s : Sim Γ (μ.hide p) H S) : Sim Γ μ H S :=
  ⟨s.len, s.nd, fun n b ob h1 h2 => (s.ats n b ob h1 h2).map (fun _ e => e) fun r => r.unhide, fun b hb z => s.apart b hb (List.mem_cons_of_mem _ z), fun b hb => s.hth b (List.mem_cons_of_mem _ hb)⟩
theorem At.wrhid {σ : L2.St} {env : EnvD} {S : Store} (a : At Γ σ H env S μ) (hm : p ∈ μ.hd) (o : HO) (ht : ∀ ps, H p ≠ Option.some (.tbl ps)) (hc : ∀ q, H p ≠ Option.some (LamX.CodeO p q)) : At Γ σ (upd H p o) env S μ := by
  refine ⟨⟨a.env.1, fun i d e => ?_⟩, ⟨a.sim.len, a.sim.nd, fun n b ob h1 h2 => ?_, a.sim.apart, fun b hb => ?_⟩, tabs_write ht hc o a.tabs⟩
  · obtain ⟨v, h1, h2⟩ := a.env.2 i d e
    exact ⟨v, h1, h2.wrhid hm o⟩
  · have h := a.sim.ats n b ob h1 h2
    have nb : b ≠ p := fun z => a.sim.apart b (List.mem_of_getElem? h1) (z ▸ hm)
    exact h.map (fun u e => by rw [upd_ne nb]; exact e) fun r => r.wrhid hm o
  · by_cases e : b = p
    · exact ⟨o, by rw [e, upd_same]⟩
    · obtain ⟨u, hu⟩ := a.sim.hth b hb
      exact ⟨u, by rw [upd_ne e]; exact hu⟩
end
theorem lst_nocode {H : Hp} {p : Addr} {vs : List V} (h : H p = some (.lst vs)) : (∀ ps, H p ≠ some (.tbl ps)) ∧ ∀ q, H p ≠ some (LamX.CodeO p q) := by
  refine ⟨fun ps z => ?_, fun q z => ?_⟩
  · rw [h] at z; cases z
  · have hc : ∃ φ, LamX.CodeO p q = .ext φ := ⟨_, rfl⟩
    obtain ⟨φ, hφ⟩ := hc
    rw [h, hφ] at z; cases z
/-- from the entry (μ₀, H₀) to the making of the list at p -/
structure Mk1 (Γ : Gm) (μ₀ : Mu) (H₀ : Hp) (p : Addr) (μ : Mu) (H : Hp) : Prop where
  pre : ∃ r, μ.st = μ₀.st ++ r
  hid : μ.hd = p :: μ₀.hd
  keep : ∀ b o, H₀ b = some o → b ∉ μ₀.st → (∀ ps, o ≠ .tbl ps) → H b = some o
  here : ∀ b o, H₀ b = some o → ∃ o', H b = some o'
  new : ∀ b ∈ μ.st, b ∉ μ₀.st → H₀ b = none
  tabs : LamX.Tabs Γ.T H₀ → LamX.Tabs Γ.T H
section
variable {Γ : Gm} {μ₀ μ μ' : Mu} {H₀ H H' : Hp} {p : Addr}
theorem Mk1.begin (hp : H₀ p = none) (o : HO) : Mk1 Γ μ₀ H₀ p (μ₀.hide p) (upd H₀ p o) :=
  ⟨⟨[], by simp [Mu.hide]⟩, rfl, fun b u e _ _ => by rw [upd_ne (ne_of_none e hp)]; exact e, fun b u e => ⟨u, by rw [upd_ne (ne_of_none e hp)]; exact e⟩, fun b h1 h2 => absurd h1 h2, tabs_upd hp o⟩
theorem Mk1.ext (m : Mk1 Γ μ₀ H₀ p μ H) (x : Ext Γ μ H μ' H') : Mk1 Γ μ₀ H₀ p μ' H' where
  pre := by
    obtain ⟨r, h1⟩ := m.pre
    obtain ⟨q, h2⟩ := x.pre
    exact ⟨r ++ q, by rw [h2, h1]; simp⟩
  hid := x.hid.trans m.hid
  keep := fun c o h hm n => by
    refine x.keep c o (m.keep c o h hm n) (fun z => ?_) n
    have q := m.new c z hm
    rw [h] at q; cases q
  here := fun c o h => by
    obtain ⟨o1, h1⟩ := m.here c o h
    exact x.here c o1 h1
  new := fun c hc hm => by
    by_cases h1 : c ∈ μ.st
    · exact m.new c h1 hm
    · have q := x.new c hc h1
      cases e : H₀ c with
      | none => rfl
      | some o =>
        obtain ⟨o1, h1⟩ := m.here c o e
        rw [q] at h1; cases h1
  tabs := fun h => x.tabs (m.tabs h)
/-- from the entry with p's own object as it is now -/
theorem Mk1.at (m : Mk1 Γ μ₀ H₀ p μ H) (hns : p ∉ μ.st) (ht : LamX.Tabs Γ.T H) {o : HO} (h : H p = some o) : Ext Γ (μ₀.hide p) (upd H₀ p o) μ H where
  pre := m.pre
  hid := m.hid
  keep := fun b u e hm n => by
    by_cases hb : b = p
    · rw [hb, upd_same] at e; rw [hb, h, ← e]
    · rw [upd_ne hb] at e; exact m.keep b u e hm n
  here := fun b u e => by
    by_cases hb : b = p
    · exact ⟨o, by rw [hb]; exact h⟩
    · rw [upd_ne hb] at e; exact m.here b u e
  new := fun b hb hm => by
    by_cases e : b = p
    · exact absurd (e ▸ hb) hns
    · rw [upd_ne e]; exact m.new b hb hm
  tabs := fun _ => ht
theorem Mk1.write (m : Mk1 Γ μ₀ H₀ p μ H) (hp : H₀ p = none) (o : HO) (ht : ∀ ps, H p ≠ some (.tbl ps)) (hc : ∀ q, H p ≠ some (LamX.CodeO p q)) : Mk1 Γ μ₀ H₀ p μ (upd H p o) :=
  ⟨m.pre, m.hid, fun b u e hm n => by rw [upd_ne (ne_of_none e hp)]; exact m.keep b u e hm n, fun b u e => by
    obtain ⟨u', e'⟩ := m.here b u e
    exact ⟨u', by rw [upd_ne (ne_of_none e hp)]; exact e'⟩, m.new, fun h => tabs_write ht hc o (m.tabs h)⟩
/-- the making's end: what is seen from the entry -/
theorem Mk1.done (m : Mk1 Γ μ₀ H₀ p μ H) : Ext Γ μ₀ H₀ ⟨μ.st, μ₀.hd⟩ H := ⟨m.pre, rfl, m.keep, m.here, m.new, m.tabs⟩
theorem Mk1.eta (m : Mk1 Γ μ₀ H₀ p μ H) : μ = Mu.hide ⟨μ.st, μ₀.hd⟩ p := by
  obtain ⟨a, b⟩ := μ
  have e : b = p :: μ₀.hd := m.hid
  rw [e]; rfl
end
theorem R.sat_noEx {α : Type} {r : R α} {Q : α → Store → Prop} {E E' : D → Store → Prop} (h : (noEx r).sat Q E) : r.sat Q E' := by
  cases r with
  | ok a S => exact h
  | ex x S => exact False.elim h
  | bad => exact h
theorem sat_noEx_bind {α β : Type} {r : R α} {f : α → Store → R β} (h : (noEx (r.bind f)).sat (fun _ _ => True) (fun _ _ => True)) : True := trivial
section
variable {Γ : Gm} {X : Cx} {W : WX} {pos : Pos}
abbrev WF : WX := fun _ _ _ _ => False
/-- the reading of a test, of an element, where nothing may be raised -/
theorem xpost_wf {σ : L2.St} {μ : Mu} {H : Hp} {α : Type} {r : R α} {Q : α → Store → Prop} (h : r.sat Q fun _ _ => False) : r.sat Q (XPost Γ WF σ μ H) := R.sat_imp h (fun _ _ q => q) fun _ _ q => False.elim q
def exOk {α : Type} (r : R α) (Q : α → Store → Prop) : Prop := r.sat Q fun _ _ => False
/-- what one turn of a comprehension asks -/
theorem lc_turn {t : Tg} {c : MT} {f : ME} {vs : List Nat} {σ : L2.St} {μ₀ μ : Mu} {H₀ H H2 : Hp} {p : Addr} {env e1 : EnvD} {S : Store} {x : V} {d : D} {accv : List V} {acc : List D} {Nx : Hp → Prop} {k : Store → R (List D)}
    (hp : H₀ p = none) (hs : ∀ j ∈ t.slots, j ∈ vs) (m : Mk1 Γ μ₀ H₀ p μ H) (a : At Γ (wipe σ vs) H env S μ) (hD : H p = some (.lst accv)) (ra : Reps Γ H μ accv acc) (st : Step1 H H2) (rx : Rep Γ H2 μ x d) (hb : bindT t d env = some e1) {Qe : List D → Store → Prop}
    (q : ((c e1 S).bind fun b S1 => if b then (f e1 S1).bind fun y S2 => (k S2).bind fun ys S3 => .ok (y.d :: ys) S3 else k S1).sat (fun ys S3 => acc.length + ys.length ≤ 16777216 ∧ Qe (acc ++ ys) S3) fun _ _ => False)
    (hN : ∀ μ' H' S' accv' acc', Mk1 Γ μ₀ H₀ p μ' H' → At Γ (wipe σ vs) H' env S' μ' → H' p = some (.lst accv') → Reps Γ H' μ' accv' acc' → (k S').sat (fun ys S3 => acc'.length + ys.length ≤ 16777216 ∧ Qe (acc' ++ ys) S3) (fun _ _ => False) → Nx H') :
    rdG Γ t x (wipe σ vs) H2 fun σ2 H2 => wipe σ2 vs = wipe σ vs ∧ rdT Γ WF c σ2 H2 fun b H3 => if b = true then rdE Γ WF f σ2 H3 fun y H4 => ∃ acc, H4 p = some (.lst acc) ∧ acc.length < sizeLine ∧ Nx (upd H4 p (.lst (acc ++ [y]))) else Nx H3 := by
  have x2 := st.ext (Γ := Γ) (μ := μ)
  have a2 := a.next x2 (st.sim a.sim)
  have pm : ∀ {μ' : Mu} {H' : Hp}, Mk1 Γ μ₀ H₀ p μ' H' → p ∈ μ'.hd := fun m' => by rw [m'.hid]; exact List.mem_cons_self
  have nst : ∀ {μ' : Mu} {H' : Hp} {S'}, Mk1 Γ μ₀ H₀ p μ' H' → Sim Γ μ' H' S' → p ∉ μ'.st := fun m' s' z => s'.apart p z (pm m')
  have m2 := m.ext x2
  have hD2 : H2 p = some (.lst accv) := x2.keep p _ hD (nst m a.sim) fun ps z => by cases z
  refine ⟨env, μ, d, e1, a2.env, rx, hb, fun σ2 h2 b2 => ⟨wipe_same hs b2, ?_⟩⟩
  rw [R.sat_bind] at q
  have b1 : At Γ σ2 H2 e1 S μ := ⟨h2, a2.sim, a2.tabs⟩
  refine rdT_use b1 (xpost_wf q) fun b S1 H3 μ3 x3 s3 q3 => ?_
  have m3 := m2.ext x3
  have hD3 : H3 p = some (.lst accv) := x3.keep p _ hD2 (nst m2 a2.sim) fun ps z => by cases z
  have a3 := (a2.next x3 s3)
  have ra3 := (ra.ext x2).ext x3
  cases b with
  | false =>
    rw [if_neg (by decide)] at q3 ⊢
    exact hN μ3 H3 S1 accv acc m3 a3 hD3 ra3 q3
  | true =>
    rw [if_pos rfl] at q3 ⊢
    rw [R.sat_bind] at q3
    refine rd_use (b1.next x3 s3) (xpost_wf q3) fun r S2 y H4 μ4 x4 rv q4 => ?_
    obtain ⟨s4, ry⟩ := rv.sim
    have m4 := m3.ext x4
    have hD4 : H4 p = some (.lst accv) := x4.keep p _ hD3 (nst m3 s3) fun ps z => by cases z
    have a4 := a3.next x4 s4
    obtain ⟨n1, n2⟩ := lst_nocode hD4
    rw [R.sat_bind] at q4
    have lacc : accv.length = acc.length := ra.length
    have q5 : (k S2).sat (fun ys S3 => (acc ++ [r.d]).length + ys.length ≤ 16777216 ∧ Qe ((acc ++ [r.d]) ++ ys) S3) (fun _ _ => False) := R.sat_imp q4 (fun ys S3 h => by
      obtain ⟨h1, h2⟩ : acc.length + (r.d :: ys).length ≤ 16777216 ∧ Qe (acc ++ (r.d :: ys)) S3 := h
      refine ⟨by simp at h1 ⊢; omega, by rw [List.append_assoc]; exact h2⟩) fun _ _ z => z
    have hlen : acc.length < 16777216 := by
      cases hk : k S2 with
      | ok ys S3 =>
        rw [hk] at q4
        have h1 : acc.length + (r.d :: ys).length ≤ 16777216 := q4.1
        simp at h1; omega
      | ex x S3 => rw [hk] at q4; exact False.elim q4
      | bad => rw [hk] at q4; exact False.elim q4
    refine ⟨accv, hD4, by rw [sizeLine_eq, lacc]; exact hlen, ?_⟩
    exact hN μ4 _ S2 (accv ++ [y]) (acc ++ [r.d]) (m4.write hp _ n1 n2) (a4.wrhid (pm m4) _ n1 n2) upd_same ((((ra3.ext x4).wrhid (pm m4) _)).append (.cons (ry.wrhid (pm m4) _) .nil)) q5
theorem rd_lc {fuel : Nat} {vs : List Nat} {t : Tg} {it : MI} {c : MT} {f : ME} {σ : L2.St} {H : Hp} {Q : VK} (hs : ∀ j ∈ t.slots, j ∈ vs) (h : rdE Γ W (lcF fuel vs t it c f) σ H Q) :
    tLc (rdI Γ W it) (rdG Γ t) (rdT Γ WF c) (rdE Γ WF f) vs σ H Q := by
  obtain ⟨env, S, μ, a, h⟩ := h
  unfold lcF at h
  rw [R.sat_bind] at h
  refine ⟨env, S, μ, a, R.sat_imp h (fun src S1 q => ?_) fun x S' q => q⟩
  intro J H1 μ1 x1 s1 fd p hp
  have a1 := a.next x1 s1
  have a1w : At Γ (wipe σ vs) H1 (wipeD vs env) S1 μ1 := ⟨a1.env.wipe vs, a1.sim, a1.tabs⟩
  have a2 := a1w.hide hp (.lst [])
  have m2 : Mk1 Γ μ1 H1 p (μ1.hide p) (upd H1 p (.lst [])) := Mk1.begin hp _
  rw [R.sat_bind] at q
  have q := R.sat_noEx (E' := fun _ _ => False) q
  -- what the list's end asks
  let Qe : List D → Store → Prop := fun ys S3 => Post Γ μ1 H1 Q (.new (.lst ys)) S3
  have q2 : (lcSrc fuel t c f src (wipeD vs env) S1).sat (fun ys S3 => ([] : List D).length + ys.length ≤ 16777216 ∧ Qe ([] ++ ys) S3) (fun _ _ => False) := R.sat_imp q (fun ys S3 h => by
    split at h
    · rename_i hl
      exact ⟨by simpa using hl, fun v H' μ' e rv => h v H' μ' (x1.trans e) (rv.ext0 x1.back)⟩
    · exact False.elim h) fun _ _ z => z
  have fin : ∀ {μ' H' S' accv acc}, Mk1 Γ μ1 H1 p μ' H' → Sim Γ μ' H' S' → H' p = some (.lst accv) → Reps Γ H' μ' accv acc → Qe acc S' → Q (.ref p) H' := fun {μ' H' S' accv acc} m s hD ra q => by
    have e := m.eta
    have x := m.done
    rw [e] at s ra
    have s' := s.unhide
    have no : Mu.no ⟨μ'.st, μ1.hd⟩ p := ⟨fun z => s.apart p z List.mem_cons_self, fun z => by
      obtain ⟨o, ho⟩ := a1.sim.hth p z
      rw [hp] at ho; cases ho⟩
    refine q (.ref p) H' ⟨μ'.st, μ1.hd⟩ x ⟨p, rfl, hp, no, s', .lst ⟨hD, no⟩ ra.unhide, ?_⟩
    refine ⟨by show (μ'.st ++ [p]).length = _; simp [s'.len], ?_, fun n b ob h1 h2 => ?_, fun b hb => ?_, s'.hth⟩
    · refine List.nodup_append.mpr ⟨s'.nd, by simp, fun b hb c hc z => ?_⟩
      rw [List.mem_singleton.mp hc] at z
      exact no.1 (z ▸ hb)
    · -- the objects' contents, with p one of the store's: p was hidden from them all
      have up : ∀ {vs ds}, Reps Γ H' (Mu.hide ⟨μ'.st, μ1.hd⟩ p) vs ds → Reps Γ H' (Mu.add ⟨μ'.st, μ1.hd⟩ p) vs ds := by
        have st : ∀ {b u}, Still H' (Mu.hide ⟨μ'.st, μ1.hd⟩ p) b u → Still H' (Mu.add ⟨μ'.st, μ1.hd⟩ p) b u := fun {b u} h => ⟨h.1, fun z => by
          rcases List.mem_append.mp z with z | z
          · exact h.2.1 z
          · exact h.2.2 (by rw [List.mem_singleton.mp z]; exact List.mem_cons_self), fun z => h.2.2 (List.mem_cons_of_mem _ z)⟩
        intro vs ds r
        induction r using Reps.rec (motive_1 := fun v d _ => Rep Γ H' (Mu.add ⟨μ'.st, μ1.hd⟩ p) v d) with
        | non => exact .non
        | bl b => exact .bl b
        | int i => exact .int i
        | str x => exact .str x
        | tup h _ ih => exact .tup (h.imp st id) ih
        | lst h _ ih => exact .lst (st h) ih
        | scr h _ ih => exact .scr (st h) ih
        | dct h _ ih => exact .dct (st h) ih
        | ins h h2 _ ih => exact .ins (st h) (st h2) ih
        | exc h h1 h2 h3 h4 _ ih => exact .exc (st h) h1 h2 h3 (st h4) ih
        | glb n => exact .glb n
        | xdd h => exact .xdd (st h)
        | ref h =>
          refine .ref ?_
          have hl := (List.getElem?_eq_some_iff.mp h).1
          exact (List.getElem?_append_left hl).trans h
        | nil => exact .nil
        | cons _ _ i1 i2 => exact .cons i1 i2
      have h1 : (μ'.st ++ [p])[n]? = some b := h1
      by_cases hn : n < μ'.st.length
      · rw [List.getElem?_append_left hn] at h1
        rw [List.getElem?_append_left (by rw [← s.len]; exact hn)] at h2
        exact (s.ats n b ob h1 h2).map (fun _ e => e) up
      · rw [List.getElem?_append_right (by omega)] at h1
        have sl : μ'.st.length = S'.length := s.len
        rw [List.getElem?_append_right (by rw [← sl]; omega)] at h2
        have e0 : n - μ'.st.length = 0 := by
          have := (List.getElem?_eq_some_iff.mp h1).1
          simp at this; omega
        rw [e0] at h1
        rw [← sl, e0] at h2
        simp at h1 h2
        subst h1; subst h2
        exact ⟨accv, hD, up ra⟩
    · rcases List.mem_append.mp hb with h | h
      · exact s'.apart b h
      · rw [List.mem_singleton.mp h]; exact no.2
  have vw : ∀ {μ' H' accv S'}, Mk1 Γ μ1 H1 p μ' H' → At Γ (wipe σ vs) H' (wipeD vs env) S' μ' → H' p = some (.lst accv) → Vw Γ μ1 H1 μ' H' := fun {μ' H' accv S'} m a' hD =>
    .inr ⟨p, .lst accv, hp, m.at (fun z => a'.sim.apart p z (by rw [m.hid]; exact List.mem_cons_self)) a'.tabs hD⟩
  cases src with
  | st ds =>
    obtain ⟨G, Y, w, hG, hY⟩ := fd
    refine lc_it w (fun i H' => ∃ μ' S' accv acc, Mk1 Γ μ1 H1 p μ' H' ∧ At Γ (wipe σ vs) H' (wipeD vs env) S' μ' ∧ H' p = some (.lst accv) ∧ Reps Γ H' μ' accv acc ∧
      (lcL t c f (ds.drop i) (wipeD vs env) S').sat (fun ys S3 => acc.length + ys.length ≤ 16777216 ∧ Qe (acc ++ ys) S3) (fun _ _ => False)) ⟨μ1.hide p, S1, [], [], m2, a2, upd_same, .nil, q2⟩ (fun i H' _ ⟨μ', _, accv, _, m, a', hD, _⟩ => hG μ' H' (vw m a' hD)) ?_ ?_
    · rintro i x H' H2 hi ⟨μ', S', accv, acc, m, a', hD, ra, q'⟩ y
      obtain ⟨d, hd, hst, hr⟩ := hY μ' H' S' i x H2 (vw m a' hD) a'.sim hi y
      have ed : ds.drop i = d :: ds.drop (i + 1) := by
        obtain ⟨h1, h2⟩ := List.getElem?_eq_some_iff.mp hd
        rw [List.drop_eq_getElem_cons h1, h2]
      rw [ed] at q'
      simp only [lcL] at q'
      split at q'
      · exact False.elim q'
      · rename_i e1 he1
        exact lc_turn (k := lcL t c f (ds.drop (i + 1)) (wipeD vs env)) hp hs m a' hD ra hst hr he1 q' fun μ2 H3 S2 accv2 acc2 m2 a2 hD2 ra2 q2 => ⟨μ2, S2, accv2, acc2, m2, a2, hD2, ra2, q2⟩
    · rintro H' ⟨μ', S', accv, acc, m, a', hD, ra, q'⟩
      rw [List.drop_length] at q'
      have q' : acc.length + ([] : List D).length ≤ 16777216 ∧ Qe (acc ++ []) S' := q'
      rw [List.append_nil] at q'
      exact fin m a'.sim hD ra q'.2
  | rf n =>
    obtain ⟨l, hl, rfl⟩ := fd
    refine ⟨fun i k H' => ∃ μ' S' accv acc, Mk1 Γ μ1 H1 p μ' H' ∧ At Γ (wipe σ vs) H' (wipeD vs env) S' μ' ∧ H' p = some (.lst accv) ∧ Reps Γ H' μ' accv acc ∧
      (lcR n t c f k i (wipeD vs env) S').sat (fun ys S3 => acc.length + ys.length ≤ 16777216 ∧ Qe (acc ++ ys) S3) (fun _ _ => False), ⟨fuel, μ1.hide p, S1, [], [], m2, a2, upd_same, .nil, q2⟩, ?_⟩
    rintro i k H' ⟨μ', S', accv, acc, m, a', hD, ra, q'⟩
    cases k with
    | zero => exact False.elim q'
    | succ k =>
      simp only [lcR] at q'
      split at q'
      · rename_i xs hS
        have hl' : μ'.st[n]? = some l := by
          obtain ⟨r, e⟩ := m.pre
          have hlt := (List.getElem?_eq_some_iff.mp hl).1
          rw [e, List.getElem?_append_left hlt]; exact hl
        obtain ⟨ws, hv, rv⟩ := a'.sim.ats n l _ hl' hS
        split at q'
        · rename_i hn
          refine .inl ⟨⟨ws, .of hv, ?_⟩, ?_⟩
          · rw [rv.length]
            exact List.getElem?_eq_none_iff.mp hn
          · have q' : acc.length + ([] : List D).length ≤ 16777216 ∧ Qe (acc ++ []) S' := q'
            rw [List.append_nil] at q'
            exact fin m a'.sim hD ra q'.2
        · rename_i d hd
          obtain ⟨v, hv1, rv1⟩ := rv.get hd
          split at q'
          · exact False.elim q'
          · rename_i e1 he1
            refine .inr ⟨⟨ws, v, .of hv, hv1⟩, fun H2 => ∃ m', m' < k + 1 ∧ ∃ μ' S' accv acc, Mk1 Γ μ1 H1 p μ' H2 ∧ At Γ (wipe σ vs) H2 (wipeD vs env) S' μ' ∧ H2 p = some (.lst accv) ∧ Reps Γ H2 μ' accv acc ∧
              (lcR n t c f m' (i + 1) (wipeD vs env) S').sat (fun ys S3 => acc.length + ys.length ≤ 16777216 ∧ Qe (acc ++ ys) S3) (fun _ _ => False), fun H2 z => z, fun x H2 y => ?_⟩
            obtain ⟨rfl, y⟩ := y
            have e2 := y ws (.of hv)
            rw [hv1] at e2
            cases e2
            exact lc_turn (k := lcR n t c f k (i + 1) (wipeD vs env)) hp hs m a' hD ra (.inl rfl) rv1 he1 q' fun μ2 H3 S2 accv2 acc2 m2 a2 hD2 ra2 q2 => ⟨k, Nat.lt_succ_self k, μ2, S2, accv2, acc2, m2, a2, hD2, ra2, q2⟩
      · exact False.elim q'
end
end Ev
/-! Ev9: a call runs over the objects that it is given, and over new ones of its own. -/
namespace Ev
open PySem L2 PyProof.Rows
mutual
/-- no reference to the store -/
def free : D → Bool
  | .ref _ => false
  | .tup xs => frees xs
  | .lst xs => frees xs
  | .scr xs => frees xs
  | .dct ks vs => frees vs
  | .ins _ fs => frees fs
  | .exc _ d => free d
  | _ => true
def frees : List D → Bool
  | [] => true
  | d :: ds => free d && frees ds
end
def Ob.free : Ob → Bool
  | .lst xs => frees xs
  | .dct _ vs => frees vs
  | .ins _ fs => frees (fs.map (·.2))
  | .slo _ fs => fs.all fun o => match o with | some d => Ev.free d | none => true
mutual
/-- the references put in -/
def resD (g : Nat → Option D) : D → Option D
  | .ref n => g n
  | .tup xs => (resDs g xs).map .tup
  | .lst xs => (resDs g xs).map .lst
  | .scr xs => (resDs g xs).map .scr
  | .dct ks vs => (resDs g vs).map (.dct ks)
  | .ins c fs => (resDs g fs).map (.ins c)
  | .exc c d => (resD g d).map (.exc c)
  | d => some d
def resDs (g : Nat → Option D) : List D → Option (List D)
  | [] => some []
  | d :: ds => match resD g d, resDs g ds with | some x, some xs => some (x :: xs) | _, _ => none
end
def resOs (g : Nat → Option D) : List (Option D) → Option (List (Option D))
  | [] => some []
  | none :: ds => (resOs g ds).map (none :: ·)
  | some d :: ds => match resD g d, resOs g ds with | some x, some xs => some (some x :: xs) | _, _ => none
def resOb (g : Nat → Option D) : Ob → Option Ob
  | .lst xs => (resDs g xs).map .lst
  | .dct ks vs => (resDs g vs).map (.dct ks)
  | .ins _ _ => none
  | .slo _ _ => none
/-- what reference n stands for, seen from outside; those below lo and ban are no one's to see -/
def resN (S : Store) (lo ban : Nat) : Nat → Nat → Option D
  | 0, _ => none
  | k + 1, n => if n < lo ∨ n = ban then none else match S[n]? with
    | some ob => (resOb (resN S lo ban k) ob).map Ob.toD
    | none => none
def resFuel : Nat := 12
/-- a result, seen from outside: a list or dict that is handed out is new -/
def outR (S : Store) (lo : Nat) : RV → Option RV
  | .val (.ref n) => if n < lo then none else match S[n]? with
    | some ob => (resOb (resN S lo n resFuel) ob).map .new
    | none => none
  | .val d => (resD (resN S lo S.length resFuel) d).map .val
  | .new ob => (resOb (resN (S ++ [ob]) lo S.length resFuel) ob).map .new
section
variable {Γ : Gm} {H : Hp} {μ μ2 : Mu}
/-- what bears a datum without references bears it for any other store's view that has no more objects -/
theorem Rep.view (ok : ∀ b, (∃ o, H b = some o) → μ.no b → μ2.no b) : ∀ {v : V} {d : D}, free d = true → Rep Γ H μ v d → Rep Γ H μ2 v d := by
  have st : ∀ {b u}, Still H μ b u → Still H μ2 b u := fun {b u} h => ⟨h.1, ok b ⟨u, h.1⟩ h.2⟩
  intro v d hf r
  induction r using Rep.rec (motive_2 := fun vs ds _ => frees ds = true → Reps Γ H μ2 vs ds) with
  | non => exact .non
  | bl b => exact .bl b
  | int i => exact .int i
  | str x => exact .str x
  | tup h _ ih => exact .tup (h.imp st id) (ih (by simpa [free] using hf))
  | lst h _ ih => exact .lst (st h) (ih (by simpa [free] using hf))
  | scr h _ ih => exact .scr (st h) (ih (by simpa [free] using hf))
  | dct h _ ih => exact .dct (st h) (ih (by simpa [free] using hf))
  | ins h h2 _ ih => exact .ins (st h) (st h2) (ih (by simpa [free] using hf))
  | exc h h1 h2 h3 h4 _ ih => exact .exc (st h) h1 h2 h3 (st h4) (ih (by simpa [free] using hf))
  | glb n => exact .glb n
  | xdd h => exact .xdd (st h)
  | ref h => simp [free] at hf
  | nil => exact .nil
  | cons _ _ i1 i2 =>
    rename_i hf
    simp only [frees, Bool.and_eq_true] at hf
    exact .cons (i1 hf.1) (i2 hf.2)
theorem Reps.view (ok : ∀ b, (∃ o, H b = some o) → μ.no b → μ2.no b) : ∀ {vs : List V} {ds : List D}, frees ds = true → Reps Γ H μ vs ds → Reps Γ H μ2 vs ds
  | _, _, _, .nil => .nil
  | _, _, hf, .cons r t => by
    simp only [frees, Bool.and_eq_true] at hf
    exact .cons (r.view ok hf.1) (t.view ok hf.2)
theorem ObAt.view (ok : ∀ b, (∃ o, H b = Option.some o) → μ.no b → μ2.no b) {a : Addr} {ob : Ob} (hf : ob.free = true) (h : ObAt Γ H μ a ob) : ObAt Γ H μ2 a ob := by
  cases ob with
  | lst ds => obtain ⟨vs, h, r⟩ := h; exact ⟨vs, h, r.view ok hf⟩
  | dct ks ds => obtain ⟨vs, h, q, r⟩ := h; exact ⟨vs, h, q, r.view ok hf⟩
  | ins c fs => obtain ⟨dx, vs, h, q, r⟩ := h; exact ⟨dx, vs, h, q, r.view ok hf⟩
  | slo c fs =>
    obtain ⟨dx, vs, h, q, r⟩ := h
    refine ⟨dx, vs, h, q.view ok rfl, r.1, fun i d e => ?_⟩
    obtain ⟨v, h1, h2⟩ := r.2 i d e
    exact ⟨v, h1, h2.view ok (List.all_eq_true.mp hf (Option.some d) (List.mem_of_getElem? e))⟩
/-- .. with the references put in -/
theorem Rep.put {g : Nat → Option D} (ok : ∀ b, (∃ o, H b = some o) → μ.no b → μ2.no b) (hg : ∀ n a d, g n = some d → μ.st[n]? = some a → Rep Γ H μ2 (.ref a) d) : ∀ {v : V} {d d' : D}, resD g d = some d' → Rep Γ H μ v d → Rep Γ H μ2 v d' := by
  have st : ∀ {b u}, Still H μ b u → Still H μ2 b u := fun {b u} h => ⟨h.1, ok b ⟨u, h.1⟩ h.2⟩
  intro v d d' hf r
  induction r using Rep.rec (motive_2 := fun vs ds _ => ∀ ds', resDs g ds = some ds' → Reps Γ H μ2 vs ds') generalizing d' with
  | non => simp only [resD] at hf; cases hf; exact .non
  | bl b => simp only [resD] at hf; cases hf; exact .bl b
  | int i => simp only [resD] at hf; cases hf; exact .int i
  | str x => simp only [resD] at hf; cases hf; exact .str x
  | tup h _ ih =>
    simp only [resD] at hf
    obtain ⟨xs, hx, rfl⟩ := Option.map_eq_some_iff.mp hf
    exact .tup (h.imp st id) (ih _ hx)
  | lst h _ ih =>
    simp only [resD] at hf
    obtain ⟨xs, hx, rfl⟩ := Option.map_eq_some_iff.mp hf
    exact .lst (st h) (ih _ hx)
  | scr h _ ih =>
    simp only [resD] at hf
    obtain ⟨xs, hx, rfl⟩ := Option.map_eq_some_iff.mp hf
    exact .scr (st h) (ih _ hx)
  | dct h _ ih =>
    simp only [resD] at hf
    obtain ⟨xs, hx, rfl⟩ := Option.map_eq_some_iff.mp hf
    exact .dct (st h) (ih _ hx)
  | ins h h2 _ ih =>
    simp only [resD] at hf
    obtain ⟨xs, hx, rfl⟩ := Option.map_eq_some_iff.mp hf
    exact .ins (st h) (st h2) (ih _ hx)
  | exc h h1 h2 h3 h4 _ ih =>
    simp only [resD] at hf
    obtain ⟨x, hx, rfl⟩ := Option.map_eq_some_iff.mp hf
    exact .exc (st h) h1 h2 h3 (st h4) (ih hx)
  | glb n => simp only [resD] at hf; cases hf; exact .glb n
  | xdd h => simp only [resD] at hf; cases hf; exact .xdd (st h)
  | ref h => simp only [resD] at hf; exact hg _ _ _ hf h
  | nil => rename_i ds' h; simp only [resDs] at h; cases h; exact .nil
  | cons _ _ i1 i2 =>
    rename_i ds' h
    simp only [resDs] at h
    split at h
    · rename_i x xs e1 e2
      cases h
      exact .cons (i1 e1) (i2 _ e2)
    · cases h
theorem Reps.put {g : Nat → Option D} (ok : ∀ b, (∃ o, H b = some o) → μ.no b → μ2.no b) (hg : ∀ n a d, g n = some d → μ.st[n]? = some a → Rep Γ H μ2 (.ref a) d) : ∀ {vs : List V} {ds ds' : List D}, resDs g ds = some ds' → Reps Γ H μ vs ds → Reps Γ H μ2 vs ds'
  | _, _, _, h, .nil => by simp only [resDs] at h; cases h; exact .nil
  | _, _, _, h, .cons r t => by
    simp only [resDs] at h
    split at h
    · rename_i x xs e1 e2
      cases h
      exact .cons (r.put ok hg e1) (t.put ok hg e2)
    · cases h
theorem ObAt.put {g : Nat → Option D} (ok : ∀ b, (∃ o, H b = Option.some o) → μ.no b → μ2.no b) (hg : ∀ n a d, g n = Option.some d → μ.st[n]? = Option.some a → Rep Γ H μ2 (.ref a) d) {a : Addr} {ob ob' : Ob} (h : resOb g ob = Option.some ob') (x : ObAt Γ H μ a ob) : ObAt Γ H μ2 a ob' := by
  cases ob with
  | lst ds =>
    obtain ⟨xs, hx, rfl⟩ := Option.map_eq_some_iff.mp h
    obtain ⟨vs, h, r⟩ := x; exact ⟨vs, h, r.put ok hg hx⟩
  | dct ks ds =>
    obtain ⟨xs, hx, rfl⟩ := Option.map_eq_some_iff.mp h
    obtain ⟨vs, h, q, r⟩ := x; exact ⟨vs, h, q, r.put ok hg hx⟩
  | ins c fs => cases h
  | slo c fs => cases h
theorem ObAt.rep {a : Addr} {ob : Ob} (hn : μ.no a) (x : ObAt Γ H μ a ob) (hi : (∀ c fs, ob ≠ .ins c fs) ∧ ∀ c fs, ob ≠ .slo c fs) : Rep Γ H μ (.ref a) ob.toD := by
  cases ob with
  | lst ds => obtain ⟨vs, h, r⟩ := x; exact .lst ⟨h, hn⟩ r
  | dct ks ds => obtain ⟨kvs, h, q, r⟩ := x; subst q; exact .dct ⟨h, hn⟩ r
  | ins c fs => exact absurd rfl (hi.1 c fs)
  | slo c fs => exact absurd rfl (hi.2 c fs)
theorem resOb_ins {g : Nat → Option D} {ob ob' : Ob} (h : resOb g ob = some ob') : (∀ c fs, ob' ≠ .ins c fs) ∧ ∀ c fs, ob' ≠ .slo c fs := by
  cases ob with
  | lst ds => obtain ⟨xs, hx, rfl⟩ := Option.map_eq_some_iff.mp h; exact ⟨fun _ _ z => (by cases z), fun _ _ z => (by cases z)⟩
  | dct ks ds => obtain ⟨xs, hx, rfl⟩ := Option.map_eq_some_iff.mp h; exact ⟨fun _ _ z => (by cases z), fun _ _ z => (by cases z)⟩
  | ins c fs => cases h
  | slo c fs => cases h
theorem resN_ok {S : Store} {lo ban : Nat} (s : Sim Γ μ H S) (ok : ∀ b, (∃ o, H b = some o) → μ.no b → μ2.no b) (ok2 : ∀ n a, lo ≤ n → n ≠ ban → μ.st[n]? = some a → μ2.no a) :
    ∀ (k n : Nat) (a : Addr) (d : D), resN S lo ban k n = some d → μ.st[n]? = some a → Rep Γ H μ2 (.ref a) d
  | 0, _, _, _, h, _ => by simp [resN] at h
  | k + 1, n, a, d, h, ha => by
    simp only [resN] at h
    split at h
    · cases h
    · rename_i hn
      have hn1 : lo ≤ n := by omega
      have hn2 : n ≠ ban := fun z => hn (.inr z)
      split at h
      · rename_i ob e
        obtain ⟨ob', hx, rfl⟩ := Option.map_eq_some_iff.mp h
        have x := s.ats n a ob ha e
        exact (x.put ok (fun m b d h1 h2 => resN_ok s ok ok2 k m b d h1 h2) hx).rep (ok2 n a hn1 hn2 ha) (resOb_ins hx)
      · cases h
end
/-! ### in and out -/
def argRefs : List D → List Nat
  | [] => []
  | .ref n :: ds => if n ∈ argRefs ds then argRefs ds else n :: argRefs ds
  | _ :: ds => argRefs ds
def argIn (fs : List Nat) : D → Option D
  | .ref n => (fs.idxOf? n).map .ref
  | d => if free d then some d else none
def argsIn (fs : List Nat) : List D → Option (List D)
  | [] => some []
  | d :: ds => match argIn fs d, argsIn fs ds with | some x, some xs => some (x :: xs) | _, _ => none
def pick (S : Store) : List Nat → Option Store
  | [] => some []
  | n :: ns => match S[n]?, pick S ns with | some ob, some obs => if ob.free then some (ob :: obs) else none | _, _ => none
def putBack (S S' : Store) : List Nat → Nat → Option Store
  | [], _ => some S
  | n :: ns, i => match S'[i]? with
    | some ob => if ob.free then (putBack S S' ns (i + 1)).map fun T => T.set n ob else none
    | none => none
/-- a def's body, called -/
def runD (np nn : Nat) (body : MS) (args : List D) (S : Store) : R RV :=
  let fs := argRefs args
  match argsIn fs args, pick S fs with
  | some as, some S0 => if args.length = np then
      match body (as.map some ++ List.replicate (nn - np) none) S0 with
      | .nx _ S' => match putBack S S' fs 0 with | some S2 => .ok (.val .non) S2 | none => .bad
      | .ret r S' => match outR S' fs.length r, putBack S S' fs 0 with | some z, some S2 => .ok z S2 | _, _ => .bad
      | .ex x _ S' => match resD (resN S' fs.length S'.length resFuel) x, putBack S S' fs 0 with | some y, some S2 => .ex y S2 | _, _ => .bad
      | _ => .bad
    else .bad
  | _, _ => .bad
section
variable {Γ : Gm} {H H' : Hp} {μ μ' μe : Mu} {S S0 S' Se S2 : Store} {fs : List Nat}
def addrs (μ : Mu) (fs : List Nat) : List Addr := fs.map fun n => μ.st.getD n 0
/-- the callee's view: what it is given, all else hidden -/
def foc (μ : Mu) (fs : List Nat) : Mu := ⟨addrs μ fs, (μ.st.filter fun b => !(addrs μ fs).contains b) ++ μ.hd⟩
theorem mem_addrs (hf : ∀ n ∈ fs, n < μ.st.length) {b : Addr} (h : b ∈ addrs μ fs) : ∃ n ∈ fs, μ.st[n]? = some b := by
  obtain ⟨n, hn, e⟩ := List.mem_map.mp h
  have hl := hf n hn
  refine ⟨n, hn, ?_⟩
  rw [List.getD_eq_getElem?_getD, List.getElem?_eq_getElem hl] at e
  rw [List.getElem?_eq_getElem hl]
  simpa using e
theorem foc_no (hf : ∀ n ∈ fs, n < μ.st.length) {b : Addr} : (foc μ fs).no b ↔ μ.no b := by
  constructor
  · rintro ⟨h1, h2⟩
    have h2 : ¬ (b ∈ (μ.st.filter fun b => !(addrs μ fs).contains b) ++ μ.hd) := h2
    rw [List.mem_append, not_or] at h2
    refine ⟨fun z => h2.1 (List.mem_filter.mpr ⟨z, ?_⟩), h2.2⟩
    have : ¬ b ∈ addrs μ fs := h1
    simp [this]
  · rintro ⟨h1, h2⟩
    refine ⟨fun z => ?_, fun z => ?_⟩
    · obtain ⟨n, _, e⟩ := mem_addrs hf z
      exact h1 (List.mem_of_getElem? e)
    · rcases List.mem_append.mp (show b ∈ (μ.st.filter fun b => !(addrs μ fs).contains b) ++ μ.hd from z) with z | z
      · exact h1 (List.mem_filter.mp z).1
      · exact h2 z
theorem pick_len : ∀ {fs : List Nat} {S0 : Store}, pick S fs = some S0 → S0.length = fs.length ∧ ∀ n ∈ fs, n < S.length
  | [], _, h => by simp only [pick] at h; cases h; exact ⟨rfl, fun n hn => absurd hn (by simp)⟩
  | n :: ns, _, h => by
    simp only [pick] at h
    split at h
    · rename_i ob obs e1 e2
      split at h
      · cases h
        obtain ⟨h1, h2⟩ := pick_len e2
        refine ⟨by simp [h1], fun m hm => ?_⟩
        rcases List.mem_cons.mp hm with rfl | hm
        · exact (List.getElem?_eq_some_iff.mp e1).1
        · exact h2 m hm
      · cases h
    · cases h
theorem pick_get : ∀ {fs : List Nat} {S0 : Store}, pick S fs = some S0 → ∀ (i : Nat) (ob : Ob), S0[i]? = some ob → ∃ n, fs[i]? = some n ∧ S[n]? = some ob ∧ ob.free = true
  | [], _, h, i, ob, e => by simp only [pick] at h; cases h; simp at e
  | n :: ns, _, h, i, ob, e => by
    simp only [pick] at h
    split at h
    · rename_i ob' obs e1 e2
      split at h
      · rename_i hfree
        cases h
        cases i with
        | zero => simp at e; subst e; exact ⟨n, rfl, e1, hfree⟩
        | succ i => simpa using pick_get e2 i ob (by simpa using e)
      · cases h
    · cases h
theorem argRefs_nodup : ∀ ds : List D, (argRefs ds).Nodup
  | [] => List.nodup_nil
  | d :: ds => by
    cases d <;> simp only [argRefs] <;> try exact argRefs_nodup ds
    split
    · exact argRefs_nodup ds
    · rename_i n h
      exact List.nodup_cons.mpr ⟨h, argRefs_nodup ds⟩
theorem foc_sim (s : Sim Γ μ H S) (hn : fs.Nodup) (hp : pick S fs = some S0) : Sim Γ (foc μ fs) H S0 := by
  obtain ⟨hl, hb⟩ := pick_len hp
  have hf : ∀ n ∈ fs, n < μ.st.length := fun n h => by rw [s.len]; exact hb n h
  have at_ : ∀ {i : Nat} {a : Addr}, (addrs μ fs)[i]? = some a → ∃ n, fs[i]? = some n ∧ μ.st[n]? = some a := fun {i a} h => by
    unfold addrs at h
    rw [List.getElem?_map] at h
    obtain ⟨n, h1, h2⟩ := Option.map_eq_some_iff.mp h
    have hlt := hf n (List.mem_of_getElem? h1)
    refine ⟨n, h1, ?_⟩
    rw [List.getD_eq_getElem?_getD, List.getElem?_eq_getElem hlt] at h2
    rw [List.getElem?_eq_getElem hlt]
    simpa using h2
  refine ⟨by show (addrs μ fs).length = _; simp [addrs, hl], ?_, fun i a ob h1 h2 => ?_, fun b hb z => ?_, fun b hb => ?_⟩
  · show (addrs μ fs).Nodup
    refine List.pairwise_iff_getElem.mpr fun i j hil hjl hij e => ?_
    obtain ⟨n, n1, n2⟩ := at_ (List.getElem?_eq_getElem hil)
    obtain ⟨m, m1, m2⟩ := at_ (List.getElem?_eq_getElem hjl)
    rw [e] at n2
    obtain ⟨l1, e1⟩ := List.getElem?_eq_some_iff.mp n2
    obtain ⟨l2, e2⟩ := List.getElem?_eq_some_iff.mp m2
    have enm : n = m := (List.getElem_inj s.nd).mp (e1.trans e2.symm)
    subst enm
    obtain ⟨l3, e3⟩ := List.getElem?_eq_some_iff.mp n1
    obtain ⟨l4, e4⟩ := List.getElem?_eq_some_iff.mp m1
    have := (List.getElem_inj hn).mp (e3.trans e4.symm)
    omega
  · obtain ⟨n, n1, n2⟩ := at_ (show (addrs μ fs)[i]? = some a from h1)
    obtain ⟨m, m1, m2, m3⟩ := pick_get hp i ob h2
    rw [n1] at m1; cases m1
    exact (s.ats n a ob n2 m2).view (fun b _ h => (foc_no hf).mpr h) m3
  · have hb : b ∈ addrs μ fs := hb
    rcases List.mem_append.mp (show b ∈ (μ.st.filter fun b => !(addrs μ fs).contains b) ++ μ.hd from z) with z | z
    · have := (List.mem_filter.mp z).2
      simp [hb] at this
    · obtain ⟨n, _, e⟩ := mem_addrs hf hb
      exact s.apart b (List.mem_of_getElem? e) z
  · rcases List.mem_append.mp (show b ∈ (μ.st.filter fun b => !(addrs μ fs).contains b) ++ μ.hd from hb) with z | z
    · exact s.there b (List.mem_filter.mp z).1
    · exact s.hth b z
theorem argsIn_ok (s : Sim Γ μ H S) (hf : ∀ n ∈ fs, n < μ.st.length) : ∀ {ds as : List D} {vs : List V}, Reps Γ H μ vs ds → argsIn fs ds = some as → Reps Γ H (foc μ fs) vs as
  | [], _, _, r, h => by simp only [argsIn] at h; cases h; cases r; exact .nil
  | d :: ds, _, _, r, h => by
    simp only [argsIn] at h
    split at h
    · rename_i x xs e1 e2
      cases h
      cases r with
      | cons r1 r2 =>
        refine .cons ?_ (argsIn_ok s hf r2 e2)
        have fr : ∀ {d x : D} {v : V}, Rep Γ H μ v d → (if free d then some d else none) = some x → Rep Γ H (foc μ fs) v x := fun {d x v} r1 e1 => by
          split at e1
          · rename_i hfree
            cases e1
            exact r1.view (fun b _ h => (foc_no hf).mpr h) hfree
          · cases e1
        cases d with
        | ref n =>
          simp only [argIn] at e1
          obtain ⟨i, hi, rfl⟩ := Option.map_eq_some_iff.mp e1
          cases r1 with
          | ref ha =>
            refine .ref ?_
            obtain ⟨hil, hix, _⟩ := List.idxOf?_eq_some_iff.mp hi
            show (addrs μ fs)[i]? = _
            unfold addrs
            rw [List.getElem?_map, List.getElem?_eq_getElem hil]
            have hix : fs[i] = n := by simpa using hix
            rw [hix]
            simp [List.getD_eq_getElem?_getD, ha]
        | _ => exact fr r1 e1
    · cases h
theorem putBack_len : ∀ {fs : List Nat} {i : Nat} {S2 : Store}, putBack S S' fs i = some S2 → S2.length = S.length
  | [], _, _, h => by simp only [putBack] at h; cases h; rfl
  | n :: ns, i, _, h => by
    simp only [putBack] at h
    split at h
    · split at h
      · obtain ⟨T, hT, rfl⟩ := Option.map_eq_some_iff.mp h
        rw [List.length_set]; exact putBack_len hT
      · cases h
    · cases h
/-- the store behind: a given object as the callee left it, another one as before -/
theorem putBack_get : ∀ {fs : List Nat} {k : Nat} {S2 : Store}, fs.Nodup → putBack S S' fs k = some S2 → ∀ (n : Nat) (ob : Ob), S2[n]? = some ob →
    (∃ i, fs[i]? = some n ∧ S'[k + i]? = some ob ∧ ob.free = true) ∨ (n ∉ fs ∧ S[n]? = some ob)
  | [], _, _, _, h, n, ob, e => by simp only [putBack] at h; cases h; exact .inr ⟨by simp, e⟩
  | m :: ms, k, _, hn, h, n, ob, e => by
    simp only [putBack] at h
    obtain ⟨hm1, hm2⟩ := List.nodup_cons.mp hn
    split at h
    · rename_i ob' e1
      split at h
      · rename_i hfree
        obtain ⟨T, hT, rfl⟩ := Option.map_eq_some_iff.mp h
        by_cases hnm : n = m
        · subst hnm
          have hl : n < T.length := by
            have := (List.getElem?_eq_some_iff.mp e).1
            simpa using this
          rw [List.getElem?_set_self hl] at e
          cases e
          exact .inl ⟨0, rfl, e1, hfree⟩
        · rw [List.getElem?_set_ne (Ne.symm hnm)] at e
          rcases putBack_get hm2 hT n ob e with ⟨i, h1, h2, h3⟩ | ⟨h1, h2⟩
          · refine .inl ⟨i + 1, by simpa using h1, ?_, h3⟩
            rw [show k + (i + 1) = k + 1 + i by omega]; exact h2
          · exact .inr ⟨by simp only [List.mem_cons, not_or]; exact ⟨hnm, h1⟩, h2⟩
      · cases h
    · cases h
/-- what the caller knows behind a call: x: the callee's way; t: the caller's view, perhaps with one object more -/
theorem back_ext (hf : ∀ n ∈ fs, n < μ.st.length) (x : Ext Γ (foc μ fs) H μe H') : Ext Γ μ H μ H' :=
  ⟨⟨[], by simp⟩, rfl, fun b o h hb n => x.keep b o h (fun z => by
    obtain ⟨m, _, e⟩ := mem_addrs hf z
    exact hb (List.mem_of_getElem? e)) n, x.here, fun b h1 h2 => absurd h1 h2, x.tabs⟩
theorem back_no (hf : ∀ n ∈ fs, n < μ.st.length) (x : Ext Γ (foc μ fs) H μe H') {b : Addr} (h : μe.no b) : μ.no b := by
  refine (foc_no hf).mp ⟨fun z => h.1 ?_, fun z => h.2 (by rw [x.hid]; exact z)⟩
  obtain ⟨r, e⟩ := x.pre
  rw [e]
  exact List.mem_append_left _ z
theorem back_new (s : Sim Γ μ H S) (hf : ∀ n ∈ fs, n < μ.st.length) (x : Ext Γ (foc μ fs) H μe H') (se : Sim Γ μe H' Se) {n : Nat} {a : Addr} (hn : fs.length ≤ n) (ha : μe.st[n]? = some a) : H a = none := by
  refine x.new a (List.mem_of_getElem? ha) fun z => ?_
  obtain ⟨r, e⟩ := x.pre
  obtain ⟨i, hi, ei⟩ := List.getElem_of_mem (show a ∈ addrs μ fs from z)
  have hil : i < fs.length := by simpa [addrs] using hi
  have h1 : μe.st[i]? = some a := by
    rw [e]
    show (addrs μ fs ++ r)[i]? = _
    rw [List.getElem?_append_left hi, List.getElem?_eq_getElem hi, ei]
  obtain ⟨l1, e1⟩ := List.getElem?_eq_some_iff.mp h1
  obtain ⟨l2, e2⟩ := List.getElem?_eq_some_iff.mp ha
  have := (List.getElem_inj se.nd).mp (e1.trans e2.symm)
  omega
/-- the caller's objects behind, in any view that extends the caller's -/
theorem back_ats {μt : Mu} (s : Sim Γ μ H S) (hn : fs.Nodup) (hf : ∀ n ∈ fs, n < μ.st.length) (x : Ext Γ (foc μ fs) H μe H') (se : Sim Γ μe H' Se) (hS : ∀ i, i < fs.length → Se[i]? = S'[i]?) (hb : putBack S S' fs 0 = some S2)
    (xt : Ext Γ μ H μt H') (ok : ∀ b, (∃ o, H' b = some o) → μe.no b → μt.no b) : ∀ (n : Nat) (a : Addr) (ob : Ob), μ.st[n]? = some a → S2[n]? = some ob → ObAt Γ H' μt a ob := by
  intro n a ob h1 h2
  rcases putBack_get hn hb n ob h2 with ⟨i, i1, i2, i3⟩ | ⟨h3, h4⟩
  · rw [Nat.zero_add] at i2
    have hil := (List.getElem?_eq_some_iff.mp i1).1
    have ha : μe.st[i]? = some a := by
      obtain ⟨r, e⟩ := x.pre
      rw [e]
      show (addrs μ fs ++ r)[i]? = _
      rw [List.getElem?_append_left (by simpa [addrs] using hil)]
      unfold addrs
      rw [List.getElem?_map, i1]
      simp [List.getD_eq_getElem?_getD, h1]
    exact (se.ats i a ob ha (by rw [hS i hil]; exact i2)).view ok i3
  · have hx := s.ats n a ob h1 h4
    refine hx.ext xt fun o e => ?_
    obtain ⟨_, m2, m3⟩ := mut_tbl hx
    refine x.keep a o e (fun z => ?_) (fun ps z => m2 ps (by rw [e, z]))
    obtain ⟨m, hm, em⟩ := mem_addrs hf z
    obtain ⟨l1, e1⟩ := List.getElem?_eq_some_iff.mp h1
    obtain ⟨l2, e2⟩ := List.getElem?_eq_some_iff.mp em
    have := (List.getElem_inj s.nd).mp (e1.trans e2.symm)
    subst this
    exact h3 hm
theorem back_sim (s : Sim Γ μ H S) (hn : fs.Nodup) (hf : ∀ n ∈ fs, n < μ.st.length) (x : Ext Γ (foc μ fs) H μe H') (se : Sim Γ μe H' Se) (hS : ∀ i, i < fs.length → Se[i]? = S'[i]?) (hb : putBack S S' fs 0 = some S2) : Sim Γ μ H' S2 :=
  ⟨by rw [s.len, putBack_len hb], s.nd, back_ats s hn hf x se hS hb (back_ext hf x) fun b _ h => back_no hf x h, s.apart, fun b hb => by
    obtain ⟨o, ho⟩ := s.hth b hb
    exact x.here b o ho⟩
/-- an object of the callee's own that is handed out: new to the caller -/
theorem back_out (s : Sim Γ μ H S) (hn : fs.Nodup) (hf : ∀ n ∈ fs, n < μ.st.length) (x : Ext Γ (foc μ fs) H μe H') (se : Sim Γ μe H' Se) (hS : ∀ i, i < fs.length → Se[i]? = S'[i]?) (hb : putBack S S' fs 0 = some S2)
    {n : Nat} {a : Addr} {ob ob' : Ob} (hl : fs.length ≤ n) (ha : μe.st[n]? = some a) (ho : Se[n]? = some ob) (hr : resOb (resN Se fs.length n resFuel) ob = some ob') : RVAt Γ H μ H' S2 (.ref a) (.new ob') := by
  have h0 := back_new s hf x se hl ha
  have na := s.nnew h0
  have s2 := back_sim s hn hf x se hS hb
  have xe := back_ext hf x
  have xa : Ext Γ μ H (μ.add a) H' := ⟨⟨[a], rfl⟩, rfl, xe.keep, xe.here, fun b hb hm => by
    rcases List.mem_append.mp hb with h | h
    · exact absurd h hm
    · rw [List.mem_singleton.mp h]; exact h0, xe.tabs⟩
  have ame : a ∈ μe.st := List.mem_of_getElem? ha
  have okA : ∀ b, (∃ o, H' b = some o) → μe.no b → (μ.add a).no b := fun b _ h => by
    have := back_no hf x h
    refine ⟨fun z => ?_, this.2⟩
    rcases List.mem_append.mp z with z | z
    · exact this.1 z
    · rw [List.mem_singleton.mp z] at h; exact h.1 ame
  have okA2 : ∀ m b, fs.length ≤ m → m ≠ n → μe.st[m]? = some b → (μ.add a).no b := fun m b h1 h2 h3 => by
    have := s.nnew (back_new s hf x se h1 h3)
    refine ⟨fun z => ?_, this.2⟩
    rcases List.mem_append.mp z with z | z
    · exact this.1 z
    · rw [List.mem_singleton.mp z] at h3
      obtain ⟨l1, e1⟩ := List.getElem?_eq_some_iff.mp h3
      obtain ⟨l2, e2⟩ := List.getElem?_eq_some_iff.mp ha
      exact h2 ((List.getElem_inj se.nd).mp (e1.trans e2.symm))
  have x0 := se.ats n a ob ha ho
  have xo : ObAt Γ H' (μ.add a) a ob' := x0.put okA (fun m b d h1 h2 => resN_ok se okA okA2 _ m b d h1 h2) hr
  have xm : ObAt Γ H' μ a ob' := x0.put (fun b _ h => back_no hf x h) (fun m b d h1 h2 => resN_ok se (fun b _ h => back_no hf x h) (fun m b h1 _ h3 => s.nnew (back_new s hf x se h1 h3)) _ m b d h1 h2) hr
  refine ⟨a, rfl, h0, na, s2, xm.rep na (resOb_ins hr), ?_⟩
  refine ⟨by show (μ.st ++ [a]).length = _; simp [s2.len], ?_, fun m b ob2 h1 h2 => ?_, fun b hb => ?_, s2.hth⟩
  · refine List.nodup_append.mpr ⟨s.nd, by simp, fun b hb c hc e => ?_⟩
    rw [List.mem_singleton.mp hc] at e
    exact na.1 (e ▸ hb)
  · have h1 : (μ.st ++ [a])[m]? = some b := h1
    by_cases hm : m < μ.st.length
    · rw [List.getElem?_append_left hm] at h1
      rw [List.getElem?_append_left (by rw [← s2.len]; exact hm)] at h2
      exact back_ats s hn hf x se hS hb xa okA m b ob2 h1 h2
    · rw [List.getElem?_append_right (by omega)] at h1
      rw [List.getElem?_append_right (by rw [← s2.len]; omega)] at h2
      have e0 : m - μ.st.length = 0 := by
        have := (List.getElem?_eq_some_iff.mp h1).1
        simp at this; omega
      rw [e0] at h1
      rw [← s2.len, e0] at h2
      simp at h1 h2
      subst h1; subst h2
      exact xo
  · rcases List.mem_append.mp hb with h | h
    · exact s.apart b h
    · rw [List.mem_singleton.mp h]; exact na.2
end
end Ev
/-! Ev10: defs, and calls of them. -/
namespace Ev
open PySem L2 PyProof.Rows
/-! ### defs that run where no text of a list, tuple or dict is under way -/
structure RoomG (k : Nat) (A : Around) : Prop where
  room : Room k A
  gd : A.guards = some []
theorem RoomG.mono {j k : Nat} {A : Around} (r : RoomG k A) (h : j ≤ k) : RoomG j A := ⟨r.room.mono h, r.gd⟩
structure FnG (P : Program) (w : World) (K : PySem.W.Frag) (mg : Str → Option Value) (base : Heap) (CX : CXT) (k : Nat) (f : Addr) (fd : FuncData) (ps : List Str) (sp : Sp) : Prop where
  len : ∀ vs H Q E, sp vs H Q E → vs.length = ps.length
  run : ∀ (A : Around) (outer : List Env) (s : Shared) (H : Hp) (args : Args) (us : List Value) (vs : List V) (Q : VK) (E : XK), RoomG k A → Env0 P w K mg base A outer s H → BindsTo s fd args (ps.zip us) → Vals vs us → sp vs H Q E →
    codeAny (model P w) A (.call (.ref f) args) (CR CX outer P w H s Q E) s
theorem FnG.mono {P : Program} {w : World} {K : PySem.W.Frag} {mg : Str → Option Value} {base : Heap} {CX : CXT} {j k : Nat} {f : Addr} {fd : FuncData} {ps : List Str} {sp : Sp} (F : FnG P w K mg base CX j f fd ps sp) (h : j ≤ k) :
    FnG P w K mg base CX k f fd ps sp := ⟨F.len, fun A outer s H args us vs Q E hr => F.run A outer s H args us vs Q E (hr.mono h)⟩
theorem FnG.imp {P : Program} {w : World} {K : PySem.W.Frag} {mg : Str → Option Value} {base : Heap} {CX : CXT} {k : Nat} {f : Addr} {fd : FuncData} {ps : List Str} {sp sp' : Sp} (F : FnG P w K mg base CX k f fd ps sp)
    (h : ∀ vs H Q E, sp' vs H Q E → sp vs H Q E) : FnG P w K mg base CX k f fd ps sp' :=
  ⟨fun vs H Q E q => F.len vs H Q E (h _ _ _ _ q), fun A outer s H args us vs Q E hr he hb hv hs => F.run A outer s H args us vs Q E hr he hb hv (h _ _ _ _ hs)⟩
/-- the def's code object -/
def CodeAt (K : PySem.W.Frag) (f : Addr) (cd : Value) : Prop := ∃ oc od fd osl, K.lookup f = some ⟨oc, od, .func fd, osl⟩ ∧ fd.code = cd ∧ ∃ q, PySem.W.codeIn K cd q = true
section
variable {CX : CXT} {P : Program} {w : World} {K : PySem.W.Frag} {mg : Str → Option Value} {base : Heap} {x qual : Str} {params : Arguments} {body : List Stmt} {scope : Scope} {dvs : List V} {kws : List (Str × V)} {f : Addr} {fd : FuncData}
theorem okG {N ps : List Str} {k : Nat} {sp : Sp} (F : FunD K x qual params body scope dvs kws f fd) (S : FnScope N ps scope) (len : ∀ vs H Q E, sp vs H Q E → vs.length = ps.length)
    (hbody : ∀ (cdv : Value) (A : Around) (outer : List Env) (s : Shared) (H : Hp) (vs : List V) (Q : VK) (E : XK), CodeAt K f cdv → RoomG k (A.deeper (envOfC qual scope s.heap.objs.size f cdv)) → sp vs H Q E →
      ∃ t, PSs (cxOf CX P w K mg base N qual scope f cdv A outer s H E) body t ∧ t { nx := fun _ H' => Q .non H', rt := Q } (L2.start N vs) H) : FnG P w K mg base CX (k + 1) f fd ps sp := by
  obtain ⟨oc, od, dV, kV, doc, pm, an, cdv, ct, osl, rfl, lk, hcd, _, _⟩ := F.ex
  refine ⟨len, fun A outer s H args us vs Q E hrg e0 hb r hsp => ?_⟩
  have hr := hrg.room
  have hl := len _ _ _ _ hsp
  have KX : K.In s.heap := e0.mod.kin.keeps fun b o e => (e0.bs b o e).1
  have lim : s.heap.NoLimit := e0.mod.nolimit.keeps fun b o e => (e0.bs b o e).1
  have hkind : ∀ y ∈ ps.zip us, scope.names.lookup y.1 = some .local ∨ (scope.names.lookup y.1 = some .cell ∧ ((cellsFrom (s.heap.objs.size + 1) scope.names []).lookup y.1).isSome = true) := fun ⟨n, v⟩ hy => by
    rcases S.par n (List.of_mem_zip hy).1 with q | q
    · exact .inl q
    · exact .inr ⟨q, PySem.W.cellsFrom_some _ _ _ (.inl q)⟩
  refine codeAny_call_function hr.depth (KX _ _ lk) rfl S.co S.gen rfl (PySem.W.codeRec_of KX hcd) (hb _ _ _ _ ?_)
  refine wpAny_newFunctionEnv_cells S.kind hkind fun env he s1 x => ?_
  subst he
  refine ⟨lim.keeps x.toInCall.keep, codeAny_func ?_⟩
  obtain ⟨t, ht, hq⟩ := hbody cdv A outer s H vs Q E ⟨oc, od, _, osl, lk, rfl, _, hcd⟩ ⟨hr.deeper _, hrg.gd⟩ hsp
  have I : Inv (cxOf CX P w K mg base N qual scope f cdv A outer s H E) [] (L2.start N vs) H s1 := inv_start S hr.hd e0 hl r x
  refine wpAny_mono (ht.run [] s1 (L2.start N vs) H _ I hq) (fun fl s' hs => ?_) fun e s' hs => hs
  have fin : ∀ {σ' : L2.St} {H' : Hp} {v : V} {u : Value}, Inv (cxOf CX P w K mg base N qual scope f cdv A outer s H E) [] σ' H' s' → RelV v u → Q v H' → CE outer P w H s Q u s' :=
    fun {σ' H' v u} J rv q => ⟨v, H', J.os, J.bare, J.base, J.hok, rv, q⟩
  cases fl with
  | ret u =>
    obtain ⟨v, σ', H', J, rv, q⟩ := hs
    exact fin J rv q
  | next =>
    obtain ⟨σ', H', J, q⟩ := hs
    exact fin (v := V.non) (u := Value.none) J rfl q
  | brk =>
    obtain ⟨_, _, _, q⟩ := hs
    exact False.elim q
  | cont =>
    obtain ⟨_, _, _, q⟩ := hs
    exact False.elim q
end
section
variable {X : Cx} {CX : CXT} {k : Nat} {f : Addr} {fd : FuncData} {ps : List Str} {sp : Sp} {dvs : List V} {ds : List Value} {E : L2.St → XK} {x : Str} {p pos : Pos} {e : Expr} {es : List Expr} {t : TA} {σ : L2.St}
/-- the callee runs -/
theorem run_G {pins : List (Addr × Obj)} {H : Hp} {s : Shared} {Q : VK} {args : Args} {us : List Value} {vs : List V} (F : FnG X.prog X.w X.K X.mg X.base CX k f fd ps sp) (hr : RoomG k X.A) (hx : PassesAt CX X σ (E σ))
    (I : Inv X pins σ H s) (hb : BindsTo s fd args (ps.zip us)) (r : Vals vs us) (h : sp vs H Q (E σ)) : codeAny (model X.prog X.w) X.A (.call (.ref f) args) (fun r s' => match r with | .ok (.ret v) => EP X pins σ Q v s' | .ok _ => False | .error e => X.xe e s') s := by
  refine codeAny_mono (F.run X.A X.stack s H args us vs Q (E σ) hr I.env0 hb r h) fun r s' hq => ?_
  cases r with
  | error e => exact hx pins H s e s' I hq
  | ok fl =>
    cases fl with
    | ret u => exact I.after hq
    | next => exact False.elim hq
    | brk => exact False.elim hq
    | cont => exact False.elim hq
theorem run_fnG {pins : List (Addr × Obj)} {H : Hp} {s : Shared} {Q : VK} {us : List Value} {vs : List V} (F : FnG X.prog X.w X.K X.mg X.base CX k f fd ps sp) (hr : RoomG k X.A) (hb : Binds X.K fd ps ds) (hd : Vals dvs ds) (hx : PassesAt CX X σ (E σ))
    (I : Inv X pins σ H s) (r : Vals vs us) (h : sp (vs ++ dvs) H Q (E σ)) : codeAny (model X.prog X.w) X.A (.call (.ref f) ⟨us, []⟩) (fun r s' => match r with | .ok (.ret v) => EP X pins σ Q v s' | .ok _ => False | .error e => X.xe e s') s := by
  have r2 : Vals (vs ++ dvs) (us ++ ds) := r.append hd
  have hl : (us ++ ds).length = ps.length := by rw [← r2.length]; exact F.len _ _ _ _ h
  exact run_G F hr hx I (hb s us I.kIn hl) r2 h
theorem pe_callG (F : FnG X.prog X.w X.K X.mg X.base CX k f fd ps sp) (hr : RoomG k X.A) (hg : Gl X x) (hm : X.mg x = some (.ref f)) (hk : PySem.W.keepIn X.K (.ref f) = true) (hb : Binds X.K fd ps ds) (hd : Vals dvs ds) (hx : ∀ σ, PassesAt CX X σ (E σ))
    (ha : PA X (e :: es) t) (hdb : (x == ("__debug__" : Str)) = false := by decide) (he : starEach (e :: es) X.env = (false, eval e X.env) :: starEach es X.env := by rfl) (hpl : (backTo pos (starEach es X.env)).any (·.1) = false := by rfl) :
    PE X (.Call (.Name x p) (e :: es) [] pos) (tCallSD sp dvs E t) := by
  refine ⟨fun pins s σ H Q I h => ?_⟩
  refine wpAny_Call_Name_kw (ld_glob I hg hm ?_ hdb)
  refine PySem.W.callWith_K (h₀ := X.base) I.ok.mod.kin hk (thn (ha.run pos pins s σ H _ I h) fun us s1 ⟨vs, H1, I1, r, q⟩ => ⟨I1.kIn, ?_⟩) he hpl
  exact wpAny_call (run_fnG F hr hb hd (hx σ) I1 r q)
theorem pe_call0G (F : FnG X.prog X.w X.K X.mg X.base CX k f fd ps sp) (hr : RoomG k X.A) (hg : Gl X x) (hm : X.mg x = some (.ref f)) (hk : PySem.W.keepIn X.K (.ref f) = true) (hb : Binds X.K fd ps ds) (hd : Vals dvs ds) (hx : ∀ σ, PassesAt CX X σ (E σ))
    (hdb : (x == ("__debug__" : Str)) = false := by decide) : PE X (.Call (.Name x p) [] [] pos) (tCallSD sp dvs E tNil) := by
  refine ⟨fun pins s σ H Q I h => ?_⟩
  refine wpAny_Call_Name_kw (ld_glob I hg hm ?_ hdb)
  exact PySem.W.callWith_K0 I.kIn hk (wpAny_call (run_fnG (us := []) F hr hb hd (hx σ) I .nil h))
end
structure Cfg where
  call : Nat → List D → Store → R RV
  fuel : Nat
structure Dfn where
  np : Nat
  nn : Nat
  body : Cfg → MS
def callN (P : Nat → Option Dfn) (fuel : Nat) : Nat → Nat → List D → Store → R RV
  | 0, _, _, _ => .bad
  | k + 1, i, args, S => match P i with
    | some d => runD d.np d.nn (d.body ⟨callN P fuel k, fuel⟩) args S
    | none => .bad
/-- a def's promise by its function of data -/
def spD (Γ : Gm) (f : List D → Store → R RV) (n : Nat) : Sp := fun vs H Q E => vs.length = n ∧ ∃ ds S μ, Sim Γ μ H S ∧ LamX.Tabs Γ.T H ∧ Reps Γ H μ vs ds ∧
  (f ds S).sat (Post Γ μ H Q) (fun x S' => ∀ cls dx H' μ', Ext Γ μ H μ' H' → Sim Γ μ' H' S' → XAt Γ H' μ' cls dx x → E cls dx H')
theorem XAt.put {Γ : Gm} {H : Hp} {μ μ2 : Mu} {g : Nat → Option D} (ok : ∀ b, (∃ o, H b = some o) → μ.no b → μ2.no b) (hg : ∀ n a d, g n = some d → μ.st[n]? = some a → Rep Γ H μ2 (.ref a) d) {cls : Value} {dx : Option Addr} {x y : D}
    (h : resD g x = some y) (xa : XAt Γ H μ cls dx x) : XAt Γ H μ2 cls dx y := by
  cases x with
  | exc c d =>
    simp only [resD] at h
    obtain ⟨d', hd, rfl⟩ := Option.map_eq_some_iff.mp h
    obtain ⟨h1, a, v, h2, h3, h4⟩ := xa
    exact ⟨h1, a, v, h2, ⟨h3.1, ok a ⟨_, h3.1⟩ h3.2⟩, h4.put ok hg hd⟩
  | _ => exact False.elim xa
theorem map_start {N : List Str} {vs : List V} {Γ : Gm} {H : Hp} {μ : Mu} {as : List D} (r : Reps Γ H μ vs as) (h : vs.length ≤ N.length) : EnvRep Γ H μ (L2.start N vs) (as.map some ++ List.replicate (N.length - as.length) none) := by
  have hl := r.length
  refine ⟨by unfold L2.start; simp; omega, fun i d e => ?_⟩
  by_cases hi : i < as.length
  · rw [List.getElem?_append_left (by simpa using hi), List.getElem?_map] at e
    obtain ⟨d', h1, h2⟩ := Option.map_eq_some_iff.mp e
    cases h2
    obtain ⟨v, h3, h4⟩ := r.get h1
    refine ⟨v, ?_, h4⟩
    unfold L2.start
    rw [List.getElem?_append_left (by simp; omega), List.getElem?_map, h3]
    rfl
  · rw [List.getElem?_append_right (by simpa using hi), List.getElem?_replicate] at e
    split at e <;> cases e
section
variable {Γ : Gm} {P : Program} {w : World} {K : PySem.W.Frag} {mg : Str → Option Value} {base : Heap} {x qual : Str} {params : Arguments} {body : List Stmt} {scope : Scope} {dvs : List V} {kws : List (Str × V)} {f : Addr} {fd : FuncData}
theorem fnok_of {N ps : List Str} {k : Nat} {m : MS} (F : FunD K x qual params body scope dvs kws f fd) (S : FnScope N ps scope)
    (hb : ∀ (cdv : Value) (A : Around) (outer : List Env) (s : Shared) (H : Hp) (E : XK), CodeAt K f cdv → RoomG k (A.deeper (envOfC qual scope s.heap.objs.size f cdv)) →
      PSs (cxOf (L2.CX P w) P w K mg base N qual scope f cdv A outer s H E) body (rdS Γ (fun cls d _ H' => E cls d H') m)) :
    FnG P w K mg base (L2.CX P w) (k + 1) f fd ps (spD Γ (runD ps.length N.length m) ps.length) := by
  refine okG F S (fun vs H Q E h => h.1) fun cdv A outer s H vs Q E hcd hr h => ?_
  obtain ⟨hl, ds, St, μ, sm, tb, rp, h⟩ := h
  refine ⟨_, hb cdv A outer s H E hcd hr, ?_⟩
  have hpl : ps.length ≤ N.length := by have := congrArg List.length S.pre; rw [List.length_take] at this; omega
  simp only [runD] at h
  split at h
  · rename_i as S0 e1 e2
    have hn := argRefs_nodup ds
    have hf : ∀ n ∈ argRefs ds, n < μ.st.length := fun n hn => by rw [sm.len]; exact (pick_len e2).2 n hn
    have s0 := foc_sim sm hn e2
    have r0 := argsIn_ok sm hf rp e1
    have la : as.length = ps.length := by rw [← r0.length]; exact hl
    split at h
    · rename_i hnp
      refine ⟨_, S0, foc μ (argRefs ds), ⟨map_start r0 (by rw [hl]; exact hpl), s0, tb⟩, ?_⟩
      rw [la]
      cases eb : m (as.map some ++ List.replicate (N.length - ps.length) none) S0 with
      | nx e S' =>
        rw [eb] at h
        simp only at h
        split at h
        · rename_i S2 hb2
          intro σ' H' μ' xe a
          exact h _ _ _ (back_ext hf xe) ⟨back_sim sm hn hf xe a.sim (fun _ _ => rfl) hb2, .non⟩
        · exact False.elim h
      | ret r S' =>
        rw [eb] at h
        simp only at h
        split at h
        · rename_i z S2 ho hb2
          intro v H' μ' xe rv
          refine h _ _ _ (back_ext hf xe) ?_
          cases r with
          | new ob =>
            obtain ⟨a, rfl, h0, hno, s', _, s''⟩ := rv
            simp only [outR] at ho
            obtain ⟨ob', hr', rfl⟩ := Option.map_eq_some_iff.mp ho
            have xa : Ext Γ (foc μ (argRefs ds)) H (μ'.add a) H' := by
              refine ⟨?_, xe.hid, xe.keep, xe.here, fun b hb hm => ?_, xe.tabs⟩
              · obtain ⟨q, hq⟩ := xe.pre
                exact ⟨q ++ [a], by show μ'.st ++ [a] = _; rw [hq]; simp⟩
              · rcases List.mem_append.mp hb with z | z
                · exact xe.new b z hm
                · rw [List.mem_singleton.mp z]; exact h0
            have hS : (argRefs ds).length ≤ S'.length := by
              obtain ⟨q, hq⟩ := xe.pre
              have := s'.len
              rw [hq] at this
              have e3 : (foc μ (argRefs ds)).st.length = (argRefs ds).length := by simp [foc, addrs]
              rw [List.length_append] at this
              omega
            refine back_out sm hn hf xa s'' (fun i hi => ?_) hb2 (n := S'.length) hS ?_ ?_ hr'
            · exact List.getElem?_append_left (by omega)
            · show (μ'.st ++ [a])[S'.length]? = _
              rw [← s'.len]; simp
            · simp
          | val d =>
            obtain ⟨s', rv⟩ := rv
            have okm : ∀ b, (∃ o, H' b = some o) → μ'.no b → μ.no b := fun b _ q => back_no hf xe q
            have ok2 : ∀ n a, (argRefs ds).length ≤ n → n ≠ S'.length → μ'.st[n]? = some a → μ.no a := fun n a h1 _ h3 => sm.nnew (back_new sm hf xe s' h1 h3)
            have plain : (resD (resN S' (argRefs ds).length S'.length resFuel) d).map RV.val = some z → RVAt Γ H μ H' S2 v z := fun ho => by
              obtain ⟨d', hd, rfl⟩ := Option.map_eq_some_iff.mp ho
              exact ⟨back_sim sm hn hf xe s' (fun _ _ => rfl) hb2, rv.put okm (fun n a d h1 h2 => resN_ok s' okm ok2 _ n a d h1 h2) hd⟩
            cases d with
            | ref n =>
              simp only [outR] at ho
              split at ho
              · cases ho
              · rename_i hlt
                split at ho
                · rename_i ob eo
                  obtain ⟨ob', hr', rfl⟩ := Option.map_eq_some_iff.mp ho
                  cases rv with
                  | ref ha => exact back_out sm hn hf xe s' (fun _ _ => rfl) hb2 (by omega) ha eo hr'
                · cases ho
            | _ => exact plain ho
        · exact False.elim h
      | brk e S' => rw [eb] at h; exact False.elim h
      | cnt e S' => rw [eb] at h; exact False.elim h
      | ex y e S' =>
        rw [eb] at h
        simp only at h
        split at h
        · rename_i z S2 ho hb2
          intro cls dx σ' H' μ' xe a xa
          have okm : ∀ b, (∃ o, H' b = some o) → μ'.no b → μ.no b := fun b _ q => back_no hf xe q
          have ok2 : ∀ n a, (argRefs ds).length ≤ n → n ≠ S'.length → μ'.st[n]? = some a → μ.no a := fun n b h1 _ h3 => sm.nnew (back_new sm hf xe a.sim h1 h3)
          exact h cls dx H' μ (back_ext hf xe) (back_sim sm hn hf xe a.sim (fun _ _ => rfl) hb2) (xa.put okm (fun n b d h1 h2 => resN_ok a.sim okm ok2 _ n b d h1 h2) ho)
        · exact False.elim h
      | bad => rw [eb] at h; exact False.elim h
    · exact False.elim h
  · exact False.elim h
end
/-! ### f(e, ..) -/
def usrF (i : Nat) (g : Cfg) (dfl : List D) (m : MA) : ME := fun env S => (m env S).bind fun ds S1 => g.call i (ds ++ dfl) S1
section
variable {Γ : Gm} {X : Cx} {W : WX} {pos : Pos}
theorem rd_usr {i : Nat} {g : Cfg} {dfl : List D} {dvs : List V} {n : Nat} {m : MA} {σ : L2.St} {H : Hp} {Q : VK} (hd : ∀ H μ, Reps Γ H μ dvs dfl) (hlen : ∀ (_ : List V) ds S, (g.call i ds S).sat (fun _ _ => True) (fun _ _ => True) → ds.length = n) (h : rdE Γ W (usrF i g dfl m) σ H Q) :
    tCallSD (spD Γ (g.call i) n) dvs (fun σ => WE W σ) (rdA Γ W m) σ H Q :=
  rd_args h fun vs H' μ' ds S' env a rs q => by
    have rr := rs.append (hd H' μ')
    refine ⟨by rw [rr.length]; exact hlen vs _ S' (R.sat_imp q (fun _ _ _ => trivial) fun _ _ _ => trivial), ds ++ dfl, S', μ', a.sim, a.tabs, rr, R.sat_imp q (fun r S2 p => p) fun e S2 p => ?_⟩
    exact fun cls dx H2 μ2 x s xa => p cls dx H2 μ2 x s xa
theorem sd_usr {i : Nat} {g : Cfg} {dfl : List D} {dvs : List V} {dus : List Value} {m : MA} {k : Nat} {f : Addr} {fd : FuncData} {ps : List Str} {x : Str} {p : Pos} {e : Expr} {es : List Expr} (tk : Takes X W)
    (F : FnG X.prog X.w X.K X.mg X.base (L2.CX X.prog X.w) k f fd ps (spD Γ (g.call i) ps.length)) (hr : RoomG k X.A) (hg : Gl X x) (hm : X.mg x = some (.ref f)) (hk : PySem.W.keepIn X.K (.ref f) = true) (hb : Binds X.K fd ps dus) (hv : Vals dvs dus)
    (hd : ∀ H μ, Reps Γ H μ dvs dfl) (hlen : ∀ ds S, (g.call i ds S).sat (fun _ _ => True) (fun _ _ => True) → ds.length = ps.length) (ha : PA X (e :: es) (rdA Γ W m)) (hs : (e :: es).all notStar = true) (hdb : (x == ("__debug__" : Str)) = false) :
    PE X (.Call (.Name x p) (e :: es) [] pos) (rdE Γ W (usrF i g dfl m)) :=
  (pe_callG F hr hg hm hk hb hv (fun σ => passAt tk σ) ha hdb (star_cons (Bool.and_eq_true_iff.mp (show (notStar e && es.all notStar) = true from hs)).1) (star_any (Bool.and_eq_true_iff.mp (show (notStar e && es.all notStar) = true from hs)).2)).weak
    fun σ H Q h => rd_usr hd (fun _ ds S q => hlen ds S q) h
theorem sd_usr0 {i : Nat} {g : Cfg} {dfl : List D} {dvs : List V} {dus : List Value} {k : Nat} {f : Addr} {fd : FuncData} {ps : List Str} {x : Str} {p : Pos} (tk : Takes X W)
    (F : FnG X.prog X.w X.K X.mg X.base (L2.CX X.prog X.w) k f fd ps (spD Γ (g.call i) ps.length)) (hr : RoomG k X.A) (hg : Gl X x) (hm : X.mg x = some (.ref f)) (hk : PySem.W.keepIn X.K (.ref f) = true) (hb : Binds X.K fd ps dus) (hv : Vals dvs dus)
    (hd : ∀ H μ, Reps Γ H μ dvs dfl) (hlen : ∀ ds S, (g.call i ds S).sat (fun _ _ => True) (fun _ _ => True) → ds.length = ps.length) (hdb : (x == ("__debug__" : Str)) = false) :
    PE X (.Call (.Name x p) [] [] pos) (rdE Γ W (usrF i g dfl (argsF []))) :=
  (pe_call0G F hr hg hm hk hb hv (fun σ => passAt tk σ) hdb).weak
    fun σ H Q h => by
      obtain ⟨env, S, μ, a, h⟩ := h
      unfold usrF argsF R.bind at h
      have rr : Reps Γ H μ dvs dfl := hd H μ
      refine ⟨?_, dfl, S, μ, a.sim, a.tabs, rr, R.sat_imp h (fun r S2 p => p) fun e S2 p => ?_⟩
      · show ([] ++ dvs).length = _
        rw [List.nil_append, rr.length]
        exact hlen dfl S (R.sat_imp h (fun _ _ _ => trivial) fun _ _ _ => trivial)
      · exact fun cls dx H2 μ2 x s xa => p cls dx H2 μ2 x s xa
end
end Ev
/-! Ev11: what is walked; comprehensions as expressions; further stores; methods of lists. -/
namespace Ev
open PySem L2 PyProof.Rows
/-! ### what is walked -/
def iterD (S : Store) (d : D) : Option Src :=
  match d with
  | .tup xs => some (.st xs)
  | .lst xs => some (.st xs)
  | .scr xs => some (.st xs)
  | .str z => some (.st (signsL z))
  | .ref n => match S[n]? with | some (.lst _) => some (.rf n) | _ => none
  | _ => none
def iterF (f : ME) : MI := fun env S => (f env S).bind fun r S1 => match iterD S1 r.d with | some src => .ok src S1 | none => .bad
def iAny (K : PySem.W.Frag) (te : TE) : TI := fun σ H Rr => te σ H fun x H1 => (∃ a, x = .ref a ∧ (∃ xs, SqL K H1 a xs) ∧ Rr (Itl K a) H1) ∨ (∃ a, x = .ref a ∧ (∃ xs, SqT K H1 a xs) ∧ Rr (Itt K a) H1) ∨ ∃ z, x = .str z ∧ Rr (Its z) H1
section
variable {Γ : Gm} {X : Cx} {W : WX} {pos : Pos} {tg : Expr}
theorem pi_any {e : Expr} {te : TE} (he : PE X e te) : PI X tg e (iAny X.K te) := by
  refine ⟨fun pins s σ H R I h => ?_⟩
  refine thn (he.run pins s σ H _ I h) fun v s1 ⟨x, H1, I1, r1, q1⟩ => ?_
  rcases q1 with ⟨a, e, ⟨xs, hq⟩, q⟩ | ⟨a, e, ⟨xs, hq⟩, q⟩ | ⟨z, e, q⟩
  · subst e
    cases r1
    obtain ⟨its, rv, p, hz⟩ := I1.list hq
    refine wpAny_pyIter_list p.isList ?_
    refine ⟨s1.heap.objs.size, [s1.heap.objs.size], _, _, H1, rfl, I1.kept (t' := s1.toks) fun b o e => Heap.get?_push_of_some _ e, turn_list a _, ⟨_, Heap.get?_push_size _ rfl, rfl, rfl⟩, fun b hb => ?_, q⟩
    have e : b = s1.heap.objs.size := by simpa using hb
    subst e
    exact I1.fpOk (Nat.le_refl _) (I1.hok.fresh (Nat.le_refl _))
  · subst e
    cases r1
    obtain ⟨its, rv, p, hz⟩ := I1.tuple hq
    refine wpAny_pyIter_tuple (show s1.heap.IsTuple a its.toArray from p) ?_
    refine ⟨s1.heap.objs.size, [s1.heap.objs.size], _, _, H1, rfl, I1.kept (t' := s1.toks) fun b o e => Heap.get?_push_of_some _ e, turn_tuple a _, ⟨_, Heap.get?_push_size _ rfl, rfl, rfl⟩, fun b hb => ?_, q⟩
    have e : b = s1.heap.objs.size := by simpa using hb
    subst e
    exact I1.fpOk (Nat.le_refl _) (I1.hok.fresh (Nat.le_refl _))
  · subst e
    obtain ⟨t, rfl⟩ := r1
    cases ha : z.cps.all (· < 128)
    · exact wpAny_pyIter_wide ha (pi_one (tk := s1.toks) I1 _ (turn_str _ z t "str_iterator" (.inr rfl)) ⟨_, Heap.get?_push_size _ rfl, rfl, rfl⟩ q)
    · exact wpAny_pyIter_ascii ha (pi_one (tk := s1.toks) I1 _ (turn_str _ z t "str_ascii_iterator" (.inl rfl)) ⟨_, Heap.get?_push_size _ rfl, rfl, rfl⟩ q)
theorem rdI_use {f : ME} {k : RV → Store → R Src} {σ : L2.St} {H : Hp} {Rr : It → Hp → Prop} (h : rdI Γ W (fun env S => (f env S).bind k) σ H Rr) {Q : VK}
    (q : ∀ r S' v H' μ' env, At Γ σ H' env S' μ' → RVAt Γ H μ' H' S' v r → (k r S').sat (fun src S2 => ∀ J H2 μ2, Ext Γ μ' H' μ2 H2 → Sim Γ μ2 H2 S2 → FeedsS Γ J μ2 H2 src → Rr J H2) (XPost Γ W σ μ' H') → Q v H') : rdE Γ W f σ H Q := by
  obtain ⟨env, S, μ, a, h⟩ := h
  rw [R.sat_bind] at h
  refine rd_use a (R.sat_imp h (fun r S' q => q) fun x S' q => q) fun r S' v H' μ' x rv g => ?_
  exact q r S' v H' μ' env (a.next x rv.sim.1) rv (R.sat_imp g (fun src S2 g J H2 μ2 x2 => g J H2 μ2 (x.trans x2)) fun y S2 g => g.ext x)
theorem sd_iter {e : Expr} {f : ME} (hK : X.K = Γ.K) (he : PE X e (rdE Γ W f)) : PI X tg e (rdI Γ W (iterF f)) := (pi_any he).weak fun σ H Rr h => by
  refine rdI_use h fun r S' v H' μ' env a rv q => ?_
  obtain ⟨s, rep⟩ := rv.sim
  split at q
  · rename_i src hi
    rw [hK]
    revert hi rep
    generalize r.d = d
    intro rep hi
    cases d with
    | tup xs =>
      cases hi
      cases rep with
      | tup h1 h2 =>
        rename_i aa vs
        refine .inr (.inl ⟨aa, rfl, ⟨vs, ?_⟩, q _ H' μ' .refl s (feeds_tup h1 h2)⟩)
        rcases h1 with h1 | h1
        · exact .of h1.1
        · exact .inr h1
    | lst xs =>
      cases hi
      cases rep with
      | lst h1 h2 => exact .inl ⟨_, rfl, ⟨_, .of h1.1⟩, q _ H' μ' .refl s (feeds_lst h1 h2)⟩
    | scr xs =>
      cases hi
      cases rep with
      | scr h1 h2 => exact .inl ⟨_, rfl, ⟨_, .inl (.inr ⟨_, h1.1⟩)⟩, q _ H' μ' .refl s (feeds_scr h1 h2)⟩
    | str z =>
      cases hi
      cases rep
      exact .inr (.inr ⟨z, rfl, q _ H' μ' .refl s feeds_str⟩)
    | ref n =>
      simp only [iterD] at hi
      split at hi
      · rename_i xs e
        cases hi
        cases rep with
        | ref ha =>
          obtain ⟨vs, hv, _⟩ := s.ats n _ _ ha e
          exact .inl ⟨_, rfl, ⟨vs, .of hv⟩, q _ H' μ' .refl s ⟨_, ha, rfl⟩⟩
      · cases hi
    | _ => cases hi
  · exact False.elim q
/-! range -/
def smallR (i : Int) : Bool := decide (-(4611686018427387904) ≤ i) && decide (i < 4611686018427387904)
theorem e62 : (2 : Int) ^ 62 = 4611686018427387904 := by decide
theorem smallR_ok {i : Int} (h : smallR i = true) : -(2 ^ 62) ≤ i ∧ i < 2 ^ 62 := by
  unfold smallR at h
  rw [Bool.and_eq_true, decide_eq_true_eq, decide_eq_true_eq] at h
  rw [e62]; exact h
def rng1D (ds : List D) : Option (List D) := match ds with
  | [.int j] => if smallR j then some (rangeL 0 j.toNat) else none
  | _ => none
def rng2D (ds : List D) : Option (List D) := match ds with
  | [.int i, .int j] => if smallR i && smallR j then some (rangeL i (j - i).toNat) else none
  | _ => none
def rngF (o : List D → Option (List D)) (m : MA) : MI := fun env S => (m env S).bind fun ds S1 => match o ds with | some xs => .ok (.st xs) S1 | none => .bad
theorem rdI_args {m : MA} {k : List D → Store → R Src} {σ : L2.St} {H : Hp} {Rr : It → Hp → Prop} (h : rdI Γ W (fun env S => (m env S).bind k) σ H Rr) {Q : List V → Hp → Prop}
    (q : ∀ vs H' μ' ds S' env, At Γ σ H' env S' μ' → Reps Γ H' μ' vs ds → (k ds S').sat (fun src S2 => ∀ J H2 μ2, Ext Γ μ' H' μ2 H2 → Sim Γ μ2 H2 S2 → FeedsS Γ J μ2 H2 src → Rr J H2) (XPost Γ W σ μ' H') → Q vs H') : rdA Γ W m σ H Q := by
  obtain ⟨env, S, μ, a, h⟩ := h
  rw [R.sat_bind] at h
  refine ⟨env, S, μ, a, R.sat_imp h (fun ds S' g vs H' μ' x s rs => ?_) fun x S' q => q⟩
  exact q vs H' μ' ds S' env (a.next x s) rs (R.sat_imp g (fun src S2 g J H2 μ2 x2 => g J H2 μ2 (x.trans x2)) fun y S2 g => g.ext x)
theorem sd_range1 {a : Expr} {m : MA} {p : Pos} (hg : Gl X "range") (hm : X.mg "range" = none) (ha : PA X [a] (rdA Γ W m)) (hs : notStar a = true) : PI X tg (.Call (.Name "range" p) [a] [] pos) (rdI Γ W (rngF rng1D m)) :=
  (pi_range1 hg hm ha (by rw [star_cons hs]; rfl)).weak fun σ H Rr h => rdI_args h fun vs H' μ' ds S' env at_ rs q => by
    split at q
    · rename_i xs e
      unfold rng1D at e
      split at e
      · rename_i j
        split at e
        · rename_i hj
          cases e
          obtain ⟨v, rfl, rv⟩ := reps1 rs
          cases rv
          obtain ⟨h1, h2⟩ := smallR_ok hj
          exact ⟨j, rfl, h1, h2, q _ H' μ' .refl at_.sim feeds_range⟩
        · cases e
      · cases e
    · exact False.elim q
theorem sd_range2 {a b : Expr} {m : MA} {p : Pos} (hg : Gl X "range") (hm : X.mg "range" = none) (ha : PA X [a, b] (rdA Γ W m)) (hs : notStar a = true) (hs2 : notStar b = true) : PI X tg (.Call (.Name "range" p) [a, b] [] pos) (rdI Γ W (rngF rng2D m)) :=
  (pi_range2 hg hm ha (by rw [star_cons hs, star_cons hs2]; rfl) (by rw [star_cons hs2]; rfl)).weak fun σ H Rr h => rdI_args h fun vs H' μ' ds S' env at_ rs q => by
    split at q
    · rename_i xs e
      unfold rng2D at e
      split at e
      · rename_i i j
        split at e
        · rename_i hj
          cases e
          obtain ⟨v, w, rfl, rv, rw'⟩ := reps2 rs
          cases rv
          cases rw'
          obtain ⟨k1, k2⟩ := Bool.and_eq_true_iff.mp hj
          obtain ⟨h1, h2⟩ := smallR_ok k1
          obtain ⟨h3, h4⟩ := smallR_ok k2
          exact ⟨i, j, rfl, ⟨h1, h2, h3, h4⟩, q _ H' μ' .refl at_.sim feeds_range⟩
        · cases e
      · cases e
    · exact False.elim q
/-! ### comprehensions -/
theorem sd_lc {fuel : Nat} {elt tgt iter : Expr} {ifs : List Expr} {scope : Scope} {own : List (Str × Nat)} {t : Tg} {it : MI} {c : MT} {f : ME} (hc : X.calm = true) (hN : X.N.Nodup) (hi : PI X tgt iter (rdI Γ W it)) (ok : blkC X.N X.env.scope scope own = true)
    (hsl : t.slots.all (fun j => decide (j ∈ own.map (·.2))) = true)
    (hg : ∀ (s : Shared) (H : Hp) (C : Addr) (cl : List (Str × Addr)) (fp : List Addr), PG (X.blk s H scope (compEnvC scope cl C X.env) fp) tgt (rdG Γ t)) (ht : ∀ (s : Shared) (H : Hp) (C : Addr) (cl : List (Str × Addr)) (fp : List Addr), PTs (X.blk s H scope (compEnvC scope cl C X.env) fp) ifs (rdT Γ WF c))
    (he : ∀ (s : Shared) (H : Hp) (C : Addr) (cl : List (Str × Addr)) (fp : List Addr), PE (X.blk s H scope (compEnvC scope cl C X.env) fp) elt (rdE Γ WF f)) (hs : ∀ x, foldedSetIterable iter X.env x = pure x) :
    PE X (.ListComp elt [⟨tgt, iter, ifs, 0⟩] scope pos) (rdE Γ W (lcF fuel (own.map (·.2)) t it c f)) :=
  (pe_lc hc hN hi (blkOk_by ok) hg ht he hs).weak fun σ H Q h => rd_lc (fun j hj => of_decide_eq_true (List.all_eq_true.mp hsl j hj)) h
theorem sd_setLc {mt : Bool} {i : Nat} {y : Str} {py : Pos} {fuel : Nat} {elt tgt iter : Expr} {ifs : List Expr} {scope : Scope} {own : List (Str × Nat)} {spos : Pos} {t : Tg} {it : MI} {c : MT} {f : ME} (hc : X.calm = true) (hN : X.N.Nodup) (hy : X.N[i]? = some y) (hyl : X.env.scope.names.lookup y = some .local)
    (hsw : swapsWith (.ListComp elt [⟨tgt, iter, ifs, 0⟩] scope pos) (some (.Name y py)) spos.line X.env = pure true) (hi : PI X tgt iter (rdI Γ W it)) (ok : blkC X.N X.env.scope scope own = true)
    (hsl : t.slots.all (fun j => decide (j ∈ own.map (·.2))) = true)
    (hg : ∀ (s : Shared) (H : Hp) (C : Addr) (cl : List (Str × Addr)) (fp : List Addr), PG (X.blk s H scope (compEnvC scope cl C X.env) fp) tgt (rdG Γ t)) (ht : ∀ (s : Shared) (H : Hp) (C : Addr) (cl : List (Str × Addr)) (fp : List Addr), PTs (X.blk s H scope (compEnvC scope cl C X.env) fp) ifs (rdT Γ WF c))
    (he : ∀ (s : Shared) (H : Hp) (C : Addr) (cl : List (Str × Addr)) (fp : List Addr), PE (X.blk s H scope (compEnvC scope cl C X.env) fp) elt (rdE Γ WF f)) (hs : ∀ x, foldedSetIterable iter X.env x = pure x) :
    PS X (.Assign [.Name y py] (.ListComp elt [⟨tgt, iter, ifs, 0⟩] scope pos) spos) (rdS Γ W (setS mt i (lcF fuel (own.map (·.2)) t it c f))) :=
  (ps_setLc hc hN hy hyl hsw hi (blkOk_by ok) hg ht he hs).weak fun D σ H h => by
    refine rd_lc (W := W) (fuel := fuel) (fun j hj => of_decide_eq_true (List.all_eq_true.mp hsl j hj)) ?_
    obtain ⟨env, S, μ, a, h⟩ := h
    unfold setS at h
    rw [R.sat_then] at h
    refine rd_use a (R.sat_imp h (fun r S' q => q) fun x S' q => xpost_of a q) fun r S' v H' μ' x rv g => ?_
    obtain ⟨μ2, x2, s2, r2⟩ := take_ok (mt := mt) x rv
    exact g _ H' μ2 x2 ⟨(a.env.ext x2).set i r2, s2, x2.tabs a.tabs⟩
/-! ### a, b = x, y -/
theorem rdS_args {m : MA} {k : List D → Store → RS} {Z : Ends} {σ : L2.St} {H : Hp} {env : EnvD} {S : Store} {μ : Mu} {Q : List V → Hp → Prop} (a : At Γ σ H env S μ) (h : ((m env S).then env k).sat (spost Γ W Z μ H))
    (q : ∀ ds S' vs H' μ', Ext Γ μ H μ' H' → Sim Γ μ' H' S' → Reps Γ H' μ' vs ds → (k ds S').sat (spost Γ W Z μ' H') → Q vs H') : rdA Γ W m σ H Q := by
  rw [R.sat_then] at h
  exact ⟨env, S, μ, a, R.sat_imp h (fun ds S' g vs H' μ' x s r => q ds S' vs H' μ' x s r (spost.ext x g)) fun x S' q => xpost_of a q⟩
def parS (i j : Nat) (m : MA) : MS := fun env S => (m env S).then env fun ds S1 => match ds with | [d, e] => .nx ((env.set i (some d)).set j (some e)) S1 | _ => .bad
def par3S (i j l : Nat) (m : MA) : MS := fun env S => (m env S).then env fun ds S1 => match ds with | [d, e, f] => .nx (((env.set i (some d)).set j (some e)).set l (some f)) S1 | _ => .bad
theorem reps3 {H : Hp} {μ : Mu} {vs : List V} {d e f : D} (r : Reps Γ H μ vs [d, e, f]) : ∃ u v w, vs = [u, v, w] ∧ Rep Γ H μ u d ∧ Rep Γ H μ v e ∧ Rep Γ H μ w f := by
  cases r with
  | cons r t =>
    obtain ⟨v, w, rfl, h1, h2⟩ := reps2 t
    exact ⟨_, v, w, rfl, r, h1, h2⟩
theorem sd_par {i j : Nat} {x y : Str} {a b : Expr} {m : MA} {px py pt : Pos} {kt k2 pt2} (hc : X.calm = true) (hN : X.N.Nodup) (hi : X.N[i]? = some x) (hj : X.N[j]? = some y) (hij : i ≠ j)
    (hx : X.env.scope.names.lookup x = some .local) (hy : X.env.scope.names.lookup y = some .local) (ha : PA X [a, b] (rdA Γ W m))
    (hw : swappedStores [.Tuple [.Name x px, .Name y py] kt pt] (.Tuple [a, b] k2 pt2) X.env = pure (some [x, y]))
    (hs : swapsWithSole [.Tuple [.Name x px, .Name y py] kt pt] (.Tuple [a, b] k2 pt2) pos.line X.env = pure false) :
    PS X (.Assign [.Tuple [.Name x px, .Name y py] kt pt] (.Tuple [a, b] k2 pt2) pos) (rdS Γ W (parS i j m)) :=
  (ps_par hc hN hi hj hij hx hy ha hw hs).weak fun D σ H h => by
    obtain ⟨env, S, μ, a, h⟩ := h
    refine rdS_args a h fun ds S' vs H' μ' x s r g => ?_
    split at g
    · rename_i d e
      obtain ⟨v, w, rfl, h1, h2⟩ := reps2 r
      exact ⟨v, w, rfl, g _ H' μ' .refl ⟨((a.env.ext x).set i h1).set j h2, s, x.tabs a.tabs⟩⟩
    · exact False.elim g
theorem sd_par3 {i j l : Nat} {x y z : Str} {a b c : Expr} {m : MA} {px py pz pt : Pos} {kt k2 pt2} (hc : X.calm = true) (hN : X.N.Nodup) (hi : X.N[i]? = some x) (hj : X.N[j]? = some y) (hl : X.N[l]? = some z) (hij : i ≠ j) (hil : i ≠ l) (hjl : j ≠ l)
    (hx : X.env.scope.names.lookup x = some .local) (hy : X.env.scope.names.lookup y = some .local) (hz : X.env.scope.names.lookup z = some .local) (ha : PA X [a, b, c] (rdA Γ W m))
    (hw : swappedStores [.Tuple [.Name x px, .Name y py, .Name z pz] kt pt] (.Tuple [a, b, c] k2 pt2) X.env = pure (some [x, y, z]))
    (hs : swapsWithSole [.Tuple [.Name x px, .Name y py, .Name z pz] kt pt] (.Tuple [a, b, c] k2 pt2) pos.line X.env = pure false) :
    PS X (.Assign [.Tuple [.Name x px, .Name y py, .Name z pz] kt pt] (.Tuple [a, b, c] k2 pt2) pos) (rdS Γ W (par3S i j l m)) :=
  (ps_par3 hc hN hi hj hl hij hil hjl hx hy hz ha hw hs).weak fun D σ H h => by
    obtain ⟨env, S, μ, a, h⟩ := h
    refine rdS_args a h fun ds S' vs H' μ' x s r g => ?_
    split at g
    · rename_i d e f
      obtain ⟨u, v, w, rfl, h1, h2, h3⟩ := reps3 r
      exact ⟨u, v, w, rfl, g _ H' μ' .refl ⟨(((a.env.ext x).set i h1).set j h2).set l h3, s, x.tabs a.tabs⟩⟩
    · exact False.elim g
end
end Ev
/-! Ev12: stores into objects, op=, methods of builtin objects, dict displays. -/
namespace Ev
open PySem L2 PyProof.Rows
/-! ### dicts are put -/
def putW (k : Key) (y : D) : List D → List D → List D
  | kd :: ks, v :: vs => (if isKey k kd then y else v) :: putW k y ks vs
  | _, _ => []
def putP (k : Key) (y : D) (ks vs : List D) : List D × List D :=
  if ks.any (isKey k) then (ks, putW k y ks vs) else (ks ++ [keyD k], vs ++ [y])
section
variable {Γ : Gm} {H : Hp} {μ : Mu}
theorem any_keyD (k : Key) : ∀ kvs : List (Key × V), (kvs.map fun q => keyD q.1).any (isKey k) = kvs.any fun kv => decide (kv.1 = k)
  | [] => rfl
  | p :: r => by
    rw [List.map_cons, List.any_cons, List.any_cons, isKey_keyD, any_keyD k r]
theorem putW_ok {k : Key} {v : V} {d : D} (rv : Rep Γ H μ v d) : ∀ {kvs : List (Key × V)} {ds : List D}, Reps Γ H μ (kvs.map (·.2)) ds →
    Reps Γ H μ ((kvs.map fun kv => if kv.1 = k then (kv.1, v) else kv).map (·.2)) (putW k d (kvs.map fun q => keyD q.1) ds)
  | [], _, r => by cases r; exact .nil
  | p :: kvs, _, r => by
    cases r with
    | cons r1 r2 =>
      refine .cons ?_ (putW_ok rv r2)
      rw [isKey_keyD]
      show Rep Γ H μ (if p.1 = k then (p.1, v) else p).2 _
      by_cases e : p.1 = k
      · rw [if_pos e, if_pos (decide_eq_true e)]; exact rv
      · rw [if_neg e, if_neg (by rw [decide_eq_false e]; decide)]; exact r1
theorem putP_ok {k : Key} {v : V} {d : D} {kvs : List (Key × V)} {ds : List D} (r : Reps Γ H μ (kvs.map (·.2)) ds) (rv : Rep Γ H μ v d) :
    (putP k d (kvs.map fun q => keyD q.1) ds).1 = (putK kvs k v).map (fun q => keyD q.1) ∧ Reps Γ H μ ((putK kvs k v).map (·.2)) (putP k d (kvs.map fun q => keyD q.1) ds).2 := by
  unfold putP putK
  rw [any_keyD]
  by_cases a : (kvs.any fun kv => decide (kv.1 = k)) = true
  · rw [if_pos a, if_pos a]
    refine ⟨?_, putW_ok rv r⟩
    rw [List.map_map]
    refine List.map_congr_left fun q _ => ?_
    show keyD q.1 = keyD (if q.1 = k then (q.1, v) else q).1
    split <;> rfl
  · rw [if_neg a, if_neg a, List.map_append, List.map_append]
    exact ⟨rfl, r.append (.cons rv .nil)⟩
end
/-! ### o[i] = v -/
def subsD (S : Store) (o i v : D) : Option Store :=
  match o with
  | .ref n => match S[n]? with
    | some (.lst xs) => match i with
      | .int k => (ixN xs.length k).map fun j => S.set n (.lst (xs.set j v))
      | _ => none
    | some (.dct ks vs) => match keyOf i with
      | some k => if ks.length < 16777216 then some (S.set n (.dct (putP k v ks vs).1 (putP k v ks vs).2)) else none
      | none => none
    | _ => none
  | _ => none
def rSub : TSet := fun o i v H Q => rSetL o i v H Q ∨ rSetD o i v H Q
theorem set_sub {X : Cx} (hu : X.A.units + 1 < cLine) : PSet X rSub := by
  intro pins s σ H o i v ov iv u Q I ro ri rv h
  rcases h with h | h
  · exact set_list pins s σ H o i v ov iv u Q I ro ri rv h
  · exact set_dict hu pins s σ H o i v ov iv u Q I ro ri rv h
section
variable {Γ : Gm} {X : Cx} {W : WX} {pos : Pos}
theorem write_lst {H : Hp} {μ : Mu} {S : Store} {n : Nat} {a : Addr} {xs ys : List D} {vs : List V} (s : Sim Γ μ H S) (hn : μ.st[n]? = some a) (hS : S[n]? = some (.lst xs)) (r : Reps Γ H μ vs ys) : Ext Γ μ H μ (upd H a (.lst vs)) ∧ Sim Γ μ (upd H a (.lst vs)) (S.set n (.lst ys)) := by
  have xe : Ext Γ μ H μ (upd H a (.lst vs)) := by
    obtain ⟨m1, m2, m3⟩ := mut_tbl (s.ats n _ _ hn hS)
    exact Ext.write (List.mem_of_getElem? hn) _ m2 m3
  exact s.write (ob' := .lst ys) hn hS (.lst vs) ⟨_, upd_same, r.ext xe⟩
theorem write_dct {H : Hp} {μ : Mu} {S : Store} {n : Nat} {a : Addr} {ks0 vs0 vs : List D} {kvs : List (Key × V)} (s : Sim Γ μ H S) (hn : μ.st[n]? = some a) (hS : S[n]? = some (.dct ks0 vs0)) (r : Reps Γ H μ (kvs.map (·.2)) vs) : Ext Γ μ H μ (upd H a (.dK kvs)) ∧ Sim Γ μ (upd H a (.dK kvs)) (S.set n (.dct (kvs.map fun q => keyD q.1) vs)) := by
  have xe : Ext Γ μ H μ (upd H a (.dK kvs)) := by
    obtain ⟨m1, m2, m3⟩ := mut_tbl (s.ats n _ _ hn hS)
    exact Ext.write (List.mem_of_getElem? hn) _ m2 m3
  exact s.write (ob' := .dct (kvs.map fun q => keyD q.1) vs) hn hS (.dK kvs) ⟨_, upd_same, rfl, r.ext xe⟩
theorem subs_ok {H : Hp} {μ : Mu} {S S' : Store} {o i v : V} {dO di dv : D} (s : Sim Γ μ H S) (ro : Rep Γ H μ o dO) (ri : Rep Γ H μ i di) (rv : Rep Γ H μ v dv) (h : subsD S dO di dv = some S') {Q : Hp → Prop}
    (q : ∀ H', Ext Γ μ H μ H' → Sim Γ μ H' S' → Q H') : rSub o i v H Q := by
  cases dO with
  | ref n =>
    simp only [subsD] at h
    cases ro with
    | ref hn =>
      split at h
      · rename_i xs hS
        split at h
        · rename_i k
          obtain ⟨j, hj, rfl⟩ := Option.map_eq_some_iff.mp h
          cases ri
          obtain ⟨vs, hv, rs⟩ := s.ats n _ _ hn hS
          refine .inl ⟨_, vs, k, j, rfl, rfl, hv, by rw [rs.length]; exact hj, ?_⟩
          obtain ⟨x, s'⟩ := write_lst s hn hS (rs.set j rv)
          exact q _ x s'
        · cases h
      · rename_i ks vs hS
        split at h
        · rename_i k hk
          split at h
          · rename_i hl
            cases h
            have ei := keyOf_ok ri hk
            subst ei
            obtain ⟨kvs, hv, rfl, rs⟩ := s.ats n _ _ hn hS
            refine .inr ⟨_, _, rfl, .k hv (by rw [sizeLine_eq]; simpa using hl), ?_⟩
            obtain ⟨p1, p2⟩ := putP_ok (k := k) rs rv
            obtain ⟨x, s'⟩ := write_dct s hn hS p2
            rw [← p1] at s'
            exact q _ x s'
          · cases h
        · cases h
      · cases h
  | _ => cases h
def subS (fo fi fv : ME) : MS := fun env S => (fv env S).then env fun v S1 => (fo env S1).then env fun o S2 => (fi env S2).then env fun i S3 => match subsD S3 o.d i.d v.d with
  | some S4 => .nx env S4
  | none => .bad
theorem sd_sub {o i e : Expr} {fo fi fv : ME} {tpos : Pos} (hu : X.A.units + 1 < cLine) (ho : PE X o (rdE Γ W fo)) (hi : PE X i (rdE Γ W fi)) (he : PE X e (rdE Γ W fv))
    (ha : ∀ v, assign (.Subscript o i tpos) X.env v = (do
      let ov ← holding [v] (eval o X.env)
      let iv ← holding [v, ov] (eval i X.env)
      standAt tpos
      holding [v, ov, iv] (setItem ov iv v)
      release [v, ov, iv] []))
    (hs : swapsWithSole [.Subscript o i tpos] e pos.line X.env = pure false) (hw : swappedStores [.Subscript o i tpos] e X.env = pure none)
    (h1 : (assignEach [.Subscript o i tpos] X.env).map (·.2) = [assign (.Subscript o i tpos) X.env]) : PS X (.Assign [.Subscript o i tpos] e pos) (rdS Γ W (subS fo fi fv)) :=
  (ps_asg he (pg_sub ho hi (set_sub hu) ha) hs hw h1).weak fun Z σ H h => by
    obtain ⟨env, S, μ, a, h⟩ := h
    refine rdS_then a h fun rv S1 v H1 μ1 x1 pv g1 => ?_
    have a1 := a.next x1 pv.sim.1
    refine rdS_then a1 g1 fun ro S2 ov H2 μ2 x2 po g2 => ?_
    have a2 := a1.next x2 po.sim.1
    refine rdS_then a2 g2 fun ri S3 iv H3 μ3 x3 pi g3 => ?_
    have a3 := a2.next x3 pi.sim.1
    split at g3
    · rename_i S4 e4
      refine subs_ok a3.sim (po.sim.2.ext x3) pi.sim.2 (pv.sim.2.ext (x2.trans x3)) e4 fun H4 x4 s4 => ?_
      exact g3 σ H4 μ3 x4 (a3.next x4 s4)
    · exact False.elim g3
/-! ### x op= e -/
def augS (i : Nat) (o : Store → D → D → Option (D × Store)) (f : ME) : MS := fun env S => match env[i]? with
  | some (some d) => (f env S).then env fun r S1 => match o S1 d r.d with | some (z, S2) => .nx (env.set i (some z)) S2 | none => .bad
  | _ => .bad
def IpD (Γ : Gm) (o : Store → D → D → Option (D × Store)) (r : TIp) : Prop := ∀ (H : Hp) (μ : Mu) (S S' : Store) (x y : V) (dx dy z : D) (Q : VK), Sim Γ μ H S → Rep Γ H μ x dx → Rep Γ H μ y dy → o S dx dy = some (z, S') →
  (∀ v H', Ext Γ μ H μ H' → Sim Γ μ H' S' → Rep Γ H' μ v z → Q v H') → r x y H Q
theorem sd_aug {i : Nat} {x : Str} {e : Expr} {f : ME} {op : Operator} {r : TIp} {o : Store → D → D → Option (D × Store)} {pos' : Pos} (hN : X.N.Nodup) (hi : X.N[i]? = some x) (hx : Loc X.env.scope x) (he : PE X e (rdE Γ W f)) (ho : PIp X op r) (hd : IpD Γ o r)
    (hf : X.fn x = true ∨ X.env.scope.names.lookup x = some .local) : PS X (.AugAssign (.Name x pos') op e pos) (rdS Γ W (augS i o f)) :=
  (ps_aug hN hi hx he ho hf).weak fun Z σ H h => by
    obtain ⟨env, S, μ, a, h⟩ := h
    unfold augS at h
    split at h
    · rename_i d hd1
      obtain ⟨v, hv, rv⟩ := a.env.2 i d hd1
      refine ⟨v, hv, rdS_then a h fun r1 S1 w H1 μ1 x1 p1 g1 => ?_⟩
      have a1 := a.next x1 p1.sim.1
      split at g1
      · rename_i z S2 e2
        refine hd _ _ _ _ _ _ _ _ _ _ a1.sim (rv.ext x1) p1.sim.2 e2 fun u H2 x2 s2 ru => ?_
        have a2 := a1.next x2 s2
        exact g1 _ H2 μ1 x2 ⟨a2.env.set i ru, s2, a2.tabs⟩
      · exact False.elim g1
    · exact False.elim h
/-- ints, texts, lists -/
def iaddD (S : Store) (x y : D) : Option (D × Store) :=
  match x with
  | .int i => match y with | .int j => some (.int (i + j), S) | _ => none
  | .str i => match y with | .str j => if i.length + j.length ≤ 16777216 then some (.str (i ++ j), S) else none | _ => none
  | .ref n => match S[n]? with
    | some (.lst xs) => match lstOf S y with
      | some ys => if xs.length + ys.length ≤ 16777216 then some (.ref n, S.set n (.lst (xs ++ ys))) else none
      | none => none
    | _ => none
  | _ => none
def rIadd : TIp := fun x y H Q => (rI0 fun i j => .int (i + j)) x y H Q ∨ (∃ i j, x = .str i ∧ y = .str j ∧ i.length + j.length ≤ sizeLine ∧ Q (.str (i ++ j)) H) ∨ rExt2 x y H Q
theorem ip_iadd : PIp X .Add rIadd := by
  intro pins s σ H x y v u Q I r1 r2 h
  rcases h with h | h | h
  · exact iop_add pins s σ H x y v u Q I r1 r2 h
  · exact iop_add_str pins s σ H x y v u Q I r1 r2 h
  · exact iop_ext pins s σ H x y v u Q I r1 r2 h
theorem iadd_ok : IpD Γ iaddD rIadd := by
  intro H μ S S' x y dx dy z Q s rx ry h q
  unfold iaddD at h
  split at h
  · rename_i i
    split at h
    · rename_i j
      cases h
      cases rx
      cases ry
      exact .inl ⟨i, j, rfl, rfl, q _ H .refl s (.int _)⟩
    · cases h
  · rename_i i
    split at h
    · rename_i j
      split at h
      · rename_i hl
        cases h
        cases rx
        cases ry
        exact .inr (.inl ⟨i, j, rfl, rfl, by rw [sizeLine_eq]; exact hl, q _ H .refl s (.str _)⟩)
      · cases h
    · cases h
  · rename_i n
    split at h
    · rename_i xs hS
      split at h
      · rename_i ys hy
        split at h
        · rename_i hl
          cases h
          cases rx with
          | ref hn =>
            obtain ⟨vs, hv, rs⟩ := s.ats n _ _ hn hS
            obtain ⟨b, ws, rfl, hb, rw'⟩ := lstOf_ok s ry hy
            refine .inr (.inr ⟨_, b, vs, ws, rfl, rfl, hv, hb, by rw [sizeLine_eq, rs.length, rw'.length]; exact hl, ?_⟩)
            obtain ⟨x, s'⟩ := write_lst s hn hS (rs.append rw')
            exact q _ _ x s' (.ref hn)
        · cases h
      · cases h
    · cases h
  · cases h
def isubD (S : Store) (x y : D) : Option (D × Store) :=
  match x, y with
  | .int i, .int j => some (.int (i - j), S)
  | _, _ => none
theorem ip_isub : PIp X .Sub (rI0 fun i j => .int (i - j)) := fun pins s σ H x y v u Q I r1 r2 h => iop_sub pins s σ H x y v u Q I r1 r2 h
theorem isub_ok : IpD Γ isubD (rI0 fun i j => .int (i - j)) := by
  intro H μ S S' x y dx dy z Q s rx ry h q
  unfold isubD at h
  split at h
  · rename_i i j
    cases h
    cases rx
    cases ry
    exact ⟨i, j, rfl, rfl, q _ H .refl s (.int _)⟩
  · cases h
/-! ### methods of builtin objects -/
def tyD (T : String) (S : Store) (d : D) : Bool :=
  match d with
  | .str _ => T == "str"
  | .lst _ => T == "list"
  | .scr _ => T == "list"
  | .dct _ _ => T == "dict"
  | .ref n => match S[n]? with | some (.lst _) => T == "list" | some (.dct _ _) => T == "dict" | _ => false
  | _ => false
theorem tyD_ok {T : String} {H : Hp} {μ : Mu} {S : Store} {v : V} {d : D} (s : Sim Γ μ H S) (r : Rep Γ H μ v d) (h : tyD T S d = true) : tyV Γ.K T v H := by
  cases r with
  | str x => exact (beq_iff_eq.mp h : T = "str")
  | lst h1 h2 => exact .inl ⟨beq_iff_eq.mp h, _, .of h1.1⟩
  | scr h1 h2 => exact .inl ⟨beq_iff_eq.mp h, _, .inl (.inr ⟨_, h1.1⟩)⟩
  | dct h1 h2 => exact .inr (.inr (.inl ⟨beq_iff_eq.mp h, .inl ⟨_, h1.1⟩⟩))
  | ref hn =>
    simp only [tyD] at h
    split at h
    · rename_i xs hS
      obtain ⟨vs, hv, _⟩ := s.ats _ _ _ hn hS
      exact .inl ⟨beq_iff_eq.mp h, _, .of hv⟩
    · rename_i ks vs hS
      obtain ⟨kvs, hv, _⟩ := s.ats _ _ _ hn hS
      exact .inr (.inr (.inl ⟨beq_iff_eq.mp h, .inl ⟨_, hv⟩⟩))
    · cases h
  | _ => cases h
def mthF (T : String) (o : Store → D → List D → Option (RV × Store)) (f : ME) (m : MA) : ME := fun env S => (f env S).bind fun x S1 => if tyD T S1 x.d then (m env S1).bind fun ds S2 => match o S2 x.d ds with | some (z, S3) => .ok z S3 | none => .bad else .bad
/-- what a method's rule asks is what o tells -/
def MthD (Γ : Gm) (o : Store → D → List D → Option (RV × Store)) (r : V → List V → Hp → VK → Prop) : Prop := ∀ (H : Hp) (μ : Mu) (S S' : Store) (x : V) (vs : List V) (dx : D) (ds : List D) (z : RV) (Q : VK), Sim Γ μ H S → Rep Γ H μ x dx → Reps Γ H μ vs ds → o S dx ds = some (z, S') →
  Post Γ μ H Q z S' → r x vs H Q
theorem rd_mth {T : String} {o : Store → D → List D → Option (RV × Store)} {r : V → List V → Hp → VK → Prop} {f : ME} {m : MA} {σ : L2.St} {H : Hp} {Q : VK} (hr : MthD Γ o r) (h : rdE Γ W (mthF T o f m) σ H Q) : tBM Γ.K T r (rdE Γ W f) (rdA Γ W m) σ H Q := by
  obtain ⟨env, S, μ, a, h⟩ := h
  unfold mthF at h
  rw [R.sat_bind] at h
  refine rd_use a (R.sat_imp h (fun r S' q => q) fun x S' q => q) fun r1 S1 v1 H1 μ1 x1 rv1 q1 => ?_
  obtain ⟨s1, p1⟩ := rv1.sim
  split at q1
  · rename_i hty
    refine ⟨tyD_ok s1 p1 hty, ?_⟩
    rw [R.sat_bind] at q1
    refine ⟨env, S1, μ1, a.next x1 s1, R.sat_imp q1 (fun ds S2 g vs H2 μ2 x2 s2 rs => ?_) fun x S2 g => g.ext x1⟩
    split at g
    · rename_i z S3 e
      refine hr H2 μ2 S2 S3 v1 vs _ _ z Q s2 (p1.ext x2) rs e ?_
      exact Post.ext (x1.trans x2) g
    · exact False.elim g
  · exact False.elim q1
theorem rd_mth0 {T : String} {o : Store → D → List D → Option (RV × Store)} {r : V → List V → Hp → VK → Prop} {f : ME} {σ : L2.St} {H : Hp} {Q : VK} (hr : MthD Γ o r) (h : rdE Γ W (mthF T o f (fun _ S => .ok [] S)) σ H Q) : tBM0 Γ.K T r (rdE Γ W f) σ H Q := by
  obtain ⟨env, S, μ, a, h⟩ := h
  unfold mthF at h
  rw [R.sat_bind] at h
  refine rd_use a (R.sat_imp h (fun r S' q => q) fun x S' q => q) fun r1 S1 v1 H1 μ1 x1 rv1 q1 => ?_
  obtain ⟨s1, p1⟩ := rv1.sim
  split at q1
  · rename_i hty
    refine ⟨tyD_ok s1 p1 hty, ?_⟩
    simp only [R.bind] at q1
    split at q1
    · rename_i z S3 e
      exact hr H1 μ1 S1 S3 v1 [] _ _ z Q s1 p1 .nil e (Post.ext x1 q1)
    · exact False.elim q1
  · exact False.elim q1
theorem sd_mth {T id : String} {name : Str} {apos : Pos} {o e : Expr} {es : List Expr} {f : ME} {m : MA} {r : V → List V → Hp → VK → Prop} {g : Store → D → List D → Option (RV × Store)} (hK : X.K = Γ.K)
    (pa : PlainAttrs T) (slot : Slot T name id) (hty : typeOf (.builtin id) = pure (.type "method_descriptor")) (hm : MtR X id r) (hr : MthD Γ g r) (ho : PE X o (rdE Γ W f)) (ha : PA X (e :: es) (rdA Γ W m))
    (hbase : attributeBase o name X.env (eval o X.env) = eval o X.env)
    (hfew : ((backTo pos (starEach (e :: es) X.env)).all (fun x => !x.1) && (backToKw pos (keywordEach [] X.env)).all (fun x => x.1.isSome)
      && decide ((e :: es).length + ([] : List Keyword).length + (if ([] : List Keyword).isEmpty then 0 else 1) < 30)) = true)
    (hline : (apos.endLine == pos.line) = true) (hs : (e :: es).all notStar = true) : PE X (.Call (.Attribute o name apos) (e :: es) [] pos) (rdE Γ W (mthF T g f m)) :=
  (pe_bm pa slot hty hm ho ha hbase hfew hline (star_cons (Bool.and_eq_true_iff.mp (show (notStar e && es.all notStar) = true from hs)).1) (star_any (Bool.and_eq_true_iff.mp (show (notStar e && es.all notStar) = true from hs)).2)).weak fun σ H Q h => by
    rw [hK]
    exact rd_mth hr h
theorem sd_mth0 {T id : String} {name : Str} {apos : Pos} {o : Expr} {f : ME} {r : V → List V → Hp → VK → Prop} {g : Store → D → List D → Option (RV × Store)} (hK : X.K = Γ.K)
    (pa : PlainAttrs T) (slot : Slot T name id) (hty : typeOf (.builtin id) = pure (.type "method_descriptor")) (hm : MtR X id r) (hr : MthD Γ g r) (ho : PE X o (rdE Γ W f))
    (hbase : attributeBase o name X.env (eval o X.env) = eval o X.env) (hline : (apos.endLine == pos.line) = true) : PE X (.Call (.Attribute o name apos) [] [] pos) (rdE Γ W (mthF T g f (fun _ S => .ok [] S))) :=
  (pe_bm0 pa slot hty hm ho hbase hline).weak fun σ H Q h => by
    rw [hK]
    exact rd_mth0 hr h
/-! the rules -/
def appendD (S : Store) (x : D) (ds : List D) : Option (RV × Store) :=
  match x, ds with
  | .ref n, [d] => match S[n]? with
    | some (.lst xs) => if xs.length < 16777216 then some (.val .non, S.set n (.lst (xs ++ [d]))) else none
    | _ => none
  | _, _ => none
theorem append_ok : MthD Γ appendD rAppend := by
  intro H μ S S' x vs dx ds z Q s rx rs h q
  unfold appendD at h
  split at h
  · rename_i n d
    split at h
    · rename_i xs hS
      split at h
      · rename_i hl
        cases h
        cases rx with
        | ref hn =>
          obtain ⟨v, rfl, rv⟩ := reps1 rs
          obtain ⟨ws, hw, rw'⟩ := s.ats n _ _ hn hS
          obtain ⟨x, s'⟩ := write_lst s hn hS (rw'.append (.cons rv .nil))
          exact ⟨_, ws, v, rfl, rfl, hw, by rw [sizeLine_eq, rw'.length]; exact hl, q _ _ μ x ⟨s', .non⟩⟩
      · cases h
    · cases h
  · cases h
def extendD (S : Store) (x : D) (ds : List D) : Option (RV × Store) :=
  match x, ds with
  | .ref n, [d] => match S[n]? with
    | some (.lst xs) => match lstOf S d with
      | some ys => if xs.length + ys.length ≤ 16777216 then some (.val .non, S.set n (.lst (xs ++ ys))) else none
      | none => none
    | _ => none
  | _, _ => none
theorem extend_ok : MthD Γ extendD rExtend := by
  intro H μ S S' x vs dx ds z Q s rx rs h q
  unfold extendD at h
  split at h
  · rename_i n d
    split at h
    · rename_i xs hS
      split at h
      · rename_i ys hy
        split at h
        · rename_i hl
          cases h
          cases rx with
          | ref hn =>
            obtain ⟨v, rfl, rv⟩ := reps1 rs
            obtain ⟨ws, hw, rw'⟩ := s.ats n _ _ hn hS
            obtain ⟨b, us, rfl, hb, ru⟩ := lstOf_ok s rv hy
            obtain ⟨x, s'⟩ := write_lst s hn hS (rw'.append ru)
            exact ⟨_, b, ws, us, rfl, rfl, hw, hb, by rw [sizeLine_eq, rw'.length, ru.length]; exact hl, q _ _ μ x ⟨s', .non⟩⟩
        · cases h
      · cases h
    · cases h
  · cases h
def popD (S : Store) (x : D) (ds : List D) : Option (RV × Store) :=
  match x, ds with
  | .ref n, [] => match S[n]? with
    | some (.lst xs) => match xs[xs.length - 1]? with
      | some y => some (.val y, S.set n (.lst xs.dropLast))
      | none => none
    | _ => none
  | _, _ => none
theorem Reps.dropLast {H : Hp} {μ : Mu} : ∀ {vs : List V} {ds : List D}, Reps Γ H μ vs ds → Reps Γ H μ vs.dropLast ds.dropLast
  | _, _, .nil => .nil
  | _, _, .cons r .nil => .nil
  | _, _, .cons r (.cons r2 t) => .cons r (Reps.dropLast (.cons r2 t))
theorem pop_ok : MthD Γ popD rPop := by
  intro H μ S S' x vs dx ds z Q s rx rs h q
  unfold popD at h
  split at h
  · rename_i n
    split at h
    · rename_i xs hS
      split at h
      · rename_i y hy
        cases h
        cases rx with
        | ref hn =>
          cases rs
          obtain ⟨ws, hw, rw'⟩ := s.ats n _ _ hn hS
          obtain ⟨v, hv, rv⟩ := rw'.get hy
          obtain ⟨x, s'⟩ := write_lst s hn hS rw'.dropLast
          exact ⟨_, ws, v, rfl, rfl, hw, by rw [rw'.length]; exact hv, q _ _ μ x ⟨s', rv.ext x⟩⟩
      · cases h
    · cases h
  · cases h
def popAtD (S : Store) (x : D) (ds : List D) : Option (RV × Store) :=
  match x, ds with
  | .ref n, [.int i] => match S[n]? with
    | some (.lst xs) => if smallR i then match seqIndex? i xs.length with
      | some k => match xs[k]? with
        | some y => some (.val y, S.set n (.lst (xs.eraseIdx k)))
        | none => none
      | none => none else none
    | _ => none
  | _, _ => none
theorem popAt_ok : MthD Γ popAtD rPopAt := by
  intro H μ S S' x vs dx ds z Q s rx rs h q
  unfold popAtD at h
  split at h
  · rename_i n i
    split at h
    · rename_i xs hS
      split at h
      · rename_i hi
        split at h
        · rename_i k hk
          split at h
          · rename_i y hy
            cases h
            cases rx with
            | ref hn =>
              obtain ⟨w, rfl, rw0⟩ := reps1 rs
              cases rw0
              obtain ⟨ws, hw, rw'⟩ := s.ats n _ _ hn hS
              obtain ⟨v, hv, rv⟩ := rw'.get hy
              obtain ⟨x, s'⟩ := write_lst s hn hS (rw'.eraseIdx k)
              obtain ⟨h1, h2⟩ := smallR_ok hi
              have p3 : (2 : Int) ^ 62 ≤ 2 ^ 63 := by decide
              exact ⟨_, ws, i, k, v, rfl, rfl, hw, by omega, by omega, by rw [rw'.length]; exact hk, hv, q _ _ μ x ⟨s', rv.ext x⟩⟩
          · cases h
        · cases h
      · cases h
    · cases h
  · cases h
end
end Ev
/-! Ev13: repr of data; isinstance by built-in types. -/
namespace Ev
open PySem L2 PyProof.Rows
/-! ### what a datum's repr reads -/
def rpL (g : D → Option PyData) : List D → Option (List PyData)
  | [] => some []
  | d :: ds => match g d, rpL g ds with | some p, some ps => some (p :: ps) | _, _ => none
def keyPy : D → Option PyData
  | .int i => some (.int i)
  | .str x => some (.str x)
  | _ => none
def rpN (S : Store) : Nat → D → Option PyData
  | 0, _ => none
  | k + 1, d => match d with
    | .non => some .none
    | .bl b => some (.bool b)
    | .int i => some (.int i)
    | .str x => some (.str x)
    | .tup xs => (rpL (rpN S k) xs).map .tuple
    | .lst xs => (rpL (rpN S k) xs).map .list
    | .scr xs => (rpL (rpN S k) xs).map .list
    | .dct ks vs => match rpL keyPy ks, rpL (rpN S k) vs with | some a, some b => some (.dict (a.zip b)) | _, _ => none
    | .ref n => match S[n]? with
      | some (.lst xs) => (rpL (rpN S k) xs).map .list
      | some (.dct ks vs) => match rpL keyPy ks, rpL (rpN S k) vs with | some a, some b => some (.dict (a.zip b)) | _, _ => none
      | _ => none
    | _ => none
def repFuel : Nat := 12
def reprD (S : Store) (ds : List D) : Option RV := match ds with
  | [d] => match rpN S repFuel d with
    | some p => if p.showable && (decide (p.depth ≤ 60) && decide (p.shown.length ≤ 16777216)) then some (.val (.str p.shown)) else none
    | none => none
  | _ => none
section
variable {Γ : Gm} {X : Cx} {pins : List (Addr × Obj)} {σ : L2.St} {H : Hp} {s : Shared} {μ : Mu} {S : Store}
/-- what is read, with addresses that H tracks -/
def RdH (H : Hp) (h : Heap) (u : Value) (p : PyData) : Prop := ∃ as, Reads h u p as ∧ ∀ a ∈ as, ∃ o, H a = some o
def RdHs (H : Hp) (h : Heap) (us : List Value) (ps : List PyData) : Prop := ∃ as, ReadsAll h us ps as ∧ ∀ a ∈ as, ∃ o, H a = some o
theorem rdhs_of {g : D → Option PyData} (hg : ∀ d p v u, Rep Γ H μ v d → g d = some p → RelV v u → RdH H s.heap u p) : ∀ {ds : List D} {ps : List PyData} {vs : List V} {us : List Value}, Reps Γ H μ vs ds → rpL g ds = some ps → Vals vs us → RdHs H s.heap us ps
  | [], ps, _, _, r, h, q => by
    cases r
    cases q
    cases h
    exact ⟨[], .nil, fun a h => absurd h (by simp)⟩
  | d :: ds, ps, _, _, r, h, q => by
    cases r with
    | cons r1 r2 =>
      cases q with
      | cons q1 q2 =>
        simp only [rpL] at h
        split at h
        · rename_i p ps' e1 e2
          cases h
          obtain ⟨as, a1, a2⟩ := hg _ _ _ _ r1 e1 q1
          obtain ⟨bs, b1, b2⟩ := rdhs_of hg r2 e2 q2
          exact ⟨as ++ bs, .cons a1 b1, fun a h => (List.mem_append.mp h).elim (a2 a) (b2 a)⟩
        · cases h
/-- the keys of a dict -/
theorem mix_key {P : Program} {w : World} {k : Key} {v : Value} (h : (mixKind P w).is k v = true) : (∃ i t, k = .inl i ∧ v = .int i t) ∨ ∃ x t, k = .inr x ∧ v = .str x t := by
  have e := (mixKind P w).inj v
  cases v with
  | int i t => exact .inl ⟨i, t, e k (.inl i) h (mixKind_int P w i t), rfl⟩
  | str x t => exact .inr ⟨x, t, e k (.inr x) h (mixKind_str P w x t), rfl⟩
  | _ => exact absurd h (by cases k <;> exact Bool.false_ne_true)
theorem reads_keys {P : Program} {w : World} {h : Heap} : ∀ {es : List DictEntry} {vs : List (Key × Value)} {kvs : List (Key × V)} {ps : List PyData}, Pairs (mixKind P w) es vs → KV kvs vs → rpL keyPy (kvs.map fun q => keyD q.1) = some ps → ReadsAll h (es.map (·.key)) ps [] ∧ Vals (kvs.map (·.2)) (es.map (·.val))
  | _, _, kvs, ps, .nil, r, hp => by
    cases r
    cases hp
    exact ⟨.nil, .nil⟩
  | _, _, kvs, ps, .cons (e := e) (kv := kv) hk hv t, r, hp => by
    cases r with
    | cons r1 r2 =>
      rename_i p kvs'
      simp only [List.map_cons, rpL] at hp
      split at hp
      · rename_i a as e1 e2
        cases hp
        obtain ⟨g1, g2⟩ := reads_keys (h := h) t r2 e2
        refine ⟨?_, .cons (show L2.RelV p.2 e.val by rw [hv]; exact r1.2) g2⟩
        have ek : kv.1 = p.1 := r1.1.symm
        rw [ek] at hk
        rcases mix_key hk with ⟨i, tk, h1, h2⟩ | ⟨i, tk, h1, h2⟩
        · rw [h1] at e1
          cases e1
          show ReadsAll h (e.key :: _) _ _
          rw [h2]
          exact .cons (as := []) (bs := []) (.int i tk) g1
        · rw [h1] at e1
          cases e1
          show ReadsAll h (e.key :: _) _ _
          rw [h2]
          exact .cons (as := []) (bs := []) (.str i tk) g1
      · cases hp
theorem rpL_len {g : D → Option PyData} : ∀ {ds : List D} {ps : List PyData}, rpL g ds = some ps → ps.length = ds.length
  | [], _, h => by cases h; rfl
  | d :: ds, _, h => by
    simp only [rpL] at h
    split at h
    · rename_i e2
      cases h
      exact congrArg (· + 1) (rpL_len e2)
    · cases h
theorem rd_dict {g : D → Option PyData} (I : Inv X pins σ H s) (hg : ∀ d p v u, Rep Γ H μ v d → g d = some p → RelV v u → RdH H s.heap u p) {a : Addr} {kvs : List (Key × V)} {ds : List D} (hk : H a = some (.dK kvs)) (r : Reps Γ H μ (kvs.map (·.2)) ds) {p : PyData}
    (h : (match rpL keyPy (kvs.map fun q => keyD q.1), rpL g ds with | some a, some b => some (.dict (a.zip b)) | _, _ => none) = some p) : RdH H s.heap (.ref a) p := by
  split at h
  · rename_i ks vs e1 e2
    cases h
    obtain ⟨_, _, rvs, rk, o, es, ep, h1, h2, h3, h4, h5, h6⟩ := dk_of I.hok hk
    obtain ⟨g1, g2⟩ := reads_keys (h := s.heap) h5 rk e1
    obtain ⟨as, g3, g4⟩ := rdhs_of hg r e2 g2
    have l1 := rpL_len e1
    have l2 := rpL_len e2
    have l3 := r.length
    have hl : ks.length = vs.length := by rw [l1, l2, ← l3]; simp
    refine ⟨a :: ([] ++ as), .dict (as := []) (bs := as) h1 h2.1 h3 ?_ ?_, fun b hb => ?_⟩
    · rw [List.map_fst_zip (by omega)]; exact g1
    · rw [List.map_snd_zip (by omega)]; exact g3
    · rcases List.mem_cons.mp hb with z | z
      · exact ⟨_, z ▸ hk⟩
      · exact g4 b z
  · cases h
theorem rp_list (I : Inv X pins σ H s) {a : Addr} {vs : List V} (hq : SqL X.K H a vs) (ht : ∃ o, H a = some o) {g : D → Option PyData} (hg : ∀ d p v u, Rep Γ H μ v d → g d = some p → RelV v u → RdH H s.heap u p) {ds : List D} {p : PyData} (r : Reps Γ H μ vs ds)
    (h : (rpL g ds).map PyData.list = some p) : RdH H s.heap (.ref a) p := by
  obtain ⟨ps, e, rfl⟩ := Option.map_eq_some_iff.mp h
  obtain ⟨its, rv, ⟨o, n, ho, hc, hdn, hdt⟩, hlen⟩ := I.list hq
  obtain ⟨as, g1, g2⟩ := rdhs_of hg r e rv
  exact ⟨a :: as, .list ho hc hdt g1, fun b hb => (List.mem_cons.mp hb).elim (fun z => z ▸ ht) (g2 b)⟩
theorem rp_tup (I : Inv X pins σ H s) {a : Addr} {vs : List V} (hq : SqT X.K H a vs) {g : D → Option PyData} (hg : ∀ d p v u, Rep Γ H μ v d → g d = some p → RelV v u → RdH H s.heap u p) {ds : List D} {p : PyData} (r : Reps Γ H μ vs ds)
    (h : (rpL g ds).map PyData.tuple = some p) : RdH H s.heap (.ref a) p := by
  obtain ⟨ps, e, rfl⟩ := Option.map_eq_some_iff.mp h
  obtain ⟨its, rv, ⟨o, ho, hc, n, hdt⟩, hlen⟩ := I.tuple hq
  obtain ⟨as, g1, g2⟩ := rdhs_of hg r e rv
  exact ⟨as, .tuple ho hc hdt g1, g2⟩
theorem rp_ok (hK : X.K = Γ.K) (I : Inv X pins σ H s) (sm : Sim Γ μ H S) : ∀ (k : Nat) (d : D) (p : PyData) (v : V) (u : Value), Rep Γ H μ v d → rpN S k d = some p → RelV v u → RdH H s.heap u p
  | 0, _, _, _, _, _, h, _ => by cases h
  | k + 1, d, p, v, u, r, h, q => by
    have ih := rp_ok hK I sm k
    have none : ∀ {u : Value} {p : PyData}, Reads s.heap u p [] → RdH H s.heap u p := fun h => ⟨[], h, fun a h => absurd h (by simp)⟩
    cases r with
    | non => cases h; cases q; exact none .none
    | bl b => cases h; cases q; exact none (.bool b)
    | int i => cases h; obtain ⟨t, rfl⟩ := q; exact none (.int i t)
    | str x => cases h; obtain ⟨t, rfl⟩ := q; exact none (.str x t)
    | tup h1 h2 =>
      cases q
      refine rp_tup I ?_ ih h2 h
      rw [hK]
      rcases h1 with h1 | h1
      · exact .of h1.1
      · exact .inr h1
    | lst h1 h2 =>
      cases q
      exact rp_list I (by rw [hK]; exact .of h1.1) ⟨_, h1.1⟩ ih h2 h
    | scr h1 h2 =>
      cases q
      exact rp_list I (by rw [hK]; exact .inl (.inr ⟨_, h1.1⟩)) ⟨_, h1.1⟩ ih h2 h
    | dct h1 h2 =>
      cases q
      exact rd_dict I ih h1.1 h2 h
    | ref hn =>
      cases q
      simp only [rpN] at h
      split at h
      · rename_i xs hS
        obtain ⟨vs, hv, rs⟩ := sm.ats _ _ _ hn hS
        exact rp_list I (by rw [hK]; exact .of hv) ⟨_, hv⟩ ih rs h
      · rename_i ks vs hS
        obtain ⟨kvs, hv, rfl, rs⟩ := sm.ats _ _ _ hn hS
        exact rd_dict I ih hv rs h
      · cases h
    | _ => cases h
theorem no_sys (I : Inv X pins σ H s) (hs : (X.K.lookup sysModules).isSome = true) : H sysModules = none := by
  obtain ⟨o, e⟩ := Option.isSome_iff_exists.mp hs
  exact (I.bs _ _ (I.ok.mod.kin _ _ e)).2
end
/-! ### repr(x) -/
def rRepr (Γ : Gm) : List V → Hp → VK → Prop := fun xs H Q => ∃ v d S μ k p, xs = [v] ∧ Rep Γ H μ v d ∧ Sim Γ μ H S ∧ rpN S k d = some p ∧ p.showable = true ∧ p.depth ≤ 60 ∧ p.shown.length ≤ sizeLine ∧ Q (.str p.shown) H
section
variable {Γ : Gm} {X : Cx} {W : WX} {pos : Pos}
theorem call_repr {k : Nat} (hK : X.K = Γ.K) (hs : (X.K.lookup sysModules).isSome = true) (hr : RoomG k X.A) : CallR X (.builtin "repr") (rRepr Γ) := by
  intro pins s σ H xs us Q I r h
  obtain ⟨v, d, S, μ, k, p, rfl, rv, sm, hp, h1, h2, h3, q⟩ := h
  obtain ⟨u, rfl, ru⟩ := vals1 r
  obtain ⟨as, g1, g2⟩ := rp_ok hK I sm k d p v u rv hp ru
  have hu := hr.room.un
  have hsm : sysModules ∉ as := fun z => by
    obtain ⟨o, ho⟩ := g2 _ z
    rw [no_sys I hs] at ho
    cases ho
  cases g1 with
  | none => exact PySem.P.repr_of_none ⟨.str _, H, I.tok _, ⟨_, rfl⟩, by simpa only [PyData.shown] using q⟩
  | bool b => exact PySem.P.repr_of_bool ⟨.str _, H, I.tok _, ⟨_, rfl⟩, by simpa only [PyData.shown] using q⟩
  | int i t => exact PySem.P.repr_of_int (by simpa [PyData.showable] using h1) ⟨.str _, H, I.tok _, ⟨_, rfl⟩, by simpa only [PyData.shown] using q⟩
  | str x t => exact PySem.P.repr_of_str ⟨.str _, H, I.tok _, ⟨_, rfl⟩, by simpa only [PyData.shown] using q⟩ (by simpa only [PyData.shown] using h3)
  | list a1 a2 a3 a4 => exact repr_of_reads' (.list a1 a2 a3 a4) h1 (fun _ => hsm) hr.gd (by omega) (fun _ _ e => e) (fun h' u tk hk => ⟨.str _, H, I.kept hk, ⟨_, rfl⟩, q⟩) h3
  | tuple a1 a2 a3 a4 => exact repr_of_reads' (.tuple a1 a2 a3 a4) h1 (fun _ => hsm) hr.gd (by omega) (fun _ _ e => e) (fun h' u tk hk => ⟨.str _, H, I.kept hk, ⟨_, rfl⟩, q⟩) h3
  | dict a1 a2 a3 a4 a5 => exact repr_of_reads' (.dict a1 a2 a3 a4 a5) h1 (fun _ => hsm) hr.gd (by omega) (fun _ _ e => e) (fun h' u tk hk => ⟨.str _, H, I.kept hk, ⟨_, rfl⟩, q⟩) h3
theorem repr_ok : CallD Γ reprD (rRepr Γ) := by
  intro H μ S vs ds z Q s rs h q
  unfold reprD at h
  split at h
  · rename_i d
    split at h
    · rename_i p hp
      split at h
      · rename_i hc
        cases h
        rw [Bool.and_eq_true, Bool.and_eq_true, decide_eq_true_eq, decide_eq_true_eq] at hc
        obtain ⟨v, rfl, rv⟩ := reps1 rs
        exact ⟨v, d, S, μ, _, p, rfl, rv, s, hp, hc.1, hc.2.1, by rw [sizeLine_eq]; exact hc.2.2, q.here s (.str _)⟩
      · cases h
    · cases h
  · cases h
/-! ### isinstance, built-in types -/
def tyOf (S : Store) : D → Option String
  | .non => some "NoneType"
  | .bl _ => some "bool"
  | .int _ => some "int"
  | .str _ => some "str"
  | .tup _ => some "tuple"
  | .lst _ => some "list"
  | .scr _ => some "list"
  | .dct _ _ => some "dict"
  | .ref n => match S[n]? with | some (.lst _) => some "list" | some (.dct _ _) => some "dict" | _ => none
  | _ => none
theorem tyOf_ok {H : Hp} {μ : Mu} {S : Store} {v : V} {d : D} {t : String} (sm : Sim Γ μ H S) (r : Rep Γ H μ v d) (h : tyOf S d = some t) : TyX Γ.K H v (.type t) := by
  cases r with
  | non => cases h; exact .base .non
  | bl b => cases h; exact .base (.bl b)
  | int i => cases h; exact .base (.int i)
  | str x => cases h; exact .base (.str x)
  | tup h1 h2 =>
    cases h
    rcases h1 with h1 | ⟨o, its, n, k1, k2, k3, k4⟩
    · exact .base (.tup h1.1)
    · exact .kTuple k1 k2
  | lst h1 h2 => cases h; exact .base (.lst h1.1)
  | scr h1 h2 => cases h; exact .base (.frz h1.1)
  | dct h1 h2 => cases h; exact .base (.dK h1.1)
  | ref hn =>
    simp only [tyOf] at h
    split at h
    · rename_i xs hS
      cases h
      obtain ⟨vs, hv, rs⟩ := sm.ats _ _ _ hn hS
      exact .base (.lst hv)
    · rename_i ks vs hS
      cases h
      obtain ⟨kvs, hv, _, rs⟩ := sm.ats _ _ _ hn hS
      exact .base (.dK hv)
    · cases h
  | _ => cases h
def isTyD (T : String) (S : Store) (d : D) : Option Bool := (tyOf S d).bind fun t => kitB t T
def isiF (o : Store → D → Option Bool) (f : ME) : ME := fun env S => (f env S).bind fun r S1 => match o S1 r.d with | some b => .ok (.val (.bl b)) S1 | none => .bad
theorem pe_tyn {x : Str} {T : String} (hg : Gl X x) (hm : X.mg x = none) (hv : bootBuiltins x = some (.type T)) (hn : x ≠ "__name__") (hdb : (x == ("__debug__" : Str)) = false) : PE X (.Name x pos) (tC (.ty T)) :=
  ⟨fun pins s σ H Q I h => ld_blt I hg hm hv ⟨.ty T, H, I, rfl, h⟩ hn hdb⟩
/-- isinstance(e, T) -/
theorem sd_isi {x : Str} {T : String} {p p2 : Pos} {e : Expr} {f : ME} (hK : X.K = Γ.K) (hg : Gl X "isinstance") (hm : X.mg "isinstance" = none) (he : PE X e (rdE Γ W f)) (hs : notStar e = true) (hgT : Gl X x) (hmT : X.mg x = none) (hv : bootBuiltins x = some (.type T)) (hn : x ≠ "__name__")
    (hdb : (x == ("__debug__" : Str)) = false) : PE X (.Call (.Name "isinstance" p) [e, .Name x p2] [] pos) (rdE Γ W (isiF (isTyD T) f)) :=
  (pe_callB call_isi hg hm (by rfl) (pa_cons he (pa_cons (pe_tyn hgT hmT hv hn hdb) pa_nil rfl) (star_cons hs)) (by decide) (by decide) (star_cons hs) (by rfl)).weak fun σ H Q h => by
    obtain ⟨env, S, μ, a, h⟩ := h
    unfold isiF at h
    rw [R.sat_bind] at h
    refine rd_use a h fun r1 S1 v1 H1 μ1 x1 rv1 q1 => ?_
    obtain ⟨s1, p1⟩ := rv1.sim
    split at q1
    · rename_i b hb
      unfold isTyD at hb
      obtain ⟨t, ht, hk⟩ := Option.bind_eq_some_iff.mp hb
      rw [hK]
      exact ⟨v1, .ty T, .type t, .type T, b, rfl, .ty T, tyOf_ok s1 p1 ht, kit_ty hk, q1 _ H1 μ1 x1 ⟨s1, .bl b⟩⟩
    · exact False.elim q1
def isTy2D (T U : String) (S : Store) (d : D) : Option Bool := match isTyD T S d with | some true => some true | some false => isTyD U S d | none => none
/-- isinstance(e, (T, U)) -/
theorem sd_isi2 {x y : Str} {T U : String} {p p2 p3 p4 : Pos} {k : Nat} {e : Expr} {f : ME} (hK : X.K = Γ.K) (hg : Gl X "isinstance") (hm : X.mg "isinstance" = none) (he : PE X e (rdE Γ W f)) (hs : notStar e = true)
    (hgT : Gl X x) (hmT : X.mg x = none) (hv : bootBuiltins x = some (.type T)) (hn : x ≠ "__name__") (hdb : (x == ("__debug__" : Str)) = false)
    (hgU : Gl X y) (hmU : X.mg y = none) (hvU : bootBuiltins y = some (.type U)) (hnU : y ≠ "__name__") (hdbU : (y == ("__debug__" : Str)) = false) :
    PE X (.Call (.Name "isinstance" p) [e, .Tuple [.Name x p2, .Name y p3] k p4] [] pos) (rdE Γ W (isiF (isTy2D T U) f)) :=
  (pe_callB call_isiT hg hm (by rfl) (pa_cons he (pa_cons (pe_tup (pa_cons (pe_tyn hgT hmT hv hn hdb) (pa_cons (pe_tyn hgU hmU hvU hnU hdbU) pa_nil rfl) rfl)) pa_nil rfl) (star_cons hs)) (by decide) (by decide) (star_cons hs) (by rfl)).weak fun σ H Q h => by
    obtain ⟨env, S, μ, a, h⟩ := h
    unfold isiF at h
    rw [R.sat_bind] at h
    refine rd_use a h fun r1 S1 v1 H1 μ1 x1 rv1 q1 => ?_
    obtain ⟨s1, p1⟩ := rv1.sim
    split at q1
    · rename_i b hb
      rw [hK]
      refine ⟨by rw [sizeLine_eq]; show 2 ≤ _; decide, fun tp htp => ?_⟩
      have s2 := s1.laid htp (.tup [V.ty T, V.ty U])
      have p2 := p1.ext (Ext.laid htp (.tup [V.ty T, V.ty U]))
      have fin : Q (.bl b) (upd H1 tp (.tup [V.ty T, V.ty U])) := q1 _ _ μ1 (x1.trans (Ext.laid htp _)) ⟨s2, .bl b⟩
      unfold isTy2D at hb
      split at hb
      · rename_i h1
        cases hb
        obtain ⟨t, ht, hk⟩ := Option.bind_eq_some_iff.mp h1
        refine ⟨v1, tp, [.ty T, .ty U], .type t, [.type T, .type U], true, rfl, upd_same, .cons (.ty T) (.cons (.ty U) .nil), tyOf_ok s2 p2 ht, ?_, fin⟩
        unfold PySem.W.kitAny
        rw [kit_ty hk]
      · rename_i h1
        obtain ⟨t, ht, hk⟩ := Option.bind_eq_some_iff.mp h1
        obtain ⟨t', ht', hk'⟩ := Option.bind_eq_some_iff.mp hb
        rw [ht] at ht'
        cases ht'
        refine ⟨v1, tp, [.ty T, .ty U], .type t, [.type T, .type U], b, rfl, upd_same, .cons (.ty T) (.cons (.ty U) .nil), tyOf_ok s2 p2 ht, ?_, fin⟩
        refine kitAny_cons (kit_ty hk) (fun _ => ?_) fun z => by cases z
        unfold PySem.W.kitAny
        rw [kit_ty hk']
        cases b <;> rfl
      · cases hb
    · exact False.elim q1
end
end Ev
/-! Ev14: instances with slots: fields, methods, the making, isinstance. -/
namespace Ev
open PySem L2 PyProof.Rows
def clsOf (S : Store) : D → Option Nat
  | .ins c _ => some c
  | .ref n => match S[n]? with | some (.slo c _) => some c | _ => none
  | _ => none
section
variable {Γ : Gm} {X : Cx} {W : WX} {pos : Pos}
theorem slt_of {H : Hp} {μ : Mu} {S : Store} {v : V} {d : D} {c : Nat} (sm : Sim Γ μ H S) (r : Rep Γ H μ v d) (h : clsOf S d = some c) : ∃ a dx vs, v = .ref a ∧ SlX.Slt H a (Γ.cls c) dx vs := by
  cases r with
  | ins h1 h2 h3 => cases h; exact ⟨_, _, _, rfl, .inr ⟨h1.1, h2.1⟩⟩
  | ref hn =>
    simp only [clsOf] at h
    split at h
    · rename_i c' fs hS
      cases h
      obtain ⟨dx, vs, h1, h2, h3⟩ := sm.ats _ _ _ hn hS
      cases h2 with
      | xdd h2 => exact ⟨_, dx, vs, rfl, .inr ⟨h1, h2.1⟩⟩
    · cases h
  | _ => cases h
/-! ### fields -/
def fldD (sx : Nat → Option Nat) (S : Store) : D → Option D
  | .ins c fs => (sx c).bind fun i => fs[i]?
  | .ref n => match S[n]? with | some (.slo c fs) => (sx c).bind fun i => (fs[i]?).join | _ => none
  | _ => none
def fldF (sx : Nat → Option Nat) (f : ME) : ME := fun env S => (f env S).bind fun r S1 => match fldD sx S1 r.d with | some d => .ok (.val d) S1 | none => .bad
/-- sx tells the place of the slot f -/
def SxOk (Γ : Gm) (f : Str) (sx : Nat → Option Nat) : Prop := ∀ c i, sx c = some i → SlX.SCls Γ.K (Γ.cls c) ∧ ∃ p, SlX.Slot1 Γ.K (Γ.cls c) f p i
theorem sd_fld {e : Expr} {f : Str} {fe : ME} {sx : Nat → Option Nat} (hK : X.K = Γ.K) (hsx : SxOk Γ f sx) (he : PE X e (rdE Γ W fe)) (hb : attributeBase e f X.env (eval e X.env) = eval e X.env) : PE X (.Attribute e f pos) (rdE Γ W (fldF sx fe)) :=
  (SlX.pe_sl he hb).weak fun σ H Q h => by
    obtain ⟨env, S, μ, a, h⟩ := h
    unfold fldF at h
    rw [R.sat_bind] at h
    refine rd_use a h fun r1 S1 v1 H1 μ1 x1 rv1 q1 => ?_
    obtain ⟨s1, p1⟩ := rv1.sim
    split at q1
    · rename_i d hd
      generalize r1.d = dr at p1 hd
      rw [hK]
      cases p1 with
      | ins h1 h2 h3 =>
        obtain ⟨i, hi, hf⟩ := Option.bind_eq_some_iff.mp hd
        obtain ⟨k1, p, k2⟩ := hsx _ i hi
        obtain ⟨v, hv, rv⟩ := h3.get hf
        refine ⟨_, _, _, p, _, i, v, rfl, .inr ⟨h1.1, h2.1⟩, k1, k2, ?_, q1 _ H1 μ1 x1 ⟨s1, rv⟩⟩
        rw [List.getElem?_map, hv]; rfl
      | ref hn =>
        simp only [fldD] at hd
        split at hd
        · rename_i c fs hS
          obtain ⟨i, hi, hf⟩ := Option.bind_eq_some_iff.mp hd
          obtain ⟨k1, p, k2⟩ := hsx _ i hi
          obtain ⟨dx, vs, h1, h2, h3⟩ := s1.ats _ _ _ hn hS
          have hf' : fs[i]? = some (some d) := by
            cases e : fs[i]? with
            | none => rw [e] at hf; cases hf
            | some o => rw [e] at hf; exact congrArg some hf
          obtain ⟨v, hv, rv⟩ := h3.2 i d hf'
          cases h2 with
          | xdd h2 => exact ⟨_, _, dx, p, vs, i, v, rfl, .inr ⟨h1, h2.1⟩, k1, k2, hv, q1 _ H1 μ1 x1 ⟨s1, rv⟩⟩
        · cases hd
      | _ => cases hd
    · exact False.elim q1
/-! ### o.f = e, o in the making -/
def putO {α : Type} (i : Nat) (y : α) (vs : List (Option α)) : List (Option α) := (vs ++ List.replicate (i + 1 - vs.length) none).set i (some y)
def sfldD (sx : Nat → Option Nat) (S : Store) (o v : D) : Option Store := match o with
  | .ref n => match S[n]? with
    | some (.slo c fs) => (sx c).map fun i => S.set n (.slo c (putO i v fs))
    | _ => none
  | _ => none
def sfldS (sx : Nat → Option Nat) (fo fv : ME) : MS := fun env S => (fv env S).then env fun v S1 => (fo env S1).then env fun o S2 => match sfldD sx S2 o.d v.d with
  | some S3 => .nx env S3
  | none => .bad
theorem RepO.put {H : Hp} {μ : Mu} {vs : List (Option V)} {fs : List (Option D)} {v : V} {d : D} (h : RepO Γ H μ vs fs) (r : Rep Γ H μ v d) (i : Nat) : RepO Γ H μ (putO i v vs) (putO i d fs) := by
  obtain ⟨hl, h⟩ := h
  refine ⟨by unfold putO; simp [hl], fun j e hj => ?_⟩
  unfold putO at hj ⊢
  by_cases e1 : j = i
  · subst e1
    have hlt : j < (fs ++ List.replicate (j + 1 - fs.length) (none : Option D)).length := by simp; omega
    have hlt2 : j < (vs ++ List.replicate (j + 1 - vs.length) (none : Option V)).length := by simp; omega
    rw [List.getElem?_set_self hlt] at hj
    cases hj
    exact ⟨v, by rw [List.getElem?_set_self hlt2], r⟩
  · rw [List.getElem?_set_ne (Ne.symm e1)] at hj
    by_cases e2 : j < fs.length
    · rw [List.getElem?_append_left e2] at hj
      obtain ⟨w, h1, h2⟩ := h j e hj
      exact ⟨w, by rw [List.getElem?_set_ne (Ne.symm e1), List.getElem?_append_left (by omega)]; exact h1, h2⟩
    · rw [List.getElem?_append_right (by omega), List.getElem?_replicate] at hj
      split at hj <;> cases hj
theorem slH_eq {H : Hp} {a C dx : Addr} {vs : List (Option V)} (h : H dx = some (.xd [])) : SlX.slH H a C dx vs = upd H a (SlX.SlO a C dx vs) := by
  unfold SlX.slH
  have e : upd H dx (.xd []) = H := by
    funext b
    by_cases hb : b = dx
    · rw [hb, upd_same, h]
    · rw [upd_ne hb]
  rw [e]
theorem sd_sfld {o e : Expr} {f : Str} {fo fv : ME} {pos' : Pos} {sx : Nat → Option Nat} (hK : X.K = Γ.K) (hsx : SxOk Γ f sx) (ho : PE X o (rdE Γ W fo)) (hv : PE X e (rdE Γ W fv)) (hs : swapsWith e (some (.Attribute o f pos')) pos.line X.env = pure false) :
    PS X (.Assign [.Attribute o f pos'] e pos) (rdS Γ W (sfldS sx fo fv)) :=
  (SlX.ps_sl ho hv hs).weak fun Z σ H h => by
    obtain ⟨env, S, μ, a, h⟩ := h
    refine rdS_then a h fun rv S1 v H1 μ1 x1 pv g1 => ?_
    have a1 := a.next x1 pv.sim.1
    refine rdS_then a1 g1 fun ro S2 ov H2 μ2 x2 po g2 => ?_
    have a2 := a1.next x2 po.sim.1
    split at g2
    · rename_i S3 e3
      have pr := po.sim.2
      generalize ro.d = dr at pr e3
      cases pr with
      | @ref b n hn =>
        simp only [sfldD] at e3
        split at e3
        · rename_i c fs hS
          obtain ⟨i, hi, rfl⟩ := Option.map_eq_some_iff.mp e3
          obtain ⟨k1, p, k2⟩ := hsx _ i hi
          obtain ⟨dx, vs, h1, h2, h3⟩ := a2.sim.ats _ _ _ hn hS
          have h2' : H2 dx = some (.xd []) := by cases h2 with | xdd h2 => exact h2.1
          rw [hK]
          refine ⟨_, _, dx, p, vs, i, rfl, .inr ⟨h1, h2'⟩, k1, k2, ?_⟩
          rw [slH_eq h2']
          have xe : Ext Γ μ2 H2 μ2 (upd H2 b (SlX.SlO b (Γ.cls c) dx (SlX.putS i v vs))) := by
            obtain ⟨m1, m2, m3⟩ := mut_tbl (a2.sim.ats _ _ _ hn hS)
            exact Ext.write (List.mem_of_getElem? hn) _ m2 m3
          obtain ⟨x4, s4⟩ := a2.sim.write (ob' := .slo c (putO i rv.d fs)) hn hS (SlX.SlO b (Γ.cls c) dx (SlX.putS i v vs)) ⟨dx, SlX.putS i v vs, upd_same, h2.ext xe, (h3.put (pv.sim.2.ext x2) i).map fun r => r.ext xe⟩
          exact g2 σ _ μ2 x4 (a2.next x4 s4)
        · cases e3
      | _ => cases e3
    · exact False.elim g2
/-! ### o.m(e, ..) -/
def tMethG (C : Addr) (sp : Sp) (dvs : List V) (E : L2.St → XK) (ta : TE) (t : TA) : TE := fun σ H Q => ta σ H fun x H1 => ∃ a dx vs, x = .ref a ∧ SlX.Slt H1 a C dx vs ∧ t σ H1 fun ws H2 => sp ((x :: ws) ++ dvs) H2 Q (E σ)
theorem pe_methG {CX : CXT} {k : Nat} {C g : Addr} {fd : FuncData} {ps : List Str} {sp : Sp} {dvs : List V} {ds : List Value} {E : L2.St → XK} {pl : Sem Bool} {o e : Expr} {es : List Expr} {m : Str} {apos : Pos} {ta : TE} {t : TA} (he : PE X o ta) (c : SlX.SCls X.K C) (hm : Meth X.K C m g)
    (F : FnG X.prog X.w X.K X.mg X.base CX k g fd ps sp) (hr : RoomG k X.A) (hb : Binds X.K fd ps ds) (hd : Vals dvs ds) (hx : ∀ σ, PassesAt CX X σ (E σ)) (ha : PA X (e :: es) t)
    (hst : starEach (e :: es) X.env = (false, eval e X.env) :: starEach es X.env) (hpl : (backTo pos (starEach es X.env)).any (·.1) = false)
    (ht : eval (.Call (.Attribute o m apos) (e :: es) [] pos) X.env = (do
      let ov ← eval o X.env
      standAt apos.atName
      let (f, first) ← holding [ov] (getMethod ov m pl)
      callWith pos f first (backTo pos (starEach (e :: es) X.env)) (backToKw pos (keywordEach [] X.env)))) :
    PE X (.Call (.Attribute o m apos) (e :: es) [] pos) (tMethG C sp dvs E ta t) := by
  refine ⟨fun pins s σ H Q I h => ?_⟩
  refine PySem.W.methodCall_KW (pl := pl) (thn (he.run pins s σ H _ I h) fun u s1 ⟨x, H1, I1, rx, a, dx, vs, ex, hsl, q⟩ => ?_) ht
  subst ex
  obtain rfl : u = Value.ref a := rx
  refine SlX.getmethsl_ok I1 hsl c hm ?_
  refine PySem.W.callWith_K (first := [.ref a]) (h₀ := X.base) I.ok.mod.kin hm.kp (thn (ha.run pos pins s1 σ H1 _ I1 q) fun us s2 ⟨ws, H2, I2, r, q2⟩ => ⟨I2.kIn, ?_⟩) hst hpl
  exact wpAny_call (run_fnG (us := .ref a :: us) (vs := .ref a :: ws) F hr hb hd (hx σ) I2 (.cons rfl r) q2)
theorem pe_methG0 {CX : CXT} {k : Nat} {C g : Addr} {fd : FuncData} {ps : List Str} {sp : Sp} {dvs : List V} {ds : List Value} {E : L2.St → XK} {pl : Sem Bool} {o : Expr} {m : Str} {apos : Pos} {ta : TE} (he : PE X o ta) (c : SlX.SCls X.K C) (hm : Meth X.K C m g)
    (F : FnG X.prog X.w X.K X.mg X.base CX k g fd ps sp) (hr : RoomG k X.A) (hb : Binds X.K fd ps ds) (hd : Vals dvs ds) (hx : ∀ σ, PassesAt CX X σ (E σ))
    (ht : eval (.Call (.Attribute o m apos) [] [] pos) X.env = (do
      let ov ← eval o X.env
      standAt apos.atName
      let (f, first) ← holding [ov] (getMethod ov m pl)
      callWith pos f first (backTo pos (starEach [] X.env)) (backToKw pos (keywordEach [] X.env)))) :
    PE X (.Call (.Attribute o m apos) [] [] pos) (tMethG C sp dvs E ta tNil) := by
  refine ⟨fun pins s σ H Q I h => ?_⟩
  refine PySem.W.methodCall_KW (pl := pl) (thn (he.run pins s σ H _ I h) fun u s1 ⟨x, H1, I1, rx, a, dx, vs, ex, hsl, q⟩ => ?_) ht
  subst ex
  obtain rfl : u = Value.ref a := rx
  refine SlX.getmethsl_ok I1 hsl c hm ?_
  exact PySem.W.callWith_K0 (first := [.ref a]) I1.kIn hm.kp (wpAny_call (run_fnG (us := [.ref a]) (vs := [.ref a]) F hr hb hd (hx σ) I1 (.cons rfl .nil) q))
def isC (c : Nat) (S : Store) (d : D) : Bool := clsOf S d == some c
def methF (c i : Nat) (g : Cfg) (dfl : List D) (f : ME) (m : MA) : ME := fun env S => (f env S).bind fun r S1 => if isC c S1 r.d then (m env S1).bind fun ds S2 => g.call i ((r.d :: ds) ++ dfl) S2 else .bad
theorem rd_methG {c i : Nat} {g : Cfg} {dfl : List D} {dvs : List V} {n : Nat} {f : ME} {m : MA} {σ : L2.St} {H : Hp} {Q : VK} (hd : ∀ H μ, Reps Γ H μ dvs dfl) (hlen : ∀ ds S, (g.call i ds S).sat (fun _ _ => True) (fun _ _ => True) → ds.length = n) (h : rdE Γ W (methF c i g dfl f m) σ H Q) :
    tMethG (Γ.cls c) (spD Γ (g.call i) n) dvs (fun σ => WE W σ) (rdE Γ W f) (rdA Γ W m) σ H Q := by
  obtain ⟨env, S, μ, a, h⟩ := h
  unfold methF at h
  rw [R.sat_bind] at h
  refine rd_use a (R.sat_imp h (fun r S' q => q) fun x S' q => q) fun r1 S1 v1 H1 μ1 x1 rv1 q1 => ?_
  obtain ⟨s1, p1⟩ := rv1.sim
  split at q1
  · rename_i hc
    obtain ⟨b, dx, vs, rfl, hsl⟩ := slt_of s1 p1 (beq_iff_eq.mp hc)
    refine ⟨b, dx, vs, rfl, hsl, ?_⟩
    rw [R.sat_bind] at q1
    refine ⟨env, S1, μ1, a.next x1 s1, R.sat_imp q1 (fun ds S2 q2 ws H2 μ2 x2 s2 rs => ?_) fun x S' q => q.ext x1⟩
    have rr : Reps Γ H2 μ2 ((.ref b :: ws) ++ dvs) ((r1.d :: ds) ++ dfl) := (Reps.cons (p1.ext x2) rs).append (hd H2 μ2)
    refine ⟨by rw [rr.length]; exact hlen _ S2 (R.sat_imp q2 (fun _ _ _ => trivial) fun _ _ _ => trivial), _, S2, μ2, s2, (x1.trans x2).tabs a.tabs, rr, R.sat_imp q2 (fun r S3 p => Post.ext (x1.trans x2) p) fun y S3 p => ?_⟩
    exact fun cls dx' H3 μ3 x3 s3 xa => p cls dx' H3 μ3 ((x1.trans x2).trans x3) s3 xa
  · exact False.elim q1
theorem rd_methG0 {c i : Nat} {g : Cfg} {dfl : List D} {dvs : List V} {n : Nat} {f : ME} {σ : L2.St} {H : Hp} {Q : VK} (hd : ∀ H μ, Reps Γ H μ dvs dfl) (hlen : ∀ ds S, (g.call i ds S).sat (fun _ _ => True) (fun _ _ => True) → ds.length = n) (h : rdE Γ W (methF c i g dfl f (argsF [])) σ H Q) :
    tMethG (Γ.cls c) (spD Γ (g.call i) n) dvs (fun σ => WE W σ) (rdE Γ W f) tNil σ H Q := by
  obtain ⟨env, S, μ, a, h⟩ := h
  unfold methF at h
  rw [R.sat_bind] at h
  refine rd_use a (R.sat_imp h (fun r S' q => q) fun x S' q => q) fun r1 S1 v1 H1 μ1 x1 rv1 q1 => ?_
  obtain ⟨s1, p1⟩ := rv1.sim
  split at q1
  · rename_i hc
    obtain ⟨b, dx, vs, rfl, hsl⟩ := slt_of s1 p1 (beq_iff_eq.mp hc)
    refine ⟨b, dx, vs, rfl, hsl, ?_⟩
    have q2 : (g.call i ((r1.d :: []) ++ dfl) S1).sat (Post Γ μ H Q) (XPost Γ W σ μ H) := q1
    have rr : Reps Γ H1 μ1 ((.ref b :: []) ++ dvs) ((r1.d :: []) ++ dfl) := (Reps.cons p1 .nil).append (hd H1 μ1)
    refine ⟨by rw [rr.length]; exact hlen _ S1 (R.sat_imp q2 (fun _ _ _ => trivial) fun _ _ _ => trivial), _, S1, μ1, s1, x1.tabs a.tabs, rr, R.sat_imp q2 (fun r S3 p => Post.ext x1 p) fun y S3 p => ?_⟩
    exact fun cls dx' H3 μ3 x3 s3 xa => p cls dx' H3 μ3 (x1.trans x3) s3 xa
  · exact False.elim q1
end
end Ev
/-! Ev15: C(e, ..), C an own class with slots; isinstance by own classes. -/
namespace Ev
open PySem L2 PyProof.Rows
theorem make_guards {A : Around} {C : Addr} {us : List Value} {kw : List (Str × Value)} : (A.under (.builtin "type.__call__" ⟨.ref C :: us, kw⟩)).guards = A.guards := by
  have hg : (Code.builtin "type.__call__" ⟨.ref C :: us, kw⟩).guards = [] := by
    unfold Code.guards
    rw [if_neg]
    show ¬ guardIds.contains "type.__call__" = true
    decide
  show pushGuards (Code.builtin "type.__call__" ⟨.ref C :: us, kw⟩).guards A.guards = A.guards
  rw [hg]
  rfl
theorem RoomG.make {k : Nat} {A : Around} (r : RoomG (k + 1) A) (C : Addr) (us : List Value) (kw : List (Str × Value)) : RoomG k (A.under (.builtin "type.__call__" ⟨.ref C :: us, kw⟩)) := ⟨r.room.make C us kw, by rw [make_guards]; exact r.gd⟩
section
variable {X : Cx} {CX : CXT} {k : Nat} {C f : Addr} {fd : FuncData} {ps : List Str} {sp : Sp} {dvs : List V} {ds : List Value} {E : L2.St → XK} {x : Str} {p pos : Pos} {e : Expr} {es : List Expr} {t : TA} {σ : L2.St}
theorem slot_begin {H : Hp} {a dx C : Addr} (h : dx ≠ a) : SlX.slH (upd (upd H dx (.own a)) a (.ins C dx [])) a C dx [] = upd (upd H dx (.xd [])) a (SlX.SlO a C dx []) := by
  unfold SlX.slH
  funext b
  by_cases hb : b = a
  · rw [hb, upd_same, upd_same]
  · rw [upd_ne hb, upd_ne hb]
    by_cases hd : b = dx
    · rw [hd, upd_same, upd_same]
    · rw [upd_ne hd, upd_ne hd, upd_ne hb, upd_ne hd]
theorem run_makeG {pins : List (Addr × Obj)} {H : Hp} {s : Shared} {Q : VK} {us : List Value} {vs : List V} (M : Mk X.K C f) (F : FnG X.prog X.w X.K X.mg X.base CX k f fd ps sp) (hr : RoomG (k + 1) X.A) (hb : Binds X.K fd ps ds) (hd : Vals dvs ds)
    (hx : PassesAt CX X σ (E σ)) (I : Inv X pins σ H s) (r : Vals vs us)
    (h : ∀ x dx, H x = none → H dx = none → dx ≠ x → sp (.ref x :: (vs ++ dvs)) (upd (upd H dx (.xd [])) x (SlX.SlO x C dx [])) (fun v H2 => v = .non ∧ Q (.ref x) H2) (E σ)) :
    wpAny (model X.prog X.w) X.A (call (.ref C) us) (EP X pins σ Q) X.xe s := by
  have hq := h (s.heap.objs.size + 1) s.heap.objs.size (I.hok.fresh (Nat.le_succ _)) (I.hok.fresh (Nat.le_refl _)) (Nat.ne_of_lt (Nat.lt_succ_self _))
  have I1 := Inv.made (C := C) I
  have hs : SlX.Slt (upd (upd H s.heap.objs.size (.own (s.heap.objs.size + 1))) (s.heap.objs.size + 1) (.ins C s.heap.objs.size [])) (s.heap.objs.size + 1) C s.heap.objs.size [] := .inl ⟨upd_same, rfl⟩
  obtain ⟨sl, mA, o1, o2, o3, o4⟩ := (SlX.slt_at I1 hs).2
  have I2 := SlX.inv_slot (vs' := []) (sl' := sl) (t' := s.toks) I1 hs (fun b o _ _ e => e) (fun m e => e) o1 (SlX.SlR.nil sl)
  rw [slot_begin (Nat.ne_of_lt (Nat.lt_succ_self _))] at I2
  have r2 : Vals (V.ref (s.heap.objs.size + 1) :: (vs ++ dvs)) (Value.ref (s.heap.objs.size + 1) :: (us ++ ds)) := .cons rfl (r.append hd)
  have hl : (Value.ref (s.heap.objs.size + 1) :: us ++ ds).length = ps.length := by
    have e := r2.length
    rw [F.len _ _ _ _ hq] at e
    exact e.symm
  refine wpAny_call (make_map (f := f) I.kIn M.makes M.init (beq_iff_eq.mp M.fn) (codeAny_mono (F.run _ X.stack _ _ ⟨Value.ref (s.heap.objs.size + 1) :: us, []⟩ (Value.ref (s.heap.objs.size + 1) :: (us ++ ds)) _ _ (E σ) (hr.make C us [])
    (I2.env0.make C us []) (hb _ (Value.ref (s.heap.objs.size + 1) :: us) I2.kIn hl) r2 hq) fun r s' hq' => ?_))
  cases r with
  | error e => exact hx pins _ _ e s' I2 hq'
  | ok fl =>
    cases fl with
    | ret u =>
      obtain ⟨v, H', I3, rv, ev, q3⟩ := I2.after hq'
      subst ev
      exact ⟨rv, ⟨V.ref (s.heap.objs.size + 1), H', I3, rfl, q3⟩⟩
    | next => exact False.elim hq'
    | brk => exact False.elim hq'
    | cont => exact False.elim hq'
def tMakeG (C : Addr) (sp : Sp) (dvs : List V) (E : L2.St → XK) (t : TA) : TE := fun σ H Q => t σ H fun vs H1 => ∀ x dx, H1 x = none → H1 dx = none → dx ≠ x → sp (.ref x :: (vs ++ dvs)) (upd (upd H1 dx (.xd [])) x (SlX.SlO x C dx [])) (fun v H2 => v = .non ∧ Q (.ref x) H2) (E σ)
theorem pe_makeG (M : Mk X.K C f) (F : FnG X.prog X.w X.K X.mg X.base CX k f fd ps sp) (hr : RoomG (k + 1) X.A) (hg : Gl X x) (hm : X.mg x = some (.ref C)) (hb : Binds X.K fd ps ds) (hd : Vals dvs ds) (hx : ∀ σ, PassesAt CX X σ (E σ))
    (ha : PA X (e :: es) t) (hdb : (x == ("__debug__" : Str)) = false) (he : starEach (e :: es) X.env = (false, eval e X.env) :: starEach es X.env) (hpl : (backTo pos (starEach es X.env)).any (·.1) = false) :
    PE X (.Call (.Name x p) (e :: es) [] pos) (tMakeG C sp dvs E t) := by
  refine ⟨fun pins s σ H Q I h => ?_⟩
  refine wpAny_Call_Name_kw (ld_glob I hg hm ?_ hdb)
  refine PySem.W.callWith_K (h₀ := X.base) I.ok.mod.kin M.kp (thn (ha.run pos pins s σ H _ I h) fun us s1 ⟨vs, H1, I1, r, q⟩ => ⟨I1.kIn, ?_⟩) he hpl
  exact run_makeG M F hr hb hd (hx σ) I1 r q
end
/-! ### by data -/
def allS : List (Option D) → Option (List D)
  | [] => some []
  | some d :: r => (allS r).map (d :: ·)
  | none :: _ => none
theorem allS_ok : ∀ {fs : List (Option D)} {ds : List D}, allS fs = some ds → fs = ds.map some
  | [], _, h => by cases h; rfl
  | some d :: r, _, h => by
    obtain ⟨ds, h1, rfl⟩ := Option.map_eq_some_iff.mp h
    rw [allS_ok h1]; rfl
  | none :: _, _, h => by cases h
/-- the last object leaves the store -/
def dropL (n : Nat) (S : Store) : Option Store := if S.length = n + 1 ∧ (S.take n).all Ob.free = true then some (S.take n) else none
def mkR (c i : Nat) (g : Cfg) (ds : List D) (S1 : Store) : R RV := match g.call i (.ref S1.length :: ds) (S1 ++ [.slo c []]) with
  | .ok (.val .non) S2 => match S2[S1.length]? with
    | some (.slo c' fs) => match allS fs, dropL S1.length S2 with
      | some ds, some S3 => if c' = c ∧ frees ds = true then .ok (.val (.ins c ds)) S3 else .bad
      | _, _ => .bad
    | _ => .bad
  | .ex x S2 => match dropL S1.length S2 with
    | some S3 => if free x then .ex x S3 else .bad
    | none => .bad
  | _ => .bad
def mkF (c i : Nat) (g : Cfg) (dfl : List D) (m : MA) : ME := fun env S => (m env S).bind fun ds S1 => mkR c i g (ds ++ dfl) S1
section
variable {Γ : Gm} {X : Cx} {W : WX} {pos : Pos}
theorem repO_all {H : Hp} {μ : Mu} : ∀ {ds : List D} {vs : List (Option V)}, RepO Γ H μ vs (ds.map some) → ∃ ws : List V, vs = ws.map some ∧ Reps Γ H μ ws ds
  | [], vs, h => by
    cases vs with
    | nil => exact ⟨[], rfl, .nil⟩
    | cons v vs => exact absurd h.1 (by simp)
  | d :: ds, vs, h => by
    cases vs with
    | nil => exact absurd h.1 (by simp)
    | cons v vs =>
      obtain ⟨w, h1, h2⟩ := h.2 0 d rfl
      have h1 : some v = some (some w) := h1
      cases h1
      have ht : RepO Γ H μ vs (ds.map some) := ⟨by have := h.1; simpa using this, fun i e he => by
        obtain ⟨u, h3, h4⟩ := h.2 (i + 1) e (by simpa using he)
        exact ⟨u, by simpa using h3, h4⟩⟩
      obtain ⟨ws, rfl, r⟩ := repO_all ht
      exact ⟨w :: ws, rfl, .cons h2 r⟩
/-- what is left behind when the last one, at p, has gone -/
theorem drop_sim {H1 H H3 : Hp} {μ μ2 : Mu} {S1 S2 S3 : Store} {p : Addr} (s1 : Sim Γ μ H1 S1) (hp : H1 p = none) (hH : ∀ b o, H1 b = some o → H b = some o) (x : Ext Γ (μ.add p) H μ2 H3) (s2 : Sim Γ μ2 H3 S2) (h : dropL S1.length S2 = some S3) (ht : LamX.Tabs Γ.T H1 → LamX.Tabs Γ.T H) :
    μ2 = μ.add p ∧ Ext Γ μ H1 μ H3 ∧ Sim Γ μ H3 S3 ∧ (∀ b, μ2.no b → μ.no b) ∧ μ.no p := by
  unfold dropL at h
  split at h
  · rename_i hc
    cases h
    obtain ⟨hl, hf⟩ := hc
    obtain ⟨r, er⟩ := x.pre
    have l1 : μ2.st.length = μ.st.length + 1 := by rw [s2.len, hl, s1.len]
    have er : μ2.st = (μ.st ++ [p]) ++ r := er
    have r0 : r = [] := by
      have := congrArg List.length er
      rw [l1] at this
      simp at this
      exact this
    rw [r0, List.append_nil] at er
    have hd : μ2.hd = μ.hd := x.hid
    have eμ : μ2 = μ.add p := by
      cases μ2
      cases μ
      unfold Mu.add
      simp only at er hd
      rw [er, hd]
    subst eμ
    have nop : μ.no p := s1.nnew hp
    have nn : ∀ b, (μ.add p).no b → μ.no b := fun b hb => ⟨fun z => hb.1 (List.mem_append_left _ z), hb.2⟩
    refine ⟨rfl, ⟨⟨[], by simp⟩, rfl, fun b o e hb n => ?_, fun b o e => x.here b o (hH b o e), fun b h1 h2 => absurd h1 h2, fun t => x.tabs (ht t)⟩, ⟨?_, s1.nd, fun n a ob h1 h2 => ?_, fun b hb => s1.apart b hb, s2.hth⟩, nn, nop⟩
    · refine x.keep b o (hH b o e) (fun z => ?_) n
      rcases List.mem_append.mp z with z | z
      · exact hb z
      · rw [List.mem_singleton.mp z, hp] at e; cases e
    · rw [List.length_take, hl, s1.len]; omega
    · have hn : n < μ.st.length := (List.getElem?_eq_some_iff.mp h1).1
      have h1' : (μ.add p).st[n]? = some a := by
        show (μ.st ++ [p])[n]? = some a
        rw [List.getElem?_append_left hn]; exact h1
      have h2' : S2[n]? = some ob := by
        rw [List.getElem?_take_of_lt (by rw [← s1.len]; exact hn)] at h2
        exact h2
      exact (s2.ats n a ob h1' h2').view (fun b _ hb => nn b hb) (List.all_eq_true.mp hf ob (List.mem_of_getElem? h2))
  · cases h
theorem mk_core {c i : Nat} {g : Cfg} {dfl ds : List D} {vs dvs : List V} {n : Nat} {σ : L2.St} {H1 : Hp} {μ1 : Mu} {S1 : Store} {Q : VK} (hd : ∀ H μ, Reps Γ H μ dvs dfl) (hlen : ∀ ds S, (g.call i ds S).sat (fun _ _ => True) (fun _ _ => True) → ds.length = n)
    (asim : Sim Γ μ1 H1 S1) (atabs : LamX.Tabs Γ.T H1) (rs : Reps Γ H1 μ1 vs ds) (q : (mkR c i g (ds ++ dfl) S1).sat (Post Γ μ1 H1 Q) (XPost Γ W σ μ1 H1)) :
    ∀ x dx, H1 x = none → H1 dx = none → dx ≠ x → spD Γ (g.call i) n (.ref x :: (vs ++ dvs)) (upd (upd H1 dx (.xd [])) x (SlX.SlO x (Γ.cls c) dx [])) (fun v H2 => v = .non ∧ Q (.ref x) H2) (WE W σ) := by
  unfold mkR at q
  intro p dx hp hdx hne
  have hdxp : H1 dx = none := hdx
  let Ha := upd H1 dx (.xd [])
  let Hb := upd Ha p (SlX.SlO p (Γ.cls c) dx [])
  have hpa : Ha p = none := by show upd H1 dx (.xd []) p = none; rw [upd_ne (Ne.symm hne)]; exact hp
  have sa : Sim Γ μ1 Ha S1 := asim.laid hdx _
  have xa : Ext Γ μ1 H1 μ1 Ha := Ext.laid hdx _
  have nodx : μ1.no dx := asim.nnew hdx
  have nop : μ1.no p := asim.nnew hp
  have nodx' : (μ1.add p).no dx := ⟨fun z => by
    rcases List.mem_append.mp z with z | z
    · exact nodx.1 z
    · exact hne (List.mem_singleton.mp z), nodx.2⟩
  have hdx2 : Hb dx = some (.xd []) := by show upd Ha p _ dx = _; rw [upd_ne hne]; exact upd_same
  have sb : Sim Γ (μ1.add p) Hb (S1 ++ [.slo c []]) := sa.alloc hpa _ ⟨dx, [], upd_same, .xdd ⟨hdx2, nodx'⟩, rfl, fun i d e => absurd e (by simp)⟩
  have xb : Ext Γ μ1 Ha (μ1.add p) Hb := Ext.alloc hpa _
  have hH : ∀ b o, H1 b = some o → Hb b = some o := fun b o e => by
    show upd Ha p _ b = _
    rw [upd_ne (ne_of_none e hp)]
    show upd H1 dx _ b = _
    rw [upd_ne (ne_of_none e hdx)]; exact e
  have rr : Reps Γ Hb (μ1.add p) (.ref p :: (vs ++ dvs)) (.ref S1.length :: (ds ++ dfl)) := by
    refine .cons (.ref ?_) (((rs.ext xa).ext xb).append (hd _ _))
    show (μ1.st ++ [p])[S1.length]? = _
    rw [← asim.len]; simp
  have tb : LamX.Tabs Γ.T H1 → LamX.Tabs Γ.T Hb := fun t => xb.tabs (xa.tabs t)
  have len0 : (g.call i (.ref S1.length :: (ds ++ dfl)) (S1 ++ [.slo c []])).sat (fun _ _ => True) (fun _ _ => True) := by
    revert q
    cases g.call i (.ref S1.length :: (ds ++ dfl)) (S1 ++ [.slo c []]) with
    | ok r S2 => intro _; exact trivial
    | ex x S2 => intro _; exact trivial
    | bad => intro q; exact False.elim q
  refine ⟨by show (V.ref p :: (vs ++ dvs)).length = n; rw [rr.length]; exact hlen _ _ len0, _, _, μ1.add p, sb, tb atabs, rr, ?_⟩
  cases hcall : g.call i (.ref S1.length :: (ds ++ dfl)) (S1 ++ [.slo c []]) with
  | bad => rw [hcall] at q; exact False.elim q
  | ex x S2 =>
    rw [hcall] at q
    simp only at q
    intro cls dxx H3 μ3 x3 s3 xat
    split at q
    · rename_i S3 hdrop
      obtain ⟨rfl, x4, s4, nn, np⟩ := drop_sim asim hp hH x3 s3 hdrop tb
      split at q
      · rename_i hfree
        refine q cls dxx H3 μ1 x4 s4 ?_
        cases x with
        | exc c d =>
          obtain ⟨k1, aa, v, k2, k3, k4⟩ := xat
          exact ⟨k1, aa, v, k2, ⟨k3.1, nn _ k3.2⟩, k4.view (fun b _ hb => nn b hb) (by simpa [free] using hfree)⟩
        | _ => exact False.elim xat
      · exact False.elim q
    · exact False.elim q
  | ok r S2 =>
    rw [hcall] at q
    intro v H3 μ3 x3 rv
    cases r with
    | new ob => exact False.elim q
    | val d =>
      cases d with
      | non =>
        obtain ⟨s3, rv⟩ := rv
        cases rv
        refine ⟨rfl, ?_⟩
        simp only at q
        split at q
        · rename_i c' fs hS2
          split at q
          · rename_i es S3 hall hdrop
            split at q
            · rename_i hcc
              obtain ⟨rfl, hfr⟩ := hcc
              obtain ⟨rfl, x4, s4, nn, np⟩ := drop_sim asim hp hH x3 s3 hdrop tb
              have hat : (μ1.add p).st[S1.length]? = some p := by
                show (μ1.st ++ [p])[S1.length]? = _
                rw [← asim.len]; simp
              obtain ⟨dx', ws, h1, h2, h3⟩ := s3.ats _ _ _ hat hS2
              rw [allS_ok hall] at h3
              obtain ⟨us, rfl, ru⟩ := repO_all h3
              cases h2 with
              | xdd h2 => exact q _ H3 μ1 x4 ⟨s4, .ins ⟨h1, np⟩ ⟨h2.1, nn _ h2.2⟩ (ru.view (fun b _ hb => nn b hb) hfr)⟩
            · exact False.elim q
          · exact False.elim q
        · exact False.elim q
      | _ => exact False.elim q
theorem rd_mk {c i : Nat} {g : Cfg} {dfl : List D} {dvs : List V} {n : Nat} {m : MA} {σ : L2.St} {H : Hp} {Q : VK} (hd : ∀ H μ, Reps Γ H μ dvs dfl) (hlen : ∀ ds S, (g.call i ds S).sat (fun _ _ => True) (fun _ _ => True) → ds.length = n) (h : rdE Γ W (mkF c i g dfl m) σ H Q) :
    tMakeG (Γ.cls c) (spD Γ (g.call i) n) dvs (fun σ => WE W σ) (rdA Γ W m) σ H Q :=
  rd_args h fun vs H1 μ1 ds S1 env a rs q => mk_core hd hlen a.sim a.tabs rs q
theorem sd_mk {c i : Nat} {g : Cfg} {dfl : List D} {dvs : List V} {dus : List Value} {m : MA} {k : Nat} {f : Addr} {fd : FuncData} {ps : List Str} {x : Str} {p : Pos} {e : Expr} {es : List Expr} (tk : Takes X W) (M : Mk X.K (Γ.cls c) f)
    (F : FnG X.prog X.w X.K X.mg X.base (L2.CX X.prog X.w) k f fd ps (spD Γ (g.call i) ps.length)) (hr : RoomG (k + 1) X.A) (hg : Gl X x) (hm : X.mg x = some (.ref (Γ.cls c))) (hb : Binds X.K fd ps dus) (hv : Vals dvs dus)
    (hd : ∀ H μ, Reps Γ H μ dvs dfl) (hlen : ∀ ds S, (g.call i ds S).sat (fun _ _ => True) (fun _ _ => True) → ds.length = ps.length) (ha : PA X (e :: es) (rdA Γ W m)) (hs : (e :: es).all notStar = true) (hdb : (x == ("__debug__" : Str)) = false) :
    PE X (.Call (.Name x p) (e :: es) [] pos) (rdE Γ W (mkF c i g dfl m)) :=
  (pe_makeG M F hr hg hm hb hv (fun σ => passAt tk σ) ha hdb (star_cons (Bool.and_eq_true_iff.mp (show (notStar e && es.all notStar) = true from hs)).1) (star_any (Bool.and_eq_true_iff.mp (show (notStar e && es.all notStar) = true from hs)).2)).weak
    fun σ H Q h => rd_mk hd hlen h
/-! ### isinstance(e, C) -/
def bTys : List String := ["NoneType", "bool", "int", "str", "tuple", "list", "dict"]
/-- built-in types are not below C; those of cs are as cb tells -/
structure OwnIs (Γ : Gm) (cs : List Nat) (c : Nat) : Prop where
  ty : ∀ T ∈ bTys, PySem.W.kitOne Γ.K (.type T) (.ref (Γ.cls c)) = some false
  own : ∀ d ∈ cs, SlX.SCls Γ.K (Γ.cls d) ∧ SlX.SIsi Γ.K (Γ.cls d) ∧ PySem.W.kitOne Γ.K (.ref (Γ.cls d)) (.ref (Γ.cls c)) = some (d == c)
def isOwnD (cs : List Nat) (c : Nat) (S : Store) (d : D) : Option Bool := match clsOf S d with
  | some c' => if c' ∈ cs then some (c' == c) else none
  | none => match tyOf S d with
    | some _ => some false
    | none => none
theorem tyOf_mem {S : Store} {d : D} {t : String} (h : tyOf S d = some t) : t ∈ bTys := by
  cases d with
  | ref n =>
    simp only [tyOf] at h
    split at h <;> cases h <;> decide
  | _ => cases h <;> decide
theorem sd_isiO {x : Str} {c : Nat} {cs : List Nat} {p p2 : Pos} {e : Expr} {f : ME} (hK : X.K = Γ.K) (ho : OwnIs Γ cs c) (hg : Gl X "isinstance") (hm : X.mg "isinstance" = none) (he : PE X e (rdE Γ W f)) (hs : notStar e = true) (hgC : Gl X x) (hmC : X.mg x = some (.ref (Γ.cls c)))
    (hdb : (x == ("__debug__" : Str)) = false) : PE X (.Call (.Name "isinstance" p) [e, .Name x p2] [] pos) (rdE Γ W (isiF (isOwnD cs c) f)) :=
  (pe_callB (call_isi.or (SlX.call_isiSl (.ref (Γ.cls c)))) hg hm (by rfl) (pa_cons he (pa_cons (pe_glob (v := .ref (Γ.cls c)) hgC hmC rfl hdb) pa_nil rfl) (star_cons hs)) (by decide) (by decide) (star_cons hs) (by rfl)).weak fun σ H Q h => by
    obtain ⟨env, S, μ, a, h⟩ := h
    unfold isiF at h
    rw [R.sat_bind] at h
    refine rd_use a h fun r1 S1 v1 H1 μ1 x1 rv1 q1 => ?_
    obtain ⟨s1, p1⟩ := rv1.sim
    split at q1
    · rename_i b hb
      have fin : Q (.bl b) H1 := q1 _ H1 μ1 x1 ⟨s1, .bl b⟩
      rw [hK]
      unfold isOwnD at hb
      split at hb
      · rename_i c' hc
        split at hb
        · rename_i hmem
          cases hb
          obtain ⟨aa, dx, vs, rfl, hsl⟩ := slt_of s1 p1 hc
          obtain ⟨k1, k2, k3⟩ := ho.own c' hmem
          exact .inr ⟨aa, _, dx, vs, .ref (Γ.cls c), _, rfl, rfl, fun w hw => hw, hsl, k1, k2, k3, fin⟩
        · cases hb
      · split at hb
        · rename_i t ht
          cases hb
          exact .inl ⟨v1, .ref (Γ.cls c), .type t, .ref (Γ.cls c), false, rfl, .own _, tyOf_ok s1 p1 ht, ho.ty t (tyOf_mem ht), fin⟩
        · cases hb
    · exact False.elim q1
end
end Ev
/-! Ev16: own exceptions: def __init__(self, p): super().__init__('..'); self.f = p -/
namespace Ev
open PySem L2 PyProof.Rows PySem.W
/-- the def's two statements -/
abbrev supBody (p0 p1 p2 p3 p4 p5 p6 p7 p8 p9 : Pos) (j : Nat) (txt f ar : Str) : List Stmt :=
  [.Expr (.Call (.Attribute (.Call (.Name "super" p0) [] [] p1) "__init__" p2) [.Constant (.str txt) j p3] [] p4) p5, .Assign [.Attribute (.Name "self" p6) f p7] (.Name ar p8) p9]
abbrev supScope (ar : Str) : Scope := { kind := .function, names := [("self", .local), (ar, .local), ("__class__", .free), ("super", .globalImplicit)], isGenerator := false, isCoroutine := false, more := [] }
/-- what the written part must say of such a class -/
structure SupC (prog : Program) (K : Frag) (C fI : Addr) (f ar : Str) (B i newId : String) (bmB : List Value) : Prop where
  FB : ExcBaseFacts B newId i bmB
  SF : StoreFacts B bmB "object.__setattr__" "object"
  KF : KxsFacts B i
  fn : ∃ (oc : Value) (od : Option Addr) (name qual : Str) (params : Arguments) (p0 p1 p2 p3 p4 p5 p6 p7 p8 p9 : Pos) (j : Nat) (txt : Str) (dV kV doc pm ct : Value) (an : Option Addr) (cda cc : Addr) (osl : Array (Option Value)) (ccl cl : Value) (cdd cld : Option Addr) (ccs csl : Array (Option Value)) (vs : Array Value) (file : Str) (tf : Tok) (ag : Arg),
    K.lookup fI = some ⟨oc, od, .func (ksFn name qual params (supBody p0 p1 p2 p3 p4 p5 p6 p7 p8 p9 j txt f ar) (supScope ar) dV kV doc pm an (.ref cda) ct cc), osl⟩ ∧ codeIn K (.ref cda) qual = true ∧
    K.lookup cda = some ⟨ccl, cdd, .fields vs, ccs⟩ ∧ vs[2]? = some (.str file tf) ∧ ((prog.main.file : Str) == file) = true ∧ K.lookup cc = some ⟨cl, cld, .cell (some (.ref C)), csl⟩ ∧
    (params.posonlyargs ++ params.args).head? = some ag ∧ ag.arg = "self" ∧ (∀ (s : Shared) (x u : Value), BindsTo s (ksFn name qual params (supBody p0 p1 p2 p3 p4 p5 p6 p7 p8 p9 j txt f ar) (supScope ar) dV kV doc pm an (.ref cda) ct cc) ⟨[x, u], []⟩ [("self", x), (ar, u)]) ∧
    ∀ env : Env, ∃ pl : Sem Bool, eval (.Call (.Attribute (.Call (.Name "super" p0) [] [] p1) "__init__" p2) [.Constant (.str txt) j p3] [] p4) env = (do
      let ov ← attributeBase (.Call (.Name "super" p0) [] [] p1) "__init__" env (eval (.Call (.Name "super" p0) [] [] p1) env)
      standAt p2.atName
      let (f, first) ← holding [ov] (getMethod ov "__init__" pl)
      callWith p4 f first (backTo p4 (starEach [.Constant (.str txt) j p3] env)) [])
  hasD : ∃ cd, clsIn K C = some cd
  sub : mroIn K C (.ref C) = some true
  subB : subIn K (.ref C) (.type B) = some true
  sup : nsIn K mainGlobals "super" = some none
  tp : nsIn K cStatics "thirdparty.any" = some none
  meth : ks_superIn K C C "__init__" = some (some (.builtin i))
  init : excInitIn K C bmB newId = true
  sa : findIn K (.ref C) "__setattr__" = some (some (.builtin "object.__setattr__"))
  over : excOver K C bmB = true
  tk : takerIn K C f = some none
  hd : hasDictIn K C = true
  top : (prog.main.scope.names.lookup ("super" : Str)).isSome = false
  ne : (ar == ("self" : Str)) = false
  nk : (ar == ("__class__" : Str)) = false
  ns : (ar == ("super" : Str)) = false
  nd : (ar == ("__debug__" : Str)) = false
theorem ns1_one {h : Heap} {dx : Addr} {f : Str} {hsh : Int} {t : Tok} {u : Value} {n : Nat} (e : h.get? dx = some (dictOf [⟨hsh, .str f t, u⟩] n)) : h.Ns1 dx (fun y => if y = f then some u else none) := by
  refine ⟨_, _, _, e, rfl, fun x hx => ?_, ?_, fun y => ?_⟩
  · have hx : x ∈ [(⟨hsh, .str f t, u⟩ : DictEntry)] := by simpa using hx
    rw [List.mem_singleton.mp hx]
    exact ⟨f, t, rfl⟩
  · exact List.pairwise_singleton _ _
  · unfold nsFind findBy
    by_cases hy : y = f
    · subst hy
      simp [Value.isStr]
    · have : (f == y) = false := by
        rw [Bool.eq_false_iff]
        exact fun z => hy (beq_iff_eq.mp z).symm
      simp [Value.isStr, this, hy]
theorem beq_sym {a b : Str} (h : (a == b) = false) : (b == a) = false := by
  rw [Bool.eq_false_iff] at h ⊢
  exact fun z => h (by rw [beq_iff_eq.mp z]; simp)
theorem look_super {ar : Str} (h : (ar == ("super" : Str)) = false) : (supScope ar).names.lookup ("super" : Str) = some .globalImplicit := by
  show List.lookup ("super" : Str) [(("self" : Str), NameKind.local), (ar, .local), ("__class__", .free), ("super", .globalImplicit)] = _
  rw [List.lookup_cons, show (("super" : Str) == ("self" : Str)) = false by decide, List.lookup_cons, beq_sym h]
  rfl
theorem look_class {ar : Str} (h : (ar == ("__class__" : Str)) = false) : (supScope ar).names.lookup ("__class__" : Str) = some .free := by
  show List.lookup ("__class__" : Str) [(("self" : Str), NameKind.local), (ar, .local), ("__class__", .free), ("super", .globalImplicit)] = _
  rw [List.lookup_cons, show (("__class__" : Str) == ("self" : Str)) = false by decide, List.lookup_cons, beq_sym h]
  rfl
theorem look_ar {ar : Str} (h : (ar == ("self" : Str)) = false) : (supScope ar).names.lookup ar = some .local := by
  show List.lookup ar [(("self" : Str), NameKind.local), (ar, .local), ("__class__", .free), ("super", .globalImplicit)] = _
  rw [List.lookup_cons, h, List.lookup_cons]
  simp
theorem look_self {ar : Str} : (supScope ar).names.lookup ("self" : Str) = some .local := by
  show List.lookup ("self" : Str) [(("self" : Str), NameKind.local), (ar, .local), ("__class__", .free), ("super", .globalImplicit)] = _
  rw [List.lookup_cons]
  rfl
section
variable {prog : Program} {w : World} {A : Around} {E : Value → Shared → Prop} {s : Shared} {h₀ : Heap} {L : Addr} {m mg mb : Str → Option Value} {news : List (Addr × Obj)} {K : Frag} {x C D f f2 cc cda so : Addr} {ox : Obj} {odx : Option Obj}
theorem sup_node {body : List Stmt} {q : Str} {scope : Scope} {p0 p1 : Pos} {attr : Str} {whole : Sem Value} {fd : FuncData} {ar : Arg} {vs : Array Value} {file : Str} {tf : Tok} {oc ccl cl : Value} {od cdd cld : Option Addr} {osl ccs csl : Array (Option Value)} {cdD : ClassData} {Q : Value → Shared → Prop}
    (F : Fr h₀ L s.heap m) (X₀ : K.In h₀) (N : News h₀ L s.heap news) (Tg : s.heap.Ns mainGlobals mg) (Tb : s.heap.Ns builtinsNs mb) (Tm : ∀ x : Str, x ≠ "__name__" → mb x = bootBuiltins x) (hmg : mg "super" = none)
    (hf : K.lookup f = some ⟨oc, od, .func fd, osl⟩) (hp : (fd.params.posonlyargs ++ fd.params.args).head? = some ar) (hv : m ar.arg = some (.ref x)) (I : InstAt s.heap x ox C odx)
    (hcode : K.lookup cda = some ⟨ccl, cdd, .fields vs, ccs⟩) (hvs : vs[2]? = some (.str file tf)) (hfile : ((prog.main.file : Str) == file) = true)
    (hcell : K.lookup cc = some ⟨cl, cld, .cell (some (.ref D)), csl⟩) (hD : clsIn K D = some cdD) (hsub : mroIn K C (.ref D) = some true)
    (hat : (attr == ("__class__" : Str)) = false) (hks : scope.names.lookup ("super" : Str) = some .globalImplicit) (hkc : scope.names.lookup ("__class__" : Str) = some .free) (hka : scope.names.lookup ar.arg = some .local) (hk : scope.kind = .function)
    (htop : (prog.main.scope.names.lookup ("super" : Str)).isSome = false)
    (h : ∀ so h', Fr h₀ L h' m → News h₀ L h' ((so, ks_superObj D x C) :: news) → (∀ p ∈ news, p.1 < so) → Q (.ref so) { s with heap := h' }) :
    _root_.PySem.wpAt (model prog w) A (.func body (ksEnv q scope L f (.ref cda) cc)) (attributeBase (.Call (.Name "super" p0) [] [] p1) attr (ksEnv q scope L f (.ref cda) cc) whole) Q E s := by
  have X : K.In s.heap := X₀.keeps F.keep
  obtain ⟨hh, g, d, t, os⟩ := s
  obtain ⟨oD, hD1, hD2⟩ : ∃ oD, hh.get? D = some oD ∧ oD.data = .cls cdD := by
    unfold clsIn at hD
    split at hD
    · rename_i c d cd' sl ho
      cases hD
      exact ⟨_, X _ _ ho, rfl⟩
    · cases hD
  refine ks_wpAt_super_base (env := ksEnv q scope L f (.ref cda) cc) hks hkc hat rfl (X _ _ hf) rfl hp rfl (X _ _ hcode) rfl hvs hfile htop ?_
  refine ks_loadName_global hk hks (PySem.Calls.loadGlobal_builtin (env := ksEnv q scope L f (.ref cda) cc) Tg hmg Tb ((Tm _ (by decide +kernel)).trans (by rfl)) ⟨rfl, ?_⟩)
  refine wpAny_loadName_free hk hkc rfl ⟨_, X _ _ hcell, rfl⟩ ?_
  refine wpAny_loadName_local hk hka F.ns hv ?_
  refine ks_wpAny_isType_cls hD1 hD2 ⟨rfl, ?_⟩
  refine ks_wpAny_call_super hD1 hD2 I.at_ I.cls (fun c e => ?_) (looks_mroIn X hsub) (fun h' e k => ?_)
  · have := I.no
    unfold notCls at this
    rw [e] at this
    exact Bool.noConfusion this
  · obtain ⟨F', N', l'⟩ := ks_newsPush (s := ⟨hh, g, d, t, os⟩) F N rfl e k
    exact h _ _ F' N' l'
end
section
variable {prog : Program} {w : World} {A : Around} {s : Shared} {K : Frag} {e C fI : Addr} {f ar : Str} {B i newId : String} {bmB : List Value} {t0 : Addr} {u : Value} {R : Result → Shared → Prop} {mg mb : Str → Option Value}
theorem sup_init (S : SupC prog K C fI f ar B i newId bmB) (X : K.In s.heap) (hKe : K.lookup e = none) (Tg : s.heap.Ns mainGlobals mg) (Tb : s.heap.Ns builtinsNs mb) (Tm : ∀ x : Str, x ≠ "__name__" → mb x = bootBuiltins x) (Tl : s.heap.NoLimit)
    (he : s.heap.get? e = some (HandSPX.excO C t0)) (hroom : A.depth < recursionLimit)
    (q : ∀ h' tk dx t1, (∀ b o, b ≠ e → s.heap.get? b = some o → h'.get? b = some o) → s.heap.get? dx = none → dx ≠ e → h'.get? e = some ({ cls := .ref C, dict := some dx, data := .fields #[.ref t1, .none, .none, .none, .bool false, .none] } : Obj) →
      h'.Ns1 dx (fun y => if y = f then some u else none) → R (.ok (.ret .none)) ⟨h', s.gens, s.drawn, tk, s.os⟩) :
    codeAny (model prog w) A (.call (.ref fI) ⟨[.ref e, u], []⟩) R s := by
  obtain ⟨oc, od, name, qual, params, p0, p1, p2, p3, p4, p5, p6, p7, p8, p9, j, txt, dV, kV, doc, pm, ct, an, cda, cc, osl, ccl, cl, cdd, cld, ccs, csl, vs, file, tf, ag, ho, hcd, hcode, hvs, hfile, hcell, hag, hself, hbind, hev⟩ := S.fn
  have hmg : mg "super" = none := mg_none_of X Tg S.sup
  refine ks_codeAny_call_defAt (fd := ksFn name qual params (supBody p0 p1 p2 p3 p4 p5 p6 p7 p8 p9 j txt f ar) (supScope ar) dV kV doc pm an (.ref cda) ct cc) (body := supBody p0 p1 p2 p3 p4 p5 p6 p7 p8 p9 j txt f ar) (binds := [("self", .ref e), (ar, u)]) hroom (X _ _ ho) rfl Tl
    (codeRec_of X hcd) rfl (hbind s (.ref e) u) (by intro y hy; simp at hy; rcases hy with rfl | rfl | rfl | rfl <;> simp) ?_ (fun h₁ hns hk₁ => ?_) rfl rfl rfl
  · intro y hy
    have hy : y ∈ [(("self" : Str), Value.ref e), (ar, u)] := hy
    rcases List.mem_cons.mp hy with rfl | hy
    · rfl
    · rcases List.mem_cons.mp hy with rfl | hy
      · exact look_ar S.ne
      · cases hy
  · -- the body
    have hG : (s.heap.hide e).objs.size = s.heap.objs.size := Heap.hide_size _ _
    have hlt : e < s.heap.objs.size := Heap.lt_size he
    have XG : K.In (s.heap.hide e) := fun b o hb => by
      have ne : b ≠ e := fun z => by rw [z, hKe] at hb; cases hb
      exact (Heap.hide_ne _ ne).trans (X b o hb)
    have F1 : Fr (s.heap.hide e) s.heap.objs.size h₁ (fun x => [(("self" : Str), Value.ref e), (ar, u)].reverse.lookup x) := ⟨hns, fun b o hb => hk₁ b o (Heap.of_hide hb), by rw [hG]; exact Nat.le_refl _⟩
    have N1 : News (s.heap.hide e) s.heap.objs.size h₁ [(e, HandSPX.excO C t0)] := fun p hp => by
      rw [List.mem_singleton.mp hp]
      exact ⟨hk₁ _ _ he, Nat.ne_of_lt hlt, Heap.hide_self _ _⟩
    obtain ⟨cd, hcdC⟩ := S.hasD
    have mself : (fun x => [(("self" : Str), Value.ref e), (ar, u)].reverse.lookup x) "self" = some (.ref e) := by
      show List.lookup ("self" : Str) [(ar, u), (("self" : Str), Value.ref e)] = _
      rw [List.lookup_cons]
      have h1 : (("self" : Str) == ar) = false := by rw [Bool.eq_false_iff]; intro z; have := S.ne; rw [beq_iff_eq.mp z] at this; simp at this
      rw [h1]
      rfl
    have mar : (fun x => [(("self" : Str), Value.ref e), (ar, u)].reverse.lookup x) ar = some u := by
      show List.lookup ar [(ar, u), (("self" : Str), Value.ref e)] = _
      rw [List.lookup_cons]
      simp
    obtain ⟨pl, hev⟩ := hev (callEnv (ksFn name qual params (supBody p0 p1 p2 p3 p4 p5 p6 p7 p8 p9 j txt f ar) (supScope ar) dV kV doc pm an (.ref cda) ct cc) s.heap.objs.size fI)
    refine ks_wpAt_execs_cons (ks_wpAt_Expr_any (ks_wpAt_MethodCall (pl := pl) (sup_node (m := fun x => [(("self" : Str), Value.ref e), (ar, u)].reverse.lookup x) (mg := mg) (mb := mb) F1 XG N1 (Tg.keeps hk₁) (Tb.keeps hk₁) Tm hmg ho hag (by rw [hself]; exact mself) (InstAt.of_exc0 N1 (List.mem_singleton.mpr rfl)) hcode hvs hfile hcell hcdC S.sub rfl (look_super S.ns) (look_class S.nk) (by rw [hself]; exact look_self) rfl S.top
      (fun so h2 F2 N2 l2 => ?_)) hev) rfl rfl)
    -- super().__init__
    have me : (e, HandSPX.excO C t0) ∈ (so, ks_superObj C e C) :: [(e, HandSPX.excO C t0)] := List.mem_cons_of_mem _ (List.mem_singleton.mpr rfl)
    refine kxs_method S.KF F2 XG N2 (List.mem_cons_self ..) (InstAt.of_exc0 N2 me) S.tp S.meth S.subB rfl (fun q1 h3 F3 N3 l3 => ?_)
    refine kxs_callWith1 N3 (List.mem_cons_self ..) (Calls.spliced_cons (wpAny_Constant_str (x := txt) (k := j) (pos := p3) (Calls.spliced_nil ?_))) rfl rfl
    refine ⟨kxs_at N3 (List.mem_cons_self ..), ?_⟩
    have lso : e ≠ so := fun z => by have := l2 (e, HandSPX.excO C t0) (List.mem_singleton.mpr rfl); rw [← z] at this; exact absurd this (Nat.lt_irrefl _)
    have lq1 : e ≠ q1 := fun z => by have := l3 (e, HandSPX.excO C t0) me; rw [← z] at this; exact absurd this (Nat.lt_irrefl _)
    refine kxs_call (C := C) (t := t0) (dv := none) (c2 := .none) F3 XG N3 S.FB S.init (List.mem_cons_self ..) (.tail (Ne.symm lq1) (.tail (Ne.symm lso) (.head fun p hp => absurd hp (by simp)))) (by rw [sizeLine_eq]; show 1 ≤ _; decide) (fun t1 h4 F4 N4 l4 => ?_)
    -- self.f = p
    refine ks_wpAt_execs_cons (wpAt_of_wpAny (plainObj_wpAny_Assign_Attribute (wpAny_Name (wpAny_loadName_local rfl (look_ar S.ne) F4.ns mar (wpAny_Name (wpAny_loadName_local rfl look_self F4.ns mself ?_) (by decide))) S.nd) rfl))
    have lt1 : e ≠ t1 := fun z => by have := l4 (e, HandSPX.excO C t0) (List.mem_cons_of_mem _ me); rw [← z] at this; exact absurd this (Nat.lt_irrefl _)
    refine set_exc0 S.SF F4 XG N4 (t := t1) (c2 := .none) (List.mem_cons_of_mem _ (List.mem_cons_of_mem _ (List.mem_cons_of_mem _ (List.mem_cons_self ..)))) S.sa S.over S.tk S.hd rfl
      (.tail (Ne.symm lt1) (.tail (Ne.symm lq1) (.tail (Ne.symm lso) (.head fun p hp => absurd hp (by simp))))) (by show (1 : Nat) ≤ 1000; decide) (fun dx h5 F5 N5 l5 => ?_)
    refine wpAt_of_wpAny (wpAny_execs_nil ?_)
    have ldx : e ≠ dx := fun z => by
      have := l5 (e, HandSPX.excO C t1) (List.mem_cons_of_mem _ (List.mem_cons_of_mem _ (List.mem_cons_of_mem _ (List.mem_cons_self ..))))
      rw [← z] at this; exact absurd this (Nat.lt_irrefl _)
    have hdx := N5 _ (List.mem_cons_self ..)
    have hex := N5 (e, excObj C t1 (some dx) .none) (List.mem_cons_of_mem _ (List.mem_cons_of_mem _ (List.mem_cons_of_mem _ (List.mem_cons_of_mem _ (List.mem_cons_self ..)))))
    refine q h5 _ dx t1 (fun b o hb ho => F5.keep b o ((Heap.hide_ne _ hb).trans ho)) ((Heap.hide_ne _ (Ne.symm ldx)).symm.trans hdx.2.2) (Ne.symm ldx) hex.1 (ns1_one hdx.1)
end
/-! ### raise C(e) -/
structure SupR (prog : Program) (K : Frag) (C fI : Addr) (f ar : Str) (B i newId : String) (bmB : List Value) : Prop extends SupC prog K C fI f ar B i newId bmB where
  iC : findIn K (.ref C) "__init__" = some (some (.ref fI))
  tI : typeIn K (.ref fI) = some (.type "function")
  exC : subIn K (.ref C) (.type "BaseException") = some true
  tyC : typeIn K (.ref C) = some (.type "type")
  kC : keepIn K (.ref C) = true
section
variable {X : Cx} {C fI : Addr} {f ar : Str} {B i newId : String} {bmB : List Value} {x : Str} {p pos : Pos} {e : Expr} {te : TE} {k : Nat}
def tMkS (C : Addr) (f : Str) (te : TE) : L2.St → Hp → XK → Prop := fun σ H Q => te σ H fun v H1 => ∀ d, H1 d = none → Q (.ref C) (some d) (upd H1 d (.xd [(f, v)]))
theorem pmk_sup (S : SupR X.prog X.K C fI f ar B i newId bmB) (hr : RoomG (k + 1) X.A) (hg : Gl X x) (hm : X.mg x = some (.ref C)) (he : PE X e te) (hdb : (x == ("__debug__" : Str)) = false) (hs : notStar e = true) :
    PMk X (.Call (.Name x p) [e] [] pos) (tMkS C f te) := by
  intro pins s σ H Q I h
  refine wpAny_Call_Name_kw (ld_glob I hg hm ?_ hdb)
  refine PySem.W.callWith_K (h₀ := X.base) I.ok.mod.kin S.kC ?_ (star_cons hs) (by rfl)
  rw [star_cons hs]
  show wpAny _ _ (spliced ((false, eval e X.env) :: backTo pos (starEach [] X.env))) _ _ s
  refine Calls.spliced_cons (thn (he.run pins s σ H _ I h) fun u s1 ⟨v, H1, I1, rv, q1⟩ => Calls.spliced_nil ⟨I1.kIn, ?_⟩)
  show wpAny _ _ (call (.ref C) [u]) _ _ _
  obtain ⟨hp, g, dr, tk, os⟩ := s1
  obtain ⟨nm, N, qn, bs, bm, hdct, sn, sub, ab, col, dd, k0, k1, k2, k3, k5, hC, hT⟩ := excInit_of I1.kIn S.init
  have hsz : hp.objs.size ≤ hp.objs.size + 1 := Nat.le_succ _
  have hn : H1 (hp.objs.size + 1) = none := I1.hok.fresh hsz
  have kk : ∀ b o, hp.get? b = some o → ((hp.push (PySem.W.kdv_tup [u])).push (PySem.HandSPX.excO C hp.objs.size)).get? b = some o := fun b o e => Heap.get?_push_of_some _ (Heap.get?_push_of_some _ e)
  have hget : ((hp.push (PySem.W.kdv_tup [u])).push (PySem.HandSPX.excO C hp.objs.size)).get? (hp.objs.size + 1) = some (PySem.HandSPX.excO C hp.objs.size) := by heap_get
  have I2 : Inv X pins σ (upd H1 (hp.objs.size + 1) (exo (hp.objs.size + 1) C none)) ⟨(hp.push (PySem.W.kdv_tup [u])).push (PySem.HandSPX.excO C hp.objs.size), g, dr, tk, os⟩ :=
    I1.laid (t' := tk) (a := hp.objs.size + 1) (o := exo (hp.objs.size + 1) C none) (h' := (hp.push (PySem.W.kdv_tup [u])).push (PySem.HandSPX.excO C hp.objs.size)) kk hsz (exo_ok hget)
  have hKe : X.K.lookup (hp.objs.size + 1) = none := by
    cases e : X.K.lookup (hp.objs.size + 1) with
    | none => rfl
    | some o =>
      have := (I2.bs _ _ (I2.ok.mod.kin _ _ e)).2
      rw [upd_same] at this
      cases this
  obtain ⟨mb, Tb, Tm⟩ := I2.mod.blt
  refine wpAny_call (PySem.HandSPX.call_own S.FB hT hC (PySem.W.looks_findIn I1.kIn S.iC) (fun self => PySem.W.bind_fn I1.kIn self S.tI) (by rw [sizeLine_eq]; show 1 ≤ _; decide)
    (sup_init S.toSupC (s := ⟨(hp.push (PySem.W.kdv_tup [u])).push (PySem.HandSPX.excO C hp.objs.size), g, dr, tk, os⟩) I2.kIn hKe (I2.mod.glob.keeps I2.bk) (Tb.keeps I2.bk) Tm I2.nolimit hget (hr.make C [u] []).room.depth fun h' tk' dx t1 k dn dne hx hns => ⟨rfl, ?_⟩))
  have e : (upd H1 (hp.objs.size + 1) (exo (hp.objs.size + 1) C none)) (hp.objs.size + 1) = some (exo (hp.objs.size + 1) C none) := upd_same
  have hnd : (upd H1 (hp.objs.size + 1) (exo (hp.objs.size + 1) C none)) dx = none := I2.hok.gone dn
  have nd : ∀ {b : Addr} {o : Obj}, ((hp.push (PySem.W.kdv_tup [u])).push (PySem.HandSPX.excO C hp.objs.size)).get? b = some o → b ≠ dx := fun {b o} q z => by rw [z, dn] at q; cases q
  have na : ∀ {b : Addr}, (upd H1 (hp.objs.size + 1) (exo (hp.objs.size + 1) C none)) b = none → b ≠ hp.objs.size + 1 := fun {b} n z => by
    rw [z, e] at n
    cases n
  let a := hp.objs.size + 1
  let Ha := upd H1 a (exo a C none)
  have Un1 : ∀ fs, Un fs [] Ha (upd (upd Ha dx (exd dx [(f, v)])) a (exo a C (some dx))) ((hp.push (PySem.W.kdv_tup [u])).push (PySem.HandSPX.excO C hp.objs.size)) h' := fun fs => {
    keep := fun b o q n _ _ => k b o (na n) q
    slot := fun b o q n _ _ => ⟨o.slots, k b o (na n) q⟩
    free := fun b o q n _ => by rw [upd_ne (na n), upd_ne (nd q)]; exact n
    there := fun b o q _ => by
      by_cases hb : b = a
      · exact ⟨_, by rw [hb]; exact hx⟩
      · exact ⟨o, k b o hb q⟩
    tups := fun b xs q => by rw [upd_ne (at_ne e q exo_tup), upd_ne (ne_of_none q hnd)]; exact q
    frzs := fun b o v q => by rw [upd_ne (at_ne e q exo_frz), upd_ne (ne_of_none q hnd)]; exact q
    tbls := fun b ps q => ⟨#[], by rw [upd_ne (at_ne e q exo_tbl), upd_ne (ne_of_none q hnd), q]; simp⟩ }
  have I3 : Inv X pins σ (upd (upd Ha dx (exd dx [(f, v)])) a (exo a C (some dx))) ⟨h', g, dr, tk', os⟩ := I2.un (t' := tk') (Un1 _) fun b o q => by
    by_cases hb : b = a
    · subst hb
      rw [upd_same] at q
      cases q
      exact exo_ok hx
    · rw [upd_ne hb] at q
      by_cases hd : b = dx
      · subst hd
        rw [upd_same] at q
        cases q
        exact exd_ok hns (relO_put (fs := []) rv fun g => True.intro)
      · rw [upd_ne hd] at q
        exact (I2.hok b o q).stay (fun c v hc z => k c v (by
            rcases hc with hc | hc
            · rw [hc]
              exact hb
            · exact at_ne e hc exo_own) z)
          (fun c hc => by rw [upd_ne (at_ne e hc exo_own), upd_ne (ne_of_none hc hnd)]; exact hc) (fun c xs hc => by rw [upd_ne (at_ne e hc exo_tup), upd_ne (ne_of_none hc hnd)]; exact hc)
  have hd1 : H1 dx = none := by
    have := hnd
    rwa [upd_ne dne] at this
  refine mk_end (fs := [(f, v)]) (raises_own S.exC S.tyC) I1 hsz kk (Un1 _) I3.hok rfl I3.bare upd_same ?_ hd1 ?_
  · rw [upd_ne dne, upd_same]
  · have eH : upd (del (upd (upd Ha dx (exd dx [(f, v)])) a (exo a C (some dx))) a) dx (.xd [(f, v)]) = upd H1 dx (.xd [(f, v)]) := by
      funext b
      by_cases hb : b = dx
      · rw [hb, upd_same, upd_same]
      · rw [upd_ne hb, upd_ne hb]
        by_cases ha : b = a
        · rw [ha, del_same]; exact hn.symm
        · rw [del_ne ha, upd_ne ha, upd_ne hb]
          show upd H1 a _ b = _
          rw [upd_ne ha]
    rw [eH]
    exact q1 dx hd1
end
end Ev
/-! Ev17: raise; try .. except (A, B, C) as e: x = e -/
namespace Ev
open PySem L2 PyProof.Rows
/-! ### raise C(e) -/
def raiS (c : Nat) (f : ME) : MS := fun env S => (f env S).then env fun r S1 => .ex (.exc c r.d) env S1
section
variable {Γ : Gm} {X : Cx} {W : WX} {pos : Pos}
theorem sd_raise {c : Nat} {fI : Addr} {ar : Str} {B i newId : String} {bmB : List Value} {x : Str} {p pos' : Pos} {e : Expr} {f : ME} {k : Nat} (hc : X.calm = true) (tk : Takes X W) (S : SupR X.prog X.K (Γ.cls c) fI (Γ.xf c) ar B i newId bmB) (hr : RoomG (k + 1) X.A) (hg : Gl X x) (hm : X.mg x = some (.ref (Γ.cls c)))
    (he : PE X e (rdE Γ W f)) (hdb : (x == ("__debug__" : Str)) = false) (hs : notStar e = true) : PS X (.Raise (some (.Call (.Name x p) [e] [] pos')) none pos) (rdS Γ W (raiS c f)) :=
  (ps_raise hc tk (pmk_sup S hr hg hm he hdb hs)).weak fun Z σ H h => by
    obtain ⟨env, S, μ, a, h⟩ := h
    refine rdS_then a h fun r S1 v H1 μ1 x1 rv g d hd => ?_
    have a1 := a.next x1 rv.sim.1
    have x2 : Ext Γ μ1 H1 μ1 (upd H1 d (.xd [(Γ.xf c, v)])) := Ext.laid hd _
    exact g (.ref (Γ.cls c)) (some d) σ _ μ1 x2 (a1.next x2 (a1.sim.laid hd _)) ⟨rfl, d, v, rfl, ⟨upd_same, a1.sim.nnew hd⟩, rv.sim.2.ext x2⟩
end
/-! ### an object that nobody told of is taken in -/
theorem adopt {X : Cx} {pins : List (Addr × Obj)} {σ σJ : L2.St} {H HJ : Hp} {s sI : Shared} {a : Addr} {o : HO} (I : Inv X pins σ H s) (J : Inv X pins σJ HJ sI) (ha : sI.heap.get? a = none) (hex : X.ex = []) (na : H a = none) (nL : a ≠ X.env.locals)
    (new : ObjOk X.prog X.w (upd H a o) s.heap a o) : Inv X pins σ (upd H a o) s := by
  have s0 : X.s_0.heap.get? a = none := by
    cases e : X.s_0.heap.get? a with
    | none => rfl
    | some u =>
      obtain ⟨u', hu⟩ := J.base.there a u e (by rw [hex]; simp)
      rw [ha] at hu; cases hu
  have ne0 : ∀ {b u}, X.s_0.heap.get? b = some u → b ≠ a := fun {b u} e z => by rw [z, s0] at e; cases e
  have neH : ∀ {b u}, H b = some u → b ≠ a := fun {b u} e z => by rw [z, na] at e; cases e
  refine ⟨I.ok, I.os, I.bare, ⟨I.base.keep, I.base.slot, fun b u e n hx => ?_, I.base.there, fun b xs q => ?_, fun b ob v q => ?_, fun b ps q => ?_⟩, I.loc, I.cell, ?_, fun y c e => ?_, fun p hp => ?_, fun b u q => ?_, I.len⟩
  · rw [upd_ne (ne0 e)]; exact I.base.free b u e n hx
  · have := I.base.tups b xs q
    rw [upd_ne (neH this)]; exact this
  · have := I.base.frzs b ob v q
    rw [upd_ne (neH this)]; exact this
  · obtain ⟨m, hm⟩ := I.base.tbls b ps q
    exact ⟨m, by rw [upd_ne (neH hm)]; exact hm⟩
  · rw [upd_ne (Ne.symm nL)]; exact I.free
  · have hc : c ≠ a := fun z => by
      obtain ⟨v, ob, hob, _⟩ := J.cell y c e
      rw [z, ha] at hob; cases hob
    rw [upd_ne hc]; exact I.freeC y c e
  · obtain ⟨e, n, r⟩ := I.pin p hp
    have hp2 := (J.pin p hp).1
    have hc : p.1 ≠ a := fun z => by rw [z, ha] at hp2; cases hp2
    exact ⟨e, by rw [upd_ne hc]; exact n, r⟩
  · by_cases hb : b = a
    · subst hb
      rw [upd_same] at q
      cases q
      exact new
    · rw [upd_ne hb] at q
      exact (I.hok b u q).stay (fun _ _ _ z => z) (fun c hc => by rw [upd_ne (neH hc)]; exact hc) fun c xs hc => by rw [upd_ne (neH hc)]; exact hc
theorem flying_up {B : Heap} {l : List Env} {e : Addr} {Z : Obj → Prop} {h h' : Heap} (k : ∀ b o, h.get? b = some o → h'.get? b = some o) (f : HandSPX.FlyingZ B l e Z h) : HandSPX.FlyingZ B l e Z h' := by
  obtain ⟨f1, f2, f3, oe, vs, T, oT, ts, h1, h2, h3, h4, h5, h6, h7, h8⟩ := f
  exact ⟨fun b o q => k b o (f1 b o q), f2, Heap.FunFrames.of_keeps (fun b o q _ => ⟨o, k b o q, rfl⟩) f3, oe, vs, T, oT, ts, k _ _ h1, h2, h3, h4, h5, h6, k _ _ h7, h8⟩
/-! ### the clause -/
def wAd (K : PySem.W.Frag) (cs : List Value) (i j : Nat) (Wout : WX) (D : Ends) : WX := fun cls d σ H =>
  ∃ b, PySem.W.exmAny K cls cs = some b ∧ (b = true → ∀ a oe, H a = none → Zc cls d oe → (∃ vs, oe.data = .fields vs) → D.nx (((σ.set i (some (.ref a))).set j (some (.ref a))).set i none) (upd H a (.frz oe (.own 0)))) ∧ (b = false → Wout cls d σ H)
section
variable {X : Cx} {x1 x2 x3 n y : Str} {c1 c2 c3 : Value} {i j : Nat} {body : List Stmt} {q1 q2 q3 qt pn py pb pos pos' : Pos} {kt : Nat} {tb : WX → TS} {Wout : WX}
theorem ps_try3 (hs : X.stack = X.env :: X.outer) (hf : X.env.frame = some X.env.locals) (hex : X.ex = []) (hN : X.N.Nodup) (hi : X.N[i]? = some n) (hln : X.env.scope.names.lookup n = some .local) (hj : X.N[j]? = some y) (hly : X.env.scope.names.lookup y = some .local) (hij : i ≠ j)
    (h1 : Names X x1 c1) (h2 : Names X x2 c2) (h3 : Names X x3 c3) (tk : Takes X Wout) (hnd : (n == ("__debug__" : Str)) = false) (hncd : (n == ("__classdict__" : Str)) = false)
    (hsw : swapsWith (.Name n pn) (some (.Name y py)) pb.line X.env = pure false)
    (hb : ∀ (W : WX) (pn : List (Addr × Obj)) (xe : Value → Shared → Prop), Takes (X.tr pn xe) W → PassesOwn (model X.prog X.w) X.A X.env xe → PSs (X.tr pn xe) body (tb W)) :
    PS X (.Try body [.ExceptHandler (some (.Tuple [.Name x1 q1, .Name x2 q2, .Name x3 q3] kt qt)) (some n) [.Assign [.Name y py] (.Name n pn) pb] pos'] [] [] pos) (fun D σ H => tb (wAd X.K [c1, c2, c3] i j Wout D) D σ H) := by
  refine ⟨fun pins s σ H D I h => ?_⟩
  have ok := I.ok
  have hfr : X.A.frames = some (X.env :: X.outer) := by rw [ok.frames, hs]
  have hloc : Loc X.env.scope n := .inl hln
  refine wpAny_Try_except ?_
  refine wpAny_mono ((hb (wAd X.K [c1, c2, c3] i j Wout D) (X.pn ++ pins) (fun e s₁ => wpAny (model X.prog X.w) X.A (noteFrame e X.env) (fun _ s₂ => wpAny (model X.prog X.w) X.A (setFlight e none) (fun _ s₃ =>
    wpAny (model X.prog X.w) X.A (handleBy e X.env [.ExceptHandler (some (.Tuple [.Name x1 q1, .Name x2 q2, .Name x3 q3] kt qt)) (some n) [.Assign [.Name y py] (.Name n pn) pb] pos']) (SP X pins D) X.xe s₃) X.xe s₂) X.xe s₁) (fun u s' xx => ?_) PassesOwn.looking).run [] s σ H D (I.toTry _) h) (fun f s1 hsp => ?_) (fun e s1 he => he)
  · -- the catch
    obtain ⟨a, B, sI, pins', σ', H', cls, d, rfl, J', nb, up, sky, na, os, ag, b, hb1, hyes, hno⟩ := xx
    have J : Inv X pins σ' H' sI := J'.ofTry ok
    have sky' : Sky B (X.env :: X.outer) a (Zc cls d) X.env.locals s'.heap := by rw [← hs]; exact sky
    show wpAny (model X.prog X.w) X.A (noteFrame (.ref a) X.env) _ _ _
    refine Sky.land Zc.steady hfr hf sky' fun h3' fl3 up3 => ?_
    have notFr : ∀ {h : Heap} {o : Obj} {vs : Array Value}, h.FunFrames B (X.env :: X.outer) → h.get? a = some o → o.data = .fields vs → a ∉ frs (X.env :: X.outer) := fun {h o vs} ff e dd hm => by
      obtain ⟨_, o', e', hnf⟩ := ff.mem hm
      rw [e] at e'; cases e'
      exact hnf _ dd
    obtain ⟨oe3, vs3, he3, hz3, hd3⟩ := fl3.there
    have nfr := notFr fl3.2.2.1 he3 hd3
    have nL : a ≠ X.env.locals := fun z => nfr (List.mem_filterMap.mpr ⟨X.env, List.mem_cons_self, by rw [hf, z]⟩)
    have nF : a ∉ X.fs := fun hm => by
      obtain ⟨e, he, q⟩ := List.mem_filterMap.mp hm
      exact nfr (List.mem_filterMap.mpr ⟨e, List.mem_cons_of_mem _ he, q⟩)
    have hsI : sI.heap.get? a = none := by
      cases e : sI.heap.get? a with
      | none => rfl
      | some o =>
        have := nb a o e (by rw [hs]; exact nfr)
        rw [fl3.2.1] at this; cases this
    -- the classes are told
    let h4 := h3'.push { cls := .type "tuple", data := .seq [c1, c2, c3].toArray }
    have k4 : ∀ b o, h3'.get? b = some o → h4.get? b = some o := fun b o e => Heap.get?_push_of_some _ e
    have fl4 : HandSPX.FlyingZ B (X.env :: X.outer) a (Zc cls d) h4 := flying_up k4 fl3
    have up4 : h3'.UpToSlots h4 := Heap.UpToSlots.of_keeps k4
    have J3 : Inv X pins σ' H' { s' with heap := h3' } := J.landed nb fl3.1 (up.trans up3) os ag
    have J4 : Inv X pins σ' H' { s' with heap := h4 } := J.landed nb fl4.1 ((up.trans up3).trans up4) os ag
    have S3 := J3.suite he3 hd3 na nL nF
    refine wpAny_handleBy_cons (codeAny_handlers_test ?_) (by intro q; cases q)
    have LT : PySem.W.Looks (model X.prog X.w) h4 (typeOf (.ref a)) cls := fun A Q E s k q => wpAny_typeOf_ref (k _ _ (k4 _ _ he3)) (by rw [hz3.1]; exact q)
    have LM := PySem.W.exm_tup3 (M := model X.prog X.w) (J4.kIn) LT (Heap.get?_push_size h3' rfl) hb1
    have ld : ∀ {x : Str} {c : Value} {p : Pos} {Q : Value → Shared → Prop} {E : Value → Shared → Prop}, Names X x c → Q c { s' with heap := h3' } → wpAny (model X.prog X.w) (X.A.mark (some (.ref a))) (eval (.Name x p) X.env) Q E { s' with heap := h3' } := fun {x c p Q E} hc q => by
      obtain ⟨hg, hdbg, hm | ⟨hm, hv, hnn⟩⟩ := hc
      · exact ld_glob (X := X.suite a ((a, oe3) :: (X.pn ++ pins))) S3 hg hm q hdbg
      · exact ld_blt (X := X.suite a ((a, oe3) :: (X.pn ++ pins))) S3 hg hm hv q hnn hdbg
    refine wpAny_Tuple_spliced ?_
    show wpAny _ _ (spliced ((false, eval (.Name x1 q1) X.env) :: (false, eval (.Name x2 q2) X.env) :: (false, eval (.Name x3 q3) X.env) :: [])) _ _ _
    refine Calls.spliced_cons (ld h1 (Calls.spliced_cons (ld h2 (Calls.spliced_cons (ld h3 (Calls.spliced_nil ⟨by rw [sizeLine_eq]; show 3 ≤ _; decide, ?_⟩))))))
    refine LM.here (s := { s' with heap := h4 }) ?_
    cases b with
    | true =>
      refine codeAny_handlers_suite_as ?_
      refine HandSPX.lands_againZ fl4 fun h5 fl5 up5 => ?_
      have J5 : Inv X pins σ' H' { s' with heap := h5 } := J.landed nb fl5.1 (((up.trans up3).trans up4).trans up5) os ag
      obtain ⟨oe5, vs5, he5, hz5, hd5⟩ := fl5.there
      have S5 := J5.suite he5 hd5 na nL nF
      refine store_ok (X := X.suite a ((a, oe5) :: (X.pn ++ pins))) (v := .ref a) S5 hN hi hloc rfl (fun s6 S6 => ?_) (.inr hln)
      have run : PSs (X.suite a ((a, oe5) :: (X.pn ++ pins))) [.Assign [.Name y py] (.Name n pn) pb] (tAsg (tVar i) (gName j)) := pss_one (ps_set (X := X.suite a ((a, oe5) :: (X.pn ++ pins))) hN hj (.inl hly) (pe_var hi (.inl hln) hnd hncd) hsw (.inr hly))
      have hil : i < (σ'.set i (some (V.ref a))).length := by
        have := (List.getElem?_eq_some_iff.mp hi).1
        rw [List.length_set, J.len]; exact this
      have hvar : (σ'.set i (some (V.ref a)))[i]? = some (some (V.ref a)) := by rw [List.getElem?_set_self (by simpa using hil)]
      refine wpAny_mono (run.run [] s6 _ H' { nx := fun σ6 H6 => σ6 = (σ'.set i (some (.ref a))).set j (some (.ref a)) ∧ H6 = H', rt := fun _ _ => False } S6 ⟨V.ref a, hvar, rfl, rfl⟩) (fun f s7 hsp => ?_) (fun _ _ z => False.elim z)
      cases f with
      | next =>
        obtain ⟨σ6, H6, S7, rfl, rfl⟩ := hsp
        refine gone_ok (X := X.suite a ((a, oe5) :: (X.pn ++ pins))) S7 hN hi hln fun s8 S8 => ?_
        have J8 := S8.unsuite ok
        have he8 : s8.heap.get? a = some oe5 := (S8.pin (a, oe5) (List.mem_append_left _ (List.mem_cons_self ..))).1
        exact ⟨_, _, adopt (o := .frz oe5 (.own 0)) J8 J hsI hex na nL ⟨he8, ⟨_, he8⟩⟩, hyes rfl a oe5 na hz5 ⟨_, hd5⟩⟩
      | brk => obtain ⟨_, _, _, z⟩ := hsp; exact False.elim z
      | cont => obtain ⟨_, _, _, z⟩ := hsp; exact False.elim z
      | ret u => obtain ⟨_, _, _, _, _, z⟩ := hsp; exact False.elim z
    | false =>
      show wpAny _ X.A (handleBy (.ref a) X.env []) _ _ _
      refine wpAny_handleBy_nil ?_
      obtain ⟨k1, k2, k3, oe, vs, T, oT, ts', he, hz, hd, hh1, hr⟩ := id fl4
      unfold PySem.passOn
      refine wpAny_bind (wpAny_field he hd hh1 ?_)
      rw [if_neg (show ¬ ((Value.ref T == Value.none) = true) from by simp)]
      have fin : wpAny (model X.prog X.w) X.A (setFlight (.ref a) X.env.frame) (fun _ s4 => wpAny (model X.prog X.w) X.A (throw (.ref a) : Sem Flow) (SP X pins D) X.xe s4) X.xe { s' with heap := h4 } := by
        rw [hf]
        refine HandSPX.setFlight_upZ fl4 fun h5 hh5 up5 => wpAny_throw (tk _ _ ?_)
        exact ⟨a, B, sI, pins, σ', H', cls, d, rfl, J, nb, ((up.trans up3).trans up4).trans up5, .inr (.inr (by rw [hs]; exact hh5)), na, os, ag, hno rfl⟩
      first
        | exact wpAny_bind (wpAny_pure (wpAny_bind fin))
        | exact wpAny_bind fin
  · cases f with
    | next =>
      obtain ⟨σ', H', J', q⟩ := hsp
      exact wpAny_execs_nil ⟨σ', H', J'.ofTry ok, q⟩
    | brk =>
      obtain ⟨σ', H', J', q⟩ := hsp
      exact ⟨σ', H', J'.ofTry ok, q⟩
    | cont =>
      obtain ⟨σ', H', J', q⟩ := hsp
      exact ⟨σ', H', J'.ofTry ok, q⟩
    | ret u =>
      obtain ⟨v, σ', H', J', r, q⟩ := hsp
      exact ⟨v, σ', H', J'.ofTry ok, r, q⟩
end
/-! ### by data -/
/-- cm: which classes the clause takes; i: the clause's name, j: the name that keeps the error -/
def tryS (cm : Nat → Option Bool) (i j : Nat) (body : MS) : MS := fun env S => match body env S with
  | .ex (.exc c d) env1 S1 => match cm c with
    | some true => .nx (((env1.set i (some (.exc c d))).set j (some (.exc c d))).set i none) S1
    | some false => .ex (.exc c d) env1 S1
    | none => .bad
  | .ex _ _ _ => .bad
  | r => r
def CmOk (Γ : Gm) (cs : List Value) (cm : Nat → Option Bool) : Prop := ∀ c b, cm c = some b → PySem.W.exmAny Γ.K (.ref (Γ.cls c)) cs = some b
section
variable {Γ : Gm} {X : Cx} {x1 x2 x3 n y : Str} {c1 c2 c3 : Value} {i j : Nat} {body : List Stmt} {q1 q2 q3 qt pn py pb pos pos' : Pos} {kt : Nat} {Wout : WX} {m : MS} {cm : Nat → Option Bool}
theorem sd_try3 (hK : X.K = Γ.K) (hcm : CmOk Γ [c1, c2, c3] cm) (hs : X.stack = X.env :: X.outer) (hf : X.env.frame = some X.env.locals) (hex : X.ex = []) (hN : X.N.Nodup) (hi : X.N[i]? = some n) (hln : X.env.scope.names.lookup n = some .local) (hj : X.N[j]? = some y) (hly : X.env.scope.names.lookup y = some .local) (hij : i ≠ j)
    (h1 : Names X x1 c1) (h2 : Names X x2 c2) (h3 : Names X x3 c3) (tk : Takes X Wout) (hnd : (n == ("__debug__" : Str)) = false) (hncd : (n == ("__classdict__" : Str)) = false)
    (hsw : swapsWith (.Name n pn) (some (.Name y py)) pb.line X.env = pure false)
    (hb : ∀ (W : WX) (pn : List (Addr × Obj)) (xe : Value → Shared → Prop), Takes (X.tr pn xe) W → PassesOwn (model X.prog X.w) X.A X.env xe → PSs (X.tr pn xe) body (rdS Γ W m)) :
    PS X (.Try body [.ExceptHandler (some (.Tuple [.Name x1 q1, .Name x2 q2, .Name x3 q3] kt qt)) (some n) [.Assign [.Name y py] (.Name n pn) pb] pos'] [] [] pos) (rdS Γ Wout (tryS cm i j m)) :=
  (ps_try3 hs hf hex hN hi hln hj hly hij h1 h2 h3 tk hnd hncd hsw (tb := fun W => rdS Γ W m) hb).weak fun Z σ H h => by
    obtain ⟨env, S, μ, a, h⟩ := h
    refine ⟨env, S, μ, a, ?_⟩
    unfold tryS at h
    cases hm : m env S with
    | nx e S1 => rw [hm] at h; exact h
    | ret r S1 => rw [hm] at h; exact h
    | brk e S1 => rw [hm] at h; exact h
    | cnt e S1 => rw [hm] at h; exact h
    | bad => rw [hm] at h; exact h
    | ex x env1 S1 =>
      rw [hm] at h
      intro cls dx σ' H' μ' xe a' xa
      cases x with
      | exc c d =>
        obtain ⟨rfl, ad, v, rfl, st, rv⟩ := xa
        simp only at h
        split at h
        · rename_i hc
          refine ⟨true, by rw [hK]; exact hcm c true hc, fun _ b oe nb hz hfl => ?_, fun z => by cases z⟩
          have x2 : Ext Γ μ' H' μ' (upd H' b (.frz oe (.own 0))) := Ext.laid nb _
          have nob : μ'.no b := a'.sim.nnew nb
          have rx : Rep Γ (upd H' b (.frz oe (.own 0))) μ' (.ref b) (.exc c d) := .exc ⟨upd_same, nob⟩ hz.1 hz.2 hfl (x2.still st fun ps z => by cases z) (rv.ext x2)
          exact h _ _ μ' (xe.trans x2) ⟨(((a'.env.ext x2).set i rx).set j rx).drop i, a'.sim.laid nb _, x2.tabs a'.tabs⟩
        · rename_i hc
          exact ⟨false, by rw [hK]; exact hcm c false hc, fun z => Bool.noConfusion z, fun _ => h _ _ σ' H' μ' xe a' ⟨rfl, ad, v, rfl, st, rv⟩⟩
        · exact False.elim h
      | _ => exact False.elim xa
end
end Ev
/-! Ev18: errors that a name keeps: isinstance, their field. -/
namespace Ev
open PySem L2 PyProof.Rows
section
open PySem.W PySem.Spec PySem.Calls
variable {prog : Program} {w : World} {A : Around} {E : Value → Shared → Prop} {s : Shared} {K : Frag} {x D : Addr} {ox od : Obj}
theorem kin_classD {Q : Option Value → Shared → Prop} (C : ExcC K D) (X : K.In s.heap) (I : InstAt s.heap x ox D (some od)) (h : Q (some (.ref D)) { s with toks := s.toks + 1 }) : wpAny (model prog w) A (getAttr? (.ref x) "__class__") Q E s := by
  obtain ⟨hga, hgt, hsub, hdct, ha, hn, htk, hm⟩ := C
  have hf : findObj K D (some od) "__class__" = some (.bind (.builtin "getset_descriptor.__get__") (.builtin "object.__class__")) := findObj_data (by obtain ⟨cd, hc, _⟩ := any_some hdct; rw [hc]; rfl) ha hn htk
  obtain ⟨hp, g, d, t, os⟩ := s
  have L0 := I.type (M := model prog w)
  have L1 := looks_findIn (M := model prog w) X hga
  have L2 := looks_findIn (M := model prog w) X hgt
  have L3 := looks_find (M := model prog w) X I hf
  have sub : Looks (model prog w) hp (isInstance (.ref x) (.type "BaseException")) true := L0.andThen (looks_subIn X hsub)
  have hx0 : (false && onTheHeap (Value.builtin "BaseException.__getattribute__")) = false := rfl
  have hx2 : (Value.builtin "BaseException.__getattribute__" == Value.builtin "object.__getattribute__") = false := by decide +kernel
  have hx1 : (onTheHeap (Value.ref D) && Value.builtin "BaseException.__getattribute__" == Value.builtin "object.__getattribute__") = false := by rw [hx2]; rfl
  unfold getAttr? getAttrBy? getAttrBy
  refine wpAny_bind (wpAny_mkText (wpAny_bind (wpAny_attempt (wpAny_holding (wpAny_bind (L0.at (wpAny_bind (L1.at ?_))))))))
  show wpAny _ _ (if (onTheHeap (Value.ref D) && Value.builtin "BaseException.__getattribute__" == Value.builtin "object.__getattribute__") = true then _ else _) _ _ _
  rw [hx1, if_neg Bool.false_ne_true]
  unfold getAttrByItsOwn hookBefore
  refine wpAny_bind ?_
  rw [if_pos (show onTheHeap (Value.ref D) = true from rfl)]
  refine L2.at ?_
  refine wpAny_bind (wpAny_attempt (wpAny_holding ?_))
  unfold callGetattribute
  rw [hx0, if_neg Bool.false_ne_true]
  unfold boundAndCalled
  rw [PySem.F.excAttr_ValueError.ga.bind (.ref x)]
  refine wpAny_bind (wpAny_pure ?_)
  show wpAny _ _ (call (.builtin "BaseException.__getattribute__") [.ref x, .str "__class__" t]) _ _ _
  refine wpAny_call (codeAny_call_builtin PySem.F.excAttr_ValueError.ga.plain PySem.F.entry_bexc_ga ?_)
  refine @check_slot (model prog w) _ _ ⟨hp, g, d, t + 1, os⟩ "BaseException.__getattribute__" "BaseException" "__getattribute__" (.ref x) [.str "__class__" t] [] _ (by decide +kernel) (by decide +kernel) sub (PySem.F.args_bexc_ga (.ref x) (.str "__class__" t)) ?_
  unfold Builtin.«object.__getattribute__»
  refine wpAny_bind (wpAny_of_eq (a := ((Value.ref x : Value), [Value.str "__class__" t])) (by first | rfl | (simp only [slotArgs]; rfl)) ?_)
  refine wpAny_bind (wpAny_pure (wpAny_bind (L0.at (wpAny_bind (L3.at ?_)))))
  show wpAny _ _ (holding [Value.builtin "object.__class__"] (call (.builtin "getset_descriptor.__get__") [.builtin "object.__class__", .ref x, .ref D]) >>= ret) _ _ _
  refine wpAny_bind (wpAny_holding (wpAny_call (class_get (s := ⟨hp, g, d, t + 1, os⟩) (ox := ox) (od := some od) X I hm ?_)))
  refine wpAny_pure ?_
  show wpAny _ _ (handedOut (.ref D)) _ _ _
  rw [handedOut_of (v := .ref D) rfl]
  first
    | exact wpAny_pure (wpAny_pure h)
    | exact wpAny_pure h
    | exact wpAny_pure (wpAny_bind (wpAny_pure (wpAny_pure h)))
theorem kitx_excD (C : ExcC K D) : KitX K (.ref x) (.ref D) (fun h => InstAt h x ox D (some od)) where
  ty := fun _ _ _ I => I.type
  it := fun _ _ X _ => by
    obtain ⟨cdD, hcD, _⟩ := any_some C.hd
    unfold clsIn at hcD
    split at hcD
    · rename_i c' d' cd' sl' ho
      intro A' Q' E' s' k q
      unfold isType loadHead
      exact wpAny_bind (wpAny_loadPart (k _ _ (X _ _ ho)) (wpAny_pure q))
    · cases hcD
  ne := fun h tp dd its n sl X htp => by
    obtain ⟨cdD, hcD, _⟩ := any_some C.hd
    refine Bool.eq_false_iff.mpr fun q => ?_
    have e : D = tp := Value.ref.inj (beq_iff_eq.mp q)
    subst e
    unfold clsIn at hcD
    split at hcD
    · rename_i c' d' cd' sl' ho
      have z := (X _ _ ho).symm.trans htp
      cases z
    · cases hcD
  ca := fun X I k => kin_classD C X I k
end
/-- the error at a, its class at D, its dict at dx -/
def ErrAt (H : Hp) (a D dx : Addr) (fs : List (Str × V)) : Prop := ∃ (oe : Obj) (u : HO), H a = some (.frz oe u) ∧ oe.cls = .ref D ∧ oe.dict = some dx ∧ (∃ vs, oe.data = .fields vs) ∧ H dx = some (.xd fs)
theorem err_inst {X : Cx} {pins : List (Addr × Obj)} {σ : L2.St} {H : Hp} {s : Shared} {a D dx : Addr} {fs : List (Str × V)} (I : Inv X pins σ H s) (h : ErrAt H a D dx fs) : ∃ (oe od : Obj) (mA : Str → Option Value), PySem.W.InstAt s.heap a oe D (some od) ∧ (∀ f, RelO (fs.lookup f) (mA f)) ∧ ∀ n, PySem.W.lookIn n od = some (mA n) := by
  obtain ⟨oe, u, h1, h2, h3, ⟨vs, h4⟩, h5⟩ := h
  have hx : ObjOk X.prog X.w H s.heap dx (.xd fs) := I.hok dx _ h5
  obtain ⟨mA, hns, hr⟩ := hx
  have ha : s.heap.get? a = some oe := (show s.heap.get? a = some oe ∧ ObjOk X.prog X.w H s.heap a u from I.hok a _ h1).1
  obtain ⟨o, es, ep, e1, e2, e3, e4, e5⟩ := id hns
  have hl : ∀ n, PySem.W.lookIn n o = some (mA n) := fun n => by
    obtain ⟨od, ho, hl⟩ := lookIn_ns hns
    rw [e1] at ho
    cases ho
    exact hl n
  exact ⟨oe, o, mA, ⟨ha, h2, by unfold PySem.W.notCls; rw [h4] <;> rfl, by rw [h3]; exact e1⟩, hr, hl⟩
def rIsX (K : PySem.W.Frag) : List V → Hp → VK → Prop := fun xs H Q => ∃ (a D dx C : Addr) (fs : List (Str × V)) (b : Bool), xs = [.ref a, .ref C] ∧ ErrAt H a D dx fs ∧ ExcC K D ∧ PySem.W.kitOne K (.ref D) (.ref C) = some b ∧ Q (.bl b) H
theorem call_isX {X : Cx} : CallR X (.builtin "isinstance") (rIsX X.K) := by
  intro pins s σ H xs us Q I r h
  obtain ⟨a, D, dx, C, fs, b, rfl, he, hc, e, q⟩ := h
  obtain ⟨u1, u2, rfl, r1, r2⟩ := vals2 r
  cases (show u1 = Value.ref a from r1)
  cases (show u2 = Value.ref C from r2)
  obtain ⟨oe, od, mA, J, _, _⟩ := err_inst I he
  exact PySem.W.kia_one (kitx_excD hc) I.kIn J e (fun z => nomatch z) fun tk => ⟨.bl b, H, I.tok tk, rfl, q⟩
section
variable {Γ : Gm} {X : Cx} {W : WX} {pos : Pos}
theorem err_of {H : Hp} {μ : Mu} {v : V} {c : Nat} {d : D} (r : Rep Γ H μ v (.exc c d)) : ∃ a dx w, v = .ref a ∧ ErrAt H a (Γ.cls c) dx [(Γ.xf c, w)] ∧ Rep Γ H μ w d := by
  cases r with
  | exc h1 h2 h3 h4 h5 h6 => exact ⟨_, _, _, rfl, ⟨_, _, h1.1, h2, h3, h4, h5.1⟩, h6⟩
def isExD (ex : Nat → Option Bool) (_ : Store) : D → Option Bool
  | .exc c _ => ex c
  | _ => none
def ExOk (Γ : Gm) (C : Nat) (ex : Nat → Option Bool) : Prop := ∀ c b, ex c = some b → ExcC Γ.K (Γ.cls c) ∧ PySem.W.kitOne Γ.K (.ref (Γ.cls c)) (.ref (Γ.cls C)) = some b
theorem sd_isiX {x : Str} {C : Nat} {ex : Nat → Option Bool} {p p2 : Pos} {e : Expr} {f : ME} (hK : X.K = Γ.K) (ho : ExOk Γ C ex) (hg : Gl X "isinstance") (hm : X.mg "isinstance" = none) (he : PE X e (rdE Γ W f)) (hs : notStar e = true) (hgC : Gl X x) (hmC : X.mg x = some (.ref (Γ.cls C)))
    (hdb : (x == ("__debug__" : Str)) = false) : PE X (.Call (.Name "isinstance" p) [e, .Name x p2] [] pos) (rdE Γ W (isiF (isExD ex) f)) :=
  (pe_callB call_isX hg hm (by rfl) (pa_cons he (pa_cons (pe_glob (v := .ref (Γ.cls C)) hgC hmC rfl hdb) pa_nil rfl) (star_cons hs)) (by decide) (by decide) (star_cons hs) (by rfl)).weak fun σ H Q h => by
    obtain ⟨env, S, μ, a, h⟩ := h
    unfold isiF at h
    rw [R.sat_bind] at h
    refine rd_use a h fun r1 S1 v1 H1 μ1 x1 rv1 q1 => ?_
    obtain ⟨s1, p1⟩ := rv1.sim
    split at q1
    · rename_i b hb
      have fin : Q (.bl b) H1 := q1 _ H1 μ1 x1 ⟨s1, .bl b⟩
      rw [hK]
      generalize r1.d = dr at p1 hb
      cases dr with
      | exc c d =>
        obtain ⟨aa, dx, w, rfl, herr, _⟩ := err_of p1
        obtain ⟨k1, k2⟩ := ho c b hb
        exact ⟨aa, _, dx, _, _, b, rfl, herr, k1, k2, fin⟩
      | _ => cases hb
    · exact False.elim q1
/-! ### e.f -/
def tErr (K : PySem.W.Frag) (te : TE) (n : Str) : TE := fun σ H Q => te σ H fun x H1 => ∃ a D dx fs v, x = .ref a ∧ ErrAt H1 a D dx fs ∧ XfC K D ∧ PySem.W.findIn K (.ref D) n = some none ∧ fs.lookup n = some v ∧ Q v H1
theorem pe_err {e : Expr} {te : TE} {n : Str} (he : PE X e te) (hb : attributeBase e n X.env (eval e X.env) = eval e X.env) : PE X (.Attribute e n pos) (tErr X.K te n) := by
  refine ⟨fun pins s σ H Q I h => ?_⟩
  refine attr_of hb (thn (he.run pins s σ H _ I h) fun u s1 hh => ?_)
  obtain ⟨x, H1, I1, rx, a, D, dx, fs, v, ex, herr, T, hno, l, q⟩ := hh
  subst ex
  obtain rfl : u = Value.ref a := rx
  obtain ⟨oe, od, mA, J, hr, hl⟩ := err_inst I1 herr
  obtain ⟨u, hu, ru⟩ := RelO.some_of (v := v) (o := mA n) (by rw [← l]; exact hr n)
  exact HandSPX.exc_get I1.kIn J T.ga T.gg T.exC (PySem.W.findObj_own T.hdC hno rfl (by rw [hl, hu])) (handed_of ru) ⟨v, H1, I1.tok _, ru, q⟩
def errF (fx : Nat → Bool) (f : ME) : ME := fun env S => (f env S).bind fun r S1 => match r.d with | .exc c d => if fx c then .ok (.val d) S1 else .bad | _ => .bad
def FxOk (Γ : Gm) (n : Str) (fx : Nat → Bool) : Prop := ∀ c, fx c = true → XfC Γ.K (Γ.cls c) ∧ PySem.W.findIn Γ.K (.ref (Γ.cls c)) n = some none ∧ Γ.xf c = n
theorem sd_err {e : Expr} {n : Str} {f : ME} {fx : Nat → Bool} (hK : X.K = Γ.K) (hx : FxOk Γ n fx) (he : PE X e (rdE Γ W f)) (hb : attributeBase e n X.env (eval e X.env) = eval e X.env) : PE X (.Attribute e n pos) (rdE Γ W (errF fx f)) :=
  (pe_err he hb).weak fun σ H Q h => by
    obtain ⟨env, S, μ, a, h⟩ := h
    unfold errF at h
    rw [R.sat_bind] at h
    refine rd_use a h fun r1 S1 v1 H1 μ1 x1 rv1 q1 => ?_
    obtain ⟨s1, p1⟩ := rv1.sim
    generalize r1.d = dr at p1 q1
    cases dr with
    | exc c d =>
      simp only at q1
      split at q1
      · rename_i hc
        obtain ⟨k1, k2, k3⟩ := hx c hc
        obtain ⟨aa, dx, w, rfl, herr, rw'⟩ := err_of p1
        rw [hK]
        refine ⟨aa, _, dx, _, w, rfl, herr, k1, k2, ?_, q1 w H1 μ1 x1 ⟨s1, rw'⟩⟩
        rw [k3, List.lookup_cons]
        simp
      · exact False.elim q1
    | _ => exact False.elim q1
end
end Ev
/-! Ev19: a def that is given a lambda; after HandS.Lambda, with the guards known. -/
namespace Ev
open PySem L2 PyProof.Rows LamX PySem.Spec
section
variable {X : Cx} {pins : List (Addr × Obj)} {σ : L2.St} {H : Hp} {s : Shared}
theorem lam_make3 {T : List (Addr × Str)} {c P : Addr} {params : Arguments} {body : Expr} {scope : Scope} {pos : Pos} {E : Value → Shared → Prop} {Q : Value → Shared → Prop} (I : Inv X pins σ H s) (TB : TabB X.base X.mg c P) (hcode : X.env.code = .ref c)
    (hm : (P, X.env.qual ++ "<lambda>") ∈ T) (hu : ∀ p ∈ T, p.1 = P → p.2 = X.env.qual ++ "<lambda>") (hT : Tabs T H) (hdef : defaultsOf params X.env = ([], [])) (hfree : ∀ y ∈ scope.names, y.2 = .free → ∃ c, X.env.cells.lookup y.1 = some c)
    (h : ∀ (f c' : Addr) (pm ctv : Value) (H1 : Hp) (s' : Shared), Inv X pins σ H1 s' → ExtN H H1 → (∀ b o, H b = some o → ∃ o', H1 b = some o') → Tabs T H1 →
      s'.heap.get? f = some (PySem.W.kla_obj "<lambda>" (X.env.qual ++ "<lambda>") params body scope (cloFrom X.env.cells scope.names []) pm c' ctv) → H1 f = none → f ∉ frs X.stack → H1 c' = some (CodeO c' (X.env.qual ++ "<lambda>")) → Q (.ref f) s') :
    wpAny (model X.prog X.w) X.A (eval (.Lambda params body scope pos) X.env) Q E s := by
  obtain ⟨ps, hP, ht, ha⟩ := hT _ hm
  refine PySem.W.kla_eval hdef ?_
  have bP : s.heap.BuiltinsAt X.mg P := TB.bm.keeps I.bk
  have hP' : s.heap.get? P = some { cls := .none, data := .fields ps } := I.hok P _ hP
  have nofr : ∀ f, s.heap.objs.size ≤ f → f ∉ frs X.stack := fun f hf z => by
    rcases List.mem_cons.mp (I.stkSub _ z) with e | e
    · have h1 := I.lt
      rw [← e] at h1
      exact Nat.lt_irrefl _ (Nat.lt_of_lt_of_le h1 hf)
    · exact I.nofs hf e
  cases hc : codeAmong pos ps.toList with
  | none =>
    refine PySem.W.kla_makeFunction (mg := X.mg) (c := c) (P := P) (ps := ps) (closure_ok hfree) I.ok.glob (I.mod.glob.keeps I.bk) hcode (TB.code.keeps I.bk) hP' ht hc TB.gP bP fun c' ctv h' tk hx hge hlt hrec htb => ?_
    obtain ⟨c2, oc, vs, t, e2, hoc, hd, hv⟩ := hrec
    cases e2
    have hsz : s.heap.objs.size ≤ h'.objs.size := Nat.le_trans hge (Nat.le_of_lt hlt)
    have nC : H c' = none := I.hok.fresh hge
    have I1 := inv_table (t' := tk) (more := #[rawInt pos.line, rawInt pos.col, .ref c']) (h' := h'.push (PySem.W.kla_obj "<lambda>" (X.env.qual ++ "<lambda>") params body scope (cloFrom X.env.cells scope.names []) ((X.mg "__name__").getD .none) c' ctv)) I hP
      (fun b o hb e => Heap.get?_push_of_some _ (hx b o hb e)) (Heap.get?_push_of_some _ htb) hge ⟨oc, vs, t, Heap.get?_push_of_some _ hoc, hd, hv⟩
    have hE : ExtN H (upd (upd H P (.tbl (ps ++ #[rawInt pos.line, rawInt pos.col, .ref c']))) c' (CodeO c' (X.env.qual ++ "<lambda>"))) := fun b o e n => by
      rw [upd_ne (ne_of_none e nC), upd_ne (fun z => n ps (Option.some.inj (e.symm.trans (by rw [z]; exact hP))))]
      exact e
    have eL : (ps ++ #[rawInt pos.line, rawInt pos.col, .ref c']).toList = ps.toList ++ [rawInt pos.line, rawInt pos.col, .ref c'] := by simp
    refine h h'.objs.size c' ((X.mg "__name__").getD .none) ctv _ _ I1 hE (fun b o e => by
      by_cases hb : b = P
      · exact ⟨_, by rw [hb, upd_ne (ne_of_none hP nC), upd_same]⟩
      · exact ⟨o, by rw [upd_ne (ne_of_none e nC), upd_ne hb]; exact e⟩) (fun p hp => ?_) (Heap.get?_push_size _ rfl) ?_ (nofr _ hsz) upd_same
    · by_cases hb : p.1 = P
      · rw [hu p hp hb, hb]
        refine ⟨_, by rw [upd_ne (ne_of_none hP nC), upd_same], by rw [eL]; exact PySem.TriplesOk_snoc _ _ _ _ ht, fun p' cv hcv => ?_⟩
        rw [eL] at hcv
        rcases among_app _ ht hcv with z | z
        · obtain ⟨c0, e1, e2⟩ := ha p' cv z
          exact ⟨c0, e1, hE _ _ e2 codeO_ne⟩
        · exact ⟨c', z, upd_same⟩
      · obtain ⟨ps', a1, a2, a3⟩ := hT p hp
        refine ⟨ps', by rw [upd_ne (ne_of_none a1 nC), upd_ne hb]; exact a1, a2, fun p' cv hcv => ?_⟩
        obtain ⟨c0, e1, e2⟩ := a3 p' cv hcv
        exact ⟨c0, e1, hE _ _ e2 codeO_ne⟩
    · have n1 : h'.objs.size ≠ c' := Nat.ne_of_gt hlt
      have n2 : h'.objs.size ≠ P := Nat.ne_of_gt (Nat.lt_of_lt_of_le (Heap.lt_size hP') hsz)
      rw [upd_ne n1, upd_ne n2]
      exact I.hok.fresh hsz
  | some cv =>
    obtain ⟨c', e, hco⟩ := ha pos cv hc
    subst e
    refine PySem.W.kla_makeFunctionHit (mg := X.mg) (c := c) (P := P) (ps := ps) (closure_ok hfree) I.ok.glob (I.mod.glob.keeps I.bk) hcode (TB.code.keeps I.bk) hP' ht hc bP fun ctv h' tk hx hsz => ?_
    have I1 : Inv X pins σ H { s with heap := h'.push (PySem.W.kla_obj "<lambda>" (X.env.qual ++ "<lambda>") params body scope (cloFrom X.env.cells scope.names []) ((X.mg "__name__").getD .none) c' ctv), toks := tk } := I.kept fun b o e => Heap.get?_push_of_some _ (hx b o e)
    exact h h'.objs.size c' ((X.mg "__name__").getD .none) ctv H _ I1 (ExtN.refl H) (fun b o e => ⟨o, e⟩) hT (Heap.get?_push_size _ rfl) (I.hok.fresh hsz) (nofr _ hsz) hco
end
section
variable {X : Cx} {pins : List (Addr × Obj)} {σ : L2.St} {H HZ : Hp} {s s1 : Shared}
theorem pe_actG {CXg : CXT} {Eg : XK} {Ng : List Str} {qg : Str} {sg : Scope} {g f c' : Addr} {cdg pm ctv : Value} {params : Arguments} {body : Expr} {scope : Scope} {k i : Nat} {a : Str} {pn : List (Addr × Obj)} {xe : Value → Shared → Prop} {W : WX} {tb : XK → TE} {p1 p2 : Pos}
    (I : Inv X pins σ H s) (L : LamS X.env.scope scope) (hf : s.heap.get? f = some (PySem.W.kla_obj "<lambda>" (X.env.qual ++ "<lambda>") params body scope (cloFrom X.env.cells scope.names []) pm c' ctv)) (hfn : H f = none) (hfr : f ∉ frs X.stack)
    (hbind : bindArgs (PySem.W.kla_fn "<lambda>" (X.env.qual ++ "<lambda>") params body scope (cloFrom X.env.cells scope.names []) pm (.ref c') ctv) ⟨[], []⟩ = pure [])
    (tk : Takes ((cxOf CXg X.prog X.w X.K X.mg X.base Ng qg sg g cdg X.A X.stack s H Eg).tr pn xe) W) (hrG : RoomG (k + 1) (X.A.deeper (envOfC qg sg s.heap.objs.size g cdg)))
    (hbody : ∀ (E : XK) (A : Around) (outer : List Env) (s : Shared) (H : Hp), RoomG k (A.deeper (lamEnv X scope s.heap.objs.size f c')) → PE (lamCx X A outer s H E scope f c') body (tb E))
    (hN : Ng[i]? = some a) (hv : Vis sg a) (hd : (a == ("__debug__" : Str)) = false := by decide) (hcd : (a == ("__classdict__" : Str)) = false := by decide) :
    PE ((cxOf CXg X.prog X.w X.K X.mg X.base Ng qg sg g cdg X.A X.stack s H Eg).tr pn xe) (.Call (.Name a p1) [] [] p2)
      (fun σZ HZ Q => ∃ E : XK, (∀ cls d H', E cls d H' → W cls d σZ H') ∧ σZ[i]? = some (some (.ref f)) ∧ HZ c' = some (CodeO c' (X.env.qual ++ "<lambda>")) ∧ tb E σ HZ Q) := by
  have hr := hrG.room
  refine ⟨fun pinsZ sZ σZ HZ Q IZ h => ?_⟩
  obtain ⟨E, hW, hs, hc, ht⟩ := h
  refine wpAny_Call_Name_kw (thn ((pe_var (pos := p1) (i := i) hN hv hd hcd).run pinsZ sZ σZ HZ (fun v H1 => v = .ref f ∧ H1 = HZ) IZ ⟨.ref f, hs, rfl, rfl⟩) fun u s1 ⟨v, H1, I1, r1, q1⟩ => ?_)
  obtain ⟨ev, eH⟩ := q1
  subst ev
  rw [eH] at I1
  obtain rfl : u = Value.ref f := r1
  have of1 : s1.heap.get? f = some (PySem.W.kla_obj "<lambda>" (X.env.qual ++ "<lambda>") params body scope (cloFrom X.env.cells scope.names []) pm c' ctv) := I1.base.keep f _ hf hfn hfr (fun z => nomatch (show f ∈ ([] : List Addr) from z))
  refine PySem.W.callWith_F0 ⟨_, _, _, _, of1⟩ ?_
  have un : Un (frs X.stack) [] H HZ s.heap s1.heap := I1.base
  obtain ⟨⟨oc, vs, t, hoc, hdc, hvc⟩, _, _⟩ := I1.hok c' _ hc
  have rc : codeAny (model X.prog X.w) (X.A.deeper (envOfC qg sg s.heap.objs.size g cdg)) (.call (.ref f) ⟨[], []⟩) (CR (L2.CX X.prog X.w) (envOfC qg sg s.heap.objs.size g cdg :: X.stack) X.prog X.w HZ s1 Q E) s1 := by
    refine PySem.W.kla_callFunE hr.depth of1 rfl L.co L.gen rfl ⟨c', oc, vs, t, rfl, hoc, hdc, hvc⟩ ?_
    rw [hbind]
    refine wpAny_pure (wpAny_newFunctionEnv (fun y hy => (L.own y hy).2) (fun y hy => absurd hy (by simp)) (fun h₁ hns hsb => ⟨I1.nolimit.fresh _ hsb, ?_⟩) L.kind)
    show codeAny _ _ (.expr body (lamEnv X scope s1.heap.objs.size f c')) _ _
    have kp : ∀ b o, s1.heap.get? b = some o → h₁.get? b = some o := fun b o e => hsb.extBut b o (Nat.ne_of_lt (Heap.lt_size e)) (Heap.get?_push_of_some _ e)
    have J : Inv (lamCx X (X.A.deeper (envOfC qg sg s.heap.objs.size g cdg)) (envOfC qg sg s.heap.objs.size g cdg :: X.stack) s1 HZ E scope f c') [] σ HZ { s1 with heap := h₁, toks := s1.toks + ([] : List (Str × Value)).length } :=
      lam_start2 I L I1.env0 hr.hd un hns kp
    refine PySem.W.kla_codeExpr (wpAny_mono ((hbody E _ _ s1 HZ ⟨hr.deeper _, hrG.gd⟩).run [] _ _ HZ Q J ht) (fun v s' hq => ?_) fun e s' hq => hq)
    obtain ⟨w', H', J', rv, q⟩ := hq
    exact ⟨w', H', J'.os, J'.bare, J'.base, J'.hok, rv, q⟩
  refine wpAny_call (codeAny_mono rc fun r s' hq => ?_)
  cases r with
  | error e => exact tk e s' (XE.of_call I1 hW hq)
  | ok fl =>
    cases fl with
    | ret u => exact I1.after hq
    | next => exact False.elim hq
    | brk => exact False.elim hq
    | cont => exact False.elim hq
end
/-- the def that calls what it got, its wish told of the slots at the call -/
def GivesTo3 (X : Cx) (Ng : List Str) (x : Str) (sg : Scope) (g : Addr) (cdg : Value) (bg : List Stmt) (a : Str) (q : Str) (TT : (XK → Hp → VK → Prop) → Hp → VK → Prop) : Prop :=
  ∀ (f c' : Addr) (s : Shared) (H : Hp) (Q : VK) (tl : XK → Hp → VK → Prop),
    (∀ (W : WX) (pn : List (Addr × Obj)) (xe : Value → Shared → Prop) (p1 p2 : Pos), Takes ((cxOf C8.CX0 X.prog X.w X.K X.mg X.base Ng x sg g cdg X.A X.stack s H C8.E0).tr pn xe) W →
      PE ((cxOf C8.CX0 X.prog X.w X.K X.mg X.base Ng x sg g cdg X.A X.stack s H C8.E0).tr pn xe) (.Call (.Name a p1) [] [] p2) (fun σZ HZ Q => ∃ E : XK, (∀ cls d H', E cls d H' → W cls d σZ H') ∧ σZ[0]? = some (some (.ref f)) ∧ HZ c' = some (CodeO c' q) ∧ tl E HZ Q)) →
    H c' = some (CodeO c' q) → TT tl H Q →
    ∃ t, PSs (cxOf C8.CX0 X.prog X.w X.K X.mg X.base Ng x sg g cdg X.A X.stack s H C8.E0).nox bg t ∧ t { nx := fun _ H' => Q .non H', rt := Q } (L2.start Ng [.ref f]) H
def tLam3 (T : List (Addr × Str)) (TT : (XK → Hp → VK → Prop) → Hp → VK → Prop) (t : XK → TE) : TE := fun σ H Q => Tabs T H ∧ ∀ H1, ExtN H H1 → (∀ b o, H b = some o → ∃ o', H1 b = some o') → Tabs T H1 → TT (fun E H' Q' => t E σ H' Q') H1 Q
section
variable {X : Cx}
/-- x(lambda: body) -/
theorem pe_lamcallG {T : List (Addr × Str)} {TT : (XK → Hp → VK → Prop) → Hp → VK → Prop} {x a : Str} {g c P : Addr} {k : Nat} {pg : Arguments} {bg : List Stmt} {sg : Scope} {dV kV doc pm cdv ct oc : Value} {an od : Option Addr} {osl : Array (Option Value)} {Ng : List Str}
    {params : Arguments} {body : Expr} {scope : Scope} {t : XK → TE} {p lpos pos : Pos} (hg : Gl X x) (hm : X.mg x = some (.ref g)) (hk : PySem.W.keepIn X.K (.ref g) = true)
    (lk : X.K.lookup g = some ⟨oc, od, .func (PySem.W.fnOf x x pg bg sg dV kV doc pm an cdv ct), osl⟩) (hcg : PySem.W.codeIn X.K cdv x = true) (hb : L2.Binds X.K (PySem.W.fnOf x x pg bg sg dV kV doc pm an cdv ct) [a] []) (Sg : FnScope Ng [a] sg) (hNg : Ng[0]? = some a) (hva : Vis sg a)
    (hG : GivesTo3 X Ng x sg g cdv bg a (X.env.qual ++ "<lambda>") TT)
    (TB : TabB X.base X.mg c P) (hcode : X.env.code = .ref c) (hmT : (P, X.env.qual ++ "<lambda>") ∈ T) (hu : ∀ p ∈ T, p.1 = P → p.2 = X.env.qual ++ "<lambda>") (hrG : RoomG (k + 2) X.A) (L : LamS X.env.scope scope) (hdef : defaultsOf params X.env = ([], []))
    (hbind : ∀ (q : Str) (cl : List (Str × Addr)) (pm cv ctv : Value), bindArgs (PySem.W.kla_fn "<lambda>" q params body scope cl pm cv ctv) ⟨[], []⟩ = pure [])
    (hbody : ∀ (A : Around) (outer : List Env) (s : Shared) (H : Hp) (E : XK) (f c' : Addr), RoomG k (A.deeper (lamEnv X scope s.heap.objs.size f c')) → PE (lamCx X A outer s H E scope f c') body (t E))
    (hdb : (x == ("__debug__" : Str)) = false := by decide) (hd : (a == ("__debug__" : Str)) = false := by decide) (hcd : (a == ("__classdict__" : Str)) = false := by decide) :
    PE X (.Call (.Name x p) [.Lambda params body scope lpos] [] pos) (tLam3 T TT t) := by
  have hr := hrG.room
  refine ⟨fun pins s σ H Q I h => ?_⟩
  obtain ⟨hT, h⟩ := h
  refine wpAny_Call_Name_kw (ld_glob I hg hm ?_ hdb)
  refine PySem.W.callWith_K (h₀ := X.base) I.ok.mod.kin hk ?_ (by rfl) (by rfl)
  show wpAny _ _ (spliced ((false, eval (.Lambda params body scope lpos) X.env) :: backTo pos (starEach [] X.env))) _ _ s
  refine Calls.spliced_cons (lam_make3 I TB hcode hmT hu hT hdef (L.has I.ok) fun f c' pm' ctv H1 s' I1 eN eH T1 hf hfn hfr hco => ?_)
  refine Calls.spliced_nil ⟨I1.kIn, ?_⟩
  have rc : codeAny (model X.prog X.w) X.A (.call (.ref g) ⟨[.ref f], []⟩) (CR C8.CX0 X.stack X.prog X.w H1 s' Q C8.E0) s' := by
    refine run_ofS (N := Ng) (ps := [a]) (us := [.ref f]) (vs := [.ref f]) lk hcg Sg hr I1.env0 (hb s' [.ref f] I1.kIn rfl) (.cons rfl .nil) rfl fun hr' => ?_
    obtain ⟨t', ht', hq'⟩ := hG f c' s' H1 Q (fun E H' Q' => t E σ H' Q') (fun W pn xe p1 p2 tk => pe_actG (i := 0) (tb := t) I1 L hf hfn hfr (hbind _ _ _ _ _) tk ⟨hr', hrG.gd⟩ (fun E A outer s H hr2 => hbody A outer s H E f c' hr2) hNg hva hd hcd) hco (h H1 eN eH T1)
    exact ⟨t', ht'.nox, hq'⟩
  refine wpAny_call (codeAny_mono rc fun r s2 hq => ?_)
  cases r with
  | error e => exact (show False from hq).elim
  | ok fl =>
    cases fl with
    | ret u => exact I1.after hq
    | next => exact False.elim hq
    | brk => exact False.elim hq
    | cont => exact False.elim hq
end
end Ev
/-! Ev20: found, error = None, None / try: found = call() / except (A, B, C) as e: error = e / rest -/
namespace Ev
open PySem L2 PyProof.Rows LamX
abbrev W0 : WX := fun _ _ _ _ => False
/-- what told makes of the lambda's reading -/
def TTold3 (Γ : Gm) (cs : List Value) (m3 : MS) : (XK → Hp → VK → Prop) → Hp → VK → Prop := fun tl H Q =>
  ∀ f p, H p = none → tl (fun cls d H' => ∃ b, PySem.W.exmAny Γ.K cls cs = some b ∧ (b = true → ∀ a oe, H' a = none → Zc cls d oe → (∃ vs, oe.data = .fields vs) →
      rdS Γ W0 m3 { nx := fun _ H' => Q .non H', rt := Q } [some (.ref f), some .non, some (.ref a), none] (upd H' a (.frz oe (.own 0)))) ∧ (b = false → False)) (upd H p (.tup [.non, .non]))
    (fun v H' => rdS Γ W0 m3 { nx := fun _ H' => Q .non H', rt := Q } [some (.ref f), some v, some .non, none] H')
section
variable {Γ : Gm} {X : Cx}
theorem told_gives3 {x a fo er en x1 x2 x3 q : Str} {c1 c2 c3 : Value} {sg : Scope} {g : Addr} {cdg : Value} {rest : List Stmt} {m3 : MS} {k1 k2 k3 j1 j2 : Nat} {p1 p2 p3 p4 p5 p6 p7 p8 p9 p10 p11 p12 p13 p14 p15 p16 p17 p18 p19 p20 : Pos} (hK : X.K = Γ.K)
    (hN : [a, fo, er, en].Nodup) (hlf : sg.names.lookup fo = some .local) (hle : sg.names.lookup er = some .local) (hln : sg.names.lookup en = some .local) (hnd : (en == ("__debug__" : Str)) = false) (hncd : (en == ("__classdict__" : Str)) = false)
    (h1 : ∀ s H, Names (cxOf C8.CX0 X.prog X.w X.K X.mg X.base [a, fo, er, en] x sg g cdg X.A X.stack s H C8.E0).nox x1 c1) (h2 : ∀ s H, Names (cxOf C8.CX0 X.prog X.w X.K X.mg X.base [a, fo, er, en] x sg g cdg X.A X.stack s H C8.E0).nox x2 c2) (h3 : ∀ s H, Names (cxOf C8.CX0 X.prog X.w X.K X.mg X.base [a, fo, er, en] x sg g cdg X.A X.stack s H C8.E0).nox x3 c3)
    (hsw : ∀ env : Env, env.scope = sg → swapsWith (.Name en p13) (some (.Name er p14)) p15.line env = pure false) (hsw1 : ∀ env : Env, env.scope = sg → swapsWith (.Call (.Name a p7) [] [] p8) (some (.Name fo p9)) p10.line env = pure false)
    (hst : ∀ env : Env, env.scope = sg → swapsWithSole [.Tuple [.Name fo p1, .Name er p2] k1 p3] (.Tuple [.Constant .none j1 p4, .Constant .none j2 p5] k2 p6) p18.line env = pure false)
    (hsu : ∀ env : Env, env.scope = sg → swappedStores [.Tuple [.Name fo p1, .Name er p2] k1 p3] (.Tuple [.Constant .none j1 p4, .Constant .none j2 p5] k2 p6) env = pure none)
    (hrest : ∀ (s : Shared) (H : Hp), PSs (cxOf C8.CX0 X.prog X.w X.K X.mg X.base [a, fo, er, en] x sg g cdg X.A X.stack s H C8.E0).nox rest (rdS Γ W0 m3)) :
    GivesTo3 X [a, fo, er, en] x sg g cdg (.Assign [.Tuple [.Name fo p1, .Name er p2] k1 p3] (.Tuple [.Constant .none j1 p4, .Constant .none j2 p5] k2 p6) p18 ::
      .Try [.Assign [.Name fo p9] (.Call (.Name a p7) [] [] p8) p10] [.ExceptHandler (some (.Tuple [.Name x1 p11, .Name x2 p12, .Name x3 p16] k3 p17)) (some en) [.Assign [.Name er p14] (.Name en p13) p15] p19] [] [] p20 :: rest) a q (TTold3 Γ [c1, c2, c3] m3) := by
  intro f c' s H Q tl act hc h
  have hl0 : [a, fo, er, en][0]? = some a := rfl
  have hl1 : [a, fo, er, en][1]? = some fo := rfl
  have hl2 : [a, fo, er, en][2]? = some er := rfl
  have hl3 : [a, fo, er, en][3]? = some en := rfl
  let Z : Cx := (cxOf C8.CX0 X.prog X.w X.K X.mg X.base [a, fo, er, en] x sg g cdg X.A X.stack s H C8.E0).nox
  have t1 : PS Z (.Assign [.Tuple [.Name fo p1, .Name er p2] k1 p3] (.Tuple [.Constant .none j1 p4, .Constant .none j2 p5] k2 p6) p18) _ :=
    ps_asg (X := Z) (pe_tup (pa_cons pe_non (pa_cons pe_non pa_nil rfl) rfl)) (pg_tup (n := 2) rfl (pgs_cons (pg_name hN hl1 (.inl hlf) (.inr hlf)) (pgs_cons (pg_name hN hl2 (.inl hle) (.inr hle)) pgs_nil rfl) rfl) rfl rfl) (hst _ rfl) (hsu _ rfl) rfl
  have t2 : PS Z (.Try [.Assign [.Name fo p9] (.Call (.Name a p7) [] [] p8) p10] [.ExceptHandler (some (.Tuple [.Name x1 p11, .Name x2 p12, .Name x3 p16] k3 p17)) (some en) [.Assign [.Name er p14] (.Name en p13) p15] p19] [] [] p20) _ :=
    ps_try3 (X := Z) (i := 3) (j := 2) (Wout := W0) (tb := fun W D σ H => ∃ Ech : XK, (∀ cls d H', Ech cls d H' → W cls d σ H') ∧ σ[0]? = some (some (.ref f)) ∧ H c' = some (CodeO c' q) ∧ tl Ech H (fun v H1 => D.nx (σ.set 1 (some v)) H1)) rfl rfl rfl hN hl3 hln hl2 hle (by decide)
      (h1 s H) (h2 s H) (h3 s H) L2.takes0 hnd hncd (hsw _ rfl) fun W pn xe tk _ => ⟨fun pins s' σ H' D I h' => by
        obtain ⟨Ech, hW, g1, g2, g3⟩ := h'
        have hp := act W pn xe p7 p8 tk
        have hq := pss_one (ps_set (X := (cxOf C8.CX0 X.prog X.w X.K X.mg X.base [a, fo, er, en] x sg g cdg X.A X.stack s H C8.E0).tr pn xe) (pos' := p9) (pos := p10) hN hl1 (.inl hlf) hp (hsw1 _ rfl) (.inr hlf))
        exact hq.run pins s' σ H' D I ⟨Ech, hW, g1, g2, g3⟩⟩
  refine ⟨_, pss_cons t1 (pss_cons t2 (hrest s H)), ?_⟩
  -- the reading holds
  refine ⟨by rw [sizeLine_eq]; show 2 ≤ _; decide, fun p hp => ?_⟩
  have hcp : c' ≠ p := ne_of_none hc hp
  refine ⟨p, [.non, .non], rfl, ?_, rfl, ?_⟩
  · exact .of upd_same
  refine ⟨.non, [.non], rfl, .non, [], rfl, rfl, ?_⟩
  refine ⟨fun cls d H' => ∃ b, PySem.W.exmAny Γ.K cls [c1, c2, c3] = some b ∧ (b = true → ∀ a oe, H' a = none → Zc cls d oe → (∃ vs, oe.data = .fields vs) →
      rdS Γ W0 m3 { nx := fun _ H' => Q .non H', rt := Q } [some (.ref f), some .non, some (.ref a), none] (upd H' a (.frz oe (.own 0)))) ∧ (b = false → False), ?_, rfl, by rw [upd_ne hcp]; exact hc, ?_⟩
  · intro cls d H' ⟨b, e1, e2, e3⟩
    refine ⟨b, by show PySem.W.exmAny X.K cls _ = _; rw [hK]; exact e1, fun hb a' oe n1 z1 f1 => ?_, fun hb => e3 hb⟩
    exact e2 hb a' oe n1 z1 f1
  · exact h f p hp
end
/-! ### by data -/
def retOf : RS → R RV
  | .ret r S => .ok r S
  | .nx _ S => .ok (.val .non) S
  | _ => .bad
def toldF (cm : Nat → Option Bool) (m3 : MS) (fL : ME) : ME := fun env S => match fL env S with
  | .ok r S1 => retOf (m3 [none, some r.d, some .non, none] S1)
  | .ex (.exc c d) S1 => match cm c with
    | some true => retOf (m3 [none, some .non, some (.exc c d), none] S1)
    | _ => .bad
  | _ => .bad
section
variable {Γ : Gm} {W : WX}
theorem ext_lam {H H1 : Hp} {μ : Mu} {S : Store} (s : Sim Γ μ H S) (e : ExtN H H1) (h : ∀ b o, H b = some o → ∃ o', H1 b = some o') (t : Tabs Γ.T H1) : Ext Γ μ H μ H1 ∧ Sim Γ μ H1 S := by
  have x : Ext Γ μ H μ H1 := ⟨⟨[], by simp⟩, rfl, fun b o q _ n => e b o q n, h, fun b h1 h2 => absurd h1 h2, fun _ => t⟩
  refine ⟨x, s.len, s.nd, fun n a ob h1 h2 => (s.ats n a ob h1 h2).ext x fun o q => e a o q fun ps z => ?_, s.apart, fun b hb => ?_⟩
  · exact (mut_tbl (s.ats n a ob h1 h2)).2.1 ps (by rw [q, z])
  · obtain ⟨o, q⟩ := s.hth b hb
    exact h b o q
theorem sat_ret {Z : Ends} {μ : Mu} {H : Hp} {r : RS} {Q : RV → Store → Prop} {E : D → Store → Prop} (h : (retOf r).sat Q E) (hn : ∀ e S, Q (.val .non) S → (spost Γ W0 Z μ H).nx e S) (hr : ∀ v S, Q v S → (spost Γ W0 Z μ H).rt v S) : r.sat (spost Γ W0 Z μ H) := by
  cases r with
  | nx e S => exact hn e S h
  | ret v S => exact hr v S h
  | _ => exact False.elim h
theorem rd_told {cm : Nat → Option Bool} {cs : List Value} {m3 : MS} {fL : ME} {σ : L2.St} {H : Hp} {Q : VK} (hcm : CmOk Γ cs cm) (h : rdE Γ W (toldF cm m3 fL) σ H Q) :
    tLam3 Γ.T (TTold3 Γ cs m3) (fun E => rdE Γ (fun cls d _ H' => E cls d H') fL) σ H Q := by
  obtain ⟨env, S, μ, a, h⟩ := h
  refine ⟨a.tabs, fun H1 eN eH t1 f p hp => ?_⟩
  obtain ⟨x1, s1⟩ := ext_lam a.sim eN eH t1
  have x2 : Ext Γ μ H1 μ (upd H1 p (.tup [.non, .non])) := Ext.laid hp _
  have a2 : At Γ σ (upd H1 p (.tup [.non, .non])) env S μ := (a.next x1 s1).next x2 (s1.laid hp _)
  have x12 := x1.trans x2
  -- the rest, from a state behind
  have fin : ∀ {es : EnvD} {ss : L2.St} {H' : Hp} {μ' : Mu} {S1 : Store}, Ext Γ μ H μ' H' → At Γ ss H' es S1 μ' → (retOf (m3 es S1)).sat (Post Γ μ H Q) (XPost Γ W σ μ H) → rdS Γ W0 m3 { nx := fun _ H' => Q .non H', rt := Q } ss H' := fun {es ss H' μ' S1} xe at_ q =>
    ⟨es, S1, μ', at_, sat_ret q (fun e S3 q3 σ3 H3 μ3 x3 a3 => q3 _ H3 μ3 (xe.trans x3) ⟨a3.sim, .non⟩) fun v S3 q3 w H3 μ3 x3 rv => q3 w H3 μ3 (xe.trans x3) (rv.ext0 xe.back)⟩
  refine ⟨env, S, μ, a2, ?_⟩
  unfold toldF at h
  cases hf : fL env S with
  | bad => rw [hf] at h; exact False.elim h
  | ok r S1 =>
    rw [hf] at h
    intro v H' μ' x3 rv
    have x := x12.trans x3
    refine fin x ⟨⟨rfl, fun i d e => ?_⟩, rv.sim.1, x.tabs a.tabs⟩ h
    match i, e with
    | 0, e => cases e
    | 1, e => cases e; exact ⟨v, rfl, rv.sim.2⟩
    | 2, e => cases e; exact ⟨.non, rfl, .non⟩
    | 3, e => cases e
  | ex y S1 =>
    rw [hf] at h
    intro cls dx H' μ' x3 s3 xa
    have x := x12.trans x3
    cases y with
    | exc c d =>
      obtain ⟨rfl, ad, v, rfl, st, rv⟩ := xa
      simp only at h
      split at h
      · rename_i hc
        refine ⟨true, hcm c true hc, fun _ b oe nb hz hfl => ?_, fun z => Bool.noConfusion z⟩
        have x4 : Ext Γ μ' H' μ' (upd H' b (.frz oe (.own 0))) := Ext.laid nb _
        have rx : Rep Γ (upd H' b (.frz oe (.own 0))) μ' (.ref b) (.exc c d) := .exc ⟨upd_same, s3.nnew nb⟩ hz.1 hz.2 hfl (x4.still st fun ps z => by cases z) (rv.ext x4)
        refine fin (x.trans x4) ⟨⟨rfl, fun i d e => ?_⟩, s3.laid nb _, (x.trans x4).tabs a.tabs⟩ h
        match i, e with
        | 0, e => cases e
        | 1, e => cases e; exact ⟨.non, rfl, .non⟩
        | 2, e => cases e; exact ⟨_, rfl, rx⟩
        | 3, e => cases e
      · exact False.elim h
    | _ => exact False.elim xa
end
end Ev
/-! Ev21: == != - [] of one's own classes. -/
namespace Ev
open PySem L2 PyProof.Rows
section
open PySem.W PySem.Spec PySem.Calls
variable {prog : Program} {w : World} {A : Around} {E : Value → Shared → Prop} {s : Shared} {K : Frag} {x C L f : Addr} {h₀ : Heap} {m : Str → Option Value} {ox : Obj} {od : Option Obj} {b tb : Value}
/-- != by one's own __eq__ and object's __ne__ -/
theorem ne_K {Q : Value → Shared → Prop} (hu : A.units + 1 < cLine) (F : Fr h₀ L s.heap m) (X₀ : K.In h₀) (I : InstAt s.heap x ox C od) (hb : Looks (model prog w) s.heap (typeOf b) tb) (hn : notFirst K C tb = true)
    (hs : findIn K (.ref C) "__ne__" = some (some (.builtin "object.__ne__"))) (he : findIn K (.ref C) "__eq__" = some (some (.ref f))) (hf : isFn K (.ref f) = true) (hm : mroIn K C (.type "object") = some true)
    (h : wpAny (model prog w) A.in1 (call (.ref f) [.ref x, b]) (fun v s' => ∃ k, v = .bool k ∧ Q (.bool (!k)) s') E s) : wpAny (model prog w) A (richCompare .NotEq (.ref x) b) Q E s := by
  have X := X₀.keeps F.keep
  have SB := PySem.F.cmp_object
  have tree : wpAny (model prog w) A.in1 (Builtin.«object.__ne__» ⟨[.ref x, b], []⟩) (fun fin s' => match fin with | .done (.ret v) => Q v s' ∧ v ≠ .notImplemented | _ => False) E s := by
    unfold Builtin.«object.__ne__»
    refine wpAny_bind (m := slotArgs "__ne__" 1 _) (wpAny_pure ?_)
    refine wpAny_bind (m := cRoomFor _ _) (wpAny_cRoomFor (by show A.units + 1 < cLine; exact hu) ?_)
    refine wpAny_bind (m := callSpecialIfBound? (.ref x) (Str.ofString "__eq__") [b]) (ifBound_K X I he hf (wpAny_mono h (fun v s' hv => ?_) fun _ _ e => e))
    obtain ⟨k, rfl, hq⟩ := hv
    refine wpAny_bind (m := truthy (.bool k)) (wpAny_truthy_bool ?_)
    exact wpAny_pure ⟨hq, fun z => nomatch z⟩
  have one : wpAny (model prog w) A (tryCompare (.ref x) "__ne__" b) (fun r s' => ∃ v, r = some v ∧ Q v s') E s := by
    unfold tryCompare
    have isO : Looks (model prog w) s.heap (isInstance (.ref x) (.type "object")) true := I.type.andThen (looks_mroIn X hm)
    have call_ : wpAny (model prog w) A (call (.builtin "object.__ne__") [.ref x, b]) (fun v s' => Q v s' ∧ v ≠ .notImplemented) E s := by
      refine wpAny_call (codeAny_call_builtin SB.ne.plain PySem.F.cmpEntry_ne (check_slot PySem.F.cmpKind_ne PySem.F.cmpSplit_ne isO (PySem.F.cmpArgs_ne _ _) (wpAny_mono tree (fun fin s' hfin => ?_) fun _ _ e => e)))
      cases fin with
      | done fl =>
        cases fl with
        | ret v => exact hfin
        | _ => exact hfin.elim
      | again c => exact hfin.elim
    refine wpAny_bind ?_
    simp only [callSpecialIfBound?, bindSpecialIfBound?]
    refine wpAny_holding (wpAny_bind (wpAny_bind (wpAny_bind (I.type.here ((looks_findIn X hs).here ?_)))))
    have fin : wpAny (model prog w) A (call (.builtin "object.__ne__") ([.ref x] ++ [b]) >>= fun v => pure (some v)) (fun r s' => ∃ v, r = some v ∧ Q v s' ∧ v ≠ .notImplemented) E s := wpAny_bind (wpAny_mono call_ (fun v s' h' => wpAny_pure ⟨v, rfl, h'⟩) fun _ _ h' => h')
    have back : ∀ (r : Option Value) (s' : Shared), (∃ v, r = some v ∧ Q v s' ∧ v ≠ .notImplemented) → wpAny (model prog w) A (match r with | some .notImplemented | none => pure none | some r => pure (some r)) (fun r s' => ∃ v, r = some v ∧ Q v s') E s' := fun r s' ⟨v, hr, hq, hv⟩ => by
      subst hr
      cases v <;> first | exact absurd rfl hv | exact wpAny_pure ⟨_, rfl, hq⟩
    have hbd := SB.ne.bind (.ref x)
    refine wpAny_bind (wpAny_askSetting (wpAny_ite ?_))
    rw [hbd]
    split
    · exact wpAny_bind (wpAny_pure (wpAny_pure (wpAny_mono fin (fun r s' hr => back r s' hr) fun _ _ z => z)))
    · exact wpAny_tryCatch (wpAny_bind (wpAny_pure (wpAny_pure (wpAny_mono fin (fun r s' hr => back r s' hr) fun _ _ z => z))))
  unfold richCompare
  simp only [oneThing_ref]
  refine wpAny_holding (wpAny_bind (wpAny_cRoomFor (Nat.lt_of_succ_lt hu) ?_))
  refine wpAny_bind (I.type.here (wpAny_bind (hb.here ?_)))
  split
  · rename_i q
    have e : subIn K tb (.ref C) = some false := by
      rcases Bool.or_eq_true_iff.mp hn with e | e
      · rw [beq_iff_eq.mp e] at q; simp at q
      · exact beq_iff_eq.mp e
    refine wpAny_bind ((looks_subIn X e).here ?_)
    simp only [Bool.false_eq_true, if_false]
    refine wpAny_bind (wpAny_mono one (fun r s' z => ?_) fun _ _ e => e)
    obtain ⟨v, rfl, hq⟩ := z
    exact wpAny_pure hq
  · refine wpAny_bind (wpAny_pure ?_)
    simp only [Bool.false_eq_true, if_false]
    refine wpAny_bind (wpAny_mono one (fun r s' z => ?_) fun _ _ e => e)
    obtain ⟨v, rfl, hq⟩ := z
    exact wpAny_pure hq
end
end Ev
/-! Ev22: == != - [] of one's own classes, by data. -/
namespace Ev
open PySem L2 PyProof.Rows
/-- what the other operand's type must say -/
def TyY (K : PySem.W.Frag) (C : Addr) (H : Hp) (y : V) : Prop := (∃ T, TyX K H y (.type T) ∧ PySem.W.notFirst K C (.type T) = true) ∨ ∃ b C' dx vs, y = .ref b ∧ SlX.Slt H b C' dx vs ∧ PySem.W.notFirst K C (.ref C') = true
section
variable {X : Cx} {pins : List (Addr × Obj)} {σ : L2.St} {H : Hp} {s : Shared} {C : Addr} {y : V} {u : Value}
theorem tyY_looks (I : Inv X pins σ H s) (r : RelV y u) (h : TyY X.K C H y) : ∃ tb, PySem.W.Looks (model X.prog X.w) s.heap (typeOf u) tb ∧ PySem.W.notFirst X.K C tb = true := by
  rcases h with ⟨T, ty, hn⟩ | ⟨b, C', dx, vs, rfl, hs, hn⟩
  · obtain ⟨P, Z, p, _⟩ := kit_of I r ty
    exact ⟨_, Z.ty _ _ I.kIn p, hn⟩
  · cases r
    obtain ⟨sl, od, _, J, _⟩ := SlX.slt_inst I hs
    exact ⟨_, J.type, hn⟩
end
abbrev E00 : XK := fun _ _ _ => False
section
variable {X : Cx} {CX : CXT} {k : Nat} {C g : Addr} {fd : FuncData} {ps : List Str} {sp : Sp}
theorem pass00 {σ : L2.St} (h : ∀ (outer : List Env) (H : Hp) (s : Shared) (e : Value) (s' : Shared), CX outer H s E00 e s' → False) : PassesAt CX X σ E00 := fun _ _ _ e s' _ c => (h _ _ _ e s' c).elim
theorem cx_none {P : Program} {w : World} (outer : List Env) (H : Hp) (s : Shared) (e : Value) (s' : Shared) (h : L2.CX P w outer H s E00 e s') : False := by
  obtain ⟨_, _, _, _, _, _, _, _, _, _, _, _, z⟩ := h
  exact z
/-- x == y -/
def rOwn1 (K : PySem.W.Frag) (C : Addr) (sp : Sp) : R2 := fun x y H Q => ∃ a dx vs, x = .ref a ∧ SlX.Slt H a C dx vs ∧ TyY K C H y ∧ sp [x, y] H Q E00
theorem op_own1 {op : CmpOp} (hop : ∀ a b, compareOp op a b = richCompare op a b) (hs : PySem.W.findIn X.K (.ref C) (cmpInfo op).2.1 = some (some (.ref g))) (hf : PySem.W.isFn X.K (.ref g) = true) (F : FnG X.prog X.w X.K X.mg X.base (L2.CX X.prog X.w) k g fd ps sp)
    (hr : RoomG k X.A) (hb : Binds X.K fd ps []) : OpR X (compareOp op) (rOwn1 X.K C sp) := by
  intro pins s σ H x y v u Q I rx ry h
  obtain ⟨a, dx, vs, rfl, ha, ty, q⟩ := h
  cases (show v = Value.ref a from rx)
  obtain ⟨sl, od, _, J, _⟩ := SlX.slt_inst I ha
  obtain ⟨tb, hl, hn⟩ := tyY_looks I ry ty
  obtain ⟨m, hF⟩ := I.fr
  rw [hop]
  refine PySem.W.cmp_K (op := op) (tb := tb) hr.room.units0 hF I.ok.mod.kin J hl hn hs hf ?_
  refine wpAny_mono (wpAny_call (run_fnG (E := fun _ => E00) (us := [.ref a, u]) (vs := [.ref a, y]) F hr hb .nil (pass00 cx_none) I (.cons rfl (.cons ry .nil)) q)) (fun w s' z => ?_) fun _ _ x => x
  obtain ⟨z', H', I', rz, qz⟩ := z
  exact SlX.cmpback rz ⟨z', H', I', rz, qz⟩
/-- x != y -/
def rOwnN (K : PySem.W.Frag) (C : Addr) (sp : Sp) : R2 := fun x y H Q => ∃ a dx vs, x = .ref a ∧ SlX.Slt H a C dx vs ∧ TyY K C H y ∧ sp [x, y] H (fun z H' => ∃ b, z = .bl b ∧ Q (.bl (!b)) H') E00
theorem RoomG.in1 {k : Nat} {A : Around} (r : RoomG (k + 1) A) : RoomG k A.in1 := ⟨r.room.in1, r.gd⟩
theorem run_atG {pins : List (Addr × Obj)} {σ : L2.St} {H : Hp} {s : Shared} {A : Around} {Q : VK} {us : List Value} {ws : List V} (F : FnG X.prog X.w X.K X.mg X.base (L2.CX X.prog X.w) k g fd ps sp) (hr : RoomG k A) (hb : Binds X.K fd ps []) (e0 : Env0 X.prog X.w X.K X.mg X.base A X.stack s H) (I : Inv X pins σ H s) (r : Vals ws us) (h : sp ws H Q E00) :
    codeAny (model X.prog X.w) A (.call (.ref g) ⟨us, []⟩) (fun r s' => match r with | .ok (.ret v) => EP X pins σ Q v s' | .ok _ => False | .error e => X.xe e s') s := by
  have hl : (us ++ []).length = ps.length := by rw [List.append_nil, ← r.length]; exact F.len _ _ _ _ h
  have hbt := hb s us I.kIn hl
  rw [List.append_nil] at hbt
  refine codeAny_mono (F.run A X.stack s H ⟨us, []⟩ us ws Q E00 hr e0 hbt r h) fun r s' hq => ?_
  cases r with
  | error e => exact (cx_none _ _ _ _ _ hq).elim
  | ok fl =>
    cases fl with
    | ret u => exact I.after hq
    | next => exact False.elim hq
    | brk => exact False.elim hq
    | cont => exact False.elim hq
theorem op_ownN (hs : PySem.W.findIn X.K (.ref C) "__ne__" = some (some (.builtin "object.__ne__"))) (he : PySem.W.findIn X.K (.ref C) "__eq__" = some (some (.ref g))) (hf : PySem.W.isFn X.K (.ref g) = true) (hm : PySem.W.mroIn X.K C (.type "object") = some true)
    (F : FnG X.prog X.w X.K X.mg X.base (L2.CX X.prog X.w) k g fd ps sp) (hr : RoomG (k + 1) X.A) (hb : Binds X.K fd ps []) : OpR X (compareOp .NotEq) (rOwnN X.K C sp) := by
  intro pins s σ H x y v u Q I rx ry h
  obtain ⟨a, dx, vs, rfl, ha, ty, q⟩ := h
  cases (show v = Value.ref a from rx)
  obtain ⟨sl, od, _, J, _⟩ := SlX.slt_inst I ha
  obtain ⟨tb, hl, hn⟩ := tyY_looks I ry ty
  obtain ⟨m, hF⟩ := I.fr
  show wpAny _ _ (richCompare .NotEq _ _) _ _ _
  refine ne_K (tb := tb) (by have := hr.room.un; omega) hF I.ok.mod.kin J hl hn hs he hf hm ?_
  refine wpAny_mono (wpAny_call (run_atG (us := [.ref a, u]) (ws := [.ref a, y]) F hr.in1 hb I.env0.in1 I (.cons rfl (.cons ry .nil)) q)) (fun w s' z => ?_) fun _ _ x => x
  obtain ⟨z', H', I', rz, b, rfl, qz⟩ := z
  cases (show w = Value.bool b from rz)
  exact ⟨b, rfl, .bl (!b), H', I', rfl, qz⟩
/-- x - y, both of the class -/
def rOwnB (C : Addr) (sp : Sp) : R2 := fun x y H Q => ∃ a dx vs b dy ws, x = .ref a ∧ SlX.Slt H a C dx vs ∧ y = .ref b ∧ SlX.Slt H b C dy ws ∧ sp [x, y] H Q E00
theorem op_ownB {op : Operator} (hc : PySem.W.selfFirst X.K C = true) (hs : PySem.W.findIn X.K (.ref C) (PySem.dunder op.info.2) = some (some (.ref g))) (hf : PySem.W.isFn X.K (.ref g) = true)
    (F : FnG X.prog X.w X.K X.mg X.base (L2.CX X.prog X.w) k g fd ps sp) (hr : RoomG k X.A) (hb : Binds X.K fd ps []) : OpR X (binaryOp op) (rOwnB C sp) := by
  intro pins s σ H x y v u Q I rx ry h
  obtain ⟨a, dx, vs, b, dy, ws, rfl, ha, rfl, hb2, q⟩ := h
  cases (show v = Value.ref a from rx)
  cases (show u = Value.ref b from ry)
  obtain ⟨sl, od, _, J, _⟩ := SlX.slt_inst I ha
  obtain ⟨sl', od', _, J', _⟩ := SlX.slt_inst I hb2
  obtain ⟨m, hF⟩ := I.fr
  refine PySem.W.binop_K hF I.ok.mod.kin J J'.type hc hs hf ?_
  refine wpAny_mono (wpAny_call (run_fnG (E := fun _ => E00) (us := [.ref a, .ref b]) (vs := [.ref a, .ref b]) F hr hb .nil (pass00 cx_none) I (.cons rfl (.cons rfl .nil)) q)) (fun w s' z => ?_) fun _ _ x => x
  obtain ⟨z', H', I', rz, qz⟩ := z
  exact SlX.cmpback rz ⟨z', H', I', rz, qz⟩
/-- x[y] -/
def tOwnIx (C : Addr) (sp : Sp) (E : L2.St → XK) (ta tb : TE) : TE := fun σ H Q => ta σ H fun x H1 => tb σ H1 fun y H2 => ∃ a dx vs, x = .ref a ∧ SlX.Slt H2 a C dx vs ∧ sp [x, y] H2 Q (E σ)
theorem pe_ownIx {a b : Expr} {ta tb : TE} {pos : Pos} {E : L2.St → XK} (hs : PySem.W.findIn X.K (.ref C) "__getitem__" = some (some (.ref g))) (hf : PySem.W.fnIn X.K g = true) (hfn : PySem.W.isFn X.K (.ref g) = true) (F : FnG X.prog X.w X.K X.mg X.base (L2.CX X.prog X.w) k g fd ps sp) (hr : RoomG (k + 1) X.A) (hb : Binds X.K fd ps [])
    (hx : ∀ σ, PassesAt (L2.CX X.prog X.w) X σ (E σ)) (ha : PE X a ta) (hbb : PE X b tb) (hsl : ∀ (x : Addr) (i : Value), subscripted b true (.ref x) i = runValue (.builtin "lifetime.subscript" ⟨[.ref x, i], []⟩)) : PE X (.Subscript a b pos) (tOwnIx C sp E ta tb) := by
  refine ⟨fun pins s σ H Q I h => ?_⟩
  refine Subscript_ (thn (ha.run pins s σ H _ I h) fun v s1 ⟨x, H1, I1, rx, q1⟩ => thn (hbb.run pins s1 σ H1 _ I1 q1) fun u s2 ⟨y, H2, I2, ry, a', dx, vs, ex, hsl', q⟩ => ?_)
  subst ex
  cases (show v = Value.ref a' from rx)
  obtain ⟨sl, od, _, J, _⟩ := SlX.slt_inst I2 hsl'
  obtain ⟨m, hF⟩ := I2.fr
  refine PySem.W.sub_K hF I2.ok.mod.kin J hs hf hfn ?_ (hsl _ _)
  have hl : ([Value.ref a', u] ++ []).length = ps.length := by
    have := F.len _ _ _ _ q
    simpa using this
  have hbt := hb s2 [.ref a', u] I2.kIn hl
  rw [List.append_nil] at hbt
  refine wpAny_call (codeAny_mono (F.run X.A.in1 X.stack s2 H2 ⟨[.ref a', u], []⟩ [.ref a', u] [.ref a', y] Q (E σ) hr.in1 I2.env0.in1 hbt (.cons rfl (.cons ry .nil)) q) fun r s' hq => ?_)
  cases r with
  | error e => exact hx σ pins H2 s2 e s' I2 hq
  | ok fl =>
    cases fl with
    | ret u => exact I2.after hq
    | next => exact False.elim hq
    | brk => exact False.elim hq
    | cont => exact False.elim hq
end
end Ev
/-! Ev23: own operators by data; written tuples and dicts; dict displays. -/
namespace Ev
open PySem L2 PyProof.Rows
section
variable {Γ : Gm} {X : Cx} {W : WX} {pos : Pos}
/-! ### nothing is told of what is not reached -/
def badF : ME := fun _ _ => .bad
def badS : MS := fun _ _ => .bad
theorem sd_badE {e : Expr} : PE X e (rdE Γ W badF) := ⟨fun pins s σ H Q I h => by
  obtain ⟨env, S, μ, a, h⟩ := h
  exact False.elim h⟩
theorem sd_badS {st : Stmt} : PS X st (rdS Γ W badS) := ⟨fun pins s σ H D I h => by
  obtain ⟨env, S, μ, a, h⟩ := h
  exact False.elim h⟩
/-! ### operators that run a def -/
def opRF (op : Store → D → D → R RV) (f g : ME) : ME := fun env S => (f env S).bind fun x S1 => (g env S1).bind fun y S2 => noEx (op S2 x.d y.d)
def OpDR (Γ : Gm) (op : Store → D → D → R RV) (r : R2) : Prop := ∀ (H : Hp) (μ : Mu) (S : Store) (x y : V) (dx dy : D) (Q : VK), Sim Γ μ H S → LamX.Tabs Γ.T H → Rep Γ H μ x dx → Rep Γ H μ y dy → (op S dx dy).sat (Post Γ μ H Q) (fun _ _ => False) → r x y H Q
theorem rd_twoR {op : Store → D → D → R RV} {f g : ME} {r : R2} (hr : OpDR Γ op r) {σ : L2.St} {H : Hp} {Q : VK} (h : rdE Γ W (opRF op f g) σ H Q) : tOp r (rdE Γ W f) (rdE Γ W g) σ H Q := by
  obtain ⟨env, S, μ, a, h⟩ := h
  unfold opRF at h
  rw [R.sat_bind] at h
  refine rd_use a (R.sat_imp h (fun r S' q => q) fun x S' q => q) fun r1 S1 v1 H1 μ1 x1 rv1 q1 => ?_
  obtain ⟨s1, p1⟩ := rv1.sim
  rw [R.sat_bind] at q1
  refine rd_use (a.next x1 s1) (R.sat_imp q1 (fun r S' q => q) fun x S' q => q.ext x1) fun r2 S2 v2 H2 μ2 x2 rv2 q2 => ?_
  obtain ⟨s2, p2⟩ := rv2.sim
  exact hr H2 μ2 S2 v1 v2 _ _ Q s2 ((x1.trans x2).tabs a.tabs) (p1.ext x2) p2 (R.sat_imp (R.sat_noEx q2) (fun z S3 q => Post.ext (x1.trans x2) q) fun _ _ z => z)
theorem sd_opR {op : Operator} {a b : Expr} {f g : ME} {r : R2} {o : Store → D → D → R RV} (ho : OpR X (binaryOp op) r) (hr : OpDR Γ o r) (ha : PE X a (rdE Γ W f)) (hb : PE X b (rdE Γ W g)) : PE X (.BinOp a op b pos) (rdE Γ W (opRF o f g)) :=
  (pe_op ho ha hb).weak fun σ H Q h => rd_twoR hr h
theorem sd_cmpO {op : CmpOp} {a b : Expr} {f g : ME} {r : R2} {o : Store → D → D → R RV} (ho : OpR X (compareOp op) r) (hr : OpDR Γ o r) (ha : PE X a (rdE Γ W f)) (hb : PE X b (rdE Γ W g)) (hm : behindInMarks op b = false) : PE X (.Compare a [op] [b] pos) (rdE Γ W (opRF o f g)) :=
  (pe_cmpR ho ha hb hm).weak fun σ H Q h => rd_twoR hr h
theorem sd_cmpOT {op : CmpOp} {a b : Expr} {f g : ME} {r : R2} {o : Store → D → D → R RV} (ho : OpR X (compareOp op) r) (hr : OpDR Γ o r) (ha : PE X a (rdE Γ W f)) (hb : PE X b (rdE Γ W g)) (hm : behindInMarks op b = false) : PT X (.Compare a [op] [b] pos) (rdT Γ W (testF (opRF o f g))) :=
  (pt_cmpR ho ha hb hm).weak fun σ H Q h => rd_test (fun Q' h' => rd_twoR hr h') h
def okY (cs : List Nat) (S : Store) (d : D) : Bool := match clsOf S d with | some c => decide (c ∈ cs) | none => (tyOf S d).isSome
structure OwnY (Γ : Gm) (cs : List Nat) (c : Nat) : Prop where
  ty : ∀ T ∈ bTys, PySem.W.notFirst Γ.K (Γ.cls c) (.type T) = true
  own : ∀ d ∈ cs, PySem.W.notFirst Γ.K (Γ.cls c) (.ref (Γ.cls d)) = true
theorem okY_ok {cs : List Nat} {c : Nat} {H : Hp} {μ : Mu} {S : Store} {v : V} {d : D} (o : OwnY Γ cs c) (s : Sim Γ μ H S) (r : Rep Γ H μ v d) (h : okY cs S d = true) : TyY Γ.K (Γ.cls c) H v := by
  unfold okY at h
  split at h
  · rename_i c' hc
    obtain ⟨b, dx, vs, rfl, hs⟩ := slt_of s r hc
    exact .inr ⟨b, _, dx, vs, rfl, hs, o.own c' (of_decide_eq_true h)⟩
  · obtain ⟨t, ht⟩ := Option.isSome_iff_exists.mp h
    exact .inl ⟨t, tyOf_ok s r ht, o.ty t (tyOf_mem ht)⟩
def own1D (g : Cfg) (c i : Nat) (cs : List Nat) (S : Store) (x y : D) : R RV := if isC c S x && okY cs S y then noEx (g.call i [x, y] S) else .bad
def ownND (g : Cfg) (c i : Nat) (cs : List Nat) (S : Store) (x y : D) : R RV := if isC c S x && okY cs S y then (noEx (g.call i [x, y] S)).bind fun r S1 => match r with | .val (.bl b) => .ok (.val (.bl (!b))) S1 | _ => .bad else .bad
def ownBD (g : Cfg) (c i : Nat) (S : Store) (x y : D) : R RV := if isC c S x && isC c S y then noEx (g.call i [x, y] S) else .bad
theorem spD_two {f : List D → Store → R RV} {H : Hp} {μ : Mu} {S : Store} {x y : V} {dx dy : D} {Q : VK} (s : Sim Γ μ H S) (t : LamX.Tabs Γ.T H) (rx : Rep Γ H μ x dx) (ry : Rep Γ H μ y dy) (h : (f [dx, dy] S).sat (Post Γ μ H Q) (fun _ _ => False)) : spD Γ f 2 [x, y] H Q E00 :=
  ⟨rfl, _, S, μ, s, t, .cons rx (.cons ry .nil), R.sat_imp h (fun _ _ q => q) fun _ _ z => z.elim⟩
theorem own1_ok {g : Cfg} {c i : Nat} {cs : List Nat} (o : OwnY Γ cs c) : OpDR Γ (own1D g c i cs) (rOwn1 Γ.K (Γ.cls c) (spD Γ (g.call i) 2)) := by
  intro H μ S x y dx dy Q s t rx ry h
  unfold own1D at h
  split at h
  · rename_i hc
    obtain ⟨h1, h2⟩ := Bool.and_eq_true_iff.mp hc
    obtain ⟨a, dd, vs, rfl, hs⟩ := slt_of s rx (beq_iff_eq.mp h1)
    exact ⟨a, dd, vs, rfl, hs, okY_ok o s ry h2, spD_two s t rx ry (R.sat_noEx h)⟩
  · exact False.elim h
theorem ownN_ok {g : Cfg} {c i : Nat} {cs : List Nat} (o : OwnY Γ cs c) : OpDR Γ (ownND g c i cs) (rOwnN Γ.K (Γ.cls c) (spD Γ (g.call i) 2)) := by
  intro H μ S x y dx dy Q s t rx ry h
  unfold ownND at h
  split at h
  · rename_i hc
    obtain ⟨h1, h2⟩ := Bool.and_eq_true_iff.mp hc
    obtain ⟨a, dd, vs, rfl, hs⟩ := slt_of s rx (beq_iff_eq.mp h1)
    rw [R.sat_bind] at h
    refine ⟨a, dd, vs, rfl, hs, okY_ok o s ry h2, spD_two s t rx ry (R.sat_imp (R.sat_noEx (E' := fun _ _ => False) h) (fun r S1 q => ?_) fun _ _ z => z)⟩
    intro v H' μ' x rv
    split at q
    · rename_i b
      obtain ⟨s', rv'⟩ := rv
      cases rv'
      exact ⟨b, rfl, q _ H' μ' x ⟨s', .bl _⟩⟩
    · exact False.elim q
  · exact False.elim h
theorem ownB_ok {g : Cfg} {c i : Nat} : OpDR Γ (ownBD g c i) (rOwnB (Γ.cls c) (spD Γ (g.call i) 2)) := by
  intro H μ S x y dx dy Q s t rx ry h
  unfold ownBD at h
  split at h
  · rename_i hc
    obtain ⟨h1, h2⟩ := Bool.and_eq_true_iff.mp hc
    obtain ⟨a, dd, vs, rfl, hs⟩ := slt_of s rx (beq_iff_eq.mp h1)
    obtain ⟨b, de, ws, rfl, hs2⟩ := slt_of s ry (beq_iff_eq.mp h2)
    exact ⟨a, dd, vs, b, de, ws, rfl, hs, rfl, hs2, spD_two s t rx ry (R.sat_noEx h)⟩
  · exact False.elim h
/-- a[b] by one's own __getitem__ -/
def ixOF (c i : Nat) (g : Cfg) (fa fb : ME) : ME := fun env S => (fa env S).bind fun x S1 => (fb env S1).bind fun y S2 => if isC c S2 x.d then g.call i [x.d, y.d] S2 else .bad
theorem sd_ixO {c i k : Nat} {g : Cfg} {f : Addr} {fd : FuncData} {ps : List Str} {a b : Expr} {fa fb : ME} (hK : X.K = Γ.K) (tk : Takes X W) (hs : PySem.W.findIn X.K (.ref (Γ.cls c)) "__getitem__" = some (some (.ref f))) (hf : PySem.W.fnIn X.K f = true) (hfn : PySem.W.isFn X.K (.ref f) = true)
    (F : FnG X.prog X.w X.K X.mg X.base (L2.CX X.prog X.w) k f fd ps (spD Γ (g.call i) 2)) (hr : RoomG (k + 1) X.A) (hb : Binds X.K fd ps []) (ha : PE X a (rdE Γ W fa)) (hbb : PE X b (rdE Γ W fb)) (hsl : ∀ (x : Addr) (i : Value), subscripted b true (.ref x) i = runValue (.builtin "lifetime.subscript" ⟨[.ref x, i], []⟩)) :
    PE X (.Subscript a b pos) (rdE Γ W (ixOF c i g fa fb)) :=
  (pe_ownIx hs hf hfn F hr hb (fun σ => passAt tk σ) ha hbb hsl).weak fun σ H Q h => by
    obtain ⟨env, S, μ, a, h⟩ := h
    unfold ixOF at h
    rw [R.sat_bind] at h
    refine rd_use a (R.sat_imp h (fun r S' q => q) fun x S' q => q) fun r1 S1 v1 H1 μ1 x1 rv1 q1 => ?_
    obtain ⟨s1, p1⟩ := rv1.sim
    rw [R.sat_bind] at q1
    refine rd_use (a.next x1 s1) (R.sat_imp q1 (fun r S' q => q) fun x S' q => q.ext x1) fun r2 S2 v2 H2 μ2 x2 rv2 q2 => ?_
    obtain ⟨s2, p2⟩ := rv2.sim
    have p1' := p1.ext x2
    split at q2
    · rename_i hc
      obtain ⟨aa, dd, vs, rfl, hs⟩ := slt_of s2 p1' (beq_iff_eq.mp hc)
      exact ⟨aa, dd, vs, rfl, hs, rfl, _, S2, μ2, s2, (x1.trans x2).tabs a.tabs, .cons p1' (.cons p2 .nil), R.sat_imp q2 (fun r S3 p => Post.ext (x1.trans x2) p) fun y S3 p => fun cls dx H3 μ3 x3 s3 xa => p cls dx H3 μ3 ((x1.trans x2).trans x3) s3 xa⟩
    · exact False.elim q2
/-! ### written tuples, written dicts with text keys -/
/-- the global x is a written thing that bears d -/
theorem sd_glb {x : Str} {u : Addr} {d : D} (hg : Gl X x) (hm : X.mg x = some (.ref u)) (hdb : (x == ("__debug__" : Str)) = false) (r : ∀ H μ, Rep Γ H μ (.ref u) d) : PE X (.Name x pos) (rdE Γ W (conF d)) := sd_con (pe_glob (v := .ref u) hg hm rfl hdb) r
theorem sd_glbS {x z : Str} {t : Tok} (hg : Gl X x) (hm : X.mg x = some (.str z t)) (hdb : (x == ("__debug__" : Str)) = false) : PE X (.Name x pos) (rdE Γ W (conF (.str z))) := sd_con (pe_glob (v := .str z) hg hm ⟨t, rfl⟩ hdb) fun _ _ => .str z
theorem sd_glbI {x : Str} {z : Int} {t : Tok} (hg : Gl X x) (hm : X.mg x = some (.int z t)) (hdb : (x == ("__debug__" : Str)) = false) : PE X (.Name x pos) (rdE Γ W (conF (.int z))) := sd_con (pe_glob (v := .int z) hg hm ⟨t, rfl⟩ hdb) fun _ _ => .int z
/-- D[e], D a written dict; kd tells what stands at a text -/
def kdF (kd : Str → Option D) (f : ME) : ME := fun env S => (f env S).bind fun r S1 => match r.d with | .str z => (match kd z with | some d => .ok (.val d) S1 | none => .bad) | _ => .bad
def KdOk (Γ : Gm) (u : Addr) (kd : Str → Option D) : Prop := ∀ z d, kd z = some d → ∃ (v : V) (w : Value), PySem.W.nsIn Γ.K u z = some (some w) ∧ RelV v w ∧ ∀ H μ, Rep Γ H μ v d
theorem ix_kd {d : Addr} {es : Array DictEntry} {n : Nat} (D : KDict X.K X.w d es n) : IxR X (fun x y H Q => ∃ (z : Str) (u0 : Value) (v0 : V), x = .ref d ∧ y = .str z ∧ PySem.W.nsIn X.K d z = some (some u0) ∧ RelV v0 u0 ∧ Q v0 H) := by
  intro value slice pins s σ H x y v u Q I rx ry h hs
  obtain ⟨z, u0, v0, rfl, rfl, e, r, q⟩ := h
  cases (show v = Value.ref d from rx)
  exact PyProof.Rows.tail_any (kd_type D I) PySem.F.slot_dict_getitem.lookup (op_item_kd D pins s σ H (.ref d) (.str z) (.ref d) u Q I rfl ry ⟨z, u0, v0, rfl, rfl, e, r, q⟩) hs
theorem sd_kd {x : Str} {u : Addr} {es : Array DictEntry} {n : Nat} {kd : Str → Option D} {p : Pos} {e : Expr} {f : ME} (hK : X.K = Γ.K) (hg : Gl X x) (hm : X.mg x = some (.ref u)) (hdb : (x == ("__debug__" : Str)) = false) (hd : KDict X.K X.w u es n) (hk : KdOk Γ u kd) (he : PE X e (rdE Γ W f)) (hs : plainIx e = true) :
    PE X (.Subscript (.Name x p) e pos) (rdE Γ W (kdF kd f)) :=
  (pe_ix (ix_kd hd) (pe_glob (v := .ref u) hg hm rfl hdb) he (plainIx_ok hs)).weak fun σ H Q h => by
    show rdE Γ W f σ H _
    obtain ⟨env, S, μ, a, h⟩ := h
    unfold kdF at h
    rw [R.sat_bind] at h
    refine rd_use a h fun r1 S1 v1 H1 μ1 x1 rv1 q1 => ?_
    obtain ⟨s1, p1⟩ := rv1.sim
    generalize r1.d = dr at p1 q1
    cases dr with
    | str z =>
      cases p1
      simp only at q1
      split at q1
      · rename_i d hd2
        obtain ⟨v, w, k1, k2, k3⟩ := hk z d hd2
        exact ⟨z, w, v, rfl, rfl, by rw [hK]; exact k1, k2, q1 v H1 μ1 x1 ⟨s1, k3 H1 μ1⟩⟩
      · exact False.elim q1
    | _ => exact False.elim q1
end
end Ev
/-! Ev24: zip over two or three lists and tuples that stand. -/
namespace Ev
open PySem L2 PyProof.Rows
theorem valsBack : ∀ {vs : List V} {us : List Value} {i : Nat} {u : Value}, Vals vs us → us[i]? = some u → ∃ v, vs[i]? = some v ∧ RelV v u
  | _, _, _, _, .nil, e => by simp at e
  | _, _, 0, _, .cons r _, e => by simp at e; subst e; exact ⟨_, rfl, r⟩
  | _, _, i + 1, u, .cons _ t, e => by
    obtain ⟨v, h1, h2⟩ := valsBack (i := i) (u := u) t (by simpa using e)
    exact ⟨v, by simpa using h1, h2⟩
def SqA (K : PySem.W.Frag) (k : Bool) (H : Hp) (a : Addr) (xs : List V) : Prop := match k with | false => SqL K H a xs | true => SqT K H a xs
def SeqAt (k : Bool) (h : Heap) (a : Addr) (its : Array Value) : Prop := match k with | false => h.IsList a its | true => h.IsTuple a its
def SeqIt (k : Bool) (h : Heap) (it a : Addr) (i : Nat) : Prop := match k with | false => h.IsListIter it a i | true => h.IsTupleIter it a i
def seqO (k : Bool) (a : Addr) : Obj := match k with | false => { cls := .type "list_iterator", data := .fields #[.ref a, .int 0 0] } | true => { cls := .type "tuple_iterator", data := .fields #[.ref a, .int 0 0] }
theorem draws_A {prog : Program} {w : World} {A : Around} (k : Bool) (hh : A.handled = none) (it a : Addr) (hne : a ≠ it) (items : Array Value) :
    Draws prog w A it [it, a] items.size (fun i v => items[i]? = some v) (fun i h => SeqIt k h it a i ∧ SeqAt k h a items) := by
  cases k
  · exact Draws.list hh it a hne items
  · exact Draws.tuple hh it a hne items
theorem begins_A (k : Bool) (a : Addr) (items : Array Value) : Begins (.ref a) (seqO k a) fun h => SeqAt k h a items := by
  cases k
  · exact begins_list a items
  · exact begins_tuple a items
theorem seqIt_0 {k : Bool} {h : Heap} {it a : Addr} (e : h.get? it = some (seqO k a)) : SeqIt k h it a 0 := by
  cases k
  · exact ⟨_, e, rfl, rfl⟩
  · exact ⟨_, e, rfl, rfl⟩
theorem seqIt_obj {k : Bool} {h : Heap} {it a : Addr} {i : Nat} (e : SeqIt k h it a i) : ∃ o, h.get? it = some o ∧ ∀ v, o.data ≠ .cell v := by
  cases k
  · obtain ⟨o, e1, _, d⟩ := e; exact ⟨o, e1, fun v q => by rw [d] at q; cases q⟩
  · obtain ⟨o, e1, _, d⟩ := e; exact ⟨o, e1, fun v q => by rw [d] at q; cases q⟩
theorem seqIt_at {k : Bool} {h h' : Heap} {it a : Addr} {i : Nat} (e : SeqIt k h it a i) (q : ∀ o, h.get? it = some o → h'.get? it = some o) : SeqIt k h' it a i := by
  cases k
  · exact Heap.IsListIter.at e q
  · exact Heap.IsTupleIter.at e q
theorem inv_A {X : Cx} {pins : List (Addr × Obj)} {σ : L2.St} {H : Hp} {s : Shared} {k : Bool} {a : Addr} {xs : List V} (I : Inv X pins σ H s) (h : SqA X.K k H a xs) : ∃ its : List Value, Vals xs its ∧ SeqAt k s.heap a its.toArray ∧ a < s.heap.objs.size := by
  cases k
  · obtain ⟨its, r, p, _⟩ := I.list h
    exact ⟨its, r, p.isList, p.lt⟩
  · obtain ⟨its, r, p, _⟩ := I.tuple h
    obtain ⟨o, ho, _⟩ := id p
    exact ⟨its, r, p, Heap.lt_size ho⟩
/-! ### 2 -/
def ItZ2 (K : PySem.W.Frag) (k1 k2 : Bool) (a1 a2 : Addr) (xs1 xs2 : List V) : It :=
  ⟨fun i H => (SqA K k1 H a1 xs1 ∧ SqA K k2 H a2 xs2) ∧ i < xs1.length ∧ i < xs2.length,
    fun i H v H' => ∃ T y1 y2, v = .ref T ∧ H T = none ∧ H' = upd H T (.tup [y1, y2]) ∧ xs1[i]? = some y1 ∧ xs2[i]? = some y2,
    fun i H => (SqA K k1 H a1 xs1 ∧ SqA K k2 H a2 xs2) ∧ i = min xs1.length xs2.length⟩
theorem turn_Z2 {P : Program} {w : World} {K : PySem.W.Frag} {elts : List Expr} {kk : Nat} {tpos : Pos} {k1 k2 : Bool} {a1 a2 z TI TO i1 i2 : Addr} {xs1 xs2 : List V} (S : ZipSep2 z TI TO i1 i2 [i1, a1] [i2, a2]) (n1 : a1 ≠ i1) (n2 : a2 ≠ i2) :
    Turn P w K (.Tuple elts kk tpos) (ItZ2 K k1 k2 a1 a2 xs1 xs2) [z, TI, TO, i1, i2] z (fun i h => IsZip h z TI TO .none ∧ IsTupOf2 h TI (.ref i1) (.ref i2) ∧ (∃ b1 b2, IsTupOf2 h TO b1 b2) ∧ SeqIt k1 h i1 a1 i ∧ SeqIt k2 h i2 a2 i) where
  mem := by simp
  obj := fun i h st c hc => by
    obtain ⟨hz, hTI, ⟨b1, b2, hTO⟩, h1, h2⟩ := st
    have e' : c = z ∨ c = TI ∨ c = TO ∨ c = i1 ∨ c = i2 := by simpa using hc
    rcases e' with q | q | q | q | q
    · rw [q]; exact ⟨_, hz, fun v q => nomatch q⟩
    · rw [q]; exact ⟨_, hTI, fun v q => nomatch q⟩
    · rw [q]; exact ⟨_, hTO, fun v q => nomatch q⟩
    · rw [q]; exact seqIt_obj h1
    · rw [q]; exact seqIt_obj h2
  keep := fun i h h' st k => by
    obtain ⟨hz, hTI, ⟨b1, b2, hTO⟩, h1, h2⟩ := st
    exact ⟨k z (by simp) _ hz, k TI (by simp) _ hTI, ⟨b1, b2, k TO (by simp) _ hTO⟩, seqIt_at h1 fun o q => k i1 (by simp) o q, seqIt_at h2 fun o q => k i2 (by simp) o q⟩
  item := by
    intro X hP hw hK hc i pins s σ H E I hf st hg
    subst hP hw hK
    obtain ⟨hz, hTI, ⟨b1, b2, hTO⟩, h1, h2⟩ := st
    obtain ⟨⟨g1, g2⟩, l1, l2⟩ := hg
    obtain ⟨its1, rv1, p1, _⟩ := inv_A I g1
    have e1 := rv1.length
    obtain ⟨its2, rv2, p2, _⟩ := inv_A I g2
    have e2 := rv2.length
    have hzl : z < s.heap.objs.size := Heap.lt_size hz
    have hh : X.A.in1.handled = none := I.ok.hd hc
    refine wpAny_pyNext_zipD2_item S (draws_A k1 hh i1 a1 n1 its1.toArray) (draws_A k2 hh i2 a2 n2 its2.toArray) hz hTI hTO ⟨h1, p1⟩ ⟨h2, p2⟩ (by simp; omega) (by simp; omega) fun u1 u2 h' tk m1 m2 z' TO' h1' h2' hT hsz hk => ?_
    refine ⟨_, rfl, wpAny_letOwnedTupleGo_zip (s := { s with heap := h', toks := tk }) z' fun h'' z'' sb => ?_⟩
    have hT2 : h''.get? s.heap.objs.size = some { cls := .type "tuple", data := .seq #[u1, u2] } := (sb.2 _ (Nat.ne_of_gt hzl)).trans hT
    have t1 : its1[i]? = some u1 := by rw [← Array.getElem?_toList] at m1; exact m1
    obtain ⟨y1, hy1, ry1⟩ := valsBack rv1 t1
    have t2 : its2[i]? = some u2 := by rw [← Array.getElem?_toList] at m2; exact m2
    obtain ⟨y2, hy2, ry2⟩ := valsBack rv2 t2
    have new : ObjOk X.prog X.w (upd H s.heap.objs.size (.tup [y1, y2])) h'' s.heap.objs.size (.tup [y1, y2]) :=
      ⟨by show 2 ≤ sizeLine; decide, [u1, u2], .cons ry1 (.cons ry2 .nil), ⟨_, hT2, rfl, _, rfl⟩⟩
    have I1 : Inv X pins σ (upd H s.heap.objs.size (.tup [y1, y2])) { s with heap := h'', toks := tk } :=
      I.turnedNew (t' := tk) (ch := [z, TI, TO, i1, i2]) (fun c o hb q => (sb.2 c (fun q' => hb (by simp [q']))).trans (hk c o (fun q' => hb (by simp [q'])) (fun q' => hb (by simp [q'])) (fun q' => hb (by simp [q'])) (fun q' => hb (by simp [q'])) q)) hf (Nat.le_refl _) new
    refine ⟨.ref s.heap.objs.size, _, I1, rfl, ⟨_, y1, y2, rfl, I.hok.fresh (Nat.le_refl _), rfl, hy1, hy2⟩, ⟨z'', ?_, ⟨u1, u2, ?_⟩, ?_, ?_⟩, fun c hcm => ?_⟩
    · exact (sb.2 _ S.TIz).trans (hk _ _ S.TIz S.TITO S.TIi1 S.TIi2 hTI)
    · exact (sb.2 _ S.TOz).trans TO'
    · exact seqIt_at h1'.1 fun o q => (sb.2 _ (fun e => S.zi1 e.symm)).trans q
    · exact seqIt_at h2'.1 fun o q => (sb.2 _ (fun e => S.zi2 e.symm)).trans q
    · have hlt : c < s.heap.objs.size := by
        have e' : c = z ∨ c = TI ∨ c = TO ∨ c = i1 ∨ c = i2 := by simpa using hcm
        rcases e' with q | q | q | q | q
        · rw [q]; exact hzl
        · rw [q]; exact Heap.lt_size hTI
        · rw [q]; exact Heap.lt_size hTO
        · rw [q]; obtain ⟨_, e, _⟩ := seqIt_obj h1; exact Heap.lt_size e
        · rw [q]; obtain ⟨_, e, _⟩ := seqIt_obj h2; exact Heap.lt_size e
      rw [upd_ne (Nat.ne_of_lt hlt)]
      exact (hf c hcm).1
  done := by
    intro X hP hw hK hc i pins s σ H E I hf st hg
    subst hP hw hK
    obtain ⟨hz, hTI, ⟨b1, b2, hTO⟩, h1, h2⟩ := st
    obtain ⟨⟨g1, g2⟩, hend⟩ := hg
    obtain ⟨its1, rv1, p1, _⟩ := inv_A I g1
    have e1 := rv1.length
    obtain ⟨its2, rv2, p2, _⟩ := inv_A I g2
    have e2 := rv2.length
    have hh : X.A.in1.handled = none := I.ok.hd hc
    exact wpAny_pyNext_zipD2_end S (draws_A k1 hh i1 a1 n1 its1.toArray) (draws_A k2 hh i2 a2 n2 its2.toArray) hz hTI hTO ⟨h1, p1⟩ ⟨h2, p2⟩ (by simp; omega) (by simp; omega) (by simp; omega) fun h' tk hk => ⟨rfl, I.turnedL (t' := tk) (ch := [z, TI, TO, i1, i2]) (fun c o hb q =>
      hk c o (fun q' => hb (by simp [q'])) (fun q' => hb (by simp [q'])) (fun q' => hb (by simp [q'])) (fun q' => hb (by simp [q'])) q) hf⟩
  self := fun A i s Q E st h => wpAny_pyIter_zip st.1 h
def iZ2 (K : PySem.W.Frag) (ta : TA) : TI := fun σ H R => ta σ H fun vs H1 => ∃ k1 k2 a1 a2 xs1 xs2, vs = [.ref a1, .ref a2] ∧ (SqA K k1 H1 a1 xs1 ∧ SqA K k2 H1 a2 xs2) ∧ R (ItZ2 K k1 k2 a1 a2 xs1 xs2) H1
theorem pi_Z2 {X : Cx} {e1 e2 : Expr} {ta : TA} {p pos tpos : Pos} {elts : List Expr} {kk : Nat} (hg : Gl X "zip") (hm : X.mg "zip" = none) (ha : PA X [e1, e2] ta)
    (hs : starEach [e1, e2] X.env = (false, eval e1 X.env) :: starEach [e2] X.env) (hpl : (backTo pos (starEach [e2] X.env)).any (·.1) = false) :
    PI X (.Tuple elts kk tpos) (.Call (.Name "zip" p) [e1, e2] [] pos) (iZ2 X.K ta) := by
  refine ⟨fun pins s σ H R I h => ?_⟩
  refine Call_ (ld_blt I hg hm PyProof.Rows.boot_zip (PyProof.Rows.callWith_type1 (thn (ha.run pos pins s σ H _ I h) fun us s1 ⟨vs, H1, I1, r1, q1⟩ => ?_) hs hpl))
  obtain ⟨k1, k2, a1, a2, xs1, xs2, ex, ⟨g1, g2⟩, q⟩ := q1
  subst ex
  have ev : us = [.ref a1, .ref a2] := by
    cases r1 with
    | cons v1 r1' =>
      cases r1' with
      | cons v2 r1'' =>
        cases r1''
        cases v1
        cases v2
        rfl
  subst ev
  obtain ⟨its1, rv1, p1, lt1⟩ := inv_A I1 g1
  obtain ⟨its2, rv2, p2, lt2⟩ := inv_A I1 g2
  have fresh5 : ∀ c, c ∈ [s1.heap.objs.size + 4, s1.heap.objs.size + 2, s1.heap.objs.size + 3, s1.heap.objs.size, s1.heap.objs.size + 1] → FpOk X pins H1 c := fun c hcm => by
    have e' : c = s1.heap.objs.size + 4 ∨ c = s1.heap.objs.size + 2 ∨ c = s1.heap.objs.size + 3 ∨ c = s1.heap.objs.size ∨ c = s1.heap.objs.size + 1 := by simpa using hcm
    have hle : s1.heap.objs.size ≤ c := by
      rcases e' with z | z | z | z | z
      · rw [z]; exact Nat.le_add_right _ _
      · rw [z]; exact Nat.le_add_right _ _
      · rw [z]; exact Nat.le_add_right _ _
      · rw [z]; exact Nat.le_refl _
      · rw [z]; exact Nat.le_add_right _ _
    exact I1.fpOk hle (I1.hok.fresh hle)
  refine zip_begins2 (begins_A k1 a1 its1.toArray) (begins_A k2 a2 its2.toArray) p1 p2 fun h' hz hTI hTO h1 h2 hsz hk => wpAny_pyIter_zip hz ?_
  have I2 : Inv X pins σ H1 { s1 with heap := h' } := I1.kept (t' := s1.toks) hk
  exact ⟨_, [s1.heap.objs.size + 4, s1.heap.objs.size + 2, s1.heap.objs.size + 3, s1.heap.objs.size, s1.heap.objs.size + 1], _, _, H1, rfl, I2, turn_Z2 (zip_sep2 (fp1 := [a1]) (fun b hb => by rw [List.mem_singleton.mp hb]; exact lt1) (fp2 := [a2]) (fun b hb => by rw [List.mem_singleton.mp hb]; exact lt2)) (Nat.ne_of_lt lt1) (Nat.ne_of_lt (Nat.lt_of_lt_of_le lt2 (Nat.le_add_right _ _))), ⟨hz, hTI, ⟨_, _, hTO⟩, seqIt_0 h1, seqIt_0 h2⟩, fresh5, q⟩
/-! ### 3 -/
def ItZ3 (K : PySem.W.Frag) (k1 k2 k3 : Bool) (a1 a2 a3 : Addr) (xs1 xs2 xs3 : List V) : It :=
  ⟨fun i H => (SqA K k1 H a1 xs1 ∧ SqA K k2 H a2 xs2 ∧ SqA K k3 H a3 xs3) ∧ i < xs1.length ∧ i < xs2.length ∧ i < xs3.length,
    fun i H v H' => ∃ T y1 y2 y3, v = .ref T ∧ H T = none ∧ H' = upd H T (.tup [y1, y2, y3]) ∧ xs1[i]? = some y1 ∧ xs2[i]? = some y2 ∧ xs3[i]? = some y3,
    fun i H => (SqA K k1 H a1 xs1 ∧ SqA K k2 H a2 xs2 ∧ SqA K k3 H a3 xs3) ∧ i = min (min xs1.length xs2.length) xs3.length⟩
theorem turn_Z3 {P : Program} {w : World} {K : PySem.W.Frag} {elts : List Expr} {kk : Nat} {tpos : Pos} {k1 k2 k3 : Bool} {a1 a2 a3 z TI TO i1 i2 i3 : Addr} {xs1 xs2 xs3 : List V} (S : ZipSep3 z TI TO i1 i2 i3 [i1, a1] [i2, a2] [i3, a3]) (n1 : a1 ≠ i1) (n2 : a2 ≠ i2) (n3 : a3 ≠ i3) :
    Turn P w K (.Tuple elts kk tpos) (ItZ3 K k1 k2 k3 a1 a2 a3 xs1 xs2 xs3) [z, TI, TO, i1, i2, i3] z (fun i h => IsZip h z TI TO .none ∧ IsTupOf3 h TI (.ref i1) (.ref i2) (.ref i3) ∧ (∃ b1 b2 b3, IsTupOf3 h TO b1 b2 b3) ∧ SeqIt k1 h i1 a1 i ∧ SeqIt k2 h i2 a2 i ∧ SeqIt k3 h i3 a3 i) where
  mem := by simp
  obj := fun i h st c hc => by
    obtain ⟨hz, hTI, ⟨b1, b2, b3, hTO⟩, h1, h2, h3⟩ := st
    have e' : c = z ∨ c = TI ∨ c = TO ∨ c = i1 ∨ c = i2 ∨ c = i3 := by simpa using hc
    rcases e' with q | q | q | q | q | q
    · rw [q]; exact ⟨_, hz, fun v q => nomatch q⟩
    · rw [q]; exact ⟨_, hTI, fun v q => nomatch q⟩
    · rw [q]; exact ⟨_, hTO, fun v q => nomatch q⟩
    · rw [q]; exact seqIt_obj h1
    · rw [q]; exact seqIt_obj h2
    · rw [q]; exact seqIt_obj h3
  keep := fun i h h' st k => by
    obtain ⟨hz, hTI, ⟨b1, b2, b3, hTO⟩, h1, h2, h3⟩ := st
    exact ⟨k z (by simp) _ hz, k TI (by simp) _ hTI, ⟨b1, b2, b3, k TO (by simp) _ hTO⟩, seqIt_at h1 fun o q => k i1 (by simp) o q, seqIt_at h2 fun o q => k i2 (by simp) o q, seqIt_at h3 fun o q => k i3 (by simp) o q⟩
  item := by
    intro X hP hw hK hc i pins s σ H E I hf st hg
    subst hP hw hK
    obtain ⟨hz, hTI, ⟨b1, b2, b3, hTO⟩, h1, h2, h3⟩ := st
    obtain ⟨⟨g1, g2, g3⟩, l1, l2, l3⟩ := hg
    obtain ⟨its1, rv1, p1, _⟩ := inv_A I g1
    have e1 := rv1.length
    obtain ⟨its2, rv2, p2, _⟩ := inv_A I g2
    have e2 := rv2.length
    obtain ⟨its3, rv3, p3, _⟩ := inv_A I g3
    have e3 := rv3.length
    have hzl : z < s.heap.objs.size := Heap.lt_size hz
    have hh : X.A.in1.handled = none := I.ok.hd hc
    refine wpAny_pyNext_zipD3_item S (draws_A k1 hh i1 a1 n1 its1.toArray) (draws_A k2 hh i2 a2 n2 its2.toArray) (draws_A k3 hh i3 a3 n3 its3.toArray) hz hTI hTO ⟨h1, p1⟩ ⟨h2, p2⟩ ⟨h3, p3⟩ (by simp; omega) (by simp; omega) (by simp; omega) fun u1 u2 u3 h' tk m1 m2 m3 z' TO' h1' h2' h3' hT hsz hk => ?_
    refine ⟨_, rfl, wpAny_letOwnedTupleGo_zip (s := { s with heap := h', toks := tk }) z' fun h'' z'' sb => ?_⟩
    have hT2 : h''.get? s.heap.objs.size = some { cls := .type "tuple", data := .seq #[u1, u2, u3] } := (sb.2 _ (Nat.ne_of_gt hzl)).trans hT
    have t1 : its1[i]? = some u1 := by rw [← Array.getElem?_toList] at m1; exact m1
    obtain ⟨y1, hy1, ry1⟩ := valsBack rv1 t1
    have t2 : its2[i]? = some u2 := by rw [← Array.getElem?_toList] at m2; exact m2
    obtain ⟨y2, hy2, ry2⟩ := valsBack rv2 t2
    have t3 : its3[i]? = some u3 := by rw [← Array.getElem?_toList] at m3; exact m3
    obtain ⟨y3, hy3, ry3⟩ := valsBack rv3 t3
    have new : ObjOk X.prog X.w (upd H s.heap.objs.size (.tup [y1, y2, y3])) h'' s.heap.objs.size (.tup [y1, y2, y3]) :=
      ⟨by show 3 ≤ sizeLine; decide, [u1, u2, u3], .cons ry1 (.cons ry2 (.cons ry3 .nil)), ⟨_, hT2, rfl, _, rfl⟩⟩
    have I1 : Inv X pins σ (upd H s.heap.objs.size (.tup [y1, y2, y3])) { s with heap := h'', toks := tk } :=
      I.turnedNew (t' := tk) (ch := [z, TI, TO, i1, i2, i3]) (fun c o hb q => (sb.2 c (fun q' => hb (by simp [q']))).trans (hk c o (fun q' => hb (by simp [q'])) (fun q' => hb (by simp [q'])) (fun q' => hb (by simp [q'])) (fun q' => hb (by simp [q'])) (fun q' => hb (by simp [q'])) q)) hf (Nat.le_refl _) new
    refine ⟨.ref s.heap.objs.size, _, I1, rfl, ⟨_, y1, y2, y3, rfl, I.hok.fresh (Nat.le_refl _), rfl, hy1, hy2, hy3⟩, ⟨z'', ?_, ⟨u1, u2, u3, ?_⟩, ?_, ?_, ?_⟩, fun c hcm => ?_⟩
    · exact (sb.2 _ S.TIz).trans (hk _ _ S.TIz S.TITO S.TIi1 S.TIi2 S.TIi3 hTI)
    · exact (sb.2 _ S.TOz).trans TO'
    · exact seqIt_at h1'.1 fun o q => (sb.2 _ (fun e => S.zi1 e.symm)).trans q
    · exact seqIt_at h2'.1 fun o q => (sb.2 _ (fun e => S.zi2 e.symm)).trans q
    · exact seqIt_at h3'.1 fun o q => (sb.2 _ (fun e => S.zi3 e.symm)).trans q
    · have hlt : c < s.heap.objs.size := by
        have e' : c = z ∨ c = TI ∨ c = TO ∨ c = i1 ∨ c = i2 ∨ c = i3 := by simpa using hcm
        rcases e' with q | q | q | q | q | q
        · rw [q]; exact hzl
        · rw [q]; exact Heap.lt_size hTI
        · rw [q]; exact Heap.lt_size hTO
        · rw [q]; obtain ⟨_, e, _⟩ := seqIt_obj h1; exact Heap.lt_size e
        · rw [q]; obtain ⟨_, e, _⟩ := seqIt_obj h2; exact Heap.lt_size e
        · rw [q]; obtain ⟨_, e, _⟩ := seqIt_obj h3; exact Heap.lt_size e
      rw [upd_ne (Nat.ne_of_lt hlt)]
      exact (hf c hcm).1
  done := by
    intro X hP hw hK hc i pins s σ H E I hf st hg
    subst hP hw hK
    obtain ⟨hz, hTI, ⟨b1, b2, b3, hTO⟩, h1, h2, h3⟩ := st
    obtain ⟨⟨g1, g2, g3⟩, hend⟩ := hg
    obtain ⟨its1, rv1, p1, _⟩ := inv_A I g1
    have e1 := rv1.length
    obtain ⟨its2, rv2, p2, _⟩ := inv_A I g2
    have e2 := rv2.length
    obtain ⟨its3, rv3, p3, _⟩ := inv_A I g3
    have e3 := rv3.length
    have hh : X.A.in1.handled = none := I.ok.hd hc
    exact wpAny_pyNext_zipD3_end S (draws_A k1 hh i1 a1 n1 its1.toArray) (draws_A k2 hh i2 a2 n2 its2.toArray) (draws_A k3 hh i3 a3 n3 its3.toArray) hz hTI hTO ⟨h1, p1⟩ ⟨h2, p2⟩ ⟨h3, p3⟩ (by simp; omega) (by simp; omega) (by simp; omega) (by simp; omega) fun h' tk hk => ⟨rfl, I.turnedL (t' := tk) (ch := [z, TI, TO, i1, i2, i3]) (fun c o hb q =>
      hk c o (fun q' => hb (by simp [q'])) (fun q' => hb (by simp [q'])) (fun q' => hb (by simp [q'])) (fun q' => hb (by simp [q'])) (fun q' => hb (by simp [q'])) q) hf⟩
  self := fun A i s Q E st h => wpAny_pyIter_zip st.1 h
def iZ3 (K : PySem.W.Frag) (ta : TA) : TI := fun σ H R => ta σ H fun vs H1 => ∃ k1 k2 k3 a1 a2 a3 xs1 xs2 xs3, vs = [.ref a1, .ref a2, .ref a3] ∧ (SqA K k1 H1 a1 xs1 ∧ SqA K k2 H1 a2 xs2 ∧ SqA K k3 H1 a3 xs3) ∧ R (ItZ3 K k1 k2 k3 a1 a2 a3 xs1 xs2 xs3) H1
theorem pi_Z3 {X : Cx} {e1 e2 e3 : Expr} {ta : TA} {p pos tpos : Pos} {elts : List Expr} {kk : Nat} (hg : Gl X "zip") (hm : X.mg "zip" = none) (ha : PA X [e1, e2, e3] ta)
    (hs : starEach [e1, e2, e3] X.env = (false, eval e1 X.env) :: starEach [e2, e3] X.env) (hpl : (backTo pos (starEach [e2, e3] X.env)).any (·.1) = false) :
    PI X (.Tuple elts kk tpos) (.Call (.Name "zip" p) [e1, e2, e3] [] pos) (iZ3 X.K ta) := by
  refine ⟨fun pins s σ H R I h => ?_⟩
  refine Call_ (ld_blt I hg hm PyProof.Rows.boot_zip (PyProof.Rows.callWith_type1 (thn (ha.run pos pins s σ H _ I h) fun us s1 ⟨vs, H1, I1, r1, q1⟩ => ?_) hs hpl))
  obtain ⟨k1, k2, k3, a1, a2, a3, xs1, xs2, xs3, ex, ⟨g1, g2, g3⟩, q⟩ := q1
  subst ex
  have ev : us = [.ref a1, .ref a2, .ref a3] := by
    cases r1 with
    | cons v1 r1' =>
      cases r1' with
      | cons v2 r1'' =>
        cases r1'' with
        | cons v3 r1''' =>
          cases r1'''
          cases v1
          cases v2
          cases v3
          rfl
  subst ev
  obtain ⟨its1, rv1, p1, lt1⟩ := inv_A I1 g1
  obtain ⟨its2, rv2, p2, lt2⟩ := inv_A I1 g2
  obtain ⟨its3, rv3, p3, lt3⟩ := inv_A I1 g3
  have fresh5 : ∀ c, c ∈ [s1.heap.objs.size + 5, s1.heap.objs.size + 3, s1.heap.objs.size + 4, s1.heap.objs.size, s1.heap.objs.size + 1, s1.heap.objs.size + 2] → FpOk X pins H1 c := fun c hcm => by
    have e' : c = s1.heap.objs.size + 5 ∨ c = s1.heap.objs.size + 3 ∨ c = s1.heap.objs.size + 4 ∨ c = s1.heap.objs.size ∨ c = s1.heap.objs.size + 1 ∨ c = s1.heap.objs.size + 2 := by simpa using hcm
    have hle : s1.heap.objs.size ≤ c := by
      rcases e' with z | z | z | z | z | z
      · rw [z]; exact Nat.le_add_right _ _
      · rw [z]; exact Nat.le_add_right _ _
      · rw [z]; exact Nat.le_add_right _ _
      · rw [z]; exact Nat.le_refl _
      · rw [z]; exact Nat.le_add_right _ _
      · rw [z]; exact Nat.le_add_right _ _
    exact I1.fpOk hle (I1.hok.fresh hle)
  refine zip_begins3 (begins_A k1 a1 its1.toArray) (begins_A k2 a2 its2.toArray) (begins_A k3 a3 its3.toArray) p1 p2 p3 fun h' hz hTI hTO h1 h2 h3 hsz hk => wpAny_pyIter_zip hz ?_
  have I2 : Inv X pins σ H1 { s1 with heap := h' } := I1.kept (t' := s1.toks) hk
  exact ⟨_, [s1.heap.objs.size + 5, s1.heap.objs.size + 3, s1.heap.objs.size + 4, s1.heap.objs.size, s1.heap.objs.size + 1, s1.heap.objs.size + 2], _, _, H1, rfl, I2, turn_Z3 (zip_sep3 (fp1 := [a1]) (fun b hb => by rw [List.mem_singleton.mp hb]; exact lt1) (fp2 := [a2]) (fun b hb => by rw [List.mem_singleton.mp hb]; exact lt2) (fp3 := [a3]) (fun b hb => by rw [List.mem_singleton.mp hb]; exact lt3)) (Nat.ne_of_lt lt1) (Nat.ne_of_lt (Nat.lt_of_lt_of_le lt2 (Nat.le_add_right _ _))) (Nat.ne_of_lt (Nat.lt_of_lt_of_le lt3 (Nat.le_add_right _ _))), ⟨hz, hTI, ⟨_, _, _, hTO⟩, seqIt_0 h1, seqIt_0 h2, seqIt_0 h3⟩, fresh5, q⟩
end Ev
/-! Ev25: zip as a function of data. -/
namespace Ev
open PySem L2 PyProof.Rows
def itemsD : D → Option (List D)
  | .tup xs => some xs
  | .lst xs => some xs
  | .scr xs => some xs
  | _ => none
def zip2L (a b : List D) : List D := List.zipWith (fun x y => .tup [x, y]) a b
def zip3L : List D → List D → List D → List D
  | a :: as, b :: bs, c :: cs => .tup [a, b, c] :: zip3L as bs cs
  | _, _, _ => []
theorem zip3L_length : ∀ a b c : List D, (zip3L a b c).length = min (min a.length b.length) c.length
  | [], _, _ => by simp [zip3L]
  | _ :: _, [], _ => by simp [zip3L]
  | _ :: _, _ :: _, [] => by simp [zip3L]
  | a :: as, b :: bs, c :: cs => by simp [zip3L, zip3L_length as bs cs]
theorem zip3L_get : ∀ (a b c : List D) (i : Nat) (x y z : D), a[i]? = some x → b[i]? = some y → c[i]? = some z → (zip3L a b c)[i]? = some (.tup [x, y, z])
  | [], _, _, _, _, _, _, h, _, _ => by simp at h
  | _ :: _, [], _, _, _, _, _, _, h, _ => by simp at h
  | _ :: _, _ :: _, [], _, _, _, _, _, _, h => by simp at h
  | a :: as, b :: bs, c :: cs, 0, x, y, z, h1, h2, h3 => by simp at h1 h2 h3; subst h1 h2 h3; simp [zip3L]
  | a :: as, b :: bs, c :: cs, i + 1, x, y, z, h1, h2, h3 => by
    simp only [zip3L, List.getElem?_cons_succ]
    exact zip3L_get as bs cs i x y z (by simpa using h1) (by simpa using h2) (by simpa using h3)
def zip2F (m : MA) : MI := fun env S => (m env S).bind fun ds S1 => match ds with
  | [a, b] => match itemsD a, itemsD b with
    | some xs, some ys => .ok (.st (zip2L xs ys)) S1
    | _, _ => .bad
  | _ => .bad
def zip3F (m : MA) : MI := fun env S => (m env S).bind fun ds S1 => match ds with
  | [a, b, c] => match itemsD a, itemsD b, itemsD c with
    | some xs, some ys, some zs => .ok (.st (zip3L xs ys zs)) S1
    | _, _, _ => .bad
  | _ => .bad
section
variable {Γ : Gm} {μ μ' : Mu} {H H' : Hp} {X : Cx} {W : WX} {pos : Pos}
/-- a thing that stands, seen as a sequence -/
def Stands (Γ : Gm) (k : Bool) (μ : Mu) (H : Hp) (a : Addr) (vs : List V) : Prop := ∀ μ' H', Vw Γ μ H μ' H' → SqA Γ.K k H' a vs
theorem items_stand {v : V} {d : D} {xs : List D} (r : Rep Γ H μ v d) (h : itemsD d = some xs) : ∃ k a vs, v = .ref a ∧ Stands Γ k μ H a vs ∧ Reps Γ H μ vs xs := by
  cases r with
  | @tup a vs ds h1 h2 =>
    cases h
    refine ⟨true, a, vs, rfl, fun μ' H' x => ?_, h2⟩
    rcases h1 with h1 | h1
    · exact .of (x.still h1 fun ps z => by cases z).1
    · exact .inr h1
  | @lst a vs ds h1 h2 =>
    cases h
    exact ⟨false, a, vs, rfl, fun μ' H' x => SqL.of (x.still h1 fun ps z => by cases z).1, h2⟩
  | @scr a ob vs ds h1 h2 =>
    cases h
    exact ⟨false, a, vs, rfl, fun μ' H' x => .inl (.inr ⟨ob, (x.still h1 fun ps z => by cases z).1⟩), h2⟩
  | _ => cases h
theorem Vw.refl : Vw Γ μ H μ H := .inl .refl
theorem pair3_rep {p : Addr} {x y z : V} {d e f : D} (hm : μ.no p) (hp : H p = none) (rx : Rep Γ H μ x d) (ry : Rep Γ H μ y e) (rz : Rep Γ H μ z f) : Rep Γ (upd H p (.tup [x, y, z])) μ (.ref p) (.tup [d, e, f]) :=
  .tup (.inl ⟨upd_same, hm⟩) (.cons (rx.ext (Ext.laid hp _)) (.cons (ry.ext (Ext.laid hp _)) (.cons (rz.ext (Ext.laid hp _)) .nil)))
theorem feeds_zip2 {k1 k2 : Bool} {a1 a2 : Addr} {vs1 vs2 : List V} {xs ys : List D} (s1 : Stands Γ k1 μ H a1 vs1) (s2 : Stands Γ k2 μ H a2 vs2) (r1 : Reps Γ H μ vs1 xs) (r2 : Reps Γ H μ vs2 ys) : Feeds Γ (ItZ2 Γ.K k1 k2 a1 a2 vs1 vs2) μ H (zip2L xs ys) := by
  have e1 := r1.length
  have e2 := r2.length
  have hl : (zip2L xs ys).length = min vs1.length vs2.length := by simp [zip2L, e1, e2]
  refine ⟨fun H => SqA Γ.K k1 H a1 vs1 ∧ SqA Γ.K k2 H a2 vs2, fun i H v H' => (ItZ2 Γ.K k1 k2 a1 a2 vs1 vs2).yld i H v H', ⟨fun i H' hi g => ⟨g, by rw [hl] at hi; omega, by rw [hl] at hi; omega⟩, fun H' g => ⟨g, hl⟩, fun i H' v H2 hi g y => y⟩, fun μ' H' x => ⟨s1 μ' H' x, s2 μ' H' x⟩, fun μ' H' S i v H2 x sm hi y => ?_⟩
  obtain ⟨T, y1, y2, rfl, hT, rfl, g1, g2⟩ := y
  obtain ⟨d1, h1, q1⟩ := r1.getV g1
  obtain ⟨d2, h2, q2⟩ := r2.getV g2
  exact ⟨.tup [d1, d2], by simp [zip2L, List.getElem?_zipWith, h1, h2], step_tup hT, pair_rep (S := S) (sm.nnew hT) hT (x.rep q1) (x.rep q2)⟩
theorem feeds_zip3 {k1 k2 k3 : Bool} {a1 a2 a3 : Addr} {vs1 vs2 vs3 : List V} {xs ys zs : List D} (s1 : Stands Γ k1 μ H a1 vs1) (s2 : Stands Γ k2 μ H a2 vs2) (s3 : Stands Γ k3 μ H a3 vs3) (r1 : Reps Γ H μ vs1 xs) (r2 : Reps Γ H μ vs2 ys) (r3 : Reps Γ H μ vs3 zs) :
    Feeds Γ (ItZ3 Γ.K k1 k2 k3 a1 a2 a3 vs1 vs2 vs3) μ H (zip3L xs ys zs) := by
  have e1 := r1.length
  have e2 := r2.length
  have e3 := r3.length
  have hl : (zip3L xs ys zs).length = min (min vs1.length vs2.length) vs3.length := by rw [zip3L_length, e1, e2, e3]
  refine ⟨fun H => SqA Γ.K k1 H a1 vs1 ∧ SqA Γ.K k2 H a2 vs2 ∧ SqA Γ.K k3 H a3 vs3, fun i H v H' => (ItZ3 Γ.K k1 k2 k3 a1 a2 a3 vs1 vs2 vs3).yld i H v H', ⟨fun i H' hi g => ⟨g, by rw [hl] at hi; omega, by rw [hl] at hi; omega, by rw [hl] at hi; omega⟩, fun H' g => ⟨g, hl⟩, fun i H' v H2 hi g y => y⟩, fun μ' H' x => ⟨s1 μ' H' x, s2 μ' H' x, s3 μ' H' x⟩, fun μ' H' S i v H2 x sm hi y => ?_⟩
  obtain ⟨T, y1, y2, y3, rfl, hT, rfl, g1, g2, g3⟩ := y
  obtain ⟨d1, h1, q1⟩ := r1.getV g1
  obtain ⟨d2, h2, q2⟩ := r2.getV g2
  obtain ⟨d3, h3, q3⟩ := r3.getV g3
  exact ⟨.tup [d1, d2, d3], zip3L_get xs ys zs i d1 d2 d3 h1 h2 h3, step_tup hT, pair3_rep (sm.nnew hT) hT (x.rep q1) (x.rep q2) (x.rep q3)⟩
variable {elts : List Expr} {kk : Nat} {tpos p : Pos}
theorem sd_zip2 {a b : Expr} {m : MA} (hK : X.K = Γ.K) (hg : Gl X "zip") (hm : X.mg "zip" = none) (ha : PA X [a, b] (rdA Γ W m)) (hs : notStar a = true) (hs2 : notStar b = true) : PI X (.Tuple elts kk tpos) (.Call (.Name "zip" p) [a, b] [] pos) (rdI Γ W (zip2F m)) :=
  (pi_Z2 hg hm ha (by rw [star_cons hs]) (by rw [star_cons hs2]; rfl)).weak fun σ H Rr h => rdI_args h fun vs H' μ' ds S' env at_ rs q => by
    split at q
    · rename_i d1 d2
      split at q
      · rename_i xs ys e1 e2
        obtain ⟨v, w, rfl, rv, rw'⟩ := reps2 rs
        obtain ⟨k1, a1, vs1, rfl, s1, r1⟩ := items_stand rv e1
        obtain ⟨k2, a2, vs2, rfl, s2, r2⟩ := items_stand rw' e2
        rw [hK]
        exact ⟨k1, k2, a1, a2, vs1, vs2, rfl, ⟨s1 _ _ Vw.refl, s2 _ _ Vw.refl⟩, q _ H' μ' .refl at_.sim (feeds_zip2 s1 s2 r1 r2)⟩
      · exact False.elim q
    · exact False.elim q
theorem sd_zip3 {a b c : Expr} {m : MA} (hK : X.K = Γ.K) (hg : Gl X "zip") (hm : X.mg "zip" = none) (ha : PA X [a, b, c] (rdA Γ W m)) (hs : notStar a = true) (hs2 : notStar b = true) (hs3 : notStar c = true) : PI X (.Tuple elts kk tpos) (.Call (.Name "zip" p) [a, b, c] [] pos) (rdI Γ W (zip3F m)) :=
  (pi_Z3 hg hm ha (by rw [star_cons hs]) (by rw [star_cons hs2, star_cons hs3]; rfl)).weak fun σ H Rr h => rdI_args h fun vs H' μ' ds S' env at_ rs q => by
    split at q
    · rename_i d1 d2 d3
      split at q
      · rename_i xs ys zs e1 e2 e3
        obtain ⟨v, w, z, rfl, rv, rw', rz⟩ := reps3 rs
        obtain ⟨k1, a1, vs1, rfl, s1, r1⟩ := items_stand rv e1
        obtain ⟨k2, a2, vs2, rfl, s2, r2⟩ := items_stand rw' e2
        obtain ⟨k3, a3, vs3, rfl, s3, r3⟩ := items_stand rz e3
        rw [hK]
        exact ⟨k1, k2, k3, a1, a2, a3, vs1, vs2, vs3, rfl, ⟨s1 _ _ Vw.refl, s2 _ _ Vw.refl, s3 _ _ Vw.refl⟩, q _ H' μ' .refl at_.sim (feeds_zip3 s1 s2 s3 r1 r2 r3)⟩
      · exact False.elim q
    · exact False.elim q
end
end Ev
/-! Ev26: dict displays; own methods as expressions. -/
namespace Ev
open PySem L2 PyProof.Rows
section
variable {Γ : Gm} {X : Cx} {W : WX} {pos : Pos}
/-- an object's making ends: it is nobody else's -/
theorem Mk1.fin {μ1 μ' : Mu} {H1 H' : Hp} {S1 S' : Store} {p : Addr} {ob : Ob} (m : Mk1 Γ μ1 H1 p μ' H') (s1 : Sim Γ μ1 H1 S1) (hp : H1 p = none) (s : Sim Γ μ' H' S') (ra : ObAt Γ H' μ' p ob)
    (rd : Mu.no ⟨μ'.st, μ1.hd⟩ p → Rep Γ H' ⟨μ'.st, μ1.hd⟩ (.ref p) ob.toD) : RVAt Γ H1 ⟨μ'.st, μ1.hd⟩ H' S' (.ref p) (.new ob) := by
  have e := m.eta
  rw [e] at s ra
  have s' := s.unhide
  have no : Mu.no ⟨μ'.st, μ1.hd⟩ p := ⟨fun z => s.apart p z List.mem_cons_self, fun z => by
    obtain ⟨o, ho⟩ := s1.hth p z
    rw [hp] at ho; cases ho⟩
  refine ⟨p, rfl, hp, no, s', rd no, ?_⟩
  have up : ∀ {vs ds}, Reps Γ H' (Mu.hide ⟨μ'.st, μ1.hd⟩ p) vs ds → Reps Γ H' (Mu.add ⟨μ'.st, μ1.hd⟩ p) vs ds := by
    have st : ∀ {b u}, Still H' (Mu.hide ⟨μ'.st, μ1.hd⟩ p) b u → Still H' (Mu.add ⟨μ'.st, μ1.hd⟩ p) b u := fun {b u} h => ⟨h.1, fun z => by
      rcases List.mem_append.mp z with z | z
      · exact h.2.1 z
      · exact h.2.2 (by rw [List.mem_singleton.mp z]; exact List.mem_cons_self), fun z => h.2.2 (List.mem_cons_of_mem _ z)⟩
    intro vs ds r
    induction r using Reps.rec (motive_1 := fun v d _ => Rep Γ H' (Mu.add ⟨μ'.st, μ1.hd⟩ p) v d) with
    | non => exact .non
    | bl b => exact .bl b
    | int i => exact .int i
    | str x => exact .str x
    | tup h _ ih => exact .tup (h.imp st id) ih
    | lst h _ ih => exact .lst (st h) ih
    | scr h _ ih => exact .scr (st h) ih
    | dct h _ ih => exact .dct (st h) ih
    | ins h h2 _ ih => exact .ins (st h) (st h2) ih
    | exc h h1 h2 h3 h4 _ ih => exact .exc (st h) h1 h2 h3 (st h4) ih
    | glb n => exact .glb n
    | xdd h => exact .xdd (st h)
    | ref h =>
      refine .ref ?_
      have hl := (List.getElem?_eq_some_iff.mp h).1
      exact (List.getElem?_append_left hl).trans h
    | nil => exact .nil
    | cons _ _ i1 i2 => exact .cons i1 i2
  refine ⟨by show (μ'.st ++ [p]).length = _; simp [s'.len], ?_, fun n b ob2 h1 h2 => ?_, fun b hb => ?_, s'.hth⟩
  · refine List.nodup_append.mpr ⟨s'.nd, by simp, fun b hb c hc z => ?_⟩
    rw [List.mem_singleton.mp hc] at z
    exact no.1 (z ▸ hb)
  · have h1 : (μ'.st ++ [p])[n]? = some b := h1
    by_cases hn : n < μ'.st.length
    · rw [List.getElem?_append_left hn] at h1
      rw [List.getElem?_append_left (by rw [← s.len]; exact hn)] at h2
      exact (s.ats n b ob2 h1 h2).map (fun _ e => e) up
    · rw [List.getElem?_append_right (by omega)] at h1
      have sl : μ'.st.length = S'.length := s.len
      rw [List.getElem?_append_right (by rw [← sl]; omega)] at h2
      have e0 : n - μ'.st.length = 0 := by
        have := (List.getElem?_eq_some_iff.mp h1).1
        simp at this; omega
      rw [e0] at h1
      rw [← sl, e0] at h2
      simp at h1 h2
      subst h1; subst h2
      exact ra.map (fun _ e => e) up
  · rcases List.mem_append.mp hb with h | h
    · exact s'.apart b h
    · rw [List.mem_singleton.mp h]; exact no.2
/-! ### {k: v, ..} -/
def pairsF : List (ME × ME) → EnvD → Store → R (List (D × D))
  | [], _, S => .ok [] S
  | (f, g) :: r, env, S => (f env S).bind fun x S1 => (g env S1).bind fun y S2 => (pairsF r env S2).bind fun l S3 => .ok ((x.d, y.d) :: l) S3
def keysD : List (D × D) → Option (List (Key × D))
  | [] => some []
  | (k, d) :: r => match keyOf k, keysD r with
    | some k, some l => some ((k, d) :: l)
    | _, _ => none
def mergeD (l : List (Key × D)) : List D × List D := l.foldl (fun acc kv => putP kv.1 kv.2 acc.1 acc.2) ([], [])
def dspF (ps : List (ME × ME)) : ME := fun env S => (noEx (pairsF ps env S)).bind fun l S1 => match keysD l with
  | some kds => if kds.length ≤ 15 then .ok (.new (.dct (mergeD kds).1 (mergeD kds).2)) S1 else .bad
  | none => .bad
theorem rd_pairs {σ : L2.St} {env : EnvD} : ∀ {ps : List (ME × ME)} {H : Hp} {S : Store} {μ : Mu} {Q : List (V × V) → Hp → Prop}, At Γ σ H env S μ →
    (pairsF ps env S).sat (fun l S' => ∀ vs H' μ', Ext Γ μ H μ' H' → Sim Γ μ' H' S' → Reps Γ H' μ' (vs.map Prod.fst) (l.map Prod.fst) → Reps Γ H' μ' (vs.map Prod.snd) (l.map Prod.snd) → Q vs H') (fun _ _ => False) →
    tPairs (ps.map fun q => (rdE Γ WF q.1, rdE Γ WF q.2)) σ H Q
  | [], H, S, μ, Q, a, h => h [] H μ .refl a.sim .nil .nil
  | (f, g) :: r, H, S, μ, Q, a, h => by
    unfold pairsF at h
    rw [R.sat_bind] at h
    show rdE Γ WF f σ H fun x H1 => rdE Γ WF g σ H1 fun y H2 => tPairs (r.map fun q => (rdE Γ WF q.1, rdE Γ WF q.2)) σ H2 fun ps H3 => Q ((x, y) :: ps) H3
    refine rd_use a (R.sat_imp h (fun r S' q => q) fun x S' q => False.elim q) fun r1 S1 v1 H1 μ1 x1 rv1 q1 => ?_
    obtain ⟨s1, p1⟩ := rv1.sim
    rw [R.sat_bind] at q1
    refine rd_use (a.next x1 s1) (R.sat_imp q1 (fun r S' q => q) fun x S' q => False.elim q) fun r2 S2 v2 H2 μ2 x2 rv2 q2 => ?_
    obtain ⟨s2, p2⟩ := rv2.sim
    rw [R.sat_bind] at q2
    refine rd_pairs ((a.next x1 s1).next x2 s2) (R.sat_imp q2 (fun l S3 q vs H3 μ3 x3 s3 ra rb => ?_) fun x S' q => q)
    exact q ((v1, v2) :: vs) H3 μ3 ((x1.trans x2).trans x3) s3 (.cons ((p1.ext x2).ext x3) ra) (.cons (p2.ext x3) rb)
theorem keysD_ok {H : Hp} {μ : Mu} : ∀ {vs : List (V × V)} {l : List (D × D)} {kds : List (Key × D)}, keysD l = some kds → Reps Γ H μ (vs.map Prod.fst) (l.map Prod.fst) → Reps Γ H μ (vs.map Prod.snd) (l.map Prod.snd) →
    ∃ kvs : List (Key × V), vs = kvs.map (fun kv => (kV kv.1, kv.2)) ∧ kvs.map (·.1) = kds.map (·.1) ∧ Reps Γ H μ (kvs.map (·.2)) (kds.map (·.2))
  | [], [], _, e, _, _ => by cases e; exact ⟨[], rfl, rfl, .nil⟩
  | (x, y) :: vs, (k, d) :: l, kds, e, ra, rb => by
    simp only [keysD] at e
    split at e
    · rename_i k' l' e1 e2
      cases e
      cases ra with
      | cons r1 r2 =>
        cases rb with
        | cons q1 q2 =>
          obtain ⟨kvs, rfl, h1, h2⟩ := keysD_ok e2 r2 q2
          have := keyOf_ok r1 e1
          exact ⟨(k', y) :: kvs, by rw [List.map_cons, ← this], by rw [List.map_cons, List.map_cons, h1], .cons q1 h2⟩
    · cases e
  | [], _ :: _, _, _, ra, _ => by cases ra
  | _ :: _, [], _, _, ra, _ => by cases ra
theorem mergeD_ok {H : Hp} {μ : Mu} : ∀ {more : List (Key × V)} {kds : List (Key × D)} {kvs : List (Key × V)} {ds : List D}, more.map (·.1) = kds.map (·.1) → Reps Γ H μ (more.map (·.2)) (kds.map (·.2)) → Reps Γ H μ (kvs.map (·.2)) ds →
    (kds.foldl (fun acc kv => putP kv.1 kv.2 acc.1 acc.2) (kvs.map (fun q => keyD q.1), ds)).1 = (mergeK kvs more).map (fun q => keyD q.1) ∧ Reps Γ H μ ((mergeK kvs more).map (·.2)) (kds.foldl (fun acc kv => putP kv.1 kv.2 acc.1 acc.2) (kvs.map (fun q => keyD q.1), ds)).2
  | [], [], kvs, ds, _, _, r => ⟨rfl, r⟩
  | (k, v) :: more, (k', d) :: kds, kvs, ds, e, rm, r => by
    rw [List.map_cons, List.map_cons] at e
    obtain ⟨e1, e2⟩ := List.cons.inj e
    have e1 : k = k' := e1
    subst e1
    cases rm with
    | cons r1 r2 =>
      obtain ⟨h1, h2⟩ := putP_ok (k := k) r r1
      have ih := mergeD_ok e2 r2 h2
      rw [← h1] at ih
      exact ih
  | [], _ :: _, _, _, e, _, _ => by cases e
  | _ :: _, [], _, _, e, _, _ => by cases e
theorem rd_disp {ps : List (ME × ME)} {σ : L2.St} {H : Hp} {Q : VK} (h : rdE Γ W (dspF ps) σ H Q) : tDisp (ps.map fun q => (rdE Γ WF q.1, rdE Γ WF q.2)) σ H Q := by
  obtain ⟨env, S, μ, a, h⟩ := h
  unfold dspF at h
  rw [R.sat_bind] at h
  have h := R.sat_noEx (E' := fun _ _ => False) h
  intro p hp
  have a2 := a.hide hp (.dK [])
  have m2 : Mk1 Γ μ H p (μ.hide p) (upd H p (.dK [])) := Mk1.begin hp _
  have nc : ∀ {H2 : Hp} {kvs : List (Key × V)}, H2 p = some (.dK kvs) → (∀ ps, H2 p ≠ some (.tbl ps)) ∧ ∀ q, H2 p ≠ some (LamX.CodeO p q) := by
    intro H2 kvs h
    refine ⟨fun ps z => ?_, fun q z => ?_⟩
    · rw [h] at z; cases z
    · have hc : ∃ φ, LamX.CodeO p q = .ext φ := ⟨_, rfl⟩
      obtain ⟨φ, hφ⟩ := hc
      rw [h, hφ] at z; cases z
  refine rd_pairs a2 (R.sat_imp h (fun l S' q vs H' μ' x s ra rb => ?_) fun _ _ z => z)
  have hD : H' p = some (.dK []) := x.keep p _ upd_same (fun z => (a.sim.nnew hp).1 z) fun ps z => by cases z
  refine ⟨hD, ?_⟩
  split at q
  · rename_i kds ek
    split at q
    · rename_i hl
      obtain ⟨kvs, rfl, e1, e2⟩ := keysD_ok ek ra rb
      refine ⟨kvs, rfl, by rw [← List.length_map (f := fun q : Key × V => q.1), e1, List.length_map]; exact hl, ?_⟩
      have m3 : Mk1 Γ μ H p μ' H' := m2.ext x
      have hm : p ∈ μ'.hd := by rw [m3.hid]; exact List.mem_cons_self
      have at3 : At Γ σ H' env S' μ' := a2.next x s
      have at4 := at3.wrhid hm (.dK (mergeK [] kvs)) (nc hD).1 (nc hD).2
      have m4 := m3.write hp (.dK (mergeK [] kvs)) (nc hD).1 (nc hD).2
      obtain ⟨k1, k2⟩ := mergeD_ok (kvs := []) (ds := []) e1 (e2.wrhid hm (.dK (mergeK [] kvs))) .nil
      refine q _ _ _ m4.done (m4.fin a.sim hp at4.sim ⟨mergeK [] kvs, upd_same, k1, k2⟩ fun no => ?_)
      show Rep Γ _ _ (.ref p) (.dct (mergeD kds).1 (mergeD kds).2)
      have eD : (mergeD kds).1 = (mergeK [] kvs).map (fun q => keyD q.1) := k1
      rw [eD]
      have k2' := k2
      rw [m4.eta] at k2'
      exact .dct ⟨upd_same, no⟩ k2'.unhide
    · exact False.elim q
  · exact False.elim q
inductive Sps (Γ : Gm) (X : Cx) (pos : Pos) : List (Option Expr) → List Expr → List (ME × ME) → Prop
  | nil : Sps Γ X pos [] [] []
  | cons {k v : Expr} {ks : List (Option Expr)} {vs : List Expr} {f g : ME} {ps : List (ME × ME)} : PE X k (rdE Γ WF f) → PE X v (rdE Γ WF g) → Sps Γ X pos ks vs ps → Sps Γ X pos (some k :: ks) (v :: vs) ((f, g) :: ps)
theorem Sps.pps {ks : List (Option Expr)} {vs : List Expr} {ps : List (ME × ME)} (h : Sps Γ X pos ks vs ps) : PPs X pos ks vs (ps.map fun q => (rdE Γ WF q.1, rdE Γ WF q.2)) := by
  induction h with
  | nil => exact pps_nil
  | cons h1 h2 _ ih => exact pps_cons h1 h2 ih
theorem sd_disp {ks : List (Option Expr)} {vs : List Expr} {ps : List (ME × ME)} (h : Sps Γ X pos ks vs ps) (hall : ks.all (·.isSome) = true) (hl : ks.length = vs.length) (h0 : ks ≠ []) (h15 : ks.length ≤ 15) : PE X (.Dict ks vs pos) (rdE Γ W (dspF ps)) :=
  (pe_disp h.pps hall hl h0 h15).weak fun σ H Q h => rd_disp h
/-- {} -/
def dnewF : ME := fun _ S => .ok (.new (.dct [] [])) S
theorem sd_dnew : PE X (.Dict [] [] pos) (rdE Γ W dnewF) := pe_dnewK.weak fun σ H Q h => by
  obtain ⟨env, S, μ, a, h⟩ := h
  intro p hp
  exact Post.new (ob := .dct [] []) a.sim hp (Rep.dct (kvs := []) (still_new (a.sim.nnew hp)) .nil) ⟨[], upd_same, rfl, .nil⟩ h
/-! ### o.m(e, ..) of an own class -/
theorem sd_meth {c i : Nat} {g : Cfg} {dfl : List D} {dvs : List V} {dus : List Value} {f : ME} {m : MA} {k : Nat} {ga : Addr} {fd : FuncData} {ps : List Str} {o e : Expr} {es : List Expr} {mn : Str} {apos : Pos} {pl : Sem Bool} (tk : Takes X W)
    (ho : PE X o (rdE Γ W f)) (cc : SlX.SCls X.K (Γ.cls c)) (hm : Meth X.K (Γ.cls c) mn ga) (F : FnG X.prog X.w X.K X.mg X.base (L2.CX X.prog X.w) k ga fd ps (spD Γ (g.call i) ps.length)) (hr : RoomG k X.A) (hb : Binds X.K fd ps dus) (hv : Vals dvs dus)
    (hd : ∀ H μ, Reps Γ H μ dvs dfl) (hlen : ∀ ds S, (g.call i ds S).sat (fun _ _ => True) (fun _ _ => True) → ds.length = ps.length) (ha : PA X (e :: es) (rdA Γ W m)) (hs : (e :: es).all notStar = true)
    (ht : eval (.Call (.Attribute o mn apos) (e :: es) [] pos) X.env = (do
      let ov ← eval o X.env
      standAt apos.atName
      let (f, first) ← holding [ov] (getMethod ov mn pl)
      callWith pos f first (backTo pos (starEach (e :: es) X.env)) (backToKw pos (keywordEach [] X.env)))) :
    PE X (.Call (.Attribute o mn apos) (e :: es) [] pos) (rdE Γ W (methF c i g dfl f m)) :=
  (pe_methG ho cc hm F hr hb hv (fun σ => passAt tk σ) ha (star_cons (Bool.and_eq_true_iff.mp (show (notStar e && es.all notStar) = true from hs)).1) (star_any (Bool.and_eq_true_iff.mp (show (notStar e && es.all notStar) = true from hs)).2) ht).weak
    fun σ H Q h => rd_methG hd hlen h
theorem sd_meth0 {c i : Nat} {g : Cfg} {dfl : List D} {dvs : List V} {dus : List Value} {f : ME} {k : Nat} {ga : Addr} {fd : FuncData} {ps : List Str} {o : Expr} {mn : Str} {apos : Pos} {pl : Sem Bool} (tk : Takes X W)
    (ho : PE X o (rdE Γ W f)) (cc : SlX.SCls X.K (Γ.cls c)) (hm : Meth X.K (Γ.cls c) mn ga) (F : FnG X.prog X.w X.K X.mg X.base (L2.CX X.prog X.w) k ga fd ps (spD Γ (g.call i) ps.length)) (hr : RoomG k X.A) (hb : Binds X.K fd ps dus) (hv : Vals dvs dus)
    (hd : ∀ H μ, Reps Γ H μ dvs dfl) (hlen : ∀ ds S, (g.call i ds S).sat (fun _ _ => True) (fun _ _ => True) → ds.length = ps.length)
    (ht : eval (.Call (.Attribute o mn apos) [] [] pos) X.env = (do
      let ov ← eval o X.env
      standAt apos.atName
      let (f, first) ← holding [ov] (getMethod ov mn pl)
      callWith pos f first (backTo pos (starEach [] X.env)) (backToKw pos (keywordEach [] X.env)))) :
    PE X (.Call (.Attribute o mn apos) [] [] pos) (rdE Γ W (methF c i g dfl f (argsF []))) :=
  (pe_methG0 ho cc hm F hr hb hv (fun σ => passAt tk σ) ht).weak fun σ H Q h => rd_methG0 hd hlen h
end
end Ev
/-! Ev27: index of written tuples of texts; told as an expression. -/
namespace Ev
open PySem L2 PyProof.Rows LamX
section
variable {Γ : Gm} {X : Cx} {W : WX} {pos : Pos}
def posOf (z : Str) : List Str → Option Nat
  | [] => none
  | y :: r => if y = z then some 0 else (posOf z r).map (· + 1)
theorem posOf_ok {z : Str} : ∀ {ys : List Str} {j : Nat}, posOf z ys = some j → ys[j]? = some z ∧ ∀ m, m < j → ys[m]? ≠ some z
  | [], _, h => by cases h
  | y :: r, j, h => by
    unfold posOf at h
    split at h
    · rename_i e
      cases h
      exact ⟨by rw [e]; rfl, fun m hm => absurd hm (Nat.not_lt_zero m)⟩
    · rename_i e
      obtain ⟨k, hk, rfl⟩ := Option.map_eq_some_iff.mp h
      obtain ⟨h1, h2⟩ := posOf_ok hk
      refine ⟨by simpa using h1, fun m hm => ?_⟩
      cases m with
      | zero => simpa using e
      | succ m => simpa using h2 m (by omega)
def tixF (ys : List Str) (f : ME) : ME := fun env S => (f env S).bind fun r S1 => match r.d with
  | .str z => (match posOf z ys with | some j => .ok (.val (.int (j : Nat))) S1 | none => .bad)
  | _ => .bad
theorem sd_tix {x : Str} {u : Addr} {ob : Obj} {ys : List Str} {p apos : Pos} {e : Expr} {f : ME} (hK : X.K = Γ.K) (hg : Gl X x) (hm : X.mg x = some (.ref u)) (hdb : (x == ("__debug__" : Str)) = false) (hl : X.K.lookup u = some ob) (hc : ob.cls = .type "tuple") (hd : ob.dict = none)
    (hq : StaT X.K u (ys.map V.str)) (he : PE X e (rdE Γ W f))
    (hbase : attributeBase (.Name x p) "index" X.env (eval (.Name x p) X.env) = eval (.Name x p) X.env)
    (hfew : ((backTo pos (starEach [e] X.env)).all (fun x => !x.1) && (backToKw pos (keywordEach [] X.env)).all (fun x => x.1.isSome)
      && decide (([e] : List Expr).length + ([] : List Keyword).length + (if ([] : List Keyword).isEmpty then 0 else 1) < 30)) = true)
    (hline : (apos.endLine == pos.line) = true) (hs : notStar e = true) :
    PE X (.Call (.Attribute (.Name x p) "index" apos) [e] [] pos) (rdE Γ W (tixF ys f)) :=
  (pe_bm PySem.F.plainAttrs_tuple PySem.F.slot_tuple_index PySem.F.type_tuple_index mt_tup_index (pe_glob (v := .ref u) hg hm rfl hdb) (sd_cons (fs := []) hs he sd_nil) hbase hfew hline (star_cons hs) rfl).weak fun σ H Q h => by
    refine ⟨.inr (.inl ⟨rfl, ob, hl, hc, hd⟩), ?_⟩
    obtain ⟨env, S, μ, a, h⟩ := h
    unfold tixF at h
    rw [R.sat_bind] at h
    refine ⟨env, S, μ, a, ?_⟩
    unfold argsF
    rw [R.sat_bind]
    refine R.sat_imp h (fun r S1 q vs H1 μ1 x1 s1 rs => ?_) fun y S1 q => q
    obtain ⟨v, rfl, rv⟩ := reps1 rs
    revert q rv
    generalize r.d = dr
    intro q rv
    cases dr with
    | str z =>
      cases rv
      simp only at q
      split at q
      · rename_i j hj
        obtain ⟨h1, h2⟩ := posOf_ok hj
        exact ⟨u, ys, z, j, rfl, rfl, .inr hq, h1, h2, q _ H1 μ1 x1 ⟨s1, .int _⟩⟩
      · exact False.elim q
    | _ => exact False.elim q
end
end Ev
/-! Ev28: a lambda with one parameter that has a default; after KE.KLam, HandS.Lambda (turned to a default). -/
namespace Ev
open PySem L2 PyProof.Rows LamX PySem.Spec
abbrev klaFD (name qual : Str) (params : Arguments) (body : Expr) (scope : Scope) (cl : List (Str × Addr)) (pm cdv ct dv : Value) : FuncData :=
  { PySem.W.kla_fn name qual params body scope cl pm cdv ct with defaults := dv }
abbrev klaOD (name qual : Str) (params : Arguments) (body : Expr) (scope : Scope) (clos : List (Str × Addr)) (pm : Value) (c' : Addr) (ctv dv : Value) : Obj :=
  { cls := .type "function", data := .func (klaFD name qual params body scope clos pm (.ref c') ctv dv) }
section
variable {M : Model} {A : Around} {E : Value → Shared → Prop} {s : Shared} {name qual : Str} {params : Arguments} {body : Expr} {scope : Scope} {env : Env} {c P : Addr} {ps : Array Value} {pos : Pos} {firstLine : Nat} {mg : Str → Option Value}
  {clos : List (Str × Addr)} {Q : Value → Shared → Prop}
theorem klaTailD {dv : Value} (hcl : closureFor scope env = pure clos) (hge0 : env.globals = mainGlobals) (hg : s.heap.Ns mainGlobals mg) (hcode : env.code = .ref c) (C : PySem.W.CodeHd s.heap c P) (hP : s.heap.get? P = some (PySem.W.tabObj ps)) (ht : TriplesOk ps.toList)
    (hnf : codeAmong pos ps.toList = none) (hgP : mainGlobals ≠ P) (hb : s.heap.BuiltinsAt mg P)
    (h : ∀ c' ctv h' tk, Heap.ExtBut P s.heap h' → s.heap.objs.size ≤ c' → c' < h'.objs.size → h'.CodeRec (.ref c') qual → h'.get? P = some (PySem.W.tabObj (ps ++ #[rawInt pos.line, rawInt pos.col, .ref c'])) →
      Q (.ref h'.objs.size) { s with heap := h'.push (klaOD name qual params body scope clos ((mg "__name__").getD .none) c' ctv dv), toks := tk }) :
    wpAny M A (makeTail name qual params (.expr body) scope env dv .none none pos firstLine) Q E s := by
  obtain ⟨bm, ob, hbm, hne0, _, hneP, hbo, hcls, hdict, hdata⟩ := hb
  unfold makeTail
  rw [hcl, hge0]
  refine wpAny_bind (wpAny_pure ?_)
  cases clos with
  | nil =>
    simp only [List.isEmpty_nil, if_true]
    refine wpAny_bind (wpAny_pure ?_)
    refine wpAny_bind (wpAny_functionCodeX hcode (C.code hP ht) (C.tab hP) hnf fun c' h' tk hx hge hlt _ hrec htb _ => ?_)
    have hg' := hg.extBut hx hgP
    refine wpAny_bind (wpAny_builtinsFor hg' hbm hne0 (hx _ _ hneP hbo) hcls hdict hdata ?_)
    refine wpAny_bind (wpAny_nsGet hg' ?_)
    exact wpAny_bind (wpAny_pure (wpAny_newObj_type (h c' .none h' tk hx hge hlt hrec htb.2) (by size_fits)))
  | cons q r =>
    simp only [List.isEmpty_cons, Bool.false_eq_true, if_false]
    refine wpAny_bind (wpAny_newTextTuple ?_)
    refine wpAny_bind (wpAny_functionCodeX hcode ((C.keeps fun b o e => Heap.get?_push_of_some _ e).code (Heap.get?_push_of_some _ hP) ht) ((C.keeps fun b o e => Heap.get?_push_of_some _ e).tab (Heap.get?_push_of_some _ hP)) hnf fun c' h' tk hx hge hlt _ hrec htb _ => ?_)
    have hg' := (hg.push _).extBut hx hgP
    have hx' : Heap.ExtBut P s.heap h' := fun b o hb' e => hx b o hb' (Heap.get?_push_of_some _ e)
    have hge' : s.heap.objs.size ≤ c' := Nat.le_trans (by rw [Heap.size_push]; omega) hge
    refine wpAny_bind (wpAny_builtinsFor hg' hbm hne0 (hx' _ _ hneP hbo) hcls hdict hdata ?_)
    refine wpAny_bind (wpAny_nsGet hg' ?_)
    exact wpAny_bind (wpAny_pure (wpAny_newObj_type (h c' _ h' tk hx' hge' hlt hrec htb.2) (by size_fits)))
theorem klaTailHitD {cv dv : Value} (hcl : closureFor scope env = pure clos) (hge0 : env.globals = mainGlobals) (hg : s.heap.Ns mainGlobals mg) (hcode : env.code = .ref c) (C : PySem.W.CodeHd s.heap c P) (hP : s.heap.get? P = some (PySem.W.tabObj ps)) (ht : TriplesOk ps.toList)
    (hf : codeAmong pos ps.toList = some cv) (hb : s.heap.BuiltinsAt mg P)
    (h : ∀ (ctv : Value) (h' : Heap) (tk : Tok), (∀ b o, s.heap.get? b = some o → h'.get? b = some o) → s.heap.objs.size ≤ h'.objs.size →
      Q (.ref h'.objs.size) { s with heap := h'.push { cls := .type "function", data := .func (klaFD name qual params body scope clos ((mg "__name__").getD .none) cv ctv dv) }, toks := tk }) :
    wpAny M A (makeTail name qual params (.expr body) scope env dv .none none pos firstLine) Q E s := by
  obtain ⟨bm, ob, hbm, hne0, _, hneP, hbo, hcls, hdict, hdata⟩ := hb
  unfold makeTail
  rw [hcl, hge0]
  refine wpAny_bind (wpAny_pure ?_)
  cases clos with
  | nil =>
    simp only [List.isEmpty_nil, if_true]
    refine wpAny_bind (wpAny_pure ?_)
    refine wpAny_bind (wpAny_functionCode_hit hcode (C.code hP ht) hf ?_)
    refine wpAny_bind (wpAny_builtinsFor hg hbm hne0 hbo hcls hdict hdata ?_)
    refine wpAny_bind (wpAny_nsGet hg ?_)
    exact wpAny_bind (wpAny_pure (wpAny_newObj_type (h .none s.heap s.toks (fun _ _ e => e) (Nat.le_refl _)) (by size_fits)))
  | cons q r =>
    simp only [List.isEmpty_cons, Bool.false_eq_true, if_false]
    refine wpAny_bind (wpAny_newTextTuple ?_)
    refine wpAny_bind (wpAny_functionCode_hit hcode ((C.keeps fun b o e => Heap.get?_push_of_some _ e).code (Heap.get?_push_of_some _ hP) ht) hf ?_)
    refine wpAny_bind (wpAny_builtinsFor (hg.push _) hbm hne0 (Heap.get?_push_of_some _ hbo) hcls hdict hdata ?_)
    refine wpAny_bind (wpAny_nsGet (hg.push _) ?_)
    have hsz : ∀ oT : Obj, s.heap.objs.size ≤ (s.heap.push oT).objs.size := fun oT => by rw [Heap.size_push]; omega
    exact wpAny_bind (wpAny_pure (wpAny_newObj_type (h _ _ s.toks (fun b o e => Heap.get?_push_of_some _ e) (hsz _)) (by size_fits)))
end
structure LamD (N : List Str) (n : Str) (sc scope : Scope) : Prop where
  kind : scope.kind = .function
  co : scope.isCoroutine = false
  gen : scope.isGenerator = false
  own : ∀ y ∈ scope.names, (y.2 ≠ .local ∨ y.1 = n) ∧ y.2 ≠ .cell
  free : ∀ y ∈ scope.names, y.2 = .free → sc.names.lookup y.1 = some .cell ∨ sc.names.lookup y.1 = some .free
  par : scope.names.lookup n = some .local
  nN : n ∉ N
theorem LamD.has {X : Cx} {n : Str} {scope : Scope} (L : LamD X.N n X.env.scope scope) (ok : X.Ok) : ∀ y ∈ scope.names, y.2 = .free → ∃ c, X.env.cells.lookup y.1 = some c := fun y hy e => by
  rcases L.free y hy e with k | k
  · exact ok.has _ (.inl k)
  · exact ok.has _ (.inr k)
section
variable {X : Cx} {pins : List (Addr × Obj)} {σ : L2.St} {H HZ : Hp} {s s1 : Shared}
theorem lam_startD {n : Str} {bs : List (Str × Value)} {A : Around} {outer : List Env} {E : XK} {scope : Scope} {f c' : Addr} {h₁ : Heap} {tk : Nat} (I : Inv X pins σ H s) (L : LamD X.N n X.env.scope scope) (e0 : Env0 X.prog X.w X.K X.mg X.base A outer s1 HZ) (hd : A.handled = none)
    (un : Un (frs X.stack) [] H HZ s.heap s1.heap) (hns : h₁.Ns s1.heap.objs.size fun y => bs.reverse.lookup y) (kp : ∀ b o, s1.heap.get? b = some o → h₁.get? b = some o) :
    Inv (lamCx X A outer s1 HZ E scope f c') [] σ HZ { s1 with heap := h₁, toks := tk } := by
  have hfree := L.has I.ok
  have cm : ∀ {y c}, (cloFrom X.env.cells scope.names []).lookup y = some c → X.env.cells.lookup y = some c := fun {y c} e => by
    rcases cloFrom_mem (PySem.mem_of_lookup e) with hm | ⟨h1, h2⟩
    · cases hm
    · obtain ⟨c1, hc⟩ := hfree _ h1 rfl
      have hc : X.env.cells.lookup y = some c1 := hc
      have e2 : c = c1 := by
        rw [h2, hc] <;> rfl
      rw [e2]
      exact hc
  have look : ∀ {y}, scope.names.lookup y = some .free → ∃ c, (cloFrom X.env.cells scope.names []).lookup y = some c := fun {y} hl => by
    have hy : (y, NameKind.free) ∈ scope.names := PySem.mem_of_lookup hl
    exact mem_lookup (cloFrom_has (cells := X.env.cells) (acc := []) hy)
  have cellK : ∀ {c : Addr} {v : Option Value}, H c = none → s.heap.IsCell c v → h₁.IsCell c v := fun {c v} n ⟨o, ho, hd⟩ => by
    obtain ⟨sl, q⟩ := un.any ho n (by simp)
    exact ⟨_, kp _ _ q, hd⟩
  have noA : ∀ b : Addr, b ∉ (lamCx X A outer s1 HZ E scope f c').ex := fun b z => absurd (show b ∈ ([] : List Addr) from z) (by simp)
  refine ⟨⟨e0.mod, L.kind, rfl, rfl, Nat.le_refl _, fun y z c e1 e2 => I.ok.inj y z c (cm e1) (cm e2), fun y hy => ?_, fun y c z _ => ?_, fun _ => hd, Around.frames_deeper e0.frames, .inr ⟨rfl, rfl⟩, fun b z => absurd z (noA b), e0.bs, e0.bsz, fun b _ _ => noA b,
      fun b z => absurd z (noA b), e0.funs, e0.frf⟩,
    rfl, e0.bare, Un.kept kp, ⟨_, hns, fun i y v e1 e2 e3 => ?_⟩, fun y c e => ?_, e0.hok.fresh (Nat.le_refl _), fun y c e => ?_, fun q hq => absurd (show q ∈ ([] : List (Addr × Obj)) ++ [] from hq) (by simp), e0.hok.kept kp, I.len⟩
  · have hy : scope.names.lookup y = some .cell ∨ scope.names.lookup y = some .free := hy
    rcases hy with hy | hy
    · exact absurd rfl (L.own _ (PySem.mem_of_lookup hy)).2
    · exact look hy
  · have z : false = true := z
    cases z
  · have e3 : Vis scope y := e3
    rcases e3 with k | k | k
    · rcases (L.own _ (PySem.mem_of_lookup k)).1 with z | z
      · exact absurd rfl z
      · have z : y = n := z
        exact absurd (show n ∈ X.N from z ▸ List.mem_of_getElem? e1) L.nN
    · exact absurd rfl (L.own _ (PySem.mem_of_lookup k)).2
    · obtain ⟨m, hn, hl⟩ := I.loc
      have hvis : Vis X.env.scope y := (L.free _ (PySem.mem_of_lookup k) rfl).elim (fun k => .inr (.inl k)) (fun k => .inr (.inr k))
      obtain ⟨w', r, q⟩ := hl i y v e1 e2 hvis
      obtain ⟨c2, h2⟩ := look k
      refine ⟨w', r, .inr ⟨.inr k, c2, h2, ?_⟩⟩
      have c1 := cm h2
      rcases q with ⟨k', _⟩ | ⟨_, c3, e', z⟩
      · have k' : X.env.scope.names.lookup y = some .local := k'
        rcases L.free _ (PySem.mem_of_lookup k) rfl with k2 | k2 <;> rw [show X.env.scope.names.lookup y = _ from k2] at k' <;> cases k'
      · rw [c1] at e'
        cases e'
        exact cellK (I.freeC y _ c1) z
  · obtain ⟨w', z⟩ := I.cell y c (cm e)
    exact ⟨w', cellK (I.freeC y c (cm e)) z⟩
  · obtain ⟨v, o, ho, hd⟩ := I.cell y c (cm e)
    exact un.free c o ho (I.freeC y c (cm e)) (by simp)
theorem ne_of_none' {H : Hp} {b p : Addr} {o : HO} (n : H b = none) (h : H p = some o) : b ≠ p := fun e => by rw [e, h] at n; cases n
theorem lam_tailD {dv : Value} {T : List (Addr × Str)} {c P : Addr} {params : Arguments} {body : Expr} {scope : Scope} {pos : Pos} {E : Value → Shared → Prop} {Q : Value → Shared → Prop} (I : Inv X pins σ H s) (TB : TabB X.base X.mg c P) (hcode : X.env.code = .ref c)
    (hm : (P, X.env.qual ++ "<lambda>") ∈ T) (hu : ∀ p ∈ T, p.1 = P → p.2 = X.env.qual ++ "<lambda>") (hT : Tabs T H) (hfree : ∀ y ∈ scope.names, y.2 = .free → ∃ c, X.env.cells.lookup y.1 = some c)
    (h : ∀ (f c' : Addr) (pm ctv : Value) (H1 : Hp) (s' : Shared), Inv X pins σ H1 s' → ExtN H H1 → (∀ b o, H b = some o → ∃ o', H1 b = some o') → Tabs T H1 → (∀ b o, H b = none → s.heap.get? b = some o → s'.heap.get? b = some o ∧ H1 b = none) →
      s'.heap.get? f = some (klaOD "<lambda>" (X.env.qual ++ "<lambda>") params body scope (cloFrom X.env.cells scope.names []) pm c' ctv dv) → H1 f = none → f ∉ frs X.stack → H1 c' = some (CodeO c' (X.env.qual ++ "<lambda>")) → Q (.ref f) s') :
    wpAny (model X.prog X.w) X.A (makeTail "<lambda>" (X.env.qual ++ "<lambda>") params (.expr body) scope X.env dv .none none pos pos.line) Q E s := by
  obtain ⟨ps, hP, ht, ha⟩ := hT _ hm
  have bP : s.heap.BuiltinsAt X.mg P := TB.bm.keeps I.bk
  have hP' : s.heap.get? P = some { cls := .none, data := .fields ps } := I.hok P _ hP
  have nofr : ∀ f, s.heap.objs.size ≤ f → f ∉ frs X.stack := fun f hf z => by
    rcases List.mem_cons.mp (I.stkSub _ z) with e | e
    · have h1 := I.lt
      rw [← e] at h1
      exact Nat.lt_irrefl _ (Nat.lt_of_lt_of_le h1 hf)
    · exact I.nofs hf e
  cases hc : codeAmong pos ps.toList with
  | none =>
    refine klaTailD (mg := X.mg) (c := c) (P := P) (ps := ps) (closure_ok hfree) I.ok.glob (I.mod.glob.keeps I.bk) hcode (TB.code.keeps I.bk) hP' ht hc TB.gP bP fun c' ctv h' tk hx hge hlt hrec htb => ?_
    obtain ⟨c2, oc, vs, t, e2, hoc, hd, hv⟩ := hrec
    cases e2
    have hsz : s.heap.objs.size ≤ h'.objs.size := Nat.le_trans hge (Nat.le_of_lt hlt)
    have nC : H c' = none := I.hok.fresh hge
    have I1 := inv_table (t' := tk) (more := #[rawInt pos.line, rawInt pos.col, .ref c']) (h' := h'.push (klaOD "<lambda>" (X.env.qual ++ "<lambda>") params body scope (cloFrom X.env.cells scope.names []) ((X.mg "__name__").getD .none) c' ctv dv)) I hP
      (fun b o hb e => Heap.get?_push_of_some _ (hx b o hb e)) (Heap.get?_push_of_some _ htb) hge ⟨oc, vs, t, Heap.get?_push_of_some _ hoc, hd, hv⟩
    have hE : ExtN H (upd (upd H P (.tbl (ps ++ #[rawInt pos.line, rawInt pos.col, .ref c']))) c' (CodeO c' (X.env.qual ++ "<lambda>"))) := fun b o e n => by
      rw [upd_ne (ne_of_none e nC), upd_ne (fun z => n ps (Option.some.inj (e.symm.trans (by rw [z]; exact hP))))]
      exact e
    have eL : (ps ++ #[rawInt pos.line, rawInt pos.col, .ref c']).toList = ps.toList ++ [rawInt pos.line, rawInt pos.col, .ref c'] := by simp
    refine h h'.objs.size c' ((X.mg "__name__").getD .none) ctv _ _ I1 hE (fun b o e => by
      by_cases hb : b = P
      · exact ⟨_, by rw [hb, upd_ne (ne_of_none hP nC), upd_same]⟩
      · exact ⟨o, by rw [upd_ne (ne_of_none e nC), upd_ne hb]; exact e⟩) (fun p hp => ?_) (fun b o n e => ⟨Heap.get?_push_of_some _ (hx b o (ne_of_none' n hP) e), by
        rw [upd_ne (Nat.ne_of_lt (Nat.lt_of_lt_of_le (Heap.lt_size e) hge)), upd_ne (ne_of_none' n hP)]; exact n⟩) (Heap.get?_push_size _ rfl) ?_ (nofr _ hsz) upd_same
    · by_cases hb : p.1 = P
      · rw [hu p hp hb, hb]
        refine ⟨_, by rw [upd_ne (ne_of_none hP nC), upd_same], by rw [eL]; exact PySem.TriplesOk_snoc _ _ _ _ ht, fun p' cv hcv => ?_⟩
        rw [eL] at hcv
        rcases among_app _ ht hcv with z | z
        · obtain ⟨c0, e1, e2⟩ := ha p' cv z
          exact ⟨c0, e1, hE _ _ e2 codeO_ne⟩
        · exact ⟨c', z, upd_same⟩
      · obtain ⟨ps', a1, a2, a3⟩ := hT p hp
        refine ⟨ps', by rw [upd_ne (ne_of_none a1 nC), upd_ne hb]; exact a1, a2, fun p' cv hcv => ?_⟩
        obtain ⟨c0, e1, e2⟩ := a3 p' cv hcv
        exact ⟨c0, e1, hE _ _ e2 codeO_ne⟩
    · have n1 : h'.objs.size ≠ c' := Nat.ne_of_gt hlt
      have n2 : h'.objs.size ≠ P := Nat.ne_of_gt (Nat.lt_of_lt_of_le (Heap.lt_size hP') hsz)
      rw [upd_ne n1, upd_ne n2]
      exact I.hok.fresh hsz
  | some cv =>
    obtain ⟨c', e, hco⟩ := ha pos cv hc
    subst e
    refine klaTailHitD (mg := X.mg) (c := c) (P := P) (ps := ps) (closure_ok hfree) I.ok.glob (I.mod.glob.keeps I.bk) hcode (TB.code.keeps I.bk) hP' ht hc bP fun ctv h' tk hx hsz => ?_
    have I1 : Inv X pins σ H { s with heap := h'.push (klaOD "<lambda>" (X.env.qual ++ "<lambda>") params body scope (cloFrom X.env.cells scope.names []) ((X.mg "__name__").getD .none) c' ctv dv), toks := tk } := I.kept fun b o e => Heap.get?_push_of_some _ (hx b o e)
    exact h h'.objs.size c' ((X.mg "__name__").getD .none) ctv H _ I1 (ExtN.refl H) (fun b o e => ⟨o, e⟩) hT (fun b o n e => ⟨Heap.get?_push_of_some _ (hx b o e), n⟩) (Heap.get?_push_size _ rfl) (I.hok.fresh hsz) (nofr _ hsz) hco
end
end Ev
/-! Ev29: a lambda with one default, made and given to a def that calls it without arguments (Ev19 turned). -/
namespace Ev
open PySem L2 PyProof.Rows LamX PySem.Spec
section
variable {X : Cx} {pins : List (Addr × Obj)} {σ : L2.St} {H HZ : Hp} {s s1 : Shared}
theorem lam_makeD {de : Expr} {v0 : V} {T : List (Addr × Str)} {c P : Addr} {params : Arguments} {body : Expr} {scope : Scope} {pos : Pos} {Q : Value → Shared → Prop} (I : Inv X pins σ H s) (TB : TabB X.base X.mg c P) (hcode : X.env.code = .ref c)
    (hm : (P, X.env.qual ++ "<lambda>") ∈ T) (hu : ∀ p ∈ T, p.1 = P → p.2 = X.env.qual ++ "<lambda>") (hT : Tabs T H) (hdef : defaultsOf params X.env = ([eval de X.env], [])) (hde : PE X de (tC v0)) (hfree : ∀ y ∈ scope.names, y.2 = .free → ∃ c, X.env.cells.lookup y.1 = some c)
    (h : ∀ (f c' td : Addr) (pm ctv dv : Value) (H1 : Hp) (s' : Shared), Inv X pins σ H1 s' → ExtN H H1 → (∀ b o, H b = some o → ∃ o', H1 b = some o') → Tabs T H1 →
      s'.heap.get? td = some { cls := .type "tuple", data := .seq #[dv] } → H1 td = none → td ∉ frs X.stack →
      s'.heap.get? f = some (klaOD "<lambda>" (X.env.qual ++ "<lambda>") params body scope (cloFrom X.env.cells scope.names []) pm c' ctv (.ref td)) → H1 f = none → f ∉ frs X.stack → H1 c' = some (CodeO c' (X.env.qual ++ "<lambda>")) → Q (.ref f) s') :
    wpAny (model X.prog X.w) X.A (eval (.Lambda params body scope pos) X.env) Q X.xe s := by
  rw [arm_eval_Lambda, hdef]
  show wpAny _ X.A (do let dv ← evalAll [eval de X.env]; let kdv ← holding dv (evalAllOpt []); makeFunction "<lambda>" (X.env.qual ++ "<lambda>") params (.expr body) scope X.env dv kdv [] pos pos.line) Q X.xe s
  refine wpAny_bind (wpAny_evalAll_cons (thn (hde.run pins s σ H (fun v H' => H' = H) I rfl) fun u s1 ⟨v, H', I1, r1, e1⟩ => wpAny_evalAll_nil (wpAny_bind (wpAny_holding (wpAny_pure ?_)))))
  subst e1
  rw [makeFunction_eq]
  simp only [List.zip_nil_right, List.filterMap_nil, List.isEmpty_nil, List.isEmpty_cons, Bool.false_eq_true, if_false, if_true, pure_bind]
  refine wpAny_bind (wpAny_newTextTuple ?_)
  have I2 : Inv X pins σ H' { s1 with heap := s1.heap.push { cls := .type "tuple", data := .seq #[u] } } := I1.kept (t' := s1.toks) fun b o e => Heap.get?_push_of_some _ e
  have nofr : s1.heap.objs.size ∉ frs X.stack := fun z => by
    rcases List.mem_cons.mp (I1.stkSub _ z) with e | e
    · have h1 := I1.lt
      rw [← e] at h1
      exact Nat.lt_irrefl _ h1
    · exact I1.nofs (Nat.le_refl _) e
  refine lam_tailD I2 TB hcode hm hu hT hfree fun f c' pm ctv H1 s' I3 eN eH T1 kp hf hfn hfr hco => ?_
  obtain ⟨k1, k2⟩ := kp s1.heap.objs.size _ (I1.hok.fresh (Nat.le_refl _)) (Heap.get?_push_size _ rfl)
  exact h f c' s1.heap.objs.size pm ctv u H1 s' I3 eN eH T1 k1 k2 nofr hf hfn hfr hco
theorem pe_actD {n : Str} {td : Addr} {dv : Value} {CXg : CXT} {Eg : XK} {Ng : List Str} {qg : Str} {sg : Scope} {g f c' : Addr} {cdg pm ctv : Value} {params : Arguments} {body : Expr} {scope : Scope} {k i : Nat} {a : Str} {pn : List (Addr × Obj)} {xe : Value → Shared → Prop} {W : WX} {tb : XK → TE} {p1 p2 : Pos}
    (I : Inv X pins σ H s) (L : LamD X.N n X.env.scope scope) (htd : s.heap.get? td = some { cls := .type "tuple", data := .seq #[dv] }) (htn : H td = none) (htr : td ∉ frs X.stack) (hf : s.heap.get? f = some (klaOD "<lambda>" (X.env.qual ++ "<lambda>") params body scope (cloFrom X.env.cells scope.names []) pm c' ctv (.ref td))) (hfn : H f = none) (hfr : f ∉ frs X.stack)
    {kb : Option (Array Value) → Sem (List (Str × Value))} (hbind : bindArgs (klaFD "<lambda>" (X.env.qual ++ "<lambda>") params body scope (cloFrom X.env.cells scope.names []) pm (.ref c') ctv (.ref td)) ⟨[], []⟩ = seqItems? (.ref td) >>= kb) (hkb : kb (some #[dv]) = pure [(n, dv)])
    (tk : Takes ((cxOf CXg X.prog X.w X.K X.mg X.base Ng qg sg g cdg X.A X.stack s H Eg).tr pn xe) W) (hrG : RoomG (k + 1) (X.A.deeper (envOfC qg sg s.heap.objs.size g cdg)))
    (hbody : ∀ (E : XK) (A : Around) (outer : List Env) (s : Shared) (H : Hp), RoomG k (A.deeper (lamEnv X scope s.heap.objs.size f c')) → PE (lamCx X A outer s H E scope f c') body (tb E))
    (hN : Ng[i]? = some a) (hv : Vis sg a) (hd : (a == ("__debug__" : Str)) = false := by decide) (hcd : (a == ("__classdict__" : Str)) = false := by decide) :
    PE ((cxOf CXg X.prog X.w X.K X.mg X.base Ng qg sg g cdg X.A X.stack s H Eg).tr pn xe) (.Call (.Name a p1) [] [] p2)
      (fun σZ HZ Q => ∃ E : XK, (∀ cls d H', E cls d H' → W cls d σZ H') ∧ σZ[i]? = some (some (.ref f)) ∧ HZ c' = some (CodeO c' (X.env.qual ++ "<lambda>")) ∧ tb E σ HZ Q) := by
  have hr := hrG.room
  refine ⟨fun pinsZ sZ σZ HZ Q IZ h => ?_⟩
  obtain ⟨E, hW, hs, hc, ht⟩ := h
  refine wpAny_Call_Name_kw (thn ((pe_var (pos := p1) (i := i) hN hv hd hcd).run pinsZ sZ σZ HZ (fun v H1 => v = .ref f ∧ H1 = HZ) IZ ⟨.ref f, hs, rfl, rfl⟩) fun u s1 ⟨v, H1, I1, r1, q1⟩ => ?_)
  obtain ⟨ev, eH⟩ := q1
  subst ev
  rw [eH] at I1
  obtain rfl : u = Value.ref f := r1
  have of1 : s1.heap.get? f = some (klaOD "<lambda>" (X.env.qual ++ "<lambda>") params body scope (cloFrom X.env.cells scope.names []) pm c' ctv (.ref td)) := I1.base.keep f _ hf hfn hfr (fun z => nomatch (show f ∈ ([] : List Addr) from z))
  have ot1 : s1.heap.get? td = some { cls := .type "tuple", data := .seq #[dv] } := I1.base.keep td _ htd htn htr (fun z => nomatch (show td ∈ ([] : List Addr) from z))
  refine PySem.W.callWith_F0 ⟨_, _, _, _, of1⟩ ?_
  have un : Un (frs X.stack) [] H HZ s.heap s1.heap := I1.base
  obtain ⟨⟨oc, vs, t, hoc, hdc, hvc⟩, _, _⟩ := I1.hok c' _ hc
  have rc : codeAny (model X.prog X.w) (X.A.deeper (envOfC qg sg s.heap.objs.size g cdg)) (.call (.ref f) ⟨[], []⟩) (CR (L2.CX X.prog X.w) (envOfC qg sg s.heap.objs.size g cdg :: X.stack) X.prog X.w HZ s1 Q E) s1 := by
    refine PySem.W.kla_callFunE hr.depth of1 rfl L.co L.gen rfl ⟨c', oc, vs, t, rfl, hoc, hdc, hvc⟩ ?_
    rw [hbind]
    refine wpAny_bind (wpAny_seqItems ot1 rfl ?_)
    rw [hkb]
    refine wpAny_pure (wpAny_newFunctionEnv (fun y hy => (L.own y hy).2) (fun y hy => by rw [List.mem_singleton.mp hy]; exact L.par) (fun h₁ hns hsb => ⟨I1.nolimit.fresh _ hsb, ?_⟩) L.kind)
    show codeAny _ _ (.expr body (lamEnv X scope s1.heap.objs.size f c')) _ _
    have kp : ∀ b o, s1.heap.get? b = some o → h₁.get? b = some o := fun b o e => hsb.extBut b o (Nat.ne_of_lt (Heap.lt_size e)) (Heap.get?_push_of_some _ e)
    have J : Inv (lamCx X (X.A.deeper (envOfC qg sg s.heap.objs.size g cdg)) (envOfC qg sg s.heap.objs.size g cdg :: X.stack) s1 HZ E scope f c') [] σ HZ { s1 with heap := h₁, toks := s1.toks + ([(n, dv)] : List (Str × Value)).length } :=
      lam_startD I L I1.env0 hr.hd un hns kp
    refine PySem.W.kla_codeExpr (wpAny_mono ((hbody E _ _ s1 HZ ⟨hr.deeper _, hrG.gd⟩).run [] _ _ HZ Q J ht) (fun v s' hq => ?_) fun e s' hq => hq)
    obtain ⟨w', H', J', rv, q⟩ := hq
    exact ⟨w', H', J'.os, J'.bare, J'.base, J'.hok, rv, q⟩
  refine wpAny_call (codeAny_mono rc fun r s' hq => ?_)
  cases r with
  | error e => exact tk e s' (XE.of_call I1 hW hq)
  | ok fl =>
    cases fl with
    | ret u => exact I1.after hq
    | next => exact False.elim hq
    | brk => exact False.elim hq
    | cont => exact False.elim hq
end
section
variable {X : Cx}
/-- x(lambda n=de: body) -/
theorem pe_lamcallD {n : Str} {de : Expr} {v0 : V} {T : List (Addr × Str)} {TT : (XK → Hp → VK → Prop) → Hp → VK → Prop} {x a : Str} {g c P : Addr} {k : Nat} {pg : Arguments} {bg : List Stmt} {sg : Scope} {dV kV doc pm cdv ct oc : Value} {an od : Option Addr} {osl : Array (Option Value)} {Ng : List Str}
    {params : Arguments} {body : Expr} {scope : Scope} {t : XK → TE} {p lpos pos : Pos} (hg : Gl X x) (hm : X.mg x = some (.ref g)) (hk : PySem.W.keepIn X.K (.ref g) = true)
    (lk : X.K.lookup g = some ⟨oc, od, .func (PySem.W.fnOf x x pg bg sg dV kV doc pm an cdv ct), osl⟩) (hcg : PySem.W.codeIn X.K cdv x = true) (hb : L2.Binds X.K (PySem.W.fnOf x x pg bg sg dV kV doc pm an cdv ct) [a] []) (Sg : FnScope Ng [a] sg) (hNg : Ng[0]? = some a) (hva : Vis sg a)
    (hG : GivesTo3 X Ng x sg g cdv bg a (X.env.qual ++ "<lambda>") TT)
    (TB : TabB X.base X.mg c P) (hcode : X.env.code = .ref c) (hmT : (P, X.env.qual ++ "<lambda>") ∈ T) (hu : ∀ p ∈ T, p.1 = P → p.2 = X.env.qual ++ "<lambda>") (hrG : RoomG (k + 2) X.A) (L : LamD X.N n X.env.scope scope) (hdef : defaultsOf params X.env = ([eval de X.env], [])) (hde : PE X de (tC v0))
    (hbind : ∀ (q : Str) (cl : List (Str × Addr)) (pm cv ctv : Value) (td : Addr), ∃ kb, bindArgs (klaFD "<lambda>" q params body scope cl pm cv ctv (.ref td)) ⟨[], []⟩ = seqItems? (.ref td) >>= kb ∧ ∀ v, kb (some #[v]) = pure [(n, v)])
    (hbody : ∀ (A : Around) (outer : List Env) (s : Shared) (H : Hp) (E : XK) (f c' : Addr), RoomG k (A.deeper (lamEnv X scope s.heap.objs.size f c')) → PE (lamCx X A outer s H E scope f c') body (t E))
    (hdb : (x == ("__debug__" : Str)) = false := by decide) (hd : (a == ("__debug__" : Str)) = false := by decide) (hcd : (a == ("__classdict__" : Str)) = false := by decide) :
    PE X (.Call (.Name x p) [.Lambda params body scope lpos] [] pos) (tLam3 T TT t) := by
  have hr := hrG.room
  refine ⟨fun pins s σ H Q I h => ?_⟩
  obtain ⟨hT, h⟩ := h
  refine wpAny_Call_Name_kw (ld_glob I hg hm ?_ hdb)
  refine PySem.W.callWith_K (h₀ := X.base) I.ok.mod.kin hk ?_ (by rfl) (by rfl)
  show wpAny _ _ (spliced ((false, eval (.Lambda params body scope lpos) X.env) :: backTo pos (starEach [] X.env))) _ _ s
  refine Calls.spliced_cons (lam_makeD I TB hcode hmT hu hT hdef hde (L.has I.ok) fun f c' td pm' ctv dv H1 s' I1 eN eH T1 htd htn htr hf hfn hfr hco => ?_)
  refine Calls.spliced_nil ⟨I1.kIn, ?_⟩
  have rc : codeAny (model X.prog X.w) X.A (.call (.ref g) ⟨[.ref f], []⟩) (CR C8.CX0 X.stack X.prog X.w H1 s' Q C8.E0) s' := by
    refine run_ofS (N := Ng) (ps := [a]) (us := [.ref f]) (vs := [.ref f]) lk hcg Sg hr I1.env0 (hb s' [.ref f] I1.kIn rfl) (.cons rfl .nil) rfl fun hr' => ?_
    obtain ⟨kb, hb1, hb2⟩ := hbind (X.env.qual ++ "<lambda>") (cloFrom X.env.cells scope.names []) pm' (.ref c') ctv td
    obtain ⟨t', ht', hq'⟩ := hG f c' s' H1 Q (fun E H' Q' => t E σ H' Q') (fun W pn xe p1 p2 tk => pe_actD (i := 0) (tb := t) I1 L htd htn htr hf hfn hfr hb1 (hb2 dv) tk ⟨hr', hrG.gd⟩ (fun E A outer s H hr2 => hbody A outer s H E f c' hr2) hNg hva hd hcd) hco (h H1 eN eH T1)
    exact ⟨t', ht'.nox, hq'⟩
  refine wpAny_call (codeAny_mono rc fun r s2 hq => ?_)
  cases r with
  | error e => exact (show False from hq).elim
  | ok fl =>
    cases fl with
    | ret u => exact I1.after hq
    | next => exact False.elim hq
    | brk => exact False.elim hq
    | cont => exact False.elim hq
end
end Ev
/-! Ev30: C.m() of a classmethod; cls(e, ..) in it. -/
namespace Ev
open PySem L2 PyProof.Rows
section
variable {Γ : Gm} {X : Cx} {W : WX} {pos : Pos}
theorem pe_makeV {CX : CXT} {k i : Nat} {C f : Addr} {fd : FuncData} {ps : List Str} {sp : Sp} {dvs : List V} {ds : List Value} {E : L2.St → XK} {x : Str} {p : Pos} {e : Expr} {es : List Expr} {t : TA} (M : Mk X.K C f) (F : FnG X.prog X.w X.K X.mg X.base CX k f fd ps sp) (hr : RoomG (k + 1) X.A)
    (hN : X.N[i]? = some x) (hvis : Vis X.env.scope x) (hb : Binds X.K fd ps ds) (hd : Vals dvs ds) (hx : ∀ σ, PassesAt CX X σ (E σ))
    (ha : PA X (e :: es) t) (hdb : (x == ("__debug__" : Str)) = false) (hcd : (x == ("__classdict__" : Str)) = false) (he : starEach (e :: es) X.env = (false, eval e X.env) :: starEach es X.env) (hpl : (backTo pos (starEach es X.env)).any (·.1) = false) :
    PE X (.Call (.Name x p) (e :: es) [] pos) (fun σ H Q => σ[i]? = some (some (.ref C)) ∧ tMakeG C sp dvs E t σ H Q) := by
  refine ⟨fun pins s σ H Q I h => ?_⟩
  obtain ⟨h0, h⟩ := h
  refine wpAny_Call_Name_kw (thn ((pe_var (pos := p) (i := i) hN hvis hdb hcd).run pins s σ H (fun v H1 => v = .ref C ∧ H1 = H) I ⟨.ref C, h0, rfl, rfl⟩) fun u s0 ⟨v, H0, I0, r0, e1, e2⟩ => ?_)
  subst e1
  rw [e2] at I0
  obtain rfl : u = Value.ref C := r0
  refine PySem.W.callWith_K (h₀ := X.base) I0.ok.mod.kin M.kp (thn (ha.run pos pins s0 σ H _ I0 h) fun us s1 ⟨vs, H1, I1, r, q⟩ => ⟨I1.kIn, ?_⟩) he hpl
  exact run_makeG M F hr hb hd (hx σ) I1 r q
/-- the class is the slot j's -/
def mkVF (j n c i : Nat) (g : Cfg) (dfl : List D) (m : MA) : ME := fun env S => match env[j]? with
  | some (some (.glb n')) => if n' = n then mkF c i g dfl m env S else .bad
  | _ => .bad
theorem sd_mkV {j n c i : Nat} {g : Cfg} {dfl : List D} {dvs : List V} {dus : List Value} {m : MA} {k : Nat} {f : Addr} {fd : FuncData} {ps : List Str} {x : Str} {p : Pos} {e : Expr} {es : List Expr} (tk : Takes X W) (M : Mk X.K (Γ.cls c) f) (hn : Γ.fn n = Γ.cls c)
    (F : FnG X.prog X.w X.K X.mg X.base (L2.CX X.prog X.w) k f fd ps (spD Γ (g.call i) ps.length)) (hr : RoomG (k + 1) X.A) (hN : X.N[j]? = some x) (hvis : Vis X.env.scope x) (hb : Binds X.K fd ps dus) (hv : Vals dvs dus)
    (hd : ∀ H μ, Reps Γ H μ dvs dfl) (hlen : ∀ ds S, (g.call i ds S).sat (fun _ _ => True) (fun _ _ => True) → ds.length = ps.length) (ha : PA X (e :: es) (rdA Γ W m)) (hs : (e :: es).all notStar = true) (hdb : (x == ("__debug__" : Str)) = false) (hcd : (x == ("__classdict__" : Str)) = false) :
    PE X (.Call (.Name x p) (e :: es) [] pos) (rdE Γ W (mkVF j n c i g dfl m)) :=
  (pe_makeV M F hr hN hvis hb hv (fun σ => passAt tk σ) ha hdb hcd (star_cons (Bool.and_eq_true_iff.mp (show (notStar e && es.all notStar) = true from hs)).1) (star_any (Bool.and_eq_true_iff.mp (show (notStar e && es.all notStar) = true from hs)).2)).weak
    fun σ H Q h => by
      obtain ⟨env, S, μ, a, h⟩ := h
      unfold mkVF at h
      split at h
      · rename_i n' hj
        split at h
        · rename_i e
          subst e
          obtain ⟨v, h1, h2⟩ := a.env.2 _ _ hj
          cases h2
          exact ⟨by rw [h1, hn], rd_mk hd hlen ⟨env, S, μ, a, h⟩⟩
        · exact False.elim h
      · exact False.elim h
/-! C.m() -/
theorem pe_cmG0 {CX : CXT} {k : Nat} {C p g : Addr} {mc : Value} {fd : FuncData} {ps : List Str} {sp : Sp} {dvs : List V} {ds : List Value} {E : L2.St → XK} {pl : Sem Bool} {x m : Str} {p0 apos : Pos} (hg : Gl X x) (hm : X.mg x = some (.ref C)) (hdb : (x == ("__debug__" : Str)) = false) (r : ClX.CRead X.K C mc) (c : ClX.CMet X.K C mc m p g)
    (F : FnG X.prog X.w X.K X.mg X.base CX k g fd ps sp) (hr : RoomG k X.A) (hb : Binds X.K fd ps ds) (hd : Vals dvs ds) (hx : ∀ σ, PassesAt CX X σ (E σ))
    (ht : eval (.Call (.Attribute (.Name x p0) m apos) [] [] pos) X.env = (do
      let ov ← eval (.Name x p0) X.env
      standAt apos.atName
      let (f, first) ← holding [ov] (getMethod ov m pl)
      callWith pos f first (backTo pos (starEach [] X.env)) (backToKw pos (keywordEach [] X.env)))) :
    PE X (.Call (.Attribute (.Name x p0) m apos) [] [] pos) (fun σ H Q => sp ([.ref C] ++ dvs) H Q (E σ)) := by
  refine ⟨fun pins s σ H Q I h => ?_⟩
  refine PySem.W.methodCall_KW (pl := pl) (thn ((pe_glob (X := X) (pos := p0) (v := .ref C) hg hm rfl hdb).run pins s σ H (fun v H1 => v = .ref C ∧ H1 = H) I ⟨rfl, rfl⟩) fun u s1 ⟨v, H1, I1, rx, e1, e2⟩ => ?_) ht
  subst e1
  rw [e2] at I1
  obtain rfl : u = Value.ref C := rx
  refine ClX.getmethcm_ok I1 r c fun s2 I2 => ?_
  refine PySem.W.callWith_M0 (K := X.K) (first := []) ⟨ClX.pin_at I2, I2.kIn⟩ c.fi ?_
  have z : wpAny (model X.prog X.w) X.A (call (.ref s1.heap.objs.size) []) (EP X ((s1.heap.objs.size, PySem.W.methodObj (.ref g) (.ref C)) :: pins) σ Q) X.xe s2 :=
    wpAny_call (PySem.W.method_call (ClX.pin_at I2) (run_fnG (us := [.ref C]) (vs := [.ref C]) F hr hb hd (hx σ) I2 (.cons rfl .nil) h))
  exact thn z fun _ _ y => ClX.unpinE y
def cmF (n i : Nat) (g : Cfg) (dfl : List D) : ME := fun _ S => g.call i ([.glb n] ++ dfl) S
theorem sd_cm0 {n c i : Nat} {g : Cfg} {dfl : List D} {dvs : List V} {dus : List Value} {k : Nat} {p ga : Addr} {mc : Value} {fd : FuncData} {ps : List Str} {pl : Sem Bool} {x m : Str} {p0 apos : Pos} (tk : Takes X W) (hn : Γ.fn n = Γ.cls c) (hg : Gl X x) (hm : X.mg x = some (.ref (Γ.cls c))) (hdb : (x == ("__debug__" : Str)) = false)
    (r : ClX.CRead X.K (Γ.cls c) mc) (cm : ClX.CMet X.K (Γ.cls c) mc m p ga) (F : FnG X.prog X.w X.K X.mg X.base (L2.CX X.prog X.w) k ga fd ps (spD Γ (g.call i) ps.length)) (hr : RoomG k X.A) (hb : Binds X.K fd ps dus) (hv : Vals dvs dus)
    (hd : ∀ H μ, Reps Γ H μ dvs dfl) (hlen : ∀ ds S, (g.call i ds S).sat (fun _ _ => True) (fun _ _ => True) → ds.length = ps.length)
    (ht : eval (.Call (.Attribute (.Name x p0) m apos) [] [] pos) X.env = (do
      let ov ← eval (.Name x p0) X.env
      standAt apos.atName
      let (f, first) ← holding [ov] (getMethod ov m pl)
      callWith pos f first (backTo pos (starEach [] X.env)) (backToKw pos (keywordEach [] X.env)))) :
    PE X (.Call (.Attribute (.Name x p0) m apos) [] [] pos) (rdE Γ W (cmF n i g dfl)) :=
  (pe_cmG0 hg hm hdb r cm F hr hb hv (fun σ => passAt tk σ) ht).weak fun σ H Q h => by
    obtain ⟨env, S, μ, a, h⟩ := h
    have h : (g.call i ([.glb n] ++ dfl) S).sat (Post Γ μ H Q) (XPost Γ W σ μ H) := h
    have rr : Reps Γ H μ ([.ref (Γ.cls c)] ++ dvs) ([.glb n] ++ dfl) := (Reps.cons (hn ▸ .glb n) .nil).append (hd H μ)
    refine ⟨by rw [rr.length]; exact hlen _ S (R.sat_imp h (fun _ _ _ => trivial) fun _ _ _ => trivial), _, S, μ, a.sim, a.tabs, rr, R.sat_imp h (fun r S3 p => p) fun y S3 p => ?_⟩
    exact fun cls dx' H3 μ3 x3 s3 xa => p cls dx' H3 μ3 x3 s3 xa
end
end Ev
/-! Ev31: calls that see lists of the store as things that stand (the callee changes nothing and keeps none of them). -/
namespace Ev
open PySem L2 PyProof.Rows
mutual
/-- neither references nor lists nor dicts within -/
def flat : D → Bool
  | .ref _ => false
  | .lst _ => false
  | .dct _ _ => false
  | .clo _ _ => false
  | .tup xs => flats xs
  | .scr xs => flats xs
  | .ins _ fs => flats fs
  | .exc _ d => flat d
  | _ => true
def flats : List D → Bool
  | [] => true
  | d :: ds => flat d && flats ds
end
def isLD : Ob → Bool
  | .lst _ => true
  | .dct _ _ => true
  | _ => false
def freezeD (S : Store) : D → Option D
  | .ref n => match S[n]? with
    | some (.lst xs) => if frees xs then some (.lst xs) else none
    | _ => none
  | d => if free d then some d else none
def freezeL (S : Store) : List D → Option (List D)
  | [] => some []
  | d :: r => match freezeD S d, freezeL S r with
    | some d, some r => some (d :: r)
    | _, _ => none
def unz (S : Store) (r : R RV) : R RV := if S.all isLD = true then (match r with
  | .ok (.val d) [] => if flat d then .ok (.val d) S else .bad
  | .ex x [] => if flat x then .ex x S else .bad
  | _ => .bad) else .bad
section
variable {Γ : Gm} {X : Cx} {W : WX} {pos : Pos} {H H' : Hp} {μ : Mu} {S : Store} {σ : L2.St} {Q : VK}
theorem slO_lst {a C dx : Addr} {vs : List (Option V)} : (∀ ys, SlX.SlO a C dx vs ≠ .lst ys) ∧ ∀ kvs, SlX.SlO a C dx vs ≠ .dK kvs := by
  constructor
  · intro ys z
    unfold SlX.SlO at z; cases z
  · intro ys z
    unfold SlX.SlO at z; cases z
theorem Rep.flatUp (hz : ∀ b ∈ μ.st, (∃ vs, H b = some (.lst vs)) ∨ ∃ kvs, H b = some (.dK kvs)) : ∀ {v : V} {d : D}, flat d = true → Rep Γ H ⟨[], μ.hd⟩ v d → Rep Γ H μ v d := by
  have st : ∀ {b u}, (∀ ys, u ≠ .lst ys) → (∀ kvs, u ≠ .dK kvs) → Still H ⟨[], μ.hd⟩ b u → Still H μ b u := fun {b u} n1 n2 h => ⟨h.1, fun z => by
    rcases hz b z with ⟨vs, e⟩ | ⟨kvs, e⟩
    · exact n1 vs (Option.some.inj (h.1.symm.trans e))
    · exact n2 kvs (Option.some.inj (h.1.symm.trans e)), h.2.2⟩
  intro v d hf r
  induction r using Rep.rec (motive_2 := fun vs ds _ => flats ds = true → Reps Γ H μ vs ds) with
  | non => exact .non
  | bl b => exact .bl b
  | int i => exact .int i
  | str x => exact .str x
  | tup h _ ih => exact .tup (h.imp (st (fun _ z => by cases z) (fun _ z => by cases z)) id) (ih (by simpa [flat] using hf))
  | lst h _ ih => cases hf
  | scr h _ ih => exact .scr (st (fun _ z => by cases z) (fun _ z => by cases z) h) (ih (by simpa [flat] using hf))
  | dct h _ ih => cases hf
  | ins h h2 _ ih => exact .ins (st slO_lst.1 slO_lst.2 h) (st (fun _ z => by cases z) (fun _ z => by cases z) h2) (ih (by simpa [flat] using hf))
  | exc h h1 h2 h3 h4 _ ih => exact .exc (st (fun _ z => by cases z) (fun _ z => by cases z) h) h1 h2 h3 (st (fun _ z => by cases z) (fun _ z => by cases z) h4) (ih (by simpa [flat] using hf))
  | glb n => exact .glb n
  | xdd h => cases hf
  | ref h => cases hf
  | nil => exact .nil
  | cons _ _ i1 i2 =>
    rename_i hf
    simp only [flats, Bool.and_eq_true] at hf
    exact .cons (i1 hf.1) (i2 hf.2)
theorem freeze_ok (s : Sim Γ μ H S) : ∀ {vs : List V} {ds es : List D}, freezeL S ds = some es → Reps Γ H μ vs ds → Reps Γ H ⟨[], μ.hd⟩ vs es
  | _, _, _, e, .nil => by cases e; exact .nil
  | _, d :: r, _, e, .cons r1 r2 => by
    simp only [freezeL] at e
    split at e
    · rename_i d' r' e1 e2
      cases e
      refine .cons ?_ (freeze_ok s e2 r2)
      have vw : ∀ b, (∃ o, H b = some o) → μ.no b → Mu.no ⟨[], μ.hd⟩ b := fun b _ h => ⟨fun z => (nomatch z), h.2⟩
      cases r1 with
      | @ref a n hn =>
        simp only [freezeD] at e1
        split at e1
        · rename_i xs hS
          split at e1
          · rename_i hf
            cases e1
            obtain ⟨vs, h1, h2⟩ := s.ats _ _ _ hn hS
            exact .lst ⟨h1, fun z => (nomatch z), s.apart a (List.mem_of_getElem? hn)⟩ (h2.view vw hf)
          · cases e1
        · cases e1
      | non => cases e1; exact .non
      | bl b => cases e1; exact .bl b
      | int i => cases e1; exact .int i
      | str x => cases e1; exact .str x
      | glb n => cases e1; exact .glb n
      | tup h1 h2 =>
        simp only [freezeD] at e1
        split at e1
        · rename_i hf
          cases e1
          exact Rep.view vw hf (.tup h1 h2)
        · cases e1
      | lst h1 h2 =>
        simp only [freezeD] at e1
        split at e1
        · rename_i hf
          cases e1
          exact Rep.view vw hf (.lst h1 h2)
        · cases e1
      | scr h1 h2 =>
        simp only [freezeD] at e1
        split at e1
        · rename_i hf
          cases e1
          exact Rep.view vw hf (.scr h1 h2)
        · cases e1
      | dct h1 h2 =>
        simp only [freezeD] at e1
        split at e1
        · rename_i hf
          cases e1
          exact Rep.view vw hf (.dct h1 h2)
        · cases e1
      | ins h1 h2 h3 =>
        simp only [freezeD] at e1
        split at e1
        · rename_i hf
          cases e1
          exact Rep.view vw hf (.ins h1 h2 h3)
        · cases e1
      | exc h1 h2 h3 h4 h5 h6 =>
        simp only [freezeD] at e1
        split at e1
        · rename_i hf
          cases e1
          exact Rep.view vw hf (.exc h1 h2 h3 h4 h5 h6)
        · cases e1
      | xdd h =>
        simp only [freezeD] at e1
        split at e1
        · rename_i hf
          cases e1
          exact Rep.view vw hf (.xdd h)
        · cases e1
    · cases e
theorem zoom_sim (s : Sim Γ μ H S) : Sim Γ ⟨[], μ.hd⟩ H [] := ⟨rfl, List.nodup_nil, fun n a ob h => by simp at h, fun b hb => (nomatch hb), s.hth⟩
theorem zoom_ext (s : Sim Γ μ H S) {μz : Mu} (x : Ext Γ ⟨[], μ.hd⟩ H μz H') (sz : Sim Γ μz H' []) (hS : S.all isLD = true) : μz = ⟨[], μ.hd⟩ ∧ Ext Γ μ H μ H' ∧ Sim Γ μ H' S ∧ ∀ b ∈ μ.st, (∃ vs, H' b = some (.lst vs)) ∨ ∃ kvs, H' b = some (.dK kvs) := by
  have e0 : μz.st = [] := List.eq_nil_of_length_eq_zero sz.len
  have kp : ∀ b o, H b = some o → (∀ ps, o ≠ .tbl ps) → H' b = some o := fun b o e n => x.keep b o e (fun z => (nomatch z)) n
  have xe : Ext Γ μ H μ H' := ⟨⟨[], by simp⟩, rfl, fun b o e _ n => kp b o e n, x.here, fun b h1 h2 => absurd h1 h2, x.tabs⟩
  refine ⟨by cases μz; simp only at e0; subst e0; have := x.hid; simp only at this; rw [this], xe, ⟨s.len, s.nd, fun n a ob h1 h2 => ?_, s.apart, fun b hb => ?_⟩, fun b hb => ?_⟩
  · have at0 := s.ats n a ob h1 h2
    obtain ⟨_, m2, _⟩ := mut_tbl at0
    exact at0.ext xe fun o e => kp a o e fun ps z => m2 ps (by rw [e, z])
  · obtain ⟨o, e⟩ := s.hth b hb
    exact x.here b o e
  · obtain ⟨n, hn, e⟩ := List.getElem_of_mem hb
    have hs : n < S.length := by rw [← s.len]; exact hn
    have hob := List.all_eq_true.mp hS S[n] (List.getElem_mem hs)
    have at0 := s.ats n b S[n] (by rw [← e]; exact List.getElem?_eq_getElem hn) (List.getElem?_eq_getElem hs)
    revert at0 hob
    cases S[n] with
    | lst ds => intro _ at0; obtain ⟨vs, h, _⟩ := at0; exact .inl ⟨vs, kp _ _ h fun ps z => by cases z⟩
    | dct ks vs => intro _ at0; obtain ⟨kvs, h, _⟩ := at0; exact .inr ⟨kvs, kp _ _ h fun ps z => by cases z⟩
    | _ => intro hob; cases hob
theorem zoom (s : Sim Γ μ H S) {r : R RV} (h : (unz S r).sat (Post Γ μ H Q) (XPost Γ W σ μ H)) : r.sat (Post Γ ⟨[], μ.hd⟩ H Q) (XPost Γ W σ ⟨[], μ.hd⟩ H) := by
  unfold unz at h
  split at h
  · rename_i hS
    split at h
    · rename_i d
      split at h
      · rename_i hf
        intro v H' μz x rv
        obtain ⟨sz, rv⟩ := rv
        obtain ⟨rfl, xe, s', hz⟩ := zoom_ext s x sz hS
        exact h v H' μ xe ⟨s', rv.flatUp hz hf⟩
      · exact False.elim h
    · rename_i y
      split at h
      · rename_i hf
        intro cls dx H' μz x sz xa
        obtain ⟨rfl, xe, s', hz⟩ := zoom_ext s x sz hS
        refine h cls dx H' μ xe s' ?_
        cases y with
        | exc c d =>
          obtain ⟨k1, a, v, k2, k3, k4⟩ := xa
          refine ⟨k1, a, v, k2, ⟨k3.1, fun z => ?_, k3.2.2⟩, k4.flatUp hz (by simpa [flat] using hf)⟩
          rcases hz a z with ⟨vs, e⟩ | ⟨kvs, e⟩
          · have := k3.1.symm.trans e; cases this
          · have := k3.1.symm.trans e; cases this
        | _ => exact False.elim xa
      · exact False.elim h
    · exact False.elim h
  · exact False.elim h
/-! C(e, ..), f(e, ..) with such arguments -/
def mkZF (c i : Nat) (g : Cfg) (dfl : List D) (m : MA) : ME := fun env S => (m env S).bind fun ds S1 => match freezeL S1 ds with
  | some es => unz S1 (mkR c i g (es ++ dfl) [])
  | none => .bad
theorem sd_mkZ {c i : Nat} {g : Cfg} {dfl : List D} {dvs : List V} {dus : List Value} {m : MA} {k : Nat} {f : Addr} {fd : FuncData} {ps : List Str} {x : Str} {p : Pos} {e : Expr} {es : List Expr} (tk : Takes X W) (M : Mk X.K (Γ.cls c) f)
    (F : FnG X.prog X.w X.K X.mg X.base (L2.CX X.prog X.w) k f fd ps (spD Γ (g.call i) ps.length)) (hr : RoomG (k + 1) X.A) (hg : Gl X x) (hm : X.mg x = some (.ref (Γ.cls c))) (hb : Binds X.K fd ps dus) (hv : Vals dvs dus)
    (hd : ∀ H μ, Reps Γ H μ dvs dfl) (hlen : ∀ ds S, (g.call i ds S).sat (fun _ _ => True) (fun _ _ => True) → ds.length = ps.length) (ha : PA X (e :: es) (rdA Γ W m)) (hs : (e :: es).all notStar = true) (hdb : (x == ("__debug__" : Str)) = false) :
    PE X (.Call (.Name x p) (e :: es) [] pos) (rdE Γ W (mkZF c i g dfl m)) :=
  (pe_makeG M F hr hg hm hb hv (fun σ => passAt tk σ) ha hdb (star_cons (Bool.and_eq_true_iff.mp (show (notStar e && es.all notStar) = true from hs)).1) (star_any (Bool.and_eq_true_iff.mp (show (notStar e && es.all notStar) = true from hs)).2)).weak
    fun σ H Q h => rd_args h fun vs H1 μ1 ds S1 env a rs q => by
      split at q
      · rename_i es' he
        exact mk_core hd hlen (zoom_sim a.sim) a.tabs (freeze_ok a.sim he rs) (zoom a.sim q)
      · exact False.elim q
end
end Ev
/-! Ev32: xs[::-1]; told(lambda: e) as expressions. -/
namespace Ev
open PySem L2 PyProof.Rows LamX
section
variable {Γ : Gm} {X : Cx} {W : WX} {pos : Pos}
def listOf (S : Store) : D → Option (List D)
  | .lst xs => some xs
  | .scr xs => some xs
  | .ref n => match S[n]? with | some (.lst xs) => some xs | _ => none
  | _ => none
theorem listOf_ok {H : Hp} {μ : Mu} {S : Store} {v : V} {d : D} {xs : List D} (s : Sim Γ μ H S) (r : Rep Γ H μ v d) (h : listOf S d = some xs) : ∃ a vs, v = .ref a ∧ SqL Γ.K H a vs ∧ Reps Γ H μ vs xs := by
  cases r with
  | lst h1 h2 => cases h; exact ⟨_, _, rfl, .of h1.1, h2⟩
  | scr h1 h2 => cases h; exact ⟨_, _, rfl, .inl (.inr ⟨_, h1.1⟩), h2⟩
  | ref hn =>
    simp only [listOf] at h
    split at h
    · rename_i ys hS
      cases h
      obtain ⟨vs, h1, h2⟩ := s.ats _ _ _ hn hS
      exact ⟨_, vs, rfl, .of h1, h2⟩
    · cases h
  | _ => cases h
def revF (f : ME) : ME := fun env S => (f env S).bind fun r S1 => match listOf S1 r.d with
  | some xs => .ok (.new (.lst xs.reverse)) S1
  | none => .bad
theorem sd_rev {e : Expr} {f : ME} {k : Nat} {p1 p2 p3 : Pos} (hK : X.K = Γ.K) (he : PE X e (rdE Γ W f)) : PE X (.Subscript e (.Slice none none (some (.UnaryOp .USub (.Constant (.int 1) k p1) p2)) p3) pos) (rdE Γ W (revF f)) :=
  (pe_revL he).weak fun σ H Q h => by
    obtain ⟨env, S, μ, a, h⟩ := h
    unfold revF at h
    rw [R.sat_bind] at h
    refine rd_use a h fun r1 S1 v1 H1 μ1 x1 rv1 q1 => ?_
    obtain ⟨s1, p1⟩ := rv1.sim
    split at q1
    · rename_i xs hl
      obtain ⟨aa, vs, rfl, h1, h2⟩ := listOf_ok s1 p1 hl
      rw [hK]
      exact ⟨aa, vs, rfl, h1, fun p hp => Post.newL s1 hp h2.reverse (Post.ext x1 q1)⟩
    · exact False.elim q1
/-- told(lambda: e): what pe_lamcallG or pe_lamcallD gives, by data -/
theorem sd_told {e : Expr} {cm : Nat → Option Bool} {cs : List Value} {m3 : MS} {fL : ME} (hcm : CmOk Γ cs cm) (h : PE X e (tLam3 Γ.T (TTold3 Γ cs m3) fun E => rdE Γ (fun cls d _ H' => E cls d H') fL)) : PE X e (rdE Γ W (toldF cm m3 fL)) :=
  h.weak fun σ H Q h => rd_told hcm h
end
end Ev
/-! Ev33: what a context offers, in one; short words for printed derivations. -/
namespace Ev
open PySem L2 PyProof.Rows LamX
structure Cq (Γ : Gm) (X : Cx) (W : WX) (k : Nat) : Prop where
  hK : X.K = Γ.K
  hc : X.calm = true
  nd : X.N.Nodup
  tk : Takes X W
  room : RoomG k X.A
section
variable {Γ : Gm} {X : Cx} {W : WX} {k : Nat}
theorem Cq.hu (q : Cq Γ X W k) : X.A.units + 1 < cLine := by have := q.room.room.un; omega
theorem Cq.ofDef {P : Program} {w : World} {K : PySem.W.Frag} {mg : Str → Option Value} {base : Heap} {N : List Str} {qual : Str} {scope : Scope} {f : Addr} {cdv : Value} {A : Around} {outer : List Env} {s : Shared} {H : Hp} {E : XK} (hK : K = Γ.K) (nd : N.Nodup)
    (hr : RoomG k (A.deeper (envOfC qual scope s.heap.objs.size f cdv))) : Cq Γ (cxOf (L2.CX P w) P w K mg base N qual scope f cdv A outer s H E) (fun cls d _ H' => E cls d H') k :=
  ⟨hK, rfl, nd, takes_of rfl rfl rfl rfl, hr⟩
theorem Cq.blk (q : Cq Γ X W k) (s : Shared) (H : Hp) (scope : Scope) (env : Env) (fp : List Addr) : Cq Γ (X.blk s H scope env fp) WF k :=
  ⟨q.hK, q.hc, q.nd, fun u s' ⟨a, B, sI, pins, σ, H, cls, d, e, I, nb, up, sky, na, os, ag, w⟩ => w, q.room⟩
theorem Cq.lam {A : Around} {outer : List Env} {s : Shared} {H : Hp} {E : XK} {scope : Scope} {f c' : Addr} (hK : X.K = Γ.K) (nd : X.N.Nodup) (hr : RoomG k (A.deeper (lamEnv X scope s.heap.objs.size f c'))) : Cq Γ (lamCx X A outer s H E scope f c') (fun cls d _ H' => E cls d H') k :=
  ⟨hK, rfl, nd, takes_of rfl rfl rfl rfl, hr⟩
end
end Ev
/-! Ev34: short words for printed derivations. -/
namespace Ev
open PySem L2 PyProof.Rows LamX
section
variable {Γ : Gm} {X : Cx} {W : WX} {k : Nat} {pos : Pos}
/-- an operator's rule and its function of data -/
structure Op2 (Γ : Gm) (X : Cx) (fn : Value → Value → Sem Value) (o : Store → D → D → Option RV) : Prop where
  ex : ∃ r, OpR X fn r ∧ OpD Γ o r
theorem Cq.add (q : Cq Γ X W k) : Op2 Γ X (binaryOp .Add) addD := ⟨_, op_addD, by rw [q.hK]; exact add_ok⟩
theorem Cq.sub (q : Cq Γ X W k) : Op2 Γ X (binaryOp .Sub) subD := ⟨_, op_sub, sub_ok⟩
theorem Cq.mul (q : Cq Γ X W k) : Op2 Γ X (binaryOp .Mult) mulD := ⟨_, op_mulD, by rw [q.hK]; exact mul_ok⟩
theorem Cq.fdiv (q : Cq Γ X W k) : Op2 Γ X (binaryOp .FloorDiv) fdivD := ⟨_, op_fdivN, fdiv_ok⟩
theorem Cq.pow (q : Cq Γ X W k) : Op2 Γ X (binaryOp .Pow) powD := ⟨_, op_pow, pow_ok⟩
theorem Cq.mod (q : Cq Γ X W k) : Op2 Γ X (binaryOp .Mod) modD := ⟨_, op_modN, mod_ok⟩
theorem Cq.eq (q : Cq Γ X W k) : Op2 Γ X (compareOp .Eq) eqD := ⟨_, op_eqD (by have := q.room.room.un; omega), by rw [q.hK]; exact eq_ok⟩
theorem Cq.ne (q : Cq Γ X W k) : Op2 Γ X (compareOp .NotEq) neD := ⟨_, op_neD (by have := q.room.room.un; omega), by rw [q.hK]; exact ne_ok⟩
theorem Cq.isN (q : Cq Γ X W k) : Op2 Γ X (compareOp .Is) isND := ⟨_, op_isN, isN_ok⟩
theorem Cq.notN (q : Cq Γ X W k) : Op2 Γ X (compareOp .IsNot) notND := ⟨_, op_notN, notN_ok⟩
theorem Cq.in_ (q : Cq Γ X W k) : Op2 Γ X (compareOp .In) inD := ⟨_, op_hit (by have := q.room.room.un; omega), by rw [q.hK]; exact in_ok⟩
theorem Cq.nin (q : Cq Γ X W k) : Op2 Γ X (compareOp .NotIn) notInD := ⟨_, op_nohit (by have := q.room.room.un; omega), by rw [q.hK]; exact notIn_ok⟩
theorem Cq.lt (q : Cq Γ X W k) : Op2 Γ X (compareOp .Lt) ltD := ⟨_, op_ltO (by have := q.room.room.un; omega), by rw [q.hK]; exact ord_ok⟩
theorem Cq.le (q : Cq Γ X W k) : Op2 Γ X (compareOp .LtE) leD := ⟨_, op_leO (by have := q.room.room.un; omega), by rw [q.hK]; exact ord_ok⟩
theorem Cq.gt (q : Cq Γ X W k) : Op2 Γ X (compareOp .Gt) gtD := ⟨_, op_gtO (by have := q.room.room.un; omega), by rw [q.hK]; exact ord_ok⟩
theorem Cq.ge (q : Cq Γ X W k) : Op2 Γ X (compareOp .GtE) geD := ⟨_, op_geO (by have := q.room.room.un; omega), by rw [q.hK]; exact ord_ok⟩
theorem k_op {op : Operator} {a b : Expr} {f g : ME} {o : Store → D → D → Option RV} (ho : Op2 Γ X (binaryOp op) o) (ha : PE X a (rdE Γ W f)) (hb : PE X b (rdE Γ W g)) : PE X (.BinOp a op b pos) (rdE Γ W (opF o f g)) := by
  obtain ⟨r, h1, h2⟩ := ho.ex
  exact sd_op h1 h2 ha hb
theorem k_cmp {op : CmpOp} {a b : Expr} {f g : ME} {o : Store → D → D → Option RV} (ho : Op2 Γ X (compareOp op) o) (ha : PE X a (rdE Γ W f)) (hb : PE X b (rdE Γ W g)) (hm : behindInMarks op b = false := by first | exact nobehind _ (by decide) (by decide) | rfl) : PE X (.Compare a [op] [b] pos) (rdE Γ W (opF o f g)) := by
  obtain ⟨r, h1, h2⟩ := ho.ex
  exact sd_cmp h1 h2 ha hb hm
theorem k_cmpT {op : CmpOp} {a b : Expr} {f g : ME} {o : Store → D → D → Option RV} (ho : Op2 Γ X (compareOp op) o) (ha : PE X a (rdE Γ W f)) (hb : PE X b (rdE Γ W g)) (hm : behindInMarks op b = false := by first | exact nobehind _ (by decide) (by decide) | rfl) : PT X (.Compare a [op] [b] pos) (rdT Γ W (testF (opF o f g))) := by
  obtain ⟨r, h1, h2⟩ := ho.ex
  exact sd_cmpT h1 h2 ha hb hm
theorem k_v (i : Nat) {x : Str} (hN : X.N[i]? = some x := by rfl) (hv : Vis X.env.scope x := by first | exact Or.inl rfl | exact Or.inr (Or.inl rfl) | exact Or.inr (Or.inr rfl)) (hd : (x == ("__debug__" : Str)) = false := by decide) (hcd : (x == ("__classdict__" : Str)) = false := by decide) :
    PE X (.Name x pos) (rdE Γ W (varF i)) := sd_var hN hv hd hcd
theorem k_vT {e : Expr} {f : ME} (h : PE X e (rdE Γ W f)) (he : ∀ whole, isTrue e X.env whole = (do let v ← whole; standAt e.pos; holding [v] (truthy v)) := by intro _; rfl) : PT X e (rdT Γ W (testF f)) := sd_valT h he
theorem k_idx {a b : Expr} {f g : ME} (q : Cq Γ X W k) (ha : PE X a (rdE Γ W f)) (hb : PE X b (rdE Γ W g)) (hs : plainIx b = true := by rfl) : PE X (.Subscript a b pos) (rdE Γ W (opF idxD f g)) := sd_idx q.hK q.hu ha hb hs
theorem k_cons {e : Expr} {es : List Expr} {f : ME} {fs : List ME} (he : PE X e (rdE Γ W f)) (h : Sds Γ X W es fs) (hs : notStar e = true := by rfl) : Sds Γ X W (e :: es) (f :: fs) := .cons hs he h
theorem k_set (q : Cq Γ X W k) (mt : Bool) (i : Nat) {x : Str} {e : Expr} {f : ME} {pos' : Pos} (he : PE X e (rdE Γ W f)) (hi : X.N[i]? = some x := by rfl) (hx : Loc X.env.scope x := by first | exact Or.inl rfl | exact Or.inr rfl)
    (hs : swapsWith e (some (.Name x pos')) pos.line X.env = pure false := by rfl) (hf : X.fn x = true ∨ X.env.scope.names.lookup x = some .local := by first | exact Or.inl rfl | exact Or.inr rfl) : PS X (.Assign [.Name x pos'] e pos) (rdS Γ W (setS mt i f)) := sd_set q.nd hi hx he hs hf
/-- a call of a built-in -/
structure BlF (Γ : Gm) (X : Cx) (x : Str) (o : Store → List D → Option RV) : Prop where
  ex : (∃ id r, CallR X (.builtin id) r ∧ CallD Γ o r ∧ bootBuiltins x = some (.builtin id)) ∨ ∃ T r, CallR X (.type T) r ∧ CallD Γ o r ∧ bootBuiltins x = some (.type T)
  n1 : x ≠ "__name__"
  n2 : (x == ("__debug__" : Str)) = false
theorem k_call {x : Str} {o : Store → List D → Option RV} {p : Pos} {e : Expr} {es : List Expr} {fs : List ME} (B : BlF Γ X x o) (hm : X.mg x = none) (h : Sds Γ X W (e :: es) fs) (hg : Gl X x := by rfl) : PE X (.Call (.Name x p) (e :: es) [] pos) (rdE Γ W (bltF o (argsF fs))) := by
  obtain ⟨hex, n1, n2⟩ := B
  rcases hex with ⟨id, r, h1, h2, h3⟩ | ⟨T, r, h1, h2, h3⟩
  · exact sd_blt h1 h2 hg hm h3 h.pa h.ns n1 n2
  · exact sd_bty h1 h2 hg hm h3 h.pa h.ns n1 n2
theorem Cq.len (q : Cq Γ X W k) : BlF Γ X "len" lenD := ⟨.inl ⟨_, _, call_lenA, by rw [q.hK]; exact len_ok, boot_len⟩, by decide, by decide⟩
theorem Cq.int (q : Cq Γ X W k) : BlF Γ X "int" intD := ⟨.inr ⟨_, _, call_intA, int_ok, boot_int⟩, by decide, by decide⟩
theorem Cq.str (q : Cq Γ X W k) : BlF Γ X "str" strD := ⟨.inr ⟨_, _, call_str_int, str_ok, boot_str⟩, by decide, by decide⟩
theorem Cq.tuple (q : Cq Γ X W k) : BlF Γ X "tuple" tupleD := ⟨.inr ⟨_, _, call_tuple_of, by rw [q.hK]; exact tuple_ok, boot_tuple⟩, by decide, by decide⟩
theorem Cq.list (q : Cq Γ X W k) : BlF Γ X "list" listD := ⟨.inr ⟨_, _, call_list_of, by rw [q.hK]; exact list_ok, boot_list⟩, by decide, by decide⟩
theorem Cq.min2 (q : Cq Γ X W k) : BlF Γ X "min" min2D := ⟨.inl ⟨_, _, call_min2 q.hc, min2_ok, boot_min⟩, by decide, by decide⟩
theorem Cq.max2 (q : Cq Γ X W k) : BlF Γ X "max" max2D := ⟨.inl ⟨_, _, call_max2 q.hc, max2_ok, boot_max⟩, by decide, by decide⟩
theorem Cq.repr (q : Cq Γ X W k) (hs : (X.K.lookup sysModules).isSome = true) : BlF Γ X "repr" reprD := ⟨.inl ⟨_, _, call_repr q.hK hs q.room, repr_ok, boot_repr⟩, by decide, by decide⟩
end
end Ev
/-! Ev35: more short words: argument rows with store flags, globals, calls, classes. -/
namespace Ev
open PySem L2 PyProof.Rows LamX
/-- arguments; new objects become the store's where told -/
def argsM : List (Bool × ME) → MA
  | [] => fun _ S => .ok [] S
  | (mt, f) :: fs => fun env S => (f env S).bind fun x S1 => (argsM fs env (takeV mt x S1).2).bind fun xs S2 => .ok ((takeV mt x S1).1 :: xs) S2
section
variable {Γ : Gm} {X : Cx} {W : WX} {pos : Pos} {k : Nat}
theorem sd_consM {mt : Bool} {e : Expr} {es : List Expr} {f : ME} {fs : List (Bool × ME)} (hs : notStar e = true) (he : PE X e (rdE Γ W f)) (hr : PA X es (rdA Γ W (argsM fs))) : PA X (e :: es) (rdA Γ W (argsM ((mt, f) :: fs))) :=
  (pa_cons he hr (star_cons hs)).weak fun σ H Q h => by
    obtain ⟨env, S, μ, a, h⟩ := h
    unfold argsM at h
    rw [R.sat_bind] at h
    refine rd_use a (R.sat_imp h (fun r S' q => q) fun x S' q => q) fun r1 S1 v1 H1 μ1 x1 rv1 q1 => ?_
    obtain ⟨μ2, x2, s2, p2⟩ := take_ok (mt := mt) x1 rv1
    rw [R.sat_bind] at q1
    refine ⟨env, (takeV mt r1 S1).2, μ2, a.next x2 s2, R.sat_imp q1 (fun ds S2 q2 vs H2 μ3 x3 s3 rs => ?_) fun x S' q => q.ext x2⟩
    exact q2 _ _ _ (x2.trans x3) s3 (.cons (p2.ext x3) rs)
inductive Smd (Γ : Gm) (X : Cx) (W : WX) : List Expr → List (Bool × ME) → Prop
  | nil : Smd Γ X W [] []
  | cons {mt : Bool} {e : Expr} {es : List Expr} {f : ME} {fs : List (Bool × ME)} : notStar e = true → PE X e (rdE Γ W f) → Smd Γ X W es fs → Smd Γ X W (e :: es) ((mt, f) :: fs)
theorem Smd.pa {es : List Expr} {fs : List (Bool × ME)} (h : Smd Γ X W es fs) : PA X es (rdA Γ W (argsM fs)) := by
  induction h with
  | nil =>
    refine pa_nil.weak fun σ H Q h => ?_
    obtain ⟨env, S, μ, a, h⟩ := h
    exact h _ H μ .refl a.sim .nil
  | cons hs he _ ih => exact sd_consM hs he ih
theorem k_consM {mt : Bool} {e : Expr} {es : List Expr} {f : ME} {fs : List (Bool × ME)} (he : PE X e (rdE Γ W f)) (h : Smd Γ X W es fs) (hs : notStar e = true := by rfl) : Smd Γ X W (e :: es) ((mt, f) :: fs) := .cons hs he h
theorem k_par (q : Cq Γ X W k) (i j : Nat) {x y : Str} {a b : Expr} {fs : List (Bool × ME)} {px py pt : Pos} {kt k2 pt2} (h : Smd Γ X W [a, b] fs) (hi : X.N[i]? = some x := by rfl) (hj : X.N[j]? = some y := by rfl) (hij : i ≠ j := by decide)
    (hx : X.env.scope.names.lookup x = some .local := by rfl) (hy : X.env.scope.names.lookup y = some .local := by rfl)
    (hw : swappedStores [.Tuple [.Name x px, .Name y py] kt pt] (.Tuple [a, b] k2 pt2) X.env = pure (some [x, y]) := by rfl)
    (hs : swapsWithSole [.Tuple [.Name x px, .Name y py] kt pt] (.Tuple [a, b] k2 pt2) pos.line X.env = pure false := by rfl) :
    PS X (.Assign [.Tuple [.Name x px, .Name y py] kt pt] (.Tuple [a, b] k2 pt2) pos) (rdS Γ W (parS i j (argsM fs))) := sd_par q.hc q.nd hi hj hij hx hy h.pa hw hs
theorem k_par3 (q : Cq Γ X W k) (i j l : Nat) {x y z : Str} {a b c : Expr} {fs : List (Bool × ME)} {px py pz pt : Pos} {kt k2 pt2} (h : Smd Γ X W [a, b, c] fs) (hi : X.N[i]? = some x := by rfl) (hj : X.N[j]? = some y := by rfl) (hl : X.N[l]? = some z := by rfl) (hij : i ≠ j := by decide) (hil : i ≠ l := by decide) (hjl : j ≠ l := by decide)
    (hx : X.env.scope.names.lookup x = some .local := by rfl) (hy : X.env.scope.names.lookup y = some .local := by rfl) (hz : X.env.scope.names.lookup z = some .local := by rfl)
    (hw : swappedStores [.Tuple [.Name x px, .Name y py, .Name z pz] kt pt] (.Tuple [a, b, c] k2 pt2) X.env = pure (some [x, y, z]) := by rfl)
    (hs : swapsWithSole [.Tuple [.Name x px, .Name y py, .Name z pz] kt pt] (.Tuple [a, b, c] k2 pt2) pos.line X.env = pure false := by rfl) :
    PS X (.Assign [.Tuple [.Name x px, .Name y py, .Name z pz] kt pt] (.Tuple [a, b, c] k2 pt2) pos) (rdS Γ W (par3S i j l (argsM fs))) := sd_par3 q.hc q.nd hi hj hl hij hil hjl hx hy hz h.pa hw hs
/-! ### globals -/
def GS (mg : Str → Option Value) (x z : Str) : Prop := ∃ t, mg x = some (.str z t)
def GI (mg : Str → Option Value) (x : Str) (i : Int) : Prop := ∃ t, mg x = some (.int i t)
def GT (Γ : Gm) (mg : Str → Option Value) (x : Str) (d : D) : Prop := ∃ u, mg x = some (.ref u) ∧ ∀ H μ, Rep Γ H μ (.ref u) d
theorem k_gs {x z : Str} (h : GS X.mg x z) (hg : Gl X x := by rfl) (hdb : (x == ("__debug__" : Str)) = false := by decide) : PE X (.Name x pos) (rdE Γ W (conF (.str z))) := by
  obtain ⟨t, h⟩ := h
  exact sd_glbS hg h hdb
theorem k_gi {x : Str} {i : Int} (h : GI X.mg x i) (hg : Gl X x := by rfl) (hdb : (x == ("__debug__" : Str)) = false := by decide) : PE X (.Name x pos) (rdE Γ W (conF (.int i))) := by
  obtain ⟨t, h⟩ := h
  exact sd_glbI hg h hdb
theorem k_gt {x : Str} {d : D} (h : GT Γ X.mg x d) (hg : Gl X x := by rfl) (hdb : (x == ("__debug__" : Str)) = false := by decide) : PE X (.Name x pos) (rdE Γ W (conF d)) := by
  obtain ⟨u, h, r⟩ := h
  exact sd_glb hg h hdb r
/-! ### displays -/
theorem k_tup {es : List Expr} {fs : List ME} {j : Nat} (h : Sds Γ X W es fs) : PE X (.Tuple es j pos) (rdE Γ W (tupF (argsF fs))) := sd_tup h.pa
theorem k_lst {es : List Expr} {fs : List ME} (h : Sds Γ X W es fs) : PE X (.List es pos) (rdE Γ W (lstF (argsF fs))) := sd_lst h.pa
theorem k_and {es : List Expr} {fs : List ME} (h : Sds Γ X W es fs) (h0 : es ≠ [] := by simp) : PE X (.BoolOp .And es pos) (rdE Γ W (andVF fs)) := h.and h0
theorem k_or {es : List Expr} {fs : List ME} (h : Sds Γ X W es fs) (h0 : es ≠ [] := by simp) : PE X (.BoolOp .Or es pos) (rdE Γ W (orVF fs)) := h.or h0
theorem k_andT {es : List Expr} {fs : List MT} (h : Sdts Γ X W es fs) (h0 : es ≠ [] := by simp) : PT X (.BoolOp .And es pos) (rdT Γ W (andTF fs)) := (h.and h0).pt
theorem k_orT {es : List Expr} {fs : List MT} (h : Sdts Γ X W es fs) (h0 : es ≠ [] := by simp) : PT X (.BoolOp .Or es pos) (rdT Γ W (orTF fs)) := (h.or h0).pt
theorem k_disp {ks : List (Option Expr)} {vs : List Expr} {ps : List (ME × ME)} (h : Sps Γ X pos ks vs ps) (hall : ks.all (·.isSome) = true := by rfl) (hl : ks.length = vs.length := by rfl) (h0 : ks ≠ [] := by simp) (h15 : ks.length ≤ 15 := by decide) : PE X (.Dict ks vs pos) (rdE Γ W (dspF ps)) := sd_disp h hall hl h0 h15
/-! ### isinstance of built-in types -/
theorem k_isi (q : Cq Γ X W k) {x : Str} {T : String} {p p2 : Pos} {e : Expr} {f : ME} (he : PE X e (rdE Γ W f)) (hm : X.mg "isinstance" = none) (hmT : X.mg x = none) (hv : bootBuiltins x = some (.type T)) (hs : notStar e = true := by rfl) (hg : Gl X "isinstance" := by rfl) (hgT : Gl X x := by rfl) (hn : x ≠ "__name__" := by decide)
    (hdb : (x == ("__debug__" : Str)) = false := by decide) : PE X (.Call (.Name "isinstance" p) [e, .Name x p2] [] pos) (rdE Γ W (isiF (isTyD T) f)) := sd_isi q.hK hg hm he hs hgT hmT hv hn hdb
theorem k_isi2 (q : Cq Γ X W k) {x y : Str} {T U : String} {p p2 p3 p4 : Pos} {j : Nat} {e : Expr} {f : ME} (he : PE X e (rdE Γ W f)) (hm : X.mg "isinstance" = none) (hmT : X.mg x = none) (hmU : X.mg y = none) (hv : bootBuiltins x = some (.type T)) (hvU : bootBuiltins y = some (.type U)) (hs : notStar e = true := by rfl) (hg : Gl X "isinstance" := by rfl)
    (hgT : Gl X x := by rfl) (hn : x ≠ "__name__" := by decide) (hdb : (x == ("__debug__" : Str)) = false := by decide) (hgU : Gl X y := by rfl) (hnU : y ≠ "__name__" := by decide) (hdbU : (y == ("__debug__" : Str)) = false := by decide) :
    PE X (.Call (.Name "isinstance" p) [e, .Tuple [.Name x p2, .Name y p3] j p4] [] pos) (rdE Γ W (isiF (isTy2D T U) f)) := sd_isi2 q.hK hg hm he hs hgT hmT hv hn hdb hgU hmU hvU hnU hdbU
theorem k_isiO (q : Cq Γ X W k) {x : Str} {c : Nat} {cs : List Nat} {p p2 : Pos} {e : Expr} {f : ME} (ho : OwnIs Γ cs c) (he : PE X e (rdE Γ W f)) (hm : X.mg "isinstance" = none) (hmC : X.mg x = some (.ref (Γ.cls c))) (hs : notStar e = true := by rfl) (hg : Gl X "isinstance" := by rfl) (hgC : Gl X x := by rfl)
    (hdb : (x == ("__debug__" : Str)) = false := by decide) : PE X (.Call (.Name "isinstance" p) [e, .Name x p2] [] pos) (rdE Γ W (isiF (isOwnD cs c) f)) := sd_isiO q.hK ho hg hm he hs hgC hmC hdb
theorem k_isiX (q : Cq Γ X W k) {x : Str} {C : Nat} {ex : Nat → Option Bool} {p p2 : Pos} {e : Expr} {f : ME} (ho : ExOk Γ C ex) (he : PE X e (rdE Γ W f)) (hm : X.mg "isinstance" = none) (hmC : X.mg x = some (.ref (Γ.cls C))) (hs : notStar e = true := by rfl) (hg : Gl X "isinstance" := by rfl) (hgC : Gl X x := by rfl)
    (hdb : (x == ("__debug__" : Str)) = false := by decide) : PE X (.Call (.Name "isinstance" p) [e, .Name x p2] [] pos) (rdE Γ W (isiF (isExD ex) f)) := sd_isiX q.hK ho hg hm he hs hgC hmC hdb
/-! ### fields -/
theorem k_fld (q : Cq Γ X W k) {e : Expr} {f : Str} {fe : ME} {sx : Nat → Option Nat} (hsx : SxOk Γ f sx) (he : PE X e (rdE Γ W fe)) (hb : attributeBase e f X.env (eval e X.env) = eval e X.env := by rfl) : PE X (.Attribute e f pos) (rdE Γ W (fldF sx fe)) := sd_fld q.hK hsx he hb
theorem k_sfld (q : Cq Γ X W k) {o e : Expr} {f : Str} {fo fv : ME} {pos' : Pos} {sx : Nat → Option Nat} (hsx : SxOk Γ f sx) (ho : PE X o (rdE Γ W fo)) (hv : PE X e (rdE Γ W fv)) (hs : swapsWith e (some (.Attribute o f pos')) pos.line X.env = pure false := by rfl) :
    PS X (.Assign [.Attribute o f pos'] e pos) (rdS Γ W (sfldS sx fo fv)) := sd_sfld q.hK hsx ho hv hs
theorem k_err (q : Cq Γ X W k) {e : Expr} {n : Str} {f : ME} {fx : Nat → Bool} (hx : FxOk Γ n fx) (he : PE X e (rdE Γ W f)) (hb : attributeBase e n X.env (eval e X.env) = eval e X.env := by rfl) : PE X (.Attribute e n pos) (rdE Γ W (errF fx f)) := sd_err q.hK hx he hb
/-! ### slices -/
theorem k_sli (q : Cq Γ X W k) {e : Expr} {lo hi : Option Expr} {f : ME} {l u : Option ME} {p2 : Pos} (he : PE X e (rdE Γ W f)) (hl : Sdo Γ X W lo l) (hh : Sdo Γ X W hi u) : PE X (.Subscript e (.Slice lo hi none p2) pos) (rdE Γ W (sliF f l u)) := sd_sli q.hK he hl hh
theorem k_rev (q : Cq Γ X W k) {e : Expr} {f : ME} {j : Nat} {p1 p2 p3 : Pos} (he : PE X e (rdE Γ W f)) : PE X (.Subscript e (.Slice none none (some (.UnaryOp .USub (.Constant (.int 1) j p1) p2)) p3) pos) (rdE Γ W (revF f)) := sd_rev q.hK he
/-! ### loops -/
theorem k_iter (q : Cq Γ X W k) {tg e : Expr} {f : ME} (he : PE X e (rdE Γ W f)) : PI X tg e (rdI Γ W (iterF f)) := sd_iter q.hK he
theorem k_range1 {tg a : Expr} {f : ME} {p : Pos} (hm : X.mg "range" = none) (ha : PE X a (rdE Γ W f)) (hg : Gl X "range" := by rfl) (hs : notStar a = true := by rfl) : PI X tg (.Call (.Name "range" p) [a] [] pos) (rdI Γ W (rngF rng1D (argsF [f]))) := sd_range1 hg hm (sd_cons hs ha sd_nil) hs
theorem k_range2 {tg a b : Expr} {f g : ME} {p : Pos} (hm : X.mg "range" = none) (ha : PE X a (rdE Γ W f)) (hb : PE X b (rdE Γ W g)) (hg : Gl X "range" := by rfl) (hs : notStar a = true := by rfl) (hs2 : notStar b = true := by rfl) : PI X tg (.Call (.Name "range" p) [a, b] [] pos) (rdI Γ W (rngF rng2D (argsF [f, g]))) := sd_range2 hg hm (sd_cons hs ha (sd_cons hs2 hb sd_nil)) hs hs2
theorem k_zip2 (q : Cq Γ X W k) {a b : Expr} {fs : List ME} {elts : List Expr} {kk : Nat} {tpos p : Pos} (hm : X.mg "zip" = none) (h : Sds Γ X W [a, b] fs) (hg : Gl X "zip" := by rfl) (hs : notStar a = true := by rfl) (hs2 : notStar b = true := by rfl) : PI X (.Tuple elts kk tpos) (.Call (.Name "zip" p) [a, b] [] pos) (rdI Γ W (zip2F (argsF fs))) := sd_zip2 q.hK hg hm h.pa hs hs2
theorem k_zip3 (q : Cq Γ X W k) {a b c : Expr} {fs : List ME} {elts : List Expr} {kk : Nat} {tpos p : Pos} (hm : X.mg "zip" = none) (h : Sds Γ X W [a, b, c] fs) (hg : Gl X "zip" := by rfl) (hs : notStar a = true := by rfl) (hs2 : notStar b = true := by rfl) (hs3 : notStar c = true := by rfl) : PI X (.Tuple elts kk tpos) (.Call (.Name "zip" p) [a, b, c] [] pos) (rdI Γ W (zip3F (argsF fs))) := sd_zip3 q.hK hg hm h.pa hs hs2 hs3
theorem k_for (q : Cq Γ X W k) (hp : PassesOwn (model X.prog X.w) X.A X.env X.xe) {fuel : Nat} {t : Tg} {tg iter : Expr} {body : List Stmt} {it : MI} {b : MS} (hi : PI X tg iter (rdI Γ W it)) (hg : PG X tg (rdG Γ t)) (hb : PSs X body (rdS Γ W b))
    (hs : ∀ x, foldedSetIterable iter X.env x = pure x := by intro _; rfl) : PS X (.For tg iter body [] pos) (rdS Γ W (forS fuel t it b)) := sd_for q.hK hp q.hc hi hg hb hs
theorem k_gn (q : Cq Γ X W k) (i : Nat) {x : Str} (hi : X.N[i]? = some x := by rfl) (hx : Loc X.env.scope x := by first | exact Or.inl rfl | exact Or.inr rfl) (hf : X.fn x = true ∨ X.env.scope.names.lookup x = some .local := by first | exact Or.inl rfl | exact Or.inr rfl) : PG X (.Name x pos) (rdG Γ (.nm i)) := sg_name q.nd hi hx hf
theorem k_gc {e : Expr} {es : List Expr} {t : Tg} {ts : List Tg} (h1 : PG X e (rdG Γ t)) (h2 : PGs X es (rdGs Γ ts)) (hs : notStar e = true := by rfl) : PGs X (e :: es) (rdGs Γ (t :: ts)) := sgs_cons hs h1 h2
theorem k_gtp (q : Cq Γ X W k) {es : List Expr} {j : Nat} {ts : List Tg} (h : PGs X es (rdGs Γ ts)) (hs : es.all notStar = true := by rfl) (hl : es.length = ts.length := by rfl) : PG X (.Tuple es j pos) (rdG Γ (.tp ts)) := sg_tup q.hK q.hc hs hl h
theorem k_lc (q : Cq Γ X W k) (own : List (Str × Nat)) {fuel : Nat} {elt tgt iter : Expr} {ifs : List Expr} {scope : Scope} {t : Tg} {it : MI} {c : MT} {f : ME} (hi : PI X tgt iter (rdI Γ W it))
    (hg : ∀ (s : Shared) (H : Hp) (C : Addr) (cl : List (Str × Addr)) (fp : List Addr), PG (X.blk s H scope (compEnvC scope cl C X.env) fp) tgt (rdG Γ t)) (ht : ∀ (s : Shared) (H : Hp) (C : Addr) (cl : List (Str × Addr)) (fp : List Addr), PTs (X.blk s H scope (compEnvC scope cl C X.env) fp) ifs (rdT Γ WF c))
    (he : ∀ (s : Shared) (H : Hp) (C : Addr) (cl : List (Str × Addr)) (fp : List Addr), PE (X.blk s H scope (compEnvC scope cl C X.env) fp) elt (rdE Γ WF f)) (ok : blkC X.N X.env.scope scope own = true := by rfl)
    (hsl : t.slots.all (fun j => decide (j ∈ own.map (·.2))) = true := by rfl) (hs : ∀ x, foldedSetIterable iter X.env x = pure x := by intro _; rfl) :
    PE X (.ListComp elt [⟨tgt, iter, ifs, 0⟩] scope pos) (rdE Γ W (lcF fuel (own.map (·.2)) t it c f)) := sd_lc q.hc q.nd hi ok hsl hg ht he hs
theorem k_setLc (q : Cq Γ X W k) {mt : Bool} (i : Nat) (own : List (Str × Nat)) {y : Str} {py : Pos} {fuel : Nat} {elt tgt iter : Expr} {ifs : List Expr} {scope : Scope} {spos : Pos} {t : Tg} {it : MI} {c : MT} {f : ME} (hi : PI X tgt iter (rdI Γ W it))
    (hg : ∀ (s : Shared) (H : Hp) (C : Addr) (cl : List (Str × Addr)) (fp : List Addr), PG (X.blk s H scope (compEnvC scope cl C X.env) fp) tgt (rdG Γ t)) (ht : ∀ (s : Shared) (H : Hp) (C : Addr) (cl : List (Str × Addr)) (fp : List Addr), PTs (X.blk s H scope (compEnvC scope cl C X.env) fp) ifs (rdT Γ WF c))
    (he : ∀ (s : Shared) (H : Hp) (C : Addr) (cl : List (Str × Addr)) (fp : List Addr), PE (X.blk s H scope (compEnvC scope cl C X.env) fp) elt (rdE Γ WF f)) (hy : X.N[i]? = some y := by rfl) (hyl : X.env.scope.names.lookup y = some .local := by rfl)
    (hsw : swapsWith (.ListComp elt [⟨tgt, iter, ifs, 0⟩] scope pos) (some (.Name y py)) spos.line X.env = pure true := by rfl) (ok : blkC X.N X.env.scope scope own = true := by rfl)
    (hsl : t.slots.all (fun j => decide (j ∈ own.map (·.2))) = true := by rfl) (hs : ∀ x, foldedSetIterable iter X.env x = pure x := by intro _; rfl) :
    PS X (.Assign [.Name y py] (.ListComp elt [⟨tgt, iter, ifs, 0⟩] scope pos) spos) (rdS Γ W (setS mt i (lcF fuel (own.map (·.2)) t it c f))) := sd_setLc q.hc q.nd hy hyl hsw hi ok hsl hg ht he hs
/-! ### statements -/
theorem k_expr {e : Expr} {f : ME} (h : PE X e (rdE Γ W f)) (hs : swapsWith e none pos.line X.env = pure false := by rfl) : PS X (.Expr e pos) (rdS Γ W (dropS f)) := sd_expr h hs
theorem k_sub (q : Cq Γ X W k) {o i e : Expr} {fo fi fv : ME} {tpos : Pos} (ho : PE X o (rdE Γ W fo)) (hi : PE X i (rdE Γ W fi)) (he : PE X e (rdE Γ W fv))
    (ha : ∀ v, assign (.Subscript o i tpos) X.env v = (do
      let ov ← holding [v] (eval o X.env)
      let iv ← holding [v, ov] (eval i X.env)
      standAt tpos
      holding [v, ov, iv] (setItem ov iv v)
      release [v, ov, iv] []) := by intro _; rfl)
    (hs : swapsWithSole [.Subscript o i tpos] e pos.line X.env = pure false := by rfl) (hw : swappedStores [.Subscript o i tpos] e X.env = pure none := by rfl)
    (h1 : (assignEach [.Subscript o i tpos] X.env).map (·.2) = [assign (.Subscript o i tpos) X.env] := by rfl) : PS X (.Assign [.Subscript o i tpos] e pos) (rdS Γ W (subS fo fi fv)) := sd_sub q.hu ho hi he ha hs hw h1
theorem k_asg {tg e : Expr} {f : ME} {t : Tg} (he : PE X e (rdE Γ W f)) (hg : PG X tg (rdG Γ t)) (hs : swapsWithSole [tg] e pos.line X.env = pure false := by rfl) (hw : swappedStores [tg] e X.env = pure none := by rfl) (h1 : (assignEach [tg] X.env).map (·.2) = [assign tg X.env] := by rfl) :
    PS X (.Assign [tg] e pos) (rdS Γ W (asgS t f)) := sd_asg he hg hs hw h1
theorem k_append (q : Cq Γ X W k) {apos : Pos} {o e : Expr} {f g : ME} (ho : PE X o (rdE Γ W f)) (he : PE X e (rdE Γ W g)) (hs : notStar e = true := by rfl) (hbase : attributeBase o "append" X.env (eval o X.env) = eval o X.env := by rfl)
    (hfew : ((backTo pos (starEach [e] X.env)).all (fun x => !x.1) && (backToKw pos (keywordEach [] X.env)).all (fun x => x.1.isSome)
      && decide ([e].length + ([] : List Keyword).length + (if ([] : List Keyword).isEmpty then 0 else 1) < 30)) = true := by rfl)
    (hline : (apos.endLine == pos.line) = true := by rfl) : PE X (.Call (.Attribute o "append" apos) [e] [] pos) (rdE Γ W (mthF "list" appendD f (argsF [g]))) :=
  sd_mth q.hK PySem.F.plainAttrs_list PySem.F.slot_list_append PySem.F.type_list_append mt_append append_ok ho (sd_cons hs he sd_nil) hbase hfew hline (by rw [List.all_cons, hs]; rfl)
end
end Ev
/-! Ev36: what a program's defs and classes offer to their callers, in structures; short words for calls. -/
namespace Ev
open PySem L2 PyProof.Rows LamX
section
variable (Γ : Gm) (P : Program) (w : World) (K : PySem.W.Frag) (mg : Str → Option Value) (base : Heap) (g : Cfg) (k : Nat)
abbrev Tot (g : Cfg) (i n : Nat) : Prop := ∀ ds S, (g.call i ds S).sat (fun _ _ => True) (fun _ _ => True) → ds.length = n
/-- a def -/
structure Cal (i : Nat) (x : Str) (dfl : List D) : Prop where
  ex : ∃ f fd ps dvs dus, FnG P w K mg base (L2.CX P w) k f fd ps (spD Γ (g.call i) ps.length) ∧ mg x = some (.ref f) ∧ PySem.W.keepIn K (.ref f) = true ∧ Binds K fd ps dus ∧ Vals dvs dus ∧ (∀ H μ, Reps Γ H μ dvs dfl) ∧ Tot g i ps.length
/-- a method -/
structure Mth (c i : Nat) (mn : Str) (dfl : List D) : Prop where
  ex : ∃ f fd ps dvs dus, FnG P w K mg base (L2.CX P w) k f fd ps (spD Γ (g.call i) ps.length) ∧ SlX.SCls K (Γ.cls c) ∧ Meth K (Γ.cls c) mn f ∧ Binds K fd ps dus ∧ Vals dvs dus ∧ (∀ H μ, Reps Γ H μ dvs dfl) ∧ Tot g i ps.length
/-- a class's making -/
structure Mkc (c i : Nat) (dfl : List D) : Prop where
  ex : ∃ f fd ps dvs dus, FnG P w K mg base (L2.CX P w) k f fd ps (spD Γ (g.call i) ps.length) ∧ Mk K (Γ.cls c) f ∧ Binds K fd ps dus ∧ Vals dvs dus ∧ (∀ H μ, Reps Γ H μ dvs dfl) ∧ Tot g i ps.length
/-- an operator's method -/
structure Opm (c i : Nat) (nm : Str) : Prop where
  ex : ∃ f fd ps, FnG P w K mg base (L2.CX P w) k f fd ps (spD Γ (g.call i) 2) ∧ PySem.W.findIn K (.ref (Γ.cls c)) nm = some (some (.ref f)) ∧ PySem.W.isFn K (.ref f) = true ∧ PySem.W.fnIn K f = true ∧ Binds K fd ps []
/-- a classmethod -/
structure Cmt (n c i : Nat) (m : Str) : Prop where
  hn : Γ.fn n = Γ.cls c
  ex : ∃ p ga mc fd ps, FnG P w K mg base (L2.CX P w) k ga fd ps (spD Γ (g.call i) ps.length) ∧ ClX.CRead K (Γ.cls c) mc ∧ ClX.CMet K (Γ.cls c) mc m p ga ∧ Binds K fd ps [] ∧ Tot g i ps.length
/-- an own exception that is raised -/
structure Exr (c : Nat) : Prop where
  ex : ∃ fI ar B i newId bmB, SupR P K (Γ.cls c) fI (Γ.xf c) ar B i newId bmB
/-- a written dict -/
structure Kdt (x : Str) (kd : Str → Option D) : Prop where
  ex : ∃ u es n, mg x = some (.ref u) ∧ KDict K w u es n ∧ KdOk Γ u kd
/-- a written tuple of texts -/
structure Ttx (x : Str) (ys : List Str) : Prop where
  ex : ∃ u ob, mg x = some (.ref u) ∧ K.lookup u = some ob ∧ ob.cls = .type "tuple" ∧ ob.dict = none ∧ StaT K u (ys.map V.str)
end
section
variable {Γ : Gm} {X : Cx} {W : WX} {pos : Pos} {k m : Nat} {g : Cfg}
theorem Cq.wf (q : Cq Γ X W m) : Cq Γ X WF m := ⟨q.hK, q.hc, q.nd, fun u s' ⟨a, B, sI, pins, σ, H, cls, d, e, I, nb, up, sky, na, os, ag, w⟩ => w.elim, q.room⟩
theorem k_usr (q : Cq Γ X W m) {i : Nat} {dfl : List D} {x : Str} {p : Pos} {e : Expr} {es : List Expr} {fs : List ME} (C : Cal Γ X.prog X.w X.K X.mg X.base g k i x dfl) (h : Sds Γ X W (e :: es) fs) (hk : k ≤ m := by omega) (hg : Gl X x := by rfl) (hdb : (x == ("__debug__" : Str)) = false := by decide) :
    PE X (.Call (.Name x p) (e :: es) [] pos) (rdE Γ W (usrF i g dfl (argsF fs))) := by
  obtain ⟨f, fd, ps, dvs, dus, F, h1, h2, h3, h4, h5, h6⟩ := C.ex
  exact sd_usr q.tk F (q.room.mono hk) hg h1 h2 h3 h4 h5 h6 h.pa h.ns hdb
theorem k_usrM (q : Cq Γ X W m) {i : Nat} {dfl : List D} {x : Str} {p : Pos} {e : Expr} {es : List Expr} {fs : List (Bool × ME)} (C : Cal Γ X.prog X.w X.K X.mg X.base g k i x dfl) (h : Smd Γ X W (e :: es) fs) (hs : (e :: es).all notStar = true := by rfl) (hk : k ≤ m := by omega) (hg : Gl X x := by rfl) (hdb : (x == ("__debug__" : Str)) = false := by decide) :
    PE X (.Call (.Name x p) (e :: es) [] pos) (rdE Γ W (usrF i g dfl (argsM fs))) := by
  obtain ⟨f, fd, ps, dvs, dus, F, h1, h2, h3, h4, h5, h6⟩ := C.ex
  exact sd_usr q.tk F (q.room.mono hk) hg h1 h2 h3 h4 h5 h6 h.pa hs hdb
theorem k_usr0 (q : Cq Γ X W m) {i : Nat} {dfl : List D} {x : Str} {p : Pos} (C : Cal Γ X.prog X.w X.K X.mg X.base g k i x dfl) (hk : k ≤ m := by omega) (hg : Gl X x := by rfl) (hdb : (x == ("__debug__" : Str)) = false := by decide) :
    PE X (.Call (.Name x p) [] [] pos) (rdE Γ W (usrF i g dfl (argsF []))) := by
  obtain ⟨f, fd, ps, dvs, dus, F, h1, h2, h3, h4, h5, h6⟩ := C.ex
  exact sd_usr0 q.tk F (q.room.mono hk) hg h1 h2 h3 h4 h5 h6 hdb
theorem k_meth (q : Cq Γ X W m) {c i : Nat} {dfl : List D} {f : ME} {fs : List ME} {o e : Expr} {es : List Expr} {mn : Str} {apos : Pos} {pl : Sem Bool} (C : Mth Γ X.prog X.w X.K X.mg X.base g k c i mn dfl) (ho : PE X o (rdE Γ W f)) (h : Sds Γ X W (e :: es) fs) (hk : k ≤ m := by omega)
    (ht : eval (.Call (.Attribute o mn apos) (e :: es) [] pos) X.env = (do
      let ov ← eval o X.env
      standAt apos.atName
      let (f, first) ← holding [ov] (getMethod ov mn pl)
      callWith pos f first (backTo pos (starEach (e :: es) X.env)) (backToKw pos (keywordEach [] X.env))) := by rfl) :
    PE X (.Call (.Attribute o mn apos) (e :: es) [] pos) (rdE Γ W (methF c i g dfl f (argsF fs))) := by
  obtain ⟨f, fd, ps, dvs, dus, F, h1, h2, h3, h4, h5, h6⟩ := C.ex
  exact sd_meth q.tk ho h1 h2 F (q.room.mono hk) h3 h4 h5 h6 h.pa h.ns ht
theorem k_meth0 (q : Cq Γ X W m) {c i : Nat} {dfl : List D} {f : ME} {o : Expr} {mn : Str} {apos : Pos} {pl : Sem Bool} (C : Mth Γ X.prog X.w X.K X.mg X.base g k c i mn dfl) (ho : PE X o (rdE Γ W f)) (hk : k ≤ m := by omega)
    (ht : eval (.Call (.Attribute o mn apos) [] [] pos) X.env = (do
      let ov ← eval o X.env
      standAt apos.atName
      let (f, first) ← holding [ov] (getMethod ov mn pl)
      callWith pos f first (backTo pos (starEach [] X.env)) (backToKw pos (keywordEach [] X.env))) := by rfl) :
    PE X (.Call (.Attribute o mn apos) [] [] pos) (rdE Γ W (methF c i g dfl f (argsF []))) := by
  obtain ⟨f, fd, ps, dvs, dus, F, h1, h2, h3, h4, h5, h6⟩ := C.ex
  exact sd_meth0 q.tk ho h1 h2 F (q.room.mono hk) h3 h4 h5 h6 ht
theorem k_mk (q : Cq Γ X W m) {c i : Nat} {dfl : List D} {fs : List ME} {x : Str} {p : Pos} {e : Expr} {es : List Expr} (C : Mkc Γ X.prog X.w X.K X.mg X.base g k c i dfl) (hm : X.mg x = some (.ref (Γ.cls c))) (h : Sds Γ X W (e :: es) fs) (hk : k + 1 ≤ m := by omega) (hg : Gl X x := by rfl) (hdb : (x == ("__debug__" : Str)) = false := by decide) :
    PE X (.Call (.Name x p) (e :: es) [] pos) (rdE Γ W (mkF c i g dfl (argsF fs))) := by
  obtain ⟨f, fd, ps, dvs, dus, F, h1, h3, h4, h5, h6⟩ := C.ex
  exact sd_mk q.tk h1 F (q.room.mono hk) hg hm h3 h4 h5 h6 h.pa h.ns hdb
theorem k_mkZ (q : Cq Γ X W m) {c i : Nat} {dfl : List D} {fs : List ME} {x : Str} {p : Pos} {e : Expr} {es : List Expr} (C : Mkc Γ X.prog X.w X.K X.mg X.base g k c i dfl) (hm : X.mg x = some (.ref (Γ.cls c))) (h : Sds Γ X W (e :: es) fs) (hk : k + 1 ≤ m := by omega) (hg : Gl X x := by rfl) (hdb : (x == ("__debug__" : Str)) = false := by decide) :
    PE X (.Call (.Name x p) (e :: es) [] pos) (rdE Γ W (mkZF c i g dfl (argsF fs))) := by
  obtain ⟨f, fd, ps, dvs, dus, F, h1, h3, h4, h5, h6⟩ := C.ex
  exact sd_mkZ q.tk h1 F (q.room.mono hk) hg hm h3 h4 h5 h6 h.pa h.ns hdb
theorem k_mkV (q : Cq Γ X W m) {j n c i : Nat} {dfl : List D} {fs : List ME} {x : Str} {p : Pos} {e : Expr} {es : List Expr} (C : Mkc Γ X.prog X.w X.K X.mg X.base g k c i dfl) (hn : Γ.fn n = Γ.cls c) (h : Sds Γ X W (e :: es) fs) (hk : k + 1 ≤ m := by omega) (hN : X.N[j]? = some x := by rfl)
    (hvis : Vis X.env.scope x := by first | exact Or.inl rfl | exact Or.inr (Or.inl rfl) | exact Or.inr (Or.inr rfl)) (hdb : (x == ("__debug__" : Str)) = false := by decide) (hcd : (x == ("__classdict__" : Str)) = false := by decide) :
    PE X (.Call (.Name x p) (e :: es) [] pos) (rdE Γ W (mkVF j n c i g dfl (argsF fs))) := by
  obtain ⟨f, fd, ps, dvs, dus, F, h1, h3, h4, h5, h6⟩ := C.ex
  exact sd_mkV q.tk h1 hn F (q.room.mono hk) hN hvis h3 h4 h5 h6 h.pa h.ns hdb hcd
theorem k_cm0 (q : Cq Γ X W m) {n c i : Nat} {x mn : Str} {p0 apos : Pos} {pl : Sem Bool} (C : Cmt Γ X.prog X.w X.K X.mg X.base g k n c i mn) (hm : X.mg x = some (.ref (Γ.cls c))) (hk : k ≤ m := by omega) (hg : Gl X x := by rfl) (hdb : (x == ("__debug__" : Str)) = false := by decide)
    (ht : eval (.Call (.Attribute (.Name x p0) mn apos) [] [] pos) X.env = (do
      let ov ← eval (.Name x p0) X.env
      standAt apos.atName
      let (f, first) ← holding [ov] (getMethod ov mn pl)
      callWith pos f first (backTo pos (starEach [] X.env)) (backToKw pos (keywordEach [] X.env))) := by rfl) :
    PE X (.Call (.Attribute (.Name x p0) mn apos) [] [] pos) (rdE Γ W (cmF n i g [])) := by
  obtain ⟨p, ga, mc, fd, ps, F, h1, h2, h3, h4⟩ := C.ex
  exact sd_cm0 q.tk C.hn hg hm hdb h1 h2 F (q.room.mono hk) h3 .nil (fun H μ => .nil) h4 ht
theorem k_raise (q : Cq Γ X W m) {c : Nat} {x : Str} {p pos' : Pos} {e : Expr} {f : ME} (C : Exr Γ X.prog X.K c) (hm : X.mg x = some (.ref (Γ.cls c))) (he : PE X e (rdE Γ W f)) (hk : 1 ≤ m := by omega) (hg : Gl X x := by rfl) (hdb : (x == ("__debug__" : Str)) = false := by decide) (hs : notStar e = true := by rfl) :
    PS X (.Raise (some (.Call (.Name x p) [e] [] pos')) none pos) (rdS Γ W (raiS c f)) := by
  obtain ⟨fI, ar, B, i, newId, bmB, S⟩ := C.ex
  exact sd_raise (k := 0) q.hc q.tk S (q.room.mono hk) hg hm he hdb hs
theorem k_kd (q : Cq Γ X W m) {x : Str} {kd : Str → Option D} {p : Pos} {e : Expr} {f : ME} (C : Kdt Γ X.w X.K X.mg x kd) (he : PE X e (rdE Γ W f)) (hg : Gl X x := by rfl) (hdb : (x == ("__debug__" : Str)) = false := by decide) (hs : plainIx e = true := by rfl) :
    PE X (.Subscript (.Name x p) e pos) (rdE Γ W (kdF kd f)) := by
  obtain ⟨u, es, n, h1, h2, h3⟩ := C.ex
  exact sd_kd q.hK hg h1 hdb h2 h3 he hs
/-! ### own operators -/
theorem k_ownEq (q : Cq Γ X W m) {c i : Nat} {cs : List Nat} {a b : Expr} {f h : ME} (C : Opm Γ X.prog X.w X.K X.mg X.base g k c i "__eq__") (o : OwnY Γ cs c) (ha : PE X a (rdE Γ W f)) (hb : PE X b (rdE Γ W h)) (hk : k ≤ m := by omega) (hm : behindInMarks .Eq b = false := by first | exact nobehind _ (by decide) (by decide) | rfl) :
    PE X (.Compare a [.Eq] [b] pos) (rdE Γ W (opRF (own1D g c i cs) f h)) := by
  obtain ⟨ga, fd, ps, F, h1, h2, h3, h4⟩ := C.ex
  exact sd_cmpO (op_own1 (op := .Eq) (fun _ _ => rfl) h1 h2 F (q.room.mono hk) h4) (by rw [q.hK]; exact own1_ok o) ha hb hm
theorem k_ownEqT (q : Cq Γ X W m) {c i : Nat} {cs : List Nat} {a b : Expr} {f h : ME} (C : Opm Γ X.prog X.w X.K X.mg X.base g k c i "__eq__") (o : OwnY Γ cs c) (ha : PE X a (rdE Γ W f)) (hb : PE X b (rdE Γ W h)) (hk : k ≤ m := by omega) (hm : behindInMarks .Eq b = false := by first | exact nobehind _ (by decide) (by decide) | rfl) :
    PT X (.Compare a [.Eq] [b] pos) (rdT Γ W (testF (opRF (own1D g c i cs) f h))) := by
  obtain ⟨ga, fd, ps, F, h1, h2, h3, h4⟩ := C.ex
  exact sd_cmpOT (op_own1 (op := .Eq) (fun _ _ => rfl) h1 h2 F (q.room.mono hk) h4) (by rw [q.hK]; exact own1_ok o) ha hb hm
/-- what != wants of a class -/
structure NeC (Γ : Gm) (K : PySem.W.Frag) (c : Nat) : Prop where
  ne : PySem.W.findIn K (.ref (Γ.cls c)) "__ne__" = some (some (.builtin "object.__ne__"))
  ob : PySem.W.mroIn K (Γ.cls c) (.type "object") = some true
theorem k_ownNe (q : Cq Γ X W m) {c i : Nat} {cs : List Nat} {a b : Expr} {f h : ME} (C : Opm Γ X.prog X.w X.K X.mg X.base g k c i "__eq__") (n : NeC Γ X.K c) (o : OwnY Γ cs c) (ha : PE X a (rdE Γ W f)) (hb : PE X b (rdE Γ W h)) (hk : k + 1 ≤ m := by omega) (hm : behindInMarks .NotEq b = false := by first | exact nobehind _ (by decide) (by decide) | rfl) :
    PE X (.Compare a [.NotEq] [b] pos) (rdE Γ W (opRF (ownND g c i cs) f h)) := by
  obtain ⟨ga, fd, ps, F, h1, h2, h3, h4⟩ := C.ex
  exact sd_cmpO (op_ownN n.ne h1 h2 n.ob F (q.room.mono hk) h4) (by rw [q.hK]; exact ownN_ok o) ha hb hm
theorem k_ownNeT (q : Cq Γ X W m) {c i : Nat} {cs : List Nat} {a b : Expr} {f h : ME} (C : Opm Γ X.prog X.w X.K X.mg X.base g k c i "__eq__") (n : NeC Γ X.K c) (o : OwnY Γ cs c) (ha : PE X a (rdE Γ W f)) (hb : PE X b (rdE Γ W h)) (hk : k + 1 ≤ m := by omega) (hm : behindInMarks .NotEq b = false := by first | exact nobehind _ (by decide) (by decide) | rfl) :
    PT X (.Compare a [.NotEq] [b] pos) (rdT Γ W (testF (opRF (ownND g c i cs) f h))) := by
  obtain ⟨ga, fd, ps, F, h1, h2, h3, h4⟩ := C.ex
  exact sd_cmpOT (op_ownN n.ne h1 h2 n.ob F (q.room.mono hk) h4) (by rw [q.hK]; exact ownN_ok o) ha hb hm
theorem k_ownSub (q : Cq Γ X W m) {c i : Nat} {a b : Expr} {f h : ME} (C : Opm Γ X.prog X.w X.K X.mg X.base g k c i "__sub__") (hc : PySem.W.selfFirst X.K (Γ.cls c) = true) (ha : PE X a (rdE Γ W f)) (hb : PE X b (rdE Γ W h)) (hk : k ≤ m := by omega) :
    PE X (.BinOp a .Sub b pos) (rdE Γ W (opRF (ownBD g c i) f h)) := by
  obtain ⟨ga, fd, ps, F, h1, h2, h3, h4⟩ := C.ex
  exact sd_opR (op_ownB (op := .Sub) hc h1 h2 F (q.room.mono hk) h4) ownB_ok ha hb
theorem k_ixO (q : Cq Γ X W m) {c i : Nat} {a b : Expr} {f h : ME} (C : Opm Γ X.prog X.w X.K X.mg X.base g k c i "__getitem__") (ha : PE X a (rdE Γ W f)) (hb : PE X b (rdE Γ W h)) (hk : k + 1 ≤ m := by omega)
    (hsl : ∀ (x : Addr) (i : Value), subscripted b true (.ref x) i = runValue (.builtin "lifetime.subscript" ⟨[.ref x, i], []⟩) := by intro _ _; rfl) : PE X (.Subscript a b pos) (rdE Γ W (ixOF c i g f h)) := by
  obtain ⟨ga, fd, ps, F, h1, h2, h3, h4⟩ := C.ex
  exact sd_ixO q.hK q.tk h1 h3 h2 F (q.room.mono hk) h4 ha hb hsl
end
end Ev
/-! Ev37: T.index(e), lambdas handed to told: short words. -/
namespace Ev
open PySem L2 PyProof.Rows LamX
/-- the code object and the table of the def that makes lambdas -/
structure Lf (Γ : Gm) (mg : Str → Option Value) (base : Heap) (cd : Value) (qual : Str) : Prop where
  ex : ∃ c Pt, cd = .ref c ∧ TabB base mg c Pt ∧ (Pt, qual ++ "<lambda>") ∈ Γ.T ∧ ∀ p ∈ Γ.T, p.1 = Pt → p.2 = qual ++ "<lambda>"
/-- told, as X sees it -/
structure Tl (Γ : Gm) (X : Cx) (x : Str) (cm : Nat → Option Bool) (m3 : MS) : Prop where
  ex : ∃ (cs : List Value) (g : Addr) (a : Str) (pg : Arguments) (bg : List Stmt) (sg : Scope) (dV kV doc pm cdv ct oc : Value) (an od : Option Addr) (osl : Array (Option Value)) (Ng : List Str), CmOk Γ cs cm ∧ X.mg x = some (.ref g) ∧ PySem.W.keepIn X.K (.ref g) = true ∧
    X.K.lookup g = some ⟨oc, od, .func (PySem.W.fnOf x x pg bg sg dV kV doc pm an cdv ct), osl⟩ ∧ PySem.W.codeIn X.K cdv x = true ∧ L2.Binds X.K (PySem.W.fnOf x x pg bg sg dV kV doc pm an cdv ct) [a] [] ∧ FnScope Ng [a] sg ∧ Ng[0]? = some a ∧ Vis sg a ∧
    GivesTo3 X Ng x sg g cdv bg a (X.env.qual ++ "<lambda>") (TTold3 Γ cs m3) ∧ (a == ("__debug__" : Str)) = false ∧ (a == ("__classdict__" : Str)) = false
section
variable {Γ : Gm} {X : Cx} {W : WX} {pos : Pos} {k m : Nat}
theorem k_tix (q : Cq Γ X W m) {x : Str} {ys : List Str} {p apos : Pos} {e : Expr} {f : ME} (C : Ttx X.K X.mg x ys) (he : PE X e (rdE Γ W f)) (hg : Gl X x := by rfl) (hdb : (x == ("__debug__" : Str)) = false := by decide)
    (hbase : attributeBase (.Name x p) "index" X.env (eval (.Name x p) X.env) = eval (.Name x p) X.env := by rfl)
    (hfew : ((backTo pos (starEach [e] X.env)).all (fun x => !x.1) && (backToKw pos (keywordEach [] X.env)).all (fun x => x.1.isSome)
      && decide (([e] : List Expr).length + ([] : List Keyword).length + (if ([] : List Keyword).isEmpty then 0 else 1) < 30)) = true := by rfl)
    (hline : (apos.endLine == pos.line) = true := by rfl) (hs : notStar e = true := by rfl) : PE X (.Call (.Attribute (.Name x p) "index" apos) [e] [] pos) (rdE Γ W (tixF ys f)) := by
  obtain ⟨u, ob, h1, h2, h3, h4, h5⟩ := C.ex
  exact sd_tix q.hK hg h1 hdb h2 h3 h4 h5 he hbase hfew hline hs
theorem k_told (q : Cq Γ X W m) {x : Str} {cm : Nat → Option Bool} {m3 : MS} {params : Arguments} {body : Expr} {scope : Scope} {fL : ME} {p lpos : Pos} (T : Tl Γ X x cm m3) (L : Lf Γ X.mg X.base X.env.code X.env.qual)
    (hbody : ∀ (A : Around) (outer : List Env) (s : Shared) (H : Hp) (E : XK) (f c' : Addr), Cq Γ (lamCx X A outer s H E scope f c') (fun cls d _ H' => E cls d H') k → PE (lamCx X A outer s H E scope f c') body (rdE Γ (fun cls d _ H' => E cls d H') fL))
    (hk : k + 2 ≤ m := by omega) (hg : Gl X x := by rfl) (hL : lamSB X.env.scope scope = true := by rfl) (hdef : defaultsOf params X.env = ([], []) := by rfl)
    (hbind : ∀ (q : Str) (cl : List (Str × Addr)) (pm cv ctv : Value), bindArgs (PySem.W.kla_fn "<lambda>" q params body scope cl pm cv ctv) ⟨[], []⟩ = pure [] := by intro _ _ _ _ _; rfl)
    (hdb : (x == ("__debug__" : Str)) = false := by decide) : PE X (.Call (.Name x p) [.Lambda params body scope lpos] [] pos) (rdE Γ W (toldF cm m3 fL)) := by
  obtain ⟨cs, g, a, pg, bg, sg, dV, kV, doc, pm, cdv, ct, oc, an, od, osl, Ng, h1, h2, h3, h4, h5, h6, h7, h8, h9, h10, h11, h12⟩ := T.ex
  obtain ⟨c, Pt, hc, TB, hT, hu⟩ := L.ex
  exact sd_told h1 (pe_lamcallG hg h2 h3 h4 h5 h6 h7 h8 h9 h10 TB hc hT hu (q.room.mono hk) (lamS_by hL) hdef hbind (fun A outer s H E f c' hr => hbody A outer s H E f c' (Cq.lam q.hK q.nd hr)) hdb h11 h12)
def lamDB (N : List Str) (n : Str) (sc scope : Scope) : Bool :=
  decide (scope.kind = .function) && !scope.isCoroutine && !scope.isGenerator && (scope.names.all fun y => (!decide (y.2 = .local) || decide (y.1 = n)) && !decide (y.2 = .cell) && (!decide (y.2 = .free) || decide (sc.names.lookup y.1 = some .cell) || decide (sc.names.lookup y.1 = some .free))) && decide (scope.names.lookup n = some .local) && decide (n ∉ N)
theorem lamD_by {N : List Str} {n : Str} {sc scope : Scope} (h : lamDB N n sc scope = true) : LamD N n sc scope := by
  unfold lamDB at h
  simp only [Bool.and_eq_true, Bool.or_eq_true, Bool.not_eq_true', decide_eq_true_eq, decide_eq_false_iff_not, List.all_eq_true] at h
  obtain ⟨⟨⟨⟨⟨h1, h2⟩, h3⟩, h4⟩, h5⟩, h6⟩ := h
  refine ⟨h1, h2, h3, fun y hy => ⟨(h4 y hy).1.1, (h4 y hy).1.2⟩, fun y hy e => ?_, h5, h6⟩
  rcases (h4 y hy).2 with (q | q) | q
  · exact absurd e q
  · exact .inl q
  · exact .inr q
theorem k_toldD (q : Cq Γ X W m) (n : Str) {de : Expr} {v0 : V} {x : Str} {cm : Nat → Option Bool} {m3 : MS} {params : Arguments} {body : Expr} {scope : Scope} {fL : ME} {p lpos : Pos} (T : Tl Γ X x cm m3) (L : Lf Γ X.mg X.base X.env.code X.env.qual) (hde : PE X de (tC v0))
    (hbody : ∀ (A : Around) (outer : List Env) (s : Shared) (H : Hp) (E : XK) (f c' : Addr), Cq Γ (lamCx X A outer s H E scope f c') (fun cls d _ H' => E cls d H') k → PE (lamCx X A outer s H E scope f c') body (rdE Γ (fun cls d _ H' => E cls d H') fL))
    (hbind : ∀ (q : Str) (cl : List (Str × Addr)) (pm cv ctv : Value) (td : Addr), ∃ kb, bindArgs (klaFD "<lambda>" q params body scope cl pm cv ctv (.ref td)) ⟨[], []⟩ = seqItems? (.ref td) >>= kb ∧ ∀ v, kb (some #[v]) = pure [(n, v)])
    (hk : k + 2 ≤ m := by omega) (hg : Gl X x := by rfl) (hL : lamDB X.N n X.env.scope scope = true := by rfl) (hdef : defaultsOf params X.env = ([eval de X.env], []) := by rfl)
    (hdb : (x == ("__debug__" : Str)) = false := by decide) : PE X (.Call (.Name x p) [.Lambda params body scope lpos] [] pos) (rdE Γ W (toldF cm m3 fL)) := by
  obtain ⟨cs, g, a, pg, bg, sg, dV, kV, doc, pm, cdv, ct, oc, an, od, osl, Ng, h1, h2, h3, h4, h5, h6, h7, h8, h9, h10, h11, h12⟩ := T.ex
  obtain ⟨c, Pt, hc, TB, hT, hu⟩ := L.ex
  exact sd_told h1 (pe_lamcallD hg h2 h3 h4 h5 h6 h7 h8 h9 h10 TB hc hT hu (q.room.mono hk) (lamD_by hL) hdef hde hbind (fun A outer s H E f c' hr => hbody A outer s H E f c' (Cq.lam q.hK q.nd hr)) hdb h11 h12)
end
end Ev
/-! Ev38: what the head tells, as the structures of Ev36; own exceptions' texts. -/
namespace Ev
open PySem L2 PyProof.Rows LamX He
/-! ### own exceptions: the text of __init__ -/
abbrev KsV : Type := Option (Str × Str × Arguments × FuncBody × Scope × Addr × List Str × Value × Addr)
def ksW (K : PySem.W.Frag) (p : Str × Option Str) : KsV := match K.lookup (fAd K p) with
  | some ⟨_, _, .func fd, _⟩ => some (fd.name, fd.qualname, fd.params, fd.body, fd.scope, fd.globals, fd.closure.map (·.1), fd.defaults, fd.builtins)
  | _ => none
/-- an own exception: its name, its base's names, its field, its parameter, the def -/
structure ExD where
  cls : Str
  base : String
  init : String
  newId : String
  mro : List Value
  f : Str
  ar : Str
  qual : Str
  stm : Stmt
def ExD.at_ (d : ExD) : Str × Option Str := (d.cls, some "__init__")
def ExD.val (d : ExD) : KsV := some ("__init__", d.qual, defArgs d.stm, .stmts (defBody d.stm), defScope d.stm, mainGlobals, ["__class__"], .none, builtinsNs)
def ksB (prog : Program) (K : PySem.W.Frag) (d : ExD) (C fI : Addr) : Bool :=
  (match K.lookup fI with
    | some ⟨_, _, .func fd, _⟩ => (match fd.code, fd.closure with
      | .ref cda, [(_, cc)] => PySem.W.codeIn K (.ref cda) d.qual && (match K.lookup cda with
          | some ⟨_, _, .fields vs, _⟩ => (match vs[2]? with | some (Value.str file _) => ((prog.main.file : Str) == file) | _ => false)
          | _ => false) && (match K.lookup cc with
          | some ⟨_, _, .cell (some (.ref C')), _⟩ => decide (C' = C)
          | _ => false)
      | _, _ => false)
    | _ => false) &&
  ((PySem.W.clsIn K C).isSome && decide (PySem.W.mroIn K C (.ref C) = some true) && decide (PySem.W.subIn K (.ref C) (.type d.base) = some true) && decide (PySem.W.nsIn K mainGlobals "super" = some none) && decide (PySem.W.nsIn K cStatics "thirdparty.any" = some none) &&
   decide (PySem.W.ks_superIn K C C "__init__" = some (some (.builtin d.init))) && PySem.W.excInitIn K C d.mro d.newId && decide (PySem.W.findIn K (.ref C) "__setattr__" = some (some (.builtin "object.__setattr__"))) && PySem.W.excOver K C d.mro && decide (PySem.W.takerIn K C d.f = some none) && PySem.W.hasDictIn K C &&
   decide (PySem.W.findIn K (.ref C) "__init__" = some (some (.ref fI))) && decide (PySem.W.typeIn K (.ref fI) = some (.type "function")) && decide (PySem.W.subIn K (.ref C) (.type "BaseException") = some true) && decide (PySem.W.typeIn K (.ref C) = some (.type "type")) && PySem.W.keepIn K (.ref C))
theorem supR_of {prog : Program} {K : PySem.W.Frag} {d : ExD} {p0 p1 p2 p3 p4 p5 p6 p7 p8 p9 : Pos} {j : Nat} {txt : Str} {ag : Arg} (FB : PySem.ExcBaseFacts d.base d.newId d.init d.mro) (SF : PySem.StoreFacts d.base d.mro "object.__setattr__" "object") (KF : PySem.W.KxsFacts d.base d.init)
    (e : ksW K d.at_ = d.val) (c : ksB prog K d (ga K d.cls) (fAd K d.at_) = true) (hb : defBody d.stm = supBody p0 p1 p2 p3 p4 p5 p6 p7 p8 p9 j txt d.f d.ar) (hs : defScope d.stm = supScope d.ar) (hag : ((defArgs d.stm).posonlyargs ++ (defArgs d.stm).args).head? = some ag) (hself : ag.arg = "self")
    (hbind : ∀ (kV doc pm cdv ct : Value) (an : Option Addr) (cc : Addr) (x u : Value), bindArgs (PySem.W.ksFn "__init__" d.qual (defArgs d.stm) (supBody p0 p1 p2 p3 p4 p5 p6 p7 p8 p9 j txt d.f d.ar) (supScope d.ar) .none kV doc pm an cdv ct cc) ⟨[x, u], []⟩ = pure [(("self" : Str), x), (d.ar, u)])
    (hev : ∀ env : Env, ∃ pl : Sem Bool, eval (.Call (.Attribute (.Call (.Name "super" p0) [] [] p1) "__init__" p2) [.Constant (.str txt) j p3] [] p4) env = (do
      let ov ← attributeBase (.Call (.Name "super" p0) [] [] p1) "__init__" env (eval (.Call (.Name "super" p0) [] [] p1) env)
      standAt p2.atName
      let (f, first) ← holding [ov] (getMethod ov "__init__" pl)
      callWith p4 f first (backTo p4 (starEach [.Constant (.str txt) j p3] env)) []))
    (htop : (prog.main.scope.names.lookup ("super" : Str)).isSome = false) (n1 : (d.ar == ("self" : Str)) = false) (n2 : (d.ar == ("__class__" : Str)) = false) (n3 : (d.ar == ("super" : Str)) = false) (n4 : (d.ar == ("__debug__" : Str)) = false) :
    SupR prog K (ga K d.cls) (fAd K d.at_) d.f d.ar d.base d.init d.newId d.mro := by
  unfold ksB at c
  simp only [Bool.and_eq_true, decide_eq_true_eq] at c
  obtain ⟨c0, ⟨⟨⟨⟨⟨⟨⟨⟨⟨⟨⟨⟨⟨⟨⟨c1, c2⟩, c3⟩, c4⟩, c5⟩, c6⟩, c7⟩, c8⟩, c9⟩, c10⟩, c11⟩, c12⟩, c13⟩, c14⟩, c15⟩, c16⟩⟩ := c
  unfold ksW at e
  cases q : K.lookup (fAd K d.at_) with
  | none => rw [q] at e; cases e
  | some o =>
    obtain ⟨oc, od, dt, osl⟩ := o
    rw [q] at e c0
    cases dt with
    | func fd =>
      obtain ⟨a1, a2, a3, a4, a5, a6, a7, a8, a9, a10, a11, a12, a13, a14, a15⟩ := fd
      have e2 : (some (a1, a2, a3, a4, a5, a6, a7.map (·.1), a8, a15) : KsV) = d.val := e
      unfold ExD.val at e2
      simp only [Option.some.injEq, Prod.mk.injEq] at e2
      obtain ⟨h1, h2, h3, h4, h5, h6, h7, h8, h9⟩ := e2
      subst h1 h2 h3 h4 h5 h6 h8 h9
      cases a13 with
      | ref cda =>
        match a7, h7, c0 with
        | [(n, cc)], h7, c0 =>
          have hn : n = "__class__" := by simpa using h7
          subst hn
          simp only [Bool.and_eq_true] at c0
          obtain ⟨⟨c01, c02⟩, c03⟩ := c0
          split at c02
          · rename_i ccl cdd vs ccs qc
            split at c02
            · rename_i file tf qf
              split at c03
              · rename_i cl cld C' csl qq
                have hC := of_decide_eq_true c03
                subst hC
                obtain ⟨cd, hcd⟩ := Option.isSome_iff_exists.mp c1
                refine ⟨⟨FB, SF, KF, ⟨oc, od, "__init__", d.qual, defArgs d.stm, p0, p1, p2, p3, p4, p5, p6, p7, p8, p9, j, txt, .none, a9, a10, a11, a14, a12, cda, cc, osl, ccl, cl, cdd, cld, ccs, csl, vs, file, tf, ag, ?_, c01, qc, qf, c02, qq, hag, hself, fun s x u => .of_eq (hbind _ _ _ _ _ _ _ x u), hev⟩, ⟨cd, hcd⟩, c2, c3, c4, c5, c6, c7, c8, c9, c10, c11, htop, n1, n2, n3, n4⟩, c12, c13, c14, c15, c16⟩
                rw [q, ← hb, ← hs]
              · cases c03
            · cases c02
          · cases c02
      | _ => cases c0
    | _ => cases e
end Ev
/-! Ev39: the head's Hook, and checks of the written part. -/
namespace Ev
open PySem L2 PyProof.Rows LamX He
/-! ### the Hook: as hookX, over more addresses, with own exceptions' texts -/
/-- a def found by a path of one's own -/
structure GD where
  ad : PySem.W.Frag → Addr
  d : DefD
def fnWA (K : PySem.W.Frag) (a : Addr) : FnW := match K.lookup a with
  | some ⟨_, _, .func fd, _⟩ => some (fd.name, fd.qualname, fd.params, fd.body, fd.scope, fd.globals, fd.closure, fd.builtins)
  | _ => none
def gdB (K : PySem.W.Frag) (g : GD) : Bool := PySem.W.keepIn K (.ref (g.ad K)) && (match K.lookup (g.ad K) with
  | some ⟨_, _, .func fd, _⟩ => PySem.W.codeIn K fd.code g.d.qual && (dflB K fd.defaults (g.d.dvs K) && kwdB K fd.kwdefaults (g.d.kws K))
  | _ => false)
theorem gd_funD {K : PySem.W.Frag} {g : GD} (e : fnWA K (g.ad K) = g.d.val) (c : gdB K g = true) : ∃ fd, FunD K g.d.name g.d.qual g.d.params g.d.body g.d.scope (g.d.dvs K) (g.d.kws K) (g.ad K) fd := by
  obtain ⟨kp, c2⟩ := ba c
  unfold fnWA at e
  cases q : K.lookup (g.ad K) with
  | none =>
    rw [q] at c2
    cases c2
  | some o =>
    obtain ⟨oc, od, dt, osl⟩ := o
    rw [q] at c2 e
    cases dt with
    | func fd =>
      obtain ⟨n1, n2, n3, n4, n5, n6, n7, n8, n9, n10, n11, n12, n13, n14, n15⟩ := fd
      have e2 : (some (n1, n2, n3, n4, n5, n6, n7, n15) : FnW) = some (g.d.name, g.d.qual, g.d.params, .stmts g.d.body, g.d.scope, mainGlobals, [], builtinsNs) := e
      simp only [Option.some.injEq, Prod.mk.injEq] at e2
      obtain ⟨h1, h2, h3, h4, h5, h6, h7, h8⟩ := e2
      subst h1 h2 h3 h4 h5 h6 h7 h8
      have c3 : (PySem.W.codeIn K n13 g.d.qual && (dflB K n8 (g.d.dvs K) && kwdB K n9 (g.d.kws K))) = true := c2
      obtain ⟨k1, k2⟩ := ba c3
      obtain ⟨k3, k4⟩ := ba k2
      exact ⟨_, ⟨oc, od, n8, n9, n10, n11, n12, n13, n14, osl, rfl, q, k1, dflB_ok k3, kwdB_ok k4⟩, kp⟩
    | _ => cases c2
abbrev AlS : Type := AlX × List KsV × List FnW
def adS (g : Addr → Option Obj) (n : Nat) : List Addr := sysModules :: cStatics :: asD g n
def obsS (n : Nat) (fa : List Fa) (fn : List DefD) (ts : List Tab) (tf : List Defn) (xs : List ExD) (gs : List GD) (ex : PySem.W.Frag → Bool) (g : Addr → Option Obj) : AlS :=
  ((obsT fa fn ts (frT g (adS g n)), ex (frT g (adS g n)) && tabsB g tf (frT g (adS g n))), xs.map fun d => ksW (frT g (adS g n)) d.at_, gs.map fun d => fnWA (frT g (adS g n)) (d.ad (frT g (adS g n))))
def valS (fn : List DefD) (ts : List Tab) (xs : List ExD) (gs : List GD) (w : World) : AlS := (valX fn ts w, xs.map ExD.val, gs.map fun d => d.d.val)
structure SaysS (fa : List Fa) (fn : List DefD) (ts : List Tab) (tf : List Defn) (xs : List ExD) (gs : List GD) (ex : PySem.W.Frag → Bool) (w : World) (h : Heap) (K : PySem.W.Frag) : Prop where
  x : SaysX fa fn ts tf ex w h K
  ks : (xs.map fun d => ksW K d.at_) = xs.map ExD.val
  gs : (gs.map fun d => fnWA K (d.ad K)) = gs.map fun d => d.d.val
theorem saysS_of {n : Nat} {fa : List Fa} {fn : List DefD} {ts : List Tab} {tf : List Defn} {xs : List ExD} {gs : List GD} {ex : PySem.W.Frag → Bool} {w : World} {h : Heap} (e : obsS n fa fn ts tf xs gs ex h.get? = valS fn ts xs gs w) : SaysS fa fn ts tf xs gs ex w h (frT h.get? (adS h.get? n)) := by
  have e0 : (obsT fa fn ts (frT h.get? (adS h.get? n)), ex (frT h.get? (adS h.get? n)) && tabsB h.get? tf (frT h.get? (adS h.get? n))) = valX fn ts w := congrArg (fun z : AlS => z.1) e
  have e1 : obsT fa fn ts (frT h.get? (adS h.get? n)) = valT fn ts w := congrArg (fun z : AlX => z.1) e0
  have e2 : (ex (frT h.get? (adS h.get? n)) && tabsB h.get? tf (frT h.get? (adS h.get? n))) = true := congrArg (fun z : AlX => z.2) e0
  obtain ⟨h1, h2⟩ := ba e2
  have key : ∀ p ∈ tf, PySem.W.codeHdIn (frT h.get? (adS h.get? n)) (cT (frT h.get? (adS h.get? n)) p).1 (cT (frT h.get? (adS h.get? n)) p).2 = true ∧ ∃ o, h.get? (cT (frT h.get? (adS h.get? n)) p).2 = some o ∧ emptyTab o = true := fun p hp => by
    obtain ⟨h3, h4⟩ := ba (List.all_eq_true.mp h2 p hp)
    refine ⟨h3, ?_⟩
    cases q : h.get? (cT (frT h.get? (adS h.get? n)) p).2 with
    | none =>
      rw [q] at h4
      cases h4
    | some o =>
      rw [q] at h4
      exact ⟨o, rfl, h4⟩
  exact ⟨⟨e1, h1, fun p hp => (key p hp).1, fun p hp => by
    obtain ⟨_, o, q, z⟩ := key p hp
    exact frT_none q z, fun p hp => by
    obtain ⟨_, o, q, z⟩ := key p hp
    rw [q, emptyTab_eq z]⟩, congrArg (fun z : AlS => z.2.1) e, congrArg (fun z : AlS => z.2.2) e⟩
def hookS (n : Nat) (fa : List Fa) (fn : List DefD) (ts : List Tab) (tf : List Defn) (xs : List ExD) (gs : List GD) (ex : PySem.W.Frag → Bool) : PySem.W.Hook where
  α := AlS
  obs := fun s => obsS n fa fn ts tf xs gs ex s.heap.get?
  val := fun w => valS fn ts xs gs w
  says := fun w h => ∃ K : PySem.W.Frag, K.In h ∧ SaysS fa fn ts tf xs gs ex w h K
  of := fun _ _ e => ⟨_, frT_in, saysS_of e⟩
  keeps := fun _ _ _ ⟨K, hK, c⟩ k => ⟨K, PySem.W.Frag.In.keeps hK k, ⟨⟨c.x.t, c.x.more, c.x.hd, c.x.out, fun p hp => k _ _ (c.x.empty p hp)⟩, c.ks, c.gs⟩⟩
theorem obsS_eq {n : Nat} {fa : List Fa} {fn : List DefD} {ts : List Tab} {tf : List Defn} {xs : List ExD} {gs : List GD} {ex : PySem.W.Frag → Bool} {g : Addr → Option Obj} {s : Shared} (h : ∀ a, g a = s.heap.get? a) : obsS n fa fn ts tf xs gs ex g = (hookS n fa fn ts tf xs gs ex).obs s := by
  have e : g = s.heap.get? := funext h
  rw [e] <;> rfl
/-! ### checks -/
section
variable {K : PySem.W.Frag} {C : Addr} {m f : Str} {i : Nat}
def sclsB (K : PySem.W.Frag) (C : Addr) : Bool := PySem.W.plainGet K C Str.empty && PySem.W.isClsIn K C && PySem.W.plainOver K C && decide (PySem.W.findIn K (.ref C) "__setattr__" = some (some (.builtin "object.__setattr__")))
theorem sclsB_ok (h : sclsB K C = true) : SlX.SCls K C := by
  unfold sclsB at h
  simp only [Bool.and_eq_true, decide_eq_true_eq] at h
  exact ⟨h.1.1.1, h.1.1.2, h.1.2, h.2⟩
def sisiB (K : PySem.W.Frag) (C : Addr) : Bool := decide (PySem.W.findIn K (.ref C) "__class__" = some (some (.builtin "object.__class__"))) && decide (PySem.W.specialIn K (.builtin "object.__class__") "__get__" = some (some (.builtin "getset_descriptor.__get__"))) && decide (PySem.W.takesIn K (.builtin "object.__class__") = some true) && decide (PySem.W.mroIn K C (.type "object") = some true)
theorem sisiB_ok (h : sisiB K C = true) : SlX.SIsi K C := by
  unfold sisiB at h
  simp only [Bool.and_eq_true, decide_eq_true_eq] at h
  exact ⟨h.1.1.1, h.1.1.2, h.1.2, h.2⟩
def slotB (K : PySem.W.Frag) (C : Addr) (f : Str) (i : Nat) : Bool := decide (PySem.W.findIn K (.ref C) f = some (some (.ref (ma K C f)))) && decide (PySem.W.specialIn K (.ref (ma K C f)) "__get__" = some (some (.builtin "member_descriptor.__get__"))) && decide (PySem.W.takesIn K (.ref (ma K C f)) = some true) &&
  decide (PySem.W.typeIn K (.ref (ma K C f)) = some (.type "member_descriptor")) && decide (PySem.W.slotIn K (ma K C f) C = some i) && decide (i < 1000)
theorem slotB_ok (h : slotB K C f i = true) : SlX.Slot1 K C f (ma K C f) i := by
  unfold slotB at h
  simp only [Bool.and_eq_true, decide_eq_true_eq] at h
  exact ⟨h.1.1.1.1.1, h.1.1.1.1.2, h.1.1.1.2, h.1.1.2, h.1.2, h.2⟩
def mkB (K : PySem.W.Frag) (C : Addr) : Bool := PySem.W.makesIn K C && decide (PySem.W.findIn K (.ref C) "__init__" = some (some (.ref (ma K C "__init__")))) && PySem.W.isFn K (.ref (ma K C "__init__")) && PySem.W.keepIn K (.ref C)
theorem mkB_ok (h : mkB K C = true) : Mk K C (ma K C "__init__") := by
  unfold mkB at h
  simp only [Bool.and_eq_true, decide_eq_true_eq] at h
  exact ⟨h.1.1.1, h.1.1.2, h.1.2, h.2⟩
def methB (K : PySem.W.Frag) (C : Addr) (m : Str) : Bool := decide (PySem.W.findIn K (.ref C) m = some (some (.ref (ma K C m)))) && PySem.W.isFn K (.ref (ma K C m)) && PySem.W.keepIn K (.ref (ma K C m)) && PySem.W.fnIn K (ma K C m)
theorem methB_ok (h : methB K C m = true) : Meth K C m (ma K C m) ∧ PySem.W.fnIn K (ma K C m) = true := by
  unfold methB at h
  simp only [Bool.and_eq_true, decide_eq_true_eq] at h
  exact ⟨⟨h.1.1.1, h.1.1.2, h.1.2⟩, h.2⟩
def neB (K : PySem.W.Frag) (C : Addr) : Bool := decide (PySem.W.findIn K (.ref C) "__ne__" = some (some (.builtin "object.__ne__"))) && decide (PySem.W.mroIn K C (.type "object") = some true)
theorem neB_ok {Γ : Gm} {c : Nat} (h : neB K (Γ.cls c) = true) : NeC Γ K c := by
  unfold neB at h
  simp only [Bool.and_eq_true, decide_eq_true_eq] at h
  exact ⟨h.1, h.2⟩
/-- a classmethod m: its record and its def -/
def cmRec (K : PySem.W.Frag) (C : Addr) (m : Str) : Addr := match PySem.W.findCls K (.ref C) (.type "type") m with
  | some (.get _ (.ref p) _ _) => p
  | _ => 0
def cmDef (K : PySem.W.Frag) (C : Addr) (m : Str) : Addr := match PySem.W.recIn K (cmRec K C m) "classmethod" with
  | some (.ref g :: _) => g
  | _ => 0
def cmB (K : PySem.W.Frag) (C : Addr) (m : Str) : Bool := PySem.W.readsIn K C (.type "type") && decide (PySem.W.specialIn K (.ref C) "__getattribute__" = some (some (.builtin "type.__getattribute__"))) && (match PySem.W.findCls K (.ref C) (.type "type") m with
    | some (.get u (.ref p) v z) => decide (u = .builtin "classmethod.__get__") && decide (v = .none) && decide (z = .ref C) && (match PySem.W.recIn K p "classmethod" with | some (.ref g :: _) => PySem.W.fnIn K g | _ => false)
    | _ => false)
theorem cmB_ok (h : cmB K C m = true) : ClX.CRead K C (.type "type") ∧ ClX.CMet K C (.type "type") m (cmRec K C m) (cmDef K C m) := by
  unfold cmB at h
  simp only [Bool.and_eq_true, decide_eq_true_eq] at h
  obtain ⟨⟨h1, h2⟩, h3⟩ := h
  refine ⟨⟨h1, h2⟩, ?_⟩
  unfold cmDef cmRec
  split at h3
  · rename_i u p v z e
    simp only [Bool.and_eq_true, decide_eq_true_eq] at h3
    obtain ⟨⟨⟨rfl, rfl⟩, rfl⟩, h4⟩ := h3
    split at h4
    · rename_i g r e2
      exact ⟨e, ⟨_, e2⟩, h4⟩
    · cases h4
  · cases h3
def ownIsB (Γ : Gm) (cs : List Nat) (c : Nat) : Bool := (bTys.all fun T => decide (PySem.W.kitOne Γ.K (.type T) (.ref (Γ.cls c)) = some false)) && cs.all fun d => sclsB Γ.K (Γ.cls d) && sisiB Γ.K (Γ.cls d) && decide (PySem.W.kitOne Γ.K (.ref (Γ.cls d)) (.ref (Γ.cls c)) = some (d == c))
theorem ownIsB_ok {Γ : Gm} {cs : List Nat} {c : Nat} (h : ownIsB Γ cs c = true) : OwnIs Γ cs c := by
  unfold ownIsB at h
  simp only [Bool.and_eq_true, decide_eq_true_eq, List.all_eq_true] at h
  exact ⟨h.1, fun d hd => ⟨sclsB_ok (h.2 d hd).1.1, sisiB_ok (h.2 d hd).1.2, (h.2 d hd).2⟩⟩
def ownYB (Γ : Gm) (cs : List Nat) (c : Nat) : Bool := (bTys.all fun T => PySem.W.notFirst Γ.K (Γ.cls c) (.type T)) && cs.all fun d => PySem.W.notFirst Γ.K (Γ.cls c) (.ref (Γ.cls d))
theorem ownYB_ok {Γ : Gm} {cs : List Nat} {c : Nat} (h : ownYB Γ cs c = true) : OwnY Γ cs c := by
  unfold ownYB at h
  simp only [Bool.and_eq_true, List.all_eq_true] at h
  exact ⟨h.1, h.2⟩
/-! exceptions -/
def excB (K : PySem.W.Frag) (D : Addr) : Bool := decide (PySem.W.findIn K (.ref D) "__getattribute__" = some (some (.builtin "BaseException.__getattribute__"))) && decide (PySem.W.findIn K (.ref D) "__getattr__" = some none) && decide (PySem.W.subIn K (.ref D) (.type "BaseException") = some true) && PySem.W.hasDictIn K D &&
  decide (PySem.W.findIn K (.ref D) "__class__" = some (some (.builtin "object.__class__"))) && decide (PySem.W.specialIn K (.builtin "object.__class__") "__get__" = some (some (.builtin "getset_descriptor.__get__"))) && decide (PySem.W.takesIn K (.builtin "object.__class__") = some true) && decide (PySem.W.mroIn K D (.type "object") = some true)
theorem excB_ok {D : Addr} (h : excB K D = true) : ExcC K D := by
  unfold excB at h
  simp only [Bool.and_eq_true, decide_eq_true_eq] at h
  obtain ⟨⟨⟨⟨⟨⟨⟨h1, h2⟩, h3⟩, h4⟩, h5⟩, h6⟩, h7⟩, h8⟩ := h
  exact ⟨h1, h2, h3, h4, h5, h6, h7, h8⟩
/-- by a list of pairs -/
def exL (l : List (Nat × Bool)) (c : Nat) : Option Bool := l.lookup c
theorem lookup_memN {l : List (Nat × Bool)} {c : Nat} {b : Bool} (h : exL l c = some b) : (c, b) ∈ l := by
  unfold exL at h
  induction l with
  | nil => cases h
  | cons p r ih =>
    obtain ⟨d, e⟩ := p
    rw [List.lookup_cons] at h
    split at h
    · rename_i q
      cases h
      rw [beq_iff_eq.mp q]
      exact List.mem_cons_self
    · exact List.mem_cons_of_mem _ (ih h)
def exOkB (Γ : Gm) (C : Nat) (l : List (Nat × Bool)) : Bool := l.all fun p => excB Γ.K (Γ.cls p.1) && decide (PySem.W.kitOne Γ.K (.ref (Γ.cls p.1)) (.ref (Γ.cls C)) = some p.2)
theorem exOkB_ok {Γ : Gm} {C : Nat} {l : List (Nat × Bool)} (h : exOkB Γ C l = true) : ExOk Γ C (exL l) := fun c b e => by
  have q := List.all_eq_true.mp h _ (lookup_memN e)
  simp only [Bool.and_eq_true, decide_eq_true_eq] at q
  exact ⟨excB_ok q.1, q.2⟩
def cmOkB (Γ : Gm) (cs : List Value) (l : List (Nat × Bool)) : Bool := l.all fun p => decide (PySem.W.exmAny Γ.K (.ref (Γ.cls p.1)) cs = some p.2)
theorem cmOkB_ok {Γ : Gm} {cs : List Value} {l : List (Nat × Bool)} (h : cmOkB Γ cs l = true) : CmOk Γ cs (exL l) := fun c b e => of_decide_eq_true (List.all_eq_true.mp h _ (lookup_memN e))
def fxL (l : List Nat) (c : Nat) : Bool := l.contains c
def fxOkB (Γ : Gm) (n : Str) (l : List Nat) : Bool := l.all fun c => xfB Γ.K (Γ.cls c) && decide (PySem.W.findIn Γ.K (.ref (Γ.cls c)) n = some none) && decide (Γ.xf c = n)
theorem fxOkB_ok {Γ : Gm} {n : Str} {l : List Nat} (h : fxOkB Γ n l = true) : FxOk Γ n (fxL l) := fun c e => by
  have q := List.all_eq_true.mp h c (by simpa [fxL] using e)
  simp only [Bool.and_eq_true, decide_eq_true_eq] at q
  exact ⟨xfB_ok q.1.1, q.1.2, q.2⟩
/-! slots by name -/
def sxL (l : List (Nat × Nat)) (c : Nat) : Option Nat := l.lookup c
theorem lookup_memX {l : List (Nat × Nat)} {c b : Nat} (h : sxL l c = some b) : (c, b) ∈ l := by
  unfold sxL at h
  induction l with
  | nil => cases h
  | cons p r ih =>
    obtain ⟨d, e⟩ := p
    rw [List.lookup_cons] at h
    split at h
    · rename_i q
      cases h
      rw [beq_iff_eq.mp q]
      exact List.mem_cons_self
    · exact List.mem_cons_of_mem _ (ih h)
def sxOkB (Γ : Gm) (f : Str) (l : List (Nat × Nat)) : Bool := l.all fun p => sclsB Γ.K (Γ.cls p.1) && slotB Γ.K (Γ.cls p.1) f p.2
theorem sxOkB_ok {Γ : Gm} {f : Str} {l : List (Nat × Nat)} (h : sxOkB Γ f l = true) : SxOk Γ f (sxL l) := fun c i e => by
  have q := List.all_eq_true.mp h _ (lookup_memX e)
  simp only [Bool.and_eq_true] at q
  exact ⟨sclsB_ok q.1, _, slotB_ok q.2⟩
/-! written tuples of texts, dicts of them -/
def stB (K : PySem.W.Frag) (a : Addr) (ys : List Str) : Bool := match K.lookup a with
  | some ⟨.type c, none, .seq its _, _⟩ => decide (c = "tuple") && (decide (its.size ≤ sizeLine) && relAll (ys.map V.str) its.toList)
  | _ => false
theorem stB_ok {a : Addr} {ys : List Str} (h : stB K a ys = true) : StaT K a (ys.map V.str) ∧ ∃ ob, K.lookup a = some ob ∧ ob.cls = .type "tuple" ∧ ob.dict = none := by
  unfold stB at h
  split at h
  · rename_i c its n sl q
    obtain ⟨h1, h2⟩ := ba h
    obtain ⟨h3, h4⟩ := ba h2
    have e := of_decide_eq_true h1
    subst e
    exact ⟨⟨_, its, n, q, rfl, rfl, of_decide_eq_true h3, relAll_ok h4⟩, _, q, rfl, rfl⟩
  · cases h
theorem reps_strs {Γ : Gm} {H : Hp} {μ : Mu} : ∀ ys : List Str, Reps Γ H μ (ys.map V.str) (ys.map D.str)
  | [] => .nil
  | y :: ys => .cons (.str y) (reps_strs ys)
theorem st_rep {Γ : Gm} {a : Addr} {ys : List Str} (h : stB Γ.K a ys = true) (H : Hp) (μ : Mu) : Rep Γ H μ (.ref a) (.tup (ys.map D.str)) := .tup (.inr (stB_ok h).1) (reps_strs ys)
/-- a dict's texts: each key's value is the written tuple at a name -/
def kdL (l : List (Str × (Str × List Str))) (z : Str) : Option D := (l.find? fun p => decide (p.1 = z)).map fun p => .tup (p.2.2.map D.str)
def kdB (K : PySem.W.Frag) (u : Addr) (l : List (Str × (Str × List Str))) : Bool := l.all fun p => decide (PySem.W.nsIn K u p.1 = some (some (.ref (ga K p.2.1)))) && stB K (ga K p.2.1) p.2.2
theorem kdB_ok {Γ : Gm} {u : Addr} {l : List (Str × (Str × List Str))} (h : kdB Γ.K u l = true) : KdOk Γ u (kdL l) := fun z d e => by
  obtain ⟨p, hp, rfl⟩ := Option.map_eq_some_iff.mp e
  have hz0 := List.find?_some hp
  have hz : p.1 = z := by simpa using hz0
  have q := List.all_eq_true.mp h p (List.mem_of_find?_eq_some hp)
  simp only [Bool.and_eq_true, decide_eq_true_eq] at q
  exact ⟨.ref (ga Γ.K p.2.1), .ref (ga Γ.K p.2.1), by rw [← hz]; exact q.1, rfl, fun H μ => st_rep q.2 H μ⟩
end
end Ev
/-! Ev40: a program's defs, in numbers. -/
namespace Ev
open PySem L2 PyProof.Rows LamX He
section
variable {Γ : Gm} {P : Program} {w : World} {K : PySem.W.Frag} {mg : Str → Option Value} {base : Heap} {x qual : Str} {params : Arguments} {body : List Stmt} {scope : Scope} {dvs : List V} {kws : List (Str × V)} {f : Addr} {fd : FuncData} {Pg : Nat → Option Dfn} {fuel i k n nn : Nat} {b : Cfg → MS} {N ps : List Str}
theorem fn_all (hK : K = Γ.K) (FD : FunD K x qual params body scope dvs kws f fd) (S : FnScope N ps scope) (hP : Pg i = some ⟨ps.length, N.length, b⟩)
    (hb : ∀ (k : Nat) (cdv : Value) (A : Around) (outer : List Env) (s : Shared) (H : Hp) (E : XK), CodeAt K f cdv → Cq Γ (cxOf (L2.CX P w) P w K mg base N qual scope f cdv A outer s H E) (fun cls d _ H' => E cls d H') (6 * k + 5) →
      PSs (cxOf (L2.CX P w) P w K mg base N qual scope f cdv A outer s H E) body (rdS Γ (fun cls d _ H' => E cls d H') (b ⟨callN Pg fuel k, fuel⟩))) (k : Nat) : FnG P w K mg base (L2.CX P w) (6 * k) f fd ps (spD Γ (callN Pg fuel k i) ps.length) := by
  cases k with
  | zero =>
    refine ⟨fun vs H Q E h => h.1, fun A outer s H args us vs Q E hr e0 hbn r h => ?_⟩
    obtain ⟨_, ds, S, μ, _, _, _, z⟩ := h
    exact False.elim z
  | succ k =>
    have e : callN Pg fuel (k + 1) i = runD ps.length N.length (b ⟨callN Pg fuel k, fuel⟩) := by
      funext args S
      show (match Pg i with | some d => runD d.np d.nn (d.body ⟨callN Pg fuel k, fuel⟩) args S | none => .bad) = _
      rw [hP]
    rw [e]
    exact fnok_of (k := 6 * k + 5) FD S fun cdv A outer s H E hcd hr => hb k cdv A outer s H E hcd (Cq.ofDef hK S.nd hr)
theorem tot (hP : Pg i = some ⟨n, nn, b⟩) : Tot ⟨callN Pg fuel k, fuel⟩ i n := by
  intro ds S h
  cases k with
  | zero => exact False.elim h
  | succ k =>
    have h : (match Pg i with | some d => runD d.np d.nn (d.body ⟨callN Pg fuel k, fuel⟩) ds S | none => .bad : R RV).sat (fun _ _ => True) (fun _ _ => True) := h
    rw [hP] at h
    simp only [runD] at h
    split at h
    · split at h
      · assumption
      · exact False.elim h
    · exact False.elim h
theorem cal_of {g : Cfg} (F : FnG P w K mg base (L2.CX P w) k f fd ps (spD Γ (g.call i) ps.length)) (hm : mg x = some (.ref f)) (FD : FunD K x qual params body scope dvs kws f fd) (hb : Binds K fd ps []) (t : Tot g i ps.length) : Cal Γ P w K mg base g k i x [] :=
  ⟨f, fd, ps, [], [], F, hm, FD.kp, hb, .nil, fun _ _ => .nil, t⟩
theorem mth_of {g : Cfg} {c : Nat} {mn : Str} (F : FnG P w K mg base (L2.CX P w) k (ma K (Γ.cls c) mn) fd ps (spD Γ (g.call i) ps.length)) (hc : sclsB K (Γ.cls c) = true) (hm : methB K (Γ.cls c) mn = true) (hb : Binds K fd ps []) (t : Tot g i ps.length) : Mth Γ P w K mg base g k c i mn [] :=
  ⟨_, fd, ps, [], [], F, sclsB_ok hc, (methB_ok hm).1, hb, .nil, fun _ _ => .nil, t⟩
theorem mkc_of {g : Cfg} {c : Nat} (F : FnG P w K mg base (L2.CX P w) k (ma K (Γ.cls c) "__init__") fd ps (spD Γ (g.call i) ps.length)) (hm : mkB K (Γ.cls c) = true) (hb : Binds K fd ps []) (t : Tot g i ps.length) : Mkc Γ P w K mg base g k c i [] :=
  ⟨_, fd, ps, [], [], F, mkB_ok hm, hb, .nil, fun _ _ => .nil, t⟩
theorem opm_of {g : Cfg} {c : Nat} {nm : Str} (F : FnG P w K mg base (L2.CX P w) k (ma K (Γ.cls c) nm) fd ps (spD Γ (g.call i) 2)) (hm : methB K (Γ.cls c) nm = true) (hb : Binds K fd ps []) : Opm Γ P w K mg base g k c i nm :=
  ⟨_, fd, ps, F, (methB_ok hm).1.at_, (methB_ok hm).1.fn, (methB_ok hm).2, hb⟩
theorem cmt_of {g : Cfg} {c n : Nat} {m : Str} (hn : Γ.fn n = Γ.cls c) (F : FnG P w K mg base (L2.CX P w) k (cmDef K (Γ.cls c) m) fd ps (spD Γ (g.call i) ps.length)) (h : cmB K (Γ.cls c) m = true) (hb : Binds K fd ps []) (t : Tot g i ps.length) : Cmt Γ P w K mg base g k n c i m :=
  ⟨hn, _, _, _, fd, ps, F, (cmB_ok h).1, (cmB_ok h).2, hb, t⟩
end
theorem tdistL {α : Type} {tf : List α} {c : α → Addr} {l : α → Str} (nd : (tf.map c).Nodup) {z : Addr × Str} (hz : z ∈ tf.map fun p => (c p, l p)) {p : α} (e : z.1 = c p) {i : Nat} (hp : tf[i]? = some p) : z.2 = l p := by
  obtain ⟨q, hq, rfl⟩ := List.mem_map.mp hz
  have hp' := List.mem_of_getElem? hp
  obtain ⟨a, ha, ea⟩ := List.getElem_of_mem hq
  obtain ⟨b, hb, eb⟩ := List.getElem_of_mem hp'
  have : a = b := by
    have e2 : (tf.map c)[a]'(by simpa using ha) = (tf.map c)[b]'(by simpa using hb) := by simp only [List.getElem_map, ea, eb]; exact e
    exact (List.getElem_inj nd).mp e2
  subst this
  rw [← ea, eb]
def clsBody : Stmt → List Stmt
  | .ClassDef _ _ _ b _ _ _ _ _ _ _ => b
  | _ => []
def yesT : MT := fun _ S => .ok true S
theorem pts_nilR {Γ : Gm} {X : Cx} {W : WX} : PTs X [] (rdT Γ W yesT) := ⟨fun pins s σ H Q I h => pts_nil.run pins s σ H Q I (by
  obtain ⟨env, S, μ, a, h⟩ := h
  exact h H μ .refl a.sim)⟩
/-! ### what the head tells, in all -/
structure Ft (fa : List Fa) (fn : List DefD) (ts : List Tab) (tf : List Defn) (xs : List ExD) (gs : List GD) (cks : List (PySem.W.Frag → Bool)) (w : World) (K : PySem.W.Frag) (mg : Str → Option Value) (base : Heap) : Prop where
  hh : ∃ h : Heap, K.In h ∧ h.Ns mainGlobals mg ∧ SaysS fa fn ts tf xs gs (fun K => cks.all fun c => c K) w h K
  tb : ∀ p ∈ tf, TabB base mg (cT K p).1 (cT K p).2
section
variable {fa : List Fa} {fn : List DefD} {ts : List Tab} {tf : List Defn} {xs : List ExD} {gs : List GD} {cks : List (PySem.W.Frag → Bool)} {w : World} {K : PySem.W.Frag} {mg : Str → Option Value} {base : Heap}
theorem Ft.glo (F : Ft fa fn ts tf xs gs cks w K mg base) (i : Nat) {x : Str} (h : fa[i]? = some (.glo x) := by rfl) : mg x = some (.ref (ga K x)) := by
  obtain ⟨hp, X, G, c⟩ := F.hh
  exact glo_ok X G (c.x.t.d.fact i h)
theorem Ft.free (F : Ft fa fn ts tf xs gs cks w K mg base) (i : Nat) {x : Str} (h : fa[i]? = some (.free x) := by rfl) : mg x = none := by
  obtain ⟨hp, X, G, c⟩ := F.hh
  exact free_ok X G (c.x.t.d.fact i h)
theorem Ft.str (F : Ft fa fn ts tf xs gs cks w K mg base) (i : Nat) {x z : Str} (h : fa[i]? = some (.str x z) := by rfl) : GS mg x z := by
  obtain ⟨hp, X, G, c⟩ := F.hh
  exact He.str_ok X G (c.x.t.d.fact i h)
theorem Ft.int (F : Ft fa fn ts tf xs gs cks w K mg base) (i : Nat) {x : Str} {z : Int} (h : fa[i]? = some (.int x z) := by rfl) : GI mg x z := by
  obtain ⟨hp, X, G, c⟩ := F.hh
  exact He.int_ok X G (c.x.t.d.fact i h)
theorem Ft.chk (F : Ft fa fn ts tf xs gs cks w K mg base) (i : Nat) {c : PySem.W.Frag → Bool} (h : cks[i]? = some c := by rfl) : c K = true := by
  obtain ⟨hp, X, G, s⟩ := F.hh
  exact List.all_eq_true.mp s.x.more c (List.mem_of_getElem? h)
theorem Ft.def_ (F : Ft fa fn ts tf xs gs cks w K mg base) (i : Nat) {d : DefD} (h : fn[i]? = some d := by rfl) : ∃ fd, FunD K d.name d.qual d.params d.body d.scope (d.dvs K) (d.kws K) (fAd K d.at_) fd := by
  obtain ⟨hp, X, G, c⟩ := F.hh
  exact c.x.t.d.def_ i h
theorem Ft.tab (F : Ft fa fn ts tf xs gs cks w K mg base) (i : Nat) {t : Tab} (h : ts[i]? = some t := by rfl) : ∃ es n, KDict K w (t.1 K) es n := by
  obtain ⟨hp, X, G, c⟩ := F.hh
  exact c.x.t.tab i h
theorem Ft.ks (F : Ft fa fn ts tf xs gs cks w K mg base) (i : Nat) {d : ExD} (h : xs[i]? = some d := by rfl) : ksW K d.at_ = d.val := by
  obtain ⟨hp, X, G, c⟩ := F.hh
  have e2 : (xs.map fun d => ksW K d.at_)[i]? = (xs.map ExD.val)[i]? := by rw [c.ks]
  rw [List.getElem?_map, List.getElem?_map, h] at e2
  exact Option.some.inj e2
theorem Ft.gd (F : Ft fa fn ts tf xs gs cks w K mg base) (i : Nat) {d : GD} (hc : gdB K d = true) (h : gs[i]? = some d := by rfl) : ∃ fd, FunD K d.d.name d.d.qual d.d.params d.d.body d.d.scope (d.d.dvs K) (d.d.kws K) (d.ad K) fd := by
  obtain ⟨hp, X, G, c⟩ := F.hh
  have e2 : (gs.map fun d => fnWA K (d.ad K))[i]? = (gs.map fun d => d.d.val)[i]? := by rw [c.gs]
  rw [List.getElem?_map, List.getElem?_map, h] at e2
  exact gd_funD (Option.some.inj e2) hc
/-- the code object and table of a def -/
theorem Ft.lf (F : Ft fa fn ts tf xs gs cks w K mg base) {Γ : Gm} {p : Defn} {q : Str} {cd : Value} (hp : p ∈ tf) (hc : CodeAt K (fAd K p) cd) (hT : ((cT K p).2, q ++ "<lambda>") ∈ Γ.T) (hu : ∀ z ∈ Γ.T, z.1 = (cT K p).2 → z.2 = q ++ "<lambda>") : Lf Γ mg base cd q := by
  obtain ⟨oc, od, fd, osl, lk, e, q', hq⟩ := hc
  obtain ⟨c, rfl⟩ := codeIn_ref hq
  have ec : codeOf K p = c := codeOf_eq lk e
  refine ⟨c, (cT K p).2, rfl, ?_, hT, hu⟩
  have := F.tb p hp
  rw [show (cT K p).1 = c from ec] at this
  exact this
end
end Ev
/-! Ev41: a law's end: its def, called with the script as a list of data. -/
namespace Ev
open PySem PySem.Spec L2 PyProof.Rows LamX He
/-- the heap at the call: the tables, empty, and the script -/
def H0 (a : Addr) (o : Obj) (ts : List Addr) (ns : List Int) : Hp := fun b => if b = a then some (.frz o (.lst (ns.map V.int))) else if b ∈ ts then some (.tbl #[]) else none
section
variable {P : Program} {w : World} {K : PySem.W.Frag} {mg mb : Str → Option Value} {k : Nat} {fa a : Addr} {cs : List (Addr × Addr)} {fd : FuncData} {x : Str} {s₁ : Shared} {vs : List Value} {ns : List Int} {Γ : Gm} {f : List D → Store → R RV}
theorem law_callG (KX : K.In s₁.heap) (hns : s₁.heap.Ns mainGlobals mg) (hb : s₁.heap.Ns builtinsNs mb) (hbb : ∀ x : Str, x ≠ "__name__" → mb x = bootBuiltins x) (hlim : s₁.heap.NoLimit) (hg : s₁.gens = #[])
    (hT : ∀ p ∈ cs, s₁.heap.get? p.2 = some { cls := .none, data := .fields #[] }) (nT : ∀ p ∈ cs, K.lookup p.2 = none) (C : ∀ p ∈ cs, PySem.W.CodeHd s₁.heap p.1 p.2)
    (hbm : ∃ (bm : Addr) (ob : Obj), mg "__builtins__" = some (.ref bm) ∧ bm ≠ builtinsNs ∧ s₁.heap.get? bm = some ob ∧ ob.cls = .type "module" ∧ ob.dict = some builtinsNs ∧ ob.data = .plain)
    (ha : s₁.heap.get? a = some { cls := .type "list", data := .seq vs.toArray }) (hi : IntsAre vs ns) (hl : ns.length ≤ sizeLine) (hr : RoomG k callerA) (nl : K.lookup a = none)
    (F : ∀ base : Heap, K.In base → base.Ns mainGlobals mg → (∀ p ∈ cs, TabB base mg p.1 p.2) → FnG P w K mg base (L2.CX P w) k fa fd [x] (spD Γ f 1)) (hbind : ∀ (s : Shared) (u : Value), BindsTo s fd ⟨[u], []⟩ [(x, u)])
    (hΓ : ∀ p ∈ Γ.T, p.1 ∈ cs.map (·.2)) (hsat : (f [.scr (ns.map D.int)] []).sat (fun r _ => r = .val (.bl true)) (fun _ _ => False)) :
    codeAny (model P w) callerA (.call (.ref fa) ⟨[.ref a], []⟩) (fun r s' => r = .ok (.ret (.bool true)) ∧ OldK s₁.heap s'.heap ∧ s'.os = s₁.os ∧ AllBare s'.gens) s₁ := by
  have rv := vals_ints hi
  let L : List Addr := cs.map (·.2)
  let o : Obj := { cls := .type "list", data := .seq vs.toArray }
  let H : Hp := H0 a o L ns
  have tabAt : ∀ b ∈ L, s₁.heap.get? b = some { cls := .none, data := .fields #[] } := fun b hb => by
    obtain ⟨p, hp, rfl⟩ := List.mem_map.mp hb
    exact hT p hp
  have aT : a ∉ L := fun z => by
    have q := (tabAt a z).symm.trans ha
    cases congrArg Obj.data (Option.some.inj q)
  have Ha : H a = some (.frz o (.lst (ns.map V.int))) := if_pos rfl
  have HT : ∀ b ∈ L, H b = some (.tbl #[]) := fun b hb => (if_neg fun z : b = a => aT (z ▸ hb)).trans (if_pos hb)
  have HN : ∀ b, b ≠ a → b ∉ L → H b = none := fun b h1 h2 => (if_neg h1).trans (if_neg h2)
  -- what stands at an address that H knows
  have known : ∀ b u, H b = some u → (b = a ∧ u = .frz o (.lst (ns.map V.int))) ∨ (b ∈ L ∧ u = .tbl #[]) := fun b u e => by
    by_cases h1 : b = a
    · subst h1
      exact .inl ⟨rfl, Option.some.inj (e.symm.trans Ha)⟩
    · by_cases h2 : b ∈ L
      · exact .inr ⟨h2, Option.some.inj (e.symm.trans (HT b h2))⟩
      · rw [HN b h1 h2] at e
        cases e
  -- other objects are not known to H
  have other : ∀ {b : Addr} {u : Obj}, s₁.heap.get? b = some u → (∀ us n, u.data ≠ .seq us n) → u.data ≠ .fields #[] → H b = none := fun {b u} e h1 h2 => by
    by_cases e1 : b = a
    · rw [e1, ha] at e
      cases e
      exact (h1 _ _ rfl).elim
    · by_cases e2 : b ∈ L
      · rw [tabAt b e2] at e
        cases e
        exact (h2 rfl).elim
      · exact HN b e1 e2
  have dictN : ∀ {b : Addr} {u : Obj} {es : Array DictEntry} {ep : Nat}, s₁.heap.get? b = some u → u.data = .dict es ep → H b = none := fun {b u es ep} e d =>
    other e (fun us n z => by rw [d] at z; cases z) fun z => by rw [d] at z; cases z
  have nsB : ∀ {b : Addr} {m : Str → Option Value}, s₁.heap.Ns b m → (hidT s₁.heap H).Ns b m := fun {b m} ⟨u, es, ep, e, d, r⟩ => ⟨u, es, ep, hidT_get e (dictN e d), d, r⟩
  have KB : K.In (hidT s₁.heap H) := fun b u e => hidT_get (KX b u e) (by
    cases q : H b with
    | none => rfl
    | some v =>
      rcases known b v q with ⟨rfl, _⟩ | ⟨hb2, _⟩
      · rw [nl] at e; cases e
      · obtain ⟨p, hp, rfl⟩ := List.mem_map.mp hb2
        rw [nT p hp] at e; cases e)
  have hM : L2.Mod K mg (hidT s₁.heap H) := ⟨KB, nsB hns, ⟨mb, nsB hb, hbb⟩, let ⟨mc, h1, h2⟩ := hlim; ⟨mc, nsB h1, h2⟩⟩
  have TB : ∀ p ∈ cs, TabB (hidT s₁.heap H) mg p.1 p.2 := fun p hp => by
    refine ⟨?_, ?_, fun z => ?_⟩
    · obtain ⟨u, us, file, tf, flags, tg, inF, text, tt, e1, r1, r2, r3, r⟩ := C p hp
      refine ⟨u, us, file, tf, flags, tg, inF, text, tt, hidT_get e1 (other e1 (fun vs n z => by rw [r2] at z; cases z) fun z => ?_), r1, r2, r3, r⟩
      rw [r2] at z
      cases z
      simp at r3
    · obtain ⟨bm, ob, b1, b2, b3, b4, b5, b6⟩ := hbm
      refine ⟨bm, ob, b1, b2, fun q => ?_, fun q => ?_, hidT_get b3 (other b3 (fun vs n z => by rw [b6] at z; cases z) fun z => by rw [b6] at z; cases z), b4, b5, b6⟩
      · obtain ⟨u, es, ep, e, hd, _⟩ := hns
        rw [q, e] at b3
        cases b3
        rw [hd] at b6
        cases b6
      · rw [q, hT p hp] at b3
        cases b3
        cases b6
    · obtain ⟨u, es, ep, e, hd, _⟩ := hns
      rw [z, hT p hp] at e
      cases e
      cases hd
  have hok : HOk P w H s₁.heap := fun b u z => by
    rcases known b u z with ⟨rfl, rfl⟩ | ⟨hb2, rfl⟩
    · exact ⟨ha, by rw [List.length_map]; exact hl, vs, _, rv, ha⟩
    · exact tabAt b hb2
  have e0 : Env0 P w K mg (hidT s₁.heap H) callerA [] s₁ H := ⟨rfl, hM, fun b u e => of_hidT e, Nat.le_of_eq (hidT_size _ _), trivial, fun b hb => absurd (show b ∈ ([] : List Addr) from hb) (by simp), hok, .of_eq hg⟩
  have hsp : spD Γ f 1 [.ref a] H (fun v _ => v = .bl true) fun _ _ _ => False := by
    refine ⟨rfl, [.scr (ns.map D.int)], [], ⟨[], []⟩, ⟨rfl, List.nodup_nil, fun n b ob h _ => by simp at h, fun b hb => absurd (show b ∈ ([] : List Addr) from hb) (by simp), fun b hb => absurd (show b ∈ ([] : List Addr) from hb) (by simp)⟩, fun p hp => ?_, .cons (.scr (vs := ns.map V.int) ⟨Ha, by simp, by simp⟩ ?_) .nil, R.sat_imp hsat (fun r S e => ?_) fun _ _ z => z.elim⟩
    · exact ⟨#[], HT _ (hΓ p hp), trivial, fun pos cv z => by cases z⟩
    · clear hsat
      induction ns with
      | nil => exact .nil
      | cons i r ih => exact .cons (.int i) (by
          have : ∀ l : List Int, Reps Γ H ⟨[], []⟩ (l.map V.int) (l.map D.int) := fun l => by
            induction l with
            | nil => exact .nil
            | cons j t ih => exact .cons (.int j) ih
          exact this r)
    · subst e
      intro v H' μ' _ hv
      obtain ⟨_, r⟩ := hv
      cases r
      rfl
  refine codeAny_mono ((F _ KB (nsB hns) TB).run callerA [] s₁ H ⟨[.ref a], []⟩ [.ref a] [.ref a] _ _ hr e0 (hbind s₁ (.ref a)) (.cons rfl .nil) hsp) fun r s' h => ?_
  cases r with
  | error e =>
    obtain ⟨_, _, _, _, _, _, _, _, _, _, _, _, z⟩ := h
    exact z.elim
  | ok fl =>
    cases fl with
    | next => exact False.elim h
    | brk => exact False.elim h
    | cont => exact False.elim h
    | ret u =>
      obtain ⟨v, H', os, bare, un, hok', r', q⟩ := h
      have q' : v = .bl true := q
      subst q'
      obtain rfl : u = Value.bool true := r'
      have key : ∀ b u, b ∉ L → s₁.heap.get? b = some u → s'.heap.get? b = some u := fun b u nb e => by
        cases q : H b with
        | none => exact un.keep b u e q (by intro z; exact absurd (show b ∈ ([] : List Addr) from z) (by simp)) (by simp)
        | some v =>
          rcases known b v q with ⟨rfl, rfl⟩ | ⟨hb2, _⟩
          · have z2 := un.frzs b o _ q
            obtain ⟨e2, _⟩ := hok' b _ z2
            rw [ha] at e
            cases e
            exact e2
          · exact absurd hb2 nb
      refine ⟨rfl, ⟨fun b u e => ?_, fun b u e => ?_⟩, os, bare⟩
      · by_cases hb2 : b ∈ L
        · obtain ⟨p, hp, rfl⟩ := List.mem_map.mp hb2
          obtain ⟨more, z⟩ := un.tbls p.2 #[] (HT p.2 hb2)
          have hm := hok' p.2 _ z
          rw [hT p hp] at e
          cases e
          exact .inr (.inl ⟨((C p hp).tab (hT p hp)).isCodeTable, rfl, #[], _, rfl, by rw [Array.empty_append]; exact hm⟩)
        · exact .inl (key b u hb2 e)
      · by_cases hb2 : b ∈ L
        · obtain ⟨more, z⟩ := un.tbls b #[] (HT b hb2)
          exact ⟨_, hok' b _ z⟩
        · exact ⟨u, key b u hb2 e⟩
end
/-- what the head's facts give at the law's call -/
structure LawG (l : PySem.W.OpenLaw) (w : World) (K : PySem.W.Frag) (Γ : Gm) (f : List D → Store → R RV) (k : Nat) (x : Str) (mg : Str → Option Value) (fa : Addr) (h : Heap) : Prop where
  ex : ∃ (fd : FuncData) (cs : List (Addr × Addr)), (∀ p ∈ cs, h.get? p.2 = some { cls := .none, data := .fields #[] }) ∧ (∀ p ∈ cs, K.lookup p.2 = none) ∧ (∀ p ∈ cs, PySem.W.CodeHd h p.1 p.2) ∧ (∀ (s : Shared) (u : Value), BindsTo s fd ⟨[u], []⟩ [(x, u)]) ∧ (∀ p ∈ Γ.T, p.1 ∈ cs.map (·.2)) ∧
    ∀ base : Heap, K.In base → base.Ns mainGlobals mg → (∀ p ∈ cs, TabB base mg p.1 p.2) → FnG l.prog w K mg base (L2.CX l.prog w) k fa fd [x] (spD Γ f 1)
  nl : ∀ (b : Addr) (o : Obj), K.lookup b = some o → o.cls ≠ .type "list"
theorem walk_G {l : PySem.W.OpenLaw} {n k : Nat} {q : Program} {loose : List Str} {XP : (Str → Option Value) → Heap → Prop} {YP : World → Heap → Prop} {d : DefRec} {x : Str} {Γ : PySem.W.Frag → Gm} {f : List D → Store → R RV}
    (hn : l.most = some n) (hn2 : n ≤ sizeLine) (hdf : d.params.defaults = []) (hr : RoomG k callerA)
    (F : ∀ (w : World) (mg : Str → Option Value) (fa : Addr) (h : Heap), YP w h → h.Ns mainGlobals mg → mg d.name = some (.ref fa) → ∃ K : PySem.W.Frag, K.In h ∧ LawG l w K (Γ K) f k x mg fa h)
    (hf : ∀ ns : List Int, ns.length ≤ n → (∀ z ∈ ns, Builtin.Int.intBits z ≤ 1048576) → (f [.scr (ns.map D.int)] []).sat (fun r _ => r = .val (.bl true)) (fun _ _ => False)) :
    PySem.W.WalkO q loose XP YP l.row.toRowW d [] (fun f vs => PySem.call f vs) := by
  refine Att.attach_callB hn hdf fun w s₀ s₁ mg mb fa o pm cd doc a vs ns G Y ho hd hcd hmg hobj hints hlen hbits hg => ?_
  obtain ⟨K, KX, ⟨fd, cs, hT, nT, C, hb, hG, hF⟩, nl⟩ := F w mg fa _ Y G.T.g hmg
  refine law_callG KX G.T.g G.T.b G.T.builtins G.T.nolimit hg hT nT C G.T.bmain hobj hints (Nat.le_trans hlen hn2) hr ?_ hF hb hG (hf ns hlen hbits)
  cases e : K.lookup a with
  | none => rfl
  | some u =>
    have := (KX a u e).symm.trans hobj
    cases this
    exact (nl a _ e rfl).elim
end Ev
/-! Ev42: reckoning with functions of data: calls with and without references, loops, texts, draws. -/
namespace Ev
open PySem L2
/-! ### data without references -/
mutual
theorem resD_free (g : Nat → Option D) : ∀ d : D, free d = true → resD g d = some d
  | .non, _ => rfl
  | .bl _, _ => rfl
  | .int _, _ => rfl
  | .str _, _ => rfl
  | .tup xs, h => by unfold resD; rw [resDs_free g xs h]; rfl
  | .lst xs, h => by unfold resD; rw [resDs_free g xs h]; rfl
  | .scr xs, h => by unfold resD; rw [resDs_free g xs h]; rfl
  | .dct ks vs, h => by unfold resD; rw [resDs_free g vs h]; rfl
  | .ins c fs, h => by unfold resD; rw [resDs_free g fs h]; rfl
  | .exc c d, h => by unfold resD; rw [resD_free g d h]; rfl
  | .glb _, _ => rfl
  | .clo _ _, _ => rfl
  | .ref _, h => by cases h
theorem resDs_free (g : Nat → Option D) : ∀ ds : List D, frees ds = true → resDs g ds = some ds
  | [], _ => rfl
  | d :: ds, h => by
    obtain ⟨h1, h2⟩ := Bool.and_eq_true_iff.mp (show (free d && frees ds) = true from h)
    unfold resDs
    rw [resD_free g d h1, resDs_free g ds h2]
end
theorem outR_free {S : Store} {lo : Nat} {d : D} (h : free d = true) : outR S lo (.val d) = some (.val d) := by
  cases d with
  | ref n => cases h
  | _ =>
    unfold outR
    simp only [resD_free _ _ h, Option.map_some]
theorem outR_lst {S : Store} {lo : Nat} {xs : List D} (h : frees xs = true) : outR S lo (.new (.lst xs)) = some (.new (.lst xs)) := by
  show ((resDs _ xs).map Ob.lst).map RV.new = _
  rw [resDs_free _ _ h]; rfl
theorem outR_dct {S : Store} {lo : Nat} {ks xs : List D} (h : frees xs = true) : outR S lo (.new (.dct ks xs)) = some (.new (.dct ks xs)) := by
  show ((resDs _ xs).map (Ob.dct ks)).map RV.new = _
  rw [resDs_free _ _ h]; rfl
/-- a list of the store, handed out -/
theorem outR_ref {S : Store} {lo n : Nat} {xs : List D} (h : frees xs = true) (hl : lo ≤ n) (hs : S[n]? = some (.lst xs)) : outR S lo (.val (.ref n)) = some (.new (.lst xs)) := by
  show (if n < lo then none else match S[n]? with | some ob => (resOb (resN S lo n resFuel) ob).map RV.new | none => none) = _
  rw [if_neg (by omega), hs]
  show ((resDs _ xs).map Ob.lst).map RV.new = _
  rw [resDs_free _ _ h]; rfl
theorem argRefs_free : ∀ {ds : List D}, frees ds = true → argRefs ds = []
  | [], _ => rfl
  | d :: ds, h => by
    obtain ⟨h1, h2⟩ := Bool.and_eq_true_iff.mp (show (free d && frees ds) = true from h)
    have ih := argRefs_free h2
    cases d with
    | ref n => cases h1
    | _ => exact ih
theorem argIn_free {fs : List Nat} {d : D} (h : free d = true) : argIn fs d = some d := by
  cases d with
  | ref n => cases h
  | _ =>
    unfold argIn
    simp only [h, if_true]
theorem argsIn_free {fs : List Nat} : ∀ {ds : List D}, frees ds = true → argsIn fs ds = some ds
  | [], _ => rfl
  | d :: ds, h => by
    obtain ⟨h1, h2⟩ := Bool.and_eq_true_iff.mp (show (free d && frees ds) = true from h)
    unfold argsIn
    rw [argIn_free h1, argsIn_free h2]
/-- how a body's end is handed out -/
def endR (lo : Nat) (back : Store → Option Store) : RS → R RV
  | .nx _ S' => match back S' with | some S2 => .ok (.val .non) S2 | none => .bad
  | .ret r S' => match outR S' lo r, back S' with | some z, some S2 => .ok z S2 | _, _ => .bad
  | .ex x _ S' => match resD (resN S' lo S'.length resFuel) x, back S' with | some y, some S2 => .ex y S2 | _, _ => .bad
  | _ => .bad
/-- a call without references -/
theorem runD_free {np nn : Nat} {body : MS} {args : List D} {S : Store} (hf : frees args = true) (hn : args.length = np) : runD np nn body args S = endR 0 (fun _ => some S) (body (args.map some ++ List.replicate (nn - np) none) []) := by
  unfold runD
  simp only [argRefs_free hf, argsIn_free hf, pick, if_pos hn, putBack, List.length_nil]
  rfl
/-- a call with one reference ahead -/
theorem runD_ref {np nn n : Nat} {body : MS} {args : List D} {S : Store} {o : Ob} (hf : frees args = true) (hn : args.length + 1 = np) (hs : S[n]? = some o) (ho : o.free = true) :
    runD np nn body (.ref n :: args) S = endR 1 (fun S' => match S'[0]? with | some ob => if ob.free then some (S.set n ob) else none | none => none) (body ((D.ref 0 :: args).map some ++ List.replicate (nn - np) none) [o]) := by
  have e1 : argRefs (.ref n :: args) = [n] := by
    simp only [argRefs, argRefs_free hf]
    rfl
  have e2 : argsIn [n] (.ref n :: args) = some (.ref 0 :: args) := by
    unfold argsIn
    rw [argsIn_free hf]
    have : argIn [n] (.ref n) = some (.ref 0) := by
      unfold argIn
      simp [List.idxOf?, List.findIdx?_cons]
    rw [this]
  have e3 : pick S [n] = some [o] := by
    simp only [pick, hs, ho, if_true]
  have e4 : ∀ S' : Store, putBack S S' [n] 0 = match S'[0]? with | some ob => if ob.free then some (S.set n ob) else none | none => none := fun S' => by
    simp only [putBack]
    cases S'[0]? with
    | none => rfl
    | some ob => cases ob.free <;> rfl
  unfold runD
  simp only [e1, e2, e3, e4, List.length_cons, hn, if_true, List.length_nil]
  rfl
/-! ### loops -/
theorem forL_ind {t : Tg} {body : MS} (I : Nat → EnvD → Store → Prop) : ∀ (ds : List D) (i : Nat) (env : EnvD) (S : Store), (∀ j d env S, ds[j]? = some d → I (i + j) env S → ∃ e1, bindT t d env = some e1 ∧ ∃ e2 S2, (body e1 S = .nx e2 S2 ∨ body e1 S = .cnt e2 S2) ∧ I (i + j + 1) e2 S2) →
    I i env S → ∃ e2 S2, forL t body ds env S = .nx e2 S2 ∧ I (i + ds.length) e2 S2
  | [], i, env, S, _, h => ⟨env, S, rfl, h⟩
  | d :: ds, i, env, S, hs, h => by
    obtain ⟨e1, h1, e2, S2, h2, h3⟩ := hs 0 d env S rfl h
    obtain ⟨e3, S3, h4, h5⟩ := forL_ind I ds (i + 1) e2 S2 (fun j d' env' S' hd hI => by
      have := hs (j + 1) d' env' S' (by simpa using hd) (by rw [show i + (j + 1) = i + 1 + j by omega]; exact hI)
      rw [show i + (j + 1) + 1 = i + 1 + j + 1 by omega] at this
      exact this) h3
    refine ⟨e3, S3, ?_, by rw [show i + (d :: ds).length = i + 1 + ds.length by simp; omega]; exact h5⟩
    unfold forL
    rw [h1]
    rcases h2 with h2 | h2 <;> (simp only [h2]; exact h4)
/-! ### texts that are compared -/
theorem eqB_str {S : Store} {x y : Str} (hx : PyData.strOk x = true) (hy : PyData.strOk y = true) : eqB S (.str x) (.str y) = some (x == y) := by
  have sx : SeqAt.shaped (.str x) = true := Bool.and_eq_true_iff.mpr ⟨hx, rfl⟩
  have sy : SeqAt.shaped (.str y) = true := Bool.and_eq_true_iff.mpr ⟨hy, rfl⟩
  unfold eqB
  simp only [pyOf, py0, sx, sy, Bool.and_self, if_true, PyData.eqv]
theorem ne_same {S : Store} {x : Str} (hx : PyData.strOk x = true) : neD S (.str x) (.str x) = some (.val (.bl false)) := by
  unfold neD
  rw [eqB_str hx hx, beq_self_eq_true]
  rfl
theorem eq_same {S : Store} {x : Str} (hx : PyData.strOk x = true) : eqD S (.str x) (.str x) = some (.val (.bl true)) := by
  unfold eqD
  rw [eqB_str hx hx, beq_self_eq_true]
  rfl
end Ev
/-! Ev43: the laws' draws. -/
namespace Ev
open PySem L2
def kL : Str := "left"
def kS : Str := "seed"
def kC : Str := "cells"
def kP : Str := "spot"
def mKs : List D := [.str kL, .str kS, .str kC, .str kP]
/-- the state of the draws -/
def mO (l s : Int) (cs : List D) (p : Int) : Ob := .dct mKs [.int l, .int s, .lst cs, .int p]
theorem look_l {l s p : Int} {cs : List D} : lookD (.inr kL) mKs [.int l, .int s, .lst cs, .int p] = some (.int l) := rfl
theorem look_s {l s p : Int} {cs : List D} : lookD (.inr kS) mKs [.int l, .int s, .lst cs, .int p] = some (.int s) := rfl
theorem look_c {l s p : Int} {cs : List D} : lookD (.inr kC) mKs [.int l, .int s, .lst cs, .int p] = some (.lst cs) := rfl
theorem look_p {l s p : Int} {cs : List D} : lookD (.inr kP) mKs [.int l, .int s, .lst cs, .int p] = some (.int p) := rfl
theorem put_l {l s p i : Int} {cs : List D} : putP (.inr kL) (.int i) mKs [.int l, .int s, .lst cs, .int p] = (mKs, [.int i, .int s, .lst cs, .int p]) := rfl
theorem put_p {l s p i : Int} {cs : List D} : putP (.inr kP) (.int i) mKs [.int l, .int s, .lst cs, .int p] = (mKs, [.int l, .int s, .lst cs, .int i]) := rfl
def drawB : MS := seqS (ifS (testF (opF gtD (opF idxD (varF 0) (conF (.str kL))) (conF (.int 0)))) (seqS (setS false 2 (opF modD (bltF intD (argsF [opF idxD (varF 0) (conF (.str kL))])) (varF 1))) (seqS (subS (varF 0) (conF (.str kL)) (opF fdivD (opF idxD (varF 0) (conF (.str kL))) (varF 1))) (retS (varF 2)))) (nilS)) (seqS (setS false 3 (opF idxD (varF 0) (conF (.str kP)))) (seqS (subS (varF 0) (conF (.str kP)) (opF addD (varF 3) (conF (.int 1)))) (seqS (parS 4 5 (argsM [(false, opF idxD (varF 0) (conF (.str kC))), (false, opF addD (opF idxD (varF 0) (conF (.str kS))) (opF mulD (opF mulD (conF (.int 40503)) (varF 3)) (varF 3)))])) (seqS (setS false 6 (opF idxD (varF 4) (opF modD (bltF intD (argsF [varF 3])) (bltF lenD (argsF [varF 4]))))) (seqS (setS false 7 (opF modD (bltF intD (argsF [opF addD (opF mulD (varF 6) (opF addD (opF mulD (conF (.int 2)) (varF 3)) (conF (.int 3)))) (varF 5)])) (conF (.int 2147483647)))) (seqS (setS false 7 (opF modD (bltF intD (argsF [opF addD (opF addD (opF mulD (varF 7) (varF 7)) (opF mulD (conF (.int 69621)) (varF 3))) (opF idxD (varF 0) (conF (.str kS)))])) (conF (.int 2147483629)))) (retS (opF modD (opF fdivD (opF modD (bltF intD (argsF [opF addD (opF mulD (varF 7) (conF (.int 48271))) (varF 3)])) (conF (.int 2147483647))) (conF (.int 11))) (varF 1)))))))))
/-- right after B draws -/
def MOk (B : Nat) (o : Ob) : Prop := ∃ (l s p : Int) (ns : List Int), o = mO l s (ns.map D.int) p ∧ 0 ≤ p ∧ p ≤ B ∧ ns ≠ []
theorem MOk.free {B : Nat} {o : Ob} (h : MOk B o) : o.free = true := by
  obtain ⟨l, s, p, ns, rfl, _⟩ := h
  have : ∀ l : List Int, frees (l.map D.int) = true := fun l => by
    induction l with
    | nil => rfl
    | cons a r ih => exact Bool.and_eq_true_iff.mpr ⟨rfl, ih⟩
  show (Ev.free (D.int l) && (Ev.free (D.int s) && (Ev.free (D.lst (ns.map D.int)) && (Ev.free (D.int p) && true)))) = true
  simp [Ev.free, this]
theorem MOk.mono {B C : Nat} {o : Ob} (h : MOk B o) (hc : B ≤ C) : MOk C o := by
  obtain ⟨l, s, p, ns, e, h1, h2, h3⟩ := h
  exact ⟨l, s, p, ns, e, h1, by omega, h3⟩
theorem atI_in {α : Type} {xs : List α} {i : Int} (h0 : 0 ≤ i) (h1 : i < xs.length) : ∃ x, x ∈ xs ∧ xs[i.toNat]? = some x ∧ atI xs i = some x := by
  have hl : i.toNat < xs.length := by omega
  refine ⟨xs[i.toNat], List.getElem_mem hl, List.getElem?_eq_getElem hl, ?_⟩
  unfold atI
  have : ixN xs.length i = some i.toNat := by
    unfold ixN
    simp only [h0, h1, and_self, if_true]
  rw [this]
  exact List.getElem?_eq_getElem hl
theorem atI_head {α : Type} {x : α} {xs : List α} : atI (x :: xs) 0 = some x := by
  have : ixN (x :: xs).length 0 = some 0 := by
    unfold ixN
    rw [if_pos (by decide), if_pos (by rw [List.length_cons]; omega)]
    rfl
  unfold atI
  rw [this]; rfl
theorem fmod_lt {a b : Int} (h : 0 < b) : 0 ≤ a.fmod b ∧ a.fmod b < b := by
  rw [Int.fmod_eq_emod_of_nonneg a (by omega)]
  exact ⟨Int.emod_nonneg a (by omega), Int.emod_lt_of_pos a h⟩
theorem mKl : (mKs.length < 16777216) = True := by simp [mKs]
theorem drawB_ok {n : Int} {B : Nat} {o : Ob} (hn : 0 < n) (hn2 : n < 1000000) (hB : B < 1099511627776) (h : MOk B o) :
    ∃ v o', 0 ≤ v ∧ v < n ∧ MOk (B + 1) o' ∧ drawB [some (.ref 0), some (.int n), none, none, none, none, none, none] [o] = .ret (.val (.int v)) [o'] := by
  obtain ⟨l, s, p, ns, rfl, h1, h2, h3⟩ := h
  have e1 : ¬ n = 0 := by omega
  have e2 : n ≠ 0 ∧ n.natAbs < 1073741824 := by omega
  by_cases hl : 0 < l
  · refine ⟨l.fmod n, mO (l.fdiv n) s (ns.map D.int) p, (fmod_lt hn).1, (fmod_lt hn).2, ⟨_, _, _, ns, rfl, h1, by omega, h3⟩, ?_⟩
    simp only [drawB, seqS, ifS, testF, opF, R.then, R.bind, varF, conF, List.getElem?_cons_zero, List.getElem?_cons_succ, RV.d, idxD, dctOf, mO, look_l, Option.map_some, gtD, ordD, decide_eq_true hl, if_true, setS, bltF, argsF, Ev.intD, modD, if_neg e1, takeV, List.set_cons_zero, List.set_cons_succ, subS, fdivD, if_pos e2, retS, subsD, put_l, keyOf, mKl]
  · have hl' : decide (0 < l) = false := decide_eq_false hl
    have hne : ((ns.map D.int).length : Int) ≠ 0 := by
      intro z
      exact h3 (by simpa using z)
    have hnz : ¬ ((ns.map D.int).length : Int) = 0 := hne
    have hpos : 0 < ((ns.map D.int).length : Int) := by omega
    obtain ⟨c, hc, _, hat⟩ := atI_in (xs := ns.map D.int) (i := p.fmod (ns.map D.int).length) (fmod_lt hpos).1 (fmod_lt hpos).2
    obtain ⟨ci, _, rfl⟩ := List.mem_map.mp hc
    have s1 : smallI p = true := by unfold smallI; simp only [Bool.and_eq_true, decide_eq_true_eq]; omega
    have s2 : smallI (2 * p + 3) = true := by unfold smallI; simp only [Bool.and_eq_true, decide_eq_true_eq]; omega
    have s3 : ∀ z : Int, smallI (z.fmod 2147483647) = true := fun z => by
      have := fmod_lt (a := z) (b := 2147483647) (by decide)
      unfold smallI; simp only [Bool.and_eq_true, decide_eq_true_eq]; omega
    have s4 : ∀ z : Int, smallI (z.fmod 2147483629) = true := fun z => by
      have := fmod_lt (a := z) (b := 2147483629) (by decide)
      unfold smallI; simp only [Bool.and_eq_true, decide_eq_true_eq]; omega
    have key : ∃ x : Int, drawB [some (.ref 0), some (.int n), none, none, none, none, none, none] [mO l s (ns.map D.int) p] = .ret (.val (.int (x.fmod n))) [mO l s (ns.map D.int) (p + 1)] := by
      simp only [drawB, seqS, ifS, testF, opF, R.then, R.bind, varF, conF, List.getElem?_cons_zero, List.getElem?_cons_succ, RV.d, idxD, dctOf, mO, look_l, look_p, look_c, look_s, Option.map_some, gtD, ordD, hl', if_true, setS, bltF, argsF, argsM, Ev.intD, modD, if_neg e1, takeV, List.set_cons_zero, List.set_cons_succ, subS, fdivD, if_pos e2, retS, subsD, put_p, keyOf, mKl, nilS, addD, mulD, parS, lenD, seqOf, if_neg hnz, hat, Bool.or_true, Bool.true_or, s1, s2, s3, s4, Bool.false_eq_true, if_false, if_neg (show ¬ (2147483647 : Int) = 0 by decide), if_neg (show ¬ (2147483629 : Int) = 0 by decide), if_pos (show (11 : Int) ≠ 0 ∧ Int.natAbs 11 < 1073741824 by decide)]
      exact ⟨_, rfl⟩
    obtain ⟨x, hx⟩ := key
    exact ⟨_, mO l s (ns.map D.int) (p + 1), (fmod_lt hn).1, (fmod_lt hn).2, ⟨_, _, _, ns, rfl, by omega, by omega, h3⟩, hx⟩
/-- the call -/
theorem draw_call {P : Nat → Option Dfn} {fuel k i r : Nat} {S : Store} {o : Ob} {n : Int} {B : Nat} {b : Cfg → MS} (hP : P i = some ⟨2, 8, b⟩) (hb : ∀ g, b g = drawB) (hs : S[r]? = some o) (ho : MOk B o) (hn : 0 < n) (hn2 : n < 1000000) (hB : B < 1099511627776) :
    ∃ v o', 0 ≤ v ∧ v < n ∧ MOk (B + 1) o' ∧ callN P fuel (k + 1) i [.ref r, .int n] S = .ok (.val (.int v)) (S.set r o') := by
  obtain ⟨v, o', h1, h2, h3, h4⟩ := drawB_ok hn hn2 hB ho
  refine ⟨v, o', h1, h2, h3, ?_⟩
  show (match P i with | some d => runD d.np d.nn (d.body ⟨callN P fuel k, fuel⟩) [.ref r, .int n] S | none => .bad) = _
  rw [hP]
  show runD 2 8 (b ⟨callN P fuel k, fuel⟩) [.ref r, .int n] S = _
  rw [hb, runD_ref (np := 2) (args := [.int n]) rfl rfl hs ho.free]
  show endR 1 _ (drawB [some (.ref 0), some (.int n), none, none, none, none, none, none] [o]) = _
  rw [h4]
  show (match outR [o'] 1 (.val (.int v)), (if o'.free = true then some (S.set r o') else none) with | some z, some S2 => R.ok z S2 | _, _ => .bad) = _
  rw [if_pos h3.free]
  rfl
/-! ### the beginning -/
def begunB (fuel : Nat) : MS := seqS (setS false 2 (opF addD (sliF (varF 0) (some (varF 1)) none) (sliF (varF 0) none (some (varF 1))))) (seqS (setS false 3 (lcF fuel [4] (.nm 4) (iterF (varF 2)) (testF (opF geD (varF 4) (opF powD (conF (.int 10)) (conF (.int 18))))) (varF 4))) (seqS (setS false 5 (opF addD (conF (.int 97)) (varF 1))) (seqS (forS fuel (.nm 4) (iterF (varF 2)) (setS false 5 (opF modD (bltF intD (argsF [opF addD (opF mulD (varF 5) (conF (.int 48271))) (varF 4)])) (conF (.int 2147483647))))) (retS (dspF [(conF (.str kL), ifF (testF (opF neD (varF 3) (lstF (argsF [])))) (opF idxD (varF 3) (conF (.int 0))) (conF (.int 0))), (conF (.str kS), varF 5), (conF (.str kC), opF addD (varF 2) (lstF (argsF [opF addD (opF mulD (conF (.int 31)) (varF 1)) (conF (.int 5))]))), (conF (.str kP), conF (.int 0))])))))
theorem filter_lc (c : MT) (f : ME) (t : Int → Bool) {env : EnvD} {S : Store} (hc : ∀ (i : Int), c (env.set 4 (some (.int i))) S = .ok (t i) S) (hf : ∀ (i : Int), f (env.set 4 (some (.int i))) S = .ok (.val (.int i)) S) :
    ∀ ns : List Int, lcL (.nm 4) c f (ns.map D.int) env S = .ok ((ns.filter t).map D.int) S
  | [] => rfl
  | i :: ns => by
    have ih := filter_lc c f t hc hf ns
    simp only [List.map_cons, lcL, bindT, hc, hf, R.bind, ih, List.filter_cons, RV.d]
    cases t i <;> rfl
theorem py0s_ints : ∀ ns : List Int, py0s (ns.map D.int) = some (ns.map PyData.int)
  | [] => rfl
  | i :: ns => by
    simp only [List.map_cons, py0s, py0, py0s_ints ns]
theorem shaped_ints (ns : List Int) : SeqAt.shaped (.list (ns.map PyData.int)) = true := by
  have h1 : ∀ ns : List Int, PyData.canLayAll0 (ns.map PyData.int) = true := fun ns => by
    induction ns with
    | nil => rfl
    | cons i r ih => exact Bool.and_eq_true_iff.mpr ⟨rfl, ih⟩
  have h2 : ∀ ns : List Int, PyData.depthAll (ns.map PyData.int) = 0 := fun ns => by
    induction ns with
    | nil => rfl
    | cons i r ih =>
      simp only [List.map_cons, PyData.depthAll, ih, PyData.depth]
      rfl
  refine Bool.and_eq_true_iff.mpr ⟨h1 ns, decide_eq_true ?_⟩
  show PyData.depthAll _ + 1 ≤ 64
  rw [h2]; decide
theorem cut_ints (ns : List Int) (lo hi : Option Int) : ∃ ms : List Int, cutD (ns.map D.int) lo hi = ms.map D.int ∧ ms.length ≤ ns.length := by
  unfold cutD
  rw [← List.map_drop, ← List.map_take]
  exact ⟨_, rfl, by rw [List.length_take, List.length_drop]; omega⟩
/-- the mixing loop -/
theorem mix_loop {fuel : Nat} : ∀ (ns : List Int) (env : EnvD) (S : Store) (z : Int), env.length = 6 → env[5]? = some (some (.int z)) → smallI z = true → ∃ (e2 : EnvD) (z2 : Int),
    forL (.nm 4) (setS false 5 (opF modD (bltF intD (argsF [opF addD (opF mulD (varF 5) (conF (.int 48271))) (varF 4)])) (conF (.int 2147483647)))) (ns.map D.int) env S = .nx e2 S ∧ e2.length = 6 ∧ e2[5]? = some (some (.int z2)) ∧ (∀ j, j < 4 → e2[j]? = env[j]?)
  | [], env, S, z, h1, h2, _ => ⟨env, z, rfl, h1, h2, fun _ _ => rfl⟩
  | i :: ns, env, S, z, h1, h2, h3 => by
    have h4 : (env.set 4 (some (.int i)))[5]? = some (some (.int z)) := by
      rw [List.getElem?_set_ne (by decide)]; exact h2
    have h5 : (env.set 4 (some (.int i)))[4]? = some (some (.int i)) := by
      rw [List.getElem?_set_self (by omega)]
    have hz := fmod_lt (a := z * 48271 + i) (b := 2147483647) (by decide)
    obtain ⟨e2, z2, k1, k2, k3, k4⟩ := mix_loop (fuel := fuel) ns ((env.set 4 (some (.int i))).set 5 (some (.int ((z * 48271 + i).fmod 2147483647)))) S _ (by simp [h1]) (by rw [List.getElem?_set_self (by simp [h1])]) (by unfold smallI; simp only [Bool.and_eq_true, decide_eq_true_eq]; omega)
    refine ⟨e2, z2, ?_, k2, k3, fun j hj => ?_⟩
    · simp only [List.map_cons, forL, bindT, setS, opF, bltF, argsF, varF, h4, h5, conF, R.bind, R.then, RV.d, mulD, addD, h3, Bool.true_or, if_true, Ev.intD, modD, if_neg (show ¬ (2147483647 : Int) = 0 by decide), takeV]
      exact k1
    · rw [k4 j hj, List.getElem?_set_ne (by omega), List.getElem?_set_ne (by omega)]
theorem begunB_ok {fuel : Nat} {ns : List Int} {k : Int} (hl : ns.length ≤ 1000) (hk : 0 ≤ k) (hk2 : k ≤ 1000) : ∃ o, MOk 0 o ∧ begunB fuel [some (.scr (ns.map D.int)), some (.int k), none, none, none, none] [] = .ret (.new o) [] := by
  obtain ⟨c1, e1, l1⟩ := cut_ints ns (some k) none
  obtain ⟨c2, e2, l2⟩ := cut_ints ns none (some k)
  have hlen : (c1.map D.int).length + (c2.map D.int).length ≤ 16777216 := by simp only [List.length_map]; omega
  let cs : List Int := c1 ++ c2
  have ecs : c1.map D.int ++ c2.map D.int = cs.map D.int := (List.map_append ..).symm
  let E1 : EnvD := [some (.scr (ns.map D.int)), some (.int k), some (.lst (cs.map D.int)), none, none, none]
  let gs : List Int := cs.filter fun i => decide ((10 : Int) ^ 18 ≤ i)
  let E2 : EnvD := [some (.scr (ns.map D.int)), some (.int k), some (.lst (cs.map D.int)), some (.lst (gs.map D.int)), none, none]
  have f1 : (setS false 2 (opF addD (sliF (varF 0) (some (varF 1)) none) (sliF (varF 0) none (some (varF 1))))) [some (.scr (ns.map D.int)), some (.int k), none, none, none, none] [] = .nx E1 [] := by
    simp only [setS, opF, sliF, partF, varF, List.getElem?_cons_zero, List.getElem?_cons_succ, R.bind, R.then, RV.d, sliD, e1, e2, Ob.toD, addD, lstOf, if_pos hlen, takeV, List.set_cons_zero, List.set_cons_succ, ecs]
    rfl
  have hg : gs.length ≤ cs.length := List.length_filter_le _ _
  have hcs : cs.length ≤ 2000 := by show (c1 ++ c2).length ≤ 2000; rw [List.length_append]; omega
  have f2 : (setS false 3 (lcF fuel [4] (.nm 4) (iterF (varF 2)) (testF (opF geD (varF 4) (opF powD (conF (.int 10)) (conF (.int 18))))) (varF 4))) E1 [] = .nx E2 [] := by
    have hf := filter_lc (testF (opF geD (varF 4) (opF powD (conF (.int 10)) (conF (.int 18))))) (varF 4) (fun i => decide ((10 : Int) ^ 18 ≤ i)) (env := [some (.scr (ns.map D.int)), some (.int k), some (.lst (cs.map D.int)), none, none, none]) (S := []) (fun i => by
      simp only [testF, opF, varF, conF, List.set_cons_zero, List.set_cons_succ, List.getElem?_cons_zero, List.getElem?_cons_succ, R.bind, RV.d, powD, geD, ordD, if_pos (show (0 : Int) ≤ 18 ∧ (18 : Int) ≤ 1000000 ∧ Int.natAbs 10 < 18446744073709551616 by decide)]
      rfl) (fun i => by simp only [varF, List.set_cons_zero, List.set_cons_succ, List.getElem?_cons_zero, List.getElem?_cons_succ]) cs
    simp only [setS, lcF, iterF, varF, E1, List.getElem?_cons_zero, List.getElem?_cons_succ, R.bind, R.then, RV.d, iterD, lcSrc, wipeD, List.set_cons_zero, List.set_cons_succ, hf, noEx, if_pos (show (gs.map D.int).length ≤ 16777216 by rw [List.length_map]; omega), takeV, Ob.toD, E2, gs]
  let E3 : EnvD := [some (.scr (ns.map D.int)), some (.int k), some (.lst (cs.map D.int)), some (.lst (gs.map D.int)), none, some (.int (97 + k))]
  have f3 : (setS false 5 (opF addD (conF (.int 97)) (varF 1))) E2 [] = .nx E3 [] := by
    simp only [setS, opF, conF, varF, E2, E3, List.getElem?_cons_zero, List.getElem?_cons_succ, R.bind, R.then, RV.d, addD, takeV, List.set_cons_zero, List.set_cons_succ]
  obtain ⟨E4, z, f4, n4, g5, g4⟩ := mix_loop (fuel := fuel) cs E3 [] (97 + k) rfl rfl (by unfold smallI; simp only [Bool.and_eq_true, decide_eq_true_eq]; omega)
  have f4' : (forS fuel (.nm 4) (iterF (varF 2)) (setS false 5 (opF modD (bltF intD (argsF [opF addD (opF mulD (varF 5) (conF (.int 48271))) (varF 4)])) (conF (.int 2147483647))))) E3 [] = .nx E4 [] := by
    simp only [forS, iterF, varF, E3, List.getElem?_cons_zero, List.getElem?_cons_succ, R.bind, R.then, RV.d, iterD, loopS]
    exact f4
  have g1 : E4[1]? = some (some (.int k)) := g4 1 (by decide)
  have g2 : E4[2]? = some (some (.lst (cs.map D.int))) := g4 2 (by decide)
  have g3 : E4[3]? = some (some (.lst (gs.map D.int))) := g4 3 (by decide)
  have hne : neD [] (.lst (gs.map D.int)) (.lst []) = some (.val (.bl (!gs.isEmpty))) := by
    unfold neD eqB
    simp only [pyOf, py0, py0s_ints, py0s, Option.map_some, shaped_ints, show SeqAt.shaped (.list []) = true from rfl, Bool.and_self, if_true]
    cases gs <;> rfl
  have hleft : ∃ l : Int, (ifF (testF (opF neD (varF 3) (lstF (argsF [])))) (opF idxD (varF 3) (conF (.int 0))) (conF (.int 0))) E4 [] = .ok (.val (.int l)) [] := by
    simp only [ifF, testF, opF, varF, g3, lstF, fitF, argsF, R.bind, List.length_nil, Nat.zero_le, if_true, RV.d, Ob.toD, hne, conF, idxD, seqOf]
    cases gs with
    | nil => exact ⟨0, rfl⟩
    | cons a r => exact ⟨a, by rw [List.map_cons, atI_head]; rfl⟩
  obtain ⟨l, hl2⟩ := hleft
  refine ⟨mO l z ((cs ++ [31 * k + 5]).map D.int) 0, ⟨l, z, 0, _, rfl, by decide, by decide, by simp⟩, ?_⟩
  have hsm : smallI 31 = true := rfl
  have hcell : (opF addD (varF 2) (lstF (argsF [opF addD (opF mulD (conF (.int 31)) (varF 1)) (conF (.int 5))]))) E4 [] = .ok (.new (.lst ((cs ++ [31 * k + 5]).map D.int))) [] := by
    simp only [opF, varF, g2, g1, lstF, fitF, argsF, conF, R.bind, RV.d, mulD, addD, hsm, Bool.true_or, if_true, Ob.toD, lstOf, List.length_cons, List.length_nil, if_pos (show 0 + 1 ≤ 16777216 by decide), if_pos (show (cs.map D.int).length + (0 + 1) ≤ 16777216 by rw [List.length_map]; omega), List.map_append, List.map_cons, List.map_nil]
  simp only [begunB, seqS, f1, f2, f3, f4']
  have hp : pairsF [(conF (.str kL), ifF (testF (opF neD (varF 3) (lstF (argsF [])))) (opF idxD (varF 3) (conF (.int 0))) (conF (.int 0))), (conF (.str kS), varF 5), (conF (.str kC), opF addD (varF 2) (lstF (argsF [opF addD (opF mulD (conF (.int 31)) (varF 1)) (conF (.int 5))]))), (conF (.str kP), conF (.int 0))] E4 [] =
      .ok [(.str kL, .int l), (.str kS, .int z), (.str kC, .lst ((cs ++ [31 * k + 5]).map D.int)), (.str kP, .int 0)] [] := by
    generalize he1 : (ifF (testF (opF neD (varF 3) (lstF (argsF [])))) (opF idxD (varF 3) (conF (.int 0))) (conF (.int 0))) = t1 at hl2 ⊢
    generalize he2 : (opF addD (varF 2) (lstF (argsF [opF addD (opF mulD (conF (.int 31)) (varF 1)) (conF (.int 5))]))) = t2 at hcell ⊢
    simp only [pairsF, conF, varF, g5, R.bind, RV.d, Ob.toD, hl2, hcell]
  simp only [retS, dspF, hp, noEx, R.bind, R.then]
  rfl
theorem frees_mem {xs : List D} {x : D} (h : frees xs = true) (hx : x ∈ xs) : free x = true := by
  induction xs with
  | nil => cases hx
  | cons a r ih =>
    obtain ⟨h1, h2⟩ := Bool.and_eq_true_iff.mp (show (free a && frees r) = true from h)
    rcases List.mem_cons.mp hx with rfl | hx
    · exact h1
    · exact ih h2 hx
theorem callN_succ {P : Nat → Option Dfn} {fuel k i np nn : Nat} {b : Cfg → MS} {args : List D} {S : Store} (hP : P i = some ⟨np, nn, b⟩) : callN P fuel (k + 1) i args S = runD np nn (b ⟨callN P fuel k, fuel⟩) args S := by
  show (match P i with | some d => runD d.np d.nn (d.body ⟨callN P fuel k, fuel⟩) args S | none => .bad) = _
  rw [hP]
theorem begun_call {P : Nat → Option Dfn} {fuel k i : Nat} {S : Store} {ns : List Int} {t : Int} {b : Cfg → MS} (hP : P i = some ⟨2, 6, b⟩) (hb : ∀ g, b g = begunB fuel) (hl : ns.length ≤ 1000) (hk : 0 ≤ t) (hk2 : t ≤ 1000) :
    ∃ o, MOk 0 o ∧ callN P fuel (k + 1) i [.scr (ns.map D.int), .int t] S = .ok (.new o) S := by
  obtain ⟨o, h1, h2⟩ := begunB_ok (fuel := fuel) hl hk hk2
  refine ⟨o, h1, ?_⟩
  have hf : frees (ns.map D.int) = true := by
    induction ns with
    | nil => rfl
    | cons a r ih =>
      have : ∀ l : List Int, frees (l.map D.int) = true := fun l => by
        induction l with
        | nil => rfl
        | cons a r ih => exact Bool.and_eq_true_iff.mpr ⟨rfl, ih⟩
      exact this _
  rw [callN_succ hP, hb, runD_free (np := 2) (args := [.scr (ns.map D.int), .int t]) (Bool.and_eq_true_iff.mpr ⟨hf, rfl⟩) rfl]
  show endR 0 _ (begunB fuel [some (.scr (ns.map D.int)), some (.int t), none, none, none, none] []) = _
  rw [h2]
  have hfr := h1.free
  obtain ⟨l, s, p, ms, rfl, _⟩ := h1
  show (match outR [] 0 (.new (mO l s (ms.map D.int) p)), some S with | some z, some S2 => R.ok z S2 | _, _ => .bad) = _
  unfold mO
  rw [outR_dct hfr]
/-- one of some things -/
def ofB (j : Nat) (g : Cfg) : MS := retS (opF idxD (varF 1) (usrF j g [] (argsF [varF 0, bltF lenD (argsF [varF 1])])))
theorem of_call {P : Nat → Option Dfn} {fuel k i j r B : Nat} {S : Store} {o : Ob} {xs : List D} {b bd : Cfg → MS} (hP : P i = some ⟨2, 2, b⟩) (hb : ∀ g, b g = ofB j g) (hD : P j = some ⟨2, 8, bd⟩) (hbd : ∀ g, bd g = drawB) (hs : S[r]? = some o) (ho : MOk B o) (hB : B < 1099511627776)
    (hf : frees xs = true) (h0 : xs ≠ []) (hl : xs.length < 1000000) : ∃ x o', x ∈ xs ∧ MOk (B + 1) o' ∧ callN P fuel (k + 2) i [.ref r, .lst xs] S = .ok (.val x) (S.set r o') := by
  have hpos : 0 < xs.length := by
    cases xs with
    | nil => exact absurd rfl h0
    | cons a r => simp
  obtain ⟨v, o', h1, h2, h3, h4⟩ := draw_call (P := P) (fuel := fuel) (k := k) (r := 0) (S := [o]) (n := (xs.length : Int)) hD hbd rfl ho (by omega) (by omega) hB
  obtain ⟨x, hx, _, hat⟩ := atI_in (xs := xs) h1 h2
  refine ⟨x, o', hx, h3, ?_⟩
  rw [callN_succ hP, hb, runD_ref (np := 2) (args := [.lst xs]) (Bool.and_eq_true_iff.mpr ⟨hf, rfl⟩) rfl hs ho.free]
  have e : ofB j ⟨callN P fuel (k + 1), fuel⟩ [some (.ref 0), some (.lst xs)] [o] = .ret (.val x) [o'] := by
    simp only [ofB, retS, opF, varF, List.getElem?_cons_zero, List.getElem?_cons_succ, usrF, argsF, bltF, lenD, seqOf, R.bind, R.then, RV.d, List.append_nil, h4, List.set_cons_zero, idxD, hat, Option.map_some]
  show endR 1 _ (ofB j ⟨callN P fuel (k + 1), fuel⟩ [some (.ref 0), some (.lst xs)] [o]) = _
  rw [e]
  show (match outR [o'] 1 (.val x), (if o'.free = true then some (S.set r o') else none) with | some z, some S2 => R.ok z S2 | _, _ => .bad) = _
  rw [if_pos h3.free, outR_free (frees_mem hf hx)]
end Ev
/-! Ev44: reprs of lists and tuples whose items' reprs are known. -/
namespace Ev
open PySem L2
/-- a text of at most L signs, each of them a sign -/
def Sane (L : Nat) (s : Str) : Prop := s.length ≤ L ∧ PyData.strOk s = true
theorem Sane.mono {L M : Nat} {s : Str} (h : Sane L s) (hl : L ≤ M) : Sane M s := ⟨Nat.le_trans h.1 hl, h.2⟩
theorem len_app (x y : Str) : (x ++ y).length = x.length + y.length := by
  show (x.cps ++ y.cps).size = _
  rw [Array.size_append]; rfl
theorem Sane.app {a b : Nat} {x y : Str} (h : Sane a x) (k : Sane b y) : Sane (a + b) (x ++ y) := by
  refine ⟨by rw [len_app]; exact Nat.add_le_add h.1 k.1, ?_⟩
  have h2 := h.2
  have k2 := k.2
  unfold PyData.strOk at *
  show (x.cps ++ y.cps).all _ = true
  rw [Array.all_append, h2, k2]; rfl
theorem sane_text {L : Nat} : ∀ (ts : List Str) (k : Nat) (acc : Str) (a : Nat), (∀ t ∈ ts, Sane L t) → Sane a acc → Sane (a + ts.length * (L + 2)) (textFrom k acc ts)
  | [], k, acc, a, _, h => h.mono (by simp)
  | t :: r, k, acc, a, ht, h => by
    have hs : Sane 2 (if k > 0 then ", " else "" : String) := by
      split
      · exact ⟨by decide +kernel, by decide +kernel⟩
      · exact ⟨by decide +kernel, by decide +kernel⟩
    have h1 := (h.app hs).app (ht t (List.mem_cons_self ..))
    have := sane_text r (k + 1) _ _ (fun u hu => ht u (List.mem_cons_of_mem _ hu)) h1
    refine this.mono ?_
    rw [List.length_cons, Nat.succ_mul]; omega
theorem sane_list {L : Nat} {ts : List Str} (h : ∀ t ∈ ts, Sane L t) : Sane (ts.length * (L + 2) + 2) (listText ts) := by
  have h1 : Sane 1 ("[" : Str) := ⟨by decide +kernel, by decide +kernel⟩
  have h2 : Sane 1 ("]" : Str) := ⟨by decide +kernel, by decide +kernel⟩
  exact ((sane_text ts 0 _ 1 h h1).app h2).mono (by omega)
theorem sane_join {L : Nat} : ∀ {ts : List Str}, (∀ t ∈ ts, Sane L t) → Sane (ts.length * (L + 2)) (Str.join ", " ts)
  | [], _ => ⟨Nat.zero_le _, by decide +kernel⟩
  | [t], h => (h t (List.mem_cons_self ..)).mono (by simp)
  | t :: u :: r, h => by
    have h1 := h t (List.mem_cons_self ..)
    have h2 : Sane 2 (", " : Str) := ⟨by decide +kernel, by decide +kernel⟩
    have h3 := sane_join (ts := u :: r) fun z hz => h z (List.mem_cons_of_mem _ hz)
    have := (h1.app h2).app h3
    refine Sane.mono (this) ?_
    rw [List.length_cons (a := t), Nat.succ_mul]; omega
theorem sane_tuple {L : Nat} {ts : List Str} (h : ∀ t ∈ ts, Sane L t) : Sane (ts.length * (L + 2) + 3) (tupleText ts) := by
  have h1 : Sane 1 ("(" : Str) := ⟨by decide +kernel, by decide +kernel⟩
  have h2 : Sane 2 (if ts.length == 1 then ",)" else ")" : String) := by
    split
    · exact ⟨by decide +kernel, by decide +kernel⟩
    · exact ⟨by decide +kernel, by decide +kernel⟩
  exact ((h1.app (sane_join h)).app h2).mono (by omega)
/-- what a datum's repr is read from; n: its depth, L: a bound of its text -/
def Ri (n L : Nat) (d : D) : Prop := free d = true ∧ ∃ p, (∀ (S : Store) (j : Nat), n ≤ j → rpN S (j + 1) d = some p) ∧ p.showable = true ∧ p.depth ≤ n ∧ Sane L p.shown
theorem Ri.mono {n L M : Nat} {d : D} (h : Ri n L d) (hl : L ≤ M) : Ri n M d := by
  obtain ⟨h0, p, h1, h2, h3, h4⟩ := h
  exact ⟨h0, p, h1, h2, h3, h4.mono hl⟩
theorem Ri.deep {n m L : Nat} {d : D} (h : Ri n L d) (hl : n ≤ m) : Ri m L d := by
  obtain ⟨h0, p, h1, h2, h3, h4⟩ := h
  exact ⟨h0, p, fun S j hj => h1 S j (by omega), h2, by omega, h4⟩
theorem ris {n L : Nat} : ∀ {xs : List D}, (∀ x ∈ xs, Ri n L x) → frees xs = true ∧ ∃ ps, (∀ (S : Store) (j : Nat), n ≤ j → rpL (rpN S (j + 1)) xs = some ps) ∧ PyData.showableAll ps = true ∧ PyData.depthAll ps ≤ n ∧ (PyData.shownAll ps).length = xs.length ∧ ∀ t ∈ PyData.shownAll ps, Sane L t
  | [], _ => ⟨rfl, [], fun _ _ _ => rfl, rfl, Nat.zero_le _, rfl, fun t ht => by simp [PyData.shownAll] at ht⟩
  | x :: xs, h => by
    obtain ⟨g0, ps, g1, g2, g3, g4, g5⟩ := ris (xs := xs) fun y hy => h y (List.mem_cons_of_mem _ hy)
    obtain ⟨h0, p, h1, h2, h3, h4⟩ := h x (List.mem_cons_self ..)
    refine ⟨Bool.and_eq_true_iff.mpr ⟨h0, g0⟩, p :: ps, fun S j hj => ?_, Bool.and_eq_true_iff.mpr ⟨h2, g2⟩, Nat.max_le.mpr ⟨h3, g3⟩, by simp only [PyData.shownAll, List.length_cons, g4], fun t ht => ?_⟩
    · unfold rpL
      rw [h1 S j hj, g1 S j hj]
    · simp only [PyData.shownAll, List.mem_cons] at ht
      rcases ht with rfl | ht
      · exact h4
      · exact g5 t ht
theorem Ri.lst {n L : Nat} {xs : List D} (h : ∀ x ∈ xs, Ri n L x) : Ri (n + 1) (xs.length * (L + 2) + 3) (.lst xs) := by
  obtain ⟨g0, ps, g1, g2, g3, g4, g5⟩ := ris h
  refine ⟨g0, .list ps, fun S j hj => ?_, g2, Nat.succ_le_succ g3, ?_⟩
  · obtain ⟨j, rfl⟩ : ∃ i, j = i + 1 := ⟨j - 1, by omega⟩
    show (rpL (rpN S (j + 1)) xs).map PyData.list = _
    rw [g1 S j (by omega)]; rfl
  · have := sane_list g5
    rw [g4] at this
    exact this.mono (by omega)
theorem Ri.tup {n L : Nat} {xs : List D} (h : ∀ x ∈ xs, Ri n L x) : Ri (n + 1) (xs.length * (L + 2) + 3) (.tup xs) := by
  obtain ⟨g0, ps, g1, g2, g3, g4, g5⟩ := ris h
  refine ⟨g0, .tuple ps, fun S j hj => ?_, g2, Nat.succ_le_succ g3, ?_⟩
  · obtain ⟨j, rfl⟩ : ∃ i, j = i + 1 := ⟨j - 1, by omega⟩
    show (rpL (rpN S (j + 1)) xs).map PyData.tuple = _
    rw [g1 S j (by omega)]; rfl
  · have := sane_tuple g5
    rw [g4] at this
    exact this
/-- the repr -/
theorem Ri.repr {n L : Nat} {d : D} (h : Ri n L d) (hn : n ≤ 11) (hL : L ≤ 16777216) : ∃ s, PyData.strOk s = true ∧ ∀ S : Store, reprD S [d] = some (.val (.str s)) := by
  obtain ⟨h0, p, h1, h2, h3, h4⟩ := h
  refine ⟨p.shown, h4.2, fun S => ?_⟩
  unfold reprD
  have e := h1 S 11 hn
  have q : (p.showable && (decide (p.depth ≤ 60) && decide (p.shown.length ≤ 16777216))) = true := by
    rw [h2, decide_eq_true (show p.depth ≤ 60 by omega), decide_eq_true (Nat.le_trans h4.1 hL)]; rfl
  show (match rpN S 12 d with | some p => if p.showable && (decide (p.depth ≤ 60) && decide (p.shown.length ≤ 16777216)) then some (RV.val (.str p.shown)) else none | none => none) = _
  rw [e]
  simp only [q, if_true]
end Ev
/-! Printed by tr.py: the data functions and facts of law_k03_tables_made. -/
namespace Lw_k03
open PySem L2 PyProof.Rows LamX He Ev
abbrev Pr : Program := PySem.Challenge.pw_pairsettle_k03_tables_made
def top (i : Nat) : Stmt := Pr.main.body.getD i (.Pass ⟨0, 0, 0, 0⟩)
def inC (i j : Nat) : Stmt := (clsBody (top i)).getD j (.Pass ⟨0, 0, 0, 0⟩)
def fuel : Nat := 1000
/-- is_list -/
def b_0 (g : Cfg) : MS := retS (isiF (isTy2D "list" "tuple") (varF 0))
/-- is_rule -/
def b_1 (g : Cfg) : MS := retS (andVF [isiF (isTyD "str") (varF 1), opF inD (varF 1) (kdF (kdL [("new", ("ONE_SIDED", ["back", "leave", "spread"])), ("changed", ("ONE_SIDED", ["back", "leave", "spread"])), ("gone", ("ONE_SIDED", ["back", "leave", "spread"])), ("two new", ("BOTH_SIDED", ["greater", "leave", "lesser"])), ("two changed", ("BOTH_SIDED", ["greater", "leave", "lesser"])), ("torn", ("TORN_APART", ["content", "gone", "leave"]))]) (varF 0))])
/-- is_case -/
def b_2 (g : Cfg) : MS := retS (andVF [isiF (isTyD "str") (varF 0), opF inD (varF 0) (conF (.tup [.str "new", .str "changed", .str "gone", .str "two new", .str "two changed", .str "torn"]))])
/-- Table.__init__ -/
def b_3 (g : Cfg) : MS := seqS (ifS (orTF [notTF (testF (usrF 0 g [] (argsF [varF 1]))), testF (opF neD (bltF lenD (argsF [varF 1])) (bltF lenD (argsF [conF (.tup [.str "new", .str "changed", .str "gone", .str "two new", .str "two changed", .str "torn"])])))]) (raiS 2 (conF .non)) (nilS)) (seqS (forS fuel (.tp [.nm 2, .nm 3]) (zip2F (argsF [conF (.tup [.str "new", .str "changed", .str "gone", .str "two new", .str "two changed", .str "torn"]), varF 1])) (ifS (notTF (testF (usrF 1 g [] (argsF [varF 2, varF 3])))) (raiS 2 (varF 2)) (nilS))) (sfldS (sxL [(10, 0)]) (varF 0) (bltF tupleD (argsF [varF 1]))))
/-- Table.plain -/
def b_4 (g : Cfg) : MS := retS (mkVF 0 10 10 3 g [] (argsF [tupF (argsF [conF (.str "spread"), conF (.str "spread"), conF (.str "spread"), conF (.str "leave"), conF (.str "leave"), conF (.str "leave")])]))
/-- Table.__eq__ -/
def b_5 (g : Cfg) : MS := retS (andVF [isiF (isOwnD [10] 10) (varF 1), opF eqD (fldF (sxL [(10, 0)]) (varF 0)) (fldF (sxL [(10, 0)]) (varF 1))])
/-- Table.__getitem__ -/
def b_6 (g : Cfg) : MS := seqS (ifS (notTF (testF (usrF 2 g [] (argsF [varF 1])))) (raiS 2 (varF 1)) (nilS)) (retS (opF idxD (fldF (sxL [(10, 0)]) (varF 0)) (tixF ["new", "changed", "gone", "two new", "two changed", "torn"] (varF 1))))
/-- Table.__sub__ -/
def b_8 (g : Cfg) : MS := seqS (ifS (notTF (testF (isiF (isOwnD [10] 10) (varF 1)))) (badS) (nilS)) (retS (bltF lenD (argsF [lcF fuel [2, 3, 4] (.tp [.nm 2, .nm 3, .nm 4]) (zip3F (argsF [conF (.tup [.str "new", .str "changed", .str "gone", .str "two new", .str "two changed", .str "torn"]), fldF (sxL [(10, 0)]) (varF 0), fldF (sxL [(10, 0)]) (varF 1)])) (testF (opF neD (varF 3) (varF 4))) (varF 2)])))
/-- Table.rule_of -/
def b_9 (g : Cfg) : MS := retS (opF idxD (fldF (sxL [(10, 0)]) (varF 0)) (tixF ["new", "changed", "gone", "two new", "two changed", "torn"] (varF 1)))
/-- Table.with_rule -/
def b_10 (g : Cfg) : MS := seqS (ifS (orTF [notTF (testF (usrF 2 g [] (argsF [varF 1]))), notTF (testF (usrF 1 g [] (argsF [varF 1, varF 2])))]) (raiS 2 (varF 1)) (nilS)) (retS (mkF 10 3 g [] (argsF [lcF fuel [3] (.nm 3) (iterF (conF (.tup [.str "new", .str "changed", .str "gone", .str "two new", .str "two changed", .str "torn"]))) (yesT) (ifF (testF (opF eqD (varF 3) (varF 1))) (varF 2) (methF 10 9 g [] (varF 0) (argsF [varF 3])))])))
/-- _law_begun -/
def b_11 (g : Cfg) : MS := seqS (setS false 2 (opF addD (sliF (varF 0) (some (varF 1)) none) (sliF (varF 0) none (some (varF 1))))) (seqS (setS false 3 (lcF fuel [4] (.nm 4) (iterF (varF 2)) (testF (opF geD (varF 4) (opF powD (conF (.int 10)) (conF (.int 18))))) (varF 4))) (seqS (setS false 5 (opF addD (conF (.int 97)) (varF 1))) (seqS (forS fuel (.nm 4) (iterF (varF 2)) (setS false 5 (opF modD (bltF intD (argsF [opF addD (opF mulD (varF 5) (conF (.int 48271))) (varF 4)])) (conF (.int 2147483647))))) (retS (dspF [(conF (.str "left"), ifF (testF (opF neD (varF 3) (lstF (argsF [])))) (opF idxD (varF 3) (conF (.int 0))) (conF (.int 0))), (conF (.str "seed"), varF 5), (conF (.str "cells"), opF addD (varF 2) (lstF (argsF [opF addD (opF mulD (conF (.int 31)) (varF 1)) (conF (.int 5))]))), (conF (.str "spot"), conF (.int 0))])))))
/-- _law_draw -/
def b_12 (g : Cfg) : MS := seqS (ifS (testF (opF gtD (opF idxD (varF 0) (conF (.str "left"))) (conF (.int 0)))) (seqS (setS false 2 (opF modD (bltF intD (argsF [opF idxD (varF 0) (conF (.str "left"))])) (varF 1))) (seqS (subS (varF 0) (conF (.str "left")) (opF fdivD (opF idxD (varF 0) (conF (.str "left"))) (varF 1))) (retS (varF 2)))) (nilS)) (seqS (setS false 3 (opF idxD (varF 0) (conF (.str "spot")))) (seqS (subS (varF 0) (conF (.str "spot")) (opF addD (varF 3) (conF (.int 1)))) (seqS (parS 4 5 (argsM [(false, opF idxD (varF 0) (conF (.str "cells"))), (false, opF addD (opF idxD (varF 0) (conF (.str "seed"))) (opF mulD (opF mulD (conF (.int 40503)) (varF 3)) (varF 3)))])) (seqS (setS false 6 (opF idxD (varF 4) (opF modD (bltF intD (argsF [varF 3])) (bltF lenD (argsF [varF 4]))))) (seqS (setS false 7 (opF modD (bltF intD (argsF [opF addD (opF mulD (varF 6) (opF addD (opF mulD (conF (.int 2)) (varF 3)) (conF (.int 3)))) (varF 5)])) (conF (.int 2147483647)))) (seqS (setS false 7 (opF modD (bltF intD (argsF [opF addD (opF addD (opF mulD (varF 7) (varF 7)) (opF mulD (conF (.int 69621)) (varF 3))) (opF idxD (varF 0) (conF (.str "seed")))])) (conF (.int 2147483629)))) (retS (opF modD (opF fdivD (opF modD (bltF intD (argsF [opF addD (opF mulD (varF 7) (conF (.int 48271))) (varF 3)])) (conF (.int 2147483647))) (conF (.int 11))) (varF 1)))))))))
/-- _law_of -/
def b_13 (g : Cfg) : MS := retS (opF idxD (varF 1) (usrF 12 g [] (argsF [varF 0, bltF lenD (argsF [varF 1])])))
/-- _law_words -/
def b_14 (g : Cfg) : MS := seqS (ifS (testF (opF ltD (varF 0) (conF (.int 3)))) (retS (lstF (argsF [conF (.str "spread"), conF (.str "back"), conF (.str "leave")]))) (nilS)) (retS (ifF (testF (opF ltD (varF 0) (conF (.int 5)))) (lstF (argsF [conF (.str "lesser"), conF (.str "greater"), conF (.str "leave")])) (lstF (argsF [conF (.str "content"), conF (.str "gone"), conF (.str "leave")]))))
/-- _law_rules -/
def b_15 (g : Cfg) : MS := seqS (parS 1 2 (argsM [(false, usrF 12 g [] (argsF [varF 0, conF (.int 4)])), (true, lstF (argsF [conF (.str "spread"), conF (.str "spread"), conF (.str "spread"), conF (.str "leave"), conF (.str "leave"), conF (.str "leave")]))])) (seqS (forS fuel (.nm 3) (rngF rng1D (argsF [conF (.int 6)])) (seqS (ifS (orTF [testF (opF eqD (varF 1) (conF (.int 0))), testF (opF eqD (usrF 12 g [] (argsF [varF 0, conF (.int 4)])) (conF (.int 0)))]) (subS (varF 2) (varF 3) (usrF 13 g [] (argsF [varF 0, usrF 14 g [] (argsF [varF 3])]))) (nilS)) (ifS (andTF [testF (opF eqD (varF 1) (conF (.int 1))), testF (opF eqD (opF idxD (varF 2) (varF 3)) (conF (.str "leave")))]) (subS (varF 2) (varF 3) (opF idxD (usrF 14 g [] (argsF [varF 3])) (usrF 12 g [] (argsF [varF 0, conF (.int 2)])))) (nilS)))) (retS (bltF tupleD (argsF [varF 2]))))
/-- _law_word -/
def b_16 (g : Cfg) : MS := seqS (setS true 1 (lstF (argsF [tupF (argsF [conF (.str "web"), isiF (isExD (exL [(1, true), (2, false), (3, false), (4, false), (5, false), (6, false), (7, false), (8, false), (9, false)])) (varF 0)]), tupF (argsF [conF (.str "table"), isiF (isExD (exL [(1, false), (2, true), (3, false), (4, false), (5, false), (6, false), (7, false), (8, false), (9, false)])) (varF 0)])]))) (seqS (setS true 1 (opF addD (varF 1) (lstF (argsF [tupF (argsF [conF (.str "standing"), isiF (isExD (exL [(1, false), (2, false), (3, true), (4, false), (5, false), (6, false), (7, false), (8, false), (9, false)])) (varF 0)]), tupF (argsF [conF (.str "deed"), isiF (isExD (exL [(1, false), (2, false), (3, false), (4, true), (5, false), (6, false), (7, false), (8, false), (9, false)])) (varF 0)])])))) (seqS (setS true 1 (opF addD (varF 1) (lstF (argsF [tupF (argsF [conF (.str "promise"), isiF (isExD (exL [(1, false), (2, false), (3, false), (4, false), (5, true), (6, false), (7, false), (8, false), (9, false)])) (varF 0)]), tupF (argsF [conF (.str "name"), isiF (isExD (exL [(1, false), (2, false), (3, false), (4, false), (5, false), (6, true), (7, false), (8, false), (9, false)])) (varF 0)])])))) (seqS (setS true 1 (opF addD (varF 1) (lstF (argsF [tupF (argsF [conF (.str "text"), isiF (isExD (exL [(1, false), (2, false), (3, false), (4, false), (5, false), (6, false), (7, true), (8, false), (9, false)])) (varF 0)]), tupF (argsF [conF (.str "great"), isiF (isExD (exL [(1, false), (2, false), (3, false), (4, false), (5, false), (6, false), (7, false), (8, true), (9, false)])) (varF 0)])])))) (seqS (dropS (mthF "list" appendD (varF 1) (argsF [tupF (argsF [conF (.str "missing"), isiF (isExD (exL [(1, false), (2, false), (3, false), (4, false), (5, false), (6, false), (7, false), (8, false), (9, true)])) (varF 0)])]))) (seqS (setS false 2 (lcF fuel [3, 4] (.tp [.nm 3, .nm 4]) (iterF (varF 1)) (testF (varF 4)) (varF 3))) (seqS (ifS (testF (opF neD (bltF lenD (argsF [varF 2])) (conF (.int 1)))) (retS (tupF (argsF [conF (.str "other")]))) (nilS)) (seqS (ifS (testF (opF inD (opF idxD (varF 2) (conF (.int 0))) (tupF (argsF [conF (.str "web"), conF (.str "table"), conF (.str "standing"), conF (.str "deed")])))) (retS (tupF (argsF [opF idxD (varF 2) (conF (.int 0)), errF (fxL [1, 2, 3, 4]) (varF 0)]))) (nilS)) (seqS (ifS (testF (opF inD (opF idxD (varF 2) (conF (.int 0))) (tupF (argsF [conF (.str "promise"), conF (.str "name")])))) (retS (tupF (argsF [opF idxD (varF 2) (conF (.int 0)), errF (fxL [5, 6]) (varF 0)]))) (nilS)) (seqS (ifS (testF (opF eqD (opF idxD (varF 2) (conF (.int 0))) (conF (.str "text")))) (retS (tupF (argsF [conF (.str "text"), errF (fxL [7]) (varF 0)]))) (nilS)) (retS (ifF (testF (opF eqD (opF idxD (varF 2) (conF (.int 0))) (conF (.str "great")))) (tupF (argsF [conF (.str "great"), errF (fxL [8]) (varF 0)])) (tupF (argsF [conF (.str "missing"), errF (fxL [9]) (varF 0)])))))))))))))
/-- _law_told -/
def t_17 (g : Cfg) : MS := retS (ifF (testF (opF isND (varF 2) (conF .non))) (lstF (argsF [varF 1])) (usrF 16 g [] (argsF [varF 2])))
/-- _law_cases -/
def b_18 (g : Cfg) : MS := retS (lstF (argsF [conF (.str "new"), conF (.str "changed"), conF (.str "gone"), conF (.str "two new"), conF (.str "two changed"), conF (.str "torn")]))
/-- _law_is_rule -/
def b_19 (g : Cfg) : MS := retS (opF inD (bltF reprD (argsF [varF 1])) (lcF fuel [2] (.nm 2) (iterF (usrF 14 g [] (argsF [varF 0]))) (yesT) (bltF reprD (argsF [varF 2]))))
/-- _law_due -/
def b_20 (g : Cfg) : MS := seqS (ifS (orTF [notTF (testF (isiF (isTy2D "list" "tuple") (varF 0))), testF (opF neD (bltF lenD (argsF [varF 0])) (conF (.int 6)))]) (retS (tupF (argsF [conF (.str "table"), conF .non]))) (nilS)) (seqS (setS false 1 (lcF fuel [2] (.nm 2) (rngF rng1D (argsF [conF (.int 6)])) (notTF (testF (usrF 19 g [] (argsF [varF 2, opF idxD (varF 0) (varF 2)])))) (varF 2))) (retS (ifF (testF (opF neD (varF 1) (lstF (argsF [])))) (tupF (argsF [conF (.str "table"), opF idxD (usrF 18 g [] (argsF [])) (opF idxD (varF 1) (conF (.int 0)))])) (conF .non))))
/-- _law_right -/
def b_21 (g : Cfg) : MS := seqS (parS 1 2 (argsM [(false, bltF reprD (argsF [varF 0])), (false, usrF 20 g [] (argsF [varF 0]))])) (seqS (forS fuel (.nm 3) (rngF rng1D (argsF [conF (.int 2)])) (seqS (setS false 4 (toldF (exL [(1, true), (2, true), (3, true), (4, true), (5, true), (6, true), (7, true), (8, true), (9, true)]) (t_17 g) (mkF 10 3 g [] (argsF [varF 0])))) (seqS (ifS (andTF [testF (opF notND (varF 2) (conF .non)), testF (opF neD (bltF reprD (argsF [varF 4])) (bltF reprD (argsF [varF 2])))]) (retS (conF (.bl false))) (nilS)) (seqS (ifS (andTF [testF (opF isND (varF 2) (conF .non)), orTF [notTF (testF (isiF (isTyD "list") (varF 4))), notTF (testF (isiF (isOwnD [10] 10) (opF idxD (varF 4) (conF (.int 0)))))]]) (retS (conF (.bl false))) (nilS)) (ifS (andTF [testF (opF isND (varF 2) (conF .non)), testF (opF neD (bltF reprD (argsF [fldF (sxL [(10, 0)]) (opF idxD (varF 4) (conF (.int 0)))])) (bltF reprD (argsF [bltF tupleD (argsF [varF 0])])))]) (retS (conF (.bl false))) (nilS)))))) (retS (opF eqD (bltF reprD (argsF [varF 0])) (varF 1))))
/-- _law_odd -/
def b_22 (g : Cfg) : MS := seqS (setS false 1 (lstF (argsF [conF .non, conF (.int 5), conF (.bl true), conF (.str ""), conF (.str "Spread"), conF (.str "spread "), conF (.str " leave"), conF (.str "new"), conF (.str "both"), lstF (argsF [conF (.str "spread")]), tupF (argsF [conF (.str "leave")]), dnewF, opF powD (conF (.int 10)) (conF (.int 30))]))) (retS (usrF 13 g [] (argsF [varF 0, opF addD (varF 1) (lstF (argsF [conF (.str "spread"), conF (.str "back"), conF (.str "leave"), conF (.str "lesser"), conF (.str "greater"), conF (.str "content"), conF (.str "gone")]))])))
/-- _law_bent -/
def b_23 (g : Cfg) : MS := seqS (parS 2 3 (argsM [(false, usrF 12 g [] (argsF [varF 0, opF addD (bltF lenD (argsF [varF 1])) (conF (.int 1))])), (false, usrF 12 g [] (argsF [varF 0, conF (.int 8)]))])) (seqS (ifS (testF (opF ltD (varF 3) (conF (.int 4)))) (retS (opF addD (opF addD (sliF (varF 1) none (some (varF 2))) (lstF (argsF [usrF 22 g [] (argsF [varF 0])]))) (sliF (varF 1) (some (opF addD (varF 2) (conF (.int 1)))) none))) (nilS)) (seqS (ifS (testF (opF eqD (varF 3) (conF (.int 4)))) (retS (opF addD (sliF (varF 1) none (some (varF 2))) (sliF (varF 1) (some (opF addD (varF 2) (conF (.int 1)))) none))) (nilS)) (seqS (ifS (testF (opF eqD (varF 3) (conF (.int 5)))) (retS (opF addD (opF addD (sliF (varF 1) none (some (varF 2))) (lstF (argsF [usrF 22 g [] (argsF [varF 0])]))) (sliF (varF 1) (some (varF 2)) none))) (nilS)) (seqS (ifS (testF (opF eqD (varF 3) (conF (.int 6)))) (retS (opF addD (sliF (varF 1) (some (varF 2)) none) (sliF (varF 1) none (some (varF 2))))) (nilS)) (retS (usrF 13 g [] (argsF [varF 0, lstF (argsF [conF .non, conF (.int 5), conF (.str "leave"), conF (.str "abcdef"), dnewF, conF (.bl true), tupF (argsF []), lstF (argsF []), dspF [(conF (.str "new"), conF (.str "spread"))], opF powD (conF (.int 10)) (conF (.int 30)), revF (varF 1)])])))))))
/-- _law_spoilt_right -/
def b_24 (g : Cfg) : MS := seqS (setS false 2 (bltF listD (argsF [varF 1]))) (seqS (forS fuel (.nm 3) (rngF rng1D (argsF [opF addD (conF (.int 1)) (usrF 12 g [] (argsF [varF 0, conF (.int 2)]))])) (setS false 2 (ifF (testF (isiF (isTyD "list") (varF 2))) (usrF 23 g [] (argsF [varF 0, varF 2])) (varF 2)))) (seqS (ifS (andTF [testF (isiF (isTyD "list") (varF 2)), testF (opF eqD (usrF 12 g [] (argsF [varF 0, conF (.int 2)])) (conF (.int 0)))]) (setS false 2 (bltF tupleD (argsF [varF 2]))) (nilS)) (retS (usrF 21 g [] (argsF [varF 2])))))
/-- _law_cases_right -/
def b_25 (g : Cfg) : MS := seqS (forS fuel (.nm 3) (rngF rng1D (argsF [conF (.int 6)])) (seqS (setS false 4 (opF idxD (usrF 18 g [] (argsF [])) (varF 3))) (seqS (ifS (testF (opF neD (bltF reprD (argsF [lstF (argsF [ixOF 10 6 g (varF 1) (varF 4), ixOF 10 6 g (varF 1) (varF 4)])])) (bltF reprD (argsF [opF mulD (lstF (argsF [opF idxD (varF 2) (varF 3)])) (conF (.int 2))])))) (retS (conF (.bl false))) (nilS)) (seqS (forS fuel (.nm 5) (iterF (usrF 14 g [] (argsF [varF 3]))) (seqS (setS false 6 (methF 10 10 g [] (varF 1) (argsF [varF 4, varF 5]))) (seqS (ifS (orTF [notTF (testF (isiF (isOwnD [10] 10) (varF 6))), testF (opF neD (bltF reprD (argsF [fldF (sxL [(10, 0)]) (varF 6)])) (bltF reprD (argsF [opF addD (opF addD (sliF (varF 2) none (some (varF 3))) (tupF (argsF [varF 5]))) (sliF (varF 2) (some (opF addD (varF 3) (conF (.int 1)))) none)])))]) (retS (conF (.bl false))) (nilS)) (seqS (setS false 7 (bltF intD (argsF [opF neD (varF 5) (opF idxD (varF 2) (varF 3))]))) (ifS (testF (opF neD (bltF reprD (argsF [lstF (argsF [opRF (ownBD g 10 8) (varF 1) (varF 6), opRF (ownBD g 10 8) (varF 6) (varF 1), opRF (own1D g 10 5 [10]) (varF 1) (varF 6)])])) (bltF reprD (argsF [lstF (argsF [varF 7, varF 7, opF eqD (varF 7) (conF (.int 0))])])))) (retS (conF (.bl false))) (nilS)))))) (seqS (setS false 8 (usrF 22 g [] (argsF [varF 0]))) (seqS (setS false 9 (toldF (exL [(1, true), (2, true), (3, true), (4, true), (5, true), (6, true), (7, true), (8, true), (9, true)]) (t_17 g) (methF 10 10 g [] (varF 1) (argsF [varF 4, varF 8])))) (ifS (andTF [notTF (testF (usrF 19 g [] (argsF [varF 3, varF 8]))), testF (opF neD (bltF reprD (argsF [varF 9])) (bltF reprD (argsF [tupF (argsF [conF (.str "table"), varF 4])])))]) (retS (conF (.bl false))) (nilS)))))))) (retS (opF eqD (bltF reprD (argsF [fldF (sxL [(10, 0)]) (varF 1)])) (bltF reprD (argsF [varF 2]))))
/-- _law_refused_right -/
def b_26 (g : Cfg) : MS := seqS (forS fuel (.nm 2) (iterF (tupF (argsF [conF .non, conF (.int 0), conF (.str "New"), conF (.str "two"), conF (.str "two  new"), conF (.str ""), conF (.str "torn "), conF (.str "leave"), lstF (argsF [conF (.str "new")]), tupF (argsF [conF (.str "new")]), dnewF, conF (.bl true), opF powD (conF (.int 10)) (conF (.int 30))]))) (seqS (setS true 3 (lstF (argsF [toldF (exL [(1, true), (2, true), (3, true), (4, true), (5, true), (6, true), (7, true), (8, true), (9, true)]) (t_17 g) (ixOF 10 6 g (varF 0) (varF 2)), toldF (exL [(1, true), (2, true), (3, true), (4, true), (5, true), (6, true), (7, true), (8, true), (9, true)]) (t_17 g) (methF 10 10 g [] (varF 0) (argsF [varF 2, conF (.str "leave")]))]))) (seqS (dropS (mthF "list" appendD (varF 3) (argsF [toldF (exL [(1, true), (2, true), (3, true), (4, true), (5, true), (6, true), (7, true), (8, true), (9, true)]) (t_17 g) (methF 10 10 g [] (varF 0) (argsF [varF 2, conF .non]))]))) (ifS (testF (opF neD (bltF reprD (argsF [varF 3])) (bltF reprD (argsF [opF mulD (lstF (argsF [tupF (argsF [conF (.str "table"), varF 2])])) (conF (.int 3))])))) (retS (conF (.bl false))) (nilS))))) (seqS (forS fuel (.tp [.nm 4, .nm 5]) (iterF (tupF (argsF [tupF (argsF [conF (.str "new"), conF (.str "gone")]), tupF (argsF [conF (.str "gone"), conF (.str "content")]), tupF (argsF [conF (.str "two new"), conF (.str "spread")]), tupF (argsF [conF (.str "two changed"), conF (.str "back")])]))) (ifS (testF (opF neD (bltF reprD (argsF [toldF (exL [(1, true), (2, true), (3, true), (4, true), (5, true), (6, true), (7, true), (8, true), (9, true)]) (t_17 g) (methF 10 10 g [] (varF 0) (argsF [varF 4, varF 5]))])) (bltF reprD (argsF [tupF (argsF [conF (.str "table"), varF 4])])))) (retS (conF (.bl false))) (nilS))) (seqS (forS fuel (.nm 5) (iterF (tupF (argsF [conF (.str "spread"), conF (.str "lesser"), conF .non, lstF (argsF [conF (.str "leave")]), conF (.str ""), conF (.bl true)]))) (ifS (testF (opF neD (bltF reprD (argsF [toldF (exL [(1, true), (2, true), (3, true), (4, true), (5, true), (6, true), (7, true), (8, true), (9, true)]) (t_17 g) (methF 10 10 g [] (varF 0) (argsF [conF (.str "torn"), varF 5]))])) (bltF reprD (argsF [tupF (argsF [conF (.str "table"), conF (.str "torn")])])))) (retS (conF (.bl false))) (nilS))) (retS (opF eqD (bltF reprD (argsF [fldF (sxL [(10, 0)]) (varF 0)])) (bltF reprD (argsF [varF 1]))))))
/-- _law_two_right -/
def b_27 (g : Cfg) : MS := seqS (setS true 2 (bltF listD (argsF [varF 0]))) (seqS (par3S 3 4 5 (argsM [(false, mkZF 10 3 g [] (argsF [varF 2])), (false, mkF 10 3 g [] (argsF [varF 0])), (false, mkF 10 3 g [] (argsF [varF 1]))])) (seqS (dropS (mthF "list" appendD (varF 2) (argsF [conF (.str "leave")]))) (seqS (subS (varF 2) (conF (.int 0)) (conF .non)) (seqS (ifS (testF (opF neD (bltF reprD (argsF [lstF (argsF [fldF (sxL [(10, 0)]) (varF 3), fldF (sxL [(10, 0)]) (varF 4)])])) (bltF reprD (argsF [lstF (argsF [varF 0, varF 0])])))) (retS (conF (.bl false))) (nilS)) (seqS (ifS (testF (opF neD (bltF reprD (argsF [lstF (argsF [opRF (own1D g 10 5 [10]) (varF 3) (varF 4), opRF (ownND g 10 5 [10]) (varF 3) (varF 4), opRF (ownBD g 10 8) (varF 3) (varF 4)])])) (bltF reprD (argsF [lstF (argsF [conF (.bl true), conF (.bl false), conF (.int 0)])])))) (retS (conF (.bl false))) (nilS)) (seqS (setS false 6 (bltF lenD (argsF [lcF fuel [7] (.nm 7) (rngF rng1D (argsF [conF (.int 6)])) (testF (opF neD (opF idxD (varF 0) (varF 7)) (opF idxD (varF 1) (varF 7)))) (varF 7)]))) (seqS (ifS (testF (opF neD (bltF reprD (argsF [lstF (argsF [opRF (ownBD g 10 8) (varF 3) (varF 5), opRF (ownBD g 10 8) (varF 5) (varF 3)])])) (bltF reprD (argsF [lstF (argsF [varF 6, varF 6])])))) (retS (conF (.bl false))) (nilS)) (seqS (ifS (testF (opF neD (bltF reprD (argsF [lstF (argsF [opRF (own1D g 10 5 [10]) (varF 3) (varF 5), opRF (own1D g 10 5 [10]) (varF 5) (varF 3), opRF (ownND g 10 5 [10]) (varF 3) (varF 5)])])) (bltF reprD (argsF [lstF (argsF [opF eqD (varF 6) (conF (.int 0)), opF eqD (varF 6) (conF (.int 0)), opF neD (varF 6) (conF (.int 0))])])))) (retS (conF (.bl false))) (nilS)) (seqS (forS fuel (.nm 8) (iterF (tupF (argsF [conF .non, varF 0, bltF listD (argsF [varF 0]), conF (.str "table"), conF (.int 6), dnewF]))) (ifS (testF (opF neD (bltF reprD (argsF [lstF (argsF [opRF (own1D g 10 5 [10]) (varF 3) (varF 8), opRF (ownND g 10 5 [10]) (varF 3) (varF 8)])])) (bltF reprD (argsF [lstF (argsF [conF (.bl false), conF (.bl true)])])))) (retS (conF (.bl false))) (nilS))) (retS (conF (.bl true))))))))))))
/-- _law_hand_right -/
def b_28 (g : Cfg) : MS := seqS (setS false 0 (tupF (argsF [conF (.str "spread"), conF (.str "spread"), conF (.str "spread"), conF (.str "leave"), conF (.str "leave"), conF (.str "leave")]))) (seqS (parS 1 2 (argsM [(false, cmF 10 4 g []), (false, mkF 10 3 g [] (argsF [lstF (argsF [conF (.str "back"), conF (.str "back"), conF (.str "back"), conF (.str "lesser"), conF (.str "greater"), conF (.str "gone")])]))])) (seqS (ifS (orTF [notTF (testF (isiF (isOwnD [10] 10) (varF 1))), testF (opF neD (bltF reprD (argsF [lstF (argsF [fldF (sxL [(10, 0)]) (varF 1), conF (.tup [.str "new", .str "changed", .str "gone", .str "two new", .str "two changed", .str "torn"])])])) (bltF reprD (argsF [lstF (argsF [varF 0, bltF tupleD (argsF [usrF 18 g [] (argsF [])])])])))]) (retS (conF (.bl false))) (nilS)) (seqS (ifS (testF (opF neD (bltF reprD (argsF [lstF (argsF [opRF (ownBD g 10 8) (varF 1) (varF 2), opRF (ownBD g 10 8) (varF 2) (varF 1), opRF (own1D g 10 5 [10]) (varF 1) (mkF 10 3 g [] (argsF [varF 0])), opRF (own1D g 10 5 [10]) (varF 1) (cmF 10 4 g [])])])) (bltF reprD (argsF [lstF (argsF [conF (.int 6), conF (.int 6), conF (.bl true), conF (.bl true)])])))) (retS (conF (.bl false))) (nilS)) (seqS (setS false 3 (lstF (argsF [tupF (argsF [opF mulD (lstF (argsF [conF (.str "leave")])) (conF (.int 6)), conF .non]), tupF (argsF [opF mulD (lstF (argsF [conF (.str "leave")])) (conF (.int 5)), tupF (argsF [conF (.str "table"), conF .non])]), tupF (argsF [opF mulD (lstF (argsF [conF (.str "leave")])) (conF (.int 7)), tupF (argsF [conF (.str "table"), conF .non])])]))) (seqS (setS false 3 (opF addD (varF 3) (lstF (argsF [tupF (argsF [opF mulD (lstF (argsF [conF (.str "spread")])) (conF (.int 6)), tupF (argsF [conF (.str "table"), conF (.str "two new")])]), tupF (argsF [opF mulD (lstF (argsF [conF (.str "lesser")])) (conF (.int 6)), tupF (argsF [conF (.str "table"), conF (.str "new")])])])))) (seqS (setS false 3 (opF addD (varF 3) (lstF (argsF [tupF (argsF [opF addD (bltF listD (argsF [sliF (varF 0) none (some (conF (.int 5)))])) (lstF (argsF [conF (.str "lesser")])), tupF (argsF [conF (.str "table"), conF (.str "torn")])]), tupF (argsF [conF (.str "leaves"), tupF (argsF [conF (.str "table"), conF .non])])])))) (seqS (setS false 3 (opF addD (varF 3) (lstF (argsF [tupF (argsF [opF addD (opF addD (sliF (varF 0) none (some (conF (.int 1)))) (tupF (argsF [conF (.str "gone"), conF .non]))) (sliF (varF 0) (some (conF (.int 3))) none), tupF (argsF [conF (.str "table"), conF (.str "changed")])])])))) (seqS (forS fuel (.tp [.nm 4, .nm 5]) (iterF (varF 3)) (ifS (orTF [testF (opF neD (bltF reprD (argsF [usrF 20 g [] (argsF [varF 4])])) (bltF reprD (argsF [varF 5]))), notTF (testF (usrF 21 g [] (argsF [varF 4])))]) (retS (conF (.bl false))) (nilS))) (retS (conF (.bl true)))))))))))
/-- law -/
def b_29 (g : Cfg) : MS := seqS (forS fuel (.nm 1) (rngF rng1D (argsF [opF addD (conF (.int 1)) (bltF min2D (argsF [bltF lenD (argsF [varF 0]), conF (.int 5)]))])) (seqS (setS true 2 (usrF 11 g [] (argsF [varF 0, varF 1]))) (seqS (parS 3 4 (argsM [(false, usrF 15 g [] (argsF [varF 2])), (false, usrF 15 g [] (argsF [varF 2]))])) (seqS (ifS (orTF [notTF (testF (usrF 21 g [] (argsF [varF 3]))), notTF (testF (usrF 21 g [] (argsF [bltF listD (argsF [varF 3])]))), notTF (testF (usrF 27 g [] (argsF [varF 3, varF 4])))]) (retS (conF (.bl false))) (nilS)) (seqS (setS false 5 (mkF 10 3 g [] (argsF [varF 3]))) (seqS (ifS (orTF [notTF (testF (usrF 25 g [] (argsF [varF 2, varF 5, varF 3]))), notTF (testF (usrF 26 g [] (argsF [varF 5, varF 3])))]) (retS (conF (.bl false))) (nilS)) (forS fuel (.nm 6) (rngF rng1D (argsF [conF (.int 6)])) (ifS (notTF (testF (usrF 24 g [] (argsF [varF 2, varF 3])))) (retS (conF (.bl false))) (nilS))))))))) (retS (usrF 28 g [] (argsF [])))
def Pg : Nat → Option Dfn := fun i => match i with
  | 0 => some ⟨1, 1, b_0⟩
  | 1 => some ⟨2, 2, b_1⟩
  | 2 => some ⟨1, 1, b_2⟩
  | 3 => some ⟨2, 4, b_3⟩
  | 4 => some ⟨1, 1, b_4⟩
  | 5 => some ⟨2, 2, b_5⟩
  | 6 => some ⟨2, 2, b_6⟩
  | 8 => some ⟨2, 5, b_8⟩
  | 9 => some ⟨2, 2, b_9⟩
  | 10 => some ⟨3, 4, b_10⟩
  | 11 => some ⟨2, 6, b_11⟩
  | 12 => some ⟨2, 8, b_12⟩
  | 13 => some ⟨2, 2, b_13⟩
  | 14 => some ⟨1, 1, b_14⟩
  | 15 => some ⟨1, 4, b_15⟩
  | 16 => some ⟨1, 5, b_16⟩
  | 18 => some ⟨0, 0, b_18⟩
  | 19 => some ⟨2, 3, b_19⟩
  | 20 => some ⟨1, 3, b_20⟩
  | 21 => some ⟨1, 5, b_21⟩
  | 22 => some ⟨1, 2, b_22⟩
  | 23 => some ⟨2, 4, b_23⟩
  | 24 => some ⟨2, 4, b_24⟩
  | 25 => some ⟨3, 10, b_25⟩
  | 26 => some ⟨2, 6, b_26⟩
  | 27 => some ⟨2, 9, b_27⟩
  | 28 => some ⟨0, 6, b_28⟩
  | 29 => some ⟨1, 7, b_29⟩
  | _ => none
def dd_0 : DefD := ⟨("is_list", none), "is_list", "is_list", defArgs (top 12), defBody (top 12), defScope (top 12), [], []⟩
def dd_1 : DefD := ⟨("is_rule", none), "is_rule", "is_rule", defArgs (top 31), defBody (top 31), defScope (top 31), [], []⟩
def dd_2 : DefD := ⟨("is_case", none), "is_case", "is_case", defArgs (top 32), defBody (top 32), defScope (top 32), [], []⟩
def dd_3 : DefD := ⟨("Table", some "__init__"), "__init__", "Table.__init__", defArgs (inC 33 1), defBody (inC 33 1), defScope (inC 33 1), [], []⟩
def gd_4 : GD := ⟨fun K => cmDef K (ga K "Table") "plain", ⟨("", none), "plain", "Table.plain", defArgs (inC 33 2), defBody (inC 33 2), defScope (inC 33 2), [], []⟩⟩
def dd_5 : DefD := ⟨("Table", some "__eq__"), "__eq__", "Table.__eq__", defArgs (inC 33 3), defBody (inC 33 3), defScope (inC 33 3), [], []⟩
def dd_6 : DefD := ⟨("Table", some "__getitem__"), "__getitem__", "Table.__getitem__", defArgs (inC 33 4), defBody (inC 33 4), defScope (inC 33 4), [], []⟩
def dd_8 : DefD := ⟨("Table", some "__sub__"), "__sub__", "Table.__sub__", defArgs (inC 33 6), defBody (inC 33 6), defScope (inC 33 6), [], []⟩
def dd_9 : DefD := ⟨("Table", some "rule_of"), "rule_of", "Table.rule_of", defArgs (inC 33 7), defBody (inC 33 7), defScope (inC 33 7), [], []⟩
def dd_10 : DefD := ⟨("Table", some "with_rule"), "with_rule", "Table.with_rule", defArgs (inC 33 8), defBody (inC 33 8), defScope (inC 33 8), [], []⟩
def dd_11 : DefD := ⟨("_law_begun", none), "_law_begun", "_law_begun", defArgs (top 35), defBody (top 35), defScope (top 35), [], []⟩
def dd_12 : DefD := ⟨("_law_draw", none), "_law_draw", "_law_draw", defArgs (top 36), defBody (top 36), defScope (top 36), [], []⟩
def dd_13 : DefD := ⟨("_law_of", none), "_law_of", "_law_of", defArgs (top 37), defBody (top 37), defScope (top 37), [], []⟩
def dd_14 : DefD := ⟨("_law_words", none), "_law_words", "_law_words", defArgs (top 38), defBody (top 38), defScope (top 38), [], []⟩
def dd_15 : DefD := ⟨("_law_rules", none), "_law_rules", "_law_rules", defArgs (top 39), defBody (top 39), defScope (top 39), [], []⟩
def dd_16 : DefD := ⟨("_law_word", none), "_law_word", "_law_word", defArgs (top 40), defBody (top 40), defScope (top 40), [], []⟩
def dd_17 : DefD := ⟨("_law_told", none), "_law_told", "_law_told", defArgs (top 41), defBody (top 41), defScope (top 41), [], []⟩
def dd_18 : DefD := ⟨("_law_cases", none), "_law_cases", "_law_cases", defArgs (top 42), defBody (top 42), defScope (top 42), [], []⟩
def dd_19 : DefD := ⟨("_law_is_rule", none), "_law_is_rule", "_law_is_rule", defArgs (top 43), defBody (top 43), defScope (top 43), [], []⟩
def dd_20 : DefD := ⟨("_law_due", none), "_law_due", "_law_due", defArgs (top 44), defBody (top 44), defScope (top 44), [], []⟩
def dd_21 : DefD := ⟨("_law_right", none), "_law_right", "_law_right", defArgs (top 45), defBody (top 45), defScope (top 45), [], []⟩
def dd_22 : DefD := ⟨("_law_odd", none), "_law_odd", "_law_odd", defArgs (top 46), defBody (top 46), defScope (top 46), [], []⟩
def dd_23 : DefD := ⟨("_law_bent", none), "_law_bent", "_law_bent", defArgs (top 47), defBody (top 47), defScope (top 47), [], []⟩
def dd_24 : DefD := ⟨("_law_spoilt_right", none), "_law_spoilt_right", "_law_spoilt_right", defArgs (top 48), defBody (top 48), defScope (top 48), [], []⟩
def dd_25 : DefD := ⟨("_law_cases_right", none), "_law_cases_right", "_law_cases_right", defArgs (top 49), defBody (top 49), defScope (top 49), [], []⟩
def dd_26 : DefD := ⟨("_law_refused_right", none), "_law_refused_right", "_law_refused_right", defArgs (top 50), defBody (top 50), defScope (top 50), [], []⟩
def dd_27 : DefD := ⟨("_law_two_right", none), "_law_two_right", "_law_two_right", defArgs (top 51), defBody (top 51), defScope (top 51), [], []⟩
def dd_28 : DefD := ⟨("_law_hand_right", none), "_law_hand_right", "_law_hand_right", defArgs (top 52), defBody (top 52), defScope (top 52), [], []⟩
def dd_29 : DefD := ⟨("law", none), "law", "law", defArgs (top 53), defBody (top 53), defScope (top 53), [], []⟩
def xd_1 : ExD := ⟨"BadWeb", "ValueError", "ValueError.__init__", "ValueError.__new__", [.type "ValueError", .type "Exception", .type "BaseException", .type "object"], "place", "place", "BadWeb.__init__", inC 2 0⟩
def xd_2 : ExD := ⟨"BadTable", "ValueError", "ValueError.__init__", "ValueError.__new__", [.type "ValueError", .type "Exception", .type "BaseException", .type "object"], "place", "place", "BadTable.__init__", inC 3 0⟩
def xd_3 : ExD := ⟨"BadStanding", "ValueError", "ValueError.__init__", "ValueError.__new__", [.type "ValueError", .type "Exception", .type "BaseException", .type "object"], "place", "place", "BadStanding.__init__", inC 4 0⟩
def xd_4 : ExD := ⟨"BadDeed", "ValueError", "ValueError.__init__", "ValueError.__new__", [.type "ValueError", .type "Exception", .type "BaseException", .type "object"], "place", "place", "BadDeed.__init__", inC 5 0⟩
def xd_5 : ExD := ⟨"BadPromise", "ValueError", "ValueError.__init__", "ValueError.__new__", [.type "ValueError", .type "Exception", .type "BaseException", .type "object"], "value", "value", "BadPromise.__init__", inC 6 0⟩
def xd_6 : ExD := ⟨"BadName", "ValueError", "ValueError.__init__", "ValueError.__new__", [.type "ValueError", .type "Exception", .type "BaseException", .type "object"], "value", "value", "BadName.__init__", inC 7 0⟩
def xd_7 : ExD := ⟨"BadText", "ValueError", "ValueError.__init__", "ValueError.__new__", [.type "ValueError", .type "Exception", .type "BaseException", .type "object"], "line", "line", "BadText.__init__", inC 8 0⟩
def xd_8 : ExD := ⟨"TooGreat", "OverflowError", "OverflowError.__init__", "OverflowError.__new__", [.type "OverflowError", .type "ArithmeticError", .type "Exception", .type "BaseException", .type "object"], "most", "most", "TooGreat.__init__", inC 9 0⟩
def xd_9 : ExD := ⟨"Missing", "LookupError", "LookupError.__init__", "LookupError.__new__", [.type "LookupError", .type "Exception", .type "BaseException", .type "object"], "name", "name", "Missing.__init__", inC 10 0⟩
def clsN (c : Nat) : Str := ["PairError", "BadWeb", "BadTable", "BadStanding", "BadDeed", "BadPromise", "BadName", "BadText", "TooGreat", "Missing", "Table"].getD c ""
def fldN (c : Nat) : Str := ["", "place", "place", "place", "place", "value", "value", "line", "most", "name", ""].getD c ""
def tf : List Defn := [("_law_right", none), ("_law_cases_right", none), ("_law_refused_right", none)]
def lqs : List (Defn × Str) := [(("_law_right", none), (("_law_right" : Str) ++ ".<locals>.") ++ "<lambda>"), (("_law_cases_right", none), (("_law_cases_right" : Str) ++ ".<locals>.") ++ "<lambda>"), (("_law_refused_right", none), (("_law_refused_right" : Str) ++ ".<locals>.") ++ "<lambda>")]
def Gam (K : PySem.W.Frag) : Gm := ⟨K, fun c => ga K (clsN c), fun n => ga K (clsN n), fldN, lqs.map fun p => ((cT K p.1).2, p.2)⟩
def fa : List Fa := [.free "isinstance",
  .free "list",
  .free "tuple",
  .free "str",
  .glo "RULES",
  .glo "CASES",
  .free "len",
  .glo "BadTable",
  .free "zip",
  .str "SPREAD" "spread",
  .str "LEAVE" "leave",
  .glo "Table",
  .free "int",
  .free "range",
  .glo "BadWeb",
  .glo "BadStanding",
  .glo "BadDeed",
  .glo "BadPromise",
  .glo "BadName",
  .glo "BadText",
  .glo "TooGreat",
  .glo "Missing",
  .free "repr",
  .free "min",
  .glo "is_list",
  .glo "is_rule",
  .glo "is_case",
  .glo "_law_begun",
  .glo "_law_draw",
  .glo "_law_of",
  .glo "_law_words",
  .glo "_law_rules",
  .glo "_law_word",
  .glo "PairError",
  .glo "_law_told",
  .glo "_law_cases",
  .glo "_law_is_rule",
  .glo "_law_due",
  .glo "_law_right",
  .glo "_law_odd",
  .glo "_law_bent",
  .glo "_law_spoilt_right",
  .glo "_law_cases_right",
  .glo "_law_refused_right",
  .glo "_law_two_right",
  .glo "_law_hand_right",
  .glo "law"]
def fn : List DefD := [dd_0, dd_1, dd_2, dd_3, dd_5, dd_6, dd_8, dd_9, dd_10, dd_11, dd_12, dd_13, dd_14, dd_15, dd_16, dd_17, dd_18, dd_19, dd_20, dd_21, dd_22, dd_23, dd_24, dd_25, dd_26, dd_27, dd_28, dd_29]
def tab_0 : Tab := (fun K => ga K "RULES", ["new", "changed", "gone", "two new", "two changed", "torn"])
def ts : List Tab := [tab_0]
def gs : List GD := [gd_4]
def xs : List ExD := [xd_1, xd_2, xd_3, xd_4, xd_5, xd_6, xd_7, xd_8, xd_9]
def ck_0 : PySem.W.Frag → Bool := fun K => kdB K (ga K "RULES") [("new", ("ONE_SIDED", ["back", "leave", "spread"])), ("changed", ("ONE_SIDED", ["back", "leave", "spread"])), ("gone", ("ONE_SIDED", ["back", "leave", "spread"])), ("two new", ("BOTH_SIDED", ["greater", "leave", "lesser"])), ("two changed", ("BOTH_SIDED", ["greater", "leave", "lesser"])), ("torn", ("TORN_APART", ["content", "gone", "leave"]))]
def ck_1 : PySem.W.Frag → Bool := fun K => stB K (ga K "CASES") ["new", "changed", "gone", "two new", "two changed", "torn"]
def ck_2 : PySem.W.Frag → Bool := fun K => sxOkB (Gam K) "rules" [(10, 0)]
def ck_3 : PySem.W.Frag → Bool := fun K => ownIsB (Gam K) [10] 10
def ck_4 : PySem.W.Frag → Bool := fun K => exOkB (Gam K) 1 [(1, true), (2, false), (3, false), (4, false), (5, false), (6, false), (7, false), (8, false), (9, false)]
def ck_5 : PySem.W.Frag → Bool := fun K => exOkB (Gam K) 2 [(1, false), (2, true), (3, false), (4, false), (5, false), (6, false), (7, false), (8, false), (9, false)]
def ck_6 : PySem.W.Frag → Bool := fun K => exOkB (Gam K) 3 [(1, false), (2, false), (3, true), (4, false), (5, false), (6, false), (7, false), (8, false), (9, false)]
def ck_7 : PySem.W.Frag → Bool := fun K => exOkB (Gam K) 4 [(1, false), (2, false), (3, false), (4, true), (5, false), (6, false), (7, false), (8, false), (9, false)]
def ck_8 : PySem.W.Frag → Bool := fun K => exOkB (Gam K) 5 [(1, false), (2, false), (3, false), (4, false), (5, true), (6, false), (7, false), (8, false), (9, false)]
def ck_9 : PySem.W.Frag → Bool := fun K => exOkB (Gam K) 6 [(1, false), (2, false), (3, false), (4, false), (5, false), (6, true), (7, false), (8, false), (9, false)]
def ck_10 : PySem.W.Frag → Bool := fun K => exOkB (Gam K) 7 [(1, false), (2, false), (3, false), (4, false), (5, false), (6, false), (7, true), (8, false), (9, false)]
def ck_11 : PySem.W.Frag → Bool := fun K => exOkB (Gam K) 8 [(1, false), (2, false), (3, false), (4, false), (5, false), (6, false), (7, false), (8, true), (9, false)]
def ck_12 : PySem.W.Frag → Bool := fun K => exOkB (Gam K) 9 [(1, false), (2, false), (3, false), (4, false), (5, false), (6, false), (7, false), (8, false), (9, true)]
def ck_13 : PySem.W.Frag → Bool := fun K => fxOkB (Gam K) "place" [1, 2, 3, 4]
def ck_14 : PySem.W.Frag → Bool := fun K => fxOkB (Gam K) "value" [5, 6]
def ck_15 : PySem.W.Frag → Bool := fun K => fxOkB (Gam K) "line" [7]
def ck_16 : PySem.W.Frag → Bool := fun K => fxOkB (Gam K) "most" [8]
def ck_17 : PySem.W.Frag → Bool := fun K => fxOkB (Gam K) "name" [9]
def ck_18 : PySem.W.Frag → Bool := fun K => PySem.W.selfFirst K (ga K "Table")
def ck_19 : PySem.W.Frag → Bool := fun K => ownYB (Gam K) [10] 10
def ck_20 : PySem.W.Frag → Bool := fun K => neB K ((Gam K).cls 10)
def ck_21 : PySem.W.Frag → Bool := fun K => mkB K (ga K "Table")
def ck_22 : PySem.W.Frag → Bool := fun K => gdB K gd_4
def ck_23 : PySem.W.Frag → Bool := fun K => cmB K (ga K "Table") "plain"
def ck_24 : PySem.W.Frag → Bool := fun K => methB K (ga K "Table") "__eq__"
def ck_25 : PySem.W.Frag → Bool := fun K => methB K (ga K "Table") "__getitem__"
def ck_26 : PySem.W.Frag → Bool := fun K => methB K (ga K "Table") "__sub__"
def ck_27 : PySem.W.Frag → Bool := fun K => sclsB K (ga K "Table")
def ck_28 : PySem.W.Frag → Bool := fun K => methB K (ga K "Table") "rule_of"
def ck_29 : PySem.W.Frag → Bool := fun K => methB K (ga K "Table") "with_rule"
def ck_30 : PySem.W.Frag → Bool := fun K => cmOkB (Gam K) [.ref (ga K "PairError"), .ref (ga K "TooGreat"), .ref (ga K "Missing")] [(1, true), (2, true), (3, true), (4, true), (5, true), (6, true), (7, true), (8, true), (9, true)]
def ck_31 : PySem.W.Frag → Bool := fun K => ksB Pr K xd_1 (ga K xd_1.cls) (fAd K xd_1.at_)
def ck_32 : PySem.W.Frag → Bool := fun K => ksB Pr K xd_2 (ga K xd_2.cls) (fAd K xd_2.at_)
def ck_33 : PySem.W.Frag → Bool := fun K => ksB Pr K xd_3 (ga K xd_3.cls) (fAd K xd_3.at_)
def ck_34 : PySem.W.Frag → Bool := fun K => ksB Pr K xd_4 (ga K xd_4.cls) (fAd K xd_4.at_)
def ck_35 : PySem.W.Frag → Bool := fun K => ksB Pr K xd_5 (ga K xd_5.cls) (fAd K xd_5.at_)
def ck_36 : PySem.W.Frag → Bool := fun K => ksB Pr K xd_6 (ga K xd_6.cls) (fAd K xd_6.at_)
def ck_37 : PySem.W.Frag → Bool := fun K => ksB Pr K xd_7 (ga K xd_7.cls) (fAd K xd_7.at_)
def ck_38 : PySem.W.Frag → Bool := fun K => ksB Pr K xd_8 (ga K xd_8.cls) (fAd K xd_8.at_)
def ck_39 : PySem.W.Frag → Bool := fun K => ksB Pr K xd_9 (ga K xd_9.cls) (fAd K xd_9.at_)
def ck_40 : PySem.W.Frag → Bool := fun K => decide ((lqs.map fun p => (cT K p.1).2).Nodup)
def ck_41 : PySem.W.Frag → Bool := fun K => (K.lookup sysModules).isSome
def ck_42 : PySem.W.Frag → Bool := fun K => K.all fun q => !decide (q.2.cls = .type "list")
def cks : List (PySem.W.Frag → Bool) := [ck_0, ck_1, ck_2, ck_3, ck_4, ck_5, ck_6, ck_7, ck_8, ck_9, ck_10, ck_11, ck_12, ck_13, ck_14, ck_15, ck_16, ck_17, ck_18, ck_19, ck_20, ck_21, ck_22, ck_23, ck_24, ck_25, ck_26, ck_27, ck_28, ck_29, ck_30, ck_31, ck_32, ck_33, ck_34, ck_35, ck_36, ck_37, ck_38, ck_39, ck_40, ck_41, ck_42]
abbrev Fw (w : World) (K : PySem.W.Frag) (mg : Str → Option Value) (base : Heap) : Prop := Ft fa fn ts tf xs gs cks w K mg base
end Lw_k03
/-! Printed by tr.py: derivations of law_k03_tables_made. -/
namespace Lw_k03
open PySem L2 PyProof.Rows LamX He Ev
section
variable {w : World} {K : PySem.W.Frag} {mg : Str → Option Value} {base : Heap}
theorem sysin (F : Fw w K mg base) : (K.lookup sysModules).isSome = true := F.chk 41
theorem tdist (i : Nat) (F : Fw w K mg base) {p : Defn × Str} (z : Addr × Str) (hz : z ∈ (Gam K).T) (e : z.1 = (cT K p.1).2) (hp : lqs[i]? = some p := by rfl) : z.2 = p.2 := by
  have nd := of_decide_eq_true (F.chk 40)
  exact tdistL (c := fun p : Defn × Str => (cT K p.1).2) (l := fun p => p.2) nd hz e hp
theorem x_1 (F : Fw w K mg base) : Exr (Gam K) Pr K 1 :=
  ⟨_, _, _, _, _, _, supR_of (d := xd_1) PySem.F.excBase_ValueError PySem.F.store_ValueError PySem.W.kxs_ValueError (F.ks 0) (F.chk 31 (c := ck_31)) rfl rfl rfl rfl (fun _ _ _ _ _ _ _ _ _ => rfl) (fun _ => ⟨_, rfl⟩) (by decide +kernel) (by decide +kernel) (by decide +kernel) (by decide +kernel) (by decide +kernel)⟩
theorem x_2 (F : Fw w K mg base) : Exr (Gam K) Pr K 2 :=
  ⟨_, _, _, _, _, _, supR_of (d := xd_2) PySem.F.excBase_ValueError PySem.F.store_ValueError PySem.W.kxs_ValueError (F.ks 1) (F.chk 32 (c := ck_32)) rfl rfl rfl rfl (fun _ _ _ _ _ _ _ _ _ => rfl) (fun _ => ⟨_, rfl⟩) (by decide +kernel) (by decide +kernel) (by decide +kernel) (by decide +kernel) (by decide +kernel)⟩
theorem x_3 (F : Fw w K mg base) : Exr (Gam K) Pr K 3 :=
  ⟨_, _, _, _, _, _, supR_of (d := xd_3) PySem.F.excBase_ValueError PySem.F.store_ValueError PySem.W.kxs_ValueError (F.ks 2) (F.chk 33 (c := ck_33)) rfl rfl rfl rfl (fun _ _ _ _ _ _ _ _ _ => rfl) (fun _ => ⟨_, rfl⟩) (by decide +kernel) (by decide +kernel) (by decide +kernel) (by decide +kernel) (by decide +kernel)⟩
theorem x_4 (F : Fw w K mg base) : Exr (Gam K) Pr K 4 :=
  ⟨_, _, _, _, _, _, supR_of (d := xd_4) PySem.F.excBase_ValueError PySem.F.store_ValueError PySem.W.kxs_ValueError (F.ks 3) (F.chk 34 (c := ck_34)) rfl rfl rfl rfl (fun _ _ _ _ _ _ _ _ _ => rfl) (fun _ => ⟨_, rfl⟩) (by decide +kernel) (by decide +kernel) (by decide +kernel) (by decide +kernel) (by decide +kernel)⟩
theorem x_5 (F : Fw w K mg base) : Exr (Gam K) Pr K 5 :=
  ⟨_, _, _, _, _, _, supR_of (d := xd_5) PySem.F.excBase_ValueError PySem.F.store_ValueError PySem.W.kxs_ValueError (F.ks 4) (F.chk 35 (c := ck_35)) rfl rfl rfl rfl (fun _ _ _ _ _ _ _ _ _ => rfl) (fun _ => ⟨_, rfl⟩) (by decide +kernel) (by decide +kernel) (by decide +kernel) (by decide +kernel) (by decide +kernel)⟩
theorem x_6 (F : Fw w K mg base) : Exr (Gam K) Pr K 6 :=
  ⟨_, _, _, _, _, _, supR_of (d := xd_6) PySem.F.excBase_ValueError PySem.F.store_ValueError PySem.W.kxs_ValueError (F.ks 5) (F.chk 36 (c := ck_36)) rfl rfl rfl rfl (fun _ _ _ _ _ _ _ _ _ => rfl) (fun _ => ⟨_, rfl⟩) (by decide +kernel) (by decide +kernel) (by decide +kernel) (by decide +kernel) (by decide +kernel)⟩
theorem x_7 (F : Fw w K mg base) : Exr (Gam K) Pr K 7 :=
  ⟨_, _, _, _, _, _, supR_of (d := xd_7) PySem.F.excBase_ValueError PySem.F.store_ValueError PySem.W.kxs_ValueError (F.ks 6) (F.chk 37 (c := ck_37)) rfl rfl rfl rfl (fun _ _ _ _ _ _ _ _ _ => rfl) (fun _ => ⟨_, rfl⟩) (by decide +kernel) (by decide +kernel) (by decide +kernel) (by decide +kernel) (by decide +kernel)⟩
theorem x_8 (F : Fw w K mg base) : Exr (Gam K) Pr K 8 :=
  ⟨_, _, _, _, _, _, supR_of (d := xd_8) PySem.F.excBase_OverflowError PySem.F.store_OverflowError PySem.W.kxs_OverflowError (F.ks 7) (F.chk 38 (c := ck_38)) rfl rfl rfl rfl (fun _ _ _ _ _ _ _ _ _ => rfl) (fun _ => ⟨_, rfl⟩) (by decide +kernel) (by decide +kernel) (by decide +kernel) (by decide +kernel) (by decide +kernel)⟩
theorem x_9 (F : Fw w K mg base) : Exr (Gam K) Pr K 9 :=
  ⟨_, _, _, _, _, _, supR_of (d := xd_9) PySem.F.excBase_LookupError PySem.F.store_LookupError PySem.W.kxs_LookupError (F.ks 8) (F.chk 39 (c := ck_39)) rfl rfl rfl rfl (fun _ _ _ _ _ _ _ _ _ => rfl) (fun _ => ⟨_, rfl⟩) (by decide +kernel) (by decide +kernel) (by decide +kernel) (by decide +kernel) (by decide +kernel)⟩
theorem sc_0 : FnScope ["value"] ["value"] (defScope (top 12)) := ⟨rfl, rfl, rfl, by decide +kernel, rfl, by decide +kernel, by decide +kernel⟩
theorem f_0 (F : Fw w K mg base) : ∃ fd, FunD K "is_list" "is_list" (defArgs (top 12)) (defBody (top 12)) (defScope (top 12)) [] [] (fAd K ("is_list", none)) fd ∧ ∀ k, FnG Pr w K mg base (L2.CX Pr w) (6 * k) (fAd K ("is_list", none)) fd ["value"] (spD (Gam K) (callN Pg fuel k 0) 1) := by
  obtain ⟨fd, FD⟩ := F.def_ 0
  refine ⟨fd, FD, fn_all (Γ := Gam K) rfl FD sc_0 rfl fun k cdv A outer s H E hcd q => ?_⟩
  exact sd_sone (sd_ret (k_isi2 q (k_v 0) (F.free 0 (x := "isinstance")) (F.free 1 (x := "list")) (F.free 2 (x := "tuple")) boot_list boot_tuple))
theorem c_0 (F : Fw w K mg base) (k : Nat) : Cal (Gam K) Pr w K mg base ⟨callN Pg fuel k, fuel⟩ (6 * k) 0 "is_list" [] := by
  obtain ⟨fd, FD, G⟩ := f_0 F
  exact cal_of (G k) (F.glo 24 (x := "is_list")) FD (FD.bindsN fun _ _ _ _ _ _ us hl => match us, hl with | [_], _ => rfl) (tot rfl)
theorem sc_1 : FnScope ["case", "value"] ["case", "value"] (defScope (top 31)) := ⟨rfl, rfl, rfl, by decide +kernel, rfl, by decide +kernel, by decide +kernel⟩
theorem f_1 (F : Fw w K mg base) : ∃ fd, FunD K "is_rule" "is_rule" (defArgs (top 31)) (defBody (top 31)) (defScope (top 31)) [] [] (fAd K ("is_rule", none)) fd ∧ ∀ k, FnG Pr w K mg base (L2.CX Pr w) (6 * k) (fAd K ("is_rule", none)) fd ["case", "value"] (spD (Gam K) (callN Pg fuel k 1) 2) := by
  obtain ⟨fd, FD⟩ := F.def_ 1
  refine ⟨fd, FD, fn_all (Γ := Gam K) rfl FD sc_1 rfl fun k cdv A outer s H E hcd q => ?_⟩
  exact sd_sone (sd_ret (k_and (k_cons (k_isi q (k_v 1) (F.free 0 (x := "isinstance")) (F.free 3 (x := "str")) boot_str) (k_cons (k_cmp q.in_ (k_v 1) (k_kd q (let ⟨es, n, hd⟩ := F.tab 0 (t := tab_0); ⟨_, es, n, (F.glo 4 (x := "RULES")), hd, kdB_ok (Γ := Gam K) (F.chk 0 (c := ck_0))⟩) (k_v 0))) .nil))))
theorem c_1 (F : Fw w K mg base) (k : Nat) : Cal (Gam K) Pr w K mg base ⟨callN Pg fuel k, fuel⟩ (6 * k) 1 "is_rule" [] := by
  obtain ⟨fd, FD, G⟩ := f_1 F
  exact cal_of (G k) (F.glo 25 (x := "is_rule")) FD (FD.bindsN fun _ _ _ _ _ _ us hl => match us, hl with | [_, _], _ => rfl) (tot rfl)
theorem sc_2 : FnScope ["value"] ["value"] (defScope (top 32)) := ⟨rfl, rfl, rfl, by decide +kernel, rfl, by decide +kernel, by decide +kernel⟩
theorem f_2 (F : Fw w K mg base) : ∃ fd, FunD K "is_case" "is_case" (defArgs (top 32)) (defBody (top 32)) (defScope (top 32)) [] [] (fAd K ("is_case", none)) fd ∧ ∀ k, FnG Pr w K mg base (L2.CX Pr w) (6 * k) (fAd K ("is_case", none)) fd ["value"] (spD (Gam K) (callN Pg fuel k 2) 1) := by
  obtain ⟨fd, FD⟩ := F.def_ 2
  refine ⟨fd, FD, fn_all (Γ := Gam K) rfl FD sc_2 rfl fun k cdv A outer s H E hcd q => ?_⟩
  exact sd_sone (sd_ret (k_and (k_cons (k_isi q (k_v 0) (F.free 0 (x := "isinstance")) (F.free 3 (x := "str")) boot_str) (k_cons (k_cmp q.in_ (k_v 0) (k_gt (⟨_, (F.glo 5 (x := "CASES")), st_rep (Γ := Gam K) (F.chk 1 (c := ck_1))⟩))) .nil))))
theorem c_2 (F : Fw w K mg base) (k : Nat) : Cal (Gam K) Pr w K mg base ⟨callN Pg fuel k, fuel⟩ (6 * k) 2 "is_case" [] := by
  obtain ⟨fd, FD, G⟩ := f_2 F
  exact cal_of (G k) (F.glo 26 (x := "is_case")) FD (FD.bindsN fun _ _ _ _ _ _ us hl => match us, hl with | [_], _ => rfl) (tot rfl)
theorem sc_3 : FnScope ["self", "rules", "case", "rule"] ["self", "rules"] (defScope (inC 33 1)) := ⟨rfl, rfl, rfl, by decide +kernel, rfl, by decide +kernel, by decide +kernel⟩
theorem f_3 (F : Fw w K mg base) : ∃ fd, FunD K "__init__" "Table.__init__" (defArgs (inC 33 1)) (defBody (inC 33 1)) (defScope (inC 33 1)) [] [] (fAd K ("Table", some "__init__")) fd ∧ ∀ k, FnG Pr w K mg base (L2.CX Pr w) (6 * k) (fAd K ("Table", some "__init__")) fd ["self", "rules"] (spD (Gam K) (callN Pg fuel k 3) 2) := by
  obtain ⟨fd, FD⟩ := F.def_ 3
  refine ⟨fd, FD, fn_all (Γ := Gam K) rfl FD sc_3 rfl fun k cdv A outer s H E hcd q => ?_⟩
  exact sd_scons (sd_ifS (k_orT (.cons (sd_notT (k_vT (k_usr q (c_0 F k) (k_cons (k_v 1) .nil)))) (.cons (k_cmpT q.ne (k_call q.len (F.free 6 (x := "len")) (k_cons (k_v 1) .nil)) (k_call q.len (F.free 6 (x := "len")) (k_cons (k_gt (⟨_, (F.glo 5 (x := "CASES")), st_rep (Γ := Gam K) (F.chk 1 (c := ck_1))⟩)) .nil))) .nil))) (sd_sone (k_raise q (c := 2) (x_2 F) (F.glo 7 (x := "BadTable")) (sd_non))) (sd_snil)) (sd_scons (k_for q (passes_of rfl) (k_zip2 q (F.free 8 (x := "zip")) (k_cons (k_gt (⟨_, (F.glo 5 (x := "CASES")), st_rep (Γ := Gam K) (F.chk 1 (c := ck_1))⟩)) (k_cons (k_v 1) .nil))) (k_gtp q (k_gc (k_gn q 2) (k_gc (k_gn q 3) sgs_nil))) (sd_sone (sd_ifS (sd_notT (k_vT (k_usr q (c_1 F k) (k_cons (k_v 2) (k_cons (k_v 3) .nil))))) (sd_sone (k_raise q (c := 2) (x_2 F) (F.glo 7 (x := "BadTable")) (k_v 2))) (sd_snil)))) (sd_sone (k_sfld q (sxOkB_ok (Γ := Gam K) (F.chk 2 (c := ck_2))) (k_v 0) (k_call q.tuple (F.free 2 (x := "tuple")) (k_cons (k_v 1) .nil)))))
theorem mk_3 (F : Fw w K mg base) (k : Nat) : Mkc (Gam K) Pr w K mg base ⟨callN Pg fuel k, fuel⟩ (6 * k) 10 3 [] := by
  obtain ⟨fd, FD, G⟩ := f_3 F
  exact mkc_of (G k) (F.chk 21 (c := ck_21)) (FD.bindsN fun _ _ _ _ _ _ us hl => match us, hl with | [_, _], _ => rfl) (tot rfl)
theorem sc_4 : FnScope ["cls"] ["cls"] (defScope (inC 33 2)) := ⟨rfl, rfl, rfl, by decide +kernel, rfl, by decide +kernel, by decide +kernel⟩
theorem f_4 (F : Fw w K mg base) : ∃ fd, FunD K "plain" "Table.plain" (defArgs (inC 33 2)) (defBody (inC 33 2)) (defScope (inC 33 2)) [] [] (gd_4.ad K) fd ∧ ∀ k, FnG Pr w K mg base (L2.CX Pr w) (6 * k) (gd_4.ad K) fd ["cls"] (spD (Gam K) (callN Pg fuel k 4) 1) := by
  obtain ⟨fd, FD⟩ := F.gd 0 (F.chk 22 (c := ck_22))
  refine ⟨fd, FD, fn_all (Γ := Gam K) rfl FD sc_4 rfl fun k cdv A outer s H E hcd q => ?_⟩
  exact sd_sone (sd_ret (k_mkV q (n := 10) (c := 10) (mk_3 F k) rfl (k_cons (k_tup (k_cons (k_gs (F.str 9)) (k_cons (k_gs (F.str 9)) (k_cons (k_gs (F.str 9)) (k_cons (k_gs (F.str 10)) (k_cons (k_gs (F.str 10)) (k_cons (k_gs (F.str 10)) .nil))))))) .nil)))
theorem cm_4 (F : Fw w K mg base) (k : Nat) : Cmt (Gam K) Pr w K mg base ⟨callN Pg fuel k, fuel⟩ (6 * k) 10 10 4 "plain" := by
  obtain ⟨fd, FD, G⟩ := f_4 F
  exact cmt_of rfl (G k) (F.chk 23 (c := ck_23)) (FD.bindsN fun _ _ _ _ _ _ us hl => match us, hl with | [_], _ => rfl) (tot rfl)
theorem sc_5 : FnScope ["self", "other"] ["self", "other"] (defScope (inC 33 3)) := ⟨rfl, rfl, rfl, by decide +kernel, rfl, by decide +kernel, by decide +kernel⟩
theorem f_5 (F : Fw w K mg base) : ∃ fd, FunD K "__eq__" "Table.__eq__" (defArgs (inC 33 3)) (defBody (inC 33 3)) (defScope (inC 33 3)) [] [] (fAd K ("Table", some "__eq__")) fd ∧ ∀ k, FnG Pr w K mg base (L2.CX Pr w) (6 * k) (fAd K ("Table", some "__eq__")) fd ["self", "other"] (spD (Gam K) (callN Pg fuel k 5) 2) := by
  obtain ⟨fd, FD⟩ := F.def_ 4
  refine ⟨fd, FD, fn_all (Γ := Gam K) rfl FD sc_5 rfl fun k cdv A outer s H E hcd q => ?_⟩
  exact sd_sone (sd_ret (k_and (k_cons (k_isiO q (c := 10) (ownIsB_ok (Γ := Gam K) (F.chk 3 (c := ck_3))) (k_v 1) (F.free 0 (x := "isinstance")) (F.glo 11 (x := "Table"))) (k_cons (k_cmp q.eq (k_fld q (sxOkB_ok (Γ := Gam K) (F.chk 2 (c := ck_2))) (k_v 0)) (k_fld q (sxOkB_ok (Γ := Gam K) (F.chk 2 (c := ck_2))) (k_v 1))) .nil))))
theorem o_5 (F : Fw w K mg base) (k : Nat) : Opm (Gam K) Pr w K mg base ⟨callN Pg fuel k, fuel⟩ (6 * k) 10 5 "__eq__" := by
  obtain ⟨fd, FD, G⟩ := f_5 F
  exact opm_of (G k) (F.chk 24 (c := ck_24)) (FD.bindsN fun _ _ _ _ _ _ us hl => match us, hl with | [_, _], _ => rfl)
theorem sc_6 : FnScope ["self", "case"] ["self", "case"] (defScope (inC 33 4)) := ⟨rfl, rfl, rfl, by decide +kernel, rfl, by decide +kernel, by decide +kernel⟩
theorem f_6 (F : Fw w K mg base) : ∃ fd, FunD K "__getitem__" "Table.__getitem__" (defArgs (inC 33 4)) (defBody (inC 33 4)) (defScope (inC 33 4)) [] [] (fAd K ("Table", some "__getitem__")) fd ∧ ∀ k, FnG Pr w K mg base (L2.CX Pr w) (6 * k) (fAd K ("Table", some "__getitem__")) fd ["self", "case"] (spD (Gam K) (callN Pg fuel k 6) 2) := by
  obtain ⟨fd, FD⟩ := F.def_ 5
  refine ⟨fd, FD, fn_all (Γ := Gam K) rfl FD sc_6 rfl fun k cdv A outer s H E hcd q => ?_⟩
  exact sd_scons (sd_ifS (sd_notT (k_vT (k_usr q (c_2 F k) (k_cons (k_v 1) .nil)))) (sd_sone (k_raise q (c := 2) (x_2 F) (F.glo 7 (x := "BadTable")) (k_v 1))) (sd_snil)) (sd_sone (sd_ret (k_idx q (k_fld q (sxOkB_ok (Γ := Gam K) (F.chk 2 (c := ck_2))) (k_v 0)) (k_tix q (let ⟨ob, h1, h2, h3⟩ := (stB_ok (F.chk 1 (c := ck_1))).2; ⟨_, ob, (F.glo 5 (x := "CASES")), h1, h2, h3, (stB_ok (F.chk 1 (c := ck_1))).1⟩) (k_v 1)))))
theorem o_6 (F : Fw w K mg base) (k : Nat) : Opm (Gam K) Pr w K mg base ⟨callN Pg fuel k, fuel⟩ (6 * k) 10 6 "__getitem__" := by
  obtain ⟨fd, FD, G⟩ := f_6 F
  exact opm_of (G k) (F.chk 25 (c := ck_25)) (FD.bindsN fun _ _ _ _ _ _ us hl => match us, hl with | [_, _], _ => rfl)
theorem sc_8 : FnScope ["self", "other", "case", "one", "two"] ["self", "other"] (defScope (inC 33 6)) := ⟨rfl, rfl, rfl, by decide +kernel, rfl, by decide +kernel, by decide +kernel⟩
theorem f_8 (F : Fw w K mg base) : ∃ fd, FunD K "__sub__" "Table.__sub__" (defArgs (inC 33 6)) (defBody (inC 33 6)) (defScope (inC 33 6)) [] [] (fAd K ("Table", some "__sub__")) fd ∧ ∀ k, FnG Pr w K mg base (L2.CX Pr w) (6 * k) (fAd K ("Table", some "__sub__")) fd ["self", "other"] (spD (Gam K) (callN Pg fuel k 8) 2) := by
  obtain ⟨fd, FD⟩ := F.def_ 6
  refine ⟨fd, FD, fn_all (Γ := Gam K) rfl FD sc_8 rfl fun k cdv A outer s H E hcd q => ?_⟩
  exact sd_scons (sd_ifS (sd_notT (k_vT (k_isiO q (c := 10) (ownIsB_ok (Γ := Gam K) (F.chk 3 (c := ck_3))) (k_v 1) (F.free 0 (x := "isinstance")) (F.glo 11 (x := "Table"))))) (sd_sone (sd_badS)) (sd_snil)) (sd_sone (sd_ret (k_call q.len (F.free 6 (x := "len")) (k_cons (k_lc q [("case", 2), ("one", 3), ("two", 4)] (k_zip3 q (F.free 8 (x := "zip")) (k_cons (k_gt (⟨_, (F.glo 5 (x := "CASES")), st_rep (Γ := Gam K) (F.chk 1 (c := ck_1))⟩)) (k_cons (k_fld q (sxOkB_ok (Γ := Gam K) (F.chk 2 (c := ck_2))) (k_v 0)) (k_cons (k_fld q (sxOkB_ok (Γ := Gam K) (F.chk 2 (c := ck_2))) (k_v 1)) .nil)))) (fun s1 H1 C1 cl1 fp1 => k_gtp (q.blk s1 H1 _ _ fp1) (k_gc (k_gn (q.blk s1 H1 _ _ fp1) 2) (k_gc (k_gn (q.blk s1 H1 _ _ fp1) 3) (k_gc (k_gn (q.blk s1 H1 _ _ fp1) 4) sgs_nil)))) (fun s1 H1 C1 cl1 fp1 => pts_one (k_cmpT (q.blk s1 H1 _ _ fp1).ne (k_v 3) (k_v 4))) (fun s1 H1 C1 cl1 fp1 => k_v 2)) .nil))))
theorem o_8 (F : Fw w K mg base) (k : Nat) : Opm (Gam K) Pr w K mg base ⟨callN Pg fuel k, fuel⟩ (6 * k) 10 8 "__sub__" := by
  obtain ⟨fd, FD, G⟩ := f_8 F
  exact opm_of (G k) (F.chk 26 (c := ck_26)) (FD.bindsN fun _ _ _ _ _ _ us hl => match us, hl with | [_, _], _ => rfl)
theorem sc_9 : FnScope ["self", "case"] ["self", "case"] (defScope (inC 33 7)) := ⟨rfl, rfl, rfl, by decide +kernel, rfl, by decide +kernel, by decide +kernel⟩
theorem f_9 (F : Fw w K mg base) : ∃ fd, FunD K "rule_of" "Table.rule_of" (defArgs (inC 33 7)) (defBody (inC 33 7)) (defScope (inC 33 7)) [] [] (fAd K ("Table", some "rule_of")) fd ∧ ∀ k, FnG Pr w K mg base (L2.CX Pr w) (6 * k) (fAd K ("Table", some "rule_of")) fd ["self", "case"] (spD (Gam K) (callN Pg fuel k 9) 2) := by
  obtain ⟨fd, FD⟩ := F.def_ 7
  refine ⟨fd, FD, fn_all (Γ := Gam K) rfl FD sc_9 rfl fun k cdv A outer s H E hcd q => ?_⟩
  exact sd_sone (sd_ret (k_idx q (k_fld q (sxOkB_ok (Γ := Gam K) (F.chk 2 (c := ck_2))) (k_v 0)) (k_tix q (let ⟨ob, h1, h2, h3⟩ := (stB_ok (F.chk 1 (c := ck_1))).2; ⟨_, ob, (F.glo 5 (x := "CASES")), h1, h2, h3, (stB_ok (F.chk 1 (c := ck_1))).1⟩) (k_v 1))))
theorem m_9 (F : Fw w K mg base) (k : Nat) : Mth (Gam K) Pr w K mg base ⟨callN Pg fuel k, fuel⟩ (6 * k) 10 9 "rule_of" [] := by
  obtain ⟨fd, FD, G⟩ := f_9 F
  exact mth_of (G k) (F.chk 27 (c := ck_27)) (F.chk 28 (c := ck_28)) (FD.bindsN fun _ _ _ _ _ _ us hl => match us, hl with | [_, _], _ => rfl) (tot rfl)
theorem sc_10 : FnScope ["self", "case", "rule", "own"] ["self", "case", "rule"] (defScope (inC 33 8)) := ⟨rfl, rfl, rfl, by decide +kernel, rfl, by decide +kernel, by decide +kernel⟩
theorem f_10 (F : Fw w K mg base) : ∃ fd, FunD K "with_rule" "Table.with_rule" (defArgs (inC 33 8)) (defBody (inC 33 8)) (defScope (inC 33 8)) [] [] (fAd K ("Table", some "with_rule")) fd ∧ ∀ k, FnG Pr w K mg base (L2.CX Pr w) (6 * k) (fAd K ("Table", some "with_rule")) fd ["self", "case", "rule"] (spD (Gam K) (callN Pg fuel k 10) 3) := by
  obtain ⟨fd, FD⟩ := F.def_ 8
  refine ⟨fd, FD, fn_all (Γ := Gam K) rfl FD sc_10 rfl fun k cdv A outer s H E hcd q => ?_⟩
  exact sd_scons (sd_ifS (k_orT (.cons (sd_notT (k_vT (k_usr q (c_2 F k) (k_cons (k_v 1) .nil)))) (.cons (sd_notT (k_vT (k_usr q (c_1 F k) (k_cons (k_v 1) (k_cons (k_v 2) .nil))))) .nil))) (sd_sone (k_raise q (c := 2) (x_2 F) (F.glo 7 (x := "BadTable")) (k_v 1))) (sd_snil)) (sd_sone (sd_ret (k_mk q (c := 10) (mk_3 F k) (F.glo 11 (x := "Table")) (k_cons (k_lc q [("own", 3)] (k_iter q (k_gt (⟨_, (F.glo 5 (x := "CASES")), st_rep (Γ := Gam K) (F.chk 1 (c := ck_1))⟩))) (fun s1 H1 C1 cl1 fp1 => k_gn (q.blk s1 H1 _ _ fp1) 3) (fun s1 H1 C1 cl1 fp1 => pts_nilR) (fun s1 H1 C1 cl1 fp1 => sd_if (k_cmpT (q.blk s1 H1 _ _ fp1).eq (k_v 3) (k_v 1)) (k_v 2) (k_meth (q.blk s1 H1 _ _ fp1) (m_9 F k) (k_v 0) (k_cons (k_v 3) .nil)))) .nil))))
theorem m_10 (F : Fw w K mg base) (k : Nat) : Mth (Gam K) Pr w K mg base ⟨callN Pg fuel k, fuel⟩ (6 * k) 10 10 "with_rule" [] := by
  obtain ⟨fd, FD, G⟩ := f_10 F
  exact mth_of (G k) (F.chk 27 (c := ck_27)) (F.chk 29 (c := ck_29)) (FD.bindsN fun _ _ _ _ _ _ us hl => match us, hl with | [_, _, _], _ => rfl) (tot rfl)
theorem sc_11 : FnScope ["_law_script", "_law_k", "_law_cells", "_law_great", "_law_cell", "_law_seed"] ["_law_script", "_law_k"] (defScope (top 35)) := ⟨rfl, rfl, rfl, by decide +kernel, rfl, by decide +kernel, by decide +kernel⟩
theorem f_11 (F : Fw w K mg base) : ∃ fd, FunD K "_law_begun" "_law_begun" (defArgs (top 35)) (defBody (top 35)) (defScope (top 35)) [] [] (fAd K ("_law_begun", none)) fd ∧ ∀ k, FnG Pr w K mg base (L2.CX Pr w) (6 * k) (fAd K ("_law_begun", none)) fd ["_law_script", "_law_k"] (spD (Gam K) (callN Pg fuel k 11) 2) := by
  obtain ⟨fd, FD⟩ := F.def_ 9
  refine ⟨fd, FD, fn_all (Γ := Gam K) rfl FD sc_11 rfl fun k cdv A outer s H E hcd q => ?_⟩
  exact sd_scons (k_set q false 2 (k_op q.add (k_sli q (k_v 0) (.some (k_v 1)) .none) (k_sli q (k_v 0) .none (.some (k_v 1))))) (sd_scons (k_setLc q (mt := false) 3 [("_law_cell", 4)] (k_iter q (k_v 2)) (fun s1 H1 C1 cl1 fp1 => k_gn (q.blk s1 H1 _ _ fp1) 4) (fun s1 H1 C1 cl1 fp1 => pts_one (k_cmpT (q.blk s1 H1 _ _ fp1).ge (k_v 4) (k_op (q.blk s1 H1 _ _ fp1).pow (sd_int) (sd_int)))) (fun s1 H1 C1 cl1 fp1 => k_v 4)) (sd_scons (k_set q false 5 (k_op q.add (sd_int) (k_v 1))) (sd_scons (k_for q (passes_of rfl) (k_iter q (k_v 2)) (k_gn q 4) (sd_sone (k_set q false 5 (k_op q.mod (k_call q.int (F.free 12 (x := "int")) (k_cons (k_op q.add (k_op q.mul (k_v 5) (sd_int)) (k_v 4)) .nil)) (sd_int))))) (sd_sone (sd_ret (k_disp (.cons (sd_str) (sd_if (k_cmpT (q.wf).ne (k_v 3) (k_lst .nil)) (k_idx (q.wf) (k_v 3) (sd_int)) (sd_int)) (.cons (sd_str) (k_v 5) (.cons (sd_str) (k_op (q.wf).add (k_v 2) (k_lst (k_cons (k_op (q.wf).add (k_op (q.wf).mul (sd_int) (k_v 1)) (sd_int)) .nil))) (.cons (sd_str) (sd_int) .nil))))))))))
theorem c_11 (F : Fw w K mg base) (k : Nat) : Cal (Gam K) Pr w K mg base ⟨callN Pg fuel k, fuel⟩ (6 * k) 11 "_law_begun" [] := by
  obtain ⟨fd, FD, G⟩ := f_11 F
  exact cal_of (G k) (F.glo 27 (x := "_law_begun")) FD (FD.bindsN fun _ _ _ _ _ _ us hl => match us, hl with | [_, _], _ => rfl) (tot rfl)
theorem sc_12 : FnScope ["_law_m", "_law_many", "_law_found", "_law_spot", "_law_cells", "_law_added", "_law_cell", "_law_blend"] ["_law_m", "_law_many"] (defScope (top 36)) := ⟨rfl, rfl, rfl, by decide +kernel, rfl, by decide +kernel, by decide +kernel⟩
theorem f_12 (F : Fw w K mg base) : ∃ fd, FunD K "_law_draw" "_law_draw" (defArgs (top 36)) (defBody (top 36)) (defScope (top 36)) [] [] (fAd K ("_law_draw", none)) fd ∧ ∀ k, FnG Pr w K mg base (L2.CX Pr w) (6 * k) (fAd K ("_law_draw", none)) fd ["_law_m", "_law_many"] (spD (Gam K) (callN Pg fuel k 12) 2) := by
  obtain ⟨fd, FD⟩ := F.def_ 10
  refine ⟨fd, FD, fn_all (Γ := Gam K) rfl FD sc_12 rfl fun k cdv A outer s H E hcd q => ?_⟩
  exact sd_scons (sd_ifS (k_cmpT q.gt (k_idx q (k_v 0) (sd_str)) (sd_int)) (sd_scons (k_set q false 2 (k_op q.mod (k_call q.int (F.free 12 (x := "int")) (k_cons (k_idx q (k_v 0) (sd_str)) .nil)) (k_v 1))) (sd_scons (k_sub q (k_v 0) (sd_str) (k_op q.fdiv (k_idx q (k_v 0) (sd_str)) (k_v 1))) (sd_sone (sd_ret (k_v 2))))) (sd_snil)) (sd_scons (k_set q false 3 (k_idx q (k_v 0) (sd_str))) (sd_scons (k_sub q (k_v 0) (sd_str) (k_op q.add (k_v 3) (sd_int))) (sd_scons (k_par q 4 5 (k_consM (k_idx q (k_v 0) (sd_str)) (k_consM (k_op q.add (k_idx q (k_v 0) (sd_str)) (k_op q.mul (k_op q.mul (sd_int) (k_v 3)) (k_v 3))) .nil))) (sd_scons (k_set q false 6 (k_idx q (k_v 4) (k_op q.mod (k_call q.int (F.free 12 (x := "int")) (k_cons (k_v 3) .nil)) (k_call q.len (F.free 6 (x := "len")) (k_cons (k_v 4) .nil))))) (sd_scons (k_set q false 7 (k_op q.mod (k_call q.int (F.free 12 (x := "int")) (k_cons (k_op q.add (k_op q.mul (k_v 6) (k_op q.add (k_op q.mul (sd_int) (k_v 3)) (sd_int))) (k_v 5)) .nil)) (sd_int))) (sd_scons (k_set q false 7 (k_op q.mod (k_call q.int (F.free 12 (x := "int")) (k_cons (k_op q.add (k_op q.add (k_op q.mul (k_v 7) (k_v 7)) (k_op q.mul (sd_int) (k_v 3))) (k_idx q (k_v 0) (sd_str))) .nil)) (sd_int))) (sd_sone (sd_ret (k_op q.mod (k_op q.fdiv (k_op q.mod (k_call q.int (F.free 12 (x := "int")) (k_cons (k_op q.add (k_op q.mul (k_v 7) (sd_int)) (k_v 3)) .nil)) (sd_int)) (sd_int)) (k_v 1))))))))))
theorem c_12 (F : Fw w K mg base) (k : Nat) : Cal (Gam K) Pr w K mg base ⟨callN Pg fuel k, fuel⟩ (6 * k) 12 "_law_draw" [] := by
  obtain ⟨fd, FD, G⟩ := f_12 F
  exact cal_of (G k) (F.glo 28 (x := "_law_draw")) FD (FD.bindsN fun _ _ _ _ _ _ us hl => match us, hl with | [_, _], _ => rfl) (tot rfl)
theorem sc_13 : FnScope ["_law_m", "_law_some"] ["_law_m", "_law_some"] (defScope (top 37)) := ⟨rfl, rfl, rfl, by decide +kernel, rfl, by decide +kernel, by decide +kernel⟩
theorem f_13 (F : Fw w K mg base) : ∃ fd, FunD K "_law_of" "_law_of" (defArgs (top 37)) (defBody (top 37)) (defScope (top 37)) [] [] (fAd K ("_law_of", none)) fd ∧ ∀ k, FnG Pr w K mg base (L2.CX Pr w) (6 * k) (fAd K ("_law_of", none)) fd ["_law_m", "_law_some"] (spD (Gam K) (callN Pg fuel k 13) 2) := by
  obtain ⟨fd, FD⟩ := F.def_ 11
  refine ⟨fd, FD, fn_all (Γ := Gam K) rfl FD sc_13 rfl fun k cdv A outer s H E hcd q => ?_⟩
  exact sd_sone (sd_ret (k_idx q (k_v 1) (k_usr q (c_12 F k) (k_cons (k_v 0) (k_cons (k_call q.len (F.free 6 (x := "len")) (k_cons (k_v 1) .nil)) .nil)))))
theorem c_13 (F : Fw w K mg base) (k : Nat) : Cal (Gam K) Pr w K mg base ⟨callN Pg fuel k, fuel⟩ (6 * k) 13 "_law_of" [] := by
  obtain ⟨fd, FD, G⟩ := f_13 F
  exact cal_of (G k) (F.glo 29 (x := "_law_of")) FD (FD.bindsN fun _ _ _ _ _ _ us hl => match us, hl with | [_, _], _ => rfl) (tot rfl)
theorem sc_14 : FnScope ["_law_k"] ["_law_k"] (defScope (top 38)) := ⟨rfl, rfl, rfl, by decide +kernel, rfl, by decide +kernel, by decide +kernel⟩
theorem f_14 (F : Fw w K mg base) : ∃ fd, FunD K "_law_words" "_law_words" (defArgs (top 38)) (defBody (top 38)) (defScope (top 38)) [] [] (fAd K ("_law_words", none)) fd ∧ ∀ k, FnG Pr w K mg base (L2.CX Pr w) (6 * k) (fAd K ("_law_words", none)) fd ["_law_k"] (spD (Gam K) (callN Pg fuel k 14) 1) := by
  obtain ⟨fd, FD⟩ := F.def_ 12
  refine ⟨fd, FD, fn_all (Γ := Gam K) rfl FD sc_14 rfl fun k cdv A outer s H E hcd q => ?_⟩
  exact sd_scons (sd_ifS (k_cmpT q.lt (k_v 0) (sd_int)) (sd_sone (sd_ret (k_lst (k_cons (sd_str) (k_cons (sd_str) (k_cons (sd_str) .nil)))))) (sd_snil)) (sd_sone (sd_ret (sd_if (k_cmpT q.lt (k_v 0) (sd_int)) (k_lst (k_cons (sd_str) (k_cons (sd_str) (k_cons (sd_str) .nil)))) (k_lst (k_cons (sd_str) (k_cons (sd_str) (k_cons (sd_str) .nil)))))))
theorem c_14 (F : Fw w K mg base) (k : Nat) : Cal (Gam K) Pr w K mg base ⟨callN Pg fuel k, fuel⟩ (6 * k) 14 "_law_words" [] := by
  obtain ⟨fd, FD, G⟩ := f_14 F
  exact cal_of (G k) (F.glo 30 (x := "_law_words")) FD (FD.bindsN fun _ _ _ _ _ _ us hl => match us, hl with | [_], _ => rfl) (tot rfl)
theorem sc_15 : FnScope ["_law_m", "_law_way", "_law_found", "_law_k"] ["_law_m"] (defScope (top 39)) := ⟨rfl, rfl, rfl, by decide +kernel, rfl, by decide +kernel, by decide +kernel⟩
theorem f_15 (F : Fw w K mg base) : ∃ fd, FunD K "_law_rules" "_law_rules" (defArgs (top 39)) (defBody (top 39)) (defScope (top 39)) [] [] (fAd K ("_law_rules", none)) fd ∧ ∀ k, FnG Pr w K mg base (L2.CX Pr w) (6 * k) (fAd K ("_law_rules", none)) fd ["_law_m"] (spD (Gam K) (callN Pg fuel k 15) 1) := by
  obtain ⟨fd, FD⟩ := F.def_ 13
  refine ⟨fd, FD, fn_all (Γ := Gam K) rfl FD sc_15 rfl fun k cdv A outer s H E hcd q => ?_⟩
  exact sd_scons (k_par q 1 2 (k_consM (k_usr q (c_12 F k) (k_cons (k_v 0) (k_cons (sd_int) .nil))) (k_consM (k_lst (k_cons (sd_str) (k_cons (sd_str) (k_cons (sd_str) (k_cons (sd_str) (k_cons (sd_str) (k_cons (sd_str) .nil))))))) .nil))) (sd_scons (k_for q (passes_of rfl) (k_range1 (F.free 13 (x := "range")) (sd_int)) (k_gn q 3) (sd_scons (sd_ifS (k_orT (.cons (k_cmpT q.eq (k_v 1) (sd_int)) (.cons (k_cmpT q.eq (k_usr q (c_12 F k) (k_cons (k_v 0) (k_cons (sd_int) .nil))) (sd_int)) .nil))) (sd_sone (k_sub q (k_v 2) (k_v 3) (k_usr q (c_13 F k) (k_cons (k_v 0) (k_cons (k_usr q (c_14 F k) (k_cons (k_v 3) .nil)) .nil))))) (sd_snil)) (sd_sone (sd_ifS (k_andT (.cons (k_cmpT q.eq (k_v 1) (sd_int)) (.cons (k_cmpT q.eq (k_idx q (k_v 2) (k_v 3)) (sd_str)) .nil))) (sd_sone (k_sub q (k_v 2) (k_v 3) (k_idx q (k_usr q (c_14 F k) (k_cons (k_v 3) .nil)) (k_usr q (c_12 F k) (k_cons (k_v 0) (k_cons (sd_int) .nil)))))) (sd_snil))))) (sd_sone (sd_ret (k_call q.tuple (F.free 2 (x := "tuple")) (k_cons (k_v 2) .nil)))))
theorem c_15 (F : Fw w K mg base) (k : Nat) : Cal (Gam K) Pr w K mg base ⟨callN Pg fuel k, fuel⟩ (6 * k) 15 "_law_rules" [] := by
  obtain ⟨fd, FD, G⟩ := f_15 F
  exact cal_of (G k) (F.glo 31 (x := "_law_rules")) FD (FD.bindsN fun _ _ _ _ _ _ us hl => match us, hl with | [_], _ => rfl) (tot rfl)
theorem sc_16 : FnScope ["_law_error", "_law_kinds", "_law_words_here", "_law_word_here", "_law_holds"] ["_law_error"] (defScope (top 40)) := ⟨rfl, rfl, rfl, by decide +kernel, rfl, by decide +kernel, by decide +kernel⟩
theorem f_16 (F : Fw w K mg base) : ∃ fd, FunD K "_law_word" "_law_word" (defArgs (top 40)) (defBody (top 40)) (defScope (top 40)) [] [] (fAd K ("_law_word", none)) fd ∧ ∀ k, FnG Pr w K mg base (L2.CX Pr w) (6 * k) (fAd K ("_law_word", none)) fd ["_law_error"] (spD (Gam K) (callN Pg fuel k 16) 1) := by
  obtain ⟨fd, FD⟩ := F.def_ 14
  refine ⟨fd, FD, fn_all (Γ := Gam K) rfl FD sc_16 rfl fun k cdv A outer s H E hcd q => ?_⟩
  exact sd_scons (k_set q true 1 (k_lst (k_cons (k_tup (k_cons (sd_str) (k_cons (k_isiX q (C := 1) (exOkB_ok (Γ := Gam K) (F.chk 4 (c := ck_4))) (k_v 0) (F.free 0 (x := "isinstance")) (F.glo 14 (x := "BadWeb"))) .nil))) (k_cons (k_tup (k_cons (sd_str) (k_cons (k_isiX q (C := 2) (exOkB_ok (Γ := Gam K) (F.chk 5 (c := ck_5))) (k_v 0) (F.free 0 (x := "isinstance")) (F.glo 7 (x := "BadTable"))) .nil))) .nil)))) (sd_scons (k_set q true 1 (k_op q.add (k_v 1) (k_lst (k_cons (k_tup (k_cons (sd_str) (k_cons (k_isiX q (C := 3) (exOkB_ok (Γ := Gam K) (F.chk 6 (c := ck_6))) (k_v 0) (F.free 0 (x := "isinstance")) (F.glo 15 (x := "BadStanding"))) .nil))) (k_cons (k_tup (k_cons (sd_str) (k_cons (k_isiX q (C := 4) (exOkB_ok (Γ := Gam K) (F.chk 7 (c := ck_7))) (k_v 0) (F.free 0 (x := "isinstance")) (F.glo 16 (x := "BadDeed"))) .nil))) .nil))))) (sd_scons (k_set q true 1 (k_op q.add (k_v 1) (k_lst (k_cons (k_tup (k_cons (sd_str) (k_cons (k_isiX q (C := 5) (exOkB_ok (Γ := Gam K) (F.chk 8 (c := ck_8))) (k_v 0) (F.free 0 (x := "isinstance")) (F.glo 17 (x := "BadPromise"))) .nil))) (k_cons (k_tup (k_cons (sd_str) (k_cons (k_isiX q (C := 6) (exOkB_ok (Γ := Gam K) (F.chk 9 (c := ck_9))) (k_v 0) (F.free 0 (x := "isinstance")) (F.glo 18 (x := "BadName"))) .nil))) .nil))))) (sd_scons (k_set q true 1 (k_op q.add (k_v 1) (k_lst (k_cons (k_tup (k_cons (sd_str) (k_cons (k_isiX q (C := 7) (exOkB_ok (Γ := Gam K) (F.chk 10 (c := ck_10))) (k_v 0) (F.free 0 (x := "isinstance")) (F.glo 19 (x := "BadText"))) .nil))) (k_cons (k_tup (k_cons (sd_str) (k_cons (k_isiX q (C := 8) (exOkB_ok (Γ := Gam K) (F.chk 11 (c := ck_11))) (k_v 0) (F.free 0 (x := "isinstance")) (F.glo 20 (x := "TooGreat"))) .nil))) .nil))))) (sd_scons (k_expr (k_append q (k_v 1) (k_tup (k_cons (sd_str) (k_cons (k_isiX q (C := 9) (exOkB_ok (Γ := Gam K) (F.chk 12 (c := ck_12))) (k_v 0) (F.free 0 (x := "isinstance")) (F.glo 21 (x := "Missing"))) .nil))))) (sd_scons (k_setLc q (mt := false) 2 [("_law_word_here", 3), ("_law_holds", 4)] (k_iter q (k_v 1)) (fun s1 H1 C1 cl1 fp1 => k_gtp (q.blk s1 H1 _ _ fp1) (k_gc (k_gn (q.blk s1 H1 _ _ fp1) 3) (k_gc (k_gn (q.blk s1 H1 _ _ fp1) 4) sgs_nil))) (fun s1 H1 C1 cl1 fp1 => pts_one (k_vT (k_v 4))) (fun s1 H1 C1 cl1 fp1 => k_v 3)) (sd_scons (sd_ifS (k_cmpT q.ne (k_call q.len (F.free 6 (x := "len")) (k_cons (k_v 2) .nil)) (sd_int)) (sd_sone (sd_ret (k_tup (k_cons (sd_str) .nil)))) (sd_snil)) (sd_scons (sd_ifS (k_cmpT q.in_ (k_idx q (k_v 2) (sd_int)) (k_tup (k_cons (sd_str) (k_cons (sd_str) (k_cons (sd_str) (k_cons (sd_str) .nil)))))) (sd_sone (sd_ret (k_tup (k_cons (k_idx q (k_v 2) (sd_int)) (k_cons (k_err q (fxOkB_ok (Γ := Gam K) (F.chk 13 (c := ck_13))) (k_v 0)) .nil))))) (sd_snil)) (sd_scons (sd_ifS (k_cmpT q.in_ (k_idx q (k_v 2) (sd_int)) (k_tup (k_cons (sd_str) (k_cons (sd_str) .nil)))) (sd_sone (sd_ret (k_tup (k_cons (k_idx q (k_v 2) (sd_int)) (k_cons (k_err q (fxOkB_ok (Γ := Gam K) (F.chk 14 (c := ck_14))) (k_v 0)) .nil))))) (sd_snil)) (sd_scons (sd_ifS (k_cmpT q.eq (k_idx q (k_v 2) (sd_int)) (sd_str)) (sd_sone (sd_ret (k_tup (k_cons (sd_str) (k_cons (k_err q (fxOkB_ok (Γ := Gam K) (F.chk 15 (c := ck_15))) (k_v 0)) .nil))))) (sd_snil)) (sd_sone (sd_ret (sd_if (k_cmpT q.eq (k_idx q (k_v 2) (sd_int)) (sd_str)) (k_tup (k_cons (sd_str) (k_cons (k_err q (fxOkB_ok (Γ := Gam K) (F.chk 16 (c := ck_16))) (k_v 0)) .nil))) (k_tup (k_cons (sd_str) (k_cons (k_err q (fxOkB_ok (Γ := Gam K) (F.chk 17 (c := ck_17))) (k_v 0)) .nil)))))))))))))))
theorem c_16 (F : Fw w K mg base) (k : Nat) : Cal (Gam K) Pr w K mg base ⟨callN Pg fuel k, fuel⟩ (6 * k) 16 "_law_word" [] := by
  obtain ⟨fd, FD, G⟩ := f_16 F
  exact cal_of (G k) (F.glo 32 (x := "_law_word")) FD (FD.bindsN fun _ _ _ _ _ _ us hl => match us, hl with | [_], _ => rfl) (tot rfl)
theorem sc_17 : FnScope ["_law_call", "_law_found", "_law_error", "e"] ["_law_call"] (defScope (top 41)) := ⟨rfl, rfl, rfl, by decide +kernel, rfl, by decide +kernel, by decide +kernel⟩
theorem cc_16 {P : Program} (F : Fw w K mg base) (hP : P = Pr) (k : Nat) : Cal (Gam K) P w K mg base ⟨callN Pg fuel k, fuel⟩ (6 * k) 16 "_law_word" [] := by rw [hP]; exact c_16 F k
theorem tl_17 (F : Fw w K mg base) (k : Nat) (X : Cx) (hP : X.prog = Pr) (hw : X.w = w) (hK : X.K = K) (hmg : X.mg = mg) (hb : X.base = base) (hr : RoomG (6 * k + 1) X.A) : Tl (Gam K) X "_law_told" (exL [(1, true), (2, true), (3, true), (4, true), (5, true), (6, true), (7, true), (8, true), (9, true)]) (t_17 ⟨callN Pg fuel k, fuel⟩) := by
  obtain ⟨fd, FD⟩ := F.def_ 15
  obtain ⟨oc, od, dV, kV, doc, pm, an, cdv, ct, osl, rfl, lk, hcd, hD, hKw⟩ := FD.ex
  have bn : L2.Binds K _ ["_law_call"] [] := FD.bindsN fun _ _ _ _ _ _ us hl => match us, hl with | [_], _ => rfl
  subst hw hK hmg hb
  refine ⟨[.ref (ga X.K "PairError"), .ref (ga X.K "TooGreat"), .ref (ga X.K "Missing")], fAd X.K ("_law_told", none), "_law_call", _, _, _, dV, kV, doc, pm, cdv, ct, oc, an, od, osl, ["_law_call", "_law_found", "_law_error", "e"], cmOkB_ok (Γ := Gam X.K) (F.chk 30 (c := ck_30)), (F.glo 34 (x := "_law_told")), FD.kp, lk, hcd, bn, sc_17, rfl, .inl rfl, ?_, by decide, by decide⟩
  refine told_gives3 (Γ := Gam X.K) (sg := defScope (top 41)) (x := "_law_told") (a := "_law_call") (fo := "_law_found") (er := "_law_error") (en := "e") (x1 := "PairError") (x2 := "TooGreat") (x3 := "Missing") (c1 := .ref (ga X.K "PairError")) (c2 := .ref (ga X.K "TooGreat")) (c3 := .ref (ga X.K "Missing")) rfl sc_17.nd rfl rfl rfl (by decide) (by decide) (fun _ _ => ⟨rfl, by decide, .inl (F.glo 33 (x := "PairError"))⟩) (fun _ _ => ⟨rfl, by decide, .inl (F.glo 20 (x := "TooGreat"))⟩) (fun _ _ => ⟨rfl, by decide, .inl (F.glo 21 (x := "Missing"))⟩) ?_ ?_ ?_ ?_ (fun s H => ?_)
  · intro env e; cases env; cases e; rfl
  · intro env e; cases env; cases e; rfl
  · intro env e; cases env; cases e; rfl
  · intro env e; cases env; cases e; rfl
  have q : Cq (Gam X.K) (cxOf C8.CX0 X.prog X.w X.K X.mg X.base ["_law_call", "_law_found", "_law_error", "e"] "_law_told" (defScope (top 41)) (fAd X.K ("_law_told", none)) cdv X.A X.stack s H C8.E0).nox W0 (6 * k) := ⟨rfl, rfl, sc_17.nd, L2.takes0, ⟨hr.room.deeper _, hr.gd⟩⟩
  exact sd_sone (sd_ret (sd_if (k_cmpT q.isN (k_v 2) (sd_non)) (k_lst (k_cons (k_v 1) .nil)) (k_usr q (cc_16 F hP k) (k_cons (k_v 2) .nil))))
theorem sc_18 : FnScope [] [] (defScope (top 42)) := ⟨rfl, rfl, rfl, by decide +kernel, rfl, by decide +kernel, by decide +kernel⟩
theorem f_18 (F : Fw w K mg base) : ∃ fd, FunD K "_law_cases" "_law_cases" (defArgs (top 42)) (defBody (top 42)) (defScope (top 42)) [] [] (fAd K ("_law_cases", none)) fd ∧ ∀ k, FnG Pr w K mg base (L2.CX Pr w) (6 * k) (fAd K ("_law_cases", none)) fd [] (spD (Gam K) (callN Pg fuel k 18) 0) := by
  obtain ⟨fd, FD⟩ := F.def_ 16
  refine ⟨fd, FD, fn_all (Γ := Gam K) rfl FD sc_18 rfl fun k cdv A outer s H E hcd q => ?_⟩
  exact sd_sone (sd_ret (k_lst (k_cons (sd_str) (k_cons (sd_str) (k_cons (sd_str) (k_cons (sd_str) (k_cons (sd_str) (k_cons (sd_str) .nil))))))))
theorem c_18 (F : Fw w K mg base) (k : Nat) : Cal (Gam K) Pr w K mg base ⟨callN Pg fuel k, fuel⟩ (6 * k) 18 "_law_cases" [] := by
  obtain ⟨fd, FD, G⟩ := f_18 F
  exact cal_of (G k) (F.glo 35 (x := "_law_cases")) FD (FD.bindsN fun _ _ _ _ _ _ us hl => match us, hl with | [], _ => rfl) (tot rfl)
theorem sc_19 : FnScope ["_law_k", "_law_thing", "_law_word_here"] ["_law_k", "_law_thing"] (defScope (top 43)) := ⟨rfl, rfl, rfl, by decide +kernel, rfl, by decide +kernel, by decide +kernel⟩
theorem f_19 (F : Fw w K mg base) : ∃ fd, FunD K "_law_is_rule" "_law_is_rule" (defArgs (top 43)) (defBody (top 43)) (defScope (top 43)) [] [] (fAd K ("_law_is_rule", none)) fd ∧ ∀ k, FnG Pr w K mg base (L2.CX Pr w) (6 * k) (fAd K ("_law_is_rule", none)) fd ["_law_k", "_law_thing"] (spD (Gam K) (callN Pg fuel k 19) 2) := by
  obtain ⟨fd, FD⟩ := F.def_ 17
  refine ⟨fd, FD, fn_all (Γ := Gam K) rfl FD sc_19 rfl fun k cdv A outer s H E hcd q => ?_⟩
  exact sd_sone (sd_ret (k_cmp q.in_ (k_call (q.repr (sysin F)) (F.free 22 (x := "repr")) (k_cons (k_v 1) .nil)) (k_lc q [("_law_word_here", 2)] (k_iter q (k_usr q (c_14 F k) (k_cons (k_v 0) .nil))) (fun s1 H1 C1 cl1 fp1 => k_gn (q.blk s1 H1 _ _ fp1) 2) (fun s1 H1 C1 cl1 fp1 => pts_nilR) (fun s1 H1 C1 cl1 fp1 => k_call ((q.blk s1 H1 _ _ fp1).repr (sysin F)) (F.free 22 (x := "repr")) (k_cons (k_v 2) .nil)))))
theorem c_19 (F : Fw w K mg base) (k : Nat) : Cal (Gam K) Pr w K mg base ⟨callN Pg fuel k, fuel⟩ (6 * k) 19 "_law_is_rule" [] := by
  obtain ⟨fd, FD, G⟩ := f_19 F
  exact cal_of (G k) (F.glo 36 (x := "_law_is_rule")) FD (FD.bindsN fun _ _ _ _ _ _ us hl => match us, hl with | [_, _], _ => rfl) (tot rfl)
theorem sc_20 : FnScope ["_law_thing", "_law_wrong", "_law_k"] ["_law_thing"] (defScope (top 44)) := ⟨rfl, rfl, rfl, by decide +kernel, rfl, by decide +kernel, by decide +kernel⟩
theorem f_20 (F : Fw w K mg base) : ∃ fd, FunD K "_law_due" "_law_due" (defArgs (top 44)) (defBody (top 44)) (defScope (top 44)) [] [] (fAd K ("_law_due", none)) fd ∧ ∀ k, FnG Pr w K mg base (L2.CX Pr w) (6 * k) (fAd K ("_law_due", none)) fd ["_law_thing"] (spD (Gam K) (callN Pg fuel k 20) 1) := by
  obtain ⟨fd, FD⟩ := F.def_ 18
  refine ⟨fd, FD, fn_all (Γ := Gam K) rfl FD sc_20 rfl fun k cdv A outer s H E hcd q => ?_⟩
  exact sd_scons (sd_ifS (k_orT (.cons (sd_notT (k_vT (k_isi2 q (k_v 0) (F.free 0 (x := "isinstance")) (F.free 1 (x := "list")) (F.free 2 (x := "tuple")) boot_list boot_tuple))) (.cons (k_cmpT q.ne (k_call q.len (F.free 6 (x := "len")) (k_cons (k_v 0) .nil)) (sd_int)) .nil))) (sd_sone (sd_ret (k_tup (k_cons (sd_str) (k_cons (sd_non) .nil))))) (sd_snil)) (sd_scons (k_setLc q (mt := false) 1 [("_law_k", 2)] (k_range1 (F.free 13 (x := "range")) (sd_int)) (fun s1 H1 C1 cl1 fp1 => k_gn (q.blk s1 H1 _ _ fp1) 2) (fun s1 H1 C1 cl1 fp1 => pts_one (sd_notT (k_vT (k_usr (q.blk s1 H1 _ _ fp1) (c_19 F k) (k_cons (k_v 2) (k_cons (k_idx (q.blk s1 H1 _ _ fp1) (k_v 0) (k_v 2)) .nil)))))) (fun s1 H1 C1 cl1 fp1 => k_v 2)) (sd_sone (sd_ret (sd_if (k_cmpT q.ne (k_v 1) (k_lst .nil)) (k_tup (k_cons (sd_str) (k_cons (k_idx q (k_usr0 q (c_18 F k)) (k_idx q (k_v 1) (sd_int))) .nil))) (sd_non)))))
theorem c_20 (F : Fw w K mg base) (k : Nat) : Cal (Gam K) Pr w K mg base ⟨callN Pg fuel k, fuel⟩ (6 * k) 20 "_law_due" [] := by
  obtain ⟨fd, FD, G⟩ := f_20 F
  exact cal_of (G k) (F.glo 37 (x := "_law_due")) FD (FD.bindsN fun _ _ _ _ _ _ us hl => match us, hl with | [_], _ => rfl) (tot rfl)
theorem sc_21 : FnScope ["_law_thing", "_law_kept", "_law_due_here", "_law_turn", "_law_told_here"] ["_law_thing"] (defScope (top 45)) := ⟨rfl, rfl, rfl, by decide +kernel, rfl, by decide +kernel, by decide +kernel⟩
theorem lf_21 (F : Fw w K mg base) {cd : Value} (hcd : CodeAt K (fAd K ("_law_right", none)) cd) : Lf (Gam K) mg base cd (("_law_right" : Str) ++ ".<locals>.") :=
  F.lf (p := ("_law_right", none)) (List.mem_of_getElem? (i := 0) rfl) hcd (List.mem_map.mpr ⟨(("_law_right", none), (("_law_right" : Str) ++ ".<locals>.") ++ "<lambda>"), List.mem_of_getElem? (i := 0) rfl, rfl⟩) (fun z hz e => tdist 0 F (p := (("_law_right", none), (("_law_right" : Str) ++ ".<locals>.") ++ "<lambda>")) z hz e)
theorem f_21 (F : Fw w K mg base) : ∃ fd, FunD K "_law_right" "_law_right" (defArgs (top 45)) (defBody (top 45)) (defScope (top 45)) [] [] (fAd K ("_law_right", none)) fd ∧ ∀ k, FnG Pr w K mg base (L2.CX Pr w) (6 * k) (fAd K ("_law_right", none)) fd ["_law_thing"] (spD (Gam K) (callN Pg fuel k 21) 1) := by
  obtain ⟨fd, FD⟩ := F.def_ 19
  refine ⟨fd, FD, fn_all (Γ := Gam K) rfl FD sc_21 rfl fun k cdv A outer s H E hcd q => ?_⟩
  exact sd_scons (k_par q 1 2 (k_consM (k_call (q.repr (sysin F)) (F.free 22 (x := "repr")) (k_cons (k_v 0) .nil)) (k_consM (k_usr q (c_20 F k) (k_cons (k_v 0) .nil)) .nil))) (sd_scons (k_for q (passes_of rfl) (k_range1 (F.free 13 (x := "range")) (sd_int)) (k_gn q 3) (sd_scons (k_set q false 4 (k_told (k := 6 * k + 3) q (tl_17 F k _ rfl rfl rfl rfl rfl (q.room.mono (by omega))) (lf_21 F hcd) (fun A1 o1 s1 H1 E1 f1 c1 q1 => k_mk q1 (c := 10) (mk_3 F k) (F.glo 11 (x := "Table")) (k_cons (k_v 0) .nil)))) (sd_scons (sd_ifS (k_andT (.cons (k_cmpT q.notN (k_v 2) (sd_non)) (.cons (k_cmpT q.ne (k_call (q.repr (sysin F)) (F.free 22 (x := "repr")) (k_cons (k_v 4) .nil)) (k_call (q.repr (sysin F)) (F.free 22 (x := "repr")) (k_cons (k_v 2) .nil))) .nil))) (sd_sone (sd_ret (sd_bl))) (sd_snil)) (sd_scons (sd_ifS (k_andT (.cons (k_cmpT q.isN (k_v 2) (sd_non)) (.cons (k_orT (.cons (sd_notT (k_vT (k_isi q (k_v 4) (F.free 0 (x := "isinstance")) (F.free 1 (x := "list")) boot_list))) (.cons (sd_notT (k_vT (k_isiO q (c := 10) (ownIsB_ok (Γ := Gam K) (F.chk 3 (c := ck_3))) (k_idx q (k_v 4) (sd_int)) (F.free 0 (x := "isinstance")) (F.glo 11 (x := "Table"))))) .nil))) .nil))) (sd_sone (sd_ret (sd_bl))) (sd_snil)) (sd_sone (sd_ifS (k_andT (.cons (k_cmpT q.isN (k_v 2) (sd_non)) (.cons (k_cmpT q.ne (k_call (q.repr (sysin F)) (F.free 22 (x := "repr")) (k_cons (k_fld q (sxOkB_ok (Γ := Gam K) (F.chk 2 (c := ck_2))) (k_idx q (k_v 4) (sd_int))) .nil)) (k_call (q.repr (sysin F)) (F.free 22 (x := "repr")) (k_cons (k_call q.tuple (F.free 2 (x := "tuple")) (k_cons (k_v 0) .nil)) .nil))) .nil))) (sd_sone (sd_ret (sd_bl))) (sd_snil))))))) (sd_sone (sd_ret (k_cmp q.eq (k_call (q.repr (sysin F)) (F.free 22 (x := "repr")) (k_cons (k_v 0) .nil)) (k_v 1)))))
theorem c_21 (F : Fw w K mg base) (k : Nat) : Cal (Gam K) Pr w K mg base ⟨callN Pg fuel k, fuel⟩ (6 * k) 21 "_law_right" [] := by
  obtain ⟨fd, FD, G⟩ := f_21 F
  exact cal_of (G k) (F.glo 38 (x := "_law_right")) FD (FD.bindsN fun _ _ _ _ _ _ us hl => match us, hl with | [_], _ => rfl) (tot rfl)
theorem sc_22 : FnScope ["_law_m", "_law_some"] ["_law_m"] (defScope (top 46)) := ⟨rfl, rfl, rfl, by decide +kernel, rfl, by decide +kernel, by decide +kernel⟩
theorem f_22 (F : Fw w K mg base) : ∃ fd, FunD K "_law_odd" "_law_odd" (defArgs (top 46)) (defBody (top 46)) (defScope (top 46)) [] [] (fAd K ("_law_odd", none)) fd ∧ ∀ k, FnG Pr w K mg base (L2.CX Pr w) (6 * k) (fAd K ("_law_odd", none)) fd ["_law_m"] (spD (Gam K) (callN Pg fuel k 22) 1) := by
  obtain ⟨fd, FD⟩ := F.def_ 20
  refine ⟨fd, FD, fn_all (Γ := Gam K) rfl FD sc_22 rfl fun k cdv A outer s H E hcd q => ?_⟩
  exact sd_scons (k_set q false 1 (k_lst (k_cons (sd_non) (k_cons (sd_int) (k_cons (sd_bl) (k_cons (sd_str) (k_cons (sd_str) (k_cons (sd_str) (k_cons (sd_str) (k_cons (sd_str) (k_cons (sd_str) (k_cons (k_lst (k_cons (sd_str) .nil)) (k_cons (k_tup (k_cons (sd_str) .nil)) (k_cons (sd_dnew) (k_cons (k_op q.pow (sd_int) (sd_int)) .nil))))))))))))))) (sd_sone (sd_ret (k_usr q (c_13 F k) (k_cons (k_v 0) (k_cons (k_op q.add (k_v 1) (k_lst (k_cons (sd_str) (k_cons (sd_str) (k_cons (sd_str) (k_cons (sd_str) (k_cons (sd_str) (k_cons (sd_str) (k_cons (sd_str) .nil))))))))) .nil)))))
theorem c_22 (F : Fw w K mg base) (k : Nat) : Cal (Gam K) Pr w K mg base ⟨callN Pg fuel k, fuel⟩ (6 * k) 22 "_law_odd" [] := by
  obtain ⟨fd, FD, G⟩ := f_22 F
  exact cal_of (G k) (F.glo 39 (x := "_law_odd")) FD (FD.bindsN fun _ _ _ _ _ _ us hl => match us, hl with | [_], _ => rfl) (tot rfl)
theorem sc_23 : FnScope ["_law_m", "_law_row", "_law_at", "_law_way"] ["_law_m", "_law_row"] (defScope (top 47)) := ⟨rfl, rfl, rfl, by decide +kernel, rfl, by decide +kernel, by decide +kernel⟩
theorem f_23 (F : Fw w K mg base) : ∃ fd, FunD K "_law_bent" "_law_bent" (defArgs (top 47)) (defBody (top 47)) (defScope (top 47)) [] [] (fAd K ("_law_bent", none)) fd ∧ ∀ k, FnG Pr w K mg base (L2.CX Pr w) (6 * k) (fAd K ("_law_bent", none)) fd ["_law_m", "_law_row"] (spD (Gam K) (callN Pg fuel k 23) 2) := by
  obtain ⟨fd, FD⟩ := F.def_ 21
  refine ⟨fd, FD, fn_all (Γ := Gam K) rfl FD sc_23 rfl fun k cdv A outer s H E hcd q => ?_⟩
  exact sd_scons (k_par q 2 3 (k_consM (k_usr q (c_12 F k) (k_cons (k_v 0) (k_cons (k_op q.add (k_call q.len (F.free 6 (x := "len")) (k_cons (k_v 1) .nil)) (sd_int)) .nil))) (k_consM (k_usr q (c_12 F k) (k_cons (k_v 0) (k_cons (sd_int) .nil))) .nil))) (sd_scons (sd_ifS (k_cmpT q.lt (k_v 3) (sd_int)) (sd_sone (sd_ret (k_op q.add (k_op q.add (k_sli q (k_v 1) .none (.some (k_v 2))) (k_lst (k_cons (k_usr q (c_22 F k) (k_cons (k_v 0) .nil)) .nil))) (k_sli q (k_v 1) (.some (k_op q.add (k_v 2) (sd_int))) .none)))) (sd_snil)) (sd_scons (sd_ifS (k_cmpT q.eq (k_v 3) (sd_int)) (sd_sone (sd_ret (k_op q.add (k_sli q (k_v 1) .none (.some (k_v 2))) (k_sli q (k_v 1) (.some (k_op q.add (k_v 2) (sd_int))) .none)))) (sd_snil)) (sd_scons (sd_ifS (k_cmpT q.eq (k_v 3) (sd_int)) (sd_sone (sd_ret (k_op q.add (k_op q.add (k_sli q (k_v 1) .none (.some (k_v 2))) (k_lst (k_cons (k_usr q (c_22 F k) (k_cons (k_v 0) .nil)) .nil))) (k_sli q (k_v 1) (.some (k_v 2)) .none)))) (sd_snil)) (sd_scons (sd_ifS (k_cmpT q.eq (k_v 3) (sd_int)) (sd_sone (sd_ret (k_op q.add (k_sli q (k_v 1) (.some (k_v 2)) .none) (k_sli q (k_v 1) .none (.some (k_v 2)))))) (sd_snil)) (sd_sone (sd_ret (k_usr q (c_13 F k) (k_cons (k_v 0) (k_cons (k_lst (k_cons (sd_non) (k_cons (sd_int) (k_cons (sd_str) (k_cons (sd_str) (k_cons (sd_dnew) (k_cons (sd_bl) (k_cons (k_tup .nil) (k_cons (k_lst .nil) (k_cons (k_disp (.cons (sd_str) (sd_str) .nil)) (k_cons (k_op q.pow (sd_int) (sd_int)) (k_cons (k_rev q (k_v 1)) .nil)))))))))))) .nil)))))))))
theorem c_23 (F : Fw w K mg base) (k : Nat) : Cal (Gam K) Pr w K mg base ⟨callN Pg fuel k, fuel⟩ (6 * k) 23 "_law_bent" [] := by
  obtain ⟨fd, FD, G⟩ := f_23 F
  exact cal_of (G k) (F.glo 40 (x := "_law_bent")) FD (FD.bindsN fun _ _ _ _ _ _ us hl => match us, hl with | [_, _], _ => rfl) (tot rfl)
theorem sc_24 : FnScope ["_law_m", "_law_some", "_law_row", "_law_k"] ["_law_m", "_law_some"] (defScope (top 48)) := ⟨rfl, rfl, rfl, by decide +kernel, rfl, by decide +kernel, by decide +kernel⟩
theorem f_24 (F : Fw w K mg base) : ∃ fd, FunD K "_law_spoilt_right" "_law_spoilt_right" (defArgs (top 48)) (defBody (top 48)) (defScope (top 48)) [] [] (fAd K ("_law_spoilt_right", none)) fd ∧ ∀ k, FnG Pr w K mg base (L2.CX Pr w) (6 * k) (fAd K ("_law_spoilt_right", none)) fd ["_law_m", "_law_some"] (spD (Gam K) (callN Pg fuel k 24) 2) := by
  obtain ⟨fd, FD⟩ := F.def_ 22
  refine ⟨fd, FD, fn_all (Γ := Gam K) rfl FD sc_24 rfl fun k cdv A outer s H E hcd q => ?_⟩
  exact sd_scons (k_set q false 2 (k_call q.list (F.free 1 (x := "list")) (k_cons (k_v 1) .nil))) (sd_scons (k_for q (passes_of rfl) (k_range1 (F.free 13 (x := "range")) (k_op q.add (sd_int) (k_usr q (c_12 F k) (k_cons (k_v 0) (k_cons (sd_int) .nil))))) (k_gn q 3) (sd_sone (k_set q false 2 (sd_if (k_vT (k_isi q (k_v 2) (F.free 0 (x := "isinstance")) (F.free 1 (x := "list")) boot_list)) (k_usr q (c_23 F k) (k_cons (k_v 0) (k_cons (k_v 2) .nil))) (k_v 2))))) (sd_scons (sd_ifS (k_andT (.cons (k_vT (k_isi q (k_v 2) (F.free 0 (x := "isinstance")) (F.free 1 (x := "list")) boot_list)) (.cons (k_cmpT q.eq (k_usr q (c_12 F k) (k_cons (k_v 0) (k_cons (sd_int) .nil))) (sd_int)) .nil))) (sd_sone (k_set q false 2 (k_call q.tuple (F.free 2 (x := "tuple")) (k_cons (k_v 2) .nil)))) (sd_snil)) (sd_sone (sd_ret (k_usr q (c_21 F k) (k_cons (k_v 2) .nil))))))
theorem c_24 (F : Fw w K mg base) (k : Nat) : Cal (Gam K) Pr w K mg base ⟨callN Pg fuel k, fuel⟩ (6 * k) 24 "_law_spoilt_right" [] := by
  obtain ⟨fd, FD, G⟩ := f_24 F
  exact cal_of (G k) (F.glo 41 (x := "_law_spoilt_right")) FD (FD.bindsN fun _ _ _ _ _ _ us hl => match us, hl with | [_, _], _ => rfl) (tot rfl)
theorem sc_25 : FnScope ["_law_m", "_law_table", "_law_some", "_law_k", "_law_case", "_law_word_here", "_law_fresh", "_law_gap", "_law_odd_here", "_law_told_here"] ["_law_m", "_law_table", "_law_some"] (defScope (top 49)) := ⟨rfl, rfl, rfl, by decide +kernel, rfl, by decide +kernel, by decide +kernel⟩
theorem lf_25 (F : Fw w K mg base) {cd : Value} (hcd : CodeAt K (fAd K ("_law_cases_right", none)) cd) : Lf (Gam K) mg base cd (("_law_cases_right" : Str) ++ ".<locals>.") :=
  F.lf (p := ("_law_cases_right", none)) (List.mem_of_getElem? (i := 1) rfl) hcd (List.mem_map.mpr ⟨(("_law_cases_right", none), (("_law_cases_right" : Str) ++ ".<locals>.") ++ "<lambda>"), List.mem_of_getElem? (i := 1) rfl, rfl⟩) (fun z hz e => tdist 1 F (p := (("_law_cases_right", none), (("_law_cases_right" : Str) ++ ".<locals>.") ++ "<lambda>")) z hz e)
theorem f_25 (F : Fw w K mg base) : ∃ fd, FunD K "_law_cases_right" "_law_cases_right" (defArgs (top 49)) (defBody (top 49)) (defScope (top 49)) [] [] (fAd K ("_law_cases_right", none)) fd ∧ ∀ k, FnG Pr w K mg base (L2.CX Pr w) (6 * k) (fAd K ("_law_cases_right", none)) fd ["_law_m", "_law_table", "_law_some"] (spD (Gam K) (callN Pg fuel k 25) 3) := by
  obtain ⟨fd, FD⟩ := F.def_ 23
  refine ⟨fd, FD, fn_all (Γ := Gam K) rfl FD sc_25 rfl fun k cdv A outer s H E hcd q => ?_⟩
  exact sd_scons (k_for q (passes_of rfl) (k_range1 (F.free 13 (x := "range")) (sd_int)) (k_gn q 3) (sd_scons (k_set q false 4 (k_idx q (k_usr0 q (c_18 F k)) (k_v 3))) (sd_scons (sd_ifS (k_cmpT q.ne (k_call (q.repr (sysin F)) (F.free 22 (x := "repr")) (k_cons (k_lst (k_cons (k_ixO q (o_6 F k) (k_v 1) (k_v 4)) (k_cons (k_ixO q (o_6 F k) (k_v 1) (k_v 4)) .nil))) .nil)) (k_call (q.repr (sysin F)) (F.free 22 (x := "repr")) (k_cons (k_op q.mul (k_lst (k_cons (k_idx q (k_v 2) (k_v 3)) .nil)) (sd_int)) .nil))) (sd_sone (sd_ret (sd_bl))) (sd_snil)) (sd_scons (k_for q (passes_of rfl) (k_iter q (k_usr q (c_14 F k) (k_cons (k_v 3) .nil))) (k_gn q 5) (sd_scons (k_set q false 6 (k_meth q (m_10 F k) (k_v 1) (k_cons (k_v 4) (k_cons (k_v 5) .nil)))) (sd_scons (sd_ifS (k_orT (.cons (sd_notT (k_vT (k_isiO q (c := 10) (ownIsB_ok (Γ := Gam K) (F.chk 3 (c := ck_3))) (k_v 6) (F.free 0 (x := "isinstance")) (F.glo 11 (x := "Table"))))) (.cons (k_cmpT q.ne (k_call (q.repr (sysin F)) (F.free 22 (x := "repr")) (k_cons (k_fld q (sxOkB_ok (Γ := Gam K) (F.chk 2 (c := ck_2))) (k_v 6)) .nil)) (k_call (q.repr (sysin F)) (F.free 22 (x := "repr")) (k_cons (k_op q.add (k_op q.add (k_sli q (k_v 2) .none (.some (k_v 3))) (k_tup (k_cons (k_v 5) .nil))) (k_sli q (k_v 2) (.some (k_op q.add (k_v 3) (sd_int))) .none)) .nil))) .nil))) (sd_sone (sd_ret (sd_bl))) (sd_snil)) (sd_scons (k_set q false 7 (k_call q.int (F.free 12 (x := "int")) (k_cons (k_cmp q.ne (k_v 5) (k_idx q (k_v 2) (k_v 3))) .nil))) (sd_sone (sd_ifS (k_cmpT q.ne (k_call (q.repr (sysin F)) (F.free 22 (x := "repr")) (k_cons (k_lst (k_cons (k_ownSub q (o_8 F k) (F.chk 18 (c := ck_18)) (k_v 1) (k_v 6)) (k_cons (k_ownSub q (o_8 F k) (F.chk 18 (c := ck_18)) (k_v 6) (k_v 1)) (k_cons (k_ownEq q (o_5 F k) (ownYB_ok (Γ := Gam K) (F.chk 19 (c := ck_19))) (k_v 1) (k_v 6)) .nil)))) .nil)) (k_call (q.repr (sysin F)) (F.free 22 (x := "repr")) (k_cons (k_lst (k_cons (k_v 7) (k_cons (k_v 7) (k_cons (k_cmp q.eq (k_v 7) (sd_int)) .nil)))) .nil))) (sd_sone (sd_ret (sd_bl))) (sd_snil))))))) (sd_scons (k_set q false 8 (k_usr q (c_22 F k) (k_cons (k_v 0) .nil))) (sd_scons (k_set q false 9 (k_told (k := 6 * k + 3) q (tl_17 F k _ rfl rfl rfl rfl rfl (q.room.mono (by omega))) (lf_25 F hcd) (fun A1 o1 s1 H1 E1 f1 c1 q1 => k_meth q1 (m_10 F k) (k_v 1) (k_cons (k_v 4) (k_cons (k_v 8) .nil))))) (sd_sone (sd_ifS (k_andT (.cons (sd_notT (k_vT (k_usr q (c_19 F k) (k_cons (k_v 3) (k_cons (k_v 8) .nil))))) (.cons (k_cmpT q.ne (k_call (q.repr (sysin F)) (F.free 22 (x := "repr")) (k_cons (k_v 9) .nil)) (k_call (q.repr (sysin F)) (F.free 22 (x := "repr")) (k_cons (k_tup (k_cons (sd_str) (k_cons (k_v 4) .nil))) .nil))) .nil))) (sd_sone (sd_ret (sd_bl))) (sd_snil))))))))) (sd_sone (sd_ret (k_cmp q.eq (k_call (q.repr (sysin F)) (F.free 22 (x := "repr")) (k_cons (k_fld q (sxOkB_ok (Γ := Gam K) (F.chk 2 (c := ck_2))) (k_v 1)) .nil)) (k_call (q.repr (sysin F)) (F.free 22 (x := "repr")) (k_cons (k_v 2) .nil)))))
theorem c_25 (F : Fw w K mg base) (k : Nat) : Cal (Gam K) Pr w K mg base ⟨callN Pg fuel k, fuel⟩ (6 * k) 25 "_law_cases_right" [] := by
  obtain ⟨fd, FD, G⟩ := f_25 F
  exact cal_of (G k) (F.glo 42 (x := "_law_cases_right")) FD (FD.bindsN fun _ _ _ _ _ _ us hl => match us, hl with | [_, _, _], _ => rfl) (tot rfl)
theorem sc_26 : FnScope ["_law_table", "_law_some", "_law_odd_here", "_law_told_here", "_law_case", "_law_rule"] ["_law_table", "_law_some"] (defScope (top 50)) := ⟨rfl, rfl, rfl, by decide +kernel, rfl, by decide +kernel, by decide +kernel⟩
theorem lf_26 (F : Fw w K mg base) {cd : Value} (hcd : CodeAt K (fAd K ("_law_refused_right", none)) cd) : Lf (Gam K) mg base cd (("_law_refused_right" : Str) ++ ".<locals>.") :=
  F.lf (p := ("_law_refused_right", none)) (List.mem_of_getElem? (i := 2) rfl) hcd (List.mem_map.mpr ⟨(("_law_refused_right", none), (("_law_refused_right" : Str) ++ ".<locals>.") ++ "<lambda>"), List.mem_of_getElem? (i := 2) rfl, rfl⟩) (fun z hz e => tdist 2 F (p := (("_law_refused_right", none), (("_law_refused_right" : Str) ++ ".<locals>.") ++ "<lambda>")) z hz e)
theorem f_26 (F : Fw w K mg base) : ∃ fd, FunD K "_law_refused_right" "_law_refused_right" (defArgs (top 50)) (defBody (top 50)) (defScope (top 50)) [] [] (fAd K ("_law_refused_right", none)) fd ∧ ∀ k, FnG Pr w K mg base (L2.CX Pr w) (6 * k) (fAd K ("_law_refused_right", none)) fd ["_law_table", "_law_some"] (spD (Gam K) (callN Pg fuel k 26) 2) := by
  obtain ⟨fd, FD⟩ := F.def_ 24
  refine ⟨fd, FD, fn_all (Γ := Gam K) rfl FD sc_26 rfl fun k cdv A outer s H E hcd q => ?_⟩
  exact sd_scons (k_for q (passes_of rfl) (k_iter q (k_tup (k_cons (sd_non) (k_cons (sd_int) (k_cons (sd_str) (k_cons (sd_str) (k_cons (sd_str) (k_cons (sd_str) (k_cons (sd_str) (k_cons (sd_str) (k_cons (k_lst (k_cons (sd_str) .nil)) (k_cons (k_tup (k_cons (sd_str) .nil)) (k_cons (sd_dnew) (k_cons (sd_bl) (k_cons (k_op q.pow (sd_int) (sd_int)) .nil))))))))))))))) (k_gn q 2) (sd_scons (k_set q true 3 (k_lst (k_cons (k_told (k := 6 * k + 3) q (tl_17 F k _ rfl rfl rfl rfl rfl (q.room.mono (by omega))) (lf_26 F hcd) (fun A1 o1 s1 H1 E1 f1 c1 q1 => k_ixO q1 (o_6 F k) (k_v 0) (k_v 2))) (k_cons (k_toldD (k := 6 * k + 3) q "_law_n" (tl_17 F k _ rfl rfl rfl rfl rfl (q.room.mono (by omega))) (lf_26 F hcd) pe_int (fun A1 o1 s1 H1 E1 f1 c1 q1 => k_meth q1 (m_10 F k) (k_v 0) (k_cons (k_v 2) (k_cons (sd_str) .nil))) (fun _ _ _ _ _ _ => ⟨_, rfl, fun _ => rfl⟩)) .nil)))) (sd_scons (k_expr (k_append q (k_v 3) (k_told (k := 6 * k + 3) q (tl_17 F k _ rfl rfl rfl rfl rfl (q.room.mono (by omega))) (lf_26 F hcd) (fun A1 o1 s1 H1 E1 f1 c1 q1 => k_meth q1 (m_10 F k) (k_v 0) (k_cons (k_v 2) (k_cons (sd_non) .nil)))))) (sd_sone (sd_ifS (k_cmpT q.ne (k_call (q.repr (sysin F)) (F.free 22 (x := "repr")) (k_cons (k_v 3) .nil)) (k_call (q.repr (sysin F)) (F.free 22 (x := "repr")) (k_cons (k_op q.mul (k_lst (k_cons (k_tup (k_cons (sd_str) (k_cons (k_v 2) .nil))) .nil)) (sd_int)) .nil))) (sd_sone (sd_ret (sd_bl))) (sd_snil)))))) (sd_scons (k_for q (passes_of rfl) (k_iter q (k_tup (k_cons (k_tup (k_cons (sd_str) (k_cons (sd_str) .nil))) (k_cons (k_tup (k_cons (sd_str) (k_cons (sd_str) .nil))) (k_cons (k_tup (k_cons (sd_str) (k_cons (sd_str) .nil))) (k_cons (k_tup (k_cons (sd_str) (k_cons (sd_str) .nil))) .nil)))))) (k_gtp q (k_gc (k_gn q 4) (k_gc (k_gn q 5) sgs_nil))) (sd_sone (sd_ifS (k_cmpT q.ne (k_call (q.repr (sysin F)) (F.free 22 (x := "repr")) (k_cons (k_told (k := 6 * k + 3) q (tl_17 F k _ rfl rfl rfl rfl rfl (q.room.mono (by omega))) (lf_26 F hcd) (fun A1 o1 s1 H1 E1 f1 c1 q1 => k_meth q1 (m_10 F k) (k_v 0) (k_cons (k_v 4) (k_cons (k_v 5) .nil)))) .nil)) (k_call (q.repr (sysin F)) (F.free 22 (x := "repr")) (k_cons (k_tup (k_cons (sd_str) (k_cons (k_v 4) .nil))) .nil))) (sd_sone (sd_ret (sd_bl))) (sd_snil)))) (sd_scons (k_for q (passes_of rfl) (k_iter q (k_tup (k_cons (sd_str) (k_cons (sd_str) (k_cons (sd_non) (k_cons (k_lst (k_cons (sd_str) .nil)) (k_cons (sd_str) (k_cons (sd_bl) .nil)))))))) (k_gn q 5) (sd_sone (sd_ifS (k_cmpT q.ne (k_call (q.repr (sysin F)) (F.free 22 (x := "repr")) (k_cons (k_told (k := 6 * k + 3) q (tl_17 F k _ rfl rfl rfl rfl rfl (q.room.mono (by omega))) (lf_26 F hcd) (fun A1 o1 s1 H1 E1 f1 c1 q1 => k_meth q1 (m_10 F k) (k_v 0) (k_cons (sd_str) (k_cons (k_v 5) .nil)))) .nil)) (k_call (q.repr (sysin F)) (F.free 22 (x := "repr")) (k_cons (k_tup (k_cons (sd_str) (k_cons (sd_str) .nil))) .nil))) (sd_sone (sd_ret (sd_bl))) (sd_snil)))) (sd_sone (sd_ret (k_cmp q.eq (k_call (q.repr (sysin F)) (F.free 22 (x := "repr")) (k_cons (k_fld q (sxOkB_ok (Γ := Gam K) (F.chk 2 (c := ck_2))) (k_v 0)) .nil)) (k_call (q.repr (sysin F)) (F.free 22 (x := "repr")) (k_cons (k_v 1) .nil)))))))
theorem c_26 (F : Fw w K mg base) (k : Nat) : Cal (Gam K) Pr w K mg base ⟨callN Pg fuel k, fuel⟩ (6 * k) 26 "_law_refused_right" [] := by
  obtain ⟨fd, FD, G⟩ := f_26 F
  exact cal_of (G k) (F.glo 43 (x := "_law_refused_right")) FD (FD.bindsN fun _ _ _ _ _ _ us hl => match us, hl with | [_, _], _ => rfl) (tot rfl)
theorem sc_27 : FnScope ["_law_some", "_law_more", "_law_row", "_law_table", "_law_twin", "_law_other", "_law_gap", "_law_k", "_law_odd_here"] ["_law_some", "_law_more"] (defScope (top 51)) := ⟨rfl, rfl, rfl, by decide +kernel, rfl, by decide +kernel, by decide +kernel⟩
theorem f_27 (F : Fw w K mg base) : ∃ fd, FunD K "_law_two_right" "_law_two_right" (defArgs (top 51)) (defBody (top 51)) (defScope (top 51)) [] [] (fAd K ("_law_two_right", none)) fd ∧ ∀ k, FnG Pr w K mg base (L2.CX Pr w) (6 * k) (fAd K ("_law_two_right", none)) fd ["_law_some", "_law_more"] (spD (Gam K) (callN Pg fuel k 27) 2) := by
  obtain ⟨fd, FD⟩ := F.def_ 25
  refine ⟨fd, FD, fn_all (Γ := Gam K) rfl FD sc_27 rfl fun k cdv A outer s H E hcd q => ?_⟩
  exact sd_scons (k_set q true 2 (k_call q.list (F.free 1 (x := "list")) (k_cons (k_v 0) .nil))) (sd_scons (k_par3 q 3 4 5 (k_consM (k_mkZ q (c := 10) (mk_3 F k) (F.glo 11 (x := "Table")) (k_cons (k_v 2) .nil)) (k_consM (k_mk q (c := 10) (mk_3 F k) (F.glo 11 (x := "Table")) (k_cons (k_v 0) .nil)) (k_consM (k_mk q (c := 10) (mk_3 F k) (F.glo 11 (x := "Table")) (k_cons (k_v 1) .nil)) .nil)))) (sd_scons (k_expr (k_append q (k_v 2) (sd_str))) (sd_scons (k_sub q (k_v 2) (sd_int) (sd_non)) (sd_scons (sd_ifS (k_cmpT q.ne (k_call (q.repr (sysin F)) (F.free 22 (x := "repr")) (k_cons (k_lst (k_cons (k_fld q (sxOkB_ok (Γ := Gam K) (F.chk 2 (c := ck_2))) (k_v 3)) (k_cons (k_fld q (sxOkB_ok (Γ := Gam K) (F.chk 2 (c := ck_2))) (k_v 4)) .nil))) .nil)) (k_call (q.repr (sysin F)) (F.free 22 (x := "repr")) (k_cons (k_lst (k_cons (k_v 0) (k_cons (k_v 0) .nil))) .nil))) (sd_sone (sd_ret (sd_bl))) (sd_snil)) (sd_scons (sd_ifS (k_cmpT q.ne (k_call (q.repr (sysin F)) (F.free 22 (x := "repr")) (k_cons (k_lst (k_cons (k_ownEq q (o_5 F k) (ownYB_ok (Γ := Gam K) (F.chk 19 (c := ck_19))) (k_v 3) (k_v 4)) (k_cons (k_ownNe q (o_5 F k) (neB_ok (Γ := Gam K) (F.chk 20 (c := ck_20))) (ownYB_ok (Γ := Gam K) (F.chk 19 (c := ck_19))) (k_v 3) (k_v 4)) (k_cons (k_ownSub q (o_8 F k) (F.chk 18 (c := ck_18)) (k_v 3) (k_v 4)) .nil)))) .nil)) (k_call (q.repr (sysin F)) (F.free 22 (x := "repr")) (k_cons (k_lst (k_cons (sd_bl) (k_cons (sd_bl) (k_cons (sd_int) .nil)))) .nil))) (sd_sone (sd_ret (sd_bl))) (sd_snil)) (sd_scons (k_set q false 6 (k_call q.len (F.free 6 (x := "len")) (k_cons (k_lc q [("_law_k", 7)] (k_range1 (F.free 13 (x := "range")) (sd_int)) (fun s1 H1 C1 cl1 fp1 => k_gn (q.blk s1 H1 _ _ fp1) 7) (fun s1 H1 C1 cl1 fp1 => pts_one (k_cmpT (q.blk s1 H1 _ _ fp1).ne (k_idx (q.blk s1 H1 _ _ fp1) (k_v 0) (k_v 7)) (k_idx (q.blk s1 H1 _ _ fp1) (k_v 1) (k_v 7)))) (fun s1 H1 C1 cl1 fp1 => k_v 7)) .nil))) (sd_scons (sd_ifS (k_cmpT q.ne (k_call (q.repr (sysin F)) (F.free 22 (x := "repr")) (k_cons (k_lst (k_cons (k_ownSub q (o_8 F k) (F.chk 18 (c := ck_18)) (k_v 3) (k_v 5)) (k_cons (k_ownSub q (o_8 F k) (F.chk 18 (c := ck_18)) (k_v 5) (k_v 3)) .nil))) .nil)) (k_call (q.repr (sysin F)) (F.free 22 (x := "repr")) (k_cons (k_lst (k_cons (k_v 6) (k_cons (k_v 6) .nil))) .nil))) (sd_sone (sd_ret (sd_bl))) (sd_snil)) (sd_scons (sd_ifS (k_cmpT q.ne (k_call (q.repr (sysin F)) (F.free 22 (x := "repr")) (k_cons (k_lst (k_cons (k_ownEq q (o_5 F k) (ownYB_ok (Γ := Gam K) (F.chk 19 (c := ck_19))) (k_v 3) (k_v 5)) (k_cons (k_ownEq q (o_5 F k) (ownYB_ok (Γ := Gam K) (F.chk 19 (c := ck_19))) (k_v 5) (k_v 3)) (k_cons (k_ownNe q (o_5 F k) (neB_ok (Γ := Gam K) (F.chk 20 (c := ck_20))) (ownYB_ok (Γ := Gam K) (F.chk 19 (c := ck_19))) (k_v 3) (k_v 5)) .nil)))) .nil)) (k_call (q.repr (sysin F)) (F.free 22 (x := "repr")) (k_cons (k_lst (k_cons (k_cmp q.eq (k_v 6) (sd_int)) (k_cons (k_cmp q.eq (k_v 6) (sd_int)) (k_cons (k_cmp q.ne (k_v 6) (sd_int)) .nil)))) .nil))) (sd_sone (sd_ret (sd_bl))) (sd_snil)) (sd_scons (k_for q (passes_of rfl) (k_iter q (k_tup (k_cons (sd_non) (k_cons (k_v 0) (k_cons (k_call q.list (F.free 1 (x := "list")) (k_cons (k_v 0) .nil)) (k_cons (sd_str) (k_cons (sd_int) (k_cons (sd_dnew) .nil)))))))) (k_gn q 8) (sd_sone (sd_ifS (k_cmpT q.ne (k_call (q.repr (sysin F)) (F.free 22 (x := "repr")) (k_cons (k_lst (k_cons (k_ownEq q (o_5 F k) (ownYB_ok (Γ := Gam K) (F.chk 19 (c := ck_19))) (k_v 3) (k_v 8)) (k_cons (k_ownNe q (o_5 F k) (neB_ok (Γ := Gam K) (F.chk 20 (c := ck_20))) (ownYB_ok (Γ := Gam K) (F.chk 19 (c := ck_19))) (k_v 3) (k_v 8)) .nil))) .nil)) (k_call (q.repr (sysin F)) (F.free 22 (x := "repr")) (k_cons (k_lst (k_cons (sd_bl) (k_cons (sd_bl) .nil))) .nil))) (sd_sone (sd_ret (sd_bl))) (sd_snil)))) (sd_sone (sd_ret (sd_bl))))))))))))
theorem c_27 (F : Fw w K mg base) (k : Nat) : Cal (Gam K) Pr w K mg base ⟨callN Pg fuel k, fuel⟩ (6 * k) 27 "_law_two_right" [] := by
  obtain ⟨fd, FD, G⟩ := f_27 F
  exact cal_of (G k) (F.glo 44 (x := "_law_two_right")) FD (FD.bindsN fun _ _ _ _ _ _ us hl => match us, hl with | [_, _], _ => rfl) (tot rfl)
theorem sc_28 : FnScope ["_law_plain", "_law_table", "_law_far", "_law_some", "_law_thing", "_law_due_here"] [] (defScope (top 52)) := ⟨rfl, rfl, rfl, by decide +kernel, rfl, by decide +kernel, by decide +kernel⟩
theorem f_28 (F : Fw w K mg base) : ∃ fd, FunD K "_law_hand_right" "_law_hand_right" (defArgs (top 52)) (defBody (top 52)) (defScope (top 52)) [] [] (fAd K ("_law_hand_right", none)) fd ∧ ∀ k, FnG Pr w K mg base (L2.CX Pr w) (6 * k) (fAd K ("_law_hand_right", none)) fd [] (spD (Gam K) (callN Pg fuel k 28) 0) := by
  obtain ⟨fd, FD⟩ := F.def_ 26
  refine ⟨fd, FD, fn_all (Γ := Gam K) rfl FD sc_28 rfl fun k cdv A outer s H E hcd q => ?_⟩
  exact sd_scons (k_set q false 0 (k_tup (k_cons (sd_str) (k_cons (sd_str) (k_cons (sd_str) (k_cons (sd_str) (k_cons (sd_str) (k_cons (sd_str) .nil)))))))) (sd_scons (k_par q 1 2 (k_consM (k_cm0 q (c := 10) (cm_4 F k) (F.glo 11 (x := "Table"))) (k_consM (k_mk q (c := 10) (mk_3 F k) (F.glo 11 (x := "Table")) (k_cons (k_lst (k_cons (sd_str) (k_cons (sd_str) (k_cons (sd_str) (k_cons (sd_str) (k_cons (sd_str) (k_cons (sd_str) .nil))))))) .nil)) .nil))) (sd_scons (sd_ifS (k_orT (.cons (sd_notT (k_vT (k_isiO q (c := 10) (ownIsB_ok (Γ := Gam K) (F.chk 3 (c := ck_3))) (k_v 1) (F.free 0 (x := "isinstance")) (F.glo 11 (x := "Table"))))) (.cons (k_cmpT q.ne (k_call (q.repr (sysin F)) (F.free 22 (x := "repr")) (k_cons (k_lst (k_cons (k_fld q (sxOkB_ok (Γ := Gam K) (F.chk 2 (c := ck_2))) (k_v 1)) (k_cons (k_gt (⟨_, (F.glo 5 (x := "CASES")), st_rep (Γ := Gam K) (F.chk 1 (c := ck_1))⟩)) .nil))) .nil)) (k_call (q.repr (sysin F)) (F.free 22 (x := "repr")) (k_cons (k_lst (k_cons (k_v 0) (k_cons (k_call q.tuple (F.free 2 (x := "tuple")) (k_cons (k_usr0 q (c_18 F k)) .nil)) .nil))) .nil))) .nil))) (sd_sone (sd_ret (sd_bl))) (sd_snil)) (sd_scons (sd_ifS (k_cmpT q.ne (k_call (q.repr (sysin F)) (F.free 22 (x := "repr")) (k_cons (k_lst (k_cons (k_ownSub q (o_8 F k) (F.chk 18 (c := ck_18)) (k_v 1) (k_v 2)) (k_cons (k_ownSub q (o_8 F k) (F.chk 18 (c := ck_18)) (k_v 2) (k_v 1)) (k_cons (k_ownEq q (o_5 F k) (ownYB_ok (Γ := Gam K) (F.chk 19 (c := ck_19))) (k_v 1) (k_mk q (c := 10) (mk_3 F k) (F.glo 11 (x := "Table")) (k_cons (k_v 0) .nil))) (k_cons (k_ownEq q (o_5 F k) (ownYB_ok (Γ := Gam K) (F.chk 19 (c := ck_19))) (k_v 1) (k_cm0 q (c := 10) (cm_4 F k) (F.glo 11 (x := "Table")))) .nil))))) .nil)) (k_call (q.repr (sysin F)) (F.free 22 (x := "repr")) (k_cons (k_lst (k_cons (sd_int) (k_cons (sd_int) (k_cons (sd_bl) (k_cons (sd_bl) .nil))))) .nil))) (sd_sone (sd_ret (sd_bl))) (sd_snil)) (sd_scons (k_set q false 3 (k_lst (k_cons (k_tup (k_cons (k_op q.mul (k_lst (k_cons (sd_str) .nil)) (sd_int)) (k_cons (sd_non) .nil))) (k_cons (k_tup (k_cons (k_op q.mul (k_lst (k_cons (sd_str) .nil)) (sd_int)) (k_cons (k_tup (k_cons (sd_str) (k_cons (sd_non) .nil))) .nil))) (k_cons (k_tup (k_cons (k_op q.mul (k_lst (k_cons (sd_str) .nil)) (sd_int)) (k_cons (k_tup (k_cons (sd_str) (k_cons (sd_non) .nil))) .nil))) .nil))))) (sd_scons (k_set q false 3 (k_op q.add (k_v 3) (k_lst (k_cons (k_tup (k_cons (k_op q.mul (k_lst (k_cons (sd_str) .nil)) (sd_int)) (k_cons (k_tup (k_cons (sd_str) (k_cons (sd_str) .nil))) .nil))) (k_cons (k_tup (k_cons (k_op q.mul (k_lst (k_cons (sd_str) .nil)) (sd_int)) (k_cons (k_tup (k_cons (sd_str) (k_cons (sd_str) .nil))) .nil))) .nil))))) (sd_scons (k_set q false 3 (k_op q.add (k_v 3) (k_lst (k_cons (k_tup (k_cons (k_op q.add (k_call q.list (F.free 1 (x := "list")) (k_cons (k_sli q (k_v 0) .none (.some (sd_int))) .nil)) (k_lst (k_cons (sd_str) .nil))) (k_cons (k_tup (k_cons (sd_str) (k_cons (sd_str) .nil))) .nil))) (k_cons (k_tup (k_cons (sd_str) (k_cons (k_tup (k_cons (sd_str) (k_cons (sd_non) .nil))) .nil))) .nil))))) (sd_scons (k_set q false 3 (k_op q.add (k_v 3) (k_lst (k_cons (k_tup (k_cons (k_op q.add (k_op q.add (k_sli q (k_v 0) .none (.some (sd_int))) (k_tup (k_cons (sd_str) (k_cons (sd_non) .nil)))) (k_sli q (k_v 0) (.some (sd_int)) .none)) (k_cons (k_tup (k_cons (sd_str) (k_cons (sd_str) .nil))) .nil))) .nil)))) (sd_scons (k_for q (passes_of rfl) (k_iter q (k_v 3)) (k_gtp q (k_gc (k_gn q 4) (k_gc (k_gn q 5) sgs_nil))) (sd_sone (sd_ifS (k_orT (.cons (k_cmpT q.ne (k_call (q.repr (sysin F)) (F.free 22 (x := "repr")) (k_cons (k_usr q (c_20 F k) (k_cons (k_v 4) .nil)) .nil)) (k_call (q.repr (sysin F)) (F.free 22 (x := "repr")) (k_cons (k_v 5) .nil))) (.cons (sd_notT (k_vT (k_usr q (c_21 F k) (k_cons (k_v 4) .nil)))) .nil))) (sd_sone (sd_ret (sd_bl))) (sd_snil)))) (sd_sone (sd_ret (sd_bl)))))))))))
theorem c_28 (F : Fw w K mg base) (k : Nat) : Cal (Gam K) Pr w K mg base ⟨callN Pg fuel k, fuel⟩ (6 * k) 28 "_law_hand_right" [] := by
  obtain ⟨fd, FD, G⟩ := f_28 F
  exact cal_of (G k) (F.glo 45 (x := "_law_hand_right")) FD (FD.bindsN fun _ _ _ _ _ _ us hl => match us, hl with | [], _ => rfl) (tot rfl)
theorem sc_29 : FnScope ["_law_script", "_law_k", "_law_m", "_law_some", "_law_more", "_law_table", "_law_turn"] ["_law_script"] (defScope (top 53)) := ⟨rfl, rfl, rfl, by decide +kernel, rfl, by decide +kernel, by decide +kernel⟩
theorem fl_29 (F : Fw w K mg base) {fd : FuncData} (FD : FunD K "law" "law" (defArgs (top 53)) (defBody (top 53)) (defScope (top 53)) [] [] (fAd K ("law", none)) fd) : ∀ k, FnG Pr w K mg base (L2.CX Pr w) (6 * k) (fAd K ("law", none)) fd ["_law_script"] (spD (Gam K) (callN Pg fuel k 29) 1) := by
  refine fn_all (Γ := Gam K) rfl FD sc_29 rfl fun k cdv A outer s H E hcd q => ?_
  exact sd_scons (k_for q (passes_of rfl) (k_range1 (F.free 13 (x := "range")) (k_op q.add (sd_int) (k_call q.min2 (F.free 23 (x := "min")) (k_cons (k_call q.len (F.free 6 (x := "len")) (k_cons (k_v 0) .nil)) (k_cons (sd_int) .nil))))) (k_gn q 1) (sd_scons (k_set q true 2 (k_usr q (c_11 F k) (k_cons (k_v 0) (k_cons (k_v 1) .nil)))) (sd_scons (k_par q 3 4 (k_consM (k_usr q (c_15 F k) (k_cons (k_v 2) .nil)) (k_consM (k_usr q (c_15 F k) (k_cons (k_v 2) .nil)) .nil))) (sd_scons (sd_ifS (k_orT (.cons (sd_notT (k_vT (k_usr q (c_21 F k) (k_cons (k_v 3) .nil)))) (.cons (sd_notT (k_vT (k_usr q (c_21 F k) (k_cons (k_call q.list (F.free 1 (x := "list")) (k_cons (k_v 3) .nil)) .nil)))) (.cons (sd_notT (k_vT (k_usr q (c_27 F k) (k_cons (k_v 3) (k_cons (k_v 4) .nil))))) .nil)))) (sd_sone (sd_ret (sd_bl))) (sd_snil)) (sd_scons (k_set q false 5 (k_mk q (c := 10) (mk_3 F k) (F.glo 11 (x := "Table")) (k_cons (k_v 3) .nil))) (sd_scons (sd_ifS (k_orT (.cons (sd_notT (k_vT (k_usr q (c_25 F k) (k_cons (k_v 2) (k_cons (k_v 5) (k_cons (k_v 3) .nil)))))) (.cons (sd_notT (k_vT (k_usr q (c_26 F k) (k_cons (k_v 5) (k_cons (k_v 3) .nil))))) .nil))) (sd_sone (sd_ret (sd_bl))) (sd_snil)) (sd_sone (k_for q (passes_of rfl) (k_range1 (F.free 13 (x := "range")) (sd_int)) (k_gn q 6) (sd_sone (sd_ifS (sd_notT (k_vT (k_usr q (c_24 F k) (k_cons (k_v 2) (k_cons (k_v 3) .nil))))) (sd_sone (sd_ret (sd_bl))) (sd_snil))))))))))) (sd_sone (sd_ret (k_usr0 q (c_28 F k))))
end
end Lw_k03
/-! Printed by tr.py: the head of law_k03_tables_made. -/
namespace Lw_k03
open PySem L2 PyProof.Rows LamX He Ev
def loose0 : List Str := ["PairError", "BadWeb", "BadTable", "BadStanding", "BadDeed", "BadPromise", "BadName", "BadText", "TooGreat", "Missing", "is_list", "CASES"]
def loose1 : List Str := ["NEW", "CHANGED", "GONE", "TWO_NEW", "TWO_CHANGED", "TORN", "SPREAD", "BACK", "LEAVE", "LESSER", "GREATER", "CONTENT"]
def loose2 : List Str := ["ONE_SIDED", "BOTH_SIDED", "TORN_APART", "RULES", "is_rule", "is_case", "Table", "_law_begun", "_law_draw", "_law_of", "_law_words", "_law_rules"]
def loose3 : List Str := ["_law_word", "_law_told", "_law_cases", "_law_is_rule", "_law_due", "_law_right", "_law_odd", "_law_bent", "_law_spoilt_right", "_law_cases_right", "_law_refused_right", "_law_two_right"]
def loose4 : List Str := ["_law_hand_right"]
def loose : List Str := loose0 ++ loose1 ++ loose2 ++ loose3 ++ loose4
abbrev R : PySem.W.OpenRow := PySem.W.OpenLaw.row PySem.Challenge.rw_pairsettle_k03_tables_made
def exq : PySem.W.Frag → Bool := fun K => cks.all fun c => c K
abbrev hk : PySem.W.Hook := hookS 6 fa fn ts tf xs gs exq
def ob (s : PySem.W.SharedT) : AlS := obsS 6 fa fn ts tf xs gs exq (HandSHeadRun.getT s)
theorem ob_eq (s : PySem.W.SharedT) : ob s = hk.obs s.abs := obsS_eq (HandSHeadRun.getT_eq s)
theorem runF (w : World) : HandSHeadRun.RunEq R (PySem.W.view R.prog [53]) hk ob 4200 loose (w.withFollow "special-get-raises" false) := by
  intro os
  kernel_rfl
theorem runT (w : World) : HandSHeadRun.RunEq R (PySem.W.view R.prog [53]) hk ob 4200 loose (w.withFollow "special-get-raises" true) := by
  intro os
  kernel_rfl
theorem run (w : World) : HandSHeadRun.RunEq R (PySem.W.view R.prog [53]) hk ob 4200 loose w := PySem.W.byRow2 "special-get-raises" (P := fun w => HandSHeadRun.RunEq R (PySem.W.view R.prog [53]) hk ob 4200 loose w) runF runT w
end Lw_k03
namespace Lw_k03
open PySem L2 Ev
theorem p11 : Pg 11 = some ⟨2, 6, b_11⟩ := rfl
theorem p12 : Pg 12 = some ⟨2, 8, b_12⟩ := rfl
theorem p13 : Pg 13 = some ⟨2, 2, b_13⟩ := rfl
theorem q11 : ∀ g, b_11 g = begunB fuel := fun _ => rfl
theorem q12 : ∀ g, b_12 g = drawB := fun _ => rfl
theorem q13 : ∀ g, b_13 g = ofB 12 g := fun _ => rfl
def csN : List Str := ["new", "changed", "gone", "two new", "two changed", "torn"]
def wds (j : Nat) : List Str := if j < 3 then ["spread", "back", "leave"] else if j < 5 then ["lesser", "greater", "leave"] else ["content", "gone", "leave"]
def ruB (j : Nat) (x : D) : Bool := match x with
  | .str z => (wds j).any fun w => decide (w = z)
  | _ => false
def items : List D := [.non, .int 5, .bl true, .str "", .str "Spread", .str "spread ", .str " leave", .str "new", .str "both", .lst [.str "spread"], .tup [.str "leave"], .dct [] [], .int (10 ^ 30), .str "spread", .str "back", .str "leave", .str "lesser", .str "greater", .str "content", .str "gone"]
theorem of_items {P : D → Prop} (h : items.all (fun _ => true) = true → P .non ∧ P (.int 5) ∧ P (.bl true) ∧ P (.str "") ∧ P (.str "Spread") ∧ P (.str "spread ") ∧ P (.str " leave") ∧ P (.str "new") ∧ P (.str "both") ∧ P (.lst [.str "spread"]) ∧ P (.tup [.str "leave"]) ∧ P (.dct [] []) ∧ P (.int (10 ^ 30)) ∧ P (.str "spread") ∧ P (.str "back") ∧ P (.str "leave") ∧ P (.str "lesser") ∧ P (.str "greater") ∧ P (.str "content") ∧ P (.str "gone")) {x : D} (hx : x ∈ items) : P x := by
  obtain ⟨h1, h2, h3, h4, h5, h6, h7, h8, h9, h10, h11, h12, h13, h14, h15, h16, h17, h18, h19, h20⟩ := h rfl
  simp only [items, List.mem_cons, List.not_mem_nil, or_false] at hx
  rcases hx with h | h | h | h | h | h | h | h | h | h | h | h | h | h | h | h | h | h | h | h <;> (rw [h]; assumption)
/-- is_rule of the package -/
theorem isr1 {k : Nat} {S : Store} {x : D} (hx : x ∈ items) : callN Pg fuel (k + 1) 1 [.str "new", x] S = .ok (.val (.bl (ruB 0 x))) S ∧ callN Pg fuel (k + 1) 1 [.str "changed", x] S = .ok (.val (.bl (ruB 1 x))) S ∧ callN Pg fuel (k + 1) 1 [.str "gone", x] S = .ok (.val (.bl (ruB 2 x))) S ∧
    callN Pg fuel (k + 1) 1 [.str "two new", x] S = .ok (.val (.bl (ruB 3 x))) S ∧ callN Pg fuel (k + 1) 1 [.str "two changed", x] S = .ok (.val (.bl (ruB 4 x))) S ∧ callN Pg fuel (k + 1) 1 [.str "torn", x] S = .ok (.val (.bl (ruB 5 x))) S := by
  refine of_items (P := fun x => callN Pg fuel (k + 1) 1 [.str "new", x] S = .ok (.val (.bl (ruB 0 x))) S ∧ callN Pg fuel (k + 1) 1 [.str "changed", x] S = .ok (.val (.bl (ruB 1 x))) S ∧ callN Pg fuel (k + 1) 1 [.str "gone", x] S = .ok (.val (.bl (ruB 2 x))) S ∧
    callN Pg fuel (k + 1) 1 [.str "two new", x] S = .ok (.val (.bl (ruB 3 x))) S ∧ callN Pg fuel (k + 1) 1 [.str "two changed", x] S = .ok (.val (.bl (ruB 4 x))) S ∧ callN Pg fuel (k + 1) 1 [.str "torn", x] S = .ok (.val (.bl (ruB 5 x))) S) (fun _ => ?_) hx
  refine ⟨?_, ?_, ?_, ?_, ?_, ?_, ?_, ?_, ?_, ?_, ?_, ?_, ?_, ?_, ?_, ?_, ?_, ?_, ?_, ?_⟩ <;> refine ⟨?_, ?_, ?_, ?_, ?_, ?_⟩ <;> kernel_rfl
/-- is_rule of the law -/
theorem isr19 {k : Nat} {S : Store} {x : D} (hx : x ∈ items) : callN Pg fuel (k + 2) 19 [.int 0, x] S = .ok (.val (.bl (ruB 0 x))) S ∧ callN Pg fuel (k + 2) 19 [.int 1, x] S = .ok (.val (.bl (ruB 1 x))) S ∧ callN Pg fuel (k + 2) 19 [.int 2, x] S = .ok (.val (.bl (ruB 2 x))) S ∧
    callN Pg fuel (k + 2) 19 [.int 3, x] S = .ok (.val (.bl (ruB 3 x))) S ∧ callN Pg fuel (k + 2) 19 [.int 4, x] S = .ok (.val (.bl (ruB 4 x))) S ∧ callN Pg fuel (k + 2) 19 [.int 5, x] S = .ok (.val (.bl (ruB 5 x))) S := by
  refine of_items (P := fun x => callN Pg fuel (k + 2) 19 [.int 0, x] S = .ok (.val (.bl (ruB 0 x))) S ∧ callN Pg fuel (k + 2) 19 [.int 1, x] S = .ok (.val (.bl (ruB 1 x))) S ∧ callN Pg fuel (k + 2) 19 [.int 2, x] S = .ok (.val (.bl (ruB 2 x))) S ∧
    callN Pg fuel (k + 2) 19 [.int 3, x] S = .ok (.val (.bl (ruB 3 x))) S ∧ callN Pg fuel (k + 2) 19 [.int 4, x] S = .ok (.val (.bl (ruB 4 x))) S ∧ callN Pg fuel (k + 2) 19 [.int 5, x] S = .ok (.val (.bl (ruB 5 x))) S) (fun _ => ?_) hx
  refine ⟨?_, ?_, ?_, ?_, ?_, ?_, ?_, ?_, ?_, ?_, ?_, ?_, ?_, ?_, ?_, ?_, ?_, ?_, ?_, ?_⟩ <;> refine ⟨?_, ?_, ?_, ?_, ?_, ?_⟩ <;> kernel_rfl
/-- what an item's repr is read from -/
def pyB (n L : Nat) (d : D) : Bool := free d && match rpN [] 12 d with
  | some p => p.showable && decide (p.depth ≤ n) && decide (p.shown.length ≤ L) && PyData.strOk p.shown
  | none => false
end Lw_k03
namespace Lw_k03
open PySem L2 Ev
theorem eqB_int {S : Store} {i j : Int} : eqB S (.int i) (.int j) = some (i == j) := rfl
theorem ri_item {x : D} (hx : x ∈ items) : Ri 2 60 x := by
  have go : ∀ (d : D) (p : PyData), free d = true → (∀ (S : Store) (i : Nat), rpN S (i + 3) d = some p) → (p.showable && decide (p.depth ≤ 2) && decide (p.shown.length ≤ 60) && PyData.strOk p.shown) = true → Ri 2 60 d := fun d p h1 h2 h3 => by
    simp only [Bool.and_eq_true, decide_eq_true_eq] at h3
    refine ⟨h1, p, fun S j hj => ?_, h3.1.1.1, h3.1.1.2, h3.1.2, h3.2⟩
    obtain ⟨i, rfl⟩ : ∃ i, j = i + 2 := ⟨j - 2, by omega⟩
    exact h2 S i
  refine of_items (P := Ri 2 60) (fun _ => ?_) hx
  refine ⟨?_, ?_, ?_, ?_, ?_, ?_, ?_, ?_, ?_, ?_, ?_, ?_, ?_, ?_, ?_, ?_, ?_, ?_, ?_, ?_⟩ <;> exact go _ _ rfl (fun _ _ => rfl) (by decide +kernel)
theorem free_item {x : D} (hx : x ∈ items) : free x = true := (ri_item hx).1
theorem frees_items {xs : List D} (h : ∀ x ∈ xs, x ∈ items) : frees xs = true := by
  induction xs with
  | nil => rfl
  | cons a r ih => exact Bool.and_eq_true_iff.mpr ⟨free_item (h a (List.mem_cons_self ..)), ih fun y hy => h y (List.mem_cons_of_mem _ hy)⟩
/-- a list or a tuple -/
def rowD (t : Bool) (xs : List D) : D := match t with | true => .tup xs | false => .lst xs
theorem free_row {t : Bool} {xs : List D} (h : frees xs = true) : free (rowD t xs) = true := by cases t <;> exact h
theorem frees_one {d : D} (h : free d = true) : frees [d] = true := Bool.and_eq_true_iff.mpr ⟨h, rfl⟩
theorem call0 {k : Nat} {S : Store} {t : Bool} {xs : List D} (h : frees xs = true) : callN Pg fuel (k + 1) 0 [rowD t xs] S = .ok (.val (.bl true)) S := by
  rw [callN_succ (np := 1) (nn := 1) (b := b_0) rfl, runD_free (np := 1) (frees_one (free_row h)) rfl]
  cases t <;> rfl
/-- the first item that is none of its case's rules, 6 if there is none -/
def bad6 (a b c d e f : D) : Nat := if ruB 0 a = false then 0 else if ruB 1 b = false then 1 else if ruB 2 c = false then 2 else if ruB 3 d = false then 3 else if ruB 4 e = false then 4 else if ruB 5 f = false then 5 else 6
def initR (a b c d e f : D) (E : EnvD) : RS := match bad6 a b c d e f with
  | 0 => .ex (.exc 2 (.str "new")) E [.slo 10 []]
  | _ => .bad
theorem init6 {k : Nat} {t : Bool} {a b c d e f : D} (ha : a ∈ items) (hb : b ∈ items) (hc : c ∈ items) (hd : d ∈ items) (he : e ∈ items) (hf : f ∈ items) :
    ∃ E, b_3 ⟨callN Pg fuel (k + 1), fuel⟩ [some (.ref 0), some (rowD t [a, b, c, d, e, f]), none, none] [.slo 10 []] =
      (if bad6 a b c d e f = 6 then .nx E [.slo 10 [some (.tup [a, b, c, d, e, f])]] else .ex (.exc 2 (.str (csN.getD (bad6 a b c d e f) ""))) E [.slo 10 []]) := by
  have hfr : frees [a, b, c, d, e, f] = true := frees_items (by simp [ha, hb, hc, hd, he, hf])
  have c0 : ∀ S, callN Pg fuel (k + 1) 0 [rowD t [a, b, c, d, e, f]] S = .ok (.val (.bl true)) S := fun S => call0 hfr
  have r0 : ∀ S, callN Pg fuel (k + 1) 1 [.str "new", a] S = .ok (.val (.bl (ruB 0 a))) S := fun S => (isr1 ha).1
  have r1 : ∀ S, callN Pg fuel (k + 1) 1 [.str "changed", b] S = .ok (.val (.bl (ruB 1 b))) S := fun S => (isr1 hb).2.1
  have r2 : ∀ S, callN Pg fuel (k + 1) 1 [.str "gone", c] S = .ok (.val (.bl (ruB 2 c))) S := fun S => (isr1 hc).2.2.1
  have r3 : ∀ S, callN Pg fuel (k + 1) 1 [.str "two new", d] S = .ok (.val (.bl (ruB 3 d))) S := fun S => (isr1 hd).2.2.2.1
  have r4 : ∀ S, callN Pg fuel (k + 1) 1 [.str "two changed", e] S = .ok (.val (.bl (ruB 4 e))) S := fun S => (isr1 he).2.2.2.2.1
  have r5 : ∀ S, callN Pg fuel (k + 1) 1 [.str "torn", f] S = .ok (.val (.bl (ruB 5 f))) S := fun S => (isr1 hf).2.2.2.2.2
  have hlen : ∀ S, lenD S [rowD t [a, b, c, d, e, f]] = some (.val (.int 6)) := fun S => by cases t <;> rfl
  have hit : itemsD (rowD t [a, b, c, d, e, f]) = some [a, b, c, d, e, f] := by cases t <;> rfl
  have hic : itemsD (.tup [.str "new", .str "changed", .str "gone", .str "two new", .str "two changed", .str "torn"]) = some [.str "new", .str "changed", .str "gone", .str "two new", .str "two changed", .str "torn"] := rfl
  have htu : ∀ S, tupleD S [rowD t [a, b, c, d, e, f]] = some (.val (.tup [a, b, c, d, e, f])) := fun S => by cases t <;> rfl
  have hl2 : ∀ S, lenD S [.tup [.str "new", .str "changed", .str "gone", .str "two new", .str "two changed", .str "torn"]] = some (.val (.int 6)) := fun S => rfl
  have hn : ∀ S, neD S (.int 6) (.int 6) = some (.val (.bl false)) := fun S => rfl
  cases z0 : ruB 0 a
  · simp only [bad6, z0, Bool.false_eq_true, Bool.true_eq_false, if_true, if_false, reduceIte]
    simp only [z0, b_3, seqS, ifS, orTF, notTF, testF, usrF, argsF, varF, conF, opF, bltF, List.getElem?_cons_zero, List.getElem?_cons_succ, R.bind, R.then, RV.d, List.append_nil, c0, hlen, hl2, hn, Bool.not_true, Bool.not_false, Bool.false_eq_true, if_false, if_true, nilS, forS, zip2F, hic, hit, zip2L, List.zipWith_cons_cons, List.zipWith_nil_left, List.zipWith_nil_right, loopS, forL, bindT, bindTs, List.set_cons_zero, List.set_cons_succ, r0, r1, r2, r3, r4, r5, raiS, sfldS, htu]
    exact ⟨_, rfl⟩
  cases z1 : ruB 1 b
  · simp only [bad6, z0, z1, Bool.false_eq_true, Bool.true_eq_false, if_true, if_false, reduceIte]
    simp only [z0, z1, b_3, seqS, ifS, orTF, notTF, testF, usrF, argsF, varF, conF, opF, bltF, List.getElem?_cons_zero, List.getElem?_cons_succ, R.bind, R.then, RV.d, List.append_nil, c0, hlen, hl2, hn, Bool.not_true, Bool.not_false, Bool.false_eq_true, if_false, if_true, nilS, forS, zip2F, hic, hit, zip2L, List.zipWith_cons_cons, List.zipWith_nil_left, List.zipWith_nil_right, loopS, forL, bindT, bindTs, List.set_cons_zero, List.set_cons_succ, r0, r1, r2, r3, r4, r5, raiS, sfldS, htu]
    exact ⟨_, rfl⟩
  cases z2 : ruB 2 c
  · simp only [bad6, z0, z1, z2, Bool.false_eq_true, Bool.true_eq_false, if_true, if_false, reduceIte]
    simp only [z0, z1, z2, b_3, seqS, ifS, orTF, notTF, testF, usrF, argsF, varF, conF, opF, bltF, List.getElem?_cons_zero, List.getElem?_cons_succ, R.bind, R.then, RV.d, List.append_nil, c0, hlen, hl2, hn, Bool.not_true, Bool.not_false, Bool.false_eq_true, if_false, if_true, nilS, forS, zip2F, hic, hit, zip2L, List.zipWith_cons_cons, List.zipWith_nil_left, List.zipWith_nil_right, loopS, forL, bindT, bindTs, List.set_cons_zero, List.set_cons_succ, r0, r1, r2, r3, r4, r5, raiS, sfldS, htu]
    exact ⟨_, rfl⟩
  cases z3 : ruB 3 d
  · simp only [bad6, z0, z1, z2, z3, Bool.false_eq_true, Bool.true_eq_false, if_true, if_false, reduceIte]
    simp only [z0, z1, z2, z3, b_3, seqS, ifS, orTF, notTF, testF, usrF, argsF, varF, conF, opF, bltF, List.getElem?_cons_zero, List.getElem?_cons_succ, R.bind, R.then, RV.d, List.append_nil, c0, hlen, hl2, hn, Bool.not_true, Bool.not_false, Bool.false_eq_true, if_false, if_true, nilS, forS, zip2F, hic, hit, zip2L, List.zipWith_cons_cons, List.zipWith_nil_left, List.zipWith_nil_right, loopS, forL, bindT, bindTs, List.set_cons_zero, List.set_cons_succ, r0, r1, r2, r3, r4, r5, raiS, sfldS, htu]
    exact ⟨_, rfl⟩
  cases z4 : ruB 4 e
  · simp only [bad6, z0, z1, z2, z3, z4, Bool.false_eq_true, Bool.true_eq_false, if_true, if_false, reduceIte]
    simp only [z0, z1, z2, z3, z4, b_3, seqS, ifS, orTF, notTF, testF, usrF, argsF, varF, conF, opF, bltF, List.getElem?_cons_zero, List.getElem?_cons_succ, R.bind, R.then, RV.d, List.append_nil, c0, hlen, hl2, hn, Bool.not_true, Bool.not_false, Bool.false_eq_true, if_false, if_true, nilS, forS, zip2F, hic, hit, zip2L, List.zipWith_cons_cons, List.zipWith_nil_left, List.zipWith_nil_right, loopS, forL, bindT, bindTs, List.set_cons_zero, List.set_cons_succ, r0, r1, r2, r3, r4, r5, raiS, sfldS, htu]
    exact ⟨_, rfl⟩
  cases z5 : ruB 5 f
  · simp only [bad6, z0, z1, z2, z3, z4, z5, Bool.false_eq_true, Bool.true_eq_false, if_true, if_false, reduceIte]
    simp only [z0, z1, z2, z3, z4, z5, b_3, seqS, ifS, orTF, notTF, testF, usrF, argsF, varF, conF, opF, bltF, List.getElem?_cons_zero, List.getElem?_cons_succ, R.bind, R.then, RV.d, List.append_nil, c0, hlen, hl2, hn, Bool.not_true, Bool.not_false, Bool.false_eq_true, if_false, if_true, nilS, forS, zip2F, hic, hit, zip2L, List.zipWith_cons_cons, List.zipWith_nil_left, List.zipWith_nil_right, loopS, forL, bindT, bindTs, List.set_cons_zero, List.set_cons_succ, r0, r1, r2, r3, r4, r5, raiS, sfldS, htu]
    exact ⟨_, rfl⟩
  simp only [bad6, z0, z1, z2, z3, z4, z5, Bool.false_eq_true, Bool.true_eq_false, if_true, if_false, reduceIte]
  simp only [z0, z1, z2, z3, z4, z5, b_3, seqS, ifS, orTF, notTF, testF, usrF, argsF, varF, conF, opF, bltF, List.getElem?_cons_zero, List.getElem?_cons_succ, R.bind, R.then, RV.d, List.append_nil, c0, hlen, hl2, hn, Bool.not_true, Bool.not_false, Bool.false_eq_true, if_false, if_true, nilS, forS, zip2F, hic, hit, zip2L, List.zipWith_cons_cons, List.zipWith_nil_left, List.zipWith_nil_right, loopS, forL, bindT, bindTs, List.set_cons_zero, List.set_cons_succ, r0, r1, r2, r3, r4, r5, raiS, sfldS, htu]
  exact ⟨_, rfl⟩
end Lw_k03
namespace Lw_k03
open PySem L2 Ev
theorem last_at {S : Store} {o : Ob} : (S ++ [o])[S.length]? = some o := by simp
theorem last_set {S : Store} {o o' : Ob} : (S ++ [o]).set S.length o' = S ++ [o'] := by simp
theorem drop_ok {S : Store} {o : Ob} (h : S.all Ob.free = true) : dropL S.length (S ++ [o]) = some S := by
  unfold dropL
  rw [List.take_left, if_pos ⟨by simp, h⟩]
/-- what Table(..) of a thing does -/
theorem mk_of {k : Nat} {d : D} {S : Store} {E : EnvD} {xs : List D} (hS : S.all Ob.free = true) (hd : free d = true) (hx : frees xs = true) (h : b_3 ⟨callN Pg fuel (k + 1), fuel⟩ [some (.ref 0), some d, none, none] [.slo 10 []] = .nx E [.slo 10 [some (.tup xs)]]) :
    mkR 10 3 ⟨callN Pg fuel (k + 2), fuel⟩ [d] S = .ok (.val (.ins 10 [.tup xs])) S := by
  have e : callN Pg fuel (k + 2) 3 [.ref S.length, d] (S ++ [.slo 10 []]) = .ok (.val .non) (S ++ [.slo 10 [some (.tup xs)]]) := by
    rw [callN_succ (np := 2) (nn := 4) (b := b_3) rfl, runD_ref (np := 2) (args := [d]) (frees_one hd) rfl last_at rfl]
    show endR 1 _ (b_3 ⟨callN Pg fuel (k + 1), fuel⟩ [some (.ref 0), some d, none, none] [.slo 10 []]) = _
    rw [h]
    have hfr : Ob.free (.slo 10 [some (.tup xs)]) = true := by show (free (.tup xs) && true) = true; rw [show free (.tup xs) = true from hx]; rfl
    simp only [endR, List.getElem?_cons_zero, hfr, if_true, last_set]
  have hfi : frees [.tup xs] = true := frees_one hx
  unfold mkR
  simp only [e, last_at, allS, Option.map_some, drop_ok hS, hfi, and_self, if_true]
theorem mk_ex {k : Nat} {d z : D} {S : Store} {E : EnvD} (hS : S.all Ob.free = true) (hd : free d = true) (hz : free z = true) (h : b_3 ⟨callN Pg fuel (k + 1), fuel⟩ [some (.ref 0), some d, none, none] [.slo 10 []] = .ex (.exc 2 z) E [.slo 10 []]) :
    mkR 10 3 ⟨callN Pg fuel (k + 2), fuel⟩ [d] S = .ex (.exc 2 z) S := by
  have hz2 : free (.exc 2 z) = true := hz
  have e : callN Pg fuel (k + 2) 3 [.ref S.length, d] (S ++ [.slo 10 []]) = .ex (.exc 2 z) (S ++ [.slo 10 []]) := by
    rw [callN_succ (np := 2) (nn := 4) (b := b_3) rfl, runD_ref (np := 2) (args := [d]) (frees_one hd) rfl last_at rfl]
    show endR 1 _ (b_3 ⟨callN Pg fuel (k + 1), fuel⟩ [some (.ref 0), some d, none, none] [.slo 10 []]) = _
    rw [h]
    have hfr : Ob.free (.slo 10 []) = true := rfl
    simp only [endR, List.getElem?_cons_zero, hfr, if_true, last_set, resD_free _ _ hz2]
  unfold mkR
  simp only [e, drop_ok hS, hz2, if_true]
theorem mk6 {k : Nat} {t : Bool} {a b c d e f : D} {S : Store} (hS : S.all Ob.free = true) (ha : a ∈ items) (hb : b ∈ items) (hc : c ∈ items) (hd : d ∈ items) (he : e ∈ items) (hf : f ∈ items) :
    mkR 10 3 ⟨callN Pg fuel (k + 2), fuel⟩ [rowD t [a, b, c, d, e, f]] S = if bad6 a b c d e f = 6 then .ok (.val (.ins 10 [.tup [a, b, c, d, e, f]])) S else .ex (.exc 2 (.str (csN.getD (bad6 a b c d e f) ""))) S := by
  have hfr : frees [a, b, c, d, e, f] = true := frees_items (by simp [ha, hb, hc, hd, he, hf])
  obtain ⟨E, h⟩ := init6 (k := k) (t := t) ha hb hc hd he hf
  by_cases h6 : bad6 a b c d e f = 6
  · rw [if_pos h6] at h ⊢
    exact mk_of hS (free_row hfr) hfr h
  · rw [if_neg h6] at h ⊢
    exact mk_ex hS (free_row hfr) rfl h
theorem lenR {S : Store} {t : Bool} {xs : List D} : lenD S [rowD t xs] = some (.val (.int xs.length)) := by cases t <;> rfl
/-- rows of another length -/
theorem mkN {k : Nat} {t : Bool} {xs : List D} {S : Store} (hS : S.all Ob.free = true) (hx : frees xs = true) (hl : xs.length ≠ 6) : mkR 10 3 ⟨callN Pg fuel (k + 2), fuel⟩ [rowD t xs] S = .ex (.exc 2 .non) S := by
  have c0 : ∀ S, callN Pg fuel (k + 1) 0 [rowD t xs] S = .ok (.val (.bl true)) S := fun S => call0 hx
  have hl2 : ∀ S, lenD S [.tup [.str "new", .str "changed", .str "gone", .str "two new", .str "two changed", .str "torn"]] = some (.val (.int 6)) := fun S => rfl
  have hn : ∀ S, neD S (.int xs.length) (.int 6) = some (.val (.bl true)) := fun S => by
    have : ((xs.length : Int) == 6) = false := by
      rw [Bool.eq_false_iff]
      intro z
      exact hl (by have := beq_iff_eq.mp z; omega)
    unfold neD
    rw [eqB_int, this]; rfl
  refine mk_ex (E := [some (.ref 0), some (rowD t xs), none, none]) hS (free_row hx) rfl ?_
  simp only [b_3, seqS, ifS, orTF, notTF, testF, usrF, argsF, varF, conF, opF, bltF, List.getElem?_cons_zero, List.getElem?_cons_succ, R.bind, R.then, RV.d, List.append_nil, c0, lenR, hl2, hn, Bool.not_true, Bool.not_false, Bool.false_eq_true, if_false, if_true, raiS]
/-- other things -/
def odds : List D := [.non, .int 5, .str "leave", .str "abcdef", .dct [] [], .bl true, .dct [.str "new"] [.str "spread"], .int (10 ^ 30)]
theorem of_odds {P : D → Prop} (h : P .non ∧ P (.int 5) ∧ P (.str "leave") ∧ P (.str "abcdef") ∧ P (.dct [] []) ∧ P (.bl true) ∧ P (.dct [.str "new"] [.str "spread"]) ∧ P (.int (10 ^ 30))) {x : D} (hx : x ∈ odds) : P x := by
  obtain ⟨h1, h2, h3, h4, h5, h6, h7, h8⟩ := h
  simp only [odds, List.mem_cons, List.not_mem_nil, or_false] at hx
  rcases hx with h | h | h | h | h | h | h | h <;> (rw [h]; assumption)
theorem mkO {k : Nat} {x : D} {S : Store} (hS : S.all Ob.free = true) (hx : x ∈ odds) : mkR 10 3 ⟨callN Pg fuel (k + 2), fuel⟩ [x] S = .ex (.exc 2 .non) S := by
  refine of_odds (P := fun x => mkR 10 3 ⟨callN Pg fuel (k + 2), fuel⟩ [x] S = .ex (.exc 2 .non) S) ?_ hx
  have go : ∀ x : D, free x = true → b_3 ⟨callN Pg fuel (k + 1), fuel⟩ [some (.ref 0), some x, none, none] [.slo 10 []] = .ex (.exc 2 .non) [some (.ref 0), some x, none, none] [.slo 10 []] → mkR 10 3 ⟨callN Pg fuel (k + 2), fuel⟩ [x] S = .ex (.exc 2 .non) S := fun x h1 h2 => mk_ex hS h1 rfl h2
  refine ⟨?_, ?_, ?_, ?_, ?_, ?_, ?_, ?_⟩ <;> exact go _ rfl (by kernel_rfl)
end Lw_k03
namespace Lw_k03
open PySem L2 Ev
abbrev l9 : List (Nat × Bool) := [(1, true), (2, true), (3, true), (4, true), (5, true), (6, true), (7, true), (8, true), (9, true)]
def retV : RS → Option RV
  | .ret r _ => some r
  | _ => none
theorem ret_of {x : RS} {r : RV} (h : retV x = some r) : ∃ S', x = .ret r S' := by
  cases x with
  | ret a S => cases h; exact ⟨S, rfl⟩
  | _ => cases h
theorem word2 {k : Nat} {S : Store} {d : D} (hd : free d = true) : callN Pg fuel (k + 1) 16 [.exc 2 d] S = .ok (.val (.tup [.str "table", d])) S := by
  have hd2 : free (.exc 2 d) = true := hd
  have ht : free (.tup [.str "table", d]) = true := by show (free (.str "table") && (free d && true)) = true; rw [hd]; rfl
  rw [callN_succ (np := 1) (nn := 5) (b := b_16) rfl, runD_free (np := 1) (frees_one hd2) rfl]
  obtain ⟨S', h⟩ := ret_of (r := .val (.tup [.str "table", d])) (x := b_16 ⟨callN Pg fuel k, fuel⟩ [some (.exc 2 d), none, none, none, none] []) (by kernel_rfl)
  show endR 0 _ (b_16 ⟨callN Pg fuel k, fuel⟩ [some (.exc 2 d), none, none, none, none] []) = _
  rw [h]
  simp only [endR, outR_free ht]
theorem told_ok {g : Cfg} {fL : ME} {env : EnvD} {S S1 : Store} {r : RV} (h : fL env S = .ok r S1) : toldF (exL l9) (t_17 g) fL env S = .ok (.new (.lst [r.d])) S1 := by
  unfold toldF
  rw [h]
  rfl
theorem told_ex {k : Nat} {fL : ME} {env : EnvD} {S S1 : Store} {d : D} (hd : free d = true) (h : fL env S = .ex (.exc 2 d) S1) : toldF (exL l9) (t_17 ⟨callN Pg fuel (k + 1), fuel⟩) fL env S = .ok (.val (.tup [.str "table", d])) S1 := by
  unfold toldF
  rw [h]
  have e : exL l9 2 = some true := rfl
  simp only [e, t_17, retS, ifF, testF, opF, varF, conF, List.getElem?_cons_zero, List.getElem?_cons_succ, R.bind, R.then, RV.d, isND, Ev.isNon, usrF, argsF, List.append_nil, word2 hd, Bool.false_eq_true, if_false, retOf]
theorem filterI {i : Nat} (c : MT) (f : ME) (t : Int → Bool) {env : EnvD} {S : Store} : ∀ ns : List Int, (∀ j ∈ ns, c (env.set i (some (.int j))) S = .ok (t j) S) → (∀ j : Int, f (env.set i (some (.int j))) S = .ok (.val (.int j)) S) → lcL (.nm i) c f (ns.map D.int) env S = .ok ((ns.filter t).map D.int) S
  | [], _, _ => rfl
  | j :: ns, hc, hf => by
    have ih := filterI c f t ns (fun z hz => hc z (List.mem_cons_of_mem _ hz)) hf
    simp only [List.map_cons, lcL, bindT, hc j (List.mem_cons_self ..), hf, R.bind, ih, List.filter_cons, RV.d]
    cases t j <;> rfl
theorem ne_ints {S : Store} {ns : List Int} : neD S (.lst (ns.map D.int)) (.lst []) = some (.val (.bl (!ns.isEmpty))) := by
  unfold neD eqB
  simp only [pyOf, py0, py0s_ints, py0s, Option.map_some, shaped_ints, show SeqAt.shaped (.list []) = true from rfl, Bool.and_self, if_true]
  cases ns <;> rfl
def wrongs (a b c d e f : D) : List Int := ([0, 1, 2, 3, 4, 5] : List Int).filter fun j => !(match j with | 0 => ruB 0 a | 1 => ruB 1 b | 2 => ruB 2 c | 3 => ruB 3 d | 4 => ruB 4 e | _ => ruB 5 f)
theorem wrongs_eq {a b c d e f : D} : (bad6 a b c d e f = 6 ∧ wrongs a b c d e f = []) ∨ (bad6 a b c d e f < 6 ∧ ∃ r, wrongs a b c d e f = (bad6 a b c d e f : Int) :: r) := by
  unfold bad6 wrongs
  simp only [List.filter_cons, List.filter_nil]
  cases ruB 0 a
  · exact .inr ⟨by simp, by simp⟩
  cases ruB 1 b
  · exact .inr ⟨by simp, by simp⟩
  cases ruB 2 c
  · exact .inr ⟨by simp, by simp⟩
  cases ruB 3 d
  · exact .inr ⟨by simp, by simp⟩
  cases ruB 4 e
  · exact .inr ⟨by simp, by simp⟩
  cases ruB 5 f
  · exact .inr ⟨by simp, by simp⟩
  exact .inl ⟨by simp, by simp⟩
theorem call18 {k : Nat} {S : Store} : callN Pg fuel (k + 1) 18 [] S = .ok (.new (.lst [.str "new", .str "changed", .str "gone", .str "two new", .str "two changed", .str "torn"])) S := by kernel_rfl
/-- how a thing is refused -/
def dueD (a b c d e f : D) : D := if bad6 a b c d e f = 6 then .non else .tup [.str "table", .str (csN.getD (bad6 a b c d e f) "")]
theorem isLT {S : Store} {t : Bool} {xs : List D} : isTy2D "list" "tuple" S (rowD t xs) = some true := by cases t <;> rfl
theorem due6 {k : Nat} {t : Bool} {a b c d e f : D} {S : Store} (ha : a ∈ items) (hb : b ∈ items) (hc : c ∈ items) (hd : d ∈ items) (he : e ∈ items) (hf : f ∈ items) : callN Pg fuel (k + 3) 20 [rowD t [a, b, c, d, e, f]] S = .ok (.val (dueD a b c d e f)) S := by
  have hfr : frees [a, b, c, d, e, f] = true := frees_items (by simp [ha, hb, hc, hd, he, hf])
  have r0 : ∀ S, callN Pg fuel (k + 2) 19 [.int 0, a] S = .ok (.val (.bl (ruB 0 a))) S := fun S => (isr19 ha).1
  have r1 : ∀ S, callN Pg fuel (k + 2) 19 [.int 1, b] S = .ok (.val (.bl (ruB 1 b))) S := fun S => (isr19 hb).2.1
  have r2 : ∀ S, callN Pg fuel (k + 2) 19 [.int 2, c] S = .ok (.val (.bl (ruB 2 c))) S := fun S => (isr19 hc).2.2.1
  have r3 : ∀ S, callN Pg fuel (k + 2) 19 [.int 3, d] S = .ok (.val (.bl (ruB 3 d))) S := fun S => (isr19 hd).2.2.2.1
  have r4 : ∀ S, callN Pg fuel (k + 2) 19 [.int 4, e] S = .ok (.val (.bl (ruB 4 e))) S := fun S => (isr19 he).2.2.2.2.1
  have r5 : ∀ S, callN Pg fuel (k + 2) 19 [.int 5, f] S = .ok (.val (.bl (ruB 5 f))) S := fun S => (isr19 hf).2.2.2.2.2
  have i0 : ∀ S, idxD S (rowD t [a, b, c, d, e, f]) (.int 0) = some (.val a) := fun S => by cases t <;> rfl
  have i1 : ∀ S, idxD S (rowD t [a, b, c, d, e, f]) (.int 1) = some (.val b) := fun S => by cases t <;> rfl
  have i2 : ∀ S, idxD S (rowD t [a, b, c, d, e, f]) (.int 2) = some (.val c) := fun S => by cases t <;> rfl
  have i3 : ∀ S, idxD S (rowD t [a, b, c, d, e, f]) (.int 3) = some (.val d) := fun S => by cases t <;> rfl
  have i4 : ∀ S, idxD S (rowD t [a, b, c, d, e, f]) (.int 4) = some (.val e) := fun S => by cases t <;> rfl
  have i5 : ∀ S, idxD S (rowD t [a, b, c, d, e, f]) (.int 5) = some (.val f) := fun S => by cases t <;> rfl
  have hn : ∀ S, neD S (.int 6) (.int 6) = some (.val (.bl false)) := fun S => rfl
  have hl : ∀ S, lenD S [rowD t [a, b, c, d, e, f]] = some (.val (.int 6)) := fun S => by cases t <;> rfl
  have hr : rng1D [.int 6] = some (([0, 1, 2, 3, 4, 5] : List Int).map D.int) := by kernel_rfl
  have hflt := filterI (i := 2) (notTF (testF (usrF 19 ⟨callN Pg fuel (k + 2), fuel⟩ [] (argsF [varF 2, opF idxD (varF 0) (varF 2)])))) (varF 2) (fun j => !(match j with | 0 => ruB 0 a | 1 => ruB 1 b | 2 => ruB 2 c | 3 => ruB 3 d | 4 => ruB 4 e | _ => ruB 5 f)) (env := [some (rowD t [a, b, c, d, e, f]), none, none]) (S := []) [0, 1, 2, 3, 4, 5] (fun j hj => by
    simp only [List.mem_cons, List.not_mem_nil, or_false] at hj
    rcases hj with rfl | rfl | rfl | rfl | rfl | rfl <;> simp only [notTF, testF, usrF, argsF, varF, opF, List.set_cons_zero, List.set_cons_succ, List.getElem?_cons_zero, List.getElem?_cons_succ, R.bind, RV.d, List.append_nil, i0, i1, i2, i3, i4, i5, r0, r1, r2, r3, r4, r5]) (fun j => by simp only [varF, List.set_cons_zero, List.set_cons_succ, List.getElem?_cons_zero, List.getElem?_cons_succ])
  have hlen : ((wrongs a b c d e f).map D.int).length ≤ 16777216 := by
    have : (wrongs a b c d e f).length ≤ 6 := List.length_filter_le _ _
    rw [List.length_map]; omega
  have hset : (setS false 1 (lcF fuel [2] (.nm 2) (rngF rng1D (argsF [conF (.int 6)])) (notTF (testF (usrF 19 ⟨callN Pg fuel (k + 2), fuel⟩ [] (argsF [varF 2, opF idxD (varF 0) (varF 2)])))) (varF 2))) [some (rowD t [a, b, c, d, e, f]), none, none] [] = .nx [some (rowD t [a, b, c, d, e, f]), some (.lst ((wrongs a b c d e f).map D.int)), none] [] := by
    generalize (notTF (testF (usrF 19 ⟨callN Pg fuel (k + 2), fuel⟩ [] (argsF [varF 2, opF idxD (varF 0) (varF 2)])))) = cc at hflt ⊢
    simp only [setS, lcF, rngF, argsF, conF, R.bind, R.then, RV.d, hr, lcSrc, wipeD, List.set_cons_zero, List.set_cons_succ, hflt, noEx]
    rw [show (([0, 1, 2, 3, 4, 5] : List Int).filter fun j => !(match j with | 0 => ruB 0 a | 1 => ruB 1 b | 2 => ruB 2 c | 3 => ruB 3 d | 4 => ruB 4 e | _ => ruB 5 f)) = wrongs a b c d e f from rfl]
    simp only [if_pos hlen, takeV, RV.d, Ob.toD]
  have hend : b_20 ⟨callN Pg fuel (k + 2), fuel⟩ [some (rowD t [a, b, c, d, e, f]), none, none] [] = .ret (.val (dueD a b c d e f)) [] := by
    have hif : (ifS (orTF [notTF (testF (isiF (isTy2D "list" "tuple") (varF 0))), testF (opF neD (bltF lenD (argsF [varF 0])) (conF (.int 6)))]) (retS (tupF (argsF [conF (.str "table"), conF .non]))) (nilS)) [some (rowD t [a, b, c, d, e, f]), none, none] [] = .nx [some (rowD t [a, b, c, d, e, f]), none, none] [] := by
      simp only [ifS, orTF, notTF, testF, isiF, isLT, varF, List.getElem?_cons_zero, R.bind, R.then, RV.d, opF, bltF, argsF, conF, hl, hn, Bool.not_true, Bool.false_eq_true, if_false, nilS]
    unfold b_20
    simp only [seqS, hif, hset]
    have h1 : ∀ S, idxD S (.lst [.str "new", .str "changed", .str "gone", .str "two new", .str "two changed", .str "torn"]) (.int (bad6 a b c d e f : Int)) = if bad6 a b c d e f < 6 then some (.val (.str (csN.getD (bad6 a b c d e f) ""))) else none := fun S => by
      unfold bad6
      cases ruB 0 a
      · rfl
      cases ruB 1 b
      · rfl
      cases ruB 2 c
      · rfl
      cases ruB 3 d
      · rfl
      cases ruB 4 e
      · rfl
      cases ruB 5 f
      · rfl
      rfl
    rcases wrongs_eq (a := a) (b := b) (c := c) (d := d) (e := e) (f := f) with ⟨h6, hw⟩ | ⟨h6, r, hw⟩
    · have hne : ∀ S, neD S (.lst ((wrongs a b c d e f).map D.int)) (.lst []) = some (.val (.bl false)) := fun S => by rw [ne_ints, hw]; rfl
      simp only [retS, ifF, testF, opF, varF, lstF, fitF, argsF, List.getElem?_cons_zero, List.getElem?_cons_succ, R.bind, R.then, RV.d, Ob.toD, List.length_nil, Nat.zero_le, if_true, hne, Bool.false_eq_true, if_false, conF, dueD, h6]
    · have hne : ∀ S, neD S (.lst ((wrongs a b c d e f).map D.int)) (.lst []) = some (.val (.bl true)) := fun S => by rw [ne_ints, hw]; rfl
      have hix : ∀ S, idxD S (.lst ((wrongs a b c d e f).map D.int)) (.int 0) = some (.val (.int (bad6 a b c d e f : Int))) := fun S => by
        rw [hw, List.map_cons]
        show (atI (_ :: _) 0).map RV.val = _
        rw [atI_head]; rfl
      have h7 : ¬ bad6 a b c d e f = 6 := by omega
      simp only [retS, ifF, testF, opF, varF, lstF, tupF, fitF, argsF, usrF, List.getElem?_cons_zero, List.getElem?_cons_succ, R.bind, R.then, RV.d, Ob.toD, List.length_nil, List.length_cons, Nat.zero_le, if_true, hne, conF, dueD, if_neg h7, hix, call18, List.append_nil, h1, if_pos h6, if_pos (show 0 + 1 + 1 ≤ 16777216 by decide)]
  rw [callN_succ (np := 1) (nn := 3) (b := b_20) rfl, runD_free (np := 1) (frees_one (free_row hfr)) rfl]
  show endR 0 _ (b_20 ⟨callN Pg fuel (k + 2), fuel⟩ [some (rowD t [a, b, c, d, e, f]), none, none] []) = _
  have hfd : free (dueD a b c d e f) = true := by unfold dueD; split <;> rfl
  rw [hend]
  simp only [endR, outR_free hfd]
end Lw_k03
namespace Lw_k03
open PySem L2 Ev
theorem mk_told {k : Nat} {d : D} (fL : ME := mkF 10 3 ⟨callN Pg fuel (k + 2), fuel⟩ [] (argsF [varF 0])) {env : EnvD} {S : Store} (h : env[0]? = some (some d)) : mkF 10 3 ⟨callN Pg fuel (k + 2), fuel⟩ [] (argsF [varF 0]) env S = mkR 10 3 ⟨callN Pg fuel (k + 2), fuel⟩ [d] S := by
  simp only [mkF, argsF, varF, h, R.bind, RV.d, List.append_nil]
theorem not_isN {S : Store} {x y : D} : notND S (.tup [x, y]) .non = some (.val (.bl true)) := rfl
theorem isN_tup {S : Store} {x y : D} : isND S (.tup [x, y]) .non = some (.val (.bl false)) := rfl
theorem not_nn {S : Store} : notND S .non .non = some (.val (.bl false)) := rfl
theorem isN_nn {S : Store} : isND S .non .non = some (.val (.bl true)) := rfl
theorem rngTwo : rng1D [.int 2] = some [.int 0, .int 1] := by kernel_rfl
/-- a thing that is refused -/
theorem rightA {k n L : Nat} {d z : D} {S : Store} (hd : Ri n L d) (hn : n ≤ 11) (hL : L ≤ 16777216) (hz : Ri 10 1000 (.tup [.str "table", z])) (hz2 : free z = true) (hm : mkR 10 3 ⟨callN Pg fuel (k + 3), fuel⟩ [d] [] = .ex (.exc 2 z) [])
    (hdue : ∀ S, callN Pg fuel (k + 3) 20 [d] S = .ok (.val (.tup [.str "table", z])) S) : callN Pg fuel (k + 4) 21 [d] S = .ok (.val (.bl true)) S := by
  obtain ⟨s, hs, hr⟩ := hd.repr hn hL
  obtain ⟨u, hu, hru⟩ := hz.repr (by decide) (by decide)
  have ht : ∀ env : EnvD, env[0]? = some (some d) → toldF (exL l9) (t_17 ⟨callN Pg fuel (k + 3), fuel⟩) (mkF 10 3 ⟨callN Pg fuel (k + 3), fuel⟩ [] (argsF [varF 0])) env [] = .ok (.val (.tup [.str "table", z])) [] := fun env he =>
    told_ex (k := k + 2) hz2 (by rw [mk_told (k := k + 1) (d := d) (h := he)]; exact hm)
  have hnu : ∀ S, neD S (.str u) (.str u) = some (.val (.bl false)) := fun S => ne_same hu
  have hes : ∀ S, eqD S (.str s) (.str s) = some (.val (.bl true)) := fun S => eq_same hs
  have hend : b_21 ⟨callN Pg fuel (k + 3), fuel⟩ [some d, none, none, none, none] [] = .ret (.val (.bl true)) [] := by
    unfold b_21
    generalize hg : (toldF (exL [(1, true), (2, true), (3, true), (4, true), (5, true), (6, true), (7, true), (8, true), (9, true)]) (t_17 ⟨callN Pg fuel (k + 3), fuel⟩) (mkF 10 3 ⟨callN Pg fuel (k + 3), fuel⟩ [] (argsF [varF 0]))) = tt at ht ⊢
    have t1 := ht [some d, some (.str s), some (.tup [.str "table", z]), some (.int 0), none] rfl
    have t2 := ht [some d, some (.str s), some (.tup [.str "table", z]), some (.int 1), some (.tup [.str "table", z])] rfl
    simp only [seqS, parS, argsM, bltF, argsF, usrF, varF, List.getElem?_cons_zero, List.getElem?_cons_succ, R.bind, R.then, RV.d, hr, hdue, takeV, List.append_nil, List.set_cons_zero, List.set_cons_succ, forS, rngF, conF, rngTwo, loopS, forL, bindT, setS, t1, t2, ifS, andTF, orTF, testF, notTF, opF, not_isN, isN_tup, hru, hnu, hes, Bool.false_eq_true, if_false, if_true, nilS, retS]
  rw [callN_succ (np := 1) (nn := 5) (b := b_21) rfl, runD_free (np := 1) (frees_one hd.1) rfl]
  show endR 0 _ (b_21 ⟨callN Pg fuel (k + 3), fuel⟩ [some d, none, none, none, none] []) = _
  rw [hend]; rfl
/-- a thing that is told -/
theorem rightB {k n L : Nat} {d : D} {xs : List D} {S : Store} (hd : Ri n L d) (hn : n ≤ 11) (hL : L ≤ 16777216) (hx : Ri n L (.tup xs)) (htup : ∀ S, tupleD S [d] = some (.val (.tup xs))) (hm : mkR 10 3 ⟨callN Pg fuel (k + 3), fuel⟩ [d] [] = .ok (.val (.ins 10 [.tup xs])) [])
    (hdue : ∀ S, callN Pg fuel (k + 3) 20 [d] S = .ok (.val .non) S) : callN Pg fuel (k + 4) 21 [d] S = .ok (.val (.bl true)) S := by
  obtain ⟨s, hs, hr⟩ := hd.repr hn hL
  obtain ⟨u, hu, hru⟩ := hx.repr hn hL
  have ht : ∀ env : EnvD, env[0]? = some (some d) → toldF (exL l9) (t_17 ⟨callN Pg fuel (k + 3), fuel⟩) (mkF 10 3 ⟨callN Pg fuel (k + 3), fuel⟩ [] (argsF [varF 0])) env [] = .ok (.new (.lst [.ins 10 [.tup xs]])) [] := fun env he =>
    told_ok (r := .val (.ins 10 [.tup xs])) (by rw [mk_told (k := k + 1) (d := d) (h := he)]; exact hm)
  have hnu : ∀ S, neD S (.str u) (.str u) = some (.val (.bl false)) := fun S => ne_same hu
  have hes : ∀ S, eqD S (.str s) (.str s) = some (.val (.bl true)) := fun S => eq_same hs
  have i1 : ∀ S, isTyD "list" S (.lst [.ins 10 [.tup xs]]) = some true := fun S => rfl
  have i2 : ∀ S, idxD S (.lst [.ins 10 [.tup xs]]) (.int 0) = some (.val (.ins 10 [.tup xs])) := fun S => rfl
  have i3 : ∀ S, isOwnD [10] 10 S (.ins 10 [.tup xs]) = some true := fun S => rfl
  have i4 : ∀ S, fldD (sxL [(10, 0)]) S (.ins 10 [.tup xs]) = some (.tup xs) := fun S => rfl
  have hend : b_21 ⟨callN Pg fuel (k + 3), fuel⟩ [some d, none, none, none, none] [] = .ret (.val (.bl true)) [] := by
    unfold b_21
    generalize hg : (toldF (exL [(1, true), (2, true), (3, true), (4, true), (5, true), (6, true), (7, true), (8, true), (9, true)]) (t_17 ⟨callN Pg fuel (k + 3), fuel⟩) (mkF 10 3 ⟨callN Pg fuel (k + 3), fuel⟩ [] (argsF [varF 0]))) = tt at ht ⊢
    have t1 := ht [some d, some (.str s), some .non, some (.int 0), none] rfl
    have t2 := ht [some d, some (.str s), some .non, some (.int 1), some (.lst [.ins 10 [.tup xs]])] rfl
    simp only [seqS, parS, argsM, bltF, argsF, usrF, varF, List.getElem?_cons_zero, List.getElem?_cons_succ, R.bind, R.then, RV.d, Ob.toD, hr, hdue, takeV, List.append_nil, List.set_cons_zero, List.set_cons_succ, forS, rngF, conF, rngTwo, loopS, forL, bindT, setS, t1, t2, ifS, andTF, orTF, testF, notTF, opF, not_nn, isN_nn, hru, hnu, hes, Bool.false_eq_true, Bool.not_true, if_false, if_true, nilS, retS, isiF, i1, i2, i3, fldF, i4, htup]
  rw [callN_succ (np := 1) (nn := 5) (b := b_21) rfl, runD_free (np := 1) (frees_one hd.1) rfl]
  show endR 0 _ (b_21 ⟨callN Pg fuel (k + 3), fuel⟩ [some d, none, none, none, none] []) = _
  rw [hend]; rfl
theorem ri_row {t : Bool} {xs : List D} (h : ∀ x ∈ xs, x ∈ items) (hl : xs.length ≤ 100) : Ri 3 10000 (rowD t xs) := by
  have h1 : ∀ x ∈ xs, Ri 2 60 x := fun x hx => ri_item (h x hx)
  have : xs.length * (60 + 2) + 3 ≤ 10000 := by omega
  cases t
  · exact (Ri.lst h1).mono this
  · exact (Ri.tup h1).mono this
theorem ri_str {x : Str} (h : (decide ((reprText x).length ≤ 60) && PyData.strOk (reprText x)) = true) : Ri 2 60 (.str x) := by
  simp only [Bool.and_eq_true, decide_eq_true_eq] at h
  refine ⟨rfl, .str x, fun S j hj => ?_, rfl, Nat.zero_le _, h.1, h.2⟩
  rfl
theorem ri_non : Ri 2 60 .non := ⟨rfl, .none, fun S j hj => rfl, rfl, Nat.zero_le _, by decide +kernel, by decide +kernel⟩
theorem ri_case {i : Nat} : Ri 2 60 (.str (csN.getD i "")) := by
  match i with
  | 0 => exact ri_str (by decide +kernel)
  | 1 => exact ri_str (by decide +kernel)
  | 2 => exact ri_str (by decide +kernel)
  | 3 => exact ri_str (by decide +kernel)
  | 4 => exact ri_str (by decide +kernel)
  | 5 => exact ri_str (by decide +kernel)
  | _ + 6 => exact ri_str (x := "") (by decide +kernel)
theorem ri_table {z : D} (h : Ri 2 60 z) : Ri 10 1000 (.tup [.str "table", z]) := by
  have h1 : Ri 2 60 (.str "table") := ri_str (by decide +kernel)
  have : ∀ x ∈ [.str "table", z], Ri 2 60 x := fun x hx => by
    simp only [List.mem_cons, List.not_mem_nil, or_false] at hx
    rcases hx with rfl | rfl
    · exact h1
    · exact h
  exact ((Ri.tup this).mono (by simp)).deep (by decide)
theorem right6 {k : Nat} {t : Bool} {a b c d e f : D} {S : Store} (ha : a ∈ items) (hb : b ∈ items) (hc : c ∈ items) (hd : d ∈ items) (he : e ∈ items) (hf : f ∈ items) : callN Pg fuel (k + 4) 21 [rowD t [a, b, c, d, e, f]] S = .ok (.val (.bl true)) S := by
  have hall : ∀ x ∈ [a, b, c, d, e, f], x ∈ items := by simp [ha, hb, hc, hd, he, hf]
  have hm := mk6 (k := k + 1) (t := t) (S := []) rfl ha hb hc hd he hf
  have hdue : ∀ S, callN Pg fuel (k + 3) 20 [rowD t [a, b, c, d, e, f]] S = .ok (.val (dueD a b c d e f)) S := fun S => due6 ha hb hc hd he hf
  by_cases h6 : bad6 a b c d e f = 6
  · rw [if_pos h6] at hm
    unfold dueD at hdue
    simp only [if_pos h6] at hdue
    exact rightB (ri_row (t := t) hall (by simp)) (by decide) (by decide) (ri_row (t := true) hall (by simp)) (fun S => by cases t <;> rfl) hm hdue
  · rw [if_neg h6] at hm
    unfold dueD at hdue
    simp only [if_neg h6] at hdue
    exact rightA (ri_row (t := t) hall (by simp)) (by decide) (by decide) (ri_table ri_case) rfl hm hdue
theorem dueN {k : Nat} {t : Bool} {xs : List D} {S : Store} (hx : frees xs = true) (hl : xs.length ≠ 6) : callN Pg fuel (k + 3) 20 [rowD t xs] S = .ok (.val (.tup [.str "table", .non])) S := by
  have hn : ∀ S, neD S (.int xs.length) (.int 6) = some (.val (.bl true)) := fun S => by
    have : ((xs.length : Int) == 6) = false := by
      rw [Bool.eq_false_iff]
      intro z
      exact hl (by have := beq_iff_eq.mp z; omega)
    unfold neD
    rw [eqB_int, this]; rfl
  have hend : b_20 ⟨callN Pg fuel (k + 2), fuel⟩ [some (rowD t xs), none, none] [] = .ret (.val (.tup [.str "table", .non])) [] := by
    simp only [b_20, seqS, ifS, orTF, notTF, testF, isiF, isLT, varF, List.getElem?_cons_zero, R.bind, R.then, RV.d, opF, bltF, argsF, conF, lenR, hn, Bool.not_true, Bool.false_eq_true, if_false, if_true, retS, tupF, fitF, List.length_cons, List.length_nil, if_pos (show 0 + 1 + 1 ≤ 16777216 by decide)]
  rw [callN_succ (np := 1) (nn := 3) (b := b_20) rfl, runD_free (np := 1) (frees_one (free_row hx)) rfl]
  show endR 0 _ (b_20 ⟨callN Pg fuel (k + 2), fuel⟩ [some (rowD t xs), none, none] []) = _
  rw [hend]; rfl
/-- rows of items -/
theorem right_row {k : Nat} {t : Bool} {xs : List D} {S : Store} (h : ∀ x ∈ xs, x ∈ items) (hl : xs.length ≤ 100) : callN Pg fuel (k + 4) 21 [rowD t xs] S = .ok (.val (.bl true)) S := by
  by_cases h6 : xs.length = 6
  · match xs, h6, h with
    | [a, b, c, d, e, f], _, h => exact right6 (h a (by simp)) (h b (by simp)) (h c (by simp)) (h d (by simp)) (h e (by simp)) (h f (by simp))
  · exact rightA (ri_row h hl) (by decide) (by decide) (ri_table ri_non) rfl (mkN (k := k + 1) rfl (frees_items h) h6) (fun S => dueN (frees_items h) h6)
theorem right_odd {k : Nat} {x : D} {S : Store} (hx : x ∈ odds) : callN Pg fuel (k + 4) 21 [x] S = .ok (.val (.bl true)) S := by
  refine of_odds (P := fun x => callN Pg fuel (k + 4) 21 [x] S = .ok (.val (.bl true)) S) ?_ hx
  refine ⟨?_, ?_, ?_, ?_, ?_, ?_, ?_, ?_⟩ <;> kernel_rfl
end Lw_k03
namespace Lw_k03
open PySem L2 Ev
/-- six rules, each one of its case -/
def Good (ys : List D) : Prop := ys.length = 6 ∧ ∀ j, j < 6 → ∃ w ∈ wds j, ys[j]? = some (.str w)
theorem Good.set {ys : List D} {j : Nat} {w : Str} (h : Good ys) (hj : j < 6) (hw : w ∈ wds j) : Good (ys.set j (.str w)) := by
  refine ⟨by rw [List.length_set]; exact h.1, fun i hi => ?_⟩
  by_cases e : j = i
  · subst e
    exact ⟨w, hw, by rw [List.getElem?_set_self (by rw [h.1]; exact hi)]⟩
  · rw [List.getElem?_set_ne e]
    exact h.2 i hi
theorem wds_item {j : Nat} {w : Str} (h : w ∈ wds j) : D.str w ∈ items ∧ PyData.strOk w = true := by
  unfold wds at h
  split at h
  · simp only [List.mem_cons, List.not_mem_nil, or_false] at h
    rcases h with rfl | rfl | rfl <;> exact ⟨by simp [items], by decide +kernel⟩
  · split at h
    · simp only [List.mem_cons, List.not_mem_nil, or_false] at h
      rcases h with rfl | rfl | rfl <;> exact ⟨by simp [items], by decide +kernel⟩
    · simp only [List.mem_cons, List.not_mem_nil, or_false] at h
      rcases h with rfl | rfl | rfl <;> exact ⟨by simp [items], by decide +kernel⟩
theorem call14 {k j : Nat} {S : Store} (hj : j < 6) : callN Pg fuel (k + 1) 14 [.int (j : Int)] S = .ok (.new (.lst ((wds j).map D.str))) S := by
  match j, hj with
  | 0, _ => kernel_rfl
  | 1, _ => kernel_rfl
  | 2, _ => kernel_rfl
  | 3, _ => kernel_rfl
  | 4, _ => kernel_rfl
  | 5, _ => kernel_rfl
theorem wds_len {j : Nat} : (wds j).length = 3 := by
  unfold wds
  split
  · rfl
  · split <;> rfl
theorem frees_strs : ∀ ws : List Str, frees (ws.map D.str) = true
  | [] => rfl
  | _ :: ws => Bool.and_eq_true_iff.mpr ⟨rfl, frees_strs ws⟩
def rA (g : Cfg) : MS := ifS (orTF [testF (opF eqD (varF 1) (conF (.int 0))), testF (opF eqD (usrF 12 g [] (argsF [varF 0, conF (.int 4)])) (conF (.int 0)))]) (subS (varF 2) (varF 3) (usrF 13 g [] (argsF [varF 0, usrF 14 g [] (argsF [varF 3])]))) (nilS)
def rB (g : Cfg) : MS := ifS (andTF [testF (opF eqD (varF 1) (conF (.int 1))), testF (opF eqD (opF idxD (varF 2) (varF 3)) (conF (.str "leave")))]) (subS (varF 2) (varF 3) (opF idxD (usrF 14 g [] (argsF [varF 3])) (usrF 12 g [] (argsF [varF 0, conF (.int 2)])))) (nilS)
theorem sub_put {k j B : Nat} {env : EnvD} {o : Ob} {ys : List D} {w : Int} (he : env = [some (.ref 0), some (.int w), some (.ref 1), some (.int (j : Int))]) (ho : MOk B o) (hB : B < 2000000) (hy : Good ys) (hj : j < 6) :
    ∃ o' ys', MOk (B + 1) o' ∧ Good ys' ∧ subS (varF 2) (varF 3) (usrF 13 ⟨callN Pg fuel (k + 2), fuel⟩ [] (argsF [varF 0, usrF 14 ⟨callN Pg fuel (k + 2), fuel⟩ [] (argsF [varF 3])])) env [o, .lst ys] = .nx env [o', .lst ys'] := by
  subst he
  obtain ⟨x, o', hx, ho', hc⟩ := of_call (P := Pg) (fuel := fuel) (k := k) (i := 13) (j := 12) (r := 0) (S := [o, .lst ys]) p13 q13 p12 q12 rfl ho (by omega) (frees_strs (wds j)) (by have := wds_len (j := j); cases h : wds j with | nil => rw [h] at this; cases this | cons a r => simp) (by rw [List.length_map, wds_len]; decide)
  obtain ⟨z, hz, rfl⟩ := List.mem_map.mp hx
  refine ⟨o', ys.set j (.str z), ho', hy.set hj hz, ?_⟩
  have hix : ixN ys.length (j : Int) = some j := by
    unfold ixN
    rw [if_pos (by omega), if_pos (by rw [hy.1]; omega)]
    simp
  simp only [subS, usrF, argsF, varF, List.getElem?_cons_zero, List.getElem?_cons_succ, R.bind, R.then, RV.d, Ob.toD, List.append_nil, call14 hj, hc, List.set_cons_zero, List.set_cons_succ, subsD, hix, Option.map_some]
theorem rA_ok {k j B : Nat} {env : EnvD} {o : Ob} {ys : List D} {w : Int} (he : env = [some (.ref 0), some (.int w), some (.ref 1), some (.int (j : Int))]) (ho : MOk B o) (hB : B < 1000000) (hy : Good ys) (hj : j < 6) :
    ∃ o' ys', MOk (B + 2) o' ∧ Good ys' ∧ rA ⟨callN Pg fuel (k + 2), fuel⟩ env [o, .lst ys] = .nx env [o', .lst ys'] := by
  have e0 : ∀ S (i : Int), eqD S (.int i) (.int 0) = some (.val (.bl (i == 0))) := fun S i => rfl
  unfold rA
  generalize hsub : subS (varF 2) (varF 3) (usrF 13 ⟨callN Pg fuel (k + 2), fuel⟩ [] (argsF [varF 0, usrF 14 ⟨callN Pg fuel (k + 2), fuel⟩ [] (argsF [varF 3])])) = sb
  have hs : ∀ (B : Nat) (o : Ob), MOk B o → B < 2000000 → ∃ o' ys', MOk (B + 1) o' ∧ Good ys' ∧ sb env [o, .lst ys] = .nx env [o', .lst ys'] := fun B o ho hB => by
    rw [← hsub]; exact sub_put he ho hB hy hj
  by_cases hw : w = 0
  · obtain ⟨o', ys', h1, h2, h3⟩ := hs B o ho (by omega)
    refine ⟨o', ys', h1.mono (by omega), h2, ?_⟩
    subst he
    have : (w == 0) = true := beq_iff_eq.mpr hw
    simp only [ifS, orTF, testF, opF, varF, conF, List.getElem?_cons_zero, List.getElem?_cons_succ, R.bind, R.then, RV.d, e0, this, if_true, h3]
  · have hw' : (w == 0) = false := by rw [Bool.eq_false_iff]; exact fun z => hw (beq_iff_eq.mp z)
    obtain ⟨v, o1, _, _, ho1, hc⟩ := draw_call (P := Pg) (fuel := fuel) (k := k + 1) (r := 0) (S := [o, .lst ys]) (n := 4) p12 q12 rfl ho (by decide) (by decide) (by omega)
    by_cases hv : v = 0
    · obtain ⟨o', ys', h1, h2, h3⟩ := hs (B + 1) o1 ho1 (by omega)
      refine ⟨o', ys', h1, h2, ?_⟩
      subst he
      have : (v == 0) = true := beq_iff_eq.mpr hv
      simp only [ifS, orTF, testF, opF, varF, conF, usrF, argsF, List.getElem?_cons_zero, List.getElem?_cons_succ, R.bind, R.then, RV.d, List.append_nil, e0, hw', hc, List.set_cons_zero, this, if_true, Bool.false_eq_true, if_false, h3]
    · refine ⟨o1, ys, ho1.mono (by omega), hy, ?_⟩
      subst he
      have : (v == 0) = false := by rw [Bool.eq_false_iff]; exact fun z => hv (beq_iff_eq.mp z)
      simp only [ifS, orTF, testF, opF, varF, conF, usrF, argsF, List.getElem?_cons_zero, List.getElem?_cons_succ, R.bind, R.then, RV.d, List.append_nil, e0, hw', hc, List.set_cons_zero, this, Bool.false_eq_true, if_false, nilS]
theorem rB_ok {k j B : Nat} {env : EnvD} {o : Ob} {ys : List D} {w : Int} (he : env = [some (.ref 0), some (.int w), some (.ref 1), some (.int (j : Int))]) (ho : MOk B o) (hB : B < 1000000) (hy : Good ys) (hj : j < 6) :
    ∃ o' ys', MOk (B + 1) o' ∧ Good ys' ∧ rB ⟨callN Pg fuel (k + 2), fuel⟩ env [o, .lst ys] = .nx env [o', .lst ys'] := by
  have e1 : ∀ S (i : Int), eqD S (.int i) (.int 1) = some (.val (.bl (i == 1))) := fun S i => rfl
  subst he
  by_cases hw : w = 1
  · have hw1 : (w == 1) = true := beq_iff_eq.mpr hw
    obtain ⟨z, hz, hat⟩ := hy.2 j hj
    have hix : ixN ys.length (j : Int) = some j := by
      unfold ixN
      rw [if_pos (by omega), if_pos (by rw [hy.1]; omega)]
      simp
    have hat2 : atI ys (j : Int) = some (.str z) := by
      unfold atI
      rw [hix]; exact hat
    have eq : ∀ S, eqD S (.str z) (.str "leave") = some (.val (.bl (z == ("leave" : Str)))) := fun S => by
      unfold eqD
      rw [eqB_str (wds_item hz).2 (by decide +kernel)]; rfl
    by_cases hl : (z == ("leave" : Str)) = true
    · obtain ⟨v, o1, hv0, hv1, ho1, hc⟩ := draw_call (P := Pg) (fuel := fuel) (k := k + 1) (r := 0) (S := [o, .lst ys]) (n := 2) p12 q12 rfl ho (by decide) (by decide) (by omega)
      obtain ⟨x, hx, _, hat3⟩ := atI_in (xs := (wds j).map D.str) hv0 (by rw [List.length_map, wds_len]; omega)
      obtain ⟨y, hy2, rfl⟩ := List.mem_map.mp hx
      refine ⟨o1, ys.set j (.str y), ho1, hy.set hj hy2, ?_⟩
      simp only [rB, ifS, andTF, testF, opF, varF, conF, usrF, argsF, subS, List.getElem?_cons_zero, List.getElem?_cons_succ, R.bind, R.then, RV.d, Ob.toD, List.append_nil, e1, hw1, if_true, idxD, seqOf, hat2, Option.map_some, eq, hl, call14 hj, hc, List.set_cons_zero, List.set_cons_succ, hat3, subsD, hix]
    · have hl2 : (z == ("leave" : Str)) = false := by rw [Bool.eq_false_iff]; exact hl
      refine ⟨o, ys, ho.mono (by omega), hy, ?_⟩
      simp only [rB, ifS, andTF, testF, opF, varF, conF, List.getElem?_cons_zero, List.getElem?_cons_succ, R.bind, R.then, RV.d, e1, hw1, if_true, idxD, seqOf, hat2, Option.map_some, eq, hl2, Bool.false_eq_true, if_false, nilS]
  · have hw1 : (w == 1) = false := by rw [Bool.eq_false_iff]; exact fun z => hw (beq_iff_eq.mp z)
    refine ⟨o, ys, ho.mono (by omega), hy, ?_⟩
    simp only [rB, ifS, andTF, testF, opF, varF, conF, List.getElem?_cons_zero, List.getElem?_cons_succ, R.bind, R.then, RV.d, e1, hw1, Bool.false_eq_true, if_false, nilS]
theorem rng6 : rng1D [.int 6] = some (([0, 1, 2, 3, 4, 5] : List Nat).map fun j : Nat => D.int (j : Int)) := by kernel_rfl
theorem at6 {j : Nat} {d : D} (h : (([0, 1, 2, 3, 4, 5] : List Nat).map fun j : Nat => D.int (j : Int))[j]? = some d) : j < 6 ∧ d = .int (j : Int) := by
  match j, h with
  | 0, h => simp at h; exact ⟨by decide, h.symm⟩
  | 1, h => simp at h; exact ⟨by decide, h.symm⟩
  | 2, h => simp at h; exact ⟨by decide, h.symm⟩
  | 3, h => simp at h; exact ⟨by decide, h.symm⟩
  | 4, h => simp at h; exact ⟨by decide, h.symm⟩
  | 5, h => simp at h; exact ⟨by decide, h.symm⟩
  | n + 6, h => simp at h
theorem rules_body {k B : Nat} {o : Ob} (ho : MOk B o) (hB : B < 100000) : ∃ o' S' ys, MOk (B + 20) o' ∧ Good ys ∧ b_15 ⟨callN Pg fuel (k + 2), fuel⟩ [some (.ref 0), none, none, none] [o] = .ret (.val (.tup ys)) [o', S'] := by
  obtain ⟨w, o1, _, _, ho1, hc⟩ := draw_call (P := Pg) (fuel := fuel) (k := k + 1) (r := 0) (S := [o]) (n := 4) p12 q12 rfl ho (by decide) (by decide) (by omega)
  let y0 : List D := [.str "spread", .str "spread", .str "spread", .str "leave", .str "leave", .str "leave"]
  have g0 : Good y0 := ⟨rfl, fun j hj => by
    match j, hj with
    | 0, _ => exact ⟨_, by simp [wds], rfl⟩
    | 1, _ => exact ⟨_, by simp [wds], rfl⟩
    | 2, _ => exact ⟨_, by simp [wds], rfl⟩
    | 3, _ => exact ⟨_, by simp [wds], rfl⟩
    | 4, _ => exact ⟨_, by simp [wds], rfl⟩
    | 5, _ => exact ⟨_, by simp [wds], rfl⟩⟩
  have hpar : parS 1 2 (argsM [(false, usrF 12 ⟨callN Pg fuel (k + 2), fuel⟩ [] (argsF [varF 0, conF (.int 4)])), (true, lstF (argsF [conF (.str "spread"), conF (.str "spread"), conF (.str "spread"), conF (.str "leave"), conF (.str "leave"), conF (.str "leave")]))]) [some (.ref 0), none, none, none] [o] = .nx [some (.ref 0), some (.int w), some (.ref 1), none] [o1, .lst y0] := by
    simp only [parS, argsM, usrF, argsF, varF, conF, lstF, fitF, List.getElem?_cons_zero, List.getElem?_cons_succ, R.bind, R.then, RV.d, List.append_nil, hc, List.set_cons_zero, List.set_cons_succ, takeV, List.length_cons, List.length_nil, if_pos (show 0 + 1 + 1 + 1 + 1 + 1 + 1 ≤ 16777216 by decide), List.cons_append, List.nil_append, y0]
  obtain ⟨e2, S2, hfor, w2, o2, ys, kk, rfl, rfl, ho2, hy⟩ := forL_ind (t := .nm 3) (body := seqS (rA ⟨callN Pg fuel (k + 2), fuel⟩) (rB ⟨callN Pg fuel (k + 2), fuel⟩)) (fun i env S => ∃ (w : Int) (o : Ob) (ys : List D) (kk : Option D), env = [some (.ref 0), some (.int w), some (.ref 1), kk] ∧ S = [o, .lst ys] ∧ MOk (B + 1 + 3 * i) o ∧ Good ys) (([0, 1, 2, 3, 4, 5] : List Nat).map fun j : Nat => D.int (j : Int)) 0 [some (.ref 0), some (.int w), some (.ref 1), none] [o1, .lst y0] (fun j d env S hd hI => by
    obtain ⟨hj, rfl⟩ := at6 hd
    obtain ⟨w, o, ys, kk, rfl, rfl, ho, hy⟩ := hI
    refine ⟨[some (.ref 0), some (.int w), some (.ref 1), some (.int (j : Int))], rfl, ?_⟩
    obtain ⟨oa, ya, ha1, ha2, ha3⟩ := rA_ok (k := k) (j := j) (w := w) rfl ho (by omega) hy hj
    obtain ⟨ob, yb, hb1, hb2, hb3⟩ := rB_ok (k := k) (j := j) (w := w) rfl ha1 (by omega) ha2 hj
    refine ⟨[some (.ref 0), some (.int w), some (.ref 1), some (.int (j : Int))], [ob, .lst yb], .inl ?_, w, ob, yb, some (.int (j : Int)), rfl, rfl, hb1.mono (by omega), hb2⟩
    simp only [seqS, ha3, hb3]) ⟨w, o1, y0, none, rfl, rfl, ho1.mono (by omega), g0⟩
  refine ⟨o2, .lst ys, ys, ho2.mono (by simp), hy, ?_⟩
  have hF : forS fuel (.nm 3) (rngF rng1D (argsF [conF (.int 6)])) (seqS (rA ⟨callN Pg fuel (k + 2), fuel⟩) (rB ⟨callN Pg fuel (k + 2), fuel⟩)) [some (.ref 0), some (.int w), some (.ref 1), none] [o1, .lst y0] = .nx [some (.ref 0), some (.int w2), some (.ref 1), kk] [o2, .lst ys] := by
    simp only [forS, rngF, argsF, conF, R.bind, R.then, RV.d, rng6, loopS]
    exact hfor
  have hty : tupleD [o2, .lst ys] [.ref 1] = some (.val (.tup ys)) := rfl
  have e : b_15 ⟨callN Pg fuel (k + 2), fuel⟩ = seqS (parS 1 2 (argsM [(false, usrF 12 ⟨callN Pg fuel (k + 2), fuel⟩ [] (argsF [varF 0, conF (.int 4)])), (true, lstF (argsF [conF (.str "spread"), conF (.str "spread"), conF (.str "spread"), conF (.str "leave"), conF (.str "leave"), conF (.str "leave")]))])) (seqS (forS fuel (.nm 3) (rngF rng1D (argsF [conF (.int 6)])) (seqS (rA ⟨callN Pg fuel (k + 2), fuel⟩) (rB ⟨callN Pg fuel (k + 2), fuel⟩))) (retS (bltF tupleD (argsF [varF 2])))) := rfl
  rw [e]
  generalize forS fuel (.nm 3) (rngF rng1D (argsF [conF (.int 6)])) (seqS (rA ⟨callN Pg fuel (k + 2), fuel⟩) (rB ⟨callN Pg fuel (k + 2), fuel⟩)) = FF at hF ⊢
  generalize parS 1 2 (argsM [(false, usrF 12 ⟨callN Pg fuel (k + 2), fuel⟩ [] (argsF [varF 0, conF (.int 4)])), (true, lstF (argsF [conF (.str "spread"), conF (.str "spread"), conF (.str "spread"), conF (.str "leave"), conF (.str "leave"), conF (.str "leave")]))]) = PP at hpar ⊢
  simp only [seqS, hpar, hF, retS, bltF, argsF, varF, List.getElem?_cons_zero, List.getElem?_cons_succ, R.bind, R.then, RV.d, hty]
theorem good_free {ys : List D} (h : Good ys) : frees ys = true := by
  obtain ⟨hl, h⟩ := h
  match ys, hl, h with
  | [a, b, c, d, e, f], _, h =>
    obtain ⟨_, _, h0⟩ := h 0 (by decide)
    obtain ⟨_, _, h1⟩ := h 1 (by decide)
    obtain ⟨_, _, h2⟩ := h 2 (by decide)
    obtain ⟨_, _, h3⟩ := h 3 (by decide)
    obtain ⟨_, _, h4⟩ := h 4 (by decide)
    obtain ⟨_, _, h5⟩ := h 5 (by decide)
    simp at h0 h1 h2 h3 h4 h5
    subst h0 h1 h2 h3 h4 h5
    rfl
theorem rules_call {k B r : Nat} {o : Ob} {S : Store} (hs : S[r]? = some o) (ho : MOk B o) (hB : B < 100000) : ∃ o' ys, MOk (B + 20) o' ∧ Good ys ∧ callN Pg fuel (k + 3) 15 [.ref r] S = .ok (.val (.tup ys)) (S.set r o') := by
  obtain ⟨o', S', ys, h1, h2, h3⟩ := rules_body (k := k) ho hB
  refine ⟨o', ys, h1, h2, ?_⟩
  rw [callN_succ (np := 1) (nn := 4) (b := b_15) rfl, runD_ref (np := 1) (args := []) rfl rfl hs ho.free]
  show endR 1 _ (b_15 ⟨callN Pg fuel (k + 2), fuel⟩ [some (.ref 0), none, none, none] [o]) = _
  rw [h3]
  have hf : free (.tup ys) = true := good_free h2
  simp only [endR, outR_free hf, List.getElem?_cons_zero, h1.free, if_true]
end Lw_k03
namespace Lw_k03
open PySem L2 Ev
theorem frees_all_items : frees items = true := by kernel_rfl
theorem odd_call {k B r : Nat} {o : Ob} {S : Store} (hs : S[r]? = some o) (ho : MOk B o) (hB : B < 1000000) : ∃ x o', x ∈ items ∧ MOk (B + 1) o' ∧ callN Pg fuel (k + 3) 22 [.ref r] S = .ok (.val x) (S.set r o') := by
  obtain ⟨x, o', hx, ho', hc⟩ := of_call (P := Pg) (fuel := fuel) (k := k) (i := 13) (j := 12) (r := 0) (S := [o]) (xs := items) p13 q13 p12 q12 rfl ho (by omega) frees_all_items (by simp [items]) (by simp [items])
  refine ⟨x, o', hx, ho', ?_⟩
  have e1 : (argsF [varF 0, opF addD (varF 1) (lstF (argsF [conF (.str "spread"), conF (.str "back"), conF (.str "leave"), conF (.str "lesser"), conF (.str "greater"), conF (.str "content"), conF (.str "gone")]))]) [some (.ref 0), some (.lst (items.take 13))] [o] = .ok [.ref 0, .lst items] [o] := by kernel_rfl
  have e2 : (setS false 1 (lstF (argsF [conF .non, conF (.int 5), conF (.bl true), conF (.str ""), conF (.str "Spread"), conF (.str "spread "), conF (.str " leave"), conF (.str "new"), conF (.str "both"), lstF (argsF [conF (.str "spread")]), tupF (argsF [conF (.str "leave")]), dnewF, opF powD (conF (.int 10)) (conF (.int 30))]))) [some (.ref 0), none] [o] = .nx [some (.ref 0), some (.lst (items.take 13))] [o] := by kernel_rfl
  have hend : b_22 ⟨callN Pg fuel (k + 2), fuel⟩ [some (.ref 0), none] [o] = .ret (.val x) [o'] := by
    unfold b_22
    simp only [seqS, e2, retS, usrF, e1, R.bind, R.then, List.append_nil, hc, List.set_cons_zero]
  rw [callN_succ (np := 1) (nn := 2) (b := b_22) rfl, runD_ref (np := 1) (args := []) rfl rfl hs ho.free]
  show endR 1 _ (b_22 ⟨callN Pg fuel (k + 2), fuel⟩ [some (.ref 0), none] [o]) = _
  rw [hend]
  simp only [endR, outR_free (free_item hx), List.getElem?_cons_zero, ho'.free, if_true]
/-- what a row may have become -/
def Thing (n : Nat) (x : D) : Prop := (∃ t ys, x = rowD t ys ∧ (∀ y ∈ ys, y ∈ items) ∧ ys.length ≤ n) ∨ x ∈ odds
theorem right_thing {k n : Nat} {x : D} {S : Store} (h : Thing n x) (hn : n ≤ 100) : callN Pg fuel (k + 4) 21 [x] S = .ok (.val (.bl true)) S := by
  rcases h with ⟨t, ys, rfl, h1, h2⟩ | h
  · exact right_row h1 (by omega)
  · exact right_odd h
theorem free_odd {x : D} (h : x ∈ odds) : free x = true := by
  refine of_odds (P := fun x => free x = true) ?_ h
  exact ⟨rfl, rfl, rfl, rfl, rfl, rfl, rfl, rfl⟩
theorem Thing.free {n : Nat} {x : D} (h : Thing n x) : free x = true := by
  rcases h with ⟨t, ys, rfl, h1, h2⟩ | h
  · exact free_row (frees_items h1)
  · exact free_odd h
theorem cut_items {xs : List D} (h : ∀ x ∈ xs, x ∈ items) (lo hi : Option Int) : (∀ x ∈ cutD xs lo hi, x ∈ items) ∧ (cutD xs lo hi).length ≤ xs.length := by
  unfold cutD
  refine ⟨fun x hx => h x (List.mem_of_mem_drop (List.mem_of_mem_take hx)), ?_⟩
  rw [List.length_take, List.length_drop]; omega
theorem add_lst {S : Store} {xs ys : List D} (h : xs.length + ys.length ≤ 16777216) : addD S (.lst xs) (.lst ys) = some (.new (.lst (xs ++ ys))) := by
  simp only [addD, lstOf, if_pos h]
theorem bent_body {k B L : Nat} {o : Ob} {xs : List D} (ho : MOk B o) (hB : B < 100000) (hx : ∀ x ∈ xs, x ∈ items) (hl : xs.length ≤ L) (hL : L ≤ 1000) : ∃ r o', Thing (2 * L + 1) r.d ∧ MOk (B + 3) o' ∧ (∀ n, r ≠ .val (.ref n)) ∧ (∀ ks vs, r ≠ .new (.dct ks vs)) ∧ (∀ c fs, r ≠ .new (.ins c fs)) ∧ (∀ c fs, r ≠ .new (.slo c fs)) ∧
    b_23 ⟨callN Pg fuel (k + 3), fuel⟩ [some (.ref 0), some (.lst xs), none, none] [o] = .ret r [o'] := by
  have hlen : ∀ S, lenD S [.lst xs] = some (.val (.int xs.length)) := fun S => lenR (t := false)
  have hadd : ∀ S (i j : Int), addD S (.int i) (.int j) = some (.val (.int (i + j))) := fun S i j => rfl
  obtain ⟨a, o1, _, _, ho1, hc1⟩ := draw_call (P := Pg) (fuel := fuel) (k := k + 2) (r := 0) (S := [o]) (n := (xs.length : Int) + 1) p12 q12 rfl ho (by omega) (by omega) (by omega)
  obtain ⟨v, o2, hv0, hv1, ho2, hc2⟩ := draw_call (P := Pg) (fuel := fuel) (k := k + 2) (r := 0) (S := [o1]) (n := 8) p12 q12 rfl ho1 (by decide) (by decide) (by omega)
  have hpar : parS 2 3 (argsM [(false, usrF 12 ⟨callN Pg fuel (k + 3), fuel⟩ [] (argsF [varF 0, opF addD (bltF lenD (argsF [varF 1])) (conF (.int 1))])), (false, usrF 12 ⟨callN Pg fuel (k + 3), fuel⟩ [] (argsF [varF 0, conF (.int 8)]))]) [some (.ref 0), some (.lst xs), none, none] [o] = .nx [some (.ref 0), some (.lst xs), some (.int a), some (.int v)] [o2] := by
    simp only [parS, argsM, usrF, argsF, varF, conF, opF, bltF, List.getElem?_cons_zero, List.getElem?_cons_succ, R.bind, R.then, RV.d, hlen, hadd, List.append_nil, hc1, hc2, List.set_cons_zero, List.set_cons_succ, takeV]
  have hsl : ∀ S lo hi, sliD S (.lst xs) lo hi = some (.new (.lst (cutD xs lo hi))) := fun S lo hi => rfl
  have hlt : ∀ S, ltD S (.int v) (.int 4) = some (.val (.bl (decide (v < 4)))) := fun S => rfl
  have heq : ∀ S (i j : Int), eqD S (.int i) (.int j) = some (.val (.bl (i == j))) := fun S i j => rfl
  have L1 : ∀ lo hi, (cutD xs lo hi).length ≤ L := fun lo hi => Nat.le_trans (cut_items hx lo hi).2 hl
  have I1 : ∀ lo hi, ∀ x ∈ cutD xs lo hi, x ∈ items := fun lo hi => (cut_items hx lo hi).1
  unfold b_23
  generalize hP : parS 2 3 (argsM [(false, usrF 12 ⟨callN Pg fuel (k + 3), fuel⟩ [] (argsF [varF 0, opF addD (bltF lenD (argsF [varF 1])) (conF (.int 1))])), (false, usrF 12 ⟨callN Pg fuel (k + 3), fuel⟩ [] (argsF [varF 0, conF (.int 8)]))]) = PP at hpar ⊢
  have row : ∀ {ys : List D}, (∀ y ∈ ys, y ∈ items) → ys.length ≤ 2 * L + 1 → Thing (2 * L + 1) (RV.new (.lst ys)).d := fun {ys} h1 h2 => .inl ⟨false, ys, rfl, h1, h2⟩
  have rest : ∀ ys : List D, (∀ n, RV.new (.lst ys) ≠ .val (.ref n)) ∧ (∀ ks vs, RV.new (.lst ys) ≠ .new (.dct ks vs)) ∧ (∀ c fs, RV.new (.lst ys) ≠ .new (.ins c fs)) ∧ (∀ c fs, RV.new (.lst ys) ≠ .new (.slo c fs)) := fun ys => ⟨fun _ => nofun, fun _ _ => nofun, fun _ _ => nofun, fun _ _ => nofun⟩
  by_cases h4 : v < 4
  · obtain ⟨x, o3, hxi, ho3, hc3⟩ := odd_call (k := k) (r := 0) (S := [o2]) rfl ho2 (by omega)
    have a1 : ∀ S, addD S (.lst (cutD xs none (some a))) (.lst [x]) = some (.new (.lst (cutD xs none (some a) ++ [x]))) := fun S => add_lst (by have := L1 none (some a); rw [List.length_singleton]; omega)
    have a2 : ∀ S, addD S (.lst (cutD xs none (some a) ++ [x])) (.lst (cutD xs (some (a + 1)) none)) = some (.new (.lst (cutD xs none (some a) ++ [x] ++ cutD xs (some (a + 1)) none))) := fun S => add_lst (by have := L1 none (some a); have := L1 (some (a + 1)) none; rw [List.length_append, List.length_singleton]; omega)
    refine ⟨.new (.lst (cutD xs none (some a) ++ [x] ++ cutD xs (some (a + 1)) none)), o3, row (fun y hy => ?_) ?_, ho3, (rest _).1, (rest _).2.1, (rest _).2.2.1, (rest _).2.2.2, ?_⟩
    · rcases List.mem_append.mp hy with hy | hy
      · rcases List.mem_append.mp hy with hy | hy
        · exact I1 _ _ y hy
        · rw [List.mem_singleton.mp hy]; exact hxi
      · exact I1 _ _ y hy
    · have := L1 none (some a); have := L1 (some (a + 1)) none
      rw [List.length_append, List.length_append, List.length_singleton]; omega
    · simp only [seqS, hpar, ifS, testF, opF, varF, conF, List.getElem?_cons_zero, List.getElem?_cons_succ, R.bind, R.then, RV.d, Ob.toD, hlt, decide_eq_true h4, if_true, retS, sliF, partF, hsl, lstF, fitF, argsF, usrF, List.append_nil, hc3, List.set_cons_zero, List.length_cons, List.length_nil, if_pos (show 0 + 1 ≤ 16777216 by decide), a1, hadd, a2]
  by_cases h5 : v = 4
  · subst h5
    have a2 : ∀ S, addD S (.lst (cutD xs none (some a))) (.lst (cutD xs (some (a + 1)) none)) = some (.new (.lst (cutD xs none (some a) ++ cutD xs (some (a + 1)) none))) := fun S => add_lst (by have := L1 none (some a); have := L1 (some (a + 1)) none; omega)
    refine ⟨.new (.lst (cutD xs none (some a) ++ cutD xs (some (a + 1)) none)), o2, row (fun y hy => ?_) ?_, ho2.mono (by omega), (rest _).1, (rest _).2.1, (rest _).2.2.1, (rest _).2.2.2, ?_⟩
    · rcases List.mem_append.mp hy with hy | hy
      · exact I1 _ _ y hy
      · exact I1 _ _ y hy
    · have := L1 none (some a); have := L1 (some (a + 1)) none
      rw [List.length_append]; omega
    · simp only [seqS, hpar, ifS, testF, opF, varF, conF, List.getElem?_cons_zero, List.getElem?_cons_succ, R.bind, R.then, RV.d, Ob.toD, hlt, heq, show decide ((4 : Int) < 4) = false from rfl, show ((4 : Int) == 4) = true from rfl, Bool.false_eq_true, if_false, if_true, nilS, retS, sliF, partF, hsl, hadd, a2]
  have g4 : (decide (v < 4)) = false := decide_eq_false h4
  have g5 : (v == 4) = false := by rw [Bool.eq_false_iff]; exact fun z => h5 (beq_iff_eq.mp z)
  by_cases h6 : v = 5
  · subst h6
    obtain ⟨x, o3, hxi, ho3, hc3⟩ := odd_call (k := k) (r := 0) (S := [o2]) rfl ho2 (by omega)
    have a1 : ∀ S, addD S (.lst (cutD xs none (some a))) (.lst [x]) = some (.new (.lst (cutD xs none (some a) ++ [x]))) := fun S => add_lst (by have := L1 none (some a); rw [List.length_singleton]; omega)
    have a2 : ∀ S, addD S (.lst (cutD xs none (some a) ++ [x])) (.lst (cutD xs (some a) none)) = some (.new (.lst (cutD xs none (some a) ++ [x] ++ cutD xs (some a) none))) := fun S => add_lst (by have := L1 none (some a); have := L1 (some a) none; rw [List.length_append, List.length_singleton]; omega)
    refine ⟨.new (.lst (cutD xs none (some a) ++ [x] ++ cutD xs (some a) none)), o3, row (fun y hy => ?_) ?_, ho3, (rest _).1, (rest _).2.1, (rest _).2.2.1, (rest _).2.2.2, ?_⟩
    · rcases List.mem_append.mp hy with hy | hy
      · rcases List.mem_append.mp hy with hy | hy
        · exact I1 _ _ y hy
        · rw [List.mem_singleton.mp hy]; exact hxi
      · exact I1 _ _ y hy
    · have := L1 none (some a); have := L1 (some a) none
      rw [List.length_append, List.length_append, List.length_singleton]; omega
    · simp only [seqS, hpar, ifS, testF, opF, varF, conF, List.getElem?_cons_zero, List.getElem?_cons_succ, R.bind, R.then, RV.d, Ob.toD, hlt, heq, show decide ((5 : Int) < 4) = false from rfl, show ((5 : Int) == 4) = false from rfl, show ((5 : Int) == 5) = true from rfl, Bool.false_eq_true, if_false, if_true, nilS, retS, sliF, partF, hsl, lstF, fitF, argsF, usrF, List.append_nil, hc3, List.set_cons_zero, List.length_cons, List.length_nil, if_pos (show 0 + 1 ≤ 16777216 by decide), a1, a2]
  have g6 : (v == 5) = false := by rw [Bool.eq_false_iff]; exact fun z => h6 (beq_iff_eq.mp z)
  by_cases h7 : v = 6
  · subst h7
    have a2 : ∀ S, addD S (.lst (cutD xs (some a) none)) (.lst (cutD xs none (some a))) = some (.new (.lst (cutD xs (some a) none ++ cutD xs none (some a)))) := fun S => add_lst (by have := L1 none (some a); have := L1 (some a) none; omega)
    refine ⟨.new (.lst (cutD xs (some a) none ++ cutD xs none (some a))), o2, row (fun y hy => ?_) ?_, ho2.mono (by omega), (rest _).1, (rest _).2.1, (rest _).2.2.1, (rest _).2.2.2, ?_⟩
    · rcases List.mem_append.mp hy with hy | hy
      · exact I1 _ _ y hy
      · exact I1 _ _ y hy
    · have := L1 none (some a); have := L1 (some a) none
      rw [List.length_append]; omega
    · simp only [seqS, hpar, ifS, testF, opF, varF, conF, List.getElem?_cons_zero, List.getElem?_cons_succ, R.bind, R.then, RV.d, Ob.toD, hlt, heq, show decide ((6 : Int) < 4) = false from rfl, show ((6 : Int) == 4) = false from rfl, show ((6 : Int) == 5) = false from rfl, show ((6 : Int) == 6) = true from rfl, Bool.false_eq_true, if_false, if_true, nilS, retS, sliF, partF, hsl, a2]
  have g7 : (v == 6) = false := by rw [Bool.eq_false_iff]; exact fun z => h7 (beq_iff_eq.mp z)
  have hfx : frees xs.reverse = true := frees_items (fun y hy => hx y (List.mem_reverse.mp hy))
  let zs : List D := [.non, .int 5, .str "leave", .str "abcdef", .dct [] [], .bl true, .tup [], .lst [], .dct [.str "new"] [.str "spread"], .int (10 ^ 30), .lst xs.reverse]
  have hfz : frees zs = true := by
    show (frees xs.reverse && true) = true
    rw [hfx]; rfl
  obtain ⟨x, o3, hxz, ho3, hc3⟩ := of_call (P := Pg) (fuel := fuel) (k := k + 1) (i := 13) (j := 12) (r := 0) (S := [o2]) (xs := zs) p13 q13 p12 q12 rfl ho2 (by omega) hfz (by simp [zs]) (by simp [zs])
  have hth : Thing (2 * L + 1) x := by
    simp only [zs, List.mem_cons, List.not_mem_nil, or_false] at hxz
    rcases hxz with rfl | rfl | rfl | rfl | rfl | rfl | rfl | rfl | rfl | rfl | rfl
    · exact .inr (by simp [odds])
    · exact .inr (by simp [odds])
    · exact .inr (by simp [odds])
    · exact .inr (by simp [odds])
    · exact .inr (by simp [odds])
    · exact .inr (by simp [odds])
    · exact .inl ⟨true, [], rfl, fun y hy => absurd hy (by simp), by simp⟩
    · exact .inl ⟨false, [], rfl, fun y hy => absurd hy (by simp), by simp⟩
    · exact .inr (by simp [odds])
    · exact .inr (by simp [odds])
    · exact .inl ⟨false, xs.reverse, rfl, fun y hy => hx y (List.mem_reverse.mp hy), by rw [List.length_reverse]; omega⟩
  refine ⟨.val x, o3, hth, ho3.mono (by omega), fun n e => ?_, fun _ _ => nofun, fun _ _ => nofun, fun _ _ => nofun, ?_⟩
  · have := hth.free
    cases e
    cases this
  · have hargs : (argsF [varF 0, lstF (argsF [conF .non, conF (.int 5), conF (.str "leave"), conF (.str "abcdef"), dnewF, conF (.bl true), tupF (argsF []), lstF (argsF []), dspF [(conF (.str "new"), conF (.str "spread"))], opF powD (conF (.int 10)) (conF (.int 30)), revF (varF 1)])]) [some (.ref 0), some (.lst xs), some (.int a), some (.int v)] [o2] = .ok [.ref 0, .lst zs] [o2] := by kernel_rfl
    generalize hA : (argsF [varF 0, lstF (argsF [conF .non, conF (.int 5), conF (.str "leave"), conF (.str "abcdef"), dnewF, conF (.bl true), tupF (argsF []), lstF (argsF []), dspF [(conF (.str "new"), conF (.str "spread"))], opF powD (conF (.int 10)) (conF (.int 30)), revF (varF 1)])]) = AA at hargs ⊢
    simp only [seqS, hpar, ifS, testF, opF, varF, conF, List.getElem?_cons_zero, List.getElem?_cons_succ, R.bind, R.then, RV.d, Ob.toD, hlt, heq, g4, g5, g6, g7, Bool.false_eq_true, if_false, nilS, retS, usrF, hargs, List.append_nil, hc3, List.set_cons_zero]
end Lw_k03
namespace Lw_k03
open PySem L2 Ev
theorem dv {d : D} : (RV.val d).d = d := rfl
theorem dn {o : Ob} : (RV.new o).d = o.toD := rfl
theorem takeV_f {r : RV} {S : Store} : takeV false r S = (r.d, S) := by cases r <;> rfl
theorem bent_call {k B L q : Nat} {o : Ob} {xs : List D} {S : Store} (hs : S[q]? = some o) (ho : MOk B o) (hB : B < 100000) (hx : ∀ x ∈ xs, x ∈ items) (hl : xs.length ≤ L) (hL : L ≤ 1000) :
    ∃ r o', Thing (2 * L + 1) r.d ∧ MOk (B + 3) o' ∧ callN Pg fuel (k + 4) 23 [.ref q, .lst xs] S = .ok r (S.set q o') := by
  obtain ⟨r, o', h1, h2, h3, h4, h5, h6, h7⟩ := bent_body (k := k) ho hB hx hl hL
  refine ⟨r, o', h1, h2, ?_⟩
  have hf := h1.free
  have hout : outR [o'] 1 r = some r := by
    cases r with
    | val d => exact outR_free hf
    | new ob =>
      cases ob with
      | lst ys => exact outR_lst hf
      | dct ks vs => exact absurd rfl (h4 ks vs)
      | ins c fs => exact absurd rfl (h5 c fs)
      | slo c fs => exact absurd rfl (h6 c fs)
  rw [callN_succ (np := 2) (nn := 4) (b := b_23) rfl, runD_ref (np := 2) (args := [.lst xs]) (frees_one (frees_items hx)) rfl hs ho.free]
  show endR 1 _ (b_23 ⟨callN Pg fuel (k + 3), fuel⟩ [some (.ref 0), some (.lst xs), none, none] [o]) = _
  rw [h7]
  simp only [endR, hout, List.getElem?_cons_zero, h2.free, if_true]
def spF (g : Cfg) : ME := ifF (testF (isiF (isTyD "list") (varF 2))) (usrF 23 g [] (argsF [varF 0, varF 2])) (varF 2)
theorem ty_row {S : Store} {t : Bool} {xs : List D} : isTyD "list" S (rowD t xs) = some (!t) := by cases t <;> rfl
theorem ty_odd {S : Store} {x : D} (h : x ∈ odds) : isTyD "list" S x = some false := by
  refine of_odds (P := fun x => isTyD "list" S x = some false) ?_ h
  exact ⟨rfl, rfl, rfl, rfl, rfl, rfl, rfl, rfl⟩
theorem sp_step {k B n : Nat} {o : Ob} {x : D} {env : EnvD} (he0 : env[0]? = some (some (.ref 0))) (he2 : env[2]? = some (some x)) (ho : MOk B o) (hB : B < 100000) (hx : Thing n x) (hn : n ≤ 1000) :
    ∃ r o', Thing (2 * n + 1) r.d ∧ MOk (B + 3) o' ∧ spF ⟨callN Pg fuel (k + 4), fuel⟩ env [o] = .ok r [o'] := by
  rcases hx with ⟨t, ys, rfl, h1, h2⟩ | hx
  · cases t with
    | false =>
      obtain ⟨r, o', r1, r2, r3⟩ := bent_call (k := k) (q := 0) (S := [o]) rfl ho hB h1 h2 hn
      refine ⟨r, o', r1, r2, ?_⟩
      have he2' : env[2]? = some (some (.lst ys)) := he2
      have ht : isTyD "list" [o] (.lst ys) = some true := rfl
      simp only [spF, ifF, testF, isiF, varF, he0, he2', R.bind, RV.d, ht, if_true, usrF, argsF, List.append_nil, r3, List.set_cons_zero]
    | true =>
      refine ⟨.val (.tup ys), o, .inl ⟨true, ys, rfl, h1, by omega⟩, ho.mono (by omega), ?_⟩
      have he2' : env[2]? = some (some (.tup ys)) := he2
      have ht : isTyD "list" [o] (.tup ys) = some false := rfl
      simp only [spF, ifF, testF, isiF, varF, he2', R.bind, RV.d, ht, Bool.false_eq_true, if_false]
  · refine ⟨.val x, o, .inr hx, ho.mono (by omega), ?_⟩
    simp only [spF, ifF, testF, isiF, varF, he2, R.bind, RV.d, ty_odd hx, Bool.false_eq_true, if_false]
theorem good_items {ys : List D} (h : Good ys) : ∀ y ∈ ys, y ∈ items := by
  intro y hy
  obtain ⟨j, hj, e⟩ := List.getElem_of_mem hy
  obtain ⟨w, hw, h2⟩ := h.2 j (by rw [← h.1]; exact hj)
  rw [List.getElem?_eq_getElem hj, e] at h2
  cases h2
  exact (wds_item hw).1
theorem spoilt_call {k B q : Nat} {o : Ob} {ys : List D} {S : Store} (hs : S[q]? = some o) (ho : MOk B o) (hB : B < 90000) (hg : Good ys) :
    ∃ o', MOk (B + 8) o' ∧ callN Pg fuel (k + 5) 24 [.ref q, .tup ys] S = .ok (.val (.bl true)) (S.set q o') := by
  have hth0 : Thing 6 (.lst ys) := .inl ⟨false, ys, rfl, good_items hg, by rw [hg.1]; decide⟩
  obtain ⟨v, o1, hv0, hv1, ho1, hc1⟩ := draw_call (P := Pg) (fuel := fuel) (k := k + 3) (r := 0) (S := [o]) (n := 2) p12 q12 rfl ho (by decide) (by decide) (by omega)
  -- the rows bent
  have hloop : ∃ x o2 kk, Thing 27 x ∧ MOk (B + 7) o2 ∧ (forS fuel (.nm 3) (rngF rng1D (argsF [opF addD (conF (.int 1)) (usrF 12 ⟨callN Pg fuel (k + 4), fuel⟩ [] (argsF [varF 0, conF (.int 2)]))])) (setS false 2 (spF ⟨callN Pg fuel (k + 4), fuel⟩))) [some (.ref 0), some (.tup ys), some (.lst ys), none] [o] = .nx [some (.ref 0), some (.tup ys), some x, kk] [o2] := by
    obtain ⟨r1, o2, t1, ho2, s1⟩ := sp_step (k := k) (n := 6) (env := [some (.ref 0), some (.tup ys), some (.lst ys), some (.int 0)]) rfl rfl ho1 (by omega) hth0 (by decide)
    have hadd : ∀ S (i j : Int), addD S (.int i) (.int j) = some (.val (.int (i + j))) := fun S i j => rfl
    generalize hsp : spF ⟨callN Pg fuel (k + 4), fuel⟩ = sp at s1 ⊢
    by_cases hv : v = 0
    · subst hv
      refine ⟨r1.d, o2, some (.int 0), ?_, ho2.mono (by omega), ?_⟩
      · rcases t1 with ⟨t, zs, e, h1, h2⟩ | h
        · exact .inl ⟨t, zs, e, h1, by omega⟩
        · exact .inr h
      · have hr : rng1D [.int (1 + 0)] = some [.int 0] := by kernel_rfl
        simp only [forS, rngF, argsF, opF, conF, usrF, varF, List.getElem?_cons_zero, List.getElem?_cons_succ, R.bind, R.then, dv, List.append_nil, hc1, List.set_cons_zero, List.set_cons_succ, hadd, hr, loopS, forL, bindT, setS, s1, takeV_f]
    · have hv' : v = 1 := by omega
      subst hv'
      obtain ⟨r2, o3, t2, ho3, s2⟩ := sp_step (k := k) (n := 13) (env := [some (.ref 0), some (.tup ys), some r1.d, some (.int 1)]) rfl rfl ho2 (by omega) t1 (by decide)
      rw [hsp] at s2
      refine ⟨r2.d, o3, some (.int 1), t2, ho3.mono (by omega), ?_⟩
      have hr : rng1D [.int (1 + 1)] = some [.int 0, .int 1] := by kernel_rfl
      simp only [forS, rngF, argsF, opF, conF, usrF, varF, List.getElem?_cons_zero, List.getElem?_cons_succ, R.bind, R.then, dv, List.append_nil, hc1, List.set_cons_zero, List.set_cons_succ, hadd, hr, loopS, forL, bindT, setS, s1, takeV_f, s2]
  obtain ⟨x, o2, kk, hx, ho2, hfor⟩ := hloop
  have heq : ∀ S (i j : Int), eqD S (.int i) (.int j) = some (.val (.bl (i == j))) := fun S i j => rfl
  -- as a tuple, or not
  have hif : ∃ y o3, Thing 27 y ∧ MOk (B + 8) o3 ∧ (ifS (andTF [testF (isiF (isTyD "list") (varF 2)), testF (opF eqD (usrF 12 ⟨callN Pg fuel (k + 4), fuel⟩ [] (argsF [varF 0, conF (.int 2)])) (conF (.int 0)))]) (setS false 2 (bltF tupleD (argsF [varF 2]))) (nilS)) [some (.ref 0), some (.tup ys), some x, kk] [o2] = .nx [some (.ref 0), some (.tup ys), some y, kk] [o3] := by
    have stay : ∀ {b : Bool}, isTyD "list" [o2] x = some b → b = false → ∃ y o3, Thing 27 y ∧ MOk (B + 8) o3 ∧ (ifS (andTF [testF (isiF (isTyD "list") (varF 2)), testF (opF eqD (usrF 12 ⟨callN Pg fuel (k + 4), fuel⟩ [] (argsF [varF 0, conF (.int 2)])) (conF (.int 0)))]) (setS false 2 (bltF tupleD (argsF [varF 2]))) (nilS)) [some (.ref 0), some (.tup ys), some x, kk] [o2] = .nx [some (.ref 0), some (.tup ys), some y, kk] [o3] := fun {b} h1 h2 => by
      subst h2
      refine ⟨x, o2, hx, ho2.mono (by omega), ?_⟩
      simp only [ifS, andTF, testF, isiF, varF, List.getElem?_cons_zero, List.getElem?_cons_succ, R.bind, R.then, RV.d, h1, Bool.false_eq_true, if_false, nilS]
    rcases hx with ⟨t, zs, rfl, h1, h2⟩ | hx
    · cases t with
      | true => exact stay ty_row rfl
      | false =>
        obtain ⟨u, o3, _, _, ho3, hc3⟩ := draw_call (P := Pg) (fuel := fuel) (k := k + 3) (r := 0) (S := [o2]) (n := 2) p12 q12 rfl ho2 (by decide) (by decide) (by omega)
        have ht : ∀ S, isTyD "list" S (.lst zs) = some true := fun S => rfl
        have htu : ∀ S, tupleD S [.lst zs] = some (.val (.tup zs)) := fun S => rfl
        show ∃ y o3, Thing 27 y ∧ MOk (B + 8) o3 ∧ (ifS (andTF [testF (isiF (isTyD "list") (varF 2)), testF (opF eqD (usrF 12 ⟨callN Pg fuel (k + 4), fuel⟩ [] (argsF [varF 0, conF (.int 2)])) (conF (.int 0)))]) (setS false 2 (bltF tupleD (argsF [varF 2]))) (nilS)) [some (.ref 0), some (.tup ys), some (.lst zs), kk] [o2] = .nx [some (.ref 0), some (.tup ys), some y, kk] [o3]
        cases hu : (u == 0) with
        | true =>
          refine ⟨.tup zs, o3, .inl ⟨true, zs, rfl, h1, h2⟩, ho3, ?_⟩
          simp only [ifS, andTF, testF, isiF, varF, opF, usrF, argsF, conF, List.getElem?_cons_zero, List.getElem?_cons_succ, R.bind, R.then, RV.d, ht, if_true, List.append_nil, hc3, List.set_cons_zero, List.set_cons_succ, heq, hu, setS, bltF, htu, takeV]
        | false =>
          refine ⟨.lst zs, o3, .inl ⟨false, zs, rfl, h1, h2⟩, ho3, ?_⟩
          simp only [ifS, andTF, testF, isiF, varF, opF, usrF, argsF, conF, List.getElem?_cons_zero, List.getElem?_cons_succ, R.bind, R.then, RV.d, ht, if_true, List.append_nil, hc3, List.set_cons_zero, List.set_cons_succ, heq, hu, Bool.false_eq_true, if_false, nilS]
    · exact stay (ty_odd hx) rfl
  obtain ⟨y, o3, hy, ho3, hif⟩ := hif
  refine ⟨o3, ho3, ?_⟩
  have hli : ∀ S, listD S [.tup ys] = some (.new (.lst ys)) := fun S => rfl
  have h21 : callN Pg fuel (k + 4) 21 [y] [o3] = .ok (.val (.bl true)) [o3] := right_thing hy (by decide)
  have hend : b_24 ⟨callN Pg fuel (k + 4), fuel⟩ [some (.ref 0), some (.tup ys), none, none] [o] = .ret (.val (.bl true)) [o3] := by
    have e : b_24 ⟨callN Pg fuel (k + 4), fuel⟩ = seqS (setS false 2 (bltF listD (argsF [varF 1]))) (seqS (forS fuel (.nm 3) (rngF rng1D (argsF [opF addD (conF (.int 1)) (usrF 12 ⟨callN Pg fuel (k + 4), fuel⟩ [] (argsF [varF 0, conF (.int 2)]))])) (setS false 2 (spF ⟨callN Pg fuel (k + 4), fuel⟩))) (seqS (ifS (andTF [testF (isiF (isTyD "list") (varF 2)), testF (opF eqD (usrF 12 ⟨callN Pg fuel (k + 4), fuel⟩ [] (argsF [varF 0, conF (.int 2)])) (conF (.int 0)))]) (setS false 2 (bltF tupleD (argsF [varF 2]))) (nilS)) (retS (usrF 21 ⟨callN Pg fuel (k + 4), fuel⟩ [] (argsF [varF 2]))))) := rfl
    rw [e]
    generalize forS fuel (.nm 3) (rngF rng1D (argsF [opF addD (conF (.int 1)) (usrF 12 ⟨callN Pg fuel (k + 4), fuel⟩ [] (argsF [varF 0, conF (.int 2)]))])) (setS false 2 (spF ⟨callN Pg fuel (k + 4), fuel⟩)) = FF at hfor ⊢
    generalize (ifS (andTF [testF (isiF (isTyD "list") (varF 2)), testF (opF eqD (usrF 12 ⟨callN Pg fuel (k + 4), fuel⟩ [] (argsF [varF 0, conF (.int 2)])) (conF (.int 0)))]) (setS false 2 (bltF tupleD (argsF [varF 2]))) (nilS)) = GG at hif ⊢
    simp only [seqS, setS, bltF, argsF, varF, List.getElem?_cons_zero, List.getElem?_cons_succ, R.bind, R.then, RV.d, Ob.toD, hli, takeV, List.set_cons_zero, List.set_cons_succ, hfor, hif, retS, usrF, List.append_nil, h21]
  rw [callN_succ (np := 2) (nn := 4) (b := b_24) rfl, runD_ref (np := 2) (args := [.tup ys]) (frees_one (good_free hg)) rfl hs ho.free]
  show endR 1 _ (b_24 ⟨callN Pg fuel (k + 4), fuel⟩ [some (.ref 0), some (.tup ys), none, none] [o]) = _
  rw [hend]
  simp only [endR, outR_free (d := .bl true) rfl, List.getElem?_cons_zero, ho3.free, if_true]
end Lw_k03
namespace Lw_k03
open PySem L2 Ev
abbrev tb (xs : List D) : D := .ins 10 [.tup xs]
abbrev st6 (a b c d e f : Str) : List D := [.str a, .str b, .str c, .str d, .str e, .str f]
theorem Good.split {ys : List D} (h : Good ys) : ∃ a b c d e f, ys = st6 a b c d e f ∧ a ∈ wds 0 ∧ b ∈ wds 1 ∧ c ∈ wds 2 ∧ d ∈ wds 3 ∧ e ∈ wds 4 ∧ f ∈ wds 5 := by
  obtain ⟨hl, h⟩ := h
  match ys, hl, h with
  | [a, b, c, d, e, f], _, h =>
    obtain ⟨x0, i0, h0⟩ := h 0 (by decide)
    obtain ⟨x1, i1, h1⟩ := h 1 (by decide)
    obtain ⟨x2, i2, h2⟩ := h 2 (by decide)
    obtain ⟨x3, i3, h3⟩ := h 3 (by decide)
    obtain ⟨x4, i4, h4⟩ := h 4 (by decide)
    obtain ⟨x5, i5, h5⟩ := h 5 (by decide)
    simp at h0 h1 h2 h3 h4 h5
    subst h0 h1 h2 h3 h4 h5
    exact ⟨x0, x1, x2, x3, x4, x5, rfl, i0, i1, i2, i3, i4, i5⟩
theorem ru_wds {j : Nat} {w : Str} (h : w ∈ wds j) : ruB j (.str w) = true := List.any_eq_true.mpr ⟨w, h, decide_eq_true rfl⟩
theorem wds_ru {j : Nat} {x : D} (h : ruB j x = true) : ∃ w ∈ wds j, x = .str w := by
  cases x with
  | str z =>
    obtain ⟨w, h1, h2⟩ := List.any_eq_true.mp h
    exact ⟨w, h1, by rw [of_decide_eq_true h2]⟩
  | _ => cases h
theorem bad_good {a b c d e f : Str} (ha : a ∈ wds 0) (hb : b ∈ wds 1) (hc : c ∈ wds 2) (hd : d ∈ wds 3) (he : e ∈ wds 4) (hf : f ∈ wds 5) : bad6 (.str a) (.str b) (.str c) (.str d) (.str e) (.str f) = 6 := by
  unfold bad6
  simp only [ru_wds ha, ru_wds hb, ru_wds hc, ru_wds hd, ru_wds he, ru_wds hf, Bool.true_eq_false, if_false]
/-- Table of six rules -/
theorem mkG {k : Nat} {t : Bool} {a b c d e f : Str} {S : Store} (hS : S.all Ob.free = true) (ha : a ∈ wds 0) (hb : b ∈ wds 1) (hc : c ∈ wds 2) (hd : d ∈ wds 3) (he : e ∈ wds 4) (hf : f ∈ wds 5) : mkR 10 3 ⟨callN Pg fuel (k + 2), fuel⟩ [rowD t (st6 a b c d e f)] S = .ok (.val (tb (st6 a b c d e f))) S := by
  have := mk6 (k := k) (t := t) hS (wds_item ha).1 (wds_item hb).1 (wds_item hc).1 (wds_item hd).1 (wds_item he).1 (wds_item hf).1
  rw [if_pos (bad_good ha hb hc hd he hf)] at this
  exact this
theorem get6 {k j : Nat} {a b c d e f : Str} {S : Store} (hj : j < 6) : callN Pg fuel (k + 2) 6 [tb (st6 a b c d e f), .str (csN.getD j "")] S = .ok (.val ((st6 a b c d e f).getD j .non)) S := by
  match j, hj with
  | 0, _ => kernel_rfl
  | 1, _ => kernel_rfl
  | 2, _ => kernel_rfl
  | 3, _ => kernel_rfl
  | 4, _ => kernel_rfl
  | 5, _ => kernel_rfl
def wlc (g : Cfg) : ME := lcF fuel [3] (.nm 3) (iterF (conF (.tup [.str "new", .str "changed", .str "gone", .str "two new", .str "two changed", .str "torn"]))) (yesT) (ifF (testF (opF eqD (varF 3) (varF 1))) (varF 2) (methF 10 9 g [] (varF 0) (argsF [varF 3])))
def wif (g : Cfg) : MS := ifS (orTF [notTF (testF (usrF 2 g [] (argsF [varF 1]))), notTF (testF (usrF 1 g [] (argsF [varF 1, varF 2])))]) (raiS 2 (varF 1)) (nilS)
theorem wlc_ok {k j : Nat} {a b c d e f : Str} {y : D} (hj : j < 6) (hy : free y = true) : wlc ⟨callN Pg fuel (k + 1), fuel⟩ [some (tb (st6 a b c d e f)), some (.str (csN.getD j "")), some y, none] [] = .ok (.new (.lst ((st6 a b c d e f).set j y))) [] := by
  match j, hj with
  | 0, _ => kernel_rfl
  | 1, _ => kernel_rfl
  | 2, _ => kernel_rfl
  | 3, _ => kernel_rfl
  | 4, _ => kernel_rfl
  | 5, _ => kernel_rfl
theorem is_rule_at {k j : Nat} {y : D} {S : Store} (hj : j < 6) (hy : y ∈ items) : callN Pg fuel (k + 1) 1 [.str (csN.getD j ""), y] S = .ok (.val (.bl (ruB j y))) S := by
  obtain ⟨h0, h1, h2, h3, h4, h5⟩ := isr1 (k := k) (S := S) hy
  match j, hj with
  | 0, _ => exact h0
  | 1, _ => exact h1
  | 2, _ => exact h2
  | 3, _ => exact h3
  | 4, _ => exact h4
  | 5, _ => exact h5
theorem is_case_at {k j : Nat} {S : Store} (hj : j < 6) : callN Pg fuel (k + 1) 2 [.str (csN.getD j "")] S = .ok (.val (.bl true)) S := by
  match j, hj with
  | 0, _ => kernel_rfl
  | 1, _ => kernel_rfl
  | 2, _ => kernel_rfl
  | 3, _ => kernel_rfl
  | 4, _ => kernel_rfl
  | 5, _ => kernel_rfl
theorem wif_ok {k j : Nat} {x y z : Option D} {v : D} (hj : j < 6) (hv : v ∈ items) : wif ⟨callN Pg fuel (k + 1), fuel⟩ [x, some (.str (csN.getD j "")), some v, z] [] = if ruB j v = true then .nx [x, some (.str (csN.getD j "")), some v, z] [] else .ex (.exc 2 (.str (csN.getD j ""))) [x, some (.str (csN.getD j "")), some v, z] [] := by
  cases h : ruB j v with
  | true => simp only [wif, ifS, orTF, notTF, testF, usrF, argsF, varF, List.getElem?_cons_zero, List.getElem?_cons_succ, R.bind, R.then, RV.d, List.append_nil, is_case_at hj, is_rule_at hj hv, h, Bool.not_true, Bool.false_eq_true, if_false, if_true, nilS]
  | false => simp only [wif, ifS, orTF, notTF, testF, usrF, argsF, varF, List.getElem?_cons_zero, List.getElem?_cons_succ, R.bind, R.then, RV.d, List.append_nil, is_case_at hj, is_rule_at hj hv, h, Bool.not_true, Bool.not_false, Bool.false_eq_true, if_false, if_true, raiS]
theorem set_good {j : Nat} {a b c d e f w : Str} (hj : j < 6) (hw : w ∈ wds j) (ha : a ∈ wds 0) (hb : b ∈ wds 1) (hc : c ∈ wds 2) (hd : d ∈ wds 3) (he : e ∈ wds 4) (hf : f ∈ wds 5) : Good ((st6 a b c d e f).set j (.str w)) := by
  refine Good.set ⟨rfl, fun i hi => ?_⟩ hj hw
  match i, hi with
  | 0, _ => exact ⟨a, ha, rfl⟩
  | 1, _ => exact ⟨b, hb, rfl⟩
  | 2, _ => exact ⟨c, hc, rfl⟩
  | 3, _ => exact ⟨d, hd, rfl⟩
  | 4, _ => exact ⟨e, he, rfl⟩
  | 5, _ => exact ⟨f, hf, rfl⟩
theorem mkGood {k : Nat} {t : Bool} {ys : List D} {S : Store} (hS : S.all Ob.free = true) (h : Good ys) : mkR 10 3 ⟨callN Pg fuel (k + 2), fuel⟩ [rowD t ys] S = .ok (.val (tb ys)) S := by
  obtain ⟨a, b, c, d, e, f, rfl, ha, hb, hc, hd, he, hf⟩ := h.split
  exact mkG hS ha hb hc hd he hf
/-- with_rule -/
theorem with6 {k j : Nat} {a b c d e f : Str} {y : D} {S : Store} (hj : j < 6) (hy : y ∈ items) (ha : a ∈ wds 0) (hb : b ∈ wds 1) (hc : c ∈ wds 2) (hd : d ∈ wds 3) (he : e ∈ wds 4) (hf : f ∈ wds 5) :
    callN Pg fuel (k + 3) 10 [tb (st6 a b c d e f), .str (csN.getD j ""), y] S = if ruB j y = true then .ok (.val (tb ((st6 a b c d e f).set j y))) S else .ex (.exc 2 (.str (csN.getD j ""))) S := by
  have hfr : frees [tb (st6 a b c d e f), .str (csN.getD j ""), y] = true := by
    show (true && (true && (free y && true))) = true
    rw [free_item hy]; rfl
  have hw := wif_ok (k := k + 1) (x := some (tb (st6 a b c d e f))) (y := none) (z := none) hj hy
  have hlc := wlc_ok (k := k + 1) (a := a) (b := b) (c := c) (d := d) (e := e) (f := f) hj (free_item hy)
  rw [callN_succ (np := 3) (nn := 4) (b := b_10) rfl, runD_free (np := 3) hfr rfl]
  show endR 0 _ (seqS (wif ⟨callN Pg fuel (k + 2), fuel⟩) (retS (mkF 10 3 ⟨callN Pg fuel (k + 2), fuel⟩ [] (argsF [wlc ⟨callN Pg fuel (k + 2), fuel⟩]))) [some (tb (st6 a b c d e f)), some (.str (csN.getD j "")), some y, none] []) = _
  generalize hW : wif ⟨callN Pg fuel (k + 2), fuel⟩ = W at hw ⊢
  generalize hC : wlc ⟨callN Pg fuel (k + 2), fuel⟩ = C at hlc ⊢
  cases h : ruB j y with
  | true =>
    obtain ⟨w, hw2, rfl⟩ := wds_ru h
    have hg := set_good (j := j) (w := w) hj hw2 ha hb hc hd he hf
    have hm : mkR 10 3 ⟨callN Pg fuel (k + 2), fuel⟩ [.lst ((st6 a b c d e f).set j (.str w))] [] = .ok (.val (tb ((st6 a b c d e f).set j (.str w)))) [] := mkGood (t := false) rfl hg
    have hfo : free (tb ((st6 a b c d e f).set j (.str w))) = true := by
      show (frees _ && true) = true
      rw [good_free hg]; rfl
    simp only [h, if_true] at hw
    simp only [seqS, hw, retS, mkF, argsF, hlc, R.bind, R.then, RV.d, Ob.toD, List.append_nil, hm, endR, outR_free hfo, if_true]
  | false =>
    simp only [h, Bool.false_eq_true, if_false] at hw
    have hfe : free (.exc 2 (.str (csN.getD j ""))) = true := rfl
    simp only [seqS, hw, endR, resD_free _ _ hfe, Bool.false_eq_true, if_false]
end Lw_k03
namespace Lw_k03
open PySem L2 Ev
/-- six words -/
structure Six (a b c d e f : Str) : Prop where
  a : a ∈ wds 0
  b : b ∈ wds 1
  c : c ∈ wds 2
  d : d ∈ wds 3
  e : e ∈ wds 4
  f : f ∈ wds 5
def same (a b c d e f a' b' c' d' e' f' : Str) : Bool := (a == a') && ((b == b') && ((c == c') && ((d == d') && ((e == e') && ((f == f') && true)))))
def unlike (a b c d e f a' b' c' d' e' f' : Str) : Nat := (([a == a', b == b', c == c', d == d', e == e', f == f'] : List Bool).filter fun x => !x).length
section
variable {a b c d e f a' b' c' d' e' f' : Str} {k : Nat} {S : Store}
theorem eq_tups (h : Six a b c d e f) (h' : Six a' b' c' d' e' f') : eqD S (.tup (st6 a b c d e f)) (.tup (st6 a' b' c' d' e' f')) = some (.val (.bl (same a b c d e f a' b' c' d' e' f'))) := by
  have sh : ∀ {a b c d e f : Str}, Six a b c d e f → SeqAt.shaped (.tuple [.str a, .str b, .str c, .str d, .str e, .str f]) = true := fun {a b c d e f} h => by
    refine Bool.and_eq_true_iff.mpr ⟨?_, rfl⟩
    simp only [PyData.canLay0, PyData.canLayAll0, (wds_item h.a).2, (wds_item h.b).2, (wds_item h.c).2, (wds_item h.d).2, (wds_item h.e).2, (wds_item h.f).2, Bool.and_self]
  unfold eqD eqB
  simp only [pyOf, py0, py0s, Option.map_some, sh h, sh h', Bool.and_self, if_true, PyData.eqv, PyData.eqvAll, same]
theorem eq_call (h : Six a b c d e f) (h' : Six a' b' c' d' e' f') : callN Pg fuel (k + 1) 5 [tb (st6 a b c d e f), tb (st6 a' b' c' d' e' f')] S = .ok (.val (.bl (same a b c d e f a' b' c' d' e' f'))) S := by
  have h1 : isOwnD [10] 10 [] (tb (st6 a' b' c' d' e' f')) = some true := rfl
  have h2 : ∀ xs, fldD (sxL [(10, 0)]) [] (tb xs) = some (.tup xs) := fun xs => rfl
  have hend : b_5 ⟨callN Pg fuel k, fuel⟩ [some (tb (st6 a b c d e f)), some (tb (st6 a' b' c' d' e' f'))] [] = .ret (.val (.bl (same a b c d e f a' b' c' d' e' f'))) [] := by
    simp only [b_5, retS, andVF, isiF, varF, List.getElem?_cons_zero, List.getElem?_cons_succ, R.bind, R.then, RV.d, h1, opF, fldF, h2, eq_tups h h']
  rw [callN_succ (np := 2) (nn := 2) (b := b_5) rfl, runD_free (np := 2) rfl rfl]
  show endR 0 _ (b_5 ⟨callN Pg fuel k, fuel⟩ [some (tb (st6 a b c d e f)), some (tb (st6 a' b' c' d' e' f'))] []) = _
  rw [hend]; rfl
theorem lc_gen {t : Tg} {c : MT} {f : ME} {p : D → Bool} {q : D → D} {env : EnvD} {S : Store} : ∀ ds : List D, (∀ d ∈ ds, ∃ e1, bindT t d env = some e1 ∧ c e1 S = .ok (p d) S ∧ f e1 S = .ok (.val (q d)) S) → lcL t c f ds env S = .ok ((ds.filter p).map q) S
  | [], _ => rfl
  | d :: ds, h => by
    obtain ⟨e1, h1, h2, h3⟩ := h d (List.mem_cons_self ..)
    have ih := lc_gen (t := t) (c := c) (f := f) (p := p) (q := q) (env := env) (S := S) ds fun z hz => h z (List.mem_cons_of_mem _ hz)
    simp only [lcL, h1, h2, h3, R.bind, ih, List.filter_cons, RV.d]
    cases p d <;> rfl
theorem ne_words {x y : Str} (hx : PyData.strOk x = true) (hy : PyData.strOk y = true) : neD S (.str x) (.str y) = some (.val (.bl (!(x == y)))) := by
  unfold neD
  rw [eqB_str hx hy]; rfl
def p8 : D → Bool := fun d => match d with
  | .tup [_, .str x, .str y] => !(x == y)
  | _ => false
def q8 : D → D := fun d => match d with
  | .tup [z, _, _] => z
  | _ => .non
theorem cnt_gen : ∀ l : List (Str × Str × Str), ((l.map fun z => D.tup [.str z.1, .str z.2.1, .str z.2.2]).filter p8).length = ((l.map fun z => z.2.1 == z.2.2).filter fun x => !x).length
  | [] => rfl
  | z :: l => by
    have ih := cnt_gen l
    have e : p8 (.tup [.str z.1, .str z.2.1, .str z.2.2]) = !(z.2.1 == z.2.2) := rfl
    rw [List.map_cons, List.map_cons, List.filter_cons, List.filter_cons, e]
    by_cases h : (!(z.2.1 == z.2.2)) = true
    · rw [if_pos h, if_pos h, List.length_cons, List.length_cons, ih]
    · rw [if_neg h, if_neg h, ih]
theorem sub_call (h : Six a b c d e f) (h' : Six a' b' c' d' e' f') : callN Pg fuel (k + 1) 8 [tb (st6 a b c d e f), tb (st6 a' b' c' d' e' f')] S = .ok (.val (.int (unlike a b c d e f a' b' c' d' e' f' : Nat))) S := by
  have h1 : isOwnD [10] 10 [] (tb (st6 a' b' c' d' e' f')) = some true := rfl
  have h2 : ∀ xs, fldD (sxL [(10, 0)]) [] (tb xs) = some (.tup xs) := fun xs => rfl
  let ds : List D := [.tup [.str "new", .str a, .str a'], .tup [.str "changed", .str b, .str b'], .tup [.str "gone", .str c, .str c'], .tup [.str "two new", .str d, .str d'], .tup [.str "two changed", .str e, .str e'], .tup [.str "torn", .str f, .str f']]
  have hlc : lcL (.tp [.nm 2, .nm 3, .nm 4]) (testF (opF neD (varF 3) (varF 4))) (varF 2) ds [some (tb (st6 a b c d e f)), some (tb (st6 a' b' c' d' e' f')), none, none, none] [] = .ok ((ds.filter p8).map q8) [] := by
    refine lc_gen ds fun z hz => ?_
    have go : ∀ (u x y : Str), PyData.strOk x = true → PyData.strOk y = true → ∃ e1, bindT (.tp [.nm 2, .nm 3, .nm 4]) (.tup [.str u, .str x, .str y]) [some (tb (st6 a b c d e f)), some (tb (st6 a' b' c' d' e' f')), none, none, none] = some e1 ∧ (testF (opF neD (varF 3) (varF 4))) e1 [] = .ok (p8 (.tup [.str u, .str x, .str y])) [] ∧ (varF 2) e1 [] = .ok (.val (q8 (.tup [.str u, .str x, .str y]))) [] := fun u x y hx hy =>
      ⟨[some (tb (st6 a b c d e f)), some (tb (st6 a' b' c' d' e' f')), some (.str u), some (.str x), some (.str y)], rfl, by simp only [testF, opF, varF, List.getElem?_cons_zero, List.getElem?_cons_succ, R.bind, RV.d, ne_words hx hy, p8], rfl⟩
    simp only [ds, List.mem_cons, List.not_mem_nil, or_false] at hz
    rcases hz with rfl | rfl | rfl | rfl | rfl | rfl
    · exact go _ _ _ (wds_item h.a).2 (wds_item h'.a).2
    · exact go _ _ _ (wds_item h.b).2 (wds_item h'.b).2
    · exact go _ _ _ (wds_item h.c).2 (wds_item h'.c).2
    · exact go _ _ _ (wds_item h.d).2 (wds_item h'.d).2
    · exact go _ _ _ (wds_item h.e).2 (wds_item h'.e).2
    · exact go _ _ _ (wds_item h.f).2 (wds_item h'.f).2
  have hcnt : ((ds.filter p8).map q8).length = unlike a b c d e f a' b' c' d' e' f' := by
    rw [List.length_map]
    exact cnt_gen [("new", a, a'), ("changed", b, b'), ("gone", c, c'), ("two new", d, d'), ("two changed", e, e'), ("torn", f, f')]
  have hle : ((ds.filter p8).map q8).length ≤ 16777216 := by
    have : (ds.filter p8).length ≤ 6 := List.length_filter_le _ _
    rw [List.length_map]; omega
  have hz3 : zip3F (argsF [conF (.tup [.str "new", .str "changed", .str "gone", .str "two new", .str "two changed", .str "torn"]), fldF (sxL [(10, 0)]) (varF 0), fldF (sxL [(10, 0)]) (varF 1)]) [some (tb (st6 a b c d e f)), some (tb (st6 a' b' c' d' e' f')), none, none, none] [] = .ok (.st ds) [] := rfl
  have hlen : ∀ xs, lenD [] [.lst xs] = some (.val (.int xs.length)) := fun xs => rfl
  have hend : b_8 ⟨callN Pg fuel k, fuel⟩ [some (tb (st6 a b c d e f)), some (tb (st6 a' b' c' d' e' f')), none, none, none] [] = .ret (.val (.int (unlike a b c d e f a' b' c' d' e' f' : Nat))) [] := by
    unfold b_8
    generalize hzz : zip3F (argsF [conF (.tup [.str "new", .str "changed", .str "gone", .str "two new", .str "two changed", .str "torn"]), fldF (sxL [(10, 0)]) (varF 0), fldF (sxL [(10, 0)]) (varF 1)]) = zz at hz3 ⊢
    generalize hcc : (testF (opF neD (varF 3) (varF 4))) = cc at hlc ⊢
    generalize hff : varF 2 = ff at hlc ⊢
    simp only [seqS, ifS, notTF, testF, isiF, varF, List.getElem?_cons_zero, List.getElem?_cons_succ, R.bind, R.then, RV.d, h1, Bool.not_true, Bool.false_eq_true, if_false, nilS, retS, bltF, argsF, lcF, hz3, lcSrc, wipeD, List.set_cons_zero, List.set_cons_succ, hlc, noEx, if_pos (show unlike a b c d e f a' b' c' d' e' f' ≤ 16777216 by rw [← hcnt]; exact hle), Ob.toD, hlen, hcnt]
  rw [callN_succ (np := 2) (nn := 5) (b := b_8) rfl, runD_free (np := 2) rfl rfl]
  show endR 0 _ (b_8 ⟨callN Pg fuel k, fuel⟩ [some (tb (st6 a b c d e f)), some (tb (st6 a' b' c' d' e' f')), none, none, none] []) = _
  rw [hend]; rfl
/-- the operators -/
theorem opEq (h : Six a b c d e f) (h' : Six a' b' c' d' e' f') : own1D ⟨callN Pg fuel (k + 1), fuel⟩ 10 5 [10] S (tb (st6 a b c d e f)) (tb (st6 a' b' c' d' e' f')) = .ok (.val (.bl (same a b c d e f a' b' c' d' e' f'))) S := by
  unfold own1D
  rw [if_pos (by rfl)]
  rw [show (⟨callN Pg fuel (k + 1), fuel⟩ : Cfg).call 5 [tb (st6 a b c d e f), tb (st6 a' b' c' d' e' f')] S = _ from eq_call (k := k) (S := S) h h']; rfl
theorem opNe (h : Six a b c d e f) (h' : Six a' b' c' d' e' f') : ownND ⟨callN Pg fuel (k + 1), fuel⟩ 10 5 [10] S (tb (st6 a b c d e f)) (tb (st6 a' b' c' d' e' f')) = .ok (.val (.bl (!same a b c d e f a' b' c' d' e' f'))) S := by
  unfold ownND
  rw [if_pos (by rfl)]
  rw [show (⟨callN Pg fuel (k + 1), fuel⟩ : Cfg).call 5 [tb (st6 a b c d e f), tb (st6 a' b' c' d' e' f')] S = _ from eq_call (k := k) (S := S) h h']; rfl
theorem opSub (h : Six a b c d e f) (h' : Six a' b' c' d' e' f') : ownBD ⟨callN Pg fuel (k + 1), fuel⟩ 10 8 S (tb (st6 a b c d e f)) (tb (st6 a' b' c' d' e' f')) = .ok (.val (.int (unlike a b c d e f a' b' c' d' e' f' : Nat))) S := by
  unfold ownBD
  rw [if_pos (by rfl)]
  rw [show (⟨callN Pg fuel (k + 1), fuel⟩ : Cfg).call 8 [tb (st6 a b c d e f), tb (st6 a' b' c' d' e' f')] S = _ from sub_call (k := k) (S := S) h h']; rfl
theorem unlike_le : unlike a b c d e f a' b' c' d' e' f' ≤ 6 := List.length_filter_le _ _
theorem unlike_same : (unlike a b c d e f a' b' c' d' e' f' == 0) = same a b c d e f a' b' c' d' e' f' := by
  unfold unlike same
  generalize (a == a') = z0
  generalize (b == b') = z1
  generalize (c == c') = z2
  generalize (d == d') = z3
  generalize (e == e') = z4
  generalize (f == f') = z5
  cases z0 <;> cases z1 <;> cases z2 <;> cases z3 <;> cases z4 <;> cases z5 <;> rfl
theorem same_self : same a b c d e f a b c d e f = true := by
  unfold same
  simp
theorem ri_bl {x : Bool} : Ri 2 60 (.bl x) := by
  refine ⟨rfl, .bool x, fun S j hj => rfl, rfl, Nat.zero_le _, ?_⟩
  cases x <;> exact ⟨by decide +kernel, by decide +kernel⟩
theorem ri_nat {n : Nat} (h : n ≤ 6) : Ri 2 60 (.int (n : Int)) := by
  match n, h with
  | 0, _ => exact ⟨rfl, .int 0, fun S j hj => rfl, by decide +kernel, Nat.zero_le _, by decide +kernel, by decide +kernel⟩
  | 1, _ => exact ⟨rfl, .int 1, fun S j hj => rfl, by decide +kernel, Nat.zero_le _, by decide +kernel, by decide +kernel⟩
  | 2, _ => exact ⟨rfl, .int 2, fun S j hj => rfl, by decide +kernel, Nat.zero_le _, by decide +kernel, by decide +kernel⟩
  | 3, _ => exact ⟨rfl, .int 3, fun S j hj => rfl, by decide +kernel, Nat.zero_le _, by decide +kernel, by decide +kernel⟩
  | 4, _ => exact ⟨rfl, .int 4, fun S j hj => rfl, by decide +kernel, Nat.zero_le _, by decide +kernel, by decide +kernel⟩
  | 5, _ => exact ⟨rfl, .int 5, fun S j hj => rfl, by decide +kernel, Nat.zero_le _, by decide +kernel, by decide +kernel⟩
  | 6, _ => exact ⟨rfl, .int 6, fun S j hj => rfl, by decide +kernel, Nat.zero_le _, by decide +kernel, by decide +kernel⟩
theorem unlike_comm : unlike a' b' c' d' e' f' a b c d e f = unlike a b c d e f a' b' c' d' e' f' := by
  unfold unlike
  have sw : ∀ x y : Str, (x == y) = (y == x) := fun x y => by
    rw [Bool.eq_iff_iff, beq_iff_eq, beq_iff_eq]
    exact ⟨fun h => h.symm, fun h => h.symm⟩
  rw [sw a', sw b', sw c', sw d', sw e', sw f']
theorem same_comm : same a' b' c' d' e' f' a b c d e f = same a b c d e f a' b' c' d' e' f' := by rw [← unlike_same, unlike_comm, unlike_same]
end
end Lw_k03
namespace Lw_k03
open PySem L2 Ev
theorem seq_nx {A B : MS} {env e1 : EnvD} {S S1 : Store} (h : A env S = .nx e1 S1) : seqS A B env S = B e1 S1 := by
  unfold seqS
  rw [h]
theorem if_same {n L : Nat} {m1 m2 : MA} {env : EnvD} {S : Store} {d : D} (h1 : m1 env S = .ok [d] S) (h2 : m2 env S = .ok [d] S) (hr : Ri n L d) (hn : n ≤ 11) (hL : L ≤ 16777216) : (ifS (testF (opF neD (bltF reprD m1) (bltF reprD m2))) (retS (conF (.bl false))) nilS) env S = .nx env S := by
  obtain ⟨s, hs, hrr⟩ := hr.repr hn hL
  have hne : ∀ S, neD S (.str s) (.str s) = some (.val (.bl false)) := fun S => ne_same hs
  simp only [ifS, testF, opF, bltF, h1, h2, hrr, hne, R.bind, R.then, RV.d, Bool.false_eq_true, if_false, nilS]
theorem ri_list {n L : Nat} {ds : List D} (h : ∀ x ∈ ds, Ri n L x) (hn : n ≤ 10) (hL : L ≤ 100000) (hl : ds.length ≤ 100) : ∃ M, M ≤ 16777216 ∧ Ri (n + 1) M (.lst ds) :=
  ⟨_, by
    have : ds.length * (L + 2) ≤ 100 * (100000 + 2) := Nat.mul_le_mul hl (by omega)
    omega, Ri.lst h⟩
section
variable {a b c d e f a' b' c' d' e' f' : Str} {k : Nat} {S : Store}
theorem Six.items (h : Six a b c d e f) : ∀ x ∈ st6 a b c d e f, x ∈ Lw_k03.items := by
  intro x hx
  simp only [List.mem_cons, List.not_mem_nil, or_false] at hx
  rcases hx with rfl | rfl | rfl | rfl | rfl | rfl
  · exact (wds_item h.a).1
  · exact (wds_item h.b).1
  · exact (wds_item h.c).1
  · exact (wds_item h.d).1
  · exact (wds_item h.e).1
  · exact (wds_item h.f).1
theorem Six.ri (h : Six a b c d e f) : Ri 3 10000 (.tup (st6 a b c d e f)) := ri_row (t := true) h.items (by simp)
theorem mkS {t : Bool} (hS : S.all Ob.free = true) (h : Six a b c d e f) : mkR 10 3 ⟨callN Pg fuel (k + 2), fuel⟩ [rowD t (st6 a b c d e f)] S = .ok (.val (tb (st6 a b c d e f))) S := mkG hS h.a h.b h.c h.d h.e h.f
theorem two_right (h : Six a b c d e f) (h' : Six a' b' c' d' e' f') : callN Pg fuel (k + 4) 27 [.tup (st6 a b c d e f), .tup (st6 a' b' c' d' e' f')] S = .ok (.val (.bl true)) S := by
  let xs : List D := st6 a b c d e f
  let ys : List D := st6 a' b' c' d' e' f'
  let E1 : EnvD := [some (.tup xs), some (.tup ys), some (.ref 0), none, none, none, none, none, none]
  let E2 : EnvD := [some (.tup xs), some (.tup ys), some (.ref 0), some (tb xs), some (tb xs), some (tb ys), none, none, none]
  let S2 : Store := [.lst [.non, .str b, .str c, .str d, .str e, .str f, .str "leave"]]
  let G : Nat := unlike a b c d e f a' b' c' d' e' f'
  let E3 : EnvD := [some (.tup xs), some (.tup ys), some (.ref 0), some (tb xs), some (tb xs), some (tb ys), some (.int (G : Int)), none, none]
  let E4 : EnvD := [some (.tup xs), some (.tup ys), some (.ref 0), some (tb xs), some (tb xs), some (tb ys), some (.int (G : Int)), none, some (.dct [] [])]
  have s1 : (setS true 2 (bltF listD (argsF [varF 0]))) [some (.tup xs), some (.tup ys), none, none, none, none, none, none, none] [] = .nx E1 [.lst xs] := by kernel_rfl
  have z1 : mkZF 10 3 ⟨callN Pg fuel (k + 3), fuel⟩ [] (argsF [varF 2]) E1 [.lst xs] = .ok (.val (tb xs)) [.lst xs] := by
    have hm : mkR 10 3 ⟨callN Pg fuel (k + 3), fuel⟩ [.lst xs] [] = .ok (.val (tb xs)) [] := mkS (k := k + 1) (t := false) rfl h
    show unz [.lst xs] (mkR 10 3 ⟨callN Pg fuel (k + 3), fuel⟩ [.lst xs] []) = _
    rw [hm]; rfl
  have z2 : mkF 10 3 ⟨callN Pg fuel (k + 3), fuel⟩ [] (argsF [varF 0]) E1 [.lst xs] = .ok (.val (tb xs)) [.lst xs] := mkS (k := k + 1) (t := true) rfl h
  have z3 : mkF 10 3 ⟨callN Pg fuel (k + 3), fuel⟩ [] (argsF [varF 1]) E1 [.lst xs] = .ok (.val (tb ys)) [.lst xs] := mkS (k := k + 1) (t := true) rfl h'
  have s2 : (par3S 3 4 5 (argsM [(false, mkZF 10 3 ⟨callN Pg fuel (k + 3), fuel⟩ [] (argsF [varF 2])), (false, mkF 10 3 ⟨callN Pg fuel (k + 3), fuel⟩ [] (argsF [varF 0])), (false, mkF 10 3 ⟨callN Pg fuel (k + 3), fuel⟩ [] (argsF [varF 1]))])) E1 [.lst xs] = .nx E2 [.lst xs] := by
    simp only [par3S, argsM, z1, z2, z3, R.bind, R.then, takeV_f, dv]
    rfl
  have s3 : (dropS (mthF "list" appendD (varF 2) (argsF [conF (.str "leave")]))) E2 [.lst xs] = .nx E2 [.lst (xs ++ [.str "leave"])] := by kernel_rfl
  have s4 : (subS (varF 2) (conF (.int 0)) (conF .non)) E2 [.lst (xs ++ [.str "leave"])] = .nx E2 S2 := by kernel_rfl
  obtain ⟨M5, hM5, r5⟩ := ri_list (n := 3) (L := 10000) (ds := [.tup xs, .tup xs]) (fun x hx => by
    simp only [List.mem_cons, List.not_mem_nil, or_false] at hx
    rcases hx with rfl | rfl <;> exact h.ri) (by decide) (by decide) (by simp)
  have s5 : (ifS (testF (opF neD (bltF reprD (argsF [lstF (argsF [fldF (sxL [(10, 0)]) (varF 3), fldF (sxL [(10, 0)]) (varF 4)])])) (bltF reprD (argsF [lstF (argsF [varF 0, varF 0])])))) (retS (conF (.bl false))) (nilS)) E2 S2 = .nx E2 S2 := if_same (d := .lst [.tup xs, .tup xs]) (by kernel_rfl) (by kernel_rfl) r5 (by decide) hM5
  have small : ∀ ds : List D, (∀ x ∈ ds, Ri 2 60 x) → ds.length ≤ 100 → ∃ M, M ≤ 16777216 ∧ Ri 3 M (.lst ds) := fun ds h1 h2 => ri_list h1 (by decide) (by decide) h2
  obtain ⟨M6, hM6, r6⟩ := small [.bl true, .bl false, .int 0] (fun x hx => by
    simp only [List.mem_cons, List.not_mem_nil, or_false] at hx
    rcases hx with rfl | rfl | rfl
    · exact ri_bl
    · exact ri_bl
    · exact ri_nat (n := 0) (by decide)) (by simp)
  have u0 : unlike a b c d e f a b c d e f = 0 := by
    have := unlike_same (a := a) (b := b) (c := c) (d := d) (e := e) (f := f) (a' := a) (b' := b) (c' := c) (d' := d) (e' := e) (f' := f)
    rw [same_self] at this
    exact beq_iff_eq.mp this
  have o6 : (argsF [lstF (argsF [opRF (own1D ⟨callN Pg fuel (k + 3), fuel⟩ 10 5 [10]) (varF 3) (varF 4), opRF (ownND ⟨callN Pg fuel (k + 3), fuel⟩ 10 5 [10]) (varF 3) (varF 4), opRF (ownBD ⟨callN Pg fuel (k + 3), fuel⟩ 10 8) (varF 3) (varF 4)])]) E2 S2 = .ok [.lst [.bl true, .bl false, .int 0]] S2 := by
    simp only [argsF, lstF, fitF, opRF, varF, E2, xs, List.getElem?_cons_zero, List.getElem?_cons_succ, R.bind, RV.d, opEq h h, opNe h h, opSub h h, noEx, same_self, u0, Bool.not_true, Ob.toD, List.length_cons, List.length_nil, if_pos (show 0 + 1 + 1 + 1 ≤ 16777216 by decide)]
    rfl
  have s6 : (ifS (testF (opF neD (bltF reprD (argsF [lstF (argsF [opRF (own1D ⟨callN Pg fuel (k + 3), fuel⟩ 10 5 [10]) (varF 3) (varF 4), opRF (ownND ⟨callN Pg fuel (k + 3), fuel⟩ 10 5 [10]) (varF 3) (varF 4), opRF (ownBD ⟨callN Pg fuel (k + 3), fuel⟩ 10 8) (varF 3) (varF 4)])])) (bltF reprD (argsF [lstF (argsF [conF (.bl true), conF (.bl false), conF (.int 0)])])))) (retS (conF (.bl false))) (nilS)) E2 S2 = .nx E2 S2 := if_same o6 (by kernel_rfl) r6 (by decide) hM6
  have s7 : (setS false 6 (bltF lenD (argsF [lcF fuel [7] (.nm 7) (rngF rng1D (argsF [conF (.int 6)])) (testF (opF neD (opF idxD (varF 0) (varF 7)) (opF idxD (varF 1) (varF 7)))) (varF 7)]))) E2 S2 = .nx E3 S2 := by
    have hr : rng1D [.int 6] = some (([0, 1, 2, 3, 4, 5] : List Int).map D.int) := by kernel_rfl
    let p : Int → Bool := fun j => match j with | 0 => !(a == a') | 1 => !(b == b') | 2 => !(c == c') | 3 => !(d == d') | 4 => !(e == e') | _ => !(f == f')
    have hflt := filterI (i := 7) (testF (opF neD (opF idxD (varF 0) (varF 7)) (opF idxD (varF 1) (varF 7)))) (varF 7) p (env := E2) (S := S2) [0, 1, 2, 3, 4, 5] (fun j hj => by
      have hi : ∀ (S : Store) (zs : List D) (j : Int), idxD S (.tup zs) (.int j) = (atI zs j).map .val := fun S zs j => rfl
      simp only [List.mem_cons, List.not_mem_nil, or_false] at hj
      have go : ∀ (j : Int) (x y : Str), idxD S2 (.tup xs) (.int j) = some (.val (.str x)) → idxD S2 (.tup ys) (.int j) = some (.val (.str y)) → PyData.strOk x = true → PyData.strOk y = true → (testF (opF neD (opF idxD (varF 0) (varF 7)) (opF idxD (varF 1) (varF 7)))) (E2.set 7 (some (.int j))) S2 = .ok (!(x == y)) S2 := fun j x y h1 h2 h3 h4 => by
        simp only [testF, opF, varF, E2, List.set_cons_zero, List.set_cons_succ, List.getElem?_cons_zero, List.getElem?_cons_succ, R.bind, RV.d, h1, h2, ne_words h3 h4]
      rcases hj with rfl | rfl | rfl | rfl | rfl | rfl
      · exact go 0 _ _ rfl rfl (wds_item h.a).2 (wds_item h'.a).2
      · exact go 1 _ _ rfl rfl (wds_item h.b).2 (wds_item h'.b).2
      · exact go 2 _ _ rfl rfl (wds_item h.c).2 (wds_item h'.c).2
      · exact go 3 _ _ rfl rfl (wds_item h.d).2 (wds_item h'.d).2
      · exact go 4 _ _ rfl rfl (wds_item h.e).2 (wds_item h'.e).2
      · exact go 5 _ _ rfl rfl (wds_item h.f).2 (wds_item h'.f).2) (fun j => by simp only [varF, E2, List.set_cons_zero, List.set_cons_succ, List.getElem?_cons_zero, List.getElem?_cons_succ])
    have hcnt : ((([0, 1, 2, 3, 4, 5] : List Int).filter p).map D.int).length = G := by
      rw [List.length_map]
      have : ∀ l : List (Int × Bool), ((l.map (·.1)).filter fun j => !((l.lookup j).getD true)).length = ((l.map (·.1)).filter fun j => !((l.lookup j).getD true)).length := fun _ => rfl
      show (([0, 1, 2, 3, 4, 5] : List Int).filter p).length = (([a == a', b == b', c == c', d == d', e == e', f == f'] : List Bool).filter fun x => !x).length
      simp only [List.filter_cons, List.filter_nil, p]
      cases (a == a') <;> cases (b == b') <;> cases (c == c') <;> cases (d == d') <;> cases (e == e') <;> cases (f == f') <;> rfl
    have hle : ((([0, 1, 2, 3, 4, 5] : List Int).filter p).map D.int).length ≤ 16777216 := by
      have : (([0, 1, 2, 3, 4, 5] : List Int).filter p).length ≤ 6 := List.length_filter_le _ _
      rw [List.length_map]; omega
    have hlen : ∀ zs, lenD S2 [.lst zs] = some (.val (.int zs.length)) := fun zs => rfl
    have hlc : lcF fuel [7] (.nm 7) (rngF rng1D (argsF [conF (.int 6)])) (testF (opF neD (opF idxD (varF 0) (varF 7)) (opF idxD (varF 1) (varF 7)))) (varF 7) E2 S2 = .ok (.new (.lst ((([0, 1, 2, 3, 4, 5] : List Int).filter p).map D.int))) S2 := by
      generalize hcc : (testF (opF neD (opF idxD (varF 0) (varF 7)) (opF idxD (varF 1) (varF 7)))) = cc at hflt ⊢
      generalize hff : varF 7 = ff at hflt ⊢
      have hw : wipeD [7] E2 = E2 := rfl
      simp only [lcF, rngF, argsF, conF, R.bind, RV.d, hr, lcSrc, hw, hflt, noEx, if_pos hle]
    generalize hLL : lcF fuel [7] (.nm 7) (rngF rng1D (argsF [conF (.int 6)])) (testF (opF neD (opF idxD (varF 0) (varF 7)) (opF idxD (varF 1) (varF 7)))) (varF 7) = LL at hlc ⊢
    simp only [setS, bltF, argsF, hlc, R.bind, R.then, RV.d, Ob.toD, hlen, takeV]
    rw [hcnt]
    rfl
  obtain ⟨M8, hM8, r8⟩ := small [.int (G : Int), .int (G : Int)] (fun x hx => by
    simp only [List.mem_cons, List.not_mem_nil, or_false] at hx
    rcases hx with rfl | rfl <;> exact ri_nat unlike_le) (by simp)
  have o8 : (argsF [lstF (argsF [opRF (ownBD ⟨callN Pg fuel (k + 3), fuel⟩ 10 8) (varF 3) (varF 5), opRF (ownBD ⟨callN Pg fuel (k + 3), fuel⟩ 10 8) (varF 5) (varF 3)])]) E3 S2 = .ok [.lst [.int (G : Int), .int (G : Int)]] S2 := by
    simp only [argsF, lstF, fitF, opRF, varF, E3, xs, ys, List.getElem?_cons_zero, List.getElem?_cons_succ, R.bind, RV.d, opSub h h', opSub h' h, noEx, unlike_comm (a := a) (b := b) (c := c) (d := d) (e := e) (f := f), Ob.toD, List.length_cons, List.length_nil, if_pos (show 0 + 1 + 1 ≤ 16777216 by decide)]
    rfl
  have s8 : (ifS (testF (opF neD (bltF reprD (argsF [lstF (argsF [opRF (ownBD ⟨callN Pg fuel (k + 3), fuel⟩ 10 8) (varF 3) (varF 5), opRF (ownBD ⟨callN Pg fuel (k + 3), fuel⟩ 10 8) (varF 5) (varF 3)])])) (bltF reprD (argsF [lstF (argsF [varF 6, varF 6])])))) (retS (conF (.bl false))) (nilS)) E3 S2 = .nx E3 S2 := if_same o8 (by kernel_rfl) r8 (by decide) hM8
  let Z : Bool := same a b c d e f a' b' c' d' e' f'
  obtain ⟨M9, hM9, r9⟩ := small [.bl Z, .bl Z, .bl (!Z)] (fun x hx => by
    simp only [List.mem_cons, List.not_mem_nil, or_false] at hx
    rcases hx with rfl | rfl | rfl <;> exact ri_bl) (by simp)
  have o9 : (argsF [lstF (argsF [opRF (own1D ⟨callN Pg fuel (k + 3), fuel⟩ 10 5 [10]) (varF 3) (varF 5), opRF (own1D ⟨callN Pg fuel (k + 3), fuel⟩ 10 5 [10]) (varF 5) (varF 3), opRF (ownND ⟨callN Pg fuel (k + 3), fuel⟩ 10 5 [10]) (varF 3) (varF 5)])]) E3 S2 = .ok [.lst [.bl Z, .bl Z, .bl (!Z)]] S2 := by
    simp only [argsF, lstF, fitF, opRF, varF, E3, xs, ys, List.getElem?_cons_zero, List.getElem?_cons_succ, R.bind, RV.d, opEq h h', opEq h' h, opNe h h', noEx, same_comm (a := a) (b := b) (c := c) (d := d) (e := e) (f := f), Ob.toD, List.length_cons, List.length_nil, if_pos (show 0 + 1 + 1 + 1 ≤ 16777216 by decide), Z]
  have hG : ((G : Int) == 0) = Z := by
    have : (G == 0) = Z := unlike_same
    rw [← this]
    cases G with
    | zero => rfl
    | succ n => rfl
  have q9 : (argsF [lstF (argsF [opF eqD (varF 6) (conF (.int 0)), opF eqD (varF 6) (conF (.int 0)), opF neD (varF 6) (conF (.int 0))])]) E3 S2 = .ok [.lst [.bl Z, .bl Z, .bl (!Z)]] S2 := by
    have h1 : eqD S2 (.int (G : Int)) (.int 0) = some (.val (.bl Z)) := by
      unfold eqD
      rw [eqB_int, hG]; rfl
    have h2 : neD S2 (.int (G : Int)) (.int 0) = some (.val (.bl (!Z))) := by
      unfold neD
      rw [eqB_int, hG]; rfl
    simp only [argsF, lstF, fitF, opF, varF, conF, E3, List.getElem?_cons_zero, List.getElem?_cons_succ, R.bind, RV.d, h1, h2, Ob.toD, List.length_cons, List.length_nil, if_pos (show 0 + 1 + 1 + 1 ≤ 16777216 by decide)]
  have s9 : (ifS (testF (opF neD (bltF reprD (argsF [lstF (argsF [opRF (own1D ⟨callN Pg fuel (k + 3), fuel⟩ 10 5 [10]) (varF 3) (varF 5), opRF (own1D ⟨callN Pg fuel (k + 3), fuel⟩ 10 5 [10]) (varF 5) (varF 3), opRF (ownND ⟨callN Pg fuel (k + 3), fuel⟩ 10 5 [10]) (varF 3) (varF 5)])])) (bltF reprD (argsF [lstF (argsF [opF eqD (varF 6) (conF (.int 0)), opF eqD (varF 6) (conF (.int 0)), opF neD (varF 6) (conF (.int 0))])])))) (retS (conF (.bl false))) (nilS)) E3 S2 = .nx E3 S2 := if_same o9 q9 r9 (by decide) hM9
  have s10 : (forS fuel (.nm 8) (iterF (tupF (argsF [conF .non, varF 0, bltF listD (argsF [varF 0]), conF (.str "table"), conF (.int 6), dnewF]))) (ifS (testF (opF neD (bltF reprD (argsF [lstF (argsF [opRF (own1D ⟨callN Pg fuel (k + 3), fuel⟩ 10 5 [10]) (varF 3) (varF 8), opRF (ownND ⟨callN Pg fuel (k + 3), fuel⟩ 10 5 [10]) (varF 3) (varF 8)])])) (bltF reprD (argsF [lstF (argsF [conF (.bl false), conF (.bl true)])])))) (retS (conF (.bl false))) (nilS))) E3 S2 = .nx E4 S2 := by kernel_rfl
  have hend : b_27 ⟨callN Pg fuel (k + 3), fuel⟩ [some (.tup xs), some (.tup ys), none, none, none, none, none, none, none] [] = .ret (.val (.bl true)) S2 := by
    exact (seq_nx s1).trans ((seq_nx s2).trans ((seq_nx s3).trans ((seq_nx s4).trans ((seq_nx s5).trans ((seq_nx s6).trans ((seq_nx s7).trans ((seq_nx s8).trans ((seq_nx s9).trans ((seq_nx s10).trans rfl)))))))))
  rw [callN_succ (np := 2) (nn := 9) (b := b_27) rfl, runD_free (np := 2) rfl rfl]
  show endR 0 _ (b_27 ⟨callN Pg fuel (k + 3), fuel⟩ [some (.tup xs), some (.tup ys), none, none, none, none, none, none, none] []) = _
  rw [hend]; rfl
end
end Lw_k03
namespace Lw_k03
open PySem L2 Ev
def nxV : RS → Option EnvD
  | .nx e _ => some e
  | _ => none
theorem nx_of {x : RS} {e : EnvD} (h : nxV x = some e) : ∃ S', x = .nx e S' := by
  cases x with
  | nx a S => cases h; exact ⟨S, rfl⟩
  | _ => cases h
section
variable {a b c d e f : Str} {k : Nat} {S : Store}
theorem refused_right (h : Six a b c d e f) : callN Pg fuel (k + 5) 26 [tb (st6 a b c d e f), .tup (st6 a b c d e f)] S = .ok (.val (.bl true)) S := by
  let xs : List D := st6 a b c d e f
  let E0 : EnvD := [some (tb xs), some (.tup xs), none, none, none, none]
  let E1 : EnvD := [some (tb xs), some (.tup xs), some (.int (10 ^ 30)), some (.ref 12), none, none]
  let E2 : EnvD := [some (tb xs), some (.tup xs), some (.int (10 ^ 30)), some (.ref 12), some (.str "two changed"), some (.str "back")]
  let E3 : EnvD := [some (tb xs), some (.tup xs), some (.int (10 ^ 30)), some (.ref 12), some (.str "two changed"), some (.bl true)]
  obtain ⟨S1, s1⟩ := nx_of (e := E1) (x := (forS fuel (.nm 2) (iterF (tupF (argsF [conF .non, conF (.int 0), conF (.str "New"), conF (.str "two"), conF (.str "two  new"), conF (.str ""), conF (.str "torn "), conF (.str "leave"), lstF (argsF [conF (.str "new")]), tupF (argsF [conF (.str "new")]), dnewF, conF (.bl true), opF powD (conF (.int 10)) (conF (.int 30))]))) (seqS (setS true 3 (lstF (argsF [toldF (exL [(1, true), (2, true), (3, true), (4, true), (5, true), (6, true), (7, true), (8, true), (9, true)]) (t_17 ⟨callN Pg fuel (k + 4), fuel⟩) (ixOF 10 6 ⟨callN Pg fuel (k + 4), fuel⟩ (varF 0) (varF 2)), toldF (exL [(1, true), (2, true), (3, true), (4, true), (5, true), (6, true), (7, true), (8, true), (9, true)]) (t_17 ⟨callN Pg fuel (k + 4), fuel⟩) (methF 10 10 ⟨callN Pg fuel (k + 4), fuel⟩ [] (varF 0) (argsF [varF 2, conF (.str "leave")]))]))) (seqS (dropS (mthF "list" appendD (varF 3) (argsF [toldF (exL [(1, true), (2, true), (3, true), (4, true), (5, true), (6, true), (7, true), (8, true), (9, true)]) (t_17 ⟨callN Pg fuel (k + 4), fuel⟩) (methF 10 10 ⟨callN Pg fuel (k + 4), fuel⟩ [] (varF 0) (argsF [varF 2, conF .non]))]))) (ifS (testF (opF neD (bltF reprD (argsF [varF 3])) (bltF reprD (argsF [opF mulD (lstF (argsF [tupF (argsF [conF (.str "table"), varF 2])])) (conF (.int 3))])))) (retS (conF (.bl false))) (nilS))))) E0 []) (by kernel_rfl)
  have s2 : (forS fuel (.tp [.nm 4, .nm 5]) (iterF (tupF (argsF [tupF (argsF [conF (.str "new"), conF (.str "gone")]), tupF (argsF [conF (.str "gone"), conF (.str "content")]), tupF (argsF [conF (.str "two new"), conF (.str "spread")]), tupF (argsF [conF (.str "two changed"), conF (.str "back")])]))) (ifS (testF (opF neD (bltF reprD (argsF [toldF (exL [(1, true), (2, true), (3, true), (4, true), (5, true), (6, true), (7, true), (8, true), (9, true)]) (t_17 ⟨callN Pg fuel (k + 4), fuel⟩) (methF 10 10 ⟨callN Pg fuel (k + 4), fuel⟩ [] (varF 0) (argsF [varF 4, varF 5]))])) (bltF reprD (argsF [tupF (argsF [conF (.str "table"), varF 4])])))) (retS (conF (.bl false))) (nilS))) E1 S1 = .nx E2 S1 := by kernel_rfl
  have s3 : (forS fuel (.nm 5) (iterF (tupF (argsF [conF (.str "spread"), conF (.str "lesser"), conF .non, lstF (argsF [conF (.str "leave")]), conF (.str ""), conF (.bl true)]))) (ifS (testF (opF neD (bltF reprD (argsF [toldF (exL [(1, true), (2, true), (3, true), (4, true), (5, true), (6, true), (7, true), (8, true), (9, true)]) (t_17 ⟨callN Pg fuel (k + 4), fuel⟩) (methF 10 10 ⟨callN Pg fuel (k + 4), fuel⟩ [] (varF 0) (argsF [conF (.str "torn"), varF 5]))])) (bltF reprD (argsF [tupF (argsF [conF (.str "table"), conF (.str "torn")])])))) (retS (conF (.bl false))) (nilS))) E2 S1 = .nx E3 S1 := by kernel_rfl
  obtain ⟨s, hs, hr⟩ := h.ri.repr (by decide) (by decide)
  have hes : ∀ S, eqD S (.str s) (.str s) = some (.val (.bl true)) := fun S => eq_same hs
  have hf : fldD (sxL [(10, 0)]) S1 (tb xs) = some (.tup xs) := rfl
  have s4 : (retS (opF eqD (bltF reprD (argsF [fldF (sxL [(10, 0)]) (varF 0)])) (bltF reprD (argsF [varF 1])))) E3 S1 = .ret (.val (.bl true)) S1 := by
    simp only [retS, opF, bltF, argsF, fldF, varF, E3, List.getElem?_cons_zero, List.getElem?_cons_succ, R.bind, R.then, RV.d, hf, xs, hr, hes]
  have hend : b_26 ⟨callN Pg fuel (k + 4), fuel⟩ E0 [] = .ret (.val (.bl true)) S1 := (seq_nx s1).trans ((seq_nx s2).trans ((seq_nx s3).trans s4))
  rw [callN_succ (np := 2) (nn := 6) (b := b_26) rfl, runD_free (np := 2) rfl rfl]
  show endR 0 _ (b_26 ⟨callN Pg fuel (k + 4), fuel⟩ E0 []) = _
  rw [hend]; rfl
end
end Lw_k03
namespace Lw_k03
open PySem L2 Ev
def pickS (j : Nat) (a b c d e f : Str) : Str := [a, b, c, d, e, f].getD j ""
section
variable {a b c d e f : Str} {k j : Nat}
theorem pick_mem (h : Six a b c d e f) (hj : j < 6) : pickS j a b c d e f ∈ wds j := by
  match j, hj with
  | 0, _ => exact h.a
  | 1, _ => exact h.b
  | 2, _ => exact h.c
  | 3, _ => exact h.d
  | 4, _ => exact h.e
  | 5, _ => exact h.f
theorem get_pick (hj : j < 6) : (st6 a b c d e f).getD j .non = .str (pickS j a b c d e f) := by
  match j, hj with
  | 0, _ => rfl
  | 1, _ => rfl
  | 2, _ => rfl
  | 3, _ => rfl
  | 4, _ => rfl
  | 5, _ => rfl
theorem idx_case {S : Store} (hj : j < 6) : idxD S (.lst [.str "new", .str "changed", .str "gone", .str "two new", .str "two changed", .str "torn"]) (.int (j : Int)) = some (.val (.str (csN.getD j ""))) := by
  match j, hj with
  | 0, _ => rfl
  | 1, _ => rfl
  | 2, _ => rfl
  | 3, _ => rfl
  | 4, _ => rfl
  | 5, _ => rfl
theorem idx_some {S : Store} (hj : j < 6) : idxD S (.tup (st6 a b c d e f)) (.int (j : Int)) = some (.val (.str (pickS j a b c d e f))) := by
  match j, hj with
  | 0, _ => rfl
  | 1, _ => rfl
  | 2, _ => rfl
  | 3, _ => rfl
  | 4, _ => rfl
  | 5, _ => rfl
theorem cut_len {xs : List D} {lo hi : Option Int} : (cutD xs lo hi).length ≤ xs.length := by
  unfold cutD
  rw [List.length_take, List.length_drop]; omega
theorem cut_set {y : D} (hj : j < 6) : cutD (st6 a b c d e f) none (some (j : Int)) ++ [y] ++ cutD (st6 a b c d e f) (some ((j : Int) + 1)) none = (st6 a b c d e f).set j y ∧ (cutD (st6 a b c d e f) none (some (j : Int))).length ≤ 6 ∧ (cutD (st6 a b c d e f) (some ((j : Int) + 1)) none).length ≤ 6 := by
  match j, hj with
  | 0, _ => exact ⟨rfl, cut_len, cut_len⟩
  | 1, _ => exact ⟨rfl, cut_len, cut_len⟩
  | 2, _ => exact ⟨rfl, cut_len, cut_len⟩
  | 3, _ => exact ⟨rfl, cut_len, cut_len⟩
  | 4, _ => exact ⟨rfl, cut_len, cut_len⟩
  | 5, _ => exact ⟨rfl, cut_len, cut_len⟩
theorem set_six {w : Str} (h : Six a b c d e f) (hj : j < 6) (hw : w ∈ wds j) : ∃ a' b' c' d' e' f', (st6 a b c d e f).set j (.str w) = st6 a' b' c' d' e' f' ∧ Six a' b' c' d' e' f' ∧ unlike a b c d e f a' b' c' d' e' f' = (if (pickS j a b c d e f == w) = true then 0 else 1) := by
  have cnt : ∀ x : Bool, (([x] : List Bool).filter fun x => !x).length = (if x = true then 0 else 1) := fun x => by cases x <;> rfl
  match j, hj with
  | 0, _ => exact ⟨w, b, c, d, e, f, rfl, ⟨hw, h.b, h.c, h.d, h.e, h.f⟩, by unfold unlike; simp only [beq_self_eq_true]; show (([a == w, true, true, true, true, true] : List Bool).filter fun x => !x).length = (if (a == w) = true then 0 else 1); cases (a == w) <;> rfl⟩
  | 1, _ => exact ⟨a, w, c, d, e, f, rfl, ⟨h.a, hw, h.c, h.d, h.e, h.f⟩, by unfold unlike; simp only [beq_self_eq_true]; show (([true, b == w, true, true, true, true] : List Bool).filter fun x => !x).length = (if (b == w) = true then 0 else 1); cases (b == w) <;> rfl⟩
  | 2, _ => exact ⟨a, b, w, d, e, f, rfl, ⟨h.a, h.b, hw, h.d, h.e, h.f⟩, by unfold unlike; simp only [beq_self_eq_true]; show (([true, true, c == w, true, true, true] : List Bool).filter fun x => !x).length = (if (c == w) = true then 0 else 1); cases (c == w) <;> rfl⟩
  | 3, _ => exact ⟨a, b, c, w, e, f, rfl, ⟨h.a, h.b, h.c, hw, h.e, h.f⟩, by unfold unlike; simp only [beq_self_eq_true]; show (([true, true, true, d == w, true, true] : List Bool).filter fun x => !x).length = (if (d == w) = true then 0 else 1); cases (d == w) <;> rfl⟩
  | 4, _ => exact ⟨a, b, c, d, w, f, rfl, ⟨h.a, h.b, h.c, h.d, hw, h.f⟩, by unfold unlike; simp only [beq_self_eq_true]; show (([true, true, true, true, e == w, true] : List Bool).filter fun x => !x).length = (if (e == w) = true then 0 else 1); cases (e == w) <;> rfl⟩
  | 5, _ => exact ⟨a, b, c, d, e, w, rfl, ⟨h.a, h.b, h.c, h.d, h.e, hw⟩, by unfold unlike; simp only [beq_self_eq_true]; show (([true, true, true, true, true, f == w] : List Bool).filter fun x => !x).length = (if (f == w) = true then 0 else 1); cases (f == w) <;> rfl⟩
theorem isr19_at {x : D} {S : Store} (hj : j < 6) (hx : x ∈ items) : callN Pg fuel (k + 2) 19 [.int (j : Int), x] S = .ok (.val (.bl (ruB j x))) S := by
  obtain ⟨h0, h1, h2, h3, h4, h5⟩ := isr19 (k := k) (S := S) hx
  match j, hj with
  | 0, _ => exact h0
  | 1, _ => exact h1
  | 2, _ => exact h2
  | 3, _ => exact h3
  | 4, _ => exact h4
  | 5, _ => exact h5
theorem ri_gap {x : Bool} : Ri 2 60 (.int (if x then 1 else 0)) := by
  cases x
  · exact ri_nat (n := 0) (by decide)
  · exact ri_nat (n := 1) (by decide)
/-- the words of a case, one by one -/
def bodyW (k : Nat) : MS := seqS (setS false 6 (methF 10 10 ⟨callN Pg fuel (k + 4), fuel⟩ [] (varF 1) (argsF [varF 4, varF 5]))) (seqS (ifS (orTF [notTF (testF (isiF (isOwnD [10] 10) (varF 6))), testF (opF neD (bltF reprD (argsF [fldF (sxL [(10, 0)]) (varF 6)])) (bltF reprD (argsF [opF addD (opF addD (sliF (varF 2) none (some (varF 3))) (tupF (argsF [varF 5]))) (sliF (varF 2) (some (opF addD (varF 3) (conF (.int 1)))) none)])))]) (retS (conF (.bl false))) (nilS)) (seqS (setS false 7 (bltF intD (argsF [opF neD (varF 5) (opF idxD (varF 2) (varF 3))]))) (ifS (testF (opF neD (bltF reprD (argsF [lstF (argsF [opRF (ownBD ⟨callN Pg fuel (k + 4), fuel⟩ 10 8) (varF 1) (varF 6), opRF (ownBD ⟨callN Pg fuel (k + 4), fuel⟩ 10 8) (varF 6) (varF 1), opRF (own1D ⟨callN Pg fuel (k + 4), fuel⟩ 10 5 [10]) (varF 1) (varF 6)])])) (bltF reprD (argsF [lstF (argsF [varF 7, varF 7, opF eqD (varF 7) (conF (.int 0))])])))) (retS (conF (.bl false))) (nilS))))
theorem word_turn {w : Str} {o : Ob} {x5 x6 x7 x8 x9 : Option D} (h : Six a b c d e f) (hj : j < 6) (hw : w ∈ wds j) : ∃ y6 y7, bodyW k [some (.ref 0), some (tb (st6 a b c d e f)), some (.tup (st6 a b c d e f)), some (.int (j : Int)), some (.str (csN.getD j "")), some (.str w), x6, x7, x8, x9] [o] =
    .nx [some (.ref 0), some (tb (st6 a b c d e f)), some (.tup (st6 a b c d e f)), some (.int (j : Int)), some (.str (csN.getD j "")), some (.str w), y6, y7, x8, x9] [o] := by
  obtain ⟨a', b', c', d', e', f', hset, h', hun⟩ := set_six h hj hw
  let xs : List D := st6 a b c d e f
  let ys : List D := st6 a' b' c' d' e' f'
  let E0 : EnvD := [some (.ref 0), some (tb xs), some (.tup xs), some (.int (j : Int)), some (.str (csN.getD j "")), some (.str w), x6, x7, x8, x9]
  let E1 : EnvD := [some (.ref 0), some (tb xs), some (.tup xs), some (.int (j : Int)), some (.str (csN.getD j "")), some (.str w), some (tb ys), x7, x8, x9]
  let Z : Bool := pickS j a b c d e f == w
  let gap : Int := if (!Z) then 1 else 0
  let E2 : EnvD := [some (.ref 0), some (tb xs), some (.tup xs), some (.int (j : Int)), some (.str (csN.getD j "")), some (.str w), some (tb ys), some (.int gap), x8, x9]
  have hwith : ∀ S, callN Pg fuel (k + 4) 10 [tb (st6 a b c d e f), .str (csN.getD j ""), .str w] S = .ok (.val (tb ys)) S := fun S => by
    have := with6 (k := k + 1) (S := S) hj (wds_item hw).1 h.a h.b h.c h.d h.e h.f
    rw [ru_wds hw, if_pos rfl, hset] at this
    exact this
  have hc : ∀ S xs, isC 10 S (tb xs) = true := fun S xs => rfl
  have s1 : (setS false 6 (methF 10 10 ⟨callN Pg fuel (k + 4), fuel⟩ [] (varF 1) (argsF [varF 4, varF 5]))) E0 [o] = .nx E1 [o] := by
    simp only [setS, methF, argsF, varF, E0, List.getElem?_cons_zero, List.getElem?_cons_succ, R.bind, R.then, RV.d, hc, if_true, List.append_nil, List.cons_append, List.nil_append, xs, hwith, takeV, List.set_cons_zero, List.set_cons_succ, E1]
  have hown : ∀ S xs, isOwnD [10] 10 S (tb xs) = some true := fun S xs => rfl
  have hfld : ∀ S xs, fldD (sxL [(10, 0)]) S (tb xs) = some (.tup xs) := fun S xs => rfl
  obtain ⟨s, hs, hr⟩ := h'.ri.repr (by decide) (by decide)
  have hne : ∀ S, neD S (.str s) (.str s) = some (.val (.bl false)) := fun S => ne_same hs
  obtain ⟨ct, l1, l2⟩ := cut_set (a := a) (b := b) (c := c) (d := d) (e := e) (f := f) (y := .str w) hj
  have hsl : ∀ S lo hi, sliD S (.tup (st6 a b c d e f)) lo hi = some (.val (.tup (cutD (st6 a b c d e f) lo hi))) := fun S lo hi => rfl
  have ha1 : ∀ S, addD S (.tup (cutD (st6 a b c d e f) none (some (j : Int)))) (.tup [.str w]) = some (.val (.tup (cutD (st6 a b c d e f) none (some (j : Int)) ++ [.str w]))) := fun S => by
    simp only [addD]
    rw [if_pos (by rw [List.length_singleton]; omega)]
  have ha2 : ∀ S, addD S (.tup (cutD (st6 a b c d e f) none (some (j : Int)) ++ [.str w])) (.tup (cutD (st6 a b c d e f) (some ((j : Int) + 1)) none)) = some (.val (.tup ys)) := fun S => by
    simp only [addD]
    rw [if_pos (by rw [List.length_append, List.length_singleton]; omega), ct, hset]
  have hai : ∀ S (p q : Int), addD S (.int p) (.int q) = some (.val (.int (p + q))) := fun S p q => rfl
  have s2 : (ifS (orTF [notTF (testF (isiF (isOwnD [10] 10) (varF 6))), testF (opF neD (bltF reprD (argsF [fldF (sxL [(10, 0)]) (varF 6)])) (bltF reprD (argsF [opF addD (opF addD (sliF (varF 2) none (some (varF 3))) (tupF (argsF [varF 5]))) (sliF (varF 2) (some (opF addD (varF 3) (conF (.int 1)))) none)])))]) (retS (conF (.bl false))) (nilS)) E1 [o] = .nx E1 [o] := by
    simp only [ifS, orTF, notTF, testF, isiF, opF, bltF, argsF, fldF, sliF, partF, tupF, fitF, conF, varF, E1, List.getElem?_cons_zero, List.getElem?_cons_succ, R.bind, R.then, RV.d, hown, hfld, xs, ys, hr, hsl, ha1, ha2, hai, hne, Bool.not_true, Bool.false_eq_true, if_false, nilS, List.length_cons, List.length_nil, if_pos (show 0 + 1 ≤ 16777216 by decide)]
  have sw : (w == pickS j a b c d e f) = Z := by
    show _ = (pickS j a b c d e f == w)
    rw [Bool.eq_iff_iff, beq_iff_eq, beq_iff_eq]
    exact ⟨fun h => h.symm, fun h => h.symm⟩
  have hn2 : ∀ S, neD S (.str w) (.str (pickS j a b c d e f)) = some (.val (.bl (!Z))) := fun S => by
    rw [ne_words (wds_item hw).2 (wds_item (pick_mem h hj)).2, sw]
  have s3 : (setS false 7 (bltF intD (argsF [opF neD (varF 5) (opF idxD (varF 2) (varF 3))]))) E1 [o] = .nx E2 [o] := by
    simp only [setS, bltF, argsF, opF, varF, E1, List.getElem?_cons_zero, List.getElem?_cons_succ, R.bind, R.then, RV.d, xs, idx_some hj, hn2, Ev.intD, takeV, List.set_cons_zero, List.set_cons_succ, E2, gap]
  have hun2 : ((unlike a b c d e f a' b' c' d' e' f' : Nat) : Int) = gap := by
    rw [hun]
    show (((if Z = true then 0 else 1 : Nat)) : Int) = if (!Z) = true then 1 else 0
    cases Z <;> rfl
  have hsame : same a b c d e f a' b' c' d' e' f' = Z := by
    rw [← unlike_same, hun]
    show ((if Z = true then 0 else 1 : Nat) == 0) = Z
    cases Z <;> rfl
  obtain ⟨M, hM, r⟩ := ri_list (n := 2) (L := 60) (ds := [.int gap, .int gap, .bl Z]) (fun x hx => by
    simp only [List.mem_cons, List.not_mem_nil, or_false] at hx
    rcases hx with rfl | rfl | rfl
    · exact ri_gap
    · exact ri_gap
    · exact ri_bl) (by decide) (by decide) (by simp)
  have o1 : (argsF [lstF (argsF [opRF (ownBD ⟨callN Pg fuel (k + 4), fuel⟩ 10 8) (varF 1) (varF 6), opRF (ownBD ⟨callN Pg fuel (k + 4), fuel⟩ 10 8) (varF 6) (varF 1), opRF (own1D ⟨callN Pg fuel (k + 4), fuel⟩ 10 5 [10]) (varF 1) (varF 6)])]) E2 [o] = .ok [.lst [.int gap, .int gap, .bl Z]] [o] := by
    simp only [argsF, lstF, fitF, opRF, varF, E2, xs, ys, List.getElem?_cons_zero, List.getElem?_cons_succ, R.bind, RV.d, opSub h h', opSub h' h, opEq h h', noEx, unlike_comm (a := a) (b := b) (c := c) (d := d) (e := e) (f := f), hun2, hsame, Ob.toD, List.length_cons, List.length_nil, if_pos (show 0 + 1 + 1 + 1 ≤ 16777216 by decide)]
  have hg0 : ∀ S, eqD S (.int gap) (.int 0) = some (.val (.bl Z)) := fun S => by
    show eqD S (.int (if (!Z) = true then 1 else 0)) (.int 0) = _
    cases Z <;> rfl
  have o2 : (argsF [lstF (argsF [varF 7, varF 7, opF eqD (varF 7) (conF (.int 0))])]) E2 [o] = .ok [.lst [.int gap, .int gap, .bl Z]] [o] := by
    simp only [argsF, lstF, fitF, opF, conF, varF, E2, List.getElem?_cons_zero, List.getElem?_cons_succ, R.bind, RV.d, hg0, Ob.toD, List.length_cons, List.length_nil, if_pos (show 0 + 1 + 1 + 1 ≤ 16777216 by decide)]
  have s4 : (ifS (testF (opF neD (bltF reprD (argsF [lstF (argsF [opRF (ownBD ⟨callN Pg fuel (k + 4), fuel⟩ 10 8) (varF 1) (varF 6), opRF (ownBD ⟨callN Pg fuel (k + 4), fuel⟩ 10 8) (varF 6) (varF 1), opRF (own1D ⟨callN Pg fuel (k + 4), fuel⟩ 10 5 [10]) (varF 1) (varF 6)])])) (bltF reprD (argsF [lstF (argsF [varF 7, varF 7, opF eqD (varF 7) (conF (.int 0))])])))) (retS (conF (.bl false))) (nilS)) E2 [o] = .nx E2 [o] := if_same o1 o2 r (by decide) hM
  exact ⟨_, _, (seq_nx s1).trans ((seq_nx s2).trans ((seq_nx s3).trans s4))⟩
/-- one case -/
def bodyC (k : Nat) : MS := seqS (setS false 4 (opF idxD (usrF 18 ⟨callN Pg fuel (k + 4), fuel⟩ [] (argsF [])) (varF 3))) (seqS (ifS (testF (opF neD (bltF reprD (argsF [lstF (argsF [ixOF 10 6 ⟨callN Pg fuel (k + 4), fuel⟩ (varF 1) (varF 4), ixOF 10 6 ⟨callN Pg fuel (k + 4), fuel⟩ (varF 1) (varF 4)])])) (bltF reprD (argsF [opF mulD (lstF (argsF [opF idxD (varF 2) (varF 3)])) (conF (.int 2))])))) (retS (conF (.bl false))) (nilS)) (seqS (forS fuel (.nm 5) (iterF (usrF 14 ⟨callN Pg fuel (k + 4), fuel⟩ [] (argsF [varF 3]))) (seqS (setS false 6 (methF 10 10 ⟨callN Pg fuel (k + 4), fuel⟩ [] (varF 1) (argsF [varF 4, varF 5]))) (seqS (ifS (orTF [notTF (testF (isiF (isOwnD [10] 10) (varF 6))), testF (opF neD (bltF reprD (argsF [fldF (sxL [(10, 0)]) (varF 6)])) (bltF reprD (argsF [opF addD (opF addD (sliF (varF 2) none (some (varF 3))) (tupF (argsF [varF 5]))) (sliF (varF 2) (some (opF addD (varF 3) (conF (.int 1)))) none)])))]) (retS (conF (.bl false))) (nilS)) (seqS (setS false 7 (bltF intD (argsF [opF neD (varF 5) (opF idxD (varF 2) (varF 3))]))) (ifS (testF (opF neD (bltF reprD (argsF [lstF (argsF [opRF (ownBD ⟨callN Pg fuel (k + 4), fuel⟩ 10 8) (varF 1) (varF 6), opRF (ownBD ⟨callN Pg fuel (k + 4), fuel⟩ 10 8) (varF 6) (varF 1), opRF (own1D ⟨callN Pg fuel (k + 4), fuel⟩ 10 5 [10]) (varF 1) (varF 6)])])) (bltF reprD (argsF [lstF (argsF [varF 7, varF 7, opF eqD (varF 7) (conF (.int 0))])])))) (retS (conF (.bl false))) (nilS)))))) (seqS (setS false 8 (usrF 22 ⟨callN Pg fuel (k + 4), fuel⟩ [] (argsF [varF 0]))) (seqS (setS false 9 (toldF (exL [(1, true), (2, true), (3, true), (4, true), (5, true), (6, true), (7, true), (8, true), (9, true)]) (t_17 ⟨callN Pg fuel (k + 4), fuel⟩) (methF 10 10 ⟨callN Pg fuel (k + 4), fuel⟩ [] (varF 1) (argsF [varF 4, varF 8])))) (ifS (andTF [notTF (testF (usrF 19 ⟨callN Pg fuel (k + 4), fuel⟩ [] (argsF [varF 3, varF 8]))), testF (opF neD (bltF reprD (argsF [varF 9])) (bltF reprD (argsF [tupF (argsF [conF (.str "table"), varF 4])])))]) (retS (conF (.bl false))) (nilS))))))
theorem case_turn {B : Nat} {o : Ob} {x4 x5 x6 x7 x8 x9 : Option D} (h : Six a b c d e f) (hj : j < 6) (ho : MOk B o) (hB : B < 1000000) : ∃ o' y4 y5 y6 y7 y8 y9, MOk (B + 1) o' ∧ bodyC k [some (.ref 0), some (tb (st6 a b c d e f)), some (.tup (st6 a b c d e f)), some (.int (j : Int)), x4, x5, x6, x7, x8, x9] [o] =
    .nx [some (.ref 0), some (tb (st6 a b c d e f)), some (.tup (st6 a b c d e f)), some (.int (j : Int)), y4, y5, y6, y7, y8, y9] [o'] := by
  let xs : List D := st6 a b c d e f
  let cs : Str := csN.getD j ""
  have s1 : (setS false 4 (opF idxD (usrF 18 ⟨callN Pg fuel (k + 4), fuel⟩ [] (argsF [])) (varF 3))) [some (.ref 0), some (tb xs), some (.tup xs), some (.int (j : Int)), x4, x5, x6, x7, x8, x9] [o] = .nx [some (.ref 0), some (tb xs), some (.tup xs), some (.int (j : Int)), some (.str cs), x5, x6, x7, x8, x9] [o] := by
    simp only [setS, opF, usrF, argsF, varF, List.getElem?_cons_zero, List.getElem?_cons_succ, R.bind, R.then, RV.d, List.append_nil, call18, Ob.toD, idx_case hj, takeV, List.set_cons_zero, List.set_cons_succ, cs]
  have hc : ∀ S xs, isC 10 S (tb xs) = true := fun S xs => rfl
  have hget : ∀ S, callN Pg fuel (k + 4) 6 [tb (st6 a b c d e f), .str (csN.getD j "")] S = .ok (.val (.str (pickS j a b c d e f))) S := fun S => by
    rw [get6 (k := k + 2) hj, get_pick hj]
  have hpi : ∀ x ∈ [D.str (pickS j a b c d e f), .str (pickS j a b c d e f)], Ri 2 60 x := fun x hx => by
    simp only [List.mem_cons, List.not_mem_nil, or_false] at hx
    rcases hx with rfl | rfl <;> exact ri_item (wds_item (pick_mem h hj)).1
  obtain ⟨M, hM, r⟩ := ri_list hpi (by decide) (by decide) (by simp)
  have hmul : ∀ S x, mulD S (.lst [x]) (.int 2) = some (.new (.lst [x, x])) := fun S x => rfl
  have s2 : (ifS (testF (opF neD (bltF reprD (argsF [lstF (argsF [ixOF 10 6 ⟨callN Pg fuel (k + 4), fuel⟩ (varF 1) (varF 4), ixOF 10 6 ⟨callN Pg fuel (k + 4), fuel⟩ (varF 1) (varF 4)])])) (bltF reprD (argsF [opF mulD (lstF (argsF [opF idxD (varF 2) (varF 3)])) (conF (.int 2))])))) (retS (conF (.bl false))) (nilS)) [some (.ref 0), some (tb xs), some (.tup xs), some (.int (j : Int)), some (.str cs), x5, x6, x7, x8, x9] [o] = .nx [some (.ref 0), some (tb xs), some (.tup xs), some (.int (j : Int)), some (.str cs), x5, x6, x7, x8, x9] [o] :=
    if_same (d := .lst [.str (pickS j a b c d e f), .str (pickS j a b c d e f)])
      (by simp only [argsF, lstF, fitF, ixOF, varF, List.getElem?_cons_zero, List.getElem?_cons_succ, R.bind, RV.d, hc, if_true, xs, cs, hget, Ob.toD, List.length_cons, List.length_nil, if_pos (show 0 + 1 + 1 ≤ 16777216 by decide)])
      (by simp only [argsF, lstF, fitF, opF, conF, varF, List.getElem?_cons_zero, List.getElem?_cons_succ, R.bind, RV.d, xs, idx_some hj, Ob.toD, hmul, List.length_cons, List.length_nil, if_pos (show 0 + 1 ≤ 16777216 by decide)]) r (by decide) hM
  obtain ⟨E3, S3, hfor, z5, z6, z7, rfl, rfl⟩ := forL_ind (t := .nm 5) (body := bodyW k) (fun i env S => ∃ z5 z6 z7, env = [some (.ref 0), some (tb xs), some (.tup xs), some (.int (j : Int)), some (.str cs), z5, z6, z7, x8, x9] ∧ S = [o]) ((wds j).map D.str) 0 [some (.ref 0), some (tb xs), some (.tup xs), some (.int (j : Int)), some (.str cs), x5, x6, x7, x8, x9] [o] (fun i d env S hd hI => by
    obtain ⟨z5, z6, z7, rfl, rfl⟩ := hI
    obtain ⟨w, hw, rfl⟩ := List.mem_map.mp (List.mem_of_getElem? hd)
    obtain ⟨y6, y7, ht⟩ := word_turn (k := k) (o := o) (x5 := z5) (x6 := z6) (x7 := z7) (x8 := x8) (x9 := x9) h hj hw
    exact ⟨_, rfl, _, _, .inl ht, _, _, _, rfl, rfl⟩) ⟨x5, x6, x7, rfl, rfl⟩
  have s3 : (forS fuel (.nm 5) (iterF (usrF 14 ⟨callN Pg fuel (k + 4), fuel⟩ [] (argsF [varF 3]))) (bodyW k)) [some (.ref 0), some (tb xs), some (.tup xs), some (.int (j : Int)), some (.str cs), x5, x6, x7, x8, x9] [o] = .nx [some (.ref 0), some (tb xs), some (.tup xs), some (.int (j : Int)), some (.str cs), z5, z6, z7, x8, x9] [o] := by
    have hit : ∀ S ys, iterD S (.lst ys) = some (.st ys) := fun S ys => rfl
    simp only [forS, iterF, usrF, argsF, varF, List.getElem?_cons_zero, List.getElem?_cons_succ, R.bind, R.then, RV.d, List.append_nil, call14 hj, Ob.toD, hit, loopS]
    exact hfor
  obtain ⟨x, o4, hx, ho4, hc4⟩ := odd_call (k := k + 1) (r := 0) (S := [o]) rfl ho hB
  have s4 : (setS false 8 (usrF 22 ⟨callN Pg fuel (k + 4), fuel⟩ [] (argsF [varF 0]))) [some (.ref 0), some (tb xs), some (.tup xs), some (.int (j : Int)), some (.str cs), z5, z6, z7, x8, x9] [o] = .nx [some (.ref 0), some (tb xs), some (.tup xs), some (.int (j : Int)), some (.str cs), z5, z6, z7, some x, x9] [o4] := by
    simp only [setS, usrF, argsF, varF, List.getElem?_cons_zero, List.getElem?_cons_succ, R.bind, R.then, RV.d, List.append_nil, hc4, takeV, List.set_cons_zero, List.set_cons_succ]
  let E4 : EnvD := [some (.ref 0), some (tb xs), some (.tup xs), some (.int (j : Int)), some (.str cs), z5, z6, z7, some x, x9]
  have hmeth : (methF 10 10 ⟨callN Pg fuel (k + 4), fuel⟩ [] (varF 1) (argsF [varF 4, varF 8])) E4 [o4] = callN Pg fuel (k + 4) 10 [tb (st6 a b c d e f), .str (csN.getD j ""), x] [o4] := by
    simp only [methF, argsF, varF, E4, xs, cs, List.getElem?_cons_zero, List.getElem?_cons_succ, R.bind, RV.d, hc, if_true, List.append_nil]
  have hw6 := with6 (k := k + 1) (S := [o4]) hj hx h.a h.b h.c h.d h.e h.f
  have hir : ∀ S, callN Pg fuel (k + 4) 19 [.int (j : Int), x] S = .ok (.val (.bl (ruB j x))) S := fun S => isr19_at (k := k + 2) hj hx
  cases hru : ruB j x with
  | true =>
    rw [hru, if_pos rfl] at hw6
    have s5 : (setS false 9 (toldF (exL [(1, true), (2, true), (3, true), (4, true), (5, true), (6, true), (7, true), (8, true), (9, true)]) (t_17 ⟨callN Pg fuel (k + 4), fuel⟩) (methF 10 10 ⟨callN Pg fuel (k + 4), fuel⟩ [] (varF 1) (argsF [varF 4, varF 8])))) E4 [o4] = .nx (E4.set 9 (some (.lst [tb ((st6 a b c d e f).set j x)]))) [o4] := by
      have ht := told_ok (g := ⟨callN Pg fuel (k + 4), fuel⟩) (fL := methF 10 10 ⟨callN Pg fuel (k + 4), fuel⟩ [] (varF 1) (argsF [varF 4, varF 8])) (env := E4) (S := [o4]) (hmeth.trans hw6)
      generalize hT : toldF (exL l9) (t_17 ⟨callN Pg fuel (k + 4), fuel⟩) (methF 10 10 ⟨callN Pg fuel (k + 4), fuel⟩ [] (varF 1) (argsF [varF 4, varF 8])) = T at ht ⊢
      simp only [setS, ht, R.then, takeV, RV.d, Ob.toD]
    have s6 : (ifS (andTF [notTF (testF (usrF 19 ⟨callN Pg fuel (k + 4), fuel⟩ [] (argsF [varF 3, varF 8]))), testF (opF neD (bltF reprD (argsF [varF 9])) (bltF reprD (argsF [tupF (argsF [conF (.str "table"), varF 4])])))]) (retS (conF (.bl false))) (nilS)) (E4.set 9 (some (.lst [tb ((st6 a b c d e f).set j x)]))) [o4] = .nx (E4.set 9 (some (.lst [tb ((st6 a b c d e f).set j x)]))) [o4] := by
      simp only [ifS, andTF, notTF, testF, usrF, argsF, varF, E4, List.set_cons_zero, List.set_cons_succ, List.getElem?_cons_zero, List.getElem?_cons_succ, R.bind, R.then, RV.d, List.append_nil, hir, hru, Bool.not_true, Bool.false_eq_true, if_false, nilS]
    exact ⟨o4, _, _, _, _, _, _, ho4, (seq_nx s1).trans ((seq_nx s2).trans ((seq_nx s3).trans ((seq_nx s4).trans ((seq_nx s5).trans s6))))⟩
  | false =>
    rw [hru, if_neg (by decide)] at hw6
    have s5 : (setS false 9 (toldF (exL [(1, true), (2, true), (3, true), (4, true), (5, true), (6, true), (7, true), (8, true), (9, true)]) (t_17 ⟨callN Pg fuel (k + 4), fuel⟩) (methF 10 10 ⟨callN Pg fuel (k + 4), fuel⟩ [] (varF 1) (argsF [varF 4, varF 8])))) E4 [o4] = .nx (E4.set 9 (some (.tup [.str "table", .str cs]))) [o4] := by
      have ht := told_ex (k := k + 3) (fL := methF 10 10 ⟨callN Pg fuel (k + 4), fuel⟩ [] (varF 1) (argsF [varF 4, varF 8])) (env := E4) (S := [o4]) (d := .str cs) rfl (hmeth.trans hw6)
      generalize hT : toldF (exL l9) (t_17 ⟨callN Pg fuel (k + 4), fuel⟩) (methF 10 10 ⟨callN Pg fuel (k + 4), fuel⟩ [] (varF 1) (argsF [varF 4, varF 8])) = T at ht ⊢
      simp only [setS, ht, R.then, takeV, RV.d]
    obtain ⟨u, hu, hru2⟩ := (ri_table (ri_case (i := j))).repr (by decide) (by decide)
    have hnu : ∀ S, neD S (.str u) (.str u) = some (.val (.bl false)) := fun S => ne_same hu
    have s6 : (ifS (andTF [notTF (testF (usrF 19 ⟨callN Pg fuel (k + 4), fuel⟩ [] (argsF [varF 3, varF 8]))), testF (opF neD (bltF reprD (argsF [varF 9])) (bltF reprD (argsF [tupF (argsF [conF (.str "table"), varF 4])])))]) (retS (conF (.bl false))) (nilS)) (E4.set 9 (some (.tup [.str "table", .str cs]))) [o4] = .nx (E4.set 9 (some (.tup [.str "table", .str cs]))) [o4] := by
      simp only [ifS, andTF, notTF, testF, usrF, argsF, opF, bltF, tupF, fitF, conF, varF, E4, cs, List.set_cons_zero, List.set_cons_succ, List.getElem?_cons_zero, List.getElem?_cons_succ, R.bind, R.then, RV.d, List.append_nil, hir, hru, Bool.not_false, if_true, hru2, hnu, Bool.false_eq_true, if_false, nilS, List.length_cons, List.length_nil, if_pos (show 0 + 1 + 1 ≤ 16777216 by decide)]
    exact ⟨o4, _, _, _, _, _, _, ho4, (seq_nx s1).trans ((seq_nx s2).trans ((seq_nx s3).trans ((seq_nx s4).trans ((seq_nx s5).trans s6))))⟩
theorem cases_right {B r : Nat} {o : Ob} {S : Store} (h : Six a b c d e f) (hs : S[r]? = some o) (ho : MOk B o) (hB : B < 100000) : ∃ o', MOk (B + 6) o' ∧ callN Pg fuel (k + 5) 25 [.ref r, tb (st6 a b c d e f), .tup (st6 a b c d e f)] S = .ok (.val (.bl true)) (S.set r o') := by
  let xs : List D := st6 a b c d e f
  let E0 : EnvD := [some (.ref 0), some (tb xs), some (.tup xs), none, none, none, none, none, none, none]
  obtain ⟨E3, S3, hfor, o', z3, z4, z5, z6, z7, z8, z9, rfl, rfl, ho'⟩ := forL_ind (t := .nm 3) (body := bodyC k) (fun i env S => ∃ o z3 z4 z5 z6 z7 z8 z9, env = [some (.ref 0), some (tb xs), some (.tup xs), z3, z4, z5, z6, z7, z8, z9] ∧ S = [o] ∧ MOk (B + i) o) (([0, 1, 2, 3, 4, 5] : List Nat).map fun j : Nat => D.int (j : Int)) 0 E0 [o] (fun i d env S hd hI => by
    obtain ⟨hi, rfl⟩ := at6 hd
    obtain ⟨o, z3, z4, z5, z6, z7, z8, z9, rfl, rfl, ho⟩ := hI
    obtain ⟨o', y4, y5, y6, y7, y8, y9, ho', ht⟩ := case_turn (k := k) (x4 := z4) (x5 := z5) (x6 := z6) (x7 := z7) (x8 := z8) (x9 := z9) h hi ho (by omega)
    exact ⟨_, rfl, _, _, .inl ht, _, _, _, _, _, _, _, _, rfl, rfl, ho'.mono (by omega)⟩) ⟨o, none, none, none, none, none, none, none, rfl, rfl, ho⟩
  refine ⟨o', ho'.mono (by simp), ?_⟩
  have s1 : (forS fuel (.nm 3) (rngF rng1D (argsF [conF (.int 6)])) (bodyC k)) E0 [o] = .nx [some (.ref 0), some (tb xs), some (.tup xs), z3, z4, z5, z6, z7, z8, z9] [o'] := by
    simp only [forS, rngF, argsF, conF, R.bind, R.then, RV.d, rng6, loopS]
    exact hfor
  obtain ⟨s, hs2, hr⟩ := h.ri.repr (by decide) (by decide)
  have hes : ∀ S, eqD S (.str s) (.str s) = some (.val (.bl true)) := fun S => eq_same hs2
  have hf : ∀ S, fldD (sxL [(10, 0)]) S (tb xs) = some (.tup xs) := fun S => rfl
  have s2 : (retS (opF eqD (bltF reprD (argsF [fldF (sxL [(10, 0)]) (varF 1)])) (bltF reprD (argsF [varF 2])))) [some (.ref 0), some (tb xs), some (.tup xs), z3, z4, z5, z6, z7, z8, z9] [o'] = .ret (.val (.bl true)) [o'] := by
    simp only [retS, opF, bltF, argsF, fldF, varF, List.getElem?_cons_zero, List.getElem?_cons_succ, R.bind, R.then, RV.d, hf, xs, hr, hes]
  have hend : b_25 ⟨callN Pg fuel (k + 4), fuel⟩ E0 [o] = .ret (.val (.bl true)) [o'] := (seq_nx s1).trans s2
  rw [callN_succ (np := 3) (nn := 10) (b := b_25) rfl, runD_ref (np := 3) (args := [tb (st6 a b c d e f), .tup (st6 a b c d e f)]) rfl rfl hs ho.free]
  show endR 1 _ (b_25 ⟨callN Pg fuel (k + 4), fuel⟩ E0 [o]) = _
  rw [hend]
  simp only [endR, outR_free (d := .bl true) rfl, List.getElem?_cons_zero, ho'.free, if_true]
end
end Lw_k03
namespace Lw_k03
open PySem L2 Ev
theorem hand_right {S : Store} : callN Pg fuel 11 28 [] S = .ok (.val (.bl true)) S := by kernel_rfl
def turnB : MS := ifS (notTF (testF (usrF 24 ⟨callN Pg fuel 11, fuel⟩ [] (argsF [varF 2, varF 3])))) (retS (conF (.bl false))) (nilS)
def bodyL : MS := seqS (setS true 2 (usrF 11 ⟨callN Pg fuel 11, fuel⟩ [] (argsF [varF 0, varF 1]))) (seqS (parS 3 4 (argsM [(false, usrF 15 ⟨callN Pg fuel 11, fuel⟩ [] (argsF [varF 2])), (false, usrF 15 ⟨callN Pg fuel 11, fuel⟩ [] (argsF [varF 2]))])) (seqS (ifS (orTF [notTF (testF (usrF 21 ⟨callN Pg fuel 11, fuel⟩ [] (argsF [varF 3]))), notTF (testF (usrF 21 ⟨callN Pg fuel 11, fuel⟩ [] (argsF [bltF listD (argsF [varF 3])]))), notTF (testF (usrF 27 ⟨callN Pg fuel 11, fuel⟩ [] (argsF [varF 3, varF 4])))]) (retS (conF (.bl false))) (nilS)) (seqS (setS false 5 (mkF 10 3 ⟨callN Pg fuel 11, fuel⟩ [] (argsF [varF 3]))) (seqS (ifS (orTF [notTF (testF (usrF 25 ⟨callN Pg fuel 11, fuel⟩ [] (argsF [varF 2, varF 5, varF 3]))), notTF (testF (usrF 26 ⟨callN Pg fuel 11, fuel⟩ [] (argsF [varF 5, varF 3])))]) (retS (conF (.bl false))) (nilS)) (forS fuel (.nm 6) (rngF rng1D (argsF [conF (.int 6)])) (ifS (notTF (testF (usrF 24 ⟨callN Pg fuel 11, fuel⟩ [] (argsF [varF 2, varF 3])))) (retS (conF (.bl false))) (nilS)))))))
theorem all_last {S : Store} {o : Ob} (h : S.all Ob.free = true) (ho : o.free = true) : (S ++ [o]).all Ob.free = true := by
  rw [List.all_append, h]
  show (o.free && true) = true
  rw [ho]; rfl
theorem Good.six {ys : List D} (h : Good ys) : ∃ a b c d e f, ys = st6 a b c d e f ∧ Six a b c d e f := by
  obtain ⟨a, b, c, d, e, f, rfl, h0, h1, h2, h3, h4, h5⟩ := h.split
  exact ⟨a, b, c, d, e, f, rfl, h0, h1, h2, h3, h4, h5⟩
theorem turn_loop {B : Nat} {o : Ob} {S : Store} {env : EnvD} {ys : List D} (hg : Good ys) (ho : MOk B o) (hB : B < 1000) (h2 : env[2]? = some (some (.ref S.length))) (h3 : env[3]? = some (some (.tup ys))) (hl : env.length = 7) :
    ∃ o' e2, e2.length = 7 ∧ e2[0]? = env[0]? ∧ MOk (B + 48) o' ∧ (forS fuel (.nm 6) (rngF rng1D (argsF [conF (.int 6)])) turnB) env (S ++ [o]) = .nx e2 (S ++ [o']) := by
  obtain ⟨e2, S2, hfor, o', rfl, ho', q2, q3, q0, ql⟩ := forL_ind (t := .nm 6) (body := turnB) (fun i e S' => ∃ o, S' = S ++ [o] ∧ MOk (B + 8 * i) o ∧ e[2]? = some (some (.ref S.length)) ∧ e[3]? = some (some (.tup ys)) ∧ e[0]? = env[0]? ∧ e.length = 7) (([0, 1, 2, 3, 4, 5] : List Nat).map fun j : Nat => D.int (j : Int)) 0 env (S ++ [o]) (fun i d e S' hd hI => by
    obtain ⟨hi, rfl⟩ := at6 hd
    obtain ⟨o, rfl, ho, q2, q3, q0, ql⟩ := hI
    obtain ⟨o', ho', hc⟩ := spoilt_call (k := 6) (q := S.length) (S := S ++ [o]) last_at ho (by omega) hg
    rw [last_set] at hc
    have r2 : (e.set 6 (some (.int (i : Int))))[2]? = some (some (.ref S.length)) := by rw [List.getElem?_set_ne (by decide)]; exact q2
    have r3 : (e.set 6 (some (.int (i : Int))))[3]? = some (some (.tup ys)) := by rw [List.getElem?_set_ne (by decide)]; exact q3
    have r0 : (e.set 6 (some (.int (i : Int))))[0]? = env[0]? := by rw [List.getElem?_set_ne (by decide)]; exact q0
    refine ⟨_, rfl, e.set 6 (some (.int (i : Int))), S ++ [o'], .inl ?_, o', rfl, ho'.mono (by omega), r2, r3, r0, by rw [List.length_set]; exact ql⟩
    simp only [turnB, ifS, notTF, testF, usrF, argsF, varF, r2, r3, R.bind, R.then, RV.d, List.append_nil, hc, Bool.not_true, Bool.false_eq_true, if_false, nilS]) ⟨o, rfl, ho, h2, h3, rfl, hl⟩
  refine ⟨o', e2, ql, q0, ho'.mono (by simp), ?_⟩
  simp only [forS, rngF, argsF, conF, R.bind, R.then, RV.d, rng6, loopS]
  exact hfor
theorem law_turn {ns : List Int} {i : Nat} {S : Store} {x2 x3 x4 x5 x6 : Option D} (hl : ns.length ≤ 63) (hi : i < 6) (hS : S.all Ob.free = true) :
    ∃ e2 S2, e2.length = 7 ∧ e2[0]? = some (some (.scr (ns.map D.int))) ∧ S2.all Ob.free = true ∧ bodyL [some (.scr (ns.map D.int)), some (.int (i : Int)), x2, x3, x4, x5, x6] S = .nx e2 S2 := by
  obtain ⟨o1, ho1, hc1⟩ := begun_call (P := Pg) (fuel := fuel) (k := 10) (i := 11) (S := S) (ns := ns) (t := (i : Int)) p11 q11 (by omega) (by omega) (by omega)
  obtain ⟨o2, ys, ho2, hg, hc2⟩ := rules_call (k := 8) (r := S.length) (S := S ++ [o1]) last_at ho1 (by decide)
  rw [last_set] at hc2
  obtain ⟨o3, zs, ho3, hg3, hc3⟩ := rules_call (k := 8) (r := S.length) (S := S ++ [o2]) last_at ho2 (by decide)
  rw [last_set] at hc3
  obtain ⟨a, b, c, d, e, f, rfl, h6⟩ := hg.six
  obtain ⟨a', b', c', d', e', f', rfl, h6'⟩ := hg3.six
  have hS3 : (S ++ [o3]).all Ob.free = true := all_last hS ho3.free
  let sc : D := .scr (ns.map D.int)
  let E1 : EnvD := [some sc, some (.int (i : Int)), some (.ref S.length), x3, x4, x5, x6]
  let E2 : EnvD := [some sc, some (.int (i : Int)), some (.ref S.length), some (.tup (st6 a b c d e f)), some (.tup (st6 a' b' c' d' e' f')), x5, x6]
  let E3 : EnvD := [some sc, some (.int (i : Int)), some (.ref S.length), some (.tup (st6 a b c d e f)), some (.tup (st6 a' b' c' d' e' f')), some (tb (st6 a b c d e f)), x6]
  have s1 : (setS true 2 (usrF 11 ⟨callN Pg fuel 11, fuel⟩ [] (argsF [varF 0, varF 1]))) [some sc, some (.int (i : Int)), x2, x3, x4, x5, x6] S = .nx E1 (S ++ [o1]) := by
    simp only [setS, usrF, argsF, varF, List.getElem?_cons_zero, List.getElem?_cons_succ, R.bind, R.then, RV.d, List.append_nil, sc, hc1, takeV, List.set_cons_zero, List.set_cons_succ, E1]
  have s2 : (parS 3 4 (argsM [(false, usrF 15 ⟨callN Pg fuel 11, fuel⟩ [] (argsF [varF 2])), (false, usrF 15 ⟨callN Pg fuel 11, fuel⟩ [] (argsF [varF 2]))])) E1 (S ++ [o1]) = .nx E2 (S ++ [o3]) := by
    simp only [parS, argsM, usrF, argsF, varF, E1, List.getElem?_cons_zero, List.getElem?_cons_succ, R.bind, R.then, RV.d, List.append_nil, hc2, hc3, takeV, List.set_cons_zero, List.set_cons_succ, E2]
  have r1 : ∀ S, callN Pg fuel 11 21 [.tup (st6 a b c d e f)] S = .ok (.val (.bl true)) S := fun S => right_row (k := 7) (t := true) h6.items (by simp)
  have r2 : ∀ S, callN Pg fuel 11 21 [.lst (st6 a b c d e f)] S = .ok (.val (.bl true)) S := fun S => right_row (k := 7) (t := false) h6.items (by simp)
  have r3 : ∀ S, callN Pg fuel 11 27 [.tup (st6 a b c d e f), .tup (st6 a' b' c' d' e' f')] S = .ok (.val (.bl true)) S := fun S => two_right (k := 7) h6 h6'
  have hli : ∀ S xs, listD S [.tup xs] = some (.new (.lst xs)) := fun S xs => rfl
  have s3 : (ifS (orTF [notTF (testF (usrF 21 ⟨callN Pg fuel 11, fuel⟩ [] (argsF [varF 3]))), notTF (testF (usrF 21 ⟨callN Pg fuel 11, fuel⟩ [] (argsF [bltF listD (argsF [varF 3])]))), notTF (testF (usrF 27 ⟨callN Pg fuel 11, fuel⟩ [] (argsF [varF 3, varF 4])))]) (retS (conF (.bl false))) (nilS)) E2 (S ++ [o3]) = .nx E2 (S ++ [o3]) := by
    simp only [ifS, orTF, notTF, testF, usrF, argsF, bltF, varF, E2, List.getElem?_cons_zero, List.getElem?_cons_succ, R.bind, R.then, RV.d, Ob.toD, List.append_nil, r1, r2, r3, hli, Bool.not_true, Bool.false_eq_true, if_false, nilS]
  have hm : mkR 10 3 ⟨callN Pg fuel 11, fuel⟩ [.tup (st6 a b c d e f)] (S ++ [o3]) = .ok (.val (tb (st6 a b c d e f))) (S ++ [o3]) := mkS (k := 9) (t := true) hS3 h6
  have s4 : (setS false 5 (mkF 10 3 ⟨callN Pg fuel 11, fuel⟩ [] (argsF [varF 3]))) E2 (S ++ [o3]) = .nx E3 (S ++ [o3]) := by
    simp only [setS, mkF, argsF, varF, E2, List.getElem?_cons_zero, List.getElem?_cons_succ, R.bind, R.then, RV.d, List.append_nil, hm, takeV, List.set_cons_zero, List.set_cons_succ, E3]
  obtain ⟨o4, ho4, hc4⟩ := cases_right (k := 6) (r := S.length) (S := S ++ [o3]) h6 last_at ho3 (by decide)
  rw [last_set] at hc4
  have hc5 : ∀ S, callN Pg fuel 11 26 [tb (st6 a b c d e f), .tup (st6 a b c d e f)] S = .ok (.val (.bl true)) S := fun S => refused_right (k := 6) h6
  have s5 : (ifS (orTF [notTF (testF (usrF 25 ⟨callN Pg fuel 11, fuel⟩ [] (argsF [varF 2, varF 5, varF 3]))), notTF (testF (usrF 26 ⟨callN Pg fuel 11, fuel⟩ [] (argsF [varF 5, varF 3])))]) (retS (conF (.bl false))) (nilS)) E3 (S ++ [o3]) = .nx E3 (S ++ [o4]) := by
    simp only [ifS, orTF, notTF, testF, usrF, argsF, varF, E3, List.getElem?_cons_zero, List.getElem?_cons_succ, R.bind, R.then, RV.d, List.append_nil, hc4, hc5, Bool.not_true, Bool.false_eq_true, if_false, nilS]
  obtain ⟨o5, e6, l6, q6, ho5, s6⟩ := turn_loop (B := 46) (o := o4) (S := S) (env := E3) hg (ho4.mono (by decide)) (by decide) rfl rfl rfl
  exact ⟨e6, S ++ [o5], l6, q6, all_last hS ho5.free, (seq_nx s1).trans ((seq_nx s2).trans ((seq_nx s3).trans ((seq_nx s4).trans ((seq_nx s5).trans s6))))⟩
theorem env7 {e : EnvD} (h : e.length = 7) : ∃ x0 x1 x2 x3 x4 x5 x6, e = [x0, x1, x2, x3, x4, x5, x6] := by
  match e, h with
  | [x0, x1, x2, x3, x4, x5, x6], _ => exact ⟨x0, x1, x2, x3, x4, x5, x6, rfl⟩
theorem plain (ns : List Int) (hl : ns.length ≤ 63) (_ : ∀ z ∈ ns, Builtin.Int.intBits z ≤ 1048576) : (callN Pg fuel 12 29 [.scr (ns.map D.int)] []).sat (fun r _ => r = .val (.bl true)) (fun _ _ => False) := by
  let sc : D := .scr (ns.map D.int)
  let E0 : EnvD := [some sc, none, none, none, none, none, none]
  let n : Nat := 1 + min ns.length 5
  have hfr : ∀ l : List Int, frees (l.map D.int) = true := fun l => by
    induction l with
    | nil => rfl
    | cons a r ih => exact Bool.and_eq_true_iff.mpr ⟨rfl, ih⟩
  have hr : ∃ ds : List D, rng1D [.int (1 + (min (ns.length : Int) 5))] = some ds ∧ ∀ (j : Nat) (d : D), ds[j]? = some d → j < 6 ∧ d = .int (j : Int) := by
    have hn : ∀ m : Nat, m ≤ 6 → ∃ ds : List D, rng1D [.int (m : Int)] = some ds ∧ ∀ (j : Nat) (d : D), ds[j]? = some d → j < 6 ∧ d = .int (j : Int) := fun m hm => by
      have go : ∀ l : List Nat, l = List.range m → rng1D [.int (m : Int)] = some (l.map fun i : Nat => D.int (i : Int)) → ∃ ds : List D, rng1D [.int (m : Int)] = some ds ∧ ∀ (j : Nat) (d : D), ds[j]? = some d → j < 6 ∧ d = .int (j : Int) := fun l hl e => by
        refine ⟨_, e, fun j d hj => ?_⟩
        subst hl
        obtain ⟨v, hv, rfl⟩ := Option.map_eq_some_iff.mp (List.getElem?_map.symm.trans hj)
        obtain ⟨hlt, rfl⟩ := List.getElem?_eq_some_iff.mp hv
        rw [List.length_range] at hlt
        exact ⟨Nat.lt_of_lt_of_le hlt hm, by rw [List.getElem_range]⟩
      match m, hm with
      | 0, _ => exact go [] rfl (by kernel_rfl)
      | 1, _ => exact go [0] rfl (by kernel_rfl)
      | 2, _ => exact go [0, 1] rfl (by kernel_rfl)
      | 3, _ => exact go [0, 1, 2] rfl (by kernel_rfl)
      | 4, _ => exact go [0, 1, 2, 3] rfl (by kernel_rfl)
      | 5, _ => exact go [0, 1, 2, 3, 4] rfl (by kernel_rfl)
      | 6, _ => exact go [0, 1, 2, 3, 4, 5] rfl (by kernel_rfl)
    have e : (1 + min (ns.length : Int) 5) = ((1 + min ns.length 5 : Nat) : Int) := by omega
    rw [e]
    exact hn _ (by omega)
  obtain ⟨ds, hds, hat⟩ := hr
  obtain ⟨e2, S2, hfor, hl2, h02, hS2⟩ := forL_ind (t := .nm 1) (body := bodyL) (fun i e S => e.length = 7 ∧ e[0]? = some (some sc) ∧ S.all Ob.free = true) ds 0 E0 [] (fun j d e S hd hI => by
    obtain ⟨hj, rfl⟩ := hat j d hd
    obtain ⟨he, he0, hS⟩ := hI
    obtain ⟨x0, x1, x2, x3, x4, x5, x6, rfl⟩ := env7 he
    have hx0 : x0 = some sc := by simpa using he0
    subst hx0
    obtain ⟨e2, S2, k1, k2, k3, k4⟩ := law_turn (x2 := x2) (x3 := x3) (x4 := x4) (x5 := x5) (x6 := x6) hl hj hS
    exact ⟨_, rfl, e2, S2, .inl k4, k1, k2, k3⟩) ⟨rfl, rfl, rfl⟩
  have hlen : ∀ S, lenD S [sc] = some (.val (.int (ns.length : Int))) := fun S => by
    show some (RV.val (D.int ((ns.map D.int).length : Int))) = _
    rw [List.length_map]
  have hmin : ∀ S (i j : Int), min2D S [.int i, .int j] = some (.val (.int (min i j))) := fun S i j => by
    have e : min i j = if j < i then j else i := by
      split <;> omega
    rw [e]
    rfl
  have hadd : ∀ S (i j : Int), addD S (.int i) (.int j) = some (.val (.int (i + j))) := fun S i j => rfl
  have s1 : (forS fuel (.nm 1) (rngF rng1D (argsF [opF addD (conF (.int 1)) (bltF min2D (argsF [bltF lenD (argsF [varF 0]), conF (.int 5)]))])) bodyL) E0 [] = .nx e2 S2 := by
    simp only [forS, rngF, argsF, opF, bltF, conF, varF, E0, List.getElem?_cons_zero, R.bind, R.then, RV.d, hlen, hmin, hadd, hds, loopS]
    exact hfor
  have hend : b_29 ⟨callN Pg fuel 11, fuel⟩ E0 [] = .ret (.val (.bl true)) S2 := by
    refine (seq_nx s1).trans ?_
    simp only [retS, usrF, argsF, R.bind, R.then, List.append_nil, hand_right]
  rw [callN_succ (np := 1) (nn := 7) (b := b_29) rfl, runD_free (np := 1) (frees_one (d := .scr (ns.map D.int)) (hfr ns)) rfl]
  show (endR 0 _ (b_29 ⟨callN Pg fuel 11, fuel⟩ E0 [])).sat _ _
  rw [hend]
  rfl
end Lw_k03
/-! Printed by tr.py: the end of law_k03_tables_made. -/
namespace Lw_k03
open PySem L2 PyProof.Rows LamX He Ev
theorem lawG {w : World} {K : PySem.W.Frag} {mg : Str → Option Value} {fa0 : Addr} {h : Heap} (X : K.In h) (c : SaysS fa fn ts tf xs gs (fun K => cks.all fun c => c K) w h K) (G : h.Ns mainGlobals mg) (hfa : mg ("law" : Str) = some (.ref fa0)) : LawG PySem.Challenge.rw_pairsettle_k03_tables_made w K (Gam K) (callN Pg fuel 12 29) 72 "_law_script" mg fa0 h := by
  obtain ⟨fd, FD⟩ := c.x.t.d.def_ 27 (d := dd_29)
  have e := hfa.symm.trans (He.glo_ok X G (c.x.t.d.fact 46 (f := .glo "law")))
  cases e
  refine ⟨⟨fd, tf.map (cT K), fun p hp => ?_, fun p hp => ?_, fun p hp => ?_, fun s u => FD.bindsA (ps := ["_law_script"]) (fun _ _ _ _ _ _ us hl => match us, hl with | [_], _ => rfl) s [u] rfl, fun p hp => ?_, fun base Kb Gb TB => ?_⟩, fun b o hb he => ?_⟩
  · obtain ⟨z, hz, rfl⟩ := List.mem_map.mp hp
    exact c.x.empty z hz
  · obtain ⟨z, hz, rfl⟩ := List.mem_map.mp hp
    exact c.x.out z hz
  · obtain ⟨z, hz, rfl⟩ := List.mem_map.mp hp
    exact PySem.W.codeHd_of_K X (c.x.hd z hz)
  · obtain ⟨z, hz, rfl⟩ := List.mem_map.mp (show p ∈ lqs.map fun p => ((cT K p.1).2, p.2) from hp)
    exact List.mem_map.mpr ⟨cT K z.1, List.mem_map.mpr ⟨z.1, (show lqs.map Prod.fst = tf from rfl) ▸ List.mem_map_of_mem hz, rfl⟩, rfl⟩
  · exact fl_29 (base := base) ⟨⟨h, X, G, c⟩, fun p hp => TB _ (List.mem_map_of_mem hp)⟩ FD 12
  · have q := List.all_eq_true.mp (List.all_eq_true.mp c.x.more ck_42 (List.mem_of_getElem? (i := 42) rfl)) _ (He.lookup_mem hb)
    simp only [he, decide_true, Bool.not_true] at q
    cases q
end Lw_k03
open PySem PySem.W PySem.Calls PyProof.Rows
set_option maxRecDepth 100000 in
set_option maxHeartbeats 8000000 in
theorem PySem.Challenge.cw_pairsettle_k03_tables_made_holds : PySem.Challenge.rw_pairsettle_k03_tables_made.Holds := by
  w_on; o_law
  refine HandSHeadRun.head_any (r := OpenLaw.row PySem.Challenge.rw_pairsettle_k03_tables_made) (q := view (OpenLaw.row PySem.Challenge.rw_pairsettle_k03_tables_made).prog [53]) (H := Lw_k03.hk) (ob := Lw_k03.ob) (M := 4200) (loose := Lw_k03.loose) (d := HandSHeadRun.topDef (OpenLaw.row PySem.Challenge.rw_pairsettle_k03_tables_made).prog 53) (kwd := []) Lw_k03.ob_eq
    (by kernel_rfl) (fun s => by kernel_rfl) Lw_k03.run (by kernel_rfl) (by kernel_rfl) (by kernel_rfl) (by rfl) (by first | assumption | decide +kernel) (by decide +kernel) ⟨rfl, rfl, rfl, rfl, rfl, by decide +kernel⟩ ?hw ?hc
  case hw => w_witness2
  case hc =>
    refine Ev.walk_G (l := PySem.Challenge.rw_pairsettle_k03_tables_made) (n := 63) (k := 72) (x := "_law_script") (Γ := Lw_k03.Gam) (f := Ev.callN Lw_k03.Pg Lw_k03.fuel 12 29) rfl (by decide) (by kernel_rfl) ⟨⟨rfl, by decide, by decide⟩, rfl⟩ ?F Lw_k03.plain
    intro w mg fa h Y G hmg0
    obtain ⟨K, KX, c⟩ := Y
    have hmg : mg ("law" : PySem.Str) = some (.ref fa) := by
      have e : (HandSHeadRun.topDef (OpenLaw.row PySem.Challenge.rw_pairsettle_k03_tables_made).prog 53).name = ("law" : PySem.Str) := by kernel_rfl
      rw [← e]
      exact hmg0
    exact ⟨K, KX, Lw_k03.lawG KX c G hmg⟩
