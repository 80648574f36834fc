import PyProof.Rows.All
import Wide.All
import OpenK.AllK
import Wide.FinOn
import HandS.ForMost
import HandS.ForExc
import HandS.Lambda
import HandS.TupAny
import HandS.Wide
import HandS.IsInst
import HandS.FStr
import HandS.Flow
import HandS.EndBits
import HandS.RaiseMore
import PyProof.ReprRoads
import HandS.TupLe
import HandS.Codes
import KE.KExcSuper
import HandS.ExcInit
import HandS.ExcField
import HandS.HotCalls
import KE.KTryMore
import HandS.TryMany
import HandS.EndTab
import KE.KDflt
import PySem.Challenge.RW_heardways_k02_ratios_made
set_option Elab.async false
set_option linter.all false
set_option maxRecDepth 100000
set_option maxHeartbeats 1000000
/-! Hw: a layer of data over the hand layer. Values that never change are data (D); objects that change stand in a store (Mu). -/
namespace Hw
open PySem L2

/-- a value as data -/
inductive D where
  | non
  | bl (b : Bool)
  | int (i : Int)
  | str (s : Str)
  | ty (n : String)
  | ref (a : Addr)
  | tup (xs : List D)
  | lst (xs : List D)
  | rol (xs : List D)
  | obj (C : Addr) (fs : List (Str × D))
  | dic (kvs : List (Key × D))
  /-- a caught exception at a, its dict at dd, its class at C -/
  | exc (a dd C : Addr) (fs : List (Str × D))
  /-- a function at a, made at the heap G, of which Im stays -/
  | fn (a : Addr) (G : Hp) (Im : Addr → Prop)
/-- what an object that changes holds -/
inductive MD where
  | lst (xs : List D)
  | ins (C : Addr) (fs : List (Str × D))
  | dic (kvs : List (Key × D))
  /-- a table of code objects, all of the name q -/
  | tbl (q : Str)
abbrev Mu := Addr → Option MD
def mset (μ : Mu) (a : Addr) (c : MD) : Mu := fun b => if b = a then some c else μ b
theorem mset_same {μ : Mu} {a : Addr} {c : MD} : mset μ a c a = some c := if_pos rfl
theorem mset_ne {μ : Mu} {a b : Addr} {c : MD} (h : b ≠ a) : mset μ a c b = μ b := if_neg h
theorem mset_id {μ : Mu} {a : Addr} {c : MD} (h : μ a = some c) : mset μ a c = μ := by
  funext b; unfold mset; by_cases e : b = a
  · rw [if_pos e, e, h]
  · rw [if_neg e]
theorem mset_mset {μ : Mu} {a : Addr} {c c' : MD} : mset (mset μ a c) a c' = mset μ a c' := by
  funext b; unfold mset; by_cases h : b = a <;> simp [h]

section
variable (K : PySem.W.Frag) (μ : Mu) (H : Hp)
mutual
inductive Den : V → D → Prop
  | non : Den .non .non
  | bl (b : Bool) : Den (.bl b) (.bl b)
  | int (i : Int) : Den (.int i) (.int i)
  | str (s : Str) : Den (.str s) (.str s)
  | ty (n : String) : Den (.ty n) (.ty n)
  | ref (a : Addr) : Den (.ref a) (.ref a)
  | tup {a : Addr} {vs : List V} {ds : List D} : μ a = none → H a = some (.tup vs) → DenAll vs ds → Den (.ref a) (.tup ds)
  | tupK {a : Addr} {vs : List V} {ds : List D} : (∀ H', SqT K H' a vs) → DenAll vs ds → Den (.ref a) (.tup ds)
  | lst {a : Addr} {vs : List V} {ds : List D} : μ a = none → H a = some (.lst vs) → DenAll vs ds → Den (.ref a) (.lst ds)
  | rol {a : Addr} {vs : List V} {ds : List D} : μ a = none → Rd H a (.lst vs) → DenAll vs ds → Den (.ref a) (.rol ds)
  | rolK {a : Addr} {vs : List V} {ds : List D} : (∀ H', SqL K H' a vs) → DenAll vs ds → Den (.ref a) (.rol ds)
  | obj {a C dx : Addr} {vs : List (Str × V)} {fs : List (Str × D)} : μ a = none → H a = some (.ins C dx vs) → DenFs vs fs → Den (.ref a) (.obj C fs)
  | exc {a dd C : Addr} {vs : List (Str × V)} {fs : List (Str × D)} : μ dd = none → H dd = some (.xd vs) → DenFs vs fs → Den (.ref a) (.exc a dd C fs)
  | fn {a : Addr} {G : Hp} {Im : Addr → Prop} : (∀ b o, Im b → G b = some o → (∀ ps, o ≠ .tbl ps) → H b = some o ∧ μ b = none) → Den (.ref a) (.fn a G Im)
  | dic {a : Addr} {vs : List (Key × V)} {kvs : List (Key × D)} : μ a = none → H a = some (.dK vs) → DenKv vs kvs → Den (.ref a) (.dic kvs)
inductive DenAll : List V → List D → Prop
  | nil : DenAll [] []
  | cons {v : V} {vs : List V} {d : D} {ds : List D} : Den v d → DenAll vs ds → DenAll (v :: vs) (d :: ds)
inductive DenFs : List (Str × V) → List (Str × D) → Prop
  | nil : DenFs [] []
  | cons {f : Str} {v : V} {vs : List (Str × V)} {d : D} {ds : List (Str × D)} : Den v d → DenFs vs ds → DenFs ((f, v) :: vs) ((f, d) :: ds)
inductive DenKv : List (Key × V) → List (Key × D) → Prop
  | nil : DenKv [] []
  | cons {f : Key} {v : V} {vs : List (Key × V)} {d : D} {ds : List (Key × D)} : Den v d → DenKv vs ds → DenKv ((f, v) :: vs) ((f, d) :: ds)
end
end

/-- what never changes stays, and stays so; what is not told of before is not an old name's -/
def Stp (μ : Mu) (H : Hp) (μ' : Mu) (H' : Hp) : Prop := ∀ b o, μ b = none → H b = some o → (∀ ps, o ≠ .tbl ps) → H' b = some o ∧ μ' b = none
theorem Stp.refl (μ : Mu) (H : Hp) : Stp μ H μ H := fun _ _ h e _ => ⟨e, h⟩
theorem Stp.trans {μ μ1 μ2 : Mu} {H H1 H2 : Hp} (a : Stp μ H μ1 H1) (b : Stp μ1 H1 μ2 H2) : Stp μ H μ2 H2 := fun c o h e n =>
  let ⟨e1, h1⟩ := a c o h e n
  b c o h1 e1 n
theorem Stp.new {μ : Mu} {H : Hp} {p : Addr} {o : HO} (n : H p = none) : Stp μ H μ (upd H p o) := fun b u h e _ => ⟨by rw [upd_ne (ne_of_none e n)]; exact e, h⟩
theorem Stp.newM {μ : Mu} {H : Hp} {p : Addr} {o : HO} {c : MD} (n : H p = none) : Stp μ H (mset μ p c) (upd H p o) := fun b u h e _ =>
  ⟨by rw [upd_ne (ne_of_none e n)]; exact e, by rw [mset_ne (ne_of_none e n)]; exact h⟩
theorem Stp.write {μ : Mu} {H : Hp} {p : Addr} {o : HO} {c c' : MD} (n : μ p = some c) : Stp μ H (mset μ p c') (upd H p o) := fun b u h e _ => by
  have hb : b ≠ p := fun z => by rw [z, n] at h; cases h
  exact ⟨by rw [upd_ne hb]; exact e, by rw [mset_ne hb]; exact h⟩

section
variable {K : PySem.W.Frag} {μ μ' : Mu} {H H' : Hp}
theorem Rd.stp {a : Addr} {u : HO} (s : Stp μ H μ' H') (h : μ a = none) (r : Rd H a u) (n : ∀ ps, u ≠ .tbl ps := by nofun) : Rd H' a u ∧ μ' a = none := by
  rcases r with r | ⟨o, r⟩
  · exact ⟨.inl (s a _ h r n).1, (s a _ h r n).2⟩
  · exact ⟨.inr ⟨o, (s a _ h r (by nofun)).1⟩, (s a _ h r (by nofun)).2⟩
mutual
theorem Den.mono (s : Stp μ H μ' H') : ∀ {v : V} {d : D}, Den K μ H v d → Den K μ' H' v d
  | _, _, .non => .non
  | _, _, .bl b => .bl b
  | _, _, .int i => .int i
  | _, _, .str x => .str x
  | _, _, .ty n => .ty n
  | _, _, .ref a => .ref a
  | _, _, .tup h r a => .tup (s _ _ h r nofun).2 (s _ _ h r nofun).1 (DenAll.mono s a)
  | _, _, .tupK r a => .tupK r (DenAll.mono s a)
  | _, _, .lst h r a => .lst (s _ _ h r nofun).2 (s _ _ h r nofun).1 (DenAll.mono s a)
  | _, _, .rol h r a => .rol (Rd.stp s h r).2 (Rd.stp s h r).1 (DenAll.mono s a)
  | _, _, .rolK r a => .rolK r (DenAll.mono s a)
  | _, _, .obj h r a => .obj (s _ _ h r nofun).2 (s _ _ h r nofun).1 (DenFs.mono s a)
  | _, _, .exc h r a => .exc (s _ _ h r nofun).2 (s _ _ h r nofun).1 (DenFs.mono s a)
  | _, _, .fn r => .fn fun b o h e n => s b o (r b o h e n).2 (r b o h e n).1 n
  | _, _, .dic h r a => .dic (s _ _ h r nofun).2 (s _ _ h r nofun).1 (DenKv.mono s a)
theorem DenAll.mono (s : Stp μ H μ' H') : ∀ {vs : List V} {ds : List D}, DenAll K μ H vs ds → DenAll K μ' H' vs ds
  | _, _, .nil => .nil
  | _, _, .cons a b => .cons (Den.mono s a) (DenAll.mono s b)
theorem DenFs.mono (s : Stp μ H μ' H') : ∀ {vs : List (Str × V)} {ds : List (Str × D)}, DenFs K μ H vs ds → DenFs K μ' H' vs ds
  | _, _, .nil => .nil
  | _, _, .cons a b => .cons (Den.mono s a) (DenFs.mono s b)
theorem DenKv.mono (s : Stp μ H μ' H') : ∀ {vs : List (Key × V)} {ds : List (Key × D)}, DenKv K μ H vs ds → DenKv K μ' H' vs ds
  | _, _, .nil => .nil
  | _, _, .cons a b => .cons (Den.mono s a) (DenKv.mono s b)
end
theorem DenAll.length : ∀ {vs : List V} {ds : List D}, DenAll K μ H vs ds → vs.length = ds.length
  | _, _, .nil => rfl
  | _, _, .cons _ b => congrArg (· + 1) b.length
theorem DenAll.get : ∀ {vs : List V} {ds : List D} {i : Nat} {v : V}, DenAll K μ H vs ds → vs[i]? = some v → ∃ d, ds[i]? = some d ∧ Den K μ H v d
  | _, _, _, _, .nil, e => by simp at e
  | _, _, 0, _, .cons a _, e => by simp at e; subst e; exact ⟨_, rfl, a⟩
  | _, _, i + 1, _, .cons _ b, e => by
    obtain ⟨d, h1, h2⟩ := DenAll.get (i := i) b (by simpa using e)
    exact ⟨d, by simpa using h1, h2⟩
theorem DenAll.getD : ∀ {vs : List V} {ds : List D} {i : Nat} {d : D}, DenAll K μ H vs ds → ds[i]? = some d → ∃ v, vs[i]? = some v ∧ Den K μ H v d
  | _, _, _, _, .nil, e => by simp at e
  | _, _, 0, _, .cons a _, e => by simp at e; subst e; exact ⟨_, rfl, a⟩
  | _, _, i + 1, _, .cons _ b, e => by
    obtain ⟨v, h1, h2⟩ := DenAll.getD (i := i) b (by simpa using e)
    exact ⟨v, by simpa using h1, h2⟩
theorem DenAll.append : ∀ {vs ws : List V} {ds es : List D}, DenAll K μ H vs ds → DenAll K μ H ws es → DenAll K μ H (vs ++ ws) (ds ++ es)
  | _, _, _, _, .nil, b => b
  | _, _, _, _, .cons a t, b => .cons a (t.append b)
theorem DenAll.take : ∀ {vs : List V} {ds : List D} (n : Nat), DenAll K μ H vs ds → DenAll K μ H (vs.take n) (ds.take n)
  | _, _, 0, _ => by simpa using DenAll.nil
  | _, _, n + 1, .nil => .nil
  | _, _, n + 1, .cons a t => .cons a (t.take n)
theorem DenAll.drop : ∀ {vs : List V} {ds : List D} (n : Nat), DenAll K μ H vs ds → DenAll K μ H (vs.drop n) (ds.drop n)
  | _, _, 0, h => h
  | _, _, n + 1, .nil => .nil
  | _, _, n + 1, .cons a t => t.drop n
theorem DenAll.set : ∀ {vs : List V} {ds : List D} (i : Nat) {v : V} {d : D}, DenAll K μ H vs ds → Den K μ H v d → DenAll K μ H (vs.set i v) (ds.set i d)
  | _, _, _, _, _, .nil, _ => .nil
  | _, _, 0, _, _, .cons _ t, b => .cons b t
  | _, _, i + 1, _, _, .cons a t, b => .cons a (t.set i b)
theorem DenFs.look : ∀ {vs : List (Str × V)} {ds : List (Str × D)} {f : Str} {d : D}, DenFs K μ H vs ds → ds.lookup f = some d → ∃ v, vs.lookup f = some v ∧ Den K μ H v d
  | _, _, _, _, .nil, e => by simp at e
  | _, _, g, _, .cons (f := f) a t, e => by
    rw [List.lookup_cons] at e
    cases hb : g == f with
    | true =>
      rw [hb] at e
      cases e
      exact ⟨_, by rw [List.lookup_cons, hb], a⟩
    | false =>
      rw [hb] at e
      obtain ⟨v, h1, h2⟩ := DenFs.look t e
      exact ⟨v, by rw [List.lookup_cons, hb]; exact h1, h2⟩
theorem DenFs.lookN : ∀ {vs : List (Str × V)} {ds : List (Str × D)} {f : Str}, DenFs K μ H vs ds → ds.lookup f = none → vs.lookup f = none
  | _, _, _, .nil, _ => rfl
  | _, _, g, .cons (f := f) a t, e => by
    rw [List.lookup_cons] at e
    cases hb : g == f with
    | true => rw [hb] at e; cases e
    | false =>
      rw [hb] at e
      rw [List.lookup_cons, hb]
      exact DenFs.lookN t e
theorem Den.inv_non {v : V} (h : Den K μ H v .non) : v = .non := by cases h; rfl
theorem Den.inv_bl {v : V} {b : Bool} (h : Den K μ H v (.bl b)) : v = .bl b := by cases h; rfl
theorem Den.inv_int {v : V} {i : Int} (h : Den K μ H v (.int i)) : v = .int i := by cases h; rfl
theorem Den.inv_str {v : V} {x : Str} (h : Den K μ H v (.str x)) : v = .str x := by cases h; rfl
theorem Den.inv_ref {v : V} {a : Addr} (h : Den K μ H v (.ref a)) : v = .ref a := by cases h; rfl
theorem Den.inv_ty {v : V} {n : String} (h : Den K μ H v (.ty n)) : v = .ty n := by cases h; rfl
theorem Den.inv_tup {v : V} {ds : List D} (h : Den K μ H v (.tup ds)) : ∃ a vs, v = .ref a ∧ SqT K H a vs ∧ DenAll K μ H vs ds := by
  cases h with
  | tup h r a => exact ⟨_, _, rfl, .inl (.inl r), a⟩
  | tupK r a => exact ⟨_, _, rfl, r H, a⟩
theorem Den.inv_lst {v : V} {ds : List D} (h : Den K μ H v (.lst ds)) : ∃ a vs, v = .ref a ∧ μ a = none ∧ H a = some (.lst vs) ∧ DenAll K μ H vs ds := by
  cases h with
  | lst h r a => exact ⟨_, _, rfl, h, r, a⟩
theorem Den.inv_rol {v : V} {ds : List D} (h : Den K μ H v (.rol ds)) : ∃ a vs, v = .ref a ∧ SqL K H a vs ∧ DenAll K μ H vs ds := by
  cases h with
  | rol h r a => exact ⟨_, _, rfl, .inl r, a⟩
  | rolK r a => exact ⟨_, _, rfl, r H, a⟩
theorem Den.inv_obj {v : V} {C : Addr} {fs : List (Str × D)} (h : Den K μ H v (.obj C fs)) : ∃ a dx vs, v = .ref a ∧ μ a = none ∧ H a = some (.ins C dx vs) ∧ DenFs K μ H vs fs := by
  cases h with
  | obj h r a => exact ⟨_, _, _, rfl, h, r, a⟩
theorem Den.inv_exc {v : V} {a dd C : Addr} {fs : List (Str × D)} (h : Den K μ H v (.exc a dd C fs)) : ∃ vs, v = .ref a ∧ μ dd = none ∧ H dd = some (.xd vs) ∧ DenFs K μ H vs fs := by
  cases h with
  | exc h r a => exact ⟨_, rfl, h, r, a⟩
theorem Den.inv_fn {v : V} {a : Addr} {G : Hp} {Im : Addr → Prop} (h : Den K μ H v (.fn a G Im)) : v = .ref a ∧ ∀ b o, Im b → G b = some o → (∀ ps, o ≠ .tbl ps) → H b = some o ∧ μ b = none := by
  cases h with
  | fn r => exact ⟨rfl, r⟩
theorem Den.inv_dic {v : V} {kvs : List (Key × D)} (h : Den K μ H v (.dic kvs)) : ∃ a vs, v = .ref a ∧ μ a = none ∧ H a = some (.dK vs) ∧ DenKv K μ H vs kvs := by
  cases h with
  | dic h r a => exact ⟨_, _, rfl, h, r, a⟩
end

/-- what stands at a is c -/
def HoldAt (K : PySem.W.Frag) (μ : Mu) (H : Hp) (a : Addr) : MD → Prop
  | .lst xs => ∃ vs, H a = some (.lst vs) ∧ DenAll K μ H vs xs
  | .ins C fs => ∃ dx vs, H a = some (.ins C dx vs) ∧ DenFs K μ H vs fs
  | .dic kvs => ∃ vs, H a = some (.dK vs) ∧ DenKv K μ H vs kvs
  | .tbl q => ∃ ps : Array Value, H a = some (.tbl ps) ∧ TriplesOk ps.toList ∧ ∀ (pos : Pos) (cv : Value), codeAmong pos ps.toList = some cv → ∃ c, cv = .ref c ∧ μ c = none ∧ H c = some (LamX.CodeO c q)
def Hold (K : PySem.W.Frag) (μ : Mu) (H : Hp) : Prop := ∀ a c, μ a = some c → HoldAt K μ H a c
section
variable {K : PySem.W.Frag} {μ μ' : Mu} {H H' : Hp}
theorem HoldAt.there {a : Addr} {c : MD} (h : HoldAt K μ H a c) : ∃ o, H a = some o := by
  cases c with
  | lst xs => obtain ⟨vs, e, _⟩ := h; exact ⟨_, e⟩
  | ins C fs => obtain ⟨dx, vs, e, _⟩ := h; exact ⟨_, e⟩
  | dic kvs => obtain ⟨vs, e, _⟩ := h; exact ⟨_, e⟩
  | tbl q => obtain ⟨ps, e, _⟩ := h; exact ⟨_, e⟩
theorem Hold.free {a : Addr} (h : Hold K μ H) (n : H a = none) : μ a = none := by
  cases e : μ a with
  | none => rfl
  | some c =>
    obtain ⟨o, q⟩ := (h a c e).there
    rw [n] at q; cases q
theorem HoldAt.mono {a : Addr} {c : MD} (s : Stp μ H μ' H') (e : H' a = H a) (h : HoldAt K μ H a c) : HoldAt K μ' H' a c := by
  cases c with
  | lst xs => obtain ⟨vs, e1, d⟩ := h; exact ⟨vs, by rw [e]; exact e1, d.mono s⟩
  | ins C fs => obtain ⟨dx, vs, e1, d⟩ := h; exact ⟨dx, vs, by rw [e]; exact e1, d.mono s⟩
  | dic kvs => obtain ⟨vs, e1, d⟩ := h; exact ⟨vs, by rw [e]; exact e1, d.mono s⟩
  | tbl q =>
    obtain ⟨ps, e1, t, d⟩ := h
    refine ⟨ps, by rw [e]; exact e1, t, fun pos cv hc => ?_⟩
    obtain ⟨c, h1, h2, h3⟩ := d pos cv hc
    exact ⟨c, h1, (s c _ h2 h3 LamX.codeO_ne).2, (s c _ h2 h3 LamX.codeO_ne).1⟩
theorem Hold.new {p : Addr} {o : HO} (h : Hold K μ H) (n : H p = none) : Hold K μ (upd H p o) := fun a c e => by
  have hp : a ≠ p := by
    rintro rfl
    rw [h.free n] at e; cases e
  exact (h a c e).mono (Stp.new n) (upd_ne hp)
theorem Hold.newM {p : Addr} {o : HO} {c : MD} (h : Hold K μ H) (n : H p = none) (new : HoldAt K (mset μ p c) (upd H p o) p c) : Hold K (mset μ p c) (upd H p o) := fun a c' e => by
  by_cases hp : a = p
  · subst hp
    rw [mset_same] at e; cases e; exact new
  · rw [mset_ne hp] at e
    exact (h a c' e).mono (Stp.newM n) (upd_ne hp)
theorem Hold.write {p : Addr} {o : HO} {c0 c : MD} (h : Hold K μ H) (m : μ p = some c0) (new : HoldAt K (mset μ p c) (upd H p o) p c) : Hold K (mset μ p c) (upd H p o) := fun a c' e => by
  by_cases hp : a = p
  · subst hp
    rw [mset_same] at e; cases e; exact new
  · rw [mset_ne hp] at e
    exact (h a c' e).mono (Stp.write m) (upd_ne hp)
end

/-- the slots, as data; none: not told -/
abbrev DS := List (Option D)
def DenS (K : PySem.W.Frag) (μ : Mu) (H : Hp) (σ : St) (ds : DS) : Prop := σ.length = ds.length ∧ ∀ (i : Nat) (d : D), ds[i]? = some (some d) → ∃ v, σ[i]? = some (some v) ∧ Den K μ H v d
section
variable {K : PySem.W.Frag} {μ μ' : Mu} {H H' : Hp} {σ : St} {ds : DS}
theorem DenS.mono (s : Stp μ H μ' H') (h : DenS K μ H σ ds) : DenS K μ' H' σ ds := ⟨h.1, fun i d e =>
  let ⟨v, a, b⟩ := h.2 i d e
  ⟨v, a, b.mono s⟩⟩
theorem DenS.set {j : Nat} {v : V} {d : D} (h : DenS K μ H σ ds) (r : Den K μ H v d) : DenS K μ H (σ.set j (some v)) (ds.set j (some d)) := by
  refine ⟨by rw [List.length_set, List.length_set]; exact h.1, fun i e hi => ?_⟩
  by_cases hij : j = i
  · subst hij
    have hl : j < ds.length := by
      have := (List.getElem?_eq_some_iff.mp hi).1
      simpa using this
    rw [List.getElem?_set_self hl] at hi
    cases hi
    exact ⟨v, List.getElem?_set_self (by rw [h.1]; exact hl), r⟩
  · rw [List.getElem?_set_ne hij] at hi
    rw [List.getElem?_set_ne hij]
    exact h.2 i e hi
theorem DenS.wipe1 {j : Nat} (h : DenS K μ H σ ds) : DenS K μ H (σ.set j none) (ds.set j none) := by
  refine ⟨by rw [List.length_set, List.length_set]; exact h.1, fun i e hi => ?_⟩
  by_cases hij : j = i
  · subst hij
    have hl : j < ds.length := by
      have := (List.getElem?_eq_some_iff.mp hi).1
      simpa using this
    rw [List.getElem?_set_self hl] at hi
    cases hi
  · rw [List.getElem?_set_ne hij] at hi
    rw [List.getElem?_set_ne hij]
    exact h.2 i e hi
/-- told less -/
theorem DenS.weak {es : DS} (h : DenS K μ H σ ds) (hl : es.length = ds.length) (w : ∀ (i : Nat) (d : D), es[i]? = some (some d) → ds[i]? = some (some d)) : DenS K μ H σ es :=
  ⟨by rw [hl]; exact h.1, fun i d e => h.2 i d (w i d e)⟩
theorem DenS.start {N : List Str} {vs : List V} {xs : List D} (h : DenAll K μ H vs xs) : DenS K μ H (L2.start N vs) (xs.map some ++ List.replicate (N.length - xs.length) none) := by
  have hl := h.length
  refine ⟨by simp [L2.start, hl], fun i d e => ?_⟩
  by_cases hi : i < xs.length
  · rw [List.getElem?_append_left (by simpa using hi), List.getElem?_map] at e
    cases q : xs[i]? with
    | none => rw [q] at e; cases e
    | some y =>
      rw [q] at e
      cases e
      obtain ⟨v, a, b⟩ := h.getD q
      refine ⟨v, ?_, b⟩
      unfold L2.start
      rw [List.getElem?_append_left (by simpa [hl] using hi), List.getElem?_map, a]
      rfl
  · rw [List.getElem?_append_right (by simpa using Nat.le_of_not_lt hi)] at e
    have := List.mem_of_getElem? e
    rw [List.mem_replicate] at this
    cases this.2
end
end Hw
set_option Elab.async false
set_option linter.all false
set_option maxRecDepth 100000
set_option maxHeartbeats 1000000
namespace Hw
open PySem L2 PyProof.Rows

/-! ### exceptions, as data: the class, the fields -/
abbrev XP := Addr → List (Str × D) → Mu → Prop
def noX : XP := fun _ _ _ => False
/-- what the context wants of an exception -/
def Wx (X : Cx) (cls : Value) (d : Option Addr) (σ : L2.St) (H : Hp) : Prop := ∀ u s', XE X (fun c d' σ' H' => c = cls ∧ d' = d ∧ σ' = σ ∧ H' = H) u s' → X.xe u s'
theorem takes_Wx {X : Cx} : Takes X (Wx X) := fun u s' ⟨a, B, sI, pins, σ, H, cls, d, h1, h2, h3, h4, h5, h6, h7, h8, w⟩ => w u s' ⟨a, B, sI, pins, σ, H, cls, d, h1, h2, h3, h4, h5, h6, h7, h8, rfl, rfl, rfl, rfl⟩
/-- the exceptions of PE may leave, from μ at H on -/
def Exc (X : Cx) (PE : XP) (μ : Mu) (H : Hp) : Prop := ∀ Ca dd H' fs vfs μ' σ, Stp μ H μ' H' → Hold X.K μ' H' → H' dd = some (.xd vfs) → DenFs X.K μ' H' vfs fs → PE Ca fs μ' → Wx X (.ref Ca) (some dd) σ H'
theorem Exc.mono {X : Cx} {PE : XP} {μ μ' : Mu} {H H' : Hp} (x : Exc X PE μ H) (s : Stp μ H μ' H') : Exc X PE μ' H' := fun Ca dd H2 fs vfs μ2 σ s2 => x Ca dd H2 fs vfs μ2 σ (s.trans s2)
theorem Exc.no {X : Cx} {μ : Mu} {H : Hp} : Exc X noX μ H := fun _ _ _ _ _ _ _ _ _ _ _ h => h.elim
/-- the slots, and what may be raised -/
structure Sl (X : Cx) (PE : XP) (μ : Mu) (H : Hp) (σ : L2.St) (ds : DS) : Prop where
  d : DenS X.K μ H σ ds
  x : Exc X PE μ H
section
variable {X : Cx} {PE : XP} {μ μ' : Mu} {H H' : Hp} {σ : L2.St} {ds : DS}
theorem Sl.mono (s : Stp μ H μ' H') (h : Sl X PE μ H σ ds) : Sl X PE μ' H' σ ds := ⟨h.d.mono s, h.x.mono s⟩
theorem Sl.set {j : Nat} {v : V} {d : D} (h : Sl X PE μ H σ ds) (r : Den X.K μ H v d) : Sl X PE μ H (σ.set j (some v)) (ds.set j (some d)) := ⟨h.d.set r, h.x⟩
end

/-! ### judgements -/
abbrev DP := D → Mu → Prop
def tD (X : Cx) (PE : XP) (μ : Mu) (ds : DS) (P : DP) : TE := fun σ H Q => Hold X.K μ H ∧ Sl X PE μ H σ ds ∧ ∀ v H' d μ', Stp μ H μ' H' → Hold X.K μ' H' → Den X.K μ' H' v d → P d μ' → Q v H'
def tDT (X : Cx) (PE : XP) (μ : Mu) (ds : DS) (P : Bool → Mu → Prop) : TT := fun σ H Q => Hold X.K μ H ∧ Sl X PE μ H σ ds ∧ ∀ b H' μ', Stp μ H μ' H' → Hold X.K μ' H' → P b μ' → Q b H'
def tDA (X : Cx) (PE : XP) (μ : Mu) (ds : DS) (P : List D → Mu → Prop) : TA := fun σ H Q => Hold X.K μ H ∧ Sl X PE μ H σ ds ∧ ∀ vs H' xs μ', Stp μ H μ' H' → Hold X.K μ' H' → DenAll X.K μ' H' vs xs → P xs μ' → Q vs H'
/-- e evaluates, at the slots ds and the store μ, to some d and μ' of which P holds, or raises what PE says -/
structure EX (X : Cx) (PE : XP) (μ : Mu) (ds : DS) (e : Expr) (P : DP) : Prop where
  pe : L2.PE X e (tD X PE μ ds P)
structure TX (X : Cx) (PE : XP) (μ : Mu) (ds : DS) (e : Expr) (P : Bool → Mu → Prop) : Prop where
  pt : PT X e (tDT X PE μ ds P)
structure AX (X : Cx) (PE : XP) (μ : Mu) (ds : DS) (es : List Expr) (P : List D → Mu → Prop) : Prop where
  pa : PA X es (tDA X PE μ ds P)

/-! ### the strongest readings -/
def tU (X : Cx) (e : Expr) : TE := fun σ H Q => ∃ t, L2.PE X e t ∧ t σ H Q
def tUT (X : Cx) (e : Expr) : TT := fun σ H Q => ∃ t, PT X e t ∧ t σ H Q
def tUA (X : Cx) (es : List Expr) : TA := fun σ H Q => ∃ t, PA X es t ∧ t σ H Q
section
variable {X : Cx} {PE : XP} {e a b c : Expr} {es : List Expr} {μ : Mu} {ds : DS} {P : DP} {pos : Pos}
theorem pe_U : L2.PE X e (tU X e) := ⟨fun pins s σ H Q I h => by obtain ⟨t, p, h⟩ := h; exact p.run pins s σ H Q I h⟩
theorem pt_U : PT X e (tUT X e) := ⟨fun pins s σ H Q I h => by obtain ⟨t, p, h⟩ := h; exact p.run pins s σ H Q I h⟩
theorem pa_U : PA X es (tUA X es) := ⟨fun po pins s σ H Q I h => by obtain ⟨t, p, h⟩ := h; exact p.run po pins s σ H Q I h⟩
theorem pe_imp {t t' : TE} (p : L2.PE X e t) (h : ∀ σ H Q, t' σ H Q → t σ H Q) : L2.PE X e t' := ⟨fun pins s σ H Q I q => p.run pins s σ H Q I (h σ H Q q)⟩
theorem pt_imp {t t' : TT} (p : PT X e t) (h : ∀ σ H Q, t' σ H Q → t σ H Q) : PT X e t' := ⟨fun pins s σ H Q I q => p.run pins s σ H Q I (h σ H Q q)⟩
theorem pa_imp {t t' : TA} (p : PA X es t) (h : ∀ σ H Q, t' σ H Q → t σ H Q) : PA X es t' := ⟨fun po pins s σ H Q I q => p.run po pins s σ H Q I (h σ H Q q)⟩
/-- the one form of all rules -/
theorem ex_of {t : TE} (p : L2.PE X e t) (h : ∀ σ H Q, Hold X.K μ H → Sl X PE μ H σ ds → (∀ v H' d μ', Stp μ H μ' H' → Hold X.K μ' H' → Den X.K μ' H' v d → P d μ' → Q v H') → t σ H Q) : EX X PE μ ds e P :=
  ⟨pe_imp p fun σ H Q ⟨a, b, c⟩ => h σ H Q a b c⟩
theorem EX.at {σ : L2.St} {H : Hp} {Q : VK} (x : EX X PE μ ds e P) (ho : Hold X.K μ H) (hs : Sl X PE μ H σ ds) (k : ∀ v H' d μ', Stp μ H μ' H' → Hold X.K μ' H' → Sl X PE μ' H' σ ds → Den X.K μ' H' v d → P d μ' → Q v H') : tU X e σ H Q :=
  ⟨_, x.pe, ho, hs, fun v H' d μ' s h n p => k v H' d μ' s h (hs.mono s) n p⟩
theorem TX.at {σ : L2.St} {H : Hp} {Q : Bool → Hp → Prop} {P : Bool → Mu → Prop} (x : TX X PE μ ds e P) (ho : Hold X.K μ H) (hs : Sl X PE μ H σ ds) (k : ∀ b H' μ', Stp μ H μ' H' → Hold X.K μ' H' → Sl X PE μ' H' σ ds → P b μ' → Q b H') : tUT X e σ H Q :=
  ⟨_, x.pt, ho, hs, fun b H' μ' s h p => k b H' μ' s h (hs.mono s) p⟩
theorem AX.at {σ : L2.St} {H : Hp} {Q : List V → Hp → Prop} {P : List D → Mu → Prop} (x : AX X PE μ ds es P) (ho : Hold X.K μ H) (hs : Sl X PE μ H σ ds) (k : ∀ vs H' xs μ', Stp μ H μ' H' → Hold X.K μ' H' → Sl X PE μ' H' σ ds → DenAll X.K μ' H' vs xs → P xs μ' → Q vs H') : tUA X es σ H Q :=
  ⟨_, x.pa, ho, hs, fun vs H' xs μ' s h n p => k vs H' xs μ' s h (hs.mono s) n p⟩
theorem EX.imp {P' : DP} (x : EX X PE μ ds e P) (h : ∀ d μ', P d μ' → P' d μ') : EX X PE μ ds e P' := ⟨pe_imp x.pe fun σ H Q ⟨a, b, c⟩ => ⟨a, b, fun v H' d μ' s h1 n p => c v H' d μ' s h1 n (h d μ' p)⟩⟩
theorem TX.imp {P P' : Bool → Mu → Prop} (x : TX X PE μ ds e P) (h : ∀ d μ', P d μ' → P' d μ') : TX X PE μ ds e P' := ⟨pt_imp x.pt fun σ H Q ⟨a, b, c⟩ => ⟨a, b, fun v H' μ' s h1 p => c v H' μ' s h1 (h v μ' p)⟩⟩

/-! ### names and constants -/
theorem ex_int {i : Int} {j} (h : P (.int i) μ) : EX X PE μ ds (.Constant (.int i) j pos) P := ex_of pe_int fun _ H Q a _ k => k _ H _ μ (Stp.refl _ _) a (.int i) h
theorem ex_bl {i : Bool} {j} (h : P (.bl i) μ) : EX X PE μ ds (.Constant (.bool i) j pos) P := ex_of pe_bl fun _ H Q a _ k => k _ H _ μ (Stp.refl _ _) a (.bl i) h
theorem ex_str {i : Str} {j} (h : P (.str i) μ) : EX X PE μ ds (.Constant (.str i) j pos) P := ex_of pe_str fun _ H Q a _ k => k _ H _ μ (Stp.refl _ _) a (.str i) h
theorem ex_non {j} (h : P .non μ) : EX X PE μ ds (.Constant .none j pos) P := ex_of pe_non fun _ H Q a _ k => k _ H _ μ (Stp.refl _ _) a .non h
theorem ex_nm {i : Nat} {x : Str} {d : D} (hd : ds[i]? = some (some d)) (h : P d μ) (hN : X.N[i]? = some x) (hv : Vis X.env.scope x) (h1 : (x == ("__debug__" : Str)) = false) (h2 : (x == ("__classdict__" : Str)) = false) : EX X PE μ ds (.Name x pos) P :=
  ex_of (pe_var hN hv h1 h2) fun _ H Q a s k =>
    let ⟨v, e, n⟩ := s.d.2 i d hd
    ⟨v, e, k v H d μ (Stp.refl _ _) a n h⟩
/-- a module's own constant -/
theorem ex_gl {x : Str} {v : V} {u : Value} {d : D} (hg : Gl X x) (hm : X.mg x = some u) (r : RelV v u) (hd : ∀ μ H, Den X.K μ H v d) (h : P d μ) (hdb : (x == ("__debug__" : Str)) = false := by decide) : EX X PE μ ds (.Name x pos) P :=
  ex_of (pe_glob hg hm r hdb) fun _ H Q a _ k => k v H d μ (Stp.refl _ _) a (hd _ _) h
theorem ex_blt {x : Str} {v : V} {u : Value} {d : D} (hg : Gl X x) (hm : X.mg x = none) (hv : bootBuiltins x = some u) (r : RelV v u) (hd : ∀ μ H, Den X.K μ H v d) (h : P d μ) (hn : x ≠ "__name__" := by decide) (hdb : (x == ("__debug__" : Str)) = false := by decide) : EX X PE μ ds (.Name x pos) P :=
  ex_of (pe_bltn hg hm hv r hn hdb) fun _ H Q a _ k => k v H d μ (Stp.refl _ _) a (hd _ _) h

/-! ### arguments, displays -/
theorem ax_nil {P : List D → Mu → Prop} (h : P [] μ) : AX X PE μ ds [] P := ⟨pa_imp pa_nil fun σ H Q ⟨a, b, c⟩ => c [] H [] μ (Stp.refl _ _) a .nil h⟩
theorem ax_cons {P : List D → Mu → Prop} (h : EX X PE μ ds e fun d μ1 => AX X PE μ1 ds es fun xs μ2 => P (d :: xs) μ2) (hs : starEach (e :: es) X.env = (false, eval e X.env) :: starEach es X.env := by rfl) : AX X PE μ ds (e :: es) P :=
  ⟨pa_imp (pa_cons pe_U pa_U hs) fun σ H Q ⟨a, b, c⟩ => h.at a b fun v H1 d μ1 s1 h1 b1 n1 p => p.at h1 b1 fun vs H2 xs μ2 s2 h2 b2 n2 p2 => c (v :: vs) H2 (d :: xs) μ2 (s1.trans s2) h2 (.cons (n1.mono s2) n2) p2⟩
theorem ex_tup {x1} (h : AX X PE μ ds es fun xs μ' => xs.length ≤ sizeLine ∧ P (.tup xs) μ') : EX X PE μ ds (.Tuple es x1 pos) P :=
  ex_of (pe_tup pa_U) fun σ H Q a b k => h.at a b fun vs H1 xs μ1 s1 h1 _ n1 ⟨l, p⟩ => ⟨by rw [n1.length]; exact l, fun p0 n0 =>
    k _ _ (.tup xs) μ1 (s1.trans (Stp.new n0)) (h1.new n0) (.tup (h1.free n0) upd_same (n1.mono (Stp.new n0))) p⟩
/-- a list that will not change -/
theorem ex_lst (h : AX X PE μ ds es fun xs μ' => xs.length ≤ sizeLine ∧ P (.lst xs) μ') : EX X PE μ ds (.List es pos) P :=
  ex_of (pe_lst pa_U) fun σ H Q a b k => h.at a b fun vs H1 xs μ1 s1 h1 _ n1 ⟨l, p⟩ => ⟨by rw [n1.length]; exact l, fun p0 n0 =>
    k _ _ (.lst xs) μ1 (s1.trans (Stp.new n0)) (h1.new n0) (.lst (h1.free n0) upd_same (n1.mono (Stp.new n0))) p⟩
/-- a list that will change -/
theorem ex_lstM (h : AX X PE μ ds es fun xs μ' => xs.length ≤ sizeLine ∧ ∀ p, μ' p = none → P (.ref p) (mset μ' p (.lst xs))) : EX X PE μ ds (.List es pos) P :=
  ex_of (pe_lst pa_U) fun σ H Q a b k => h.at a b fun vs H1 xs μ1 s1 h1 _ n1 ⟨l, p⟩ => ⟨by rw [n1.length]; exact l, fun p0 n0 =>
    k _ _ (.ref p0) _ (s1.trans (Stp.newM n0)) (h1.newM (c := .lst xs) n0 ⟨vs, upd_same, n1.mono (Stp.newM n0)⟩) (.ref p0) (p p0 (h1.free n0))⟩

/-! ### operators -/
/-- what a op b gives -/
def binOk : Operator → D → D → (D → Prop) → Prop
  | .Add, .int i, .int j, P => P (.int (i + j))
  | .Sub, .int i, .int j, P => P (.int (i - j))
  | .Mult, .int i, .int j, P => (CMul i j ∨ CMulW i j) ∧ P (.int (i * j))
  | .FloorDiv, .int i, .int j, P => (j ≠ 0 ∧ j.natAbs.log2 < 9000) ∧ P (.int (i.fdiv j))
  | .Mod, .int i, .int j, P => j ≠ 0 ∧ P (.int (i.fmod j))
  | .Pow, .int i, .int j, P => CPow i j ∧ P (.int (i ^ j.toNat))
  | .Add, .str i, .str j, P => i.length + j.length ≤ sizeLine ∧ P (.str (i ++ j))
  | .Add, .tup xs, .tup ys, P => xs.length + ys.length ≤ sizeLine ∧ P (.tup (xs ++ ys))
  | .Add, .lst xs, .lst ys, P => xs.length + ys.length ≤ sizeLine ∧ P (.lst (xs ++ ys))
  | .Mult, .lst xs, .int k, P => (-(2 ^ 63) ≤ k ∧ k < 2 ^ 63 ∧ xs.length * k.toNat ≤ sizeLine) ∧ P (.lst (List.replicate k.toNat xs).flatten)
  | _, _, _, _ => False
/-- a reading of an operation on data -/
def rD2 (K : PySem.W.Frag) (ok : D → D → (D → Prop) → Prop) : R2 := fun x y H Q => ∃ μ dx dy R, Hold K μ H ∧ Den K μ H x dx ∧ Den K μ H y dy ∧ ok dx dy R ∧ ∀ v H' d, Stp μ H μ H' → Hold K μ H' → Den K μ H' v d → R d → Q v H'
theorem DenAll.rep {K : PySem.W.Frag} {H : Hp} {vs : List V} {xs : List D} (h : DenAll K μ H vs xs) : ∀ k, DenAll K μ H (List.replicate k vs).flatten (List.replicate k xs).flatten
  | 0 => .nil
  | k + 1 => by
    rw [List.replicate_succ, List.replicate_succ, List.flatten_cons, List.flatten_cons]
    exact h.append (DenAll.rep h k)
theorem DenAll.nil_iff {K : PySem.W.Frag} {H : Hp} {vs : List V} {xs : List D} (h : DenAll K μ H vs xs) : vs = [] ↔ xs = [] := by
  cases h with
  | nil => simp
  | cons a b => simp
theorem op_fdivZ : OpR X (binaryOp .FloorDiv) (rI (fun i j => j ≠ 0 ∧ j.natAbs.log2 < 9000) fun i j => .int (i.fdiv j)) := opI fun i j _ _ _ _ _ hc q => floordiv_int hc.1 q (.inl (PyProof.noPylong_of_log2 hc.2))
theorem op_mulZ : OpR X (binaryOp .Mult) (rI (fun i j => CMul i j ∨ CMulW i j) fun i j => .int (i * j)) := opI fun i j _ _ _ _ _ hc q => mul_int q (hc.elim CMul.ok CMulW.ok)
theorem op_bin {op : Operator} : OpR X (binaryOp op) (rD2 X.K (binOk op)) := by
  intro pins s σ H x y v u Q I rx ry h
  obtain ⟨μ, dx, dy, R, ho, nx, ny, ok, k⟩ := h
  have k0 : ∀ v d, Den X.K μ H v d → R d → Q v H := fun v d n r => k v H d (Stp.refl _ _) ho n r
  unfold binOk at ok
  split at ok
  · exact op_add pins s σ H x y v u Q I rx ry ⟨_, _, nx.inv_int, ny.inv_int, k0 _ _ (.int _) ok⟩
  · exact op_sub pins s σ H x y v u Q I rx ry ⟨_, _, nx.inv_int, ny.inv_int, k0 _ _ (.int _) ok⟩
  · exact op_mulZ pins s σ H x y v u Q I rx ry ⟨_, _, nx.inv_int, ny.inv_int, ok.1, k0 _ _ (.int _) ok.2⟩
  · exact op_fdivZ pins s σ H x y v u Q I rx ry ⟨_, _, nx.inv_int, ny.inv_int, ok.1, k0 _ _ (.int _) ok.2⟩
  · exact op_modN pins s σ H x y v u Q I rx ry ⟨_, _, nx.inv_int, ny.inv_int, ok.1, k0 _ _ (.int _) ok.2⟩
  · exact op_pow pins s σ H x y v u Q I rx ry ⟨_, _, nx.inv_int, ny.inv_int, ok.1, k0 _ _ (.int _) ok.2⟩
  · exact op_add_str pins s σ H x y v u Q I rx ry ⟨_, _, nx.inv_str, ny.inv_str, ok.1, k0 _ _ (.str _) ok.2⟩
  · obtain ⟨a, vs, e1, s1, d1⟩ := nx.inv_tup
    obtain ⟨b, ws, e2, s2, d2⟩ := ny.inv_tup
    refine op_catA pins s σ H x y v u Q I rx ry ⟨a, b, vs, ws, e1, e2, s1, s2, by rw [d1.length, d2.length]; exact ok.1, fun q => ?_, fun q q2 => ?_, fun q q2 p n => ?_⟩
    · rw [← e2]
      have e := d1.nil_iff.mp q
      subst e
      exact k0 _ _ ny (by simpa using ok.2)
    · rw [← e1]
      have e := d2.nil_iff.mp q2
      subst e
      exact k0 _ _ nx (by simpa using ok.2)
    · exact k _ _ _ (Stp.new n) (ho.new n) (.tup (ho.free n) upd_same ((d1.append d2).mono (Stp.new n))) ok.2
  · obtain ⟨a, vs, e1, _, s1, d1⟩ := nx.inv_lst
    obtain ⟨b, ws, e2, _, s2, d2⟩ := ny.inv_lst
    refine op_cat pins s σ H x y v u Q I rx ry ⟨a, b, vs, ws, e1, e2, s1, s2, by rw [d1.length, d2.length]; exact ok.1, fun p n => ?_⟩
    exact k _ _ _ (Stp.new n) (ho.new n) (.lst (ho.free n) upd_same ((d1.append d2).mono (Stp.new n))) ok.2
  · obtain ⟨a, vs, e1, _, s1, d1⟩ := nx.inv_lst
    refine op_rep pins s σ H x y v u Q I rx ry ⟨a, _, vs, e1, ny.inv_int, s1, ok.1.1, ok.1.2.1, by rw [d1.length]; exact ok.1.2.2, fun p n => ?_⟩
    exact k _ _ _ (Stp.new n) (ho.new n) (.lst (ho.free n) upd_same ((DenAll.rep d1 _).mono (Stp.new n))) ok.2
  · exact ok.elim
theorem ex_bin {op : Operator} (h : EX X PE μ ds a fun x μ1 => EX X PE μ1 ds b fun y μ2 => binOk op x y fun z => P z μ2) : EX X PE μ ds (.BinOp a op b pos) P :=
  ex_of (pe_op op_bin pe_U pe_U) fun σ H Q ho hs k => h.at ho hs fun v H1 x μ1 s1 h1 b1 n1 p => p.at h1 b1 fun u H2 y μ2 s2 h2 b2 n2 q =>
    ⟨μ2, x, y, _, h2, n1.mono s2, n2, q, fun w H3 d s3 h3 n3 r => k w H3 d μ2 ((s1.trans s2).trans s3) h3 n3 r⟩
theorem ex_neg (h : EX X PE μ ds a fun x μ1 => ∃ i, x = .int i ∧ P (.int (-i)) μ1) : EX X PE μ ds (.UnaryOp .USub a pos) P :=
  ex_of (pe_un un_neg pe_U) fun σ H Q ho hs k => h.at ho hs fun v H1 x μ1 s1 h1 b1 n1 ⟨i, e, p⟩ => by
    subst e
    exact ⟨i, n1.inv_int, k _ H1 _ μ1 s1 h1 (.int _) p⟩

/-! ### comparisons -/
/-- flat data, as Python's == tells them apart -/
def flatD : D → Bool
  | .non | .bl _ | .int _ | .str _ => true
  | _ => false
def fv : D → V
  | .bl b => .bl b
  | .int i => .int i
  | .str s => .str s
  | _ => .non
theorem Den.flat {K : PySem.W.Frag} {H : Hp} {v : V} {d : D} (h : Den K μ H v d) (f : flatD d = true) : v = fv d := by
  cases h <;> first | rfl | simp [flatD] at f
theorem flatV_fv (d : D) : flatV (fv d) = true := by cases d <;> rfl
def isNon : D → Bool
  | .non => true
  | _ => false
/-- what a op b gives, as a truth -/
def cmpOk : CmpOp → D → D → (Bool → Prop) → Prop
  | .Lt, .int i, .int j, P => P (decide (i < j))
  | .LtE, .int i, .int j, P => P (decide (i ≤ j))
  | .Gt, .int i, .int j, P => P (decide (j < i))
  | .GtE, .int i, .int j, P => P (decide (j ≤ i))
  | .Eq, x, y, P => scal (fv x) (fv y) = true ∧ flatD x = true ∧ flatD y = true ∧ P (decide (fv x = fv y))
  | .NotEq, x, y, P => scal (fv x) (fv y) = true ∧ flatD x = true ∧ flatD y = true ∧ P (!decide (fv x = fv y))
  | .Is, x, .non, P => P (isNon x)
  | .IsNot, x, .non, P => P (!isNon x)
  | .In, .str s, .str t, P => ∃ c, s = ⟨#[c]⟩ ∧ P (decide (c ∈ t.cps.toList))
  | .NotIn, .str s, .str t, P => ∃ c, s = ⟨#[c]⟩ ∧ P (!decide (c ∈ t.cps.toList))
  | .In, x, .tup ys, P => flatD x = true ∧ ys.all flatD = true ∧ P ((ys.map fv).any fun y => eqV y (fv x))
  | .In, x, .lst ys, P => flatD x = true ∧ ys.all flatD = true ∧ P ((ys.map fv).any fun y => eqV y (fv x))
  | .NotIn, x, .tup ys, P => flatD x = true ∧ ys.all flatD = true ∧ P (!(ys.map fv).any fun y => eqV y (fv x))
  | .NotIn, x, .lst ys, P => flatD x = true ∧ ys.all flatD = true ∧ P (!(ys.map fv).any fun y => eqV y (fv x))
  | _, _, _, _ => False
theorem DenAll.flat {K : PySem.W.Frag} {H : Hp} : ∀ {vs : List V} {xs : List D}, DenAll K μ H vs xs → xs.all flatD = true → vs = xs.map fv
  | _, _, .nil, _ => rfl
  | _, _, .cons a b, f => by
    rw [List.all_cons, Bool.and_eq_true] at f
    rw [List.map_cons, a.flat f.1, b.flat f.2]
theorem all_flatV : ∀ xs : List D, (xs.map fv).all flatV = true
  | [] => rfl
  | x :: xs => by rw [List.map_cons, List.all_cons, flatV_fv, all_flatV xs]; rfl
theorem Den.is_non {K : PySem.W.Frag} {H : Hp} {v : V} {d : D} (h : Den K μ H v d) : decide (v = .non) = isNon d := by
  cases h <;> simp [isNon]
/-- a reading of a comparison on data -/
def rC2 (K : PySem.W.Frag) (ok : D → D → (Bool → Prop) → Prop) : R2 := fun x y H Q => ∃ μ dx dy R, Hold K μ H ∧ Den K μ H x dx ∧ Den K μ H y dy ∧ ok dx dy R ∧ ∀ b, R b → Q (.bl b) H
theorem op_cmp {op : CmpOp} : OpR X (compareOp op) (rC2 X.K (cmpOk op)) := by
  intro pins s σ H x y v u Q I rx ry h
  obtain ⟨μ, dx, dy, R, ho, nx, ny, ok, k⟩ := h
  unfold cmpOk at ok
  split at ok
  · exact op_lt pins s σ H x y v u Q I rx ry ⟨_, _, nx.inv_int, ny.inv_int, k _ ok⟩
  · exact op_le pins s σ H x y v u Q I rx ry ⟨_, _, nx.inv_int, ny.inv_int, k _ ok⟩
  · exact op_gt pins s σ H x y v u Q I rx ry ⟨_, _, nx.inv_int, ny.inv_int, k _ ok⟩
  · exact op_ge pins s σ H x y v u Q I rx ry ⟨_, _, nx.inv_int, ny.inv_int, k _ ok⟩
  · obtain ⟨h1, f1, f2, p⟩ := ok
    exact op_eq pins s σ H x y v u Q I rx ry ⟨by rw [nx.flat f1, ny.flat f2]; exact h1, by rw [nx.flat f1, ny.flat f2]; exact k _ p⟩
  · obtain ⟨h1, f1, f2, p⟩ := ok
    exact op_ne pins s σ H x y v u Q I rx ry ⟨by rw [nx.flat f1, ny.flat f2]; exact h1, by rw [nx.flat f1, ny.flat f2]; exact k _ p⟩
  · exact op_isN pins s σ H x y v u Q I rx ry ⟨ny.inv_non, by rw [nx.is_non]; exact k _ ok⟩
  · exact op_notN pins s σ H x y v u Q I rx ry ⟨ny.inv_non, by rw [nx.is_non]; exact k _ ok⟩
  · obtain ⟨c, e, p⟩ := ok
    subst e
    exact op_in_sign pins s σ H x y v u Q I rx ry ⟨c, _, nx.inv_str, ny.inv_str, k _ p⟩
  · obtain ⟨c, e, p⟩ := ok
    subst e
    exact op_notIn_sign pins s σ H x y v u Q I rx ry ⟨c, _, nx.inv_str, ny.inv_str, k _ p⟩
  · obtain ⟨f1, f2, p⟩ := ok
    obtain ⟨a, vs, e1, s1, d1⟩ := ny.inv_tup
    exact op_in_seq pins s σ H x y v u Q I rx ry ⟨a, vs, e1, .inr s1, by rw [nx.flat f1]; exact flatV_fv _, by rw [d1.flat f2]; exact all_flatV _, by rw [nx.flat f1, d1.flat f2]; exact k _ p⟩
  · obtain ⟨f1, f2, p⟩ := ok
    obtain ⟨a, vs, e1, _, s1, d1⟩ := ny.inv_lst
    exact op_in_seq pins s σ H x y v u Q I rx ry ⟨a, vs, e1, .inl (SqL.of s1), by rw [nx.flat f1]; exact flatV_fv _, by rw [d1.flat f2]; exact all_flatV _, by rw [nx.flat f1, d1.flat f2]; exact k _ p⟩
  · obtain ⟨f1, f2, p⟩ := ok
    obtain ⟨a, vs, e1, s1, d1⟩ := ny.inv_tup
    exact op_notIn_seq pins s σ H x y v u Q I rx ry ⟨a, vs, e1, .inr s1, by rw [nx.flat f1]; exact flatV_fv _, by rw [d1.flat f2]; exact all_flatV _, by rw [nx.flat f1, d1.flat f2]; exact k _ p⟩
  · obtain ⟨f1, f2, p⟩ := ok
    obtain ⟨a, vs, e1, _, s1, d1⟩ := ny.inv_lst
    exact op_notIn_seq pins s σ H x y v u Q I rx ry ⟨a, vs, e1, .inl (SqL.of s1), by rw [nx.flat f1]; exact flatV_fv _, by rw [d1.flat f2]; exact all_flatV _, by rw [nx.flat f1, d1.flat f2]; exact k _ p⟩
  · exact ok.elim
theorem ex_cmp {op : CmpOp} (h : EX X PE μ ds a fun x μ1 => EX X PE μ1 ds b fun y μ2 => cmpOk op x y fun z => P (.bl z) μ2) (hm : behindInMarks op b = false) : EX X PE μ ds (.Compare a [op] [b] pos) P :=
  ex_of (pe_cmpR op_cmp pe_U pe_U hm) fun σ H Q ho hs k => h.at ho hs fun v H1 x μ1 s1 h1 b1 n1 p => p.at h1 b1 fun u H2 y μ2 s2 h2 b2 n2 q =>
    ⟨μ2, x, y, _, h2, n1.mono s2, n2, q, fun w r => k _ H2 _ μ2 (s1.trans s2) h2 (.bl _) r⟩
variable {PT : Bool → Mu → Prop}
theorem tx_of {e : Expr} {t : TT} (p : L2.PT X e t) (h : ∀ σ H Q, Hold X.K μ H → Sl X PE μ H σ ds → (∀ b H' μ', Stp μ H μ' H' → Hold X.K μ' H' → PT b μ' → Q b H') → t σ H Q) : TX X PE μ ds e PT :=
  ⟨pt_imp p fun σ H Q ⟨a, b, c⟩ => h σ H Q a b c⟩
theorem tx_cmp {op : CmpOp} (h : EX X PE μ ds a fun x μ1 => EX X PE μ1 ds b fun y μ2 => cmpOk op x y fun z => PT z μ2) (hm : behindInMarks op b = false) : TX X PE μ ds (.Compare a [op] [b] pos) PT :=
  tx_of (pt_cmpR op_cmp pe_U pe_U hm) fun σ H Q ho hs k => h.at ho hs fun v H1 x μ1 s1 h1 b1 n1 p => p.at h1 b1 fun u H2 y μ2 s2 h2 b2 n2 q =>
    ⟨μ2, x, y, _, h2, n1.mono s2, n2, q, fun w r => ⟨w, rfl, k _ H2 μ2 (s1.trans s2) h2 r⟩⟩
/-- a op b op' c -/
theorem tx_chain {op op' : CmpOp} (h : EX X PE μ ds a fun x μ1 => EX X PE μ1 ds b fun y μ2 => cmpOk op x y fun z => (z = true → EX X PE μ2 ds c fun w μ3 => cmpOk op' y w fun z2 => PT z2 μ3) ∧ (z = false → PT false μ2))
    (hm : lastMarks [op, op'] [b, c] = false := by with_unfolding_all rfl) : TX X PE μ ds (.Compare a [op, op'] [b, c] pos) PT :=
  tx_of (pt_chain op_cmp op_cmp pe_U pe_U pe_U hm) fun σ H Q ho hs k => h.at ho hs fun v H1 x μ1 s1 h1 b1 n1 p => p.at h1 b1 fun u H2 y μ2 s2 h2 b2 n2 q =>
    ⟨μ2, x, y, _, h2, n1.mono s2, n2, q, fun z r => ⟨z, rfl, by
      cases z with
      | true =>
        refine iteT ?_
        exact (r.1 rfl).at h2 b2 fun w H3 dw μ3 s3 h3 b3 n3 p3 => ⟨μ3, y, dw, _, h3, n2.mono s3, n3, p3, fun z2 r2 => ⟨z2, rfl, k _ H3 μ3 ((s1.trans s2).trans s3) h3 r2⟩⟩
      | false =>
        refine iteF ?_
        exact ⟨false, rfl, k _ H2 μ2 (s1.trans s2) h2 (r.2 rfl)⟩⟩⟩
theorem ex_chain {op op' : CmpOp} (h : EX X PE μ ds a fun x μ1 => EX X PE μ1 ds b fun y μ2 => cmpOk op x y fun z => (z = true → EX X PE μ2 ds c fun w μ3 => cmpOk op' y w fun z2 => P (.bl z2) μ3) ∧ (z = false → P (.bl false) μ2))
    (hm : lastMarks [op, op'] [b, c] = false := by with_unfolding_all rfl) : EX X PE μ ds (.Compare a [op, op'] [b, c] pos) P :=
  ex_of (pe_chain op_cmp op_cmp pe_U pe_U pe_U hm) fun σ H Q ho hs k => h.at ho hs fun v H1 x μ1 s1 h1 b1 n1 p => p.at h1 b1 fun u H2 y μ2 s2 h2 b2 n2 q =>
    ⟨μ2, x, y, _, h2, n1.mono s2, n2, q, fun z r => ⟨z, rfl, by
      cases z with
      | true =>
        refine iteT ?_
        exact (r.1 rfl).at h2 b2 fun w H3 dw μ3 s3 h3 b3 n3 p3 => ⟨μ3, y, dw, _, h3, n2.mono s3, n3, p3, fun z2 r2 => k _ H3 _ μ3 ((s1.trans s2).trans s3) h3 (.bl _) r2⟩
      | false =>
        refine iteF ?_
        exact k _ H2 _ μ2 (s1.trans s2) h2 (.bl _) (r.2 rfl)⟩⟩
/-! ### and, or, not, if -/
/-- a test that is an and, an or -/
structure TW (X : Cx) (PE : XP) (μ : Mu) (ds : DS) (e : Expr) (P : Bool → Mu → Prop) : Prop where
  pw : PW X e (tDT X PE μ ds P)
def tUW (X : Cx) (e : Expr) : TT := fun σ H Q => ∃ t, PW X e t ∧ t σ H Q
theorem pw_U : PW X e (tUW X e) := ⟨fun wh pins s σ H Q I h => by obtain ⟨t, p, h⟩ := h; exact p.run wh pins s σ H Q I h⟩
theorem pw_imp {t t' : TT} (p : PW X e t) (h : ∀ σ H Q, t' σ H Q → t σ H Q) : PW X e t' := ⟨fun wh pins s σ H Q I q => p.run wh pins s σ H Q I (h σ H Q q)⟩
theorem TW.at {σ : L2.St} {H : Hp} {Q : Bool → Hp → Prop} (x : TW X PE μ ds e PT) (ho : Hold X.K μ H) (hs : Sl X PE μ H σ ds) (k : ∀ b H' μ', Stp μ H μ' H' → Hold X.K μ' H' → Sl X PE μ' H' σ ds → PT b μ' → Q b H') : tUW X e σ H Q :=
  ⟨_, x.pw, ho, hs, fun b H' μ' s h p => k b H' μ' s h (hs.mono s) p⟩
theorem tx_w (h : TW X PE μ ds e PT) : TX X PE μ ds e PT := ⟨h.pw.pt⟩
theorem tw_and1 (h : TX X PE μ ds a PT) : TW X PE μ ds (.BoolOp .And [a] pos) PT := ⟨pw_imp (pw_and1 pt_U) fun σ H Q ⟨ho, hs, k⟩ => h.at ho hs fun b H1 μ1 s1 h1 _ p => k b H1 μ1 s1 h1 p⟩
theorem tw_or1 (h : TX X PE μ ds a PT) : TW X PE μ ds (.BoolOp .Or [a] pos) PT := ⟨pw_imp (pw_or1 pt_U) fun σ H Q ⟨ho, hs, k⟩ => h.at ho hs fun b H1 μ1 s1 h1 _ p => k b H1 μ1 s1 h1 p⟩
theorem tw_and {l : List Expr} (h : TX X PE μ ds a fun z μ1 => (z = true → TW X PE μ1 ds (.BoolOp .And (b :: l) pos) PT) ∧ (z = false → PT false μ1)) : TW X PE μ ds (.BoolOp .And (a :: b :: l) pos) PT :=
  ⟨pw_imp (pw_and pt_U pw_U) fun σ H Q ⟨ho, hs, k⟩ => h.at ho hs fun z H1 μ1 s1 h1 b1 p => by
    cases z with
    | true => exact iteT ((p.1 rfl).at h1 b1 fun z2 H2 μ2 s2 h2 _ p2 => k z2 H2 μ2 (s1.trans s2) h2 p2)
    | false => exact iteF (k false H1 μ1 s1 h1 (p.2 rfl))⟩
theorem tw_or {l : List Expr} (h : TX X PE μ ds a fun z μ1 => (z = true → PT true μ1) ∧ (z = false → TW X PE μ1 ds (.BoolOp .Or (b :: l) pos) PT)) : TW X PE μ ds (.BoolOp .Or (a :: b :: l) pos) PT :=
  ⟨pw_imp (pw_or pt_U pw_U) fun σ H Q ⟨ho, hs, k⟩ => h.at ho hs fun z H1 μ1 s1 h1 b1 p => by
    cases z with
    | true => exact iteT (k true H1 μ1 s1 h1 (p.1 rfl))
    | false => exact iteF ((p.2 rfl).at h1 b1 fun z2 H2 μ2 s2 h2 _ p2 => k z2 H2 μ2 (s1.trans s2) h2 p2)⟩
theorem tx_not (h : TX X PE μ ds a fun z μ1 => PT (!z) μ1) : TX X PE μ ds (.UnaryOp .Not a pos) PT :=
  tx_of (pt_not pt_U) fun σ H Q ho hs k => h.at ho hs fun z H1 μ1 s1 h1 _ p => k _ H1 μ1 s1 h1 p
/-- .. as values that are bools -/
theorem ex_one {op : BoolOp} (h : EX X PE μ ds a P) : EX X PE μ ds (.BoolOp op [a] pos) P := ex_of (pe_one pe_U) fun σ H Q ho hs k => h.at ho hs fun v H1 d μ1 s1 h1 _ n1 p => k v H1 d μ1 s1 h1 n1 p
theorem ex_and {l : List Expr} (h : EX X PE μ ds a fun x μ1 => ∃ z, x = .bl z ∧ (z = true → EX X PE μ1 ds (.BoolOp .And (b :: l) pos) P) ∧ (z = false → P (.bl false) μ1)) : EX X PE μ ds (.BoolOp .And (a :: b :: l) pos) P :=
  ex_of (pe_and pe_U pe_U) fun σ H Q ho hs k => h.at ho hs fun v H1 x μ1 s1 h1 b1 n1 ⟨z, e, p⟩ => by
    subst e
    refine ⟨z, n1.inv_bl, ?_⟩
    cases z with
    | true => exact iteT ((p.1 rfl).at h1 b1 fun z2 H2 d2 μ2 s2 h2 _ n2 p2 => k z2 H2 d2 μ2 (s1.trans s2) h2 n2 p2)
    | false => exact iteF (k _ H1 _ μ1 s1 h1 (.bl _) (p.2 rfl))
theorem ex_or {l : List Expr} (h : EX X PE μ ds a fun x μ1 => ∃ z, x = .bl z ∧ (z = true → P (.bl true) μ1) ∧ (z = false → EX X PE μ1 ds (.BoolOp .Or (b :: l) pos) P)) : EX X PE μ ds (.BoolOp .Or (a :: b :: l) pos) P :=
  ex_of (pe_or pe_U pe_U) fun σ H Q ho hs k => h.at ho hs fun v H1 x μ1 s1 h1 b1 n1 ⟨z, e, p⟩ => by
    subst e
    refine ⟨z, n1.inv_bl, ?_⟩
    cases z with
    | true => exact iteT (k _ H1 _ μ1 s1 h1 (.bl _) (p.1 rfl))
    | false => exact iteF ((p.2 rfl).at h1 b1 fun z2 H2 d2 μ2 s2 h2 _ n2 p2 => k z2 H2 d2 μ2 (s1.trans s2) h2 n2 p2)
theorem ex_not (h : EX X PE μ ds a fun x μ1 => ∃ z, x = .bl z ∧ P (.bl (!z)) μ1) : EX X PE μ ds (.UnaryOp .Not a pos) P :=
  ex_of (L2.pe_not pe_U) fun σ H Q ho hs k => h.at ho hs fun v H1 x μ1 s1 h1 b1 n1 ⟨z, e, p⟩ => by
    subst e
    exact ⟨z, n1.inv_bl, k _ H1 _ μ1 s1 h1 (.bl _) p⟩
theorem ex_if (h : TX X PE μ ds c fun z μ1 => (z = true → EX X PE μ1 ds a P) ∧ (z = false → EX X PE μ1 ds b P)) : EX X PE μ ds (.IfExp c a b pos) P :=
  ex_of (pe_ifExp pt_U pe_U pe_U) fun σ H Q ho hs k => h.at ho hs fun z H1 μ1 s1 h1 b1 p => by
    cases z with
    | true => exact iteT ((p.1 rfl).at h1 b1 fun z2 H2 d2 μ2 s2 h2 _ n2 p2 => k z2 H2 d2 μ2 (s1.trans s2) h2 n2 p2)
    | false => exact iteF ((p.2 rfl).at h1 b1 fun z2 H2 d2 μ2 s2 h2 _ n2 p2 => k z2 H2 d2 μ2 (s1.trans s2) h2 n2 p2)
/-- truth of data -/
def truD : D → Option Bool
  | .non => some false
  | .bl b => some b
  | .int i => some (i != 0)
  | .lst xs => some !xs.isEmpty
  | .tup xs => some !xs.isEmpty
  | _ => none
theorem DenAll.isEmpty {K : PySem.W.Frag} {H : Hp} {vs : List V} {xs : List D} (h : DenAll K μ H vs xs) : vs.isEmpty = xs.isEmpty := by cases h <;> rfl
theorem tx_val (h : EX X PE μ ds a fun x μ1 => ∃ z, truD x = some z ∧ PT z μ1) (he : ∀ whole, isTrue a X.env whole = (do let v ← whole; standAt a.pos; holding [v] (truthy v))) : TX X PE μ ds a PT :=
  tx_of (pt_truth pe_U he) fun σ H Q ho hs k => h.at ho hs fun v H1 x μ1 s1 h1 b1 n1 ⟨z, e, p⟩ => by
    refine ⟨z, ?_, k z H1 μ1 s1 h1 p⟩
    cases n1 with
    | non => cases e; rfl
    | bl b => cases e; rfl
    | int i => cases e; rfl
    | str s => cases e
    | ty n => cases e
    | ref a => cases e
    | tup q r t => cases e; exact .inr (.inl ⟨_, .inl (.inl r), by rw [t.isEmpty]⟩)
    | tupK r t => cases e; exact .inr (.inl ⟨_, r H1, by rw [t.isEmpty]⟩)
    | lst q r t => cases e; exact .inl ⟨_, SqL.of r, by rw [t.isEmpty]⟩
    | rol q r t => cases e
    | rolK r t => cases e
    | obj q r t => cases e
    | exc q r t => cases e
    | fn r => cases e
    | dic q r t => cases e

/-! ### subscripts -/
/-- what a[i] gives -/
def ixOk : D → D → (D → Prop) → Prop
  | .tup xs, .int i, P => ∃ d, atI xs i = some d ∧ P d
  | .lst xs, .int i, P => ∃ d, atI xs i = some d ∧ P d
  | .rol xs, .int i, P => ∃ d, atI xs i = some d ∧ P d
  | .str s, .int i, P => ∃ c, s.length ≤ sizeLine ∧ atI s.cps.toList i = some c ∧ P (.str ⟨#[c]⟩)
  | _, _, _ => False
theorem DenAll.atI {K : PySem.W.Frag} {H : Hp} {vs : List V} {xs : List D} {i : Int} {d : D} (h : DenAll K μ H vs xs) (e : L2.atI xs i = some d) : ∃ v, L2.atI vs i = some v ∧ Den K μ H v d := by
  unfold L2.atI at e ⊢
  rw [h.length]
  cases q : ixN xs.length i with
  | none => rw [q] at e; cases e
  | some j =>
    rw [q] at e
    exact h.getD e
theorem ix_D : IxR X (rD2 X.K ixOk) := by
  intro value slice pins s σ H x y v u Q I rx ry h hsub
  obtain ⟨μ, dx, dy, R, ho, nx, ny, ok, k⟩ := h
  unfold ixOk at ok
  split at ok
  · obtain ⟨d, e, p⟩ := ok
    obtain ⟨a, vs, e1, s1, d1⟩ := nx.inv_tup
    obtain ⟨w, e2, n2⟩ := d1.atI e
    exact ix_tup value slice pins s σ H x y v u Q I rx ry ⟨a, vs, _, w, e1, ny.inv_int, s1, e2, k w H d (Stp.refl _ _) ho n2 p⟩ hsub
  · obtain ⟨d, e, p⟩ := ok
    obtain ⟨a, vs, e1, _, s1, d1⟩ := nx.inv_lst
    obtain ⟨w, e2, n2⟩ := d1.atI e
    exact ix_list value slice pins s σ H x y v u Q I rx ry ⟨a, vs, _, w, e1, ny.inv_int, SqL.of s1, e2, k w H d (Stp.refl _ _) ho n2 p⟩ hsub
  · obtain ⟨d, e, p⟩ := ok
    obtain ⟨a, vs, e1, s1, d1⟩ := nx.inv_rol
    obtain ⟨w, e2, n2⟩ := d1.atI e
    exact ix_list value slice pins s σ H x y v u Q I rx ry ⟨a, vs, _, w, e1, ny.inv_int, s1, e2, k w H d (Stp.refl _ _) ho n2 p⟩ hsub
  · obtain ⟨c, l, e, p⟩ := ok
    exact ix_str value slice pins s σ H x y v u Q I rx ry ⟨_, _, c, nx.inv_str, ny.inv_int, l, e, k _ H _ (Stp.refl _ _) ho (.str _) p⟩ hsub
  · exact ok.elim
/-- .. of a list that changes, too -/
def ixA (μ : Mu) : D → D → (D → Prop) → Prop
  | .ref p, .int i, P => ∃ xs d, μ p = some (.lst xs) ∧ L2.atI xs i = some d ∧ P d
  | x, y, P => ixOk x y P
theorem ex_ix (h : EX X PE μ ds a fun x μ1 => EX X PE μ1 ds b fun y μ2 => ixA μ2 x y fun z => P z μ2) (hs : PlainIx b := by exact fun _ _ => rfl) : EX X PE μ ds (.Subscript a b pos) P :=
  ex_of (pe_ix (IxR.or ix_list ix_D) pe_U pe_U hs) fun σ H Q ho hs k => h.at ho hs fun v H1 x μ1 s1 h1 b1 n1 p => p.at h1 b1 fun u H2 y μ2 s2 h2 b2 n2 q => by
    unfold ixA at q
    split at q
    · obtain ⟨xs, d, m, e3, q⟩ := q
      obtain ⟨vs, hv, dv⟩ := h2 _ _ m
      obtain ⟨w, e4, n4⟩ := dv.atI e3
      exact .inl ⟨_, vs, _, w, n1.inv_ref, n2.inv_int, SqL.of hv, e4, k w H2 d μ2 (s1.trans s2) h2 n4 q⟩
    · exact .inr ⟨μ2, _, _, _, h2, n1.mono s2, n2, q, fun w H3 d s3 h3 n3 r => k w H3 d μ2 ((s1.trans s2).trans s3) h3 n3 r⟩
end
end Hw
set_option Elab.async false
set_option linter.all false
set_option maxRecDepth 100000
set_option maxHeartbeats 1000000
namespace Hw
open PySem L2 PyProof.Rows

/-! ### statements -/
/-- what is wanted behind a statement -/
structure Po where
  nx : DS → Mu → Prop
  rt : D → Mu → Prop
  bk : DS → Mu → Prop := fun _ _ => False
  ct : DS → Mu → Prop := fun _ _ => False
/-- D keeps what Z wants, from μ at H on -/
structure Meets (X : Cx) (PE : XP) (μ : Mu) (H : Hp) (Z : Po) (D : Ends) : Prop where
  nx : ∀ σ' H' ds' μ', Stp μ H μ' H' → Hold X.K μ' H' → Sl X PE μ' H' σ' ds' → Z.nx ds' μ' → D.nx σ' H'
  rt : ∀ v H' d μ', Stp μ H μ' H' → Hold X.K μ' H' → Den X.K μ' H' v d → Z.rt d μ' → D.rt v H'
  bk : ∀ σ' H' ds' μ', Stp μ H μ' H' → Hold X.K μ' H' → Sl X PE μ' H' σ' ds' → Z.bk ds' μ' → D.bk σ' H'
  ct : ∀ σ' H' ds' μ', Stp μ H μ' H' → Hold X.K μ' H' → Sl X PE μ' H' σ' ds' → Z.ct ds' μ' → D.ct σ' H'
theorem Meets.later {X : Cx} {PE : XP} {μ μ' : Mu} {H H' : Hp} {Z : Po} {D : Ends} (m : Meets X PE μ H Z D) (s : Stp μ H μ' H') : Meets X PE μ' H' Z D :=
  ⟨fun σ1 H1 ds1 μ1 s1 => m.nx σ1 H1 ds1 μ1 (s.trans s1), fun v H1 d μ1 s1 => m.rt v H1 d μ1 (s.trans s1), fun σ1 H1 ds1 μ1 s1 => m.bk σ1 H1 ds1 μ1 (s.trans s1), fun σ1 H1 ds1 μ1 s1 => m.ct σ1 H1 ds1 μ1 (s.trans s1)⟩
def tDS (X : Cx) (PE : XP) (μ : Mu) (ds : DS) (Z : Po) : TS := fun D σ H => Hold X.K μ H ∧ Sl X PE μ H σ ds ∧ Meets X PE μ H Z D
structure SX (X : Cx) (PE : XP) (μ : Mu) (ds : DS) (st : Stmt) (Z : Po) : Prop where
  ps : PS X st (tDS X PE μ ds Z)
structure SSX (X : Cx) (PE : XP) (μ : Mu) (ds : DS) (st : List Stmt) (Z : Po) : Prop where
  pss : PSs X st (tDS X PE μ ds Z)
/-- a target: d is stored -/
structure GX (X : Cx) (PE : XP) (μ : Mu) (ds : DS) (tg : Expr) (d : D) (R : DS → Mu → Prop) : Prop where
  pg : PG X tg (fun v σ H Q => Hold X.K μ H ∧ Sl X PE μ H σ ds ∧ Den X.K μ H v d ∧ ∀ σ' H' ds' μ', Stp μ H μ' H' → Hold X.K μ' H' → Sl X PE μ' H' σ' ds' → R ds' μ' → Q σ' H')
def tUS (X : Cx) (st : List Stmt) : TS := fun D σ H => ∃ t, PSs X st t ∧ t D σ H
def tUS1 (X : Cx) (st : Stmt) : TS := fun D σ H => ∃ t, PS X st t ∧ t D σ H
def tUG (X : Cx) (tg : Expr) : TG := fun v σ H Q => ∃ t, PG X tg t ∧ t v σ H Q
section
variable {X : Cx} {PE : XP} {e a b c : Expr} {es : List Expr} {μ : Mu} {ds : DS} {P : DP} {pos : Pos} {Z : Po} {st : Stmt} {rest : List Stmt} {tg : Expr} {d : D} {R : DS → Mu → Prop}
theorem pss_U {l : List Stmt} : PSs X l (tUS X l) := ⟨fun pins s σ H D I h => by obtain ⟨t, p, h⟩ := h; exact p.run pins s σ H D I h⟩
theorem ps_U : PS X st (tUS1 X st) := ⟨fun pins s σ H D I h => by obtain ⟨t, p, h⟩ := h; exact p.run pins s σ H D I h⟩
theorem pg_U : PG X tg (tUG X tg) := ⟨fun pins s σ H v u Q I r h => by obtain ⟨t, p, h⟩ := h; exact p.run pins s σ H v u Q I r h⟩
theorem ps_imp {t t' : TS} (p : PS X st t) (h : ∀ D σ H, t' D σ H → t D σ H) : PS X st t' := ⟨fun pins s σ H D I q => p.run pins s σ H D I (h D σ H q)⟩
theorem pss_imp {l : List Stmt} {t t' : TS} (p : PSs X l t) (h : ∀ D σ H, t' D σ H → t D σ H) : PSs X l t' := ⟨fun pins s σ H D I q => p.run pins s σ H D I (h D σ H q)⟩
theorem sx_of {t : TS} (p : PS X st t) (h : ∀ D σ H, Hold X.K μ H → Sl X PE μ H σ ds → Meets X PE μ H Z D → t D σ H) : SX X PE μ ds st Z := ⟨ps_imp p fun D σ H ⟨x, y, z⟩ => h D σ H x y z⟩
theorem SX.at {D : Ends} {σ : L2.St} {H : Hp} (x : SX X PE μ ds st Z) (ho : Hold X.K μ H) (hs : Sl X PE μ H σ ds) (m : Meets X PE μ H Z D) : tUS1 X st D σ H := ⟨_, x.ps, ho, hs, m⟩
theorem SSX.at {l : List Stmt} {D : Ends} {σ : L2.St} {H : Hp} (x : SSX X PE μ ds l Z) (ho : Hold X.K μ H) (hs : Sl X PE μ H σ ds) (m : Meets X PE μ H Z D) : tUS X l D σ H := ⟨_, x.pss, ho, hs, m⟩
theorem SSX.imp {l : List Stmt} {Z' : Po} (x : SSX X PE μ ds l Z) (hn : ∀ s m, Z.nx s m → Z'.nx s m) (hr : ∀ s m, Z.rt s m → Z'.rt s m) (hb : ∀ s m, Z.bk s m → Z'.bk s m) (hc : ∀ s m, Z.ct s m → Z'.ct s m) : SSX X PE μ ds l Z' :=
  ⟨pss_imp x.pss fun D σ H ⟨ho, hs, m⟩ => ⟨ho, hs, fun σ1 H1 d1 μ1 s1 h1 n1 p => m.nx σ1 H1 d1 μ1 s1 h1 n1 (hn _ _ p), fun v H1 d1 μ1 s1 h1 n1 p => m.rt v H1 d1 μ1 s1 h1 n1 (hr _ _ p), fun σ1 H1 d1 μ1 s1 h1 n1 p => m.bk σ1 H1 d1 μ1 s1 h1 n1 (hb _ _ p), fun σ1 H1 d1 μ1 s1 h1 n1 p => m.ct σ1 H1 d1 μ1 s1 h1 n1 (hc _ _ p)⟩⟩
theorem GX.at {v : V} {Q : L2.St → Hp → Prop} {σ : L2.St} {H : Hp} (x : GX X PE μ ds tg d R) (ho : Hold X.K μ H) (hs : Sl X PE μ H σ ds) (n : Den X.K μ H v d)
    (k : ∀ σ' H' ds' μ', Stp μ H μ' H' → Hold X.K μ' H' → Sl X PE μ' H' σ' ds' → R ds' μ' → Q σ' H') : tUG X tg v σ H Q := ⟨_, x.pg, ho, hs, n, k⟩
theorem sx_nil (h : Z.nx ds μ) : SSX X PE μ ds [] Z := ⟨pss_imp pss_nil fun D σ H ⟨ho, hs, m⟩ => m.nx σ H ds μ (Stp.refl _ _) ho hs h⟩
theorem sx_cons (h : SX X PE μ ds st { Z with nx := fun ds1 μ1 => SSX X PE μ1 ds1 rest Z }) : SSX X PE μ ds (st :: rest) Z :=
  ⟨pss_imp (pss_cons ps_U pss_U) fun D σ H ⟨ho, hs, m⟩ => h.at ho hs ⟨fun σ1 H1 ds1 μ1 s1 h1 n1 p => p.at h1 n1 (m.later s1), m.rt, m.bk, m.ct⟩⟩
theorem SX.imp {Z' : Po} (x : SX X PE μ ds st Z) (hn : ∀ s m, Z.nx s m → Z'.nx s m) (hr : ∀ s m, Z.rt s m → Z'.rt s m) (hb : ∀ s m, Z.bk s m → Z'.bk s m) (hc : ∀ s m, Z.ct s m → Z'.ct s m) : SX X PE μ ds st Z' :=
  ⟨ps_imp x.ps fun D σ H ⟨ho, hs, m⟩ => ⟨ho, hs, fun σ1 H1 d1 μ1 s1 h1 n1 p => m.nx σ1 H1 d1 μ1 s1 h1 n1 (hn _ _ p), fun v H1 d1 μ1 s1 h1 n1 p => m.rt v H1 d1 μ1 s1 h1 n1 (hr _ _ p), fun σ1 H1 d1 μ1 s1 h1 n1 p => m.bk σ1 H1 d1 μ1 s1 h1 n1 (hb _ _ p), fun σ1 H1 d1 μ1 s1 h1 n1 p => m.ct σ1 H1 d1 μ1 s1 h1 n1 (hc _ _ p)⟩⟩
/-- a word between a statement and the rest -/
theorem sx_cut (Mid : DS → Mu → Prop) (h1 : SX X PE μ ds st { Z with nx := Mid }) (h2 : ∀ s m, Mid s m → SSX X PE m s rest Z) : SSX X PE μ ds (st :: rest) Z :=
  sx_cons (h1.imp h2 (fun _ _ q => q) (fun _ _ q => q) fun _ _ q => q)
/-- the rest behind a letter -/
theorem sx_next (h : ∀ Z1 : Po, (∀ s m, SSX X PE m s rest Z → Z1.nx s m) → (∀ d m, Z.rt d m → Z1.rt d m) → (∀ s m, Z.bk s m → Z1.bk s m) → (∀ s m, Z.ct s m → Z1.ct s m) → SX X PE μ ds st Z1) : SSX X PE μ ds (st :: rest) Z :=
  sx_cons (h { Z with nx := fun ds1 μ1 => SSX X PE μ1 ds1 rest Z } (fun _ _ q => q) (fun _ _ q => q) (fun _ _ q => q) fun _ _ q => q)
theorem sx_one (h : SX X PE μ ds st Z) : SSX X PE μ ds [st] Z := ⟨pss_imp (pss_one ps_U) fun D σ H ⟨ho, hs, m⟩ => h.at ho hs m⟩
theorem sx_doc {x j} {p2 : Pos} (h : Z.nx ds μ) : SX X PE μ ds (.Expr (.Constant (.str x) j p2) pos) Z := sx_of ps_doc fun D σ H ho hs m => m.nx σ H ds μ (Stp.refl _ _) ho hs h
theorem sx_pass (h : Z.nx ds μ) : SX X PE μ ds (.Pass pos) Z := sx_of ps_pass fun D σ H ho hs m => m.nx σ H ds μ (Stp.refl _ _) ho hs h
theorem sx_brk (h : Z.bk ds μ) : SX X PE μ ds (.Break pos) Z := sx_of ps_break fun D σ H ho hs m => m.bk σ H ds μ (Stp.refl _ _) ho hs h
theorem sx_cnt (h : Z.ct ds μ) : SX X PE μ ds (.Continue pos) Z := sx_of ps_continue fun D σ H ho hs m => m.ct σ H ds μ (Stp.refl _ _) ho hs h
theorem sx_expr (h : EX X PE μ ds e fun _ μ' => Z.nx ds μ') (hs : swapsWith e none pos.line X.env = pure false := by rfl) : SX X PE μ ds (.Expr e pos) Z :=
  sx_of (ps_expr pe_U hs) fun D σ H ho hs m => h.at ho hs fun v H1 d μ1 s1 h1 b1 n1 p => m.nx σ H1 ds μ1 s1 h1 b1 p
theorem sx_ret (h : EX X PE μ ds e Z.rt) : SX X PE μ ds (.Return (some e) pos) Z := sx_of (ps_ret pe_U) fun D σ H ho hs m => h.at ho hs fun v H1 d μ1 s1 h1 b1 n1 p => m.rt v H1 d μ1 s1 h1 n1 p
theorem sx_retN (h : Z.rt .non μ) : SX X PE μ ds (.Return none pos) Z := sx_of ps_retN fun D σ H ho hs m => m.rt _ H _ μ (Stp.refl _ _) ho .non h
theorem sx_if {l1 l2 : List Stmt} (h : TX X PE μ ds c fun z μ1 => (z = true → SSX X PE μ1 ds l1 Z) ∧ (z = false → SSX X PE μ1 ds l2 Z)) : SX X PE μ ds (.If c l1 l2 pos) Z :=
  sx_of (ps_if pt_U pss_U pss_U) fun D σ H ho hs m => h.at ho hs fun z H1 μ1 s1 h1 b1 p => by
    cases z with
    | true => exact iteT ((p.1 rfl).at h1 b1 (m.later s1))
    | false => exact iteF ((p.2 rfl).at h1 b1 (m.later s1))
/-- name = e -/
theorem sx_set (i : Nat) {x : Str} {px : Pos} (h : EX X PE μ ds e fun d μ' => Z.nx (ds.set i (some d)) μ') (hN : X.N.Nodup) (hi : X.N[i]? = some x) (hx : Loc X.env.scope x) (hs : swapsWith e (some (.Name x px)) pos.line X.env = pure false := by rfl)
    (hf : X.fn x = true ∨ X.env.scope.names.lookup x = some .local := by first | exact .inl rfl | exact .inr rfl | assumption) : SX X PE μ ds (.Assign [.Name x px] e pos) Z :=
  sx_of (ps_set hN hi hx pe_U hs hf) fun D σ H ho hs m => h.at ho hs fun v H1 d μ1 s1 h1 b1 n1 p => m.nx _ H1 _ μ1 s1 h1 (b1.set n1) p
theorem gx_nm (i : Nat) {x : Str} (h : R (ds.set i (some d)) μ) (hN : X.N.Nodup) (hi : X.N[i]? = some x) (hx : Loc X.env.scope x) (hf : X.fn x = true ∨ X.env.scope.names.lookup x = some .local := by first | exact .inl rfl | exact .inr rfl | assumption) : GX X PE μ ds (.Name x pos) d R :=
  ⟨⟨fun pins s σ H v u Q I r ⟨ho, hs, n, k⟩ => (pg_name hN hi hx hf).run pins s σ H v u Q I r (k _ H _ μ (Stp.refl _ _) ho (hs.set n) h)⟩⟩
/-- several targets -/
structure GSX (X : Cx) (PE : XP) (μ : Mu) (ds : DS) (ts : List Expr) (xs : List D) (R : DS → Mu → Prop) : Prop where
  pg : PGs X ts (fun vs σ H Q => Hold X.K μ H ∧ Sl X PE μ H σ ds ∧ DenAll X.K μ H vs xs ∧ ∀ σ' H' ds' μ', Stp μ H μ' H' → Hold X.K μ' H' → Sl X PE μ' H' σ' ds' → R ds' μ' → Q σ' H')
theorem gs_nil (h : R ds μ) : GSX X PE μ ds [] [] R := ⟨⟨fun pins s σ H vs us Q I r ⟨ho, hs, n, k⟩ => by
    cases n
    exact pgs_nil.run pins s σ H [] us Q I r ⟨rfl, k σ H ds μ (Stp.refl _ _) ho hs h⟩⟩⟩
def tUGs (X : Cx) (ts : List Expr) : TGs := fun vs σ H Q => ∃ t, PGs X ts t ∧ t vs σ H Q
theorem pgs_U {ts : List Expr} : PGs X ts (tUGs X ts) := ⟨fun pins s σ H v u Q I r h => by obtain ⟨t, p, h⟩ := h; exact p.run pins s σ H v u Q I r h⟩
theorem gs_cons {ts : List Expr} {xs : List D} (h : GX X PE μ ds tg d fun ds1 μ1 => GSX X PE μ1 ds1 ts xs R) (hs : (assignEach (tg :: ts) X.env).map (·.2) = assign tg X.env :: (assignEach ts X.env).map (·.2) := by rfl) : GSX X PE μ ds (tg :: ts) (d :: xs) R :=
  ⟨⟨fun pins s σ H vs us Q I r ⟨ho, hs', n, k⟩ => by
    cases n with
    | cons n1 n2 => exact (pgs_cons pg_U pgs_U hs).run pins s σ H _ us Q I r ⟨_, _, rfl, h.at ho hs' n1 fun σ1 H1 ds1 μ1 s1 h1 b1 p => ⟨_, p.pg, h1, b1, n2.mono s1, fun σ2 H2 ds2 μ2 s2 h2 b2 p2 => k σ2 H2 ds2 μ2 (s1.trans s2) h2 b2 p2⟩⟩⟩⟩
theorem gx_tup {ts : List Expr} {kk : Nat} {xs : List D} (h : GSX X PE μ ds ts xs R) (hc : X.calm = true) (hl : xs.length = ts.length) (hn : (assignEach ts X.env).length = ts.length := by rfl) (hst : (assignEach ts X.env).findIdx? (·.1) = none := by rfl) : GX X PE μ ds (.Tuple ts kk pos) (.tup xs) R :=
  ⟨⟨fun pins s σ H v u Q I r ⟨ho, hs, n, k⟩ => by
    obtain ⟨a, vs, e, sq, n2⟩ := n.inv_tup
    exact (pg_tup hc pgs_U hn hst).run pins s σ H v u Q I r ⟨a, vs, e, sq, by rw [n2.length]; exact hl, _, h.pg, ho, hs, n2, k⟩⟩⟩
/-- target = e -/
theorem sx_asg (h : EX X PE μ ds e fun d μ1 => GX X PE μ1 ds tg d Z.nx) (hs : swapsWithSole [tg] e pos.line X.env = pure false := by rfl) (hw : swappedStores [tg] e X.env = pure none := by rfl)
    (h1 : (assignEach [tg] X.env).map (·.2) = [assign tg X.env] := by rfl) : SX X PE μ ds (.Assign [tg] e pos) Z :=
  sx_of (ps_asg pe_U pg_U hs hw h1) fun D σ H ho hs m => h.at ho hs fun v H1 d μ1 s1 h1 b1 n1 p => p.at h1 b1 n1 fun σ2 H2 ds2 μ2 s2 h2 b2 p2 => m.nx σ2 H2 ds2 μ2 (s1.trans s2) h2 b2 p2
/-- a, b = x, y -/
theorem sx_par (i j : Nat) {x y : Str} {px py pt : Pos} {kt k2 pt2} (h : AX X PE μ ds [a, b] fun xs μ' => ∃ v w, xs = [v, w] ∧ Z.nx ((ds.set i (some v)).set j (some w)) μ') (hc : X.calm = true) (hN : X.N.Nodup) (hi : X.N[i]? = some x) (hj : X.N[j]? = some y) (hij : i ≠ j)
    (hx : X.env.scope.names.lookup x = some .local) (hy : X.env.scope.names.lookup y = some .local)
    (hw : swappedStores [.Tuple [.Name x px, .Name y py] kt pt] (.Tuple [a, b] k2 pt2) X.env = pure (some [x, y])) (hs : swapsWithSole [.Tuple [.Name x px, .Name y py] kt pt] (.Tuple [a, b] k2 pt2) pos.line X.env = pure false := by rfl) :
    SX X PE μ ds (.Assign [.Tuple [.Name x px, .Name y py] kt pt] (.Tuple [a, b] k2 pt2) pos) Z :=
  sx_of (ps_par hc hN hi hj hij hx hy pa_U hw hs) fun D σ H ho hs m => h.at ho hs fun vs H1 xs μ1 s1 h1 b1 n1 ⟨v, w, e, p⟩ => by
    subst e
    cases n1 with
    | cons r1 n1 =>
      cases n1 with
      | cons r2 n1 =>
        cases n1
        exact ⟨_, _, rfl, m.nx _ H1 _ μ1 s1 h1 ((b1.set r1).set r2) p⟩
end

/-! ### what is walked -/
/-- J goes through the data xs, from μ at H on -/
def ItD (K : PySem.W.Frag) (J : It) (μ : Mu) (H : Hp) (xs : List D) : Prop := ∀ i H1 μ1, Stp μ H μ1 H1 → Hold K μ1 H1 → (xs.length ≤ i → J.stop i H1) ∧
  ∀ x, xs[i]? = some x → J.go i H1 ∧ ∀ v H2, J.yld i H1 v H2 → Stp μ1 H1 μ1 H2 ∧ Hold K μ1 H2 ∧ Den K μ1 H2 v x
structure IX (X : Cx) (PE : XP) (μ : Mu) (ds : DS) (tg iter : Expr) (P : List D → Mu → Prop) : Prop where
  pi : PI X tg iter (fun σ H R => Hold X.K μ H ∧ Sl X PE μ H σ ds ∧ ∀ J H' xs μ', Stp μ H μ' H' → Hold X.K μ' H' → ItD X.K J μ' H' xs → P xs μ' → R J H')
def tUI (X : Cx) (tg iter : Expr) : TI := fun σ H R => ∃ t, PI X tg iter t ∧ t σ H R
section
variable {X : Cx} {PE : XP} {e a b c : Expr} {es : List Expr} {μ : Mu} {ds : DS} {P : DP} {pos : Pos} {Z : Po} {st : Stmt} {rest : List Stmt} {tg iter : Expr} {d : D} {R : DS → Mu → Prop}
theorem pi_U : PI X tg iter (tUI X tg iter) := ⟨fun pins s σ H R I h => by obtain ⟨t, p, h⟩ := h; exact p.run pins s σ H R I h⟩
theorem IX.at {P : List D → Mu → Prop} {σ : L2.St} {H : Hp} {Q : It → Hp → Prop} (x : IX X PE μ ds tg iter P) (ho : Hold X.K μ H) (hs : Sl X PE μ H σ ds) (k : ∀ J H' xs μ', Stp μ H μ' H' → Hold X.K μ' H' → Sl X PE μ' H' σ ds → ItD X.K J μ' H' xs → P xs μ' → Q J H') : tUI X tg iter σ H Q :=
  ⟨_, x.pi, ho, hs, fun J H' xs μ' s h i p => k J H' xs μ' s h (hs.mono s) i p⟩
theorem ix_of {t : TI} {P : List D → Mu → Prop} (p : PI X tg iter t) (h : ∀ σ H R, Hold X.K μ H → Sl X PE μ H σ ds → (∀ J H' xs μ', Stp μ H μ' H' → Hold X.K μ' H' → ItD X.K J μ' H' xs → P xs μ' → R J H') → t σ H R) : IX X PE μ ds tg iter P :=
  ⟨⟨fun pins s σ H R I ⟨x, y, z⟩ => p.run pins s σ H R I (h σ H R x y z)⟩⟩
theorem itd_list {K : PySem.W.Frag} {H : Hp} {p : Addr} {vs : List V} {xs : List D} (h0 : ∀ H1 μ1, Stp μ H μ1 H1 → SqL K H1 p vs) (n : DenAll K μ H vs xs) : ItD K (Itl K p) μ H xs := fun i H1 μ1 s h => by
  have hl := n.length
  refine ⟨fun q => ⟨vs, h0 H1 μ1 s, by rw [hl]; exact q⟩, fun x hx => ?_⟩
  obtain ⟨v, hv, nv⟩ := n.getD hx
  refine ⟨⟨vs, v, h0 H1 μ1 s, hv⟩, fun w H2 ⟨e, q⟩ => ?_⟩
  subst e
  have e := q vs (h0 H2 μ1 s)
  rw [hv] at e
  cases e
  exact ⟨Stp.refl _ _, h, nv.mono s⟩
theorem itd_tup {K : PySem.W.Frag} {H : Hp} {p : Addr} {vs : List V} {xs : List D} (h0 : ∀ H1 μ1, Stp μ H μ1 H1 → SqT K H1 p vs) (n : DenAll K μ H vs xs) : ItD K (Itt K p) μ H xs := fun i H1 μ1 s h => by
  have hl := n.length
  refine ⟨fun q => ⟨vs, h0 H1 μ1 s, by rw [hl]; exact q⟩, fun x hx => ?_⟩
  obtain ⟨v, hv, nv⟩ := n.getD hx
  refine ⟨⟨vs, v, h0 H1 μ1 s, hv⟩, fun w H2 ⟨e, q⟩ => ?_⟩
  subst e
  have e := q vs (h0 H2 μ1 s)
  rw [hv] at e
  cases e
  exact ⟨Stp.refl _ _, h, nv.mono s⟩
theorem ix_list {P : List D → Mu → Prop} (h : EX X PE μ ds iter fun d μ1 => ∃ xs, (d = .lst xs ∨ d = .rol xs) ∧ P xs μ1) : IX X PE μ ds tg iter P :=
  ix_of (pi_list pe_U) fun σ H R ho hs k => h.at ho hs fun v H1 d μ1 s1 h1 b1 n1 ⟨xs, e, p⟩ => by
    rcases e with e | e <;> subst e
    · cases n1 with
      | lst q r t => exact ⟨_, rfl, ⟨_, SqL.of r⟩, k _ H1 xs μ1 s1 h1 (itd_list (fun H2 μ2 s2 => SqL.of (s2 _ _ q r nofun).1) t) p⟩
    · cases n1 with
      | rol q r t => exact ⟨_, rfl, ⟨_, .inl r⟩, k _ H1 xs μ1 s1 h1 (itd_list (fun H2 μ2 s2 => .inl (Rd.stp s2 q r).1) t) p⟩
      | rolK r t => exact ⟨_, rfl, ⟨_, r H1⟩, k _ H1 xs μ1 s1 h1 (itd_list (fun H2 μ2 s2 => r H2) t) p⟩
theorem ix_tup {P : List D → Mu → Prop} (h : EX X PE μ ds iter fun d μ1 => ∃ xs, d = .tup xs ∧ P xs μ1) : IX X PE μ ds tg iter P :=
  ix_of (pi_tup pe_U) fun σ H R ho hs k => h.at ho hs fun v H1 d μ1 s1 h1 b1 n1 ⟨xs, e, p⟩ => by
    subst e
    cases n1 with
    | tup q r t => exact ⟨_, rfl, ⟨_, .inl (.inl r)⟩, k _ H1 xs μ1 s1 h1 (itd_tup (fun H2 μ2 s2 => .inl (.inl (s2 _ _ q r nofun).1)) t) p⟩
    | tupK r t => exact ⟨_, rfl, ⟨_, r H1⟩, k _ H1 xs μ1 s1 h1 (itd_tup (fun H2 μ2 s2 => r H2) t) p⟩
/-- lo, lo + 1, .., n of them -/
def rngD (lo : Int) (n : Nat) : List D := (List.range n).map fun (i : Nat) => D.int (lo + (i : Int))
theorem itd_range {K : PySem.W.Frag} {H : Hp} (lo : Int) (n : Nat) : ItD K (Itr lo n) μ H (rngD lo n) := fun i H1 μ1 s h => by
  refine ⟨fun q => (show n ≤ i by simpa [rngD] using q), fun x hx => ?_⟩
  have hi : i < n := by
    have := (List.getElem?_eq_some_iff.mp hx).1
    simpa [rngD] using this
  refine ⟨hi, fun w H2 ⟨e, q⟩ => ?_⟩
  subst e q
  have : x = D.int (lo + (i : Int)) := by
    simp [rngD, List.getElem?_map, List.getElem?_range hi] at hx
    exact hx.symm
  subst this
  exact ⟨Stp.refl _ _, h, .int _⟩
theorem ix_range1 {p : Pos} {P : List D → Mu → Prop} (h : EX X PE μ ds a fun d μ1 => ∃ j, d = .int j ∧ -(2 ^ 62) ≤ j ∧ j < 2 ^ 62 ∧ P (rngD 0 j.toNat) μ1) (hg : Gl X "range") (hm : X.mg "range" = none) (hs : starEach [a] X.env = [(false, eval a X.env)] := by rfl) : IX X PE μ ds tg (.Call (.Name "range" p) [a] [] pos) P :=
  ix_of (pi_range1 hg hm (pa_cons pe_U pa_nil hs) hs) fun σ H R ho hs k => h.at ho hs fun v H1 d μ1 s1 h1 b1 n1 ⟨j, e, p1, p2, p⟩ => by
    subst e
    rw [n1.inv_int]
    exact ⟨j, rfl, p1, p2, k _ H1 _ μ1 s1 h1 (itd_range _ _) p⟩
theorem ix_range2 {p : Pos} {P : List D → Mu → Prop} (h : EX X PE μ ds a fun d μ1 => EX X PE μ1 ds b fun d2 μ2 => ∃ i j, d = .int i ∧ d2 = .int j ∧ (-(2 ^ 62) ≤ i ∧ i < 2 ^ 62 ∧ -(2 ^ 62) ≤ j ∧ j < 2 ^ 62) ∧ P (rngD i (j - i).toNat) μ2) (hg : Gl X "range") (hm : X.mg "range" = none)
    (hs : starEach [a, b] X.env = [(false, eval a X.env), (false, eval b X.env)] := by rfl) (hs0 : starEach [a, b] X.env = (false, eval a X.env) :: starEach [b] X.env := by rfl) (hs1 : starEach [b] X.env = (false, eval b X.env) :: starEach [] X.env := by rfl) (hs2 : starEach [b] X.env = [(false, eval b X.env)] := by rfl) : IX X PE μ ds tg (.Call (.Name "range" p) [a, b] [] pos) P :=
  ix_of (pi_range2 hg hm (pa_cons pe_U (pa_cons pe_U pa_nil hs1) hs0) hs hs2) fun σ H R ho hs k => h.at ho hs fun v H1 d μ1 s1 h1 b1 n1 q => q.at h1 b1 fun v2 H2 d2 μ2 s2 h2 b2 n2 ⟨i, j, e, e2, pp, p⟩ => by
    subst e e2
    rw [n1.inv_int, n2.inv_int]
    exact ⟨i, j, rfl, pp, k _ H2 _ μ2 (s1.trans s2) h2 (itd_range _ _) p⟩

/-! ### for, while -/
theorem sx_for {body : List Stmt} (h : IX X PE μ ds tg iter fun xs μ1 => ∃ I : Nat → DS → Mu → Prop, I 0 ds μ1 ∧
      (∀ i x dsi μi, xs[i]? = some x → I i dsi μi → GX X PE μi dsi tg x fun ds2 μ2 => SSX X PE μ2 ds2 body { nx := I (i + 1), ct := I (i + 1), bk := Z.nx, rt := Z.rt }) ∧ (∀ dsn μn, I xs.length dsn μn → Z.nx dsn μn))
    (hp : PassesOwn (model X.prog X.w) X.A X.env X.xe) (hc : X.calm = true) (hs : ∀ x, foldedSetIterable iter X.env x = pure x := by intro _; rfl) : SX X PE μ ds (.For tg iter body [] pos) Z :=
  sx_of (ps_for hp hc pi_U pg_U pss_U hs) fun D σ H ho hs m => h.at ho hs fun J H1 xs μ1 s1 h1 b1 it ⟨I, i0, step, fin⟩ =>
    ⟨fun i mm σ H2 => i + mm = xs.length ∧ ∃ dsi μi, I i dsi μi ∧ Hold X.K μi H2 ∧ Sl X PE μi H2 σ dsi ∧ Stp μ1 H1 μi H2, ⟨xs.length, Nat.zero_add _, ds, μ1, i0, h1, b1, Stp.refl _ _⟩, fun i mm σ2 H2 ⟨hm, dsi, μi, hi, h2, b2, s2⟩ => by
      by_cases hx : i < xs.length
      · refine .inr ?_
        obtain ⟨x, ex⟩ : ∃ x, xs[i]? = some x := ⟨xs[i], List.getElem?_eq_getElem hx⟩
        obtain ⟨g1, g2⟩ := (it i H2 μi s2 h2).2 x ex
        refine ⟨g1, fun σ' H' => ∃ ds' μ', I (i + 1) ds' μ' ∧ Hold X.K μ' H' ∧ Sl X PE μ' H' σ' ds' ∧ Stp μ1 H1 μ' H', fun σ' H' ⟨ds', μ', a1, a2, a3, a4⟩ => ⟨mm - 1, by omega, by omega, ds', μ', a1, a2, a3, a4⟩, fun v H3 hy => ?_⟩
        obtain ⟨s3, h3, n3⟩ := g2 v H3 hy
        exact (step i x dsi μi ex hi).at h3 (b2.mono s3) n3 fun σ4 H4 ds4 μ4 s4 h4 b4 p4 => p4.at h4 b4
          ⟨fun σ5 H5 ds5 μ5 s5 h5 b5 p5 => ⟨ds5, μ5, p5, h5, b5, ((s2.trans s3).trans s4).trans s5⟩, fun v5 H5 d5 μ5 s5 h5 n5 p5 => m.rt v5 H5 d5 μ5 ((((s1.trans s2).trans s3).trans s4).trans s5) h5 n5 p5,
            fun σ5 H5 ds5 μ5 s5 h5 b5 p5 => m.nx σ5 H5 ds5 μ5 ((((s1.trans s2).trans s3).trans s4).trans s5) h5 b5 p5, fun σ5 H5 ds5 μ5 s5 h5 b5 p5 => ⟨ds5, μ5, p5, h5, b5, ((s2.trans s3).trans s4).trans s5⟩⟩
      · have e : i = xs.length := by omega
        subst e
        exact .inl ⟨(it _ H2 μi s2 h2).1 (Nat.le_refl _), m.nx σ2 H2 dsi μi (s1.trans s2) h2 b2 (fin dsi μi hi)⟩⟩
theorem sx_while {body : List Stmt} (I : Nat → DS → Mu → Prop) (m0 : Nat) (h0 : I m0 ds μ) (h : ∀ m dsi μi, I m dsi μi → TX X PE μi dsi c fun z μ1 => (z = true → SSX X PE μ1 dsi body { nx := fun s u => ∃ m', m' < m ∧ I m' s u, ct := fun s u => ∃ m', m' < m ∧ I m' s u, bk := Z.nx, rt := Z.rt }) ∧ (z = false → Z.nx dsi μ1))
    (hp : PassesOwn (model X.prog X.w) X.A X.env X.xe) : SX X PE μ ds (.While c body [] pos) Z :=
  sx_of (ps_while hp pt_U pss_U) fun D σ H ho hs m =>
    ⟨fun mm σ H2 => ∃ dsi μi, I mm dsi μi ∧ Hold X.K μi H2 ∧ Sl X PE μi H2 σ dsi ∧ Stp μ H μi H2, ⟨m0, ds, μ, h0, ho, hs, Stp.refl _ _⟩, fun mm σ2 H2 ⟨dsi, μi, hi, h2, b2, s2⟩ =>
      (h mm dsi μi hi).at h2 b2 fun z H3 μ3 s3 h3 b3 p => by
        cases z with
        | true =>
          refine iteT ⟨fun σ' H' => ∃ m', m' < mm ∧ ∃ dsi μi, I m' dsi μi ∧ Hold X.K μi H' ∧ Sl X PE μi H' σ' dsi ∧ Stp μ H μi H', fun σ' H' q => q, ?_⟩
          exact (p.1 rfl).at h3 b3 ⟨fun σ5 H5 ds5 μ5 s5 h5 b5 ⟨m', l, p5⟩ => ⟨m', l, ds5, μ5, p5, h5, b5, (s2.trans s3).trans s5⟩, fun v5 H5 d5 μ5 s5 h5 n5 p5 => m.rt v5 H5 d5 μ5 ((s2.trans s3).trans s5) h5 n5 p5,
            fun σ5 H5 ds5 μ5 s5 h5 b5 p5 => m.nx σ5 H5 ds5 μ5 ((s2.trans s3).trans s5) h5 b5 p5, fun σ5 H5 ds5 μ5 s5 h5 b5 ⟨m', l, p5⟩ => ⟨m', l, ds5, μ5, p5, h5, b5, (s2.trans s3).trans s5⟩⟩
        | false => exact iteF (m.nx σ2 H3 dsi μ3 (s2.trans s3) h3 b3 (p.2 rfl))⟩
end
end Hw
set_option Elab.async false
set_option linter.all false
set_option maxRecDepth 100000
set_option maxHeartbeats 1000000
namespace Hw
open PySem L2 PyProof.Rows

/-! ### room, and that no repr is under way -/
structure Rm (k : Nat) (A : Around) : Prop where
  r : Room k A
  g : A.guards = some []
theorem Rm.mono {j k : Nat} {A : Around} (h : Rm k A) (l : j ≤ k) : Rm j A := ⟨h.r.mono l, h.g⟩
/-! ### contracts -/
/-- what a call asks of its arguments and the store, for a wanted end and wanted exceptions -/
abbrev CT := List D → Mu → DP → XP → Prop
def spD (K : PySem.W.Frag) (C : CT) : Sp := fun vs H Q E => ∃ μ ds P PE, Hold K μ H ∧ DenAll K μ H vs ds ∧ C ds μ P PE ∧
  (∀ v H' d μ', Stp μ H μ' H' → Hold K μ' H' → Den K μ' H' v d → P d μ' → Q v H') ∧
  (∀ Ca dd H' fs vfs μ', Stp μ H μ' H' → Hold K μ' H' → H' dd = some (.xd vfs) → DenFs K μ' H' vfs fs → PE Ca fs μ' → E (.ref Ca) (some dd) H')
/-- a def's promise, where no repr is under way -/
structure FnG (P : Program) (w : World) (K : PySem.W.Frag) (mg : Str → Option Value) (base : Heap) (k : Nat) (f : Addr) (fd : FuncData) (ps : List Str) (C : CT) : Prop where
  len : ∀ xs μ R RE, C xs μ R RE → xs.length = ps.length
  run : ∀ (A : Around) (outer : List Env) (s : Shared) (H : Hp) (args : Args) (us : List Value) (vs : List V) (Q : VK) (E : XK), Rm k A → Env0 P w K mg base A outer s H → BindsTo s fd args (ps.zip us) → Vals vs us → spD K C vs H Q E →
    codeAny (model P w) A (.call (.ref f) args) (CR (L2.CX P w) outer P w H s Q E) s
theorem FnG.lenV {P : Program} {w : World} {K : PySem.W.Frag} {mg : Str → Option Value} {base : Heap} {k : Nat} {f : Addr} {fd : FuncData} {ps : List Str} {C : CT} (F : FnG P w K mg base k f fd ps C) {vs : List V} {H : Hp} {Q : VK} {E : XK} (h : spD K C vs H Q E) : vs.length = ps.length := by
  obtain ⟨μ, ds, R, RE, _, n, c, _⟩ := h
  rw [n.length]
  exact F.len _ _ _ _ c
theorem FnG.mono {P : Program} {w : World} {K : PySem.W.Frag} {mg : Str → Option Value} {base : Heap} {j k : Nat} {f : Addr} {fd : FuncData} {ps : List Str} {C : CT} (F : FnG P w K mg base j f fd ps C) (l : j ≤ k) : FnG P w K mg base k f fd ps C :=
  ⟨F.len, fun A outer s H args us vs Q E hr => F.run A outer s H args us vs Q E (hr.mono l)⟩
theorem FnG.weak {P : Program} {w : World} {K : PySem.W.Frag} {mg : Str → Option Value} {base : Heap} {k : Nat} {f : Addr} {fd : FuncData} {ps : List Str} {C C' : CT} (F : FnG P w K mg base k f fd ps C) (h : ∀ xs μ R RE, C' xs μ R RE → C xs μ R RE) : FnG P w K mg base k f fd ps C' :=
  ⟨fun xs μ R RE c => F.len xs μ R RE (h _ _ _ _ c), fun A outer s H args us vs Q E hr e0 hb r ⟨μ, ds, R, RE, a, b, c, d⟩ => F.run A outer s H args us vs Q E hr e0 hb r ⟨μ, ds, R, RE, a, b, h _ _ _ _ c, d⟩⟩
/-- the def of the name x keeps C, at level k -/
structure Cal (P : Program) (w : World) (K : PySem.W.Frag) (mg : Str → Option Value) (base : Heap) (x qual : Str) (st : Stmt) (ps : List Str) (k : Nat) (C : CT) : Prop where
  ex : ∃ f fd, FnG P w K mg base k f fd ps C ∧ mg x = some (.ref f) ∧ Fun K x qual st f fd ∧ Binds K fd ps []
section
variable {X : Cx} {PE : XP} {e a b c : Expr} {es : List Expr} {μ : Mu} {ds : DS} {P : DP} {pos : Pos}
/-- the wish of the context, told of one call -/
def Ex0 (X : Cx) : XK := fun c d H => ∀ σ, Wx X c d σ H
theorem passX {X : Cx} : Passes (L2.CX X.prog X.w) X (Ex0 X) := passes_call takes_Wx fun cls d σ H h => h σ
/-- behind a call -/
theorem ret_of {pins : List (Addr × Obj)} {σ : L2.St} {H : Hp} {s : Shared} {Q : VK} {g : Addr} {args : Args} (I : Inv X pins σ H s)
    (h : codeAny (model X.prog X.w) X.A (.call (.ref g) args) (CR (L2.CX X.prog X.w) X.stack X.prog X.w H s Q (Ex0 X)) s) : codeAny (model X.prog X.w) X.A (.call (.ref g) args) (fun r s' => match r with
      | .ok (.ret u) => EP X pins σ Q u s'
      | .ok _ => False
      | .error e => X.xe e s') s :=
  codeAny_mono h fun r s' q => match r, q with
    | .error er, q => passX pins σ H s er s' I q
    | .ok (.ret _), q => I.after q
    | .ok .next, q => q.elim
    | .ok .brk, q => q.elim
    | .ok .cont, q => q.elim
theorem run_g {pins : List (Addr × Obj)} {σ : L2.St} {H : Hp} {s : Shared} {Q : VK} {k : Nat} {f : Addr} {fd : FuncData} {ps : List Str} {C : CT} {us : List Value} {vs : List V}
    (F : FnG X.prog X.w X.K X.mg X.base k f fd ps C) (hr : Rm k X.A) (hb : Binds X.K fd ps []) (I : Inv X pins σ H s) (r : Vals vs us) (h : spD X.K C vs H Q (Ex0 X)) : wpAny (model X.prog X.w) X.A (call (.ref f) us) (EP X pins σ Q) X.xe s := by
  have hl : (us ++ []).length = ps.length := by rw [List.append_nil, ← r.length]; exact F.lenV h
  have hb' := hb s us I.kIn hl
  rw [List.append_nil] at hb'
  refine wpAny_call (codeAny_mono (ret_of I (F.run X.A X.stack s H ⟨us, []⟩ us vs Q (Ex0 X) hr I.env0 hb' r h)) fun r s' q => ?_)
  match r, q with
  | .error er, q => exact q
  | .ok (.ret _), q => exact q
theorem ex_call {x qual : Str} {st : Stmt} {ps : List Str} {k : Nat} {C : CT} {p : Pos} (c : Cal X.prog X.w X.K X.mg X.base x qual st ps k C) (hr : Rm k X.A) (h : AX X PE μ ds (e :: es) fun xs μ1 => C xs μ1 P PE) (hg : Gl X x)
    (hdb : (x == ("__debug__" : Str)) = false := by decide) (he : starEach (e :: es) X.env = (false, eval e X.env) :: starEach es X.env := by rfl) (hpl : (backTo pos (starEach es X.env)).any (·.1) = false := by rfl) : EX X PE μ ds (.Call (.Name x p) (e :: es) [] pos) P := by
  obtain ⟨f, fd, F, hm, hF, hb⟩ := c.ex
  have hk := hF.kp
  have pe : L2.PE X (.Call (.Name x p) (e :: es) [] pos) (fun σ H Q => tUA X (e :: es) σ H fun vs H1 => spD X.K C vs H1 Q (Ex0 X)) := ⟨fun pins s σ H Q I q => by
    refine wpAny_Call_Name_kw (ld_glob I hg hm ?_ hdb)
    refine PySem.W.callWith_K (h₀ := X.base) I.ok.mod.kin hk (thn (pa_U.run pos pins s σ H _ I q) fun us s1 ⟨vs, H1, I1, r, q⟩ => ⟨I1.kIn, ?_⟩) he hpl
    exact run_g F hr hb I1 r q⟩
  refine ex_of pe fun σ H Q ho hs kk => h.at ho hs fun vs H1 xs μ1 s1 h1 b1 n1 q => ?_
  exact ⟨μ1, xs, P, PE, h1, n1, q, fun v H' d μ' s2 h2 n2 p2 => kk v H' d μ' (s1.trans s2) h2 n2 p2, fun Ca dd H' fs vfs μ' s2 h2 e2 n2 p2 σ' => b1.x Ca dd H' fs vfs μ' σ' s2 h2 e2 n2 p2⟩
theorem ex_call0 {x qual : Str} {st : Stmt} {ps : List Str} {k : Nat} {C : CT} {p : Pos} (c : Cal X.prog X.w X.K X.mg X.base x qual st ps k C) (hr : Rm k X.A) (h : C [] μ P PE) (hg : Gl X x)
    (hdb : (x == ("__debug__" : Str)) = false := by decide) : EX X PE μ ds (.Call (.Name x p) [] [] pos) P := by
  obtain ⟨f, fd, F, hm, hF, hb⟩ := c.ex
  have hk := hF.kp
  have pe : L2.PE X (.Call (.Name x p) [] [] pos) (fun σ H Q => spD X.K C [] H Q (Ex0 X)) := ⟨fun pins s σ H Q I q => by
    refine wpAny_Call_Name_kw (ld_glob I hg hm ?_ hdb)
    exact PySem.W.callWith_K0 I.kIn hk (run_g (us := []) F hr hb I .nil q)⟩
  refine ex_of pe fun σ H Q ho hs kk => ?_
  exact ⟨μ, [], P, PE, ho, .nil, h, fun v H' d μ' s2 h2 n2 p2 => kk v H' d μ' s2 h2 n2 p2, fun Ca dd H' fs vfs μ' s2 h2 e2 n2 p2 σ' => hs.x Ca dd H' fs vfs μ' σ' s2 h2 e2 n2 p2⟩

/-! ### a def keeps its contract -/
theorem wx_leave {X : Cx} {E : XK} (tk : Takes X (fun cls d _ H => E cls d H)) {cls : Value} {d : Option Addr} {σ : L2.St} {H : Hp} (h : E cls d H) : Wx X cls d σ H := fun u s' ⟨a, B, sI, pins, σ', H', cls', d', h1, h2, h3, h4, h5, h6, h7, h8, e1, e2, e3, e4⟩ => by
  subst e1 e2 e3 e4
  exact tk u s' ⟨a, B, sI, pins, _, _, _, _, h1, h2, h3, h4, h5, h6, h7, h8, h⟩
end
section
variable {P : Program} {w : World} {K : PySem.W.Frag} {mg : Str → Option Value} {base : Heap}
/-- the context of a def's body -/
abbrev bodyCx (P : Program) (w : World) (K : PySem.W.Frag) (mg : Str → Option Value) (base : Heap) (N : List Str) (x : Str) (st : Stmt) (f : Addr) (cdv : Value) (A : Around) (outer : List Env) (s : Shared) (H : Hp) (E : XK) : Cx :=
  cxOf (L2.CX P w) P w K mg base N x (defScope st) f cdv A outer s H E
theorem fn_ok {x qual : Str} {st : Stmt} {f : Addr} {fd : FuncData} {N ps : List Str} {k : Nat} {C : CT} (F : Fun K x qual st f fd) (S : FnScope N ps (defScope st)) (len : ∀ xs μ R RE, C xs μ R RE → xs.length = ps.length)
    (hbody : ∀ (xs : List D) (μ : Mu) (R : DP) (PE : XP) (cdv : Value) (A : Around) (outer : List Env) (s : Shared) (H : Hp) (E : XK), Rm k (bodyCx P w K mg base N qual st f cdv A outer s H E).A → C xs μ R PE →
      SSX (bodyCx P w K mg base N qual st f cdv A outer s H E) PE μ (xs.map some ++ List.replicate (N.length - xs.length) none) (defBody st) { nx := fun _ μ' => R .non μ', rt := R }) :
    FnG P w K mg base (k + 1) f fd ps C := by
  refine ⟨len, fun A outer s H args us vs Q E hr e0 hb r h => ?_⟩
  have hl : vs.length = ps.length := by
    obtain ⟨μ, xs, R, PE, ho, n, c, _⟩ := h
    rw [n.length]
    exact len xs μ R PE c
  obtain ⟨oc, od, kV, doc, pm, an, cdv, ct, osl, rfl, lk, hcd⟩ := F.ex
  refine LamX.run_ofS lk hcd S hr.r e0 hb r hl fun hr' => ?_
  obtain ⟨μ, xs, R, PE, ho, n, c, kR, kE⟩ := h
  have q := hbody xs μ R PE cdv A outer s H E ⟨hr', hr.g⟩ c
  refine ⟨_, q.pss, ho, ⟨DenS.start n, fun Ca dd H' fs vfs μ' σ s2 h2 e2 n2 p2 => wx_leave (takes_of rfl rfl rfl rfl) (kE Ca dd H' fs vfs μ' s2 h2 e2 n2 p2)⟩, ?_⟩
  exact ⟨fun σ' H' ds' μ' s1 h1 n1 p => kR _ H' _ μ' s1 h1 .non p, fun v H' d μ' s1 h1 n1 p => kR v H' d μ' s1 h1 n1 p, fun _ _ _ _ _ _ _ p => p.elim, fun _ _ _ _ _ _ _ p => p.elim⟩
end

/-! ### a comprehension -/
section
variable {X : Cx} {PE : XP} {e a b c elt tg iter : Expr} {es ifs : List Expr} {μ : Mu} {ds : DS} {P : DP} {pos : Pos} {Z : Po}
/-- all of its tests -/
structure TsX (X : Cx) (PE : XP) (μ : Mu) (ds : DS) (ifs : List Expr) (P : Bool → Mu → Prop) : Prop where
  pts : PTs X ifs (tDT X PE μ ds P)
def tUTs (X : Cx) (e : List Expr) : TT := fun σ H Q => ∃ t, PTs X e t ∧ t σ H Q
theorem ts_nil {P : Bool → Mu → Prop} (h : P true μ) : TsX X PE μ ds [] P := ⟨⟨fun pins s σ H Q I ⟨ho, hs, k⟩ => pts_nil.run pins s σ H Q I (k true H μ (Stp.refl _ _) ho h)⟩⟩
theorem ts_one {P : Bool → Mu → Prop} (h : TX X PE μ ds c P) : TsX X PE μ ds [c] P := ⟨pts_one h.pt⟩
/-- the slots of the block's own names forgotten -/
def wipeD (ds : DS) : List Nat → DS
  | [] => ds
  | v :: vs => (wipeD ds vs).set v none
theorem DenS.wipe {K : PySem.W.Frag} {H : Hp} {σ : L2.St} (h : DenS K μ H σ ds) : ∀ vs, DenS K μ H (wipe σ vs) (wipeD ds vs)
  | [] => h
  | v :: vs => (DenS.wipe h vs).wipe1
/-- the contexts of the block -/
def Blk (X : Cx) (scope : Scope) (X' : Cx) : Prop := ∃ (s : Shared) (H : Hp) (C : Addr) (cl : List (Str × Addr)) (fp : List Addr), X' = X.blk s H scope (compEnvC scope cl C X.env) fp
/-- a block's own target: its names alone are stored -/
structure GCX (X : Cx) (μ : Mu) (ds : DS) (own : List Nat) (tg : Expr) (d : D) (R : DS → Prop) : Prop where
  pg : PG X tg (fun v σ H Q => Hold X.K μ H ∧ DenS X.K μ H σ ds ∧ Den X.K μ H v d ∧ ∀ σ' ds', wipe σ' own = wipe σ own → DenS X.K μ H σ' ds' → R ds' → Q σ' H)
theorem wipe_set {σ : L2.St} {j : Nat} {v : Option V} : ∀ {own : List Nat}, j ∈ own → wipe (σ.set j v) own = wipe σ own
  | [], h => by simp at h
  | k :: own, h => by
    show (wipe (σ.set j v) own).set k none = (wipe σ own).set k none
    by_cases hj : j ∈ own
    · rw [wipe_set hj]
    · have hk : j = k := by
        rcases List.mem_cons.mp h with e | e
        · exact e
        · exact absurd e hj
      subst hk
      have : ∀ (own : List Nat) (τ : L2.St), j ∉ own → wipe (τ.set j v) own = (wipe τ own).set j v := by
        intro own
        induction own with
        | nil => intro τ _; rfl
        | cons a r ih =>
          intro τ hn
          have h1 : j ≠ a := fun e => hn (by rw [e]; exact List.mem_cons_self)
          have h2 : j ∉ r := fun e => hn (List.mem_cons_of_mem _ e)
          show (wipe (τ.set j v) r).set a none = ((wipe τ r).set a none).set j v
          rw [ih τ h2, List.set_comm _ _ h1]
      rw [this own σ hj, List.set_set]
theorem wipe_wipe {σ : L2.St} : ∀ {own ow2 : List Nat}, (∀ i ∈ ow2, i ∈ own) → wipe (wipe σ ow2) own = wipe σ own
  | own, [], _ => rfl
  | own, k :: r, h => by
    show wipe ((wipe σ r).set k none) own = wipe σ own
    rw [wipe_set (h k List.mem_cons_self), wipe_wipe fun i hi => h i (List.mem_cons_of_mem _ hi)]
theorem gc_nm {own : List Nat} {tgp : Pos} {x : Str} {d : D} {R : DS → Prop} (j : Nat) (h : R (ds.set j (some d))) (ho : j ∈ own) (hN : X.N.Nodup) (hi : X.N[j]? = some x) (hx : Loc X.env.scope x) (hf : X.fn x = true ∨ X.env.scope.names.lookup x = some .local := by first | exact .inl rfl | exact .inr rfl | assumption) :
    GCX X μ ds own (.Name x tgp) d R := ⟨⟨fun pins s σ H v u Q I r ⟨_, hs, n, k⟩ => (pg_name hN hi hx hf).run pins s σ H v u Q I r (k _ _ (wipe_set ho) (hs.set n) h)⟩⟩
structure GCSX (X : Cx) (μ : Mu) (ds : DS) (own : List Nat) (ts : List Expr) (xs : List D) (R : DS → Prop) : Prop where
  pg : PGs X ts (fun vs σ H Q => Hold X.K μ H ∧ DenS X.K μ H σ ds ∧ DenAll X.K μ H vs xs ∧ ∀ σ' ds', wipe σ' own = wipe σ own → DenS X.K μ H σ' ds' → R ds' → Q σ' H)
theorem gcs_nil {own : List Nat} {R : DS → Prop} (h : R ds) : GCSX X μ ds own [] [] R := ⟨⟨fun pins s σ H vs us Q I r ⟨_, hs, n, k⟩ => by
  cases n
  exact pgs_nil.run pins s σ H [] us Q I r ⟨rfl, k σ ds rfl hs h⟩⟩⟩
theorem gcs_cons {own : List Nat} {ts : List Expr} {xs : List D} {d : D} {R : DS → Prop} (h : GCX X μ ds own tg d fun ds1 => GCSX X μ ds1 own ts xs R) (hs : (assignEach (tg :: ts) X.env).map (·.2) = assign tg X.env :: (assignEach ts X.env).map (·.2) := by rfl) : GCSX X μ ds own (tg :: ts) (d :: xs) R :=
  ⟨⟨fun pins s σ H vs us Q I r ⟨ho, hs', n, k⟩ => by
    cases n with
    | cons n1 n2 => exact (pgs_cons pg_U pgs_U hs).run pins s σ H _ us Q I r ⟨_, _, rfl, ⟨_, h.pg, ho, hs', n1, fun σ1 ds1 w1 b1 p => ⟨_, p.pg, ho, b1, n2, fun σ2 ds2 w2 b2 p2 => k σ2 ds2 (w2.trans w1) b2 p2⟩⟩⟩⟩⟩
theorem gc_tup {own : List Nat} {ts : List Expr} {kk : Nat} {xs : List D} {R : DS → Prop} (h : GCSX X μ ds own ts xs R) (hc : X.calm = true) (hl : xs.length = ts.length) (hn : (assignEach ts X.env).length = ts.length := by rfl) (hst : (assignEach ts X.env).findIdx? (·.1) = none := by rfl) : GCX X μ ds own (.Tuple ts kk pos) (.tup xs) R :=
  ⟨⟨fun pins s σ H v u Q I r ⟨ho, hs, n, k⟩ => by
    obtain ⟨a, vs, e, sq, n2⟩ := n.inv_tup
    exact (pg_tup hc pgs_U hn hst).run pins s σ H v u Q I r ⟨a, vs, e, sq, by rw [n2.length]; exact hl, _, h.pg, ho, hs, n2, k⟩⟩⟩
/-- what one turn is to do, at the store with the list under way (at L) in it -/
def Turn1 (X : Cx) (scope : Scope) (ds : DS) (own : List Nat) (tg : Expr) (ifs : List Expr) (elt : Expr) (x : D) (μ : Mu) (Q : Option D → Mu → Prop) : Prop :=
  ∀ X', Blk X scope X' → GCX X' μ (wipeD ds own) own tg x fun ds2 => ∀ X', Blk X scope X' → TsX X' noX μ ds2 ifs fun z μ1 => (z = true → ∀ X', Blk X scope X' → EX X' noX μ1 ds2 elt fun d μ2 => Q (some d) μ2) ∧ (z = false → Q none μ1)
def addO (acc : List D) : Option D → List D
  | some d => acc ++ [d]
  | none => acc
def tgB (X : Cx) (scope : Scope) (tg : Expr) : TG := fun v σ H Q => ∃ t, (∀ X', Blk X scope X' → PG X' tg t) ∧ t v σ H Q
def ttB (X : Cx) (scope : Scope) (ifs : List Expr) : TT := fun σ H Q => ∃ t, (∀ X', Blk X scope X' → PTs X' ifs t) ∧ t σ H Q
def teB (X : Cx) (scope : Scope) (elt : Expr) : TE := fun σ H Q => ∃ t, (∀ X', Blk X scope X' → L2.PE X' elt t) ∧ t σ H Q
theorem pg_B {scope : Scope} {X' : Cx} (hb : Blk X scope X') : PG X' tg (tgB X scope tg) := ⟨fun pins s σ H v u Q I r h => by obtain ⟨t, p, h⟩ := h; exact (p X' hb).run pins s σ H v u Q I r h⟩
theorem pt_B {scope : Scope} {X' : Cx} (hb : Blk X scope X') : PTs X' ifs (ttB X scope ifs) := ⟨fun pins s σ H Q I h => by obtain ⟨t, p, h⟩ := h; exact (p X' hb).run pins s σ H Q I h⟩
theorem pe_B {scope : Scope} {X' : Cx} (hb : Blk X scope X') : L2.PE X' elt (teB X scope elt) := ⟨fun pins s σ H Q I h => by obtain ⟨t, p, h⟩ := h; exact (p X' hb).run pins s σ H Q I h⟩
theorem blk_K {scope : Scope} {X' : Cx} (hb : Blk X scope X') : X'.K = X.K := by obtain ⟨s, H, C, cl, fp, rfl⟩ := hb; rfl
theorem Stp.freeze {μ : Mu} {H : Hp} {p : Addr} {c : MD} : Stp (mset μ p c) H μ H := fun b o h e _ => ⟨e, by
  by_cases hb : b = p
  · subst hb; rw [mset_same] at h; cases h
  · rw [mset_ne hb] at h; exact h⟩
theorem Hold.freeze {K : PySem.W.Frag} {H : Hp} {p : Addr} {c : MD} (h : Hold K (mset μ p c) H) (n : μ p = none) : Hold K μ H := fun a c' e => by
  have ha : a ≠ p := by rintro rfl; rw [n] at e; cases e
  exact (h a c' (by rw [mset_ne ha]; exact e)).mono Stp.freeze rfl
theorem lc_read {scope : Scope} {own : List Nat} {σ : L2.St} {H : Hp} {Q : VK} (ho : Hold X.K μ H) (hs : Sl X PE μ H σ ds)
    (h : IX X PE μ ds tg iter fun xs μ1 => ∃ I : Nat → List D → Mu → Prop, I 0 [] μ1 ∧ xs.length ≤ sizeLine ∧
      (∀ i x acc μi L, xs[i]? = some x → I i acc μi → acc.length ≤ i → μi L = none → Turn1 X scope ds own tg ifs elt x (mset μi L (.lst acc)) fun o μ3 => ∃ μ3', μ3 = mset μ3' L (.lst acc) ∧ μ3' L = none ∧ I (i + 1) (addO acc o) μ3') ∧
      ∀ acc μn, I xs.length acc μn → acc.length ≤ xs.length → P (.lst acc) μn)
    (k : ∀ v H' d μ', Stp μ H μ' H' → Hold X.K μ' H' → Den X.K μ' H' v d → P d μ' → Q v H') :
    tLc (tUI X tg iter) (tgB X scope tg) (ttB X scope ifs) (teB X scope elt) own σ H Q :=
  h.at ho hs fun J H1 xs μ1 s1 h1 b1 it ⟨I, i0, hz, step, fin⟩ => fun L nL =>
    ⟨fun i mm H2 => i + mm = xs.length ∧ ∃ acc μi, I i acc μi ∧ acc.length ≤ i ∧ μi L = none ∧ Hold X.K (mset μi L (.lst acc)) H2 ∧ Stp μ1 H1 (mset μi L (.lst acc)) H2,
      ⟨xs.length, Nat.zero_add _, [], μ1, i0, Nat.le_refl _, h1.free nL, h1.newM (c := .lst []) nL ⟨[], upd_same, .nil⟩, Stp.newM nL⟩, fun i mm H2 ⟨hm, acc, μi, hi, hl, nl, h2, s2⟩ => by
      by_cases hx : i < xs.length
      · refine .inr ?_
        obtain ⟨x, ex⟩ : ∃ x, xs[i]? = some x := ⟨xs[i], List.getElem?_eq_getElem hx⟩
        obtain ⟨g1, g2⟩ := (it i H2 _ s2 h2).2 x ex
        refine ⟨g1, fun H' => ∃ acc μi, I (i + 1) acc μi ∧ acc.length ≤ i + 1 ∧ μi L = none ∧ Hold X.K (mset μi L (.lst acc)) H' ∧ Stp μ1 H1 (mset μi L (.lst acc)) H', fun H' q => ⟨mm - 1, by omega, by omega, q⟩, fun v H3 hy => ?_⟩
        obtain ⟨s3, h3, n3⟩ := g2 v H3 hy
        have T := step i x acc μi L ex hi hl nl
        have bs : DenS X.K (mset μi L (.lst acc)) H3 (wipe σ own) (wipeD ds own) := (DenS.wipe b1.d own).mono (s2.trans s3)
        refine ⟨fun v σ H Q => Hold X.K (mset μi L (.lst acc)) H ∧ DenS X.K (mset μi L (.lst acc)) H σ (wipeD ds own) ∧ Den X.K (mset μi L (.lst acc)) H v x ∧ ∀ σ' ds', wipe σ' own = wipe σ own → DenS X.K (mset μi L (.lst acc)) H σ' ds' →
          (∀ X', Blk X scope X' → TsX X' noX (mset μi L (.lst acc)) ds' ifs fun z μ1 => (z = true → ∀ X', Blk X scope X' → EX X' noX μ1 ds' elt fun d μ2 => (fun o μ3 => ∃ μ3', μ3 = mset μ3' L (.lst acc) ∧ μ3' L = none ∧ I (i + 1) (addO acc o) μ3') (some d) μ2) ∧ (z = false → (fun o μ3 => ∃ μ3', μ3 = mset μ3' L (.lst acc) ∧ μ3' L = none ∧ I (i + 1) (addO acc o) μ3') none μ1)) → Q σ' H, fun X' hb => ?_, h3, bs, n3, fun σ4 ds4 w4 b4 ts => ?_⟩
        · have := (T X' hb).pg
          rw [blk_K hb] at this
          exact this
        · refine ⟨w4.trans (wipe_wipe fun i h => h), ?_⟩
          refine ⟨fun σ H Q => Hold X.K (mset μi L (.lst acc)) H ∧ DenS X.K (mset μi L (.lst acc)) H σ ds4 ∧ ∀ b H' μ', Stp (mset μi L (.lst acc)) H μ' H' → Hold X.K μ' H' →
            ((b = true → ∀ X', Blk X scope X' → EX X' noX μ' ds4 elt fun d μ2 => ∃ μ3', μ2 = mset μ3' L (.lst acc) ∧ μ3' L = none ∧ I (i + 1) (addO acc (some d)) μ3') ∧ (b = false → ∃ μ3', μ' = mset μ3' L (.lst acc) ∧ μ3' L = none ∧ I (i + 1) (addO acc none) μ3')) → Q b H', fun X' hb => ?_, h3, b4, fun z H5 μ5 s5 h5 p5 => ?_⟩
          · refine ⟨fun pins s σ H Q J ⟨q1, q2, q3⟩ => (ts X' hb).pts.run pins s σ H Q J ⟨by rw [blk_K hb]; exact q1, ⟨by rw [blk_K hb]; exact q2, Exc.no⟩, fun b H' μ' s h p => q3 b H' μ' s (by rw [blk_K hb] at h; exact h) p⟩⟩
          · cases z with
            | true =>
              refine iteT ⟨fun σ H Q => Hold X.K μ5 H ∧ DenS X.K μ5 H σ ds4 ∧ ∀ v H' d μ', Stp μ5 H μ' H' → Hold X.K μ' H' → Den X.K μ' H' v d → (∃ μ3', μ' = mset μ3' L (.lst acc) ∧ μ3' L = none ∧ I (i + 1) (addO acc (some d)) μ3') → Q v H', fun X' hb => ?_, h5, b4.mono s5, fun v H6 d μ6 s6 h6 n6 ⟨μ7, e7, nl7, p7⟩ => ?_⟩
              · refine ⟨fun pins s σ H Q J ⟨q1, q2, q3⟩ => (p5.1 rfl X' hb).pe.run pins s σ H Q J ⟨by rw [blk_K hb]; exact q1, ⟨by rw [blk_K hb]; exact q2, Exc.no⟩, fun v H' d μ' s h n p => q3 v H' d μ' s (by rw [blk_K hb] at h; exact h) (by rw [blk_K hb] at n; exact n) p⟩⟩
              · subst e7
                obtain ⟨vs, ev, dv⟩ := h6 L _ mset_same
                have sw : Stp (mset μ7 L (.lst acc)) H6 (mset (mset μ7 L (.lst acc)) L (.lst (acc ++ [d]))) (upd H6 L (.lst (vs ++ [v]))) := Stp.write mset_same
                refine ⟨vs, ev, by rw [dv.length]; omega, acc ++ [d], μ7, p7, by simp; omega, nl7, ?_, ?_⟩
                · have := h6.write (c := .lst (acc ++ [d])) (o := .lst (vs ++ [v])) mset_same ⟨_, upd_same, (dv.append (.cons n6 .nil)).mono sw⟩
                  rw [mset_mset] at this
                  exact this
                · rw [mset_mset] at sw
                  exact (((s2.trans s3).trans s5).trans s6).trans sw
            | false =>
              obtain ⟨μ7, e7, nl7, p7⟩ := p5.2 rfl
              subst e7
              exact iteF ⟨acc, μ7, p7, by omega, nl7, h5, (s2.trans s3).trans s5⟩
      · have e : i = xs.length := by omega
        subst e
        refine .inl ⟨(it _ H2 _ s2 h2).1 (Nat.le_refl _), ?_⟩
        obtain ⟨vs, ev, dv⟩ := h2 L _ mset_same
        exact k _ H2 (.lst acc) μi ((s1.trans s2).trans Stp.freeze) (h2.freeze nl) (.lst nl ev (dv.mono Stp.freeze)) (fin acc μi hi hl)⟩
theorem ex_lc {scope : Scope} (own : List (Str × Nat))
    (h : IX X PE μ ds tg iter fun xs μ1 => ∃ I : Nat → List D → Mu → Prop, I 0 [] μ1 ∧ xs.length ≤ sizeLine ∧
      (∀ i x acc μi L, xs[i]? = some x → I i acc μi → acc.length ≤ i → μi L = none → Turn1 X scope ds (own.map (·.2)) tg ifs elt x (mset μi L (.lst acc)) fun o μ3 => ∃ μ3', μ3 = mset μ3' L (.lst acc) ∧ μ3' L = none ∧ I (i + 1) (addO acc o) μ3') ∧
      ∀ acc μn, I xs.length acc μn → acc.length ≤ xs.length → P (.lst acc) μn)
    (hc : X.calm = true) (hN : X.N.Nodup) (ok : BlkOk X.N X.env.scope scope own) (hs : ∀ x, foldedSetIterable iter X.env x = pure x := by intro _; rfl) : EX X PE μ ds (.ListComp elt [⟨tg, iter, ifs, 0⟩] scope pos) P :=
  ex_of (pe_lc hc hN pi_U ok (fun s H C cl fp => pg_B ⟨s, H, C, cl, fp, rfl⟩) (fun s H C cl fp => pt_B ⟨s, H, C, cl, fp, rfl⟩) (fun s H C cl fp => pe_B ⟨s, H, C, cl, fp, rfl⟩) hs) fun σ H Q ho hs k => lc_read ho hs h k
theorem sx_setLc {scope : Scope} (own : List (Str × Nat)) (i : Nat) {y : Str} {py spos : Pos}
    (h : IX X PE μ ds tg iter fun xs μ1 => ∃ I : Nat → List D → Mu → Prop, I 0 [] μ1 ∧ xs.length ≤ sizeLine ∧
      (∀ i x acc μi L, xs[i]? = some x → I i acc μi → acc.length ≤ i → μi L = none → Turn1 X scope ds (own.map (·.2)) tg ifs elt x (mset μi L (.lst acc)) fun o μ3 => ∃ μ3', μ3 = mset μ3' L (.lst acc) ∧ μ3' L = none ∧ I (i + 1) (addO acc o) μ3') ∧
      ∀ acc μn, I xs.length acc μn → acc.length ≤ xs.length → Z.nx (ds.set i (some (.lst acc))) μn)
    (hc : X.calm = true) (hN : X.N.Nodup) (ok : BlkOk X.N X.env.scope scope own) (hy : X.N[i]? = some y) (hyl : X.env.scope.names.lookup y = some .local)
    (hsw : swapsWith (.ListComp elt [⟨tg, iter, ifs, 0⟩] scope pos) (some (.Name y py)) spos.line X.env = pure true) (hs : ∀ x, foldedSetIterable iter X.env x = pure x := by intro _; rfl) : SX X PE μ ds (.Assign [.Name y py] (.ListComp elt [⟨tg, iter, ifs, 0⟩] scope pos) spos) Z :=
  sx_of (ps_setLc hc hN hy hyl hsw pi_U ok (fun s H C cl fp => pg_B ⟨s, H, C, cl, fp, rfl⟩) (fun s H C cl fp => pt_B ⟨s, H, C, cl, fp, rfl⟩) (fun s H C cl fp => pe_B ⟨s, H, C, cl, fp, rfl⟩) hs) fun D σ H ho hs m =>
    lc_read (P := fun d μ' => Z.nx (ds.set i (some d)) μ') ho hs h fun v H' d μ' s h n p => m.nx _ H' _ μ' s h ((hs.mono s).set n) p
end
end Hw
set_option Elab.async false
set_option linter.all false
set_option maxRecDepth 100000
set_option maxHeartbeats 1000000
namespace Hw
open PySem L2 PyProof.Rows

/-! ### data as the library's own data -/
mutual
def toPy : D → Option PyData
  | .non => some .none
  | .bl b => some (.bool b)
  | .int i => some (.int i)
  | .str s => some (.str s)
  | .tup xs => (toPyAll xs).map .tuple
  | .lst xs => (toPyAll xs).map .list
  | _ => none
def toPyAll : List D → Option (List PyData)
  | [] => some []
  | x :: xs => match toPy x, toPyAll xs with
    | some d, some ds => some (d :: ds)
    | _, _ => none
end
section
variable {K : PySem.W.Frag} {μ : Mu} {H : Hp}
mutual
theorem Den.dp : ∀ {v : V} {d : D} {p : PyData}, Den K μ H v d → toPy d = some p → Dp K H v p
  | _, _, _, .non, e => by simp only [toPy, Option.some.injEq] at e; subst e; exact .non
  | _, _, _, .bl b, e => by simp only [toPy, Option.some.injEq] at e; subst e; exact .bl b
  | _, _, _, .int i, e => by simp only [toPy, Option.some.injEq] at e; subst e; exact .int i
  | _, _, _, .str s, e => by simp only [toPy, Option.some.injEq] at e; subst e; exact .str s
  | _, _, _, .ty n, e => by simp [toPy] at e
  | _, _, _, .ref a, e => by simp [toPy] at e
  | _, _, _, .tup h r a, e => by
    simp only [toPy] at e
    obtain ⟨ds, e1, e2⟩ := Option.map_eq_some_iff.mp e
    subst e2
    exact .tup (.inl (.inl r)) (DenAll.dp a e1)
  | _, _, _, .tupK r a, e => by
    simp only [toPy] at e
    obtain ⟨ds, e1, e2⟩ := Option.map_eq_some_iff.mp e
    subst e2
    exact .tup (r H) (DenAll.dp a e1)
  | _, _, _, .lst h r a, e => by
    simp only [toPy] at e
    obtain ⟨ds, e1, e2⟩ := Option.map_eq_some_iff.mp e
    subst e2
    exact .lst (SqL.of r) (DenAll.dp a e1)
  | _, _, _, .rol h r a, e => by simp [toPy] at e
  | _, _, _, .rolK r a, e => by simp [toPy] at e
  | _, _, _, .obj h r a, e => by simp [toPy] at e
  | _, _, _, .dic h r a, e => by simp [toPy] at e
theorem DenAll.dp : ∀ {vs : List V} {ds : List D} {ps : List PyData}, DenAll K μ H vs ds → toPyAll ds = some ps → DpAll K H vs ps
  | _, _, _, .nil, e => by simp only [toPyAll, Option.some.injEq] at e; subst e; exact .nil
  | _, _, _, .cons (d := d) (ds := ds) a b, e => by
    simp only [toPyAll] at e
    cases h1 : toPy d with
    | none => rw [h1] at e; simp at e
    | some p =>
      cases h2 : toPyAll ds with
      | none => rw [h1, h2] at e; simp at e
      | some ps =>
        rw [h1, h2] at e
        simp only [Option.some.injEq] at e
        subst e
        exact .cons (Den.dp a h1) (DenAll.dp b h2)
end
end

/-! ### built-in functions -/
def rDB (K : PySem.W.Frag) (ok : List D → Mu → DP → Prop) : List V → Hp → VK → Prop := fun vs H Q => ∃ μ xs P, Hold K μ H ∧ DenAll K μ H vs xs ∧ ok xs μ P ∧ ∀ v H' d μ', Stp μ H μ' H' → Hold K μ' H' → Den K μ' H' v d → P d μ' → Q v H'
section
variable {X : Cx} {PE : XP} {e a b c : Expr} {es : List Expr} {μ : Mu} {ds : DS} {P : DP} {pos : Pos} {Z : Po}
theorem ex_callB {id : String} {x : Str} {p : Pos} {ok : List D → Mu → DP → Prop} (hc : CallR X (.builtin id) (rDB X.K ok)) (h : AX X PE μ ds (e :: es) fun xs μ1 => ok xs μ1 P) (hg : Gl X x) (hm : X.mg x = none) (hv : bootBuiltins x = some (.builtin id)) (hn : x ≠ "__name__" := by decide) (hdb : (x == ("__debug__" : Str)) = false := by decide)
    (he : starEach (e :: es) X.env = (false, eval e X.env) :: starEach es X.env := by rfl) (hpl : (backTo pos (starEach es X.env)).any (·.1) = false := by rfl) : EX X PE μ ds (.Call (.Name x p) (e :: es) [] pos) P :=
  ex_of (pe_callB hc hg hm hv pa_U hn hdb he hpl) fun σ H Q ho hs k => h.at ho hs fun vs H1 xs μ1 s1 h1 b1 n1 q => ⟨μ1, xs, P, h1, n1, q, fun v H' d μ' s2 h2 n2 p2 => k v H' d μ' (s1.trans s2) h2 n2 p2⟩
theorem ex_callT {T : String} {x : Str} {p : Pos} {ok : List D → Mu → DP → Prop} (hc : CallR X (.type T) (rDB X.K ok)) (h : AX X PE μ ds (e :: es) fun xs μ1 => ok xs μ1 P) (hg : Gl X x) (hm : X.mg x = none) (hv : bootBuiltins x = some (.type T)) (hn : x ≠ "__name__" := by decide) (hdb : (x == ("__debug__" : Str)) = false := by decide)
    (he : starEach (e :: es) X.env = (false, eval e X.env) :: starEach es X.env := by rfl) (hpl : (backTo pos (starEach es X.env)).any (·.1) = false := by rfl) : EX X PE μ ds (.Call (.Name x p) (e :: es) [] pos) P :=
  ex_of (pe_callTy hc hg hm hv pa_U hn hdb he hpl) fun σ H Q ho hs k => h.at ho hs fun vs H1 xs μ1 s1 h1 b1 n1 q => ⟨μ1, xs, P, h1, n1, q, fun v H' d μ' s2 h2 n2 p2 => k v H' d μ' (s1.trans s2) h2 n2 p2⟩
theorem DenAll.one {K : PySem.W.Frag} {H : Hp} {vs : List V} {d : D} (h : DenAll K μ H vs [d]) : ∃ v, vs = [v] ∧ Den K μ H v d := by
  cases h with
  | cons a b => cases b; exact ⟨_, rfl, a⟩
theorem DenAll.two {K : PySem.W.Frag} {H : Hp} {vs : List V} {d e : D} (h : DenAll K μ H vs [d, e]) : ∃ v w, vs = [v, w] ∧ Den K μ H v d ∧ Den K μ H w e := by
  cases h with
  | cons a b =>
    obtain ⟨w, rfl, n⟩ := b.one
    exact ⟨_, _, rfl, a, n⟩
/-- len -/
def lenOk : List D → Mu → DP → Prop
  | [.str s], μ, P => s.length ≤ sizeLine ∧ P (.int s.length) μ
  | [.tup l], μ, P => P (.int l.length) μ
  | [.lst l], μ, P => P (.int l.length) μ
  | [.rol l], μ, P => P (.int l.length) μ
  | [.ref a], μ, P => ∃ l, μ a = some (.lst l) ∧ P (.int l.length) μ
  | _, _, _ => False
theorem cr_len : CallR X (.builtin "len") (rDB X.K lenOk) := by
  intro pins s σ H vs us Q I r h
  obtain ⟨μ, xs, P, ho, n, ok, k⟩ := h
  unfold lenOk at ok
  split at ok
  · obtain ⟨v, rfl, n1⟩ := n.one
    exact call_len_str pins s σ H _ us Q I r ⟨_, by rw [n1.inv_str], ok.1, k _ H _ μ (Stp.refl _ _) ho (.int _) ok.2⟩
  · obtain ⟨v, rfl, n1⟩ := n.one
    obtain ⟨a, vs, e1, s1, d1⟩ := n1.inv_tup
    exact call_len_seq pins s σ H _ us Q I r ⟨a, vs, by rw [e1], .inr s1, by rw [d1.length]; exact k _ H _ μ (Stp.refl _ _) ho (.int _) ok⟩
  · obtain ⟨v, rfl, n1⟩ := n.one
    obtain ⟨a, vs, e1, _, s1, d1⟩ := n1.inv_lst
    exact call_len_seq pins s σ H _ us Q I r ⟨a, vs, by rw [e1], .inl (SqL.of s1), by rw [d1.length]; exact k _ H _ μ (Stp.refl _ _) ho (.int _) ok⟩
  · obtain ⟨v, rfl, n1⟩ := n.one
    obtain ⟨a, vs, e1, s1, d1⟩ := n1.inv_rol
    exact call_len_seq pins s σ H _ us Q I r ⟨a, vs, by rw [e1], .inl s1, by rw [d1.length]; exact k _ H _ μ (Stp.refl _ _) ho (.int _) ok⟩
  · obtain ⟨v, rfl, n1⟩ := n.one
    obtain ⟨l, m, p⟩ := ok
    obtain ⟨vs, hv, dv⟩ := ho _ _ m
    exact call_len_seq pins s σ H _ us Q I r ⟨_, vs, by rw [n1.inv_ref], .inl (SqL.of hv), by rw [dv.length]; exact k _ H _ μ (Stp.refl _ _) ho (.int _) p⟩
  · exact ok.elim
/-- abs, int, str, list, tuple -/
def absOk : List D → Mu → DP → Prop
  | [.int i], μ, P => P (.int (if i < 0 then -i else i)) μ
  | _, _, _ => False
theorem cr_abs : CallR X (.builtin "abs") (rDB X.K absOk) := by
  intro pins s σ H vs us Q I r h
  obtain ⟨μ, xs, P, ho, n, ok, k⟩ := h
  unfold absOk at ok
  split at ok
  · obtain ⟨v, rfl, n1⟩ := n.one
    exact call_abs pins s σ H _ us Q I r ⟨_, by rw [n1.inv_int], k _ H _ μ (Stp.refl _ _) ho (.int _) ok⟩
  · exact ok.elim
def intOk : List D → Mu → DP → Prop
  | [.int i], μ, P => P (.int i) μ
  | [.bl b], μ, P => P (.int (if b then 1 else 0)) μ
  | _, _, _ => False
theorem cr_int : CallR X (.type "int") (rDB X.K intOk) := by
  intro pins s σ H vs us Q I r h
  obtain ⟨μ, xs, P, ho, n, ok, k⟩ := h
  unfold intOk at ok
  split at ok
  · obtain ⟨v, rfl, n1⟩ := n.one
    exact call_int1 pins s σ H _ us Q I r (.inl ⟨_, by rw [n1.inv_int], k _ H _ μ (Stp.refl _ _) ho (.int _) ok⟩)
  · obtain ⟨v, rfl, n1⟩ := n.one
    exact call_int1 pins s σ H _ us Q I r (.inr ⟨_, by rw [n1.inv_bl], k _ H _ μ (Stp.refl _ _) ho (.int _) ok⟩)
  · exact ok.elim
def strOk : List D → Mu → DP → Prop
  | [.int i], μ, P => i.natAbs.log2 < 1920 ∧ P (.str (toString i)) μ
  | [.str s], μ, P => P (.str s) μ
  | _, _, _ => False
theorem cr_str : CallR X (.type "str") (rDB X.K strOk) := by
  intro pins s σ H vs us Q I r h
  obtain ⟨μ, xs, P, ho, n, ok, k⟩ := h
  unfold strOk at ok
  split at ok
  · obtain ⟨v, rfl, n1⟩ := n.one
    exact call_str_int pins s σ H _ us Q I r ⟨_, by rw [n1.inv_int], ok.1, k _ H _ μ (Stp.refl _ _) ho (.str _) ok.2⟩
  · obtain ⟨v, rfl, n1⟩ := n.one
    exact SkE.call_str_str pins s σ H _ us Q I r ⟨_, by rw [n1.inv_str], k _ H _ μ (Stp.refl _ _) ho (.str _) ok⟩
  · exact ok.elim
/-- list(x): a list that will not change -/
def listOk : List D → Mu → DP → Prop
  | [.tup l], μ, P => P (.lst l) μ
  | [.lst l], μ, P => P (.lst l) μ
  | [.rol l], μ, P => P (.lst l) μ
  | [.ref a], μ, P => ∃ l, μ a = some (.lst l) ∧ P (.lst l) μ
  | _, _, _ => False
theorem cr_list : CallR X (.type "list") (rDB X.K listOk) := by
  intro pins s σ H vs us Q I r h
  obtain ⟨μ, xs, P, ho, n, ok, k⟩ := h
  have fin : ∀ (ws : List V) (l : List D), DenAll X.K μ H ws l → P (.lst l) μ → ∀ p, H p = none → Q (.ref p) (upd H p (.lst ws)) := fun ws l d p q nq => k _ _ _ μ (Stp.new nq) (ho.new nq) (.lst (ho.free nq) upd_same (d.mono (Stp.new nq))) p
  unfold listOk at ok
  split at ok
  · obtain ⟨v, rfl, n1⟩ := n.one
    obtain ⟨a, ws, e1, s1, d1⟩ := n1.inv_tup
    exact call_list_of pins s σ H _ us Q I r ⟨a, ws, by rw [e1], .inr s1, fin ws _ d1 ok⟩
  · obtain ⟨v, rfl, n1⟩ := n.one
    obtain ⟨a, ws, e1, _, s1, d1⟩ := n1.inv_lst
    exact call_list_of pins s σ H _ us Q I r ⟨a, ws, by rw [e1], .inl (SqL.of s1), fin ws _ d1 ok⟩
  · obtain ⟨v, rfl, n1⟩ := n.one
    obtain ⟨a, ws, e1, s1, d1⟩ := n1.inv_rol
    exact call_list_of pins s σ H _ us Q I r ⟨a, ws, by rw [e1], .inl s1, fin ws _ d1 ok⟩
  · obtain ⟨v, rfl, n1⟩ := n.one
    obtain ⟨l, m, p⟩ := ok
    obtain ⟨ws, hv, dv⟩ := ho _ _ m
    exact call_list_of pins s σ H _ us Q I r ⟨_, ws, by rw [n1.inv_ref], .inl (SqL.of hv), fin ws _ dv p⟩
  · exact ok.elim
def tupleOk : List D → Mu → DP → Prop
  | [.tup l], μ, P => P (.tup l) μ
  | [.lst l], μ, P => P (.tup l) μ
  | [.rol l], μ, P => P (.tup l) μ
  | [.ref a], μ, P => ∃ l, μ a = some (.lst l) ∧ P (.tup l) μ
  | _, _, _ => False
theorem cr_tuple : CallR X (.type "tuple") (rDB X.K tupleOk) := by
  intro pins s σ H vs us Q I r h
  obtain ⟨μ, xs, P, ho, n, ok, k⟩ := h
  have fin : ∀ (ws : List V) (l : List D), DenAll X.K μ H ws l → P (.tup l) μ → ∀ p, H p = none → Q (.ref p) (upd H p (.tup ws)) := fun ws l d p q nq => k _ _ _ μ (Stp.new nq) (ho.new nq) (.tup (ho.free nq) upd_same (d.mono (Stp.new nq))) p
  unfold tupleOk at ok
  split at ok
  · obtain ⟨v, rfl, n1⟩ := n.one
    obtain ⟨a, ws, e1, s1, d1⟩ := n1.inv_tup
    exact call_tuple_of pins s σ H _ us Q I r ⟨a, ws, by rw [e1], .inr ⟨s1, by rw [← e1]; exact k _ H _ μ (Stp.refl _ _) ho n1 ok⟩⟩
  · obtain ⟨v, rfl, n1⟩ := n.one
    obtain ⟨a, ws, e1, _, s1, d1⟩ := n1.inv_lst
    exact call_tuple_of pins s σ H _ us Q I r ⟨a, ws, by rw [e1], .inl ⟨SqL.of s1, fin ws _ d1 ok⟩⟩
  · obtain ⟨v, rfl, n1⟩ := n.one
    obtain ⟨a, ws, e1, s1, d1⟩ := n1.inv_rol
    exact call_tuple_of pins s σ H _ us Q I r ⟨a, ws, by rw [e1], .inl ⟨s1, fin ws _ d1 ok⟩⟩
  · obtain ⟨v, rfl, n1⟩ := n.one
    obtain ⟨l, m, p⟩ := ok
    obtain ⟨ws, hv, dv⟩ := ho _ _ m
    exact call_tuple_of pins s σ H _ us Q I r ⟨_, ws, by rw [n1.inv_ref], .inl ⟨SqL.of hv, fin ws _ dv p⟩⟩
  · exact ok.elim
/-- all, any of a list of bools -/
def allOk : List D → Mu → DP → Prop := fun xs μ P => ∃ bs : List Bool, xs = [.lst (bs.map .bl)] ∧ P (.bl (bs.all id)) μ
def anyOk : List D → Mu → DP → Prop := fun xs μ P => ∃ bs : List Bool, xs = [.lst (bs.map .bl)] ∧ P (.bl (bs.any id)) μ
theorem DenAll.bls {K : PySem.W.Frag} {H : Hp} : ∀ {bs : List Bool} {vs : List V}, DenAll K μ H vs (bs.map .bl) → vs = bs.map V.bl
  | [], _, h => by cases h; rfl
  | b :: bs, _, h => by
    cases h with
    | cons a t => rw [a.inv_bl, DenAll.bls t]; rfl
theorem DenAll.strs {K : PySem.W.Frag} {H : Hp} : ∀ {bs : List Str} {vs : List V}, DenAll K μ H vs (bs.map .str) → vs = bs.map V.str
  | [], _, h => by cases h; rfl
  | b :: bs, _, h => by
    cases h with
    | cons a t => rw [a.inv_str, DenAll.strs t]; rfl
theorem DenAll.ints {K : PySem.W.Frag} {H : Hp} : ∀ {bs : List Int} {vs : List V}, DenAll K μ H vs (bs.map .int) → vs = bs.map V.int
  | [], _, h => by cases h; rfl
  | b :: bs, _, h => by
    cases h with
    | cons a t => rw [a.inv_int, DenAll.ints t]; rfl
theorem cr_allD (hc : X.calm = true) : CallR X (.builtin "all") (rDB X.K allOk) := by
  intro pins s σ H vs us Q I r h
  obtain ⟨μ, xs, P, ho, n, ⟨bs, rfl, ok⟩, k⟩ := h
  obtain ⟨v, rfl, n1⟩ := n.one
  obtain ⟨a, ws, e1, _, s1, d1⟩ := n1.inv_lst
  exact cr_all hc pins s σ H _ us Q I r ⟨a, bs, by rw [e1], by rw [← d1.bls]; exact SqL.of s1, k _ H _ μ (Stp.refl _ _) ho (.bl _) ok⟩
theorem cr_anyD (hc : X.calm = true) : CallR X (.builtin "any") (rDB X.K anyOk) := by
  intro pins s σ H vs us Q I r h
  obtain ⟨μ, xs, P, ho, n, ⟨bs, rfl, ok⟩, k⟩ := h
  obtain ⟨v, rfl, n1⟩ := n.one
  obtain ⟨a, ws, e1, _, s1, d1⟩ := n1.inv_lst
  exact cr_any hc pins s σ H _ us Q I r ⟨a, bs, by rw [e1], by rw [← d1.bls]; exact SqL.of s1, k _ H _ μ (Stp.refl _ _) ho (.bl _) ok⟩
/-- repr of plain data -/
def reprOk : List D → Mu → DP → Prop := fun xs μ P => ∃ x p, xs = [x] ∧ toPy x = some p ∧ p.showable = true ∧ p.depth ≤ 60 ∧ p.shown.length ≤ sizeLine ∧ P (.str p.shown) μ
mutual
theorem noDict_toPy : ∀ {d : D} {p : PyData}, toPy d = some p → p.hasDict = false
  | .non, _, e => by simp only [toPy, Option.some.injEq] at e; subst e; rfl
  | .bl b, _, e => by simp only [toPy, Option.some.injEq] at e; subst e; rfl
  | .int i, _, e => by simp only [toPy, Option.some.injEq] at e; subst e; rfl
  | .str s, _, e => by simp only [toPy, Option.some.injEq] at e; subst e; rfl
  | .ty n, _, e => by simp [toPy] at e
  | .ref a, _, e => by simp [toPy] at e
  | .tup xs, _, e => by
    simp only [toPy] at e
    obtain ⟨ds, e1, e2⟩ := Option.map_eq_some_iff.mp e
    subst e2
    simp only [PyData.hasDict]
    exact noDictAll_toPy e1
  | .lst xs, _, e => by
    simp only [toPy] at e
    obtain ⟨ds, e1, e2⟩ := Option.map_eq_some_iff.mp e
    subst e2
    simp only [PyData.hasDict]
    exact noDictAll_toPy e1
  | .rol xs, _, e => by simp [toPy] at e
  | .obj C fs, _, e => by simp [toPy] at e
  | .exc a dd C fs, _, e => by simp [toPy] at e
  | .fn a G Im, _, e => by simp [toPy] at e
  | .dic kvs, _, e => by simp [toPy] at e
theorem noDictAll_toPy : ∀ {ds : List D} {ps : List PyData}, toPyAll ds = some ps → PyData.hasDictAll ps = false
  | [], _, e => by simp only [toPyAll, Option.some.injEq] at e; subst e; rfl
  | d :: ds, _, e => by
    simp only [toPyAll] at e
    cases h1 : toPy d with
    | none => rw [h1] at e; simp at e
    | some p =>
      cases h2 : toPyAll ds with
      | none => rw [h1, h2] at e; simp at e
      | some ps =>
        rw [h1, h2] at e
        simp only [Option.some.injEq] at e
        subst e
        simp only [PyData.hasDictAll, noDict_toPy h1, noDictAll_toPy h2, Bool.or_self]
end
theorem cr_repr {k0 : Nat} (hr : Rm k0 X.A) : CallR X (.builtin "repr") (rDB X.K reprOk) := by
  intro pins s σ H vs us Q I r h
  obtain ⟨μ, xs, P, ho, n, ⟨x, p, rfl, hp, hsh, hd, hz, ok⟩, k⟩ := h
  obtain ⟨v, rfl, n1⟩ := n.one
  obtain ⟨u, rfl, r1⟩ := vals1 r
  obtain ⟨as, rd⟩ := Dp.reads I p v u (n1.dp hp) r1
  have hu := hr.r.units
  have fin : ∀ (h' : Heap) (w : Tok) (tk : Nat), (∀ b o, s.heap.get? b = some o → h'.get? b = some o) → EP X pins σ Q (.str p.shown w) { s with heap := h', toks := tk } := fun h' w tk hk => ⟨.str p.shown, H, I.kept hk, ⟨w, rfl⟩, k _ H _ μ (Stp.refl _ _) ho (.str _) ok⟩
  cases rd with
  | none => exact PySem.P.repr_of_none (fin s.heap _ _ fun _ _ e => e)
  | bool b => exact PySem.P.repr_of_bool (by cases b <;> exact fin s.heap _ _ fun _ _ e => e)
  | int i t => exact PySem.P.repr_of_int (by simpa [PyData.showable] using hsh) (fin s.heap _ _ fun _ _ e => e)
  | str y t => exact PySem.P.repr_of_str (fin s.heap _ _ fun _ _ e => e) hz
  | list h1 h2 h3 h4 => exact repr_of_reads' (.list h1 h2 h3 h4) hsh (fun q => by rw [noDict_toPy hp] at q; cases q) hr.g (by omega) (fun _ _ e => e) (fun h' w tk hk => fin h' w tk hk) hz
  | tuple h1 h2 h3 h4 => exact repr_of_reads' (.tuple h1 h2 h3 h4) hsh (fun q => by rw [noDict_toPy hp] at q; cases q) hr.g (by omega) (fun _ _ e => e) (fun h' w tk hk => fin h' w tk hk) hz
  | dict h1 h2 h3 h4 h5 => have := noDict_toPy hp; simp [PyData.hasDict] at this

/-! ### slices -/
def cutL {α : Type} (xs : List α) (lo hi : Option Int) : List α := (xs.drop (HT.sIx xs.length 0 lo)).take (HT.sIx xs.length xs.length hi - HT.sIx xs.length 0 lo)
def slOk : D → Option Int → Option Int → (D → Prop) → Prop
  | .str s, lo, hi, P => s.length ≤ sizeLine ∧ P (.str (cutS s lo hi))
  | .tup l, lo, hi, P => P (.tup (cutL l lo hi))
  | .lst l, lo, hi, P => P (.lst (cutL l lo hi))
  | .rol l, lo, hi, P => P (.lst (cutL l lo hi))
  | _, _, _, _ => False
def rDS (K : PySem.W.Frag) : V → Option Int → Option Int → Hp → VK → Prop := fun x lo hi H Q => ∃ μ dx R, Hold K μ H ∧ Den K μ H x dx ∧ slOk dx lo hi R ∧ ∀ v H' d, Stp μ H μ H' → Hold K μ H' → Den K μ H' v d → R d → Q v H'
theorem DenAll.cut {K : PySem.W.Frag} {H : Hp} {vs : List V} {xs : List D} (h : DenAll K μ H vs xs) (lo hi : Option Int) : DenAll K μ H (cutV vs lo hi) (cutL xs lo hi) := by
  unfold cutV cutL
  rw [h.length]
  exact (h.drop _).take _
theorem sl_D : SlR X (rDS X.K) := by
  intro pins s σ H x v vl vu lo hi sl Q I rx hs pl pu h
  obtain ⟨μ, dx, R, ho, n, ok, k⟩ := h
  unfold slOk at ok
  split at ok
  · exact sl_str pins s σ H x v vl vu lo hi sl Q I rx hs pl pu ⟨_, n.inv_str, ok.1, k _ H _ (Stp.refl _ _) ho (.str _) ok.2⟩
  · obtain ⟨a, ws, e1, s1, d1⟩ := n.inv_tup
    refine sl_tupA pins s σ H x v vl vu lo hi sl Q I rx hs pl pu ⟨a, ws, e1, s1, fun q => ?_, fun q p np => k _ _ _ (Stp.new np) (ho.new np) (.tup (ho.free np) upd_same ((d1.cut lo hi).mono (Stp.new np))) ok⟩
    rw [← e1]
    refine k _ H _ (Stp.refl _ _) ho n ?_
    rename_i l
    have e : cutL l lo hi = l := by
      unfold cutL
      rw [← d1.length, q.1, q.2, d1.length]
      simp
    rw [e] at ok
    exact ok
  · obtain ⟨a, ws, e1, _, s1, d1⟩ := n.inv_lst
    exact sl_list pins s σ H x v vl vu lo hi sl Q I rx hs pl pu ⟨a, ws, e1, SqL.of s1, fun p np => k _ _ _ (Stp.new np) (ho.new np) (.lst (ho.free np) upd_same ((d1.cut lo hi).mono (Stp.new np))) ok⟩
  · obtain ⟨a, ws, e1, s1, d1⟩ := n.inv_rol
    exact sl_list pins s σ H x v vl vu lo hi sl Q I rx hs pl pu ⟨a, ws, e1, s1, fun p np => k _ _ _ (Stp.new np) (ho.new np) (.lst (ho.free np) upd_same ((d1.cut lo hi).mono (Stp.new np))) ok⟩
  · exact ok.elim
/-- a part of a slice -/
structure OX (X : Cx) (PE : XP) (μ : Mu) (ds : DS) (e : Option Expr) (P : Option Int → Mu → Prop) : Prop where
  po : PO X e (fun σ H Q => Hold X.K μ H ∧ Sl X PE μ H σ ds ∧ ∀ o H' μ', Stp μ H μ' H' → Hold X.K μ' H' → P o μ' → Q o H')
def tUO (X : Cx) (e : Option Expr) : TO := fun σ H Q => ∃ t, PO X e t ∧ t σ H Q
theorem po_U {e : Option Expr} : PO X e (tUO X e) := ⟨fun pins s σ H Q I h => by obtain ⟨t, p, h⟩ := h; exact p.run pins s σ H Q I h⟩
theorem ox_none {P : Option Int → Mu → Prop} (h : P none μ) : OX X PE μ ds none P := ⟨⟨fun pins s σ H Q I ⟨ho, hs, k⟩ => po_none.run pins s σ H Q I (k none H μ (Stp.refl _ _) ho h)⟩⟩
theorem ox_some {P : Option Int → Mu → Prop} (h : EX X PE μ ds e fun d μ' => ∃ i, d = .int i ∧ P (some i) μ') : OX X PE μ ds (some e) P := ⟨⟨fun pins s σ H Q I ⟨ho, hs, k⟩ => (po_some pe_U).run pins s σ H Q I (h.at ho hs fun v H1 d μ1 s1 h1 b1 n1 ⟨i, e, p⟩ => by
  subst e
  exact ⟨i, n1.inv_int, k _ H1 μ1 s1 h1 p⟩)⟩⟩
theorem ex_slice {lo hi : Option Expr} {p2 : Pos} (h : EX X PE μ ds e fun x μ1 => OX X PE μ1 ds lo fun l μ2 => OX X PE μ2 ds hi fun u μ3 => slOk x l u fun z => P z μ3) : EX X PE μ ds (.Subscript e (.Slice lo hi none p2) pos) P :=
  ex_of (pe_slice sl_D pe_U po_U po_U) fun σ H Q ho hs k => h.at ho hs fun v H1 x μ1 s1 h1 b1 n1 p => ⟨_, p.po, h1, b1, fun l H2 μ2 s2 h2 p2 => ⟨_, p2.po, h2, b1.mono s2, fun u H3 μ3 s3 h3 p3 =>
    ⟨μ3, x, _, h3, (n1.mono s2).mono s3, p3, fun w H4 d s4 h4 n4 r => k w H4 d μ3 (((s1.trans s2).trans s3).trans s4) h4 n4 r⟩⟩⟩

/-! ### xs[i] = d, of a list that changes -/
theorem gx_sub {o i : Expr} {d : D} {R : DS → Mu → Prop} (h : EX X PE μ ds o fun x μ1 => EX X PE μ1 ds i fun y μ2 => ∃ p xs k j, x = .ref p ∧ y = .int k ∧ μ2 p = some (.lst xs) ∧ ixN xs.length k = some j ∧ R ds (mset μ2 p (.lst (xs.set j d))))
    (ha : ∀ v, assign (.Subscript o i pos) X.env v = (do
      let ov ← holding [v] (eval o X.env)
      let iv ← holding [v, ov] (eval i X.env)
      standAt pos
      holding [v, ov, iv] (setItem ov iv v)
      release [v, ov, iv] []) := by intro _; rfl) : GX X PE μ ds (.Subscript o i pos) d R :=
  ⟨⟨fun pins s σ H v u Q I r ⟨ho, hs, n, k⟩ => (L2.pg_sub pe_U pe_U set_list ha).run pins s σ H v u Q I r (h.at ho hs fun ov H1 x μ1 s1 h1 b1 n1 q => q.at h1 b1 fun iv H2 y μ2 s2 h2 b2 n2 ⟨p, xs, kk, j, e1, e2, m, e3, z⟩ => by
    subst e1 e2
    obtain ⟨vs, hv, dv⟩ := h2 p _ m
    have sw : Stp μ2 H2 (mset μ2 p (.lst (xs.set j d))) (upd H2 p (.lst (vs.set j v))) := Stp.write m
    have n3 := (n.mono s1).mono s2
    exact ⟨p, vs, kk, j, n1.inv_ref, n2.inv_int, hv, by rw [dv.length]; exact e3, k σ _ ds _ ((s1.trans s2).trans sw) (h2.write (c := .lst (xs.set j d)) m ⟨_, upd_same, (dv.set j n3).mono sw⟩) (b2.mono sw) z⟩)⟩⟩

/-! ### sep.join(l) -/
def joinOk (s : Str) (y : D) (K : Str → Prop) : Prop := ∃ (ys : List Str), (y = .lst (ys.map .str) ∨ y = .tup (ys.map .str)) ∧ (ys.map (·.length)).sum + ys.length * s.length ≤ 16777216 ∧ K (Txt.join s ys)
theorem ex_join {o : Expr} {apos : Pos} (h : EX X PE μ ds o fun x μ1 => ∃ s : Str, x = .str s ∧ EX X PE μ1 ds e fun y μ2 => joinOk s y fun z => P (.str z) μ2)
    (hs : starEach [e] X.env = [(false, eval e X.env)] := by rfl) (hbase : attributeBase o "join" X.env (eval o X.env) = eval o X.env := by rfl) (hline : (apos.endLine == pos.line) = true := by rfl) : EX X PE μ ds (.Call (.Attribute o "join" apos) [e] [] pos) P :=
  ex_of (pe_join pe_U pe_U hs hbase hline) fun σ H Q ho hs k => h.at ho hs fun v H1 x μ1 s1 h1 b1 n1 ⟨st, e1, q⟩ => by
    subst e1
    refine ⟨⟨st, n1.inv_str⟩, q.at h1 b1 fun w H2 y μ2 s2 h2 b2 n2 ⟨ys, e2, hz, p⟩ => ?_⟩
    · rcases e2 with e2 | e2 <;> subst e2
      · obtain ⟨a, ws, e3, _, q1, d1⟩ := n2.inv_lst
        exact ⟨st, a, ys, n1.inv_str, by rw [e3], .inl (by rw [← d1.strs]; exact SqL.of q1), hz, k _ H2 _ μ2 (s1.trans s2) h2 (.str _) p⟩
      · obtain ⟨a, ws, e3, q1, d1⟩ := n2.inv_tup
        exact ⟨st, a, ys, n1.inv_str, by rw [e3], .inr (by rw [← d1.strs]; exact q1), hz, k _ H2 _ μ2 (s1.trans s2) h2 (.str _) p⟩
end
end Hw
set_option Elab.async false
set_option linter.all false
set_option maxRecDepth 100000
set_option maxHeartbeats 1000000
namespace Hw
open PySem L2 PyProof.Rows

/-! ### isinstance -/
def tyD : D → Option Value
  | .non => some (.type "NoneType")
  | .bl _ => some (.type "bool")
  | .int _ => some (.type "int")
  | .str _ => some (.type "str")
  | .tup _ => some (.type "tuple")
  | .lst _ => some (.type "list")
  | .dic _ => some (.type "dict")
  | .obj C _ => some (.ref C)
  | _ => none
/-- what isinstance asks of an own class -/
structure IsC (K : PySem.W.Frag) (C : Addr) : Prop where
  cl : Cls K C
  ha : PySem.W.findIn K (.ref C) "__class__" = some (some (.builtin "object.__class__"))
  hn : PySem.W.specialIn K (.builtin "object.__class__") "__get__" = some (some (.builtin "getset_descriptor.__get__"))
  ht : PySem.W.takesIn K (.builtin "object.__class__") = some true
  hm : PySem.W.mroIn K C (.type "object") = some true
def clsD : D → Option Value
  | .ty n => some (.type n)
  | .ref C => some (.ref C)
  | _ => none
def clsAll : List D → Option (List Value)
  | [] => some []
  | d :: ds => match clsD d, clsAll ds with
    | some u, some us => some (u :: us)
    | _, _ => none
section
variable {X : Cx} {PE : XP} {e a b c : Expr} {es : List Expr} {μ : Mu} {ds : DS} {P : DP} {pos : Pos} {Z : Po}
theorem Den.tyx {K : PySem.W.Frag} {H : Hp} {v : V} {d : D} {t : Value} (h : Den K μ H v d) (e : tyD d = some t) (ho : ∀ C fs, d = .obj C fs → IsC K C) : TyX K H v t := by
  cases h with
  | non => cases e; exact .base .non
  | bl b => cases e; exact .base (.bl b)
  | int i => cases e; exact .base (.int i)
  | str s => cases e; exact .base (.str s)
  | ty n => cases e
  | ref a => cases e
  | tup q r t => cases e; exact .base (.tup r)
  | tupK r t =>
    cases e
    rcases r (fun _ => none) with r | ⟨o, _, _, h1, h2, _⟩
    · rcases r with r | ⟨_, r⟩ <;> cases r
    · exact .kTuple h1 h2
  | lst q r t => cases e; exact .base (.lst r)
  | rol q r t => cases e
  | rolK r t => cases e
  | obj q r t =>
    cases e
    have i := ho _ _ rfl
    exact .base (.ins r i.cl i.ha i.hn i.ht i.hm)
  | exc q r t => cases e
  | fn r => cases e
  | dic q r t => cases e; exact .base (.dK r)
theorem Den.cls {K : PySem.W.Frag} {H : Hp} {v : V} {d : D} {u : Value} (h : Den K μ H v d) (e : clsD d = some u) : ClsV v u := by
  cases h <;> cases e
  · exact .ty _
  · exact .own _
theorem DenAll.cls {K : PySem.W.Frag} {H : Hp} : ∀ {vs : List V} {ds : List D} {us : List Value}, DenAll K μ H vs ds → clsAll ds = some us → Paired ClsV vs us
  | _, _, _, .nil, e => by cases e; exact .nil
  | _, _, _, .cons (d := d) (ds := ds) a t, e => by
    unfold clsAll at e
    split at e
    · rename_i h1 h2
      cases e
      exact .cons (a.cls h1) (t.cls h2)
    · cases e
def isiOk (K : PySem.W.Frag) : List D → Mu → DP → Prop := fun xs μ P => ∃ x c t b, xs = [x, c] ∧ tyD x = some t ∧ (∀ C fs, x = .obj C fs → IsC K C) ∧
  ((∃ u, clsD c = some u ∧ PySem.W.kitOne K t u = some b) ∨ ∃ cs us, c = .tup cs ∧ clsAll cs = some us ∧ μ = μ ∧ PySem.W.kitAny K t us = some b) ∧ P (.bl b) μ
theorem cr_isi : CallR X (.builtin "isinstance") (rDB X.K (isiOk X.K)) := by
  intro pins s σ H vs us Q I r h
  obtain ⟨μ, xs, P, ho, n, ⟨x, c, t, b, rfl, ht, hi, hc, ok⟩, k⟩ := h
  obtain ⟨v, w, rfl, n1, n2⟩ := n.two
  rcases hc with ⟨u, hu, hk⟩ | ⟨cs, us', rfl, hu, _, hk⟩
  · exact call_isi pins s σ H _ us Q I r ⟨v, w, t, u, b, rfl, n2.cls hu, n1.tyx ht hi, hk, k _ H _ μ (Stp.refl _ _) ho (.bl _) ok⟩
  · cases n2 with
    | tup q rr t2 => exact call_isiT pins s σ H _ us Q I r ⟨v, _, _, t, us', b, rfl, rr, t2.cls hu, n1.tyx ht hi, hk, k _ H _ μ (Stp.refl _ _) ho (.bl _) ok⟩
    | tupK rr t2 =>
      rcases rr (fun _ => none) with r0 | ⟨o, its, m, h1, h2, h3, h4, h5⟩
      · rcases r0 with r0 | ⟨_, r0⟩ <;> cases r0
      · have e1 := ClsV.all (t2.cls hu) h5
        obtain ⟨oc, od, dt, sl⟩ := o
        simp only at h2 h3
        subst h2 h3
        refine call_isiK pins s σ H _ us Q I r ⟨v, _, od, us', m, sl, t, b, rfl, ?_, n1.tyx ht hi, hk, k _ H _ μ (Stp.refl _ _) ho (.bl _) ok⟩
        rw [h1, ← e1]
end

/-! ### the law's own end -/
section
variable {P : Program} {w : World} {K : PySem.W.Frag} {mg mb : Str → Option Value} {k : Nat} {fa a : Addr} {fd : FuncData} {x : Str} {C : CT} {s1 : Shared} {vs : List Value} {ns : List Int}
/-- what the law's call leaves -/
def Done (s1 : Shared) (r : Result) (s' : Shared) : Prop := r = .ok (.ret (.bool true)) ∧ OldK s1.heap s'.heap ∧ s'.os = s1.os ∧ AllBare s'.gens
theorem law_core {H : Hp} (KX : K.In s1.heap) (hns : s1.heap.Ns mainGlobals mg) (hb : s1.heap.Ns builtinsNs mb) (hbb : ∀ x : Str, x ≠ "__name__" → mb x = bootBuiltins x) (hlim : s1.heap.NoLimit) (hgs : s1.gens = #[])
    (ha : s1.heap.get? a = some { cls := .type "list", data := .seq vs.toArray }) (hr : Rm k callerA) (F : ∀ base : Heap, K.In base → base.Ns mainGlobals mg → FnG P w K mg base k fa fd [x] C) (hbind : ∀ (s : Shared) (u : Value), BindsTo s fd ⟨[u], []⟩ [(x, u)])
    (hC : C [.rol (ns.map .int)] (fun _ => none) (fun d _ => d = .bl true) noX)
    (hS : Den K (fun _ => none) H (.ref a) (.rol (ns.map .int))) (hok : HOk P w H s1.heap) (only : ∀ b u, H b = some u → b = a ∧ K.lookup a = none ∧ ∃ o xs, u = .frz o (.lst xs)) :
    codeAny (model P w) callerA (.call (.ref fa) ⟨[.ref a], []⟩) (Done s1) s1 := by
  -- the ground is the heap without the script
  have other : ∀ {b : Addr} {o : Obj}, s1.heap.get? b = some o → (b = a → False) → (hidT s1.heap H).get? b = some o := fun {b o} e nb => hidT_get e (by
    cases q : H b with
    | none => rfl
    | some u => exact (nb (only b u q).1).elim)
  have space : ∀ {b : Addr} {m : Str → Option Value}, s1.heap.Ns b m → (hidT s1.heap H).Ns b m := fun {b m} ⟨o, es, ep, e, d, rst⟩ => ⟨o, es, ep, other e (fun z => by
    rw [z, ha] at e
    have e1 := (Option.some.inj e).symm
    subst e1
    simp at d), d, rst⟩
  have kin : K.In (hidT s1.heap H) := fun b o e => by
    cases q : H b with
    | none => exact hidT_get (KX b o e) q
    | some u =>
      obtain ⟨rfl, h2, _⟩ := only b u q
      rw [h2] at e; cases e
  have hM : Mod K mg (hidT s1.heap H) := ⟨kin, space hns, ⟨mb, space hb, hbb⟩, by obtain ⟨mc, h1, h2⟩ := hlim; exact ⟨mc, space h1, h2⟩⟩
  have e0 : Env0 P w K mg (hidT s1.heap H) callerA [] s1 H := { frames := rfl, mod := hM, bs := fun b o e => of_hidT e, bsz := by rw [hidT_size]; exact Nat.le_refl _, funs := trivial, frf := fun b hb => absurd hb (by simp [frs]), hok := hok, bare := .of_eq hgs }
  have run := (F _ kin (space hns)).run callerA [] s1 H ⟨[.ref a], []⟩ [.ref a] [.ref a] (fun v _ => v = .bl true) (fun _ _ _ => False) hr e0 (hbind s1 (.ref a)) (.cons rfl .nil)
    ⟨fun _ => none, [.rol (ns.map .int)], fun d _ => d = .bl true, noX, (fun _ _ e => by cases e), .cons hS .nil, hC, fun v H' d μ' _ _ n p => by subst p; exact n.inv_bl, fun Ca dd H' fs vfs μ' _ _ _ _ p => False.elim p⟩
  refine codeAny_mono run fun r s' h => ?_
  match r, h with
  | .error e, ⟨_, _, _, _, _, _, _, _, _, _, _, _, h⟩ => exact False.elim h
  | .ok (.ret u), ⟨v, H', os, bare, un, hok', r', q⟩ =>
    subst q
    cases r'
    refine ⟨rfl, OldK.of_keep fun b o e => ?_, os, bare⟩
    cases q : H b with
    | none => exact un.keep b o e q (by simp [frs]) (by simp)
    | some u =>
      obtain ⟨_, _, ob, xs, rfl⟩ := only b u q
      have z1 := hok b _ q
      have z2 := hok' b _ (un.frzs b ob _ q)
      have z1 := z1.1
      have z2 := z2.1
      rw [e] at z1
      cases z1
      exact z2
theorem law_end (KX : K.In s1.heap) (hns : s1.heap.Ns mainGlobals mg) (hb : s1.heap.Ns builtinsNs mb) (hbb : ∀ x : Str, x ≠ "__name__" → mb x = bootBuiltins x) (hlim : s1.heap.NoLimit) (hgs : s1.gens = #[])
    (ha : s1.heap.get? a = some { cls := .type "list", data := .seq vs.toArray }) (hi : IntsAre vs ns) (hl : ns.length ≤ sizeLine) (hr : Rm k callerA)
    (F : ∀ base : Heap, K.In base → base.Ns mainGlobals mg → FnG P w K mg base k fa fd [x] C) (hbind : ∀ (s : Shared) (u : Value), BindsTo s fd ⟨[u], []⟩ [(x, u)])
    (hC : C [.rol (ns.map .int)] (fun _ => none) (fun d _ => d = .bl true) noX) : codeAny (model P w) callerA (.call (.ref fa) ⟨[.ref a], []⟩) (Done s1) s1 := by
  have rv := vals_ints hi
  have den : ∀ H, DenAll K (fun _ => none) H (ns.map V.int) (ns.map .int) := fun H => by
    clear ha hi hl rv hC
    induction ns with
    | nil => exact .nil
    | cons n r ih => exact .cons (.int n) ih
  cases hk : K.lookup a with
  | some o =>
    have e := KX a o hk
    rw [ha] at e
    cases e
    exact law_core (H := fun _ => none) KX hns hb hbb hlim hgs ha hr F hbind hC (.rolK (fun H' => .inr ⟨_, vs.toArray, _, hk, rfl, rfl, rfl, by rw [List.size_toArray, hi.length]; exact hl, by simpa using rv⟩) (den _)) (fun b u z => by cases z) fun b u z => by cases z
  | none =>
    have at_ : ∀ {b : Addr} {u : HO}, (fun b => if b = a then some (HO.frz { cls := .type "list", data := .seq vs.toArray } (.lst (ns.map V.int))) else none) b = some u → b = a ∧ u = .frz { cls := .type "list", data := .seq vs.toArray } (.lst (ns.map V.int)) := fun {b u} z => by
      by_cases hb : b = a
      · exact ⟨hb, (Option.some.inj ((if_pos hb).symm.trans z)).symm⟩
      · have := (if_neg hb).symm.trans z
        cases this
    refine law_core (H := fun b => if b = a then some (.frz { cls := .type "list", data := .seq vs.toArray } (.lst (ns.map V.int))) else none) KX hns hb hbb hlim hgs ha hr F hbind hC (.rol rfl (.inr ⟨_, if_pos rfl⟩) (den _)) (fun b u z => ?_) fun b u z => ?_
    · obtain ⟨rfl, rfl⟩ := at_ z
      exact ⟨ha, by rw [List.length_map]; exact hl, vs, _, rv, ha⟩
    · obtain ⟨rfl, rfl⟩ := at_ z
      exact ⟨rfl, hk, _, _, rfl⟩
end
/-- the goal that the head leaves -/
theorem walk_end {l : PySem.W.OpenLaw} {n k : Nat} {q : Program} {loose : List Str} {XP : (Str → Option Value) → Heap → Prop} {YP : World → Heap → Prop} {d : DefRec} {K : Params → PySem.W.Frag} {x : Str} {C : CT}
    (hn : l.most = some n) (hn2 : n ≤ sizeLine) (hdf : d.params.defaults = []) (hr : Rm k callerA) (hY : ∀ (w : World) (h : Heap), YP w h → (K w.params).In h)
    (F : ∀ (w : World) (mg : Str → Option Value) (fa : Addr) (h : Heap), (K w.params).In h → h.Ns mainGlobals mg → mg d.name = some (.ref fa) →
      ∃ fd : FuncData, (∀ (s : Shared) (u : Value), BindsTo s fd ⟨[u], []⟩ [(x, u)]) ∧ ∀ base : Heap, (K w.params).In base → base.Ns mainGlobals mg → FnG l.prog w (K w.params) mg base k fa fd [x] C)
    (hC : ∀ ns : List Int, ns.length ≤ n → (∀ z ∈ ns, Builtin.Int.intBits z ≤ 1048576) → C [.rol (ns.map .int)] (fun _ => none) (fun d _ => d = .bl true) noX) :
    PySem.W.WalkO q loose XP YP l.row.toRowW d [] (fun f vs => PySem.call f vs) := by
  refine Att.attach_callB hn hdf fun w s0 s1 mg mb fa o pm cd doc a vs ns G Y ho hd hcd hmg hobj hints hlen hbits hg => ?_
  obtain ⟨fd, hb, hF⟩ := F w mg fa _ (hY w _ Y) G.T.g hmg
  exact law_end (hY w _ Y) G.T.g G.T.b G.T.builtins G.T.nolimit hg hobj hints (Nat.le_trans hlen hn2) hr hF hb (hC ns hlen hbits)
end Hw
set_option Elab.async false
set_option linter.all false
set_option maxRecDepth 100000
set_option maxHeartbeats 1000000
namespace Hw
open PySem L2 PyProof.Rows

/-! ### what the operators ask, case by case -/
section
variable {P : D → Prop} {i j : Int} {s t : Str} {xs ys : List D}
theorem b_addI (h : P (.int (i + j))) : binOk .Add (.int i) (.int j) P := h
theorem b_subI (h : P (.int (i - j))) : binOk .Sub (.int i) (.int j) P := h
theorem b_mulI (c : CMul i j ∨ CMulW i j) (h : P (.int (i * j))) : binOk .Mult (.int i) (.int j) P := ⟨c, h⟩
theorem b_divI (c : 0 < j ∧ j.natAbs.log2 < 9000) (h : P (.int (i / j))) : binOk .FloorDiv (.int i) (.int j) P := ⟨⟨by omega, c.2⟩, by rw [Int.fdiv_eq_ediv_of_nonneg i (by omega)]; exact h⟩
theorem b_divZ (c : j ≠ 0 ∧ j.natAbs.log2 < 9000) (h : P (.int (i.fdiv j))) : binOk .FloorDiv (.int i) (.int j) P := ⟨c, h⟩
theorem b_modI (c : 0 < j) (h : P (.int (i % j))) : binOk .Mod (.int i) (.int j) P := ⟨by omega, by rw [Int.fmod_eq_emod_of_nonneg i (by omega)]; exact h⟩
theorem b_powI (c : CPow i j) (h : P (.int (i ^ j.toNat))) : binOk .Pow (.int i) (.int j) P := ⟨c, h⟩
theorem b_addS (c : s.length + t.length ≤ sizeLine) (h : P (.str (s ++ t))) : binOk .Add (.str s) (.str t) P := ⟨c, h⟩
theorem b_addT (c : xs.length + ys.length ≤ sizeLine) (h : P (.tup (xs ++ ys))) : binOk .Add (.tup xs) (.tup ys) P := ⟨c, h⟩
theorem b_addL (c : xs.length + ys.length ≤ sizeLine) (h : P (.lst (xs ++ ys))) : binOk .Add (.lst xs) (.lst ys) P := ⟨c, h⟩
theorem b_repL (c : -(2 ^ 63) ≤ j ∧ j < 2 ^ 63 ∧ xs.length * j.toNat ≤ sizeLine) (h : P (.lst (List.replicate j.toNat xs).flatten)) : binOk .Mult (.lst xs) (.int j) P := ⟨c, h⟩
end
section
variable {P : Bool → Prop} {i j : Int} {s t : Str} {b c : Bool} {x : D} {xs ys : List D} {a : Addr} {fs : List (Str × D)}
theorem c_lt (h : P (decide (i < j))) : cmpOk .Lt (.int i) (.int j) P := h
theorem c_le (h : P (decide (i ≤ j))) : cmpOk .LtE (.int i) (.int j) P := h
theorem c_gt (h : P (decide (j < i))) : cmpOk .Gt (.int i) (.int j) P := h
theorem c_ge (h : P (decide (j ≤ i))) : cmpOk .GtE (.int i) (.int j) P := h
theorem dV_int : decide (V.int i = V.int j) = decide (i = j) := by by_cases h : i = j <;> simp [h]
theorem dV_str : decide (V.str s = V.str t) = decide (s = t) := by by_cases h : s = t <;> simp [h]
theorem dV_bl : decide (V.bl b = V.bl c) = decide (b = c) := by by_cases h : b = c <;> simp [h]
theorem c_eqI (h : P (decide (i = j))) : cmpOk .Eq (.int i) (.int j) P := ⟨rfl, rfl, rfl, by show P (decide (V.int i = V.int j)); rw [dV_int]; exact h⟩
theorem c_neI (h : P (!decide (i = j))) : cmpOk .NotEq (.int i) (.int j) P := ⟨rfl, rfl, rfl, by show P (!decide (V.int i = V.int j)); rw [dV_int]; exact h⟩
theorem c_eqS (h : P (decide (s = t))) : cmpOk .Eq (.str s) (.str t) P := ⟨rfl, rfl, rfl, by show P (decide (V.str s = V.str t)); rw [dV_str]; exact h⟩
theorem c_neS (h : P (!decide (s = t))) : cmpOk .NotEq (.str s) (.str t) P := ⟨rfl, rfl, rfl, by show P (!decide (V.str s = V.str t)); rw [dV_str]; exact h⟩
theorem c_eqB (h : P (decide (b = c))) : cmpOk .Eq (.bl b) (.bl c) P := ⟨rfl, rfl, rfl, by show P (decide (V.bl b = V.bl c)); rw [dV_bl]; exact h⟩
theorem c_isN (h : P (isNon x)) : cmpOk .Is x .non P := h
theorem c_notN (h : P (!isNon x)) : cmpOk .IsNot x .non P := h
theorem c_inS {k : Nat} (h : P (decide (k ∈ t.cps.toList))) : cmpOk .In (.str ⟨#[k]⟩) (.str t) P := ⟨k, rfl, h⟩
theorem c_ninS {k : Nat} (h : P (!decide (k ∈ t.cps.toList))) : cmpOk .NotIn (.str ⟨#[k]⟩) (.str t) P := ⟨k, rfl, h⟩
theorem c_inT (f : flatD x = true) (g : ys.all flatD = true) (h : P ((ys.map fv).any fun y => eqV y (fv x))) : cmpOk .In x (.tup ys) P := by cases x <;> first | exact ⟨f, g, h⟩ | cases f
theorem c_inL (f : flatD x = true) (g : ys.all flatD = true) (h : P ((ys.map fv).any fun y => eqV y (fv x))) : cmpOk .In x (.lst ys) P := by cases x <;> first | exact ⟨f, g, h⟩ | cases f
theorem c_ninT (f : flatD x = true) (g : ys.all flatD = true) (h : P (!(ys.map fv).any fun y => eqV y (fv x))) : cmpOk .NotIn x (.tup ys) P := by cases x <;> first | exact ⟨f, g, h⟩ | cases f
theorem c_ninL (f : flatD x = true) (g : ys.all flatD = true) (h : P (!(ys.map fv).any fun y => eqV y (fv x))) : cmpOk .NotIn x (.lst ys) P := by cases x <;> first | exact ⟨f, g, h⟩ | cases f
end
section
variable {P : D → Prop} {i : Int} {s : Str} {xs : List D} {d : D} {μ : Mu} {a : Addr} {c : MD}
theorem i_tup (e : atI xs i = some d) (h : P d) : ixA μ (.tup xs) (.int i) P := ⟨d, e, h⟩
theorem i_lst (e : atI xs i = some d) (h : P d) : ixA μ (.lst xs) (.int i) P := ⟨d, e, h⟩
theorem i_rol (e : atI xs i = some d) (h : P d) : ixA μ (.rol xs) (.int i) P := ⟨d, e, h⟩
theorem i_str {k : Nat} (l : s.length ≤ sizeLine) (e : atI s.cps.toList i = some k) (h : P (.str ⟨#[k]⟩)) : ixA μ (.str s) (.int i) P := ⟨k, l, e, h⟩
theorem i_ref (m : μ a = some (.lst xs)) (e : atI xs i = some d) (h : P d) : ixA μ (.ref a) (.int i) P := ⟨xs, d, m, e, h⟩
theorem i_refS (e : atI xs i = some d) (h : P d) : ixA (mset μ a (.lst xs)) (.ref a) (.int i) P := ⟨xs, d, mset_same, e, h⟩
end
section
variable {P : DP} {i : Int} {s : Str} {xs : List D} {d : D} {μ : Mu} {a : Addr} {b : Bool}
theorem f_lenS (l : s.length ≤ sizeLine) (h : P (.int s.length) μ) : lenOk [.str s] μ P := ⟨l, h⟩
theorem f_lenT (h : P (.int xs.length) μ) : lenOk [.tup xs] μ P := h
theorem f_lenL (h : P (.int xs.length) μ) : lenOk [.lst xs] μ P := h
theorem f_lenR (h : P (.int xs.length) μ) : lenOk [.rol xs] μ P := h
theorem f_lenM (m : μ a = some (.lst xs)) (h : P (.int xs.length) μ) : lenOk [.ref a] μ P := ⟨xs, m, h⟩
theorem f_abs (h : P (.int (if i < 0 then -i else i)) μ) : absOk [.int i] μ P := h
theorem f_int (h : P (.int i) μ) : intOk [.int i] μ P := h
theorem f_strI (l : i.natAbs.log2 < 1920) (h : P (.str (toString i)) μ) : strOk [.int i] μ P := ⟨l, h⟩
theorem f_strS (h : P (.str s) μ) : strOk [.str s] μ P := h
theorem f_listT (h : P (.lst xs) μ) : listOk [.tup xs] μ P := h
theorem f_listL (h : P (.lst xs) μ) : listOk [.lst xs] μ P := h
theorem f_listR (h : P (.lst xs) μ) : listOk [.rol xs] μ P := h
theorem f_tupleL (h : P (.tup xs) μ) : tupleOk [.lst xs] μ P := h
theorem f_tupleT (h : P (.tup xs) μ) : tupleOk [.tup xs] μ P := h
theorem f_all {bs : List Bool} (h : P (.bl (bs.all id)) μ) : allOk [.lst (bs.map .bl)] μ P := ⟨bs, rfl, h⟩
theorem f_any {bs : List Bool} (h : P (.bl (bs.any id)) μ) : anyOk [.lst (bs.map .bl)] μ P := ⟨bs, rfl, h⟩
theorem f_repr {p : PyData} (e : toPy d = some p) (h1 : p.showable = true) (h2 : p.depth ≤ 60) (h3 : p.shown.length ≤ sizeLine) (h : P (.str p.shown) μ) : reprOk [d] μ P := ⟨d, p, rfl, e, h1, h2, h3, h⟩
theorem f_isi {K : PySem.W.Frag} {x c : D} {t u : Value} {b : Bool} (ht : tyD x = some t) (ho : ∀ C fs, x = .obj C fs → IsC K C) (hu : clsD c = some u) (hk : PySem.W.kitOne K t u = some b) (h : P (.bl b) μ) : isiOk K [x, c] μ P := ⟨x, c, t, b, rfl, ht, ho, .inl ⟨u, hu, hk⟩, h⟩
theorem f_isiT {K : PySem.W.Frag} {x : D} {cs : List D} {t : Value} {us : List Value} {b : Bool} (ht : tyD x = some t) (ho : ∀ C fs, x = .obj C fs → IsC K C) (hu : clsAll cs = some us) (hk : PySem.W.kitAny K t us = some b) (h : P (.bl b) μ) : isiOk K [x, .tup cs] μ P := ⟨x, _, t, b, rfl, ht, ho, .inr ⟨cs, us, rfl, hu, rfl, hk⟩, h⟩
end
section
variable {P : D → Prop} {s : Str} {xs : List D} {lo hi : Option Int}
theorem s_str (l : s.length ≤ sizeLine) (h : P (.str (cutS s lo hi))) : slOk (.str s) lo hi P := ⟨l, h⟩
theorem s_tup (h : P (.tup (cutL xs lo hi))) : slOk (.tup xs) lo hi P := h
theorem s_lst (h : P (.lst (cutL xs lo hi))) : slOk (.lst xs) lo hi P := h
theorem s_rol (h : P (.lst (cutL xs lo hi))) : slOk (.rol xs) lo hi P := h
end
theorem atI_map {α : Type} {f : α → D} {xs : List α} {i : Int} {j : Nat} {y : α} (hi : i = (j : Int)) (h : xs[j]? = some y) : atI (xs.map f) i = some (f y) := by
  subst hi
  exact atI_nat (by rw [List.getElem?_map, h]; rfl)
/-- split what a truth is -/
theorem two {b : Bool} {P Q : Prop} (h1 : b = true → P) (h2 : b = false → Q) : (b = true → P) ∧ (b = false → Q) := ⟨h1, h2⟩
end Hw
set_option Elab.async false
set_option linter.all false
set_option maxRecDepth 100000
set_option maxHeartbeats 1000000
namespace Hw
open PySem L2 PyProof.Rows
section
variable {X : Cx} {PE : XP} {e a b c : Expr} {es : List Expr} {μ : Mu} {ds : DS} {P : DP} {pos : Pos} {Z : Po} {tg : Expr}
/-! ### a text walked -/
def signs (s : Str) : List D := s.cps.toList.map fun c => D.str ⟨#[c]⟩
theorem itd_str {K : PySem.W.Frag} {H : Hp} (s : Str) : ItD K (Its s) μ H (signs s) := fun i H1 μ1 st h => by
  refine ⟨fun q => (show s.cps.size ≤ i by simpa [signs] using q), fun x hx => ?_⟩
  have hi : i < s.cps.size := by
    have := (List.getElem?_eq_some_iff.mp hx).1
    simpa [signs] using this
  refine ⟨hi, fun w H2 ⟨e, c, hc, q⟩ => ?_⟩
  subst e q
  have : x = D.str ⟨#[c]⟩ := by
    have hl : s.cps.toList[i]? = some c := by rw [Array.getElem?_toList]; exact hc
    rw [signs, List.getElem?_map, hl] at hx
    exact (Option.some.inj hx).symm
  subst this
  exact ⟨Stp.refl _ _, h, .str _⟩
theorem ix_str {P : List D → Mu → Prop} (h : EX X PE μ ds e fun d μ1 => ∃ s, d = .str s ∧ P (signs s) μ1) : IX X PE μ ds tg e P :=
  ix_of (pi_str pe_U) fun σ H R ho hs k => h.at ho hs fun v H1 d μ1 s1 h1 b1 n1 ⟨s, e, p⟩ => by
    subst e
    exact ⟨s, n1.inv_str, k _ H1 _ μ1 s1 h1 (itd_str s) p⟩
/-! ### keywords -/
structure KX (X : Cx) (PE : XP) (μ : Mu) (ds : DS) (kws : List Keyword) (P : List D → Mu → Prop) : Prop where
  pk : PK X kws (tDA X PE μ ds P)
def tUK (X : Cx) (kws : List Keyword) : TA := fun σ H Q => ∃ t, PK X kws t ∧ t σ H Q
theorem pk_U {kws : List Keyword} : PK X kws (tUK X kws) := ⟨fun po pins s σ H Q I h => by obtain ⟨t, p, h⟩ := h; exact p.run po pins s σ H Q I h⟩
theorem KX.at {kws : List Keyword} {σ : L2.St} {H : Hp} {Q : List V → Hp → Prop} {P : List D → Mu → Prop} (x : KX X PE μ ds kws P) (ho : Hold X.K μ H) (hs : Sl X PE μ H σ ds) (k : ∀ vs H' xs μ', Stp μ H μ' H' → Hold X.K μ' H' → Sl X PE μ' H' σ ds → DenAll X.K μ' H' vs xs → P xs μ' → Q vs H') : tUK X kws σ H Q :=
  ⟨_, x.pk, ho, hs, fun vs H' xs μ' s h n p => k vs H' xs μ' s h (hs.mono s) n p⟩
theorem kx_nil {P : List D → Mu → Prop} (h : P [] μ) : KX X PE μ ds [] P := ⟨⟨fun po pins s σ H Q I ⟨ho, hs, k⟩ => pk_nil.run po pins s σ H Q I (k [] H [] μ (Stp.refl _ _) ho .nil h)⟩⟩
theorem kx_cons {kws : List Keyword} {nm : Option Str} {kpos : Pos} {P : List D → Mu → Prop} (h : EX X PE μ ds e fun d μ1 => KX X PE μ1 ds kws fun xs μ2 => P (d :: xs) μ2) : KX X PE μ ds (⟨nm, e, kpos⟩ :: kws) P :=
  ⟨⟨fun po pins s σ H Q I ⟨ho, hs, k⟩ => (pk_cons pe_U pk_U).run po pins s σ H Q I (h.at ho hs fun v H1 d μ1 s1 h1 b1 n1 p => p.at h1 b1 fun vs H2 xs μ2 s2 h2 b2 n2 p2 => k (v :: vs) H2 (d :: xs) μ2 (s1.trans s2) h2 (.cons (n1.mono s2) n2) p2)⟩⟩
/-- the values at the places idx -/
def pick {α : Type} (idx : List Nat) (l : List α) : List α := idx.filterMap fun j => l[j]?
theorem Vals.pick {vs : List V} {us : List Value} (r : Vals vs us) : ∀ idx, Vals (pick idx vs) (pick idx us)
  | [] => .nil
  | j :: idx => by
    unfold Hw.pick
    cases h : vs[j]? with
    | none =>
      rw [List.filterMap_cons, h, List.filterMap_cons, r.none_of h]
      exact Vals.pick r idx
    | some v =>
      obtain ⟨u, h2, r2⟩ := r.get h
      rw [List.filterMap_cons, h, List.filterMap_cons, h2]
      exact .cons r2 (Vals.pick r idx)
theorem DenAll.none_of {K : PySem.W.Frag} {H : Hp} {vs : List V} {xs : List D} (h : DenAll K μ H vs xs) {j : Nat} (e : vs[j]? = none) : xs[j]? = none := by
  rw [List.getElem?_eq_none_iff] at e ⊢
  rw [← h.length]
  exact e
theorem DenAll.pick {K : PySem.W.Frag} {H : Hp} {vs : List V} {xs : List D} (h : DenAll K μ H vs xs) : ∀ idx, DenAll K μ H (pick idx vs) (pick idx xs)
  | [] => .nil
  | j :: idx => by
    unfold Hw.pick
    cases e : vs[j]? with
    | none =>
      rw [List.filterMap_cons, e, List.filterMap_cons, h.none_of e]
      exact DenAll.pick h idx
    | some v =>
      obtain ⟨d, e2, n2⟩ := h.get e
      rw [List.filterMap_cons, e, List.filterMap_cons, e2]
      exact .cons n2 (DenAll.pick h idx)
/-- how the arguments bind: n by place, the keywords ks -/
def KwOk (x qual : Str) (st : Stmt) (ps ks : List Str) (n : Nat) (idx : List Nat) : Prop := ∀ (kV doc pm : Value) (an : Option Addr) (cdv ct : Value) (us ws : List Value), us.length = n → ws.length = ks.length →
  bindArgs (PySem.W.fnOf x qual (defArgs st) (defBody st) (defScope st) .none kV doc pm an cdv ct) ⟨us, ks.zip ws⟩ = pure (ps.zip (pick idx (us ++ ws)))
theorem run_gk {pins : List (Addr × Obj)} {σ : L2.St} {H : Hp} {s : Shared} {Q : VK} {k n : Nat} {f : Addr} {fd : FuncData} {x qual : Str} {st : Stmt} {ps ks : List Str} {idx : List Nat} {C : CT} {us ws : List Value} {vs zs : List V}
    (F : FnG X.prog X.w X.K X.mg X.base k f fd ps C) (hF : Fun X.K x qual st f fd) (hb : KwOk x qual st ps ks n idx) (hn : us.length = n) (hm : ws.length = ks.length) (hr : Rm k X.A) (I : Inv X pins σ H s) (r : Vals vs us) (r2 : Vals zs ws)
    (h : spD X.K C (pick idx (vs ++ zs)) H Q (Ex0 X)) : wpAny (model X.prog X.w) X.A (call (.ref f) us (ks.zip ws)) (EP X pins σ Q) X.xe s := by
  obtain ⟨oc, od, kV, doc, pm, an, cdv, ct, osl, e, _, _⟩ := hF.ex
  have bt : BindsTo s fd ⟨us, ks.zip ws⟩ (ps.zip (pick idx (us ++ ws))) := by
    subst e
    exact .of_eq (hb kV doc pm an cdv ct us ws hn hm)
  refine wpAny_call (codeAny_mono (ret_of I (F.run X.A X.stack s H ⟨us, ks.zip ws⟩ _ _ Q (Ex0 X) hr I.env0 bt (Vals.pick (r.append r2) idx) h)) fun r s' q => ?_)
  match r, q with
  | .error er, q => exact q
  | .ok (.ret _), q => exact q
theorem ex_callK0 {x qual : Str} {st : Stmt} {ps ks : List Str} {idx : List Nat} {k : Nat} {C : CT} {p : Pos} {kws : List Keyword} (c : Cal X.prog X.w X.K X.mg X.base x qual st ps k C) (hb : KwOk x qual st ps ks 0 idx) (hr : Rm k X.A)
    (h : KX X PE μ ds kws fun zs μ1 => zs.length = ks.length ∧ C (pick idx zs) μ1 P PE) (hg : Gl X x) (hdb : (x == ("__debug__" : Str)) = false := by decide) (hall : (backToKw pos (keywordEach kws X.env)).all (·.1.isSome) = true := by rfl)
    (hks : (backToKw pos (keywordEach kws X.env)).filterMap (·.1) = ks := by rfl) (hpl : ((backTo pos (starEach [] X.env)).any (·.1) || (backToKw pos (keywordEach kws X.env)).any (·.1.isNone)) = false := by rfl) : EX X PE μ ds (.Call (.Name x p) [] kws pos) P := by
  obtain ⟨f, fd, F, hm, hF, _⟩ := c.ex
  have pe : L2.PE X (.Call (.Name x p) [] kws pos) (fun σ H Q => tUK X kws σ H fun zs H1 => zs.length = ks.length ∧ spD X.K C (pick idx zs) H1 Q (Ex0 X)) := ⟨fun pins s σ H Q I q => by
    refine wpAny_Call_Name_kw (ld_glob I hg hm ?_ hdb)
    refine PySem.W.callWith_KW0 (h₀ := X.base) I.ok.mod.kin hF.kp hall (thn (pk_U.run pos pins s σ H _ I q) fun ws s1 ⟨zs, H1, I1, rz, hl, q⟩ => ⟨I1.kIn, ?_⟩) hpl
    rw [hks]
    exact run_gk (us := []) (vs := []) F hF hb rfl (by rw [← rz.length]; exact hl) hr I1 .nil rz q⟩
  refine ex_of pe fun σ H Q ho hs kk => h.at ho hs fun vs H1 xs μ1 s1 h1 b1 n1 ⟨hl, q⟩ => ⟨by rw [n1.length]; exact hl, ?_⟩
  exact ⟨μ1, _, P, PE, h1, n1.pick idx, q, fun v H' d μ' s2 h2 n2 p2 => kk v H' d μ' (s1.trans s2) h2 n2 p2, fun Ca dd H' fs vfs μ' s2 h2 e2 n2 p2 σ' => b1.x Ca dd H' fs vfs μ' σ' s2 h2 e2 n2 p2⟩
theorem ex_callK {x qual : Str} {st : Stmt} {ps ks : List Str} {idx : List Nat} {k n : Nat} {C : CT} {p : Pos} {kws : List Keyword} (c : Cal X.prog X.w X.K X.mg X.base x qual st ps k C) (hb : KwOk x qual st ps ks n idx) (hr : Rm k X.A)
    (h : AX X PE μ ds (e :: es) fun xs μ1 => xs.length = n ∧ KX X PE μ1 ds kws fun zs μ2 => zs.length = ks.length ∧ C (pick idx (xs ++ zs)) μ2 P PE) (hg : Gl X x) (hdb : (x == ("__debug__" : Str)) = false := by decide) (hall : (backToKw pos (keywordEach kws X.env)).all (·.1.isSome) = true := by rfl)
    (hks : (backToKw pos (keywordEach kws X.env)).filterMap (·.1) = ks := by rfl) (he : starEach (e :: es) X.env = (false, eval e X.env) :: starEach es X.env := by rfl)
    (hpl : ((backTo pos (starEach (e :: es) X.env)).any (·.1) || (backToKw pos (keywordEach kws X.env)).any (·.1.isNone)) = false := by rfl) : EX X PE μ ds (.Call (.Name x p) (e :: es) kws pos) P := by
  obtain ⟨f, fd, F, hm, hF, _⟩ := c.ex
  have pe : L2.PE X (.Call (.Name x p) (e :: es) kws pos) (fun σ H Q => tUA X (e :: es) σ H fun vs H0 => vs.length = n ∧ tUK X kws σ H0 fun zs H1 => zs.length = ks.length ∧ spD X.K C (pick idx (vs ++ zs)) H1 Q (Ex0 X)) := ⟨fun pins s σ H Q I q => by
    refine wpAny_Call_Name_kw (ld_glob I hg hm ?_ hdb)
    refine PySem.W.callWith_KW (h₀ := X.base) I.ok.mod.kin hF.kp hall (thn (pa_U.run pos pins s σ H _ I q) fun us s0 ⟨vs, H0, I0, r0, hl0, q⟩ => thn (pk_U.run pos pins s0 σ H0 _ I0 q) fun ws s1 ⟨zs, H1, I1, rz, hl, q⟩ => ⟨I1.kIn, ?_⟩) hpl he
    rw [hks]
    exact run_gk F hF hb (by rw [List.nil_append, ← r0.length]; exact hl0) (by rw [← rz.length]; exact hl) hr I1 r0 rz q⟩
  refine ex_of pe fun σ H Q ho hs kk => h.at ho hs fun us H0 ys μ0 s0 h0 b0 n0 ⟨hl0, q⟩ => ⟨by rw [n0.length]; exact hl0, q.at h0 b0 fun vs H1 xs μ1 s1 h1 b1 n1 ⟨hl, q⟩ => ⟨by rw [n1.length]; exact hl, ?_⟩⟩
  exact ⟨μ1, _, P, PE, h1, ((n0.mono s1).append n1).pick idx, q, fun v H' d μ' s2 h2 n2 p2 => kk v H' d μ' ((s0.trans s1).trans s2) h2 n2 p2, fun Ca dd H' fs vfs μ' s2 h2 e2 n2 p2 σ' => b1.x Ca dd H' fs vfs μ' σ' s2 h2 e2 n2 p2⟩
end
end Hw
set_option Elab.async false
set_option linter.all false
set_option maxRecDepth 100000
set_option maxHeartbeats 1000000
namespace Hw
open PySem L2 PyProof.Rows
/-! ### what the top has written -/
structure FunAt (K : PySem.W.Frag) (x : Str) (st : Stmt) : Prop where
  ex : ∃ f fd, PySem.W.nsIn K mainGlobals x = some (some (.ref f)) ∧ Fun K x x st f fd
theorem FunAt.mk' {K : PySem.W.Frag} {x : Str} {st : Stmt} {f : Addr} {oc : Value} {od an : Option Addr} {osl : Array (Option Value)} {kV doc pm cdv ct : Value} (a : PySem.W.nsIn K mainGlobals x = some (some (.ref f)))
    (l : K.lookup f = some ⟨oc, od, .func (PySem.W.fnOf x x (defArgs st) (defBody st) (defScope st) .none kV doc pm an cdv ct), osl⟩) (c : PySem.W.codeIn K cdv x = true) (k : PySem.W.keepIn K (.ref f) = true) : FunAt K x st :=
  ⟨f, _, a, fun_mk l c k⟩
/-- how the arguments bind by place -/
def BindOk (x : Str) (st : Stmt) (ps : List Str) : Prop := ∀ (kV doc pm : Value) (an : Option Addr) (cdv ct : Value) (us : List Value), us.length = ps.length → bindArgs (PySem.W.fnOf x x (defArgs st) (defBody st) (defScope st) .none kV doc pm an cdv ct) ⟨us, []⟩ = pure (ps.zip us)
structure Tb (K : PySem.W.Frag) (mg : Str → Option Value) (base : Heap) : Prop where
  b : K.In base
  g : base.Ns mainGlobals mg
section
variable {P : Program} {w : World} {K : PySem.W.Frag} {mg : Str → Option Value} {base : Heap}
theorem Tb.non {x : Str} (T : Tb K mg base) (e : PySem.W.nsIn K mainGlobals x = some none) : mg x = none := PySem.W.mg_none_of T.b T.g e
theorem Tb.som {x : Str} {v : Value} (T : Tb K mg base) (e : PySem.W.nsIn K mainGlobals x = some (some v)) : mg x = some v := PySem.W.mg_of T.b T.g e
theorem cal_of {x : Str} {st : Stmt} {ps : List Str} {k : Nat} {C : CT} (T : Tb K mg base) (F : FunAt K x st) (hb : BindOk x st ps) (h : ∀ f fd, Fun K x x st f fd → FnG P w K mg base k f fd ps C) : Cal P w K mg base x x st ps k C := by
  obtain ⟨f, fd, a, F⟩ := F.ex
  refine ⟨f, fd, h f fd F, T.som a, F, ?_⟩
  exact F.binds fun kV doc pm an cdv ct us hl => hb kV doc pm an cdv ct us hl
theorem Cal.weak {x qual : Str} {st : Stmt} {ps : List Str} {k : Nat} {C C' : CT} (c : Cal P w K mg base x qual st ps k C) (h : ∀ xs μ R RE, C' xs μ R RE → C xs μ R RE) : Cal P w K mg base x qual st ps k C' := by
  obtain ⟨f, fd, F, a, b, d⟩ := c.ex
  exact ⟨f, fd, F.weak h, a, b, d⟩
/-- the law -/
theorem law_fn {h : Heap} {fa : Addr} {st : Stmt} {p : Str} {k : Nat} {C : CT} (T : Tb K mg h) (F : FunAt K "law" st) (hfa : mg "law" = some (.ref fa)) (hb : ∀ (kV doc pm : Value) (an : Option Addr) (cdv ct u : Value), bindArgs (PySem.W.fnOf "law" "law" (defArgs st) (defBody st) (defScope st) .none kV doc pm an cdv ct) ⟨[u], []⟩ = pure [(p, u)])
    (ok : ∀ base f fd, Tb K mg base → Fun K "law" "law" st f fd → FnG P w K mg base k f fd [p] C) :
    ∃ fd : FuncData, (∀ (s : Shared) (u : Value), BindsTo s fd ⟨[u], []⟩ [(p, u)]) ∧ ∀ base : Heap, K.In base → base.Ns mainGlobals mg → FnG P w K mg base k fa fd [p] C := by
  obtain ⟨f, fd, a, F⟩ := F.ex
  have e := hfa.symm.trans (T.som a)
  cases e
  refine ⟨fd, fun s u => ?_, fun base b g => ok base _ _ ⟨b, g⟩ F⟩
  obtain ⟨oc, od, kV, doc, pm, an, cdv, ct, osl, e, _, _⟩ := F.ex
  subst e
  exact .of_eq (hb kV doc pm an cdv ct u)
end
/-! ### isinstance of a built-in class -/
def isB (c : String) : D → Bool
  | .non => c == "NoneType"
  | .bl _ => c == "bool" || c == "int"
  | .int _ => c == "int"
  | .str _ => c == "str"
  | .tup _ => c == "tuple"
  | .lst _ => c == "list"
  | .dic _ => c == "dict"
  | _ => false
structure SubTab (K : PySem.W.Frag) (c : String) : Prop where
  m : PySem.W.kitMeta c = true
  t : ∀ t, t = "NoneType" ∨ t = "bool" ∨ t = "int" ∨ t = "str" ∨ t = "tuple" ∨ t = "list" ∨ t = "dict" → PySem.W.subIn K (.type t) (.type c) = some (t == c || (t == "bool" && c == "int"))
/-- plain data: no reference, no type, no object -/
def plainD : D → Bool
  | .non | .bl _ | .int _ | .str _ | .tup _ | .lst _ | .dic _ => true
  | _ => false
theorem SubTab.one {K : PySem.W.Frag} {c t : String} (T : SubTab K c) (h : t = "NoneType" ∨ t = "bool" ∨ t = "int" ∨ t = "str" ∨ t = "tuple" ∨ t = "list" ∨ t = "dict") : PySem.W.kitOne K (.type t) (.type c) = some (t == c || (t == "bool" && c == "int")) := by
  unfold PySem.W.kitOne PySem.W.kitCls
  by_cases e : t = c
  · subst e; simp
  · have e1 : (Value.type t == Value.type c) = false := by simpa using e
    rw [e1]
    simp only [T.m, if_true, T.t t h]
    rfl
theorem SubTab.kit {K : PySem.W.Frag} {c : String} (T : SubTab K c) (d : D) (h : plainD d = true) : ∃ t, tyD d = some t ∧ PySem.W.kitOne K t (.type c) = some (isB c d) ∧ ∀ C fs, d ≠ .obj C fs := by
  cases d <;> first | cases h | skip
  all_goals refine ⟨_, rfl, (T.one (by simp)).trans ?_, fun _ _ => by simp⟩
  all_goals simp [isB, Bool.beq_comm, eq_comm]
  all_goals rw [Bool.eq_iff_iff]; simp [eq_comm]
theorem f_isB {K : PySem.W.Frag} {c : String} {d : D} {μ : Mu} {P : DP} (T : SubTab K c) (h : plainD d = true) (k : P (.bl (isB c d)) μ) : isiOk K [d, .ty c] μ P := by
  obtain ⟨t, h1, h2, h3⟩ := T.kit d h
  exact f_isi h1 (fun C fs e => (h3 C fs e).elim) rfl h2 k
/-! ### x is True, x is False -/
section
variable {X : Cx} {PE : XP} {a : Expr} {μ : Mu} {ds : DS} {P : DP} {PT : Bool → Mu → Prop} {pos p2 : Pos} {c : Bool} {j : Option Str}
theorem ex_isB {j} (h : EX X PE μ ds a fun x μ1 => ∃ b, x = .bl b ∧ P (.bl (decide (b = c))) μ1) : EX X PE μ ds (.Compare a [.Is] [.Constant (.bool c) j p2] pos) P :=
  ex_of (pe_cmpR op_is_bl pe_U pe_bl rfl) fun σ H Q ho hs k => h.at ho hs fun v H1 x μ1 s1 h1 b1 n1 ⟨b, e, p⟩ => by
    subst e
    exact ⟨b, c, n1.inv_bl, rfl, k _ H1 _ μ1 s1 h1 (.bl _) p⟩
theorem ex_nisB {j} (h : EX X PE μ ds a fun x μ1 => ∃ b, x = .bl b ∧ P (.bl (!decide (b = c))) μ1) : EX X PE μ ds (.Compare a [.IsNot] [.Constant (.bool c) j p2] pos) P :=
  ex_of (pe_cmpR op_isnot_bl pe_U pe_bl rfl) fun σ H Q ho hs k => h.at ho hs fun v H1 x μ1 s1 h1 b1 n1 ⟨b, e, p⟩ => by
    subst e
    exact ⟨b, c, n1.inv_bl, rfl, k _ H1 _ μ1 s1 h1 (.bl _) p⟩
theorem tx_isB {j} (h : EX X PE μ ds a fun x μ1 => ∃ b, x = .bl b ∧ PT (decide (b = c)) μ1) : TX X PE μ ds (.Compare a [.Is] [.Constant (.bool c) j p2] pos) PT :=
  tx_of (pt_cmpR op_is_bl pe_U pe_bl rfl) fun σ H Q ho hs k => h.at ho hs fun v H1 x μ1 s1 h1 b1 n1 ⟨b, e, p⟩ => by
    subst e
    exact ⟨b, c, n1.inv_bl, rfl, _, rfl, k _ H1 μ1 s1 h1 p⟩
theorem tx_nisB {j} (h : EX X PE μ ds a fun x μ1 => ∃ b, x = .bl b ∧ PT (!decide (b = c)) μ1) : TX X PE μ ds (.Compare a [.IsNot] [.Constant (.bool c) j p2] pos) PT :=
  tx_of (pt_cmpR op_isnot_bl pe_U pe_bl rfl) fun σ H Q ho hs k => h.at ho hs fun v H1 x μ1 s1 h1 b1 n1 ⟨b, e, p⟩ => by
    subst e
    exact ⟨b, c, n1.inv_bl, rfl, _, rfl, k _ H1 μ1 s1 h1 p⟩
end
end Hw
set_option Elab.async false
set_option linter.all false
set_option maxRecDepth 100000
set_option maxHeartbeats 1000000
namespace Hw
open PySem L2 PyProof.Rows
/-! ### the contracts of the laws' own draws -/
/-- the draws' store -/
def SrcC (c : MD) : Prop := ∃ (ns : List Int) (i cc seed n : Int), c = .lst [.lst (ns.map .int), .int i, .int cc, .int seed, .int n] ∧ 0 ≤ i
def SrcAt (μ : Mu) (a : Addr) : Prop := ∃ c, μ a = some c ∧ SrcC c
theorem SrcAt.set {μ : Mu} {a : Addr} {c : MD} (h : SrcC c) : SrcAt (mset μ a c) a := ⟨c, mset_same, h⟩
theorem cutL_map {α : Type} (f : α → D) (l : List α) (lo hi : Option Int) : cutL (l.map f) lo hi = (cutL l lo hi).map f := by
  unfold cutL
  rw [List.length_map, ← List.map_drop, ← List.map_take]
theorem mset_comm {μ : Mu} {a b : Addr} {c d : MD} (h : a ≠ b) : mset (mset μ a c) b d = mset (mset μ b d) a c := by
  funext x
  unfold mset
  by_cases h1 : x = a
  · by_cases h2 : x = b
    · exact absurd (h1.symm.trans h2) h
    · simp [h1, h]
  · simp [h1]
theorem lt_sz {n : Nat} (h : n ≤ sizeLine) : n.log2 < 9000 := by
  rcases Nat.eq_zero_or_pos n with e | e
  · subst e; decide
  · exact (Nat.log2_lt (by omega)).mpr (Nat.lt_of_le_of_lt h (by decide +kernel))
def sourceC : CT := fun xs μ P PE => ∃ ns : List Int, xs = [.rol (ns.map .int)] ∧ ∀ a c, μ a = none → SrcC c → P (.ref a) (mset μ a c)
def drawC : CT := fun xs μ P PE => ∃ a m, xs = [.ref a, .int m] ∧ SrcAt μ a ∧ (0 < m ∧ m.natAbs.log2 < 9000) ∧ ∀ z c, 0 ≤ z → z < m → SrcC c → P (.int z) (mset μ a c)
theorem draw_i {μ : Mu} {R : DP} {PE : XP} {a : Addr} {m : Int} (sa : SrcAt μ a) (hm : 0 < m ∧ m.natAbs.log2 < 9000) (h : ∀ z c, 0 ≤ z → z < m → SrcC c → R (.int z) (mset μ a c)) : drawC [.ref a, .int m] μ R PE := ⟨a, m, rfl, sa, hm, h⟩
/-- a menu that one may draw of -/
def menuD : D → Prop
  | .lst xs => xs ≠ [] ∧ xs.length ≤ sizeLine
  | .tup xs => xs ≠ [] ∧ xs.length ≤ sizeLine
  | .str s => s.length ≠ 0 ∧ s.length ≤ sizeLine
  | _ => False
def inD (x : D) : D → Prop
  | .lst xs => x ∈ xs
  | .tup xs => x ∈ xs
  | .str s => ∃ c ∈ s.cps.toList, x = .str ⟨#[c]⟩
  | _ => False
def ofC : CT := fun xs μ P PE => ∃ a d, xs = [.ref a, d] ∧ SrcAt μ a ∧ menuD d ∧ ∀ x c, inD x d → SrcC c → P x (mset μ a c)
theorem of_i {μ : Mu} {R : DP} {PE : XP} {a : Addr} {d : D} (sa : SrcAt μ a) (hm : menuD d) (h : ∀ x c, inD x d → SrcC c → R x (mset μ a c)) : ofC [.ref a, d] μ R PE := ⟨a, d, rfl, sa, hm, h⟩
theorem atI_in {α : Type} {xs : List α} {z : Int} (h0 : 0 ≤ z) (h1 : z < (xs.length : Int)) : ∃ x ∈ xs, atI xs z = some x := by
  obtain ⟨j, rfl⟩ := Int.eq_ofNat_of_zero_le h0
  have hj : j < xs.length := by omega
  exact ⟨xs[j], List.getElem_mem hj, atI_nat (List.getElem?_eq_getElem hj)⟩
theorem len_menu {d : D} {Q : DP} {m : Mu} (h : menuD d) (k : ∀ n : Nat, 0 < n ∧ n ≤ sizeLine → (∀ (z : Int) (μ2 : Mu) (R : D → Prop), 0 ≤ z → z < n → (∀ x, inD x d → R x) → ixA μ2 d (.int z) R) → Q (.int n) m) : lenOk [d] m Q := by
  cases d with
  | lst xs =>
    refine f_lenL (k _ ⟨List.length_pos_iff.mpr h.1, h.2⟩ fun z μ2 R h0 h1 q => ?_)
    obtain ⟨x, hx, e⟩ := atI_in h0 h1
    exact i_lst e (q x hx)
  | tup xs =>
    refine f_lenT (k _ ⟨List.length_pos_iff.mpr h.1, h.2⟩ fun z μ2 R h0 h1 q => ?_)
    obtain ⟨x, hx, e⟩ := atI_in h0 h1
    exact i_tup e (q x hx)
  | str s =>
    refine f_lenS h.2 (k _ ⟨Nat.pos_of_ne_zero h.1, h.2⟩ fun z μ2 R h0 h1 q => ?_)
    obtain ⟨x, hx, e⟩ := atI_in (xs := s.cps.toList) h0 (by simpa [Str.length] using h1)
    exact i_str h.2 e (q _ ⟨x, hx, rfl⟩)
  | _ => exact h.elim
def sameC : CT := fun xs μ P PE => ∃ x y p, xs = [x, y] ∧ toPy x = some p ∧ toPy y = some p ∧ p.showable = true ∧ p.depth ≤ 60 ∧ p.shown.length ≤ sizeLine ∧ P (.bl true) μ
theorem same_i {μ : Mu} {R : DP} {PE : XP} {x y : D} {p : PyData} (h1 : toPy x = some p) (h2 : toPy y = some p) (h3 : p.showable = true) (h4 : p.depth ≤ 60) (h5 : p.shown.length ≤ sizeLine) (k : R (.bl true) μ) : sameC [x, y] μ R PE := ⟨x, y, p, rfl, h1, h2, h3, h4, h5, k⟩
/-- the law itself -/
def lawC : CT := fun xs μ P PE => ∃ ns : List Int, xs = [.rol (ns.map .int)] ∧ ns.length ≤ 63 ∧ (∀ z ∈ ns, Builtin.Int.intBits z ≤ 1048576) ∧ ∀ μ', P (.bl true) μ'
end Hw
set_option Elab.async false
set_option linter.all false
set_option maxRecDepth 100000
set_option maxHeartbeats 1000000
namespace Hw
open PySem L2 PyProof.Rows
section
variable {X : Cx} {PE : XP} {e a b c elt tg iter : Expr} {es ifs : List Expr} {μ : Mu} {ds : DS} {P : DP} {pos : Pos} {Z : Po}
/-- one turn, the block's context written out -/
def TurnB (X : Cx) (scope : Scope) (ds : DS) (own : List Nat) (tg : Expr) (ifs : List Expr) (elt : Expr) (x : D) (μ : Mu) (Q : Option D → Mu → Prop) : Prop :=
  ∀ s H C cl fp, GCX (X.blk s H scope (compEnvC scope cl C X.env) fp) μ (wipeD ds own) own tg x fun ds2 => ∀ s H C cl fp, TsX (X.blk s H scope (compEnvC scope cl C X.env) fp) noX μ ds2 ifs fun z μ1 =>
    (z = true → ∀ s H C cl fp, EX (X.blk s H scope (compEnvC scope cl C X.env) fp) noX μ1 ds2 elt fun d μ2 => Q (some d) μ2) ∧ (z = false → Q none μ1)
theorem turn_of {scope : Scope} {own : List Nat} {x : D} {Q : Option D → Mu → Prop} (h : TurnB X scope ds own tg ifs elt x μ Q) : Turn1 X scope ds own tg ifs elt x μ Q := fun X' hb => by
  obtain ⟨s, H, C, cl, fp, rfl⟩ := hb
  refine ⟨pg_imp (h s H C cl fp).pg fun v σ H Q ⟨q1, q2, q3, q4⟩ => ⟨q1, q2, q3, fun σ' ds' w1 d1 r => q4 σ' ds' w1 d1 fun X' hb => ?_⟩⟩
  obtain ⟨s, H, C, cl, fp, rfl⟩ := hb
  refine ⟨pts_imp (r s H C cl fp).pts fun σ H Q ⟨q1, q2, q3⟩ => ⟨q1, q2, fun b H' μ' s1 h1 p => q3 b H' μ' s1 h1 ⟨fun z X' hb => ?_, p.2⟩⟩⟩
  obtain ⟨s, H, C, cl, fp, rfl⟩ := hb
  exact p.1 z s H C cl fp
where
  pg_imp {X : Cx} {tg : Expr} {t t' : TG} (p : PG X tg t) (h : ∀ v σ H Q, t' v σ H Q → t v σ H Q) : PG X tg t' := ⟨fun pins s σ H v u Q I r q => p.run pins s σ H v u Q I r (h v σ H Q q)⟩
  pts_imp {X : Cx} {l : List Expr} {t t' : TT} (p : PTs X l t) (h : ∀ σ H Q, t' σ H Q → t σ H Q) : PTs X l t' := ⟨fun pins s σ H Q I q => p.run pins s σ H Q I (h σ H Q q)⟩
/-- what a comprehension that leaves the store gives -/
def LcF (X : Cx) (scope : Scope) (ds : DS) (own : List (Str × Nat)) (tg : Expr) (ifs : List Expr) (elt : Expr) (Q : List D → Mu → Prop) (xs : List D) (μ1 : Mu) : Prop :=
  xs.length ≤ sizeLine ∧ ∃ g : D → Option D, (∀ x ∈ xs, ∀ L acc, μ1 L = none → TurnB X scope ds (own.map (·.2)) tg ifs elt x (mset μ1 L (.lst acc)) fun o μ3 => o = g x ∧ μ3 = mset μ1 L (.lst acc)) ∧ Q (xs.filterMap g) μ1
theorem addO_filterMap {g : D → Option D} {xs : List D} {i : Nat} {x : D} (h : xs[i]? = some x) : addO ((xs.take i).filterMap g) (g x) = (xs.take (i + 1)).filterMap g := by
  rw [List.take_add_one, h]
  simp only [Option.toList, List.filterMap_append]
  cases e : g x <;> simp [addO, e]
theorem LcF.I {scope : Scope} {own : List (Str × Nat)} {Q : List D → Mu → Prop} {xs : List D} {μ1 : Mu} (h : LcF X scope ds own tg ifs elt Q xs μ1) : ∃ I : Nat → List D → Mu → Prop, I 0 [] μ1 ∧ xs.length ≤ sizeLine ∧
      (∀ i x acc μi L, xs[i]? = some x → I i acc μi → acc.length ≤ i → μi L = none → Turn1 X scope ds (own.map (·.2)) tg ifs elt x (mset μi L (.lst acc)) fun o μ3 => ∃ μ3', μ3 = mset μ3' L (.lst acc) ∧ μ3' L = none ∧ I (i + 1) (addO acc o) μ3') ∧
      ∀ acc μn, I xs.length acc μn → acc.length ≤ xs.length → Q acc μn := by
  obtain ⟨hl, g, step, fin⟩ := h
  refine ⟨fun i acc μi => μi = μ1 ∧ acc = (xs.take i).filterMap g, ⟨rfl, by simp⟩, hl, fun i x acc μi L hx ⟨e1, e2⟩ _ nl => ?_, fun acc μn ⟨e1, e2⟩ _ => ?_⟩
  · subst e1
    refine turn_of fun s H C cl fp => ⟨turn_of.pg_imp (step x (List.mem_of_getElem? hx) L acc nl s H C cl fp).pg fun v σ H Q ⟨q1, q2, q3, q4⟩ => ⟨q1, q2, q3, fun σ' ds' w1 d1 r => q4 σ' ds' w1 d1 fun s H C cl fp => ?_⟩⟩
    refine ⟨turn_of.pts_imp (r s H C cl fp).pts fun σ H Q ⟨q1, q2, q3⟩ => ⟨q1, q2, fun b H' μ' s1 h1 p => q3 b H' μ' s1 h1 ⟨fun z s H C cl fp => (p.1 z s H C cl fp).imp fun d μ2 ⟨e3, e4⟩ => ?_, fun z => ?_⟩⟩⟩
    · exact ⟨μi, e4, nl, rfl, by rw [e2, e3, addO_filterMap hx]⟩
    · obtain ⟨e3, e4⟩ := p.2 z
      exact ⟨μi, e4, nl, rfl, by rw [e2, e3, addO_filterMap hx]⟩
  · subst e1
    rw [e2, List.take_of_length_le (Nat.le_refl _)]
    exact fin
theorem ex_lcF {scope : Scope} (own : List (Str × Nat)) (h : IX X PE μ ds tg iter (LcF X scope ds own tg ifs elt fun ys μ' => P (.lst ys) μ')) (hc : X.calm = true) (hN : X.N.Nodup) (ok : blkC X.N X.env.scope scope own = true) (hs : ∀ x, foldedSetIterable iter X.env x = pure x := by intro _; rfl) :
    EX X PE μ ds (.ListComp elt [⟨tg, iter, ifs, 0⟩] scope pos) P := ex_lc own (ix_imp h fun xs μ1 q => q.I) hc hN (blkOk_by ok) hs
where
  ix_imp {Q Q' : List D → Mu → Prop} (x : IX X PE μ ds tg iter Q) (h : ∀ xs m, Q xs m → Q' xs m) : IX X PE μ ds tg iter Q' := ⟨⟨fun pins s σ H R I ⟨a, b, c⟩ => x.pi.run pins s σ H R I ⟨a, b, fun J H' xs μ' s1 h1 i p => c J H' xs μ' s1 h1 i (h xs μ' p)⟩⟩⟩
theorem sx_setLcF {scope : Scope} (own : List (Str × Nat)) (i : Nat) {y : Str} {py spos : Pos} (h : IX X PE μ ds tg iter (LcF X scope ds own tg ifs elt fun ys μ' => Z.nx (ds.set i (some (.lst ys))) μ')) (hc : X.calm = true) (hN : X.N.Nodup) (ok : blkC X.N X.env.scope scope own = true) (hy : X.N[i]? = some y) (hyl : X.env.scope.names.lookup y = some .local)
    (hsw : swapsWith (.ListComp elt [⟨tg, iter, ifs, 0⟩] scope pos) (some (.Name y py)) spos.line X.env = pure true := by rfl) (hs : ∀ x, foldedSetIterable iter X.env x = pure x := by intro _; rfl) : SX X PE μ ds (.Assign [.Name y py] (.ListComp elt [⟨tg, iter, ifs, 0⟩] scope pos) spos) Z :=
  sx_setLc own i (ex_lcF.ix_imp (X := X) h fun xs μ1 q => q.I) hc hN (blkOk_by ok) hy hyl hsw hs
/-- a comprehension whose turns draw: each element is as R says -/
def LcS (X : Cx) (scope : Scope) (ds : DS) (own : List (Str × Nat)) (tg : Expr) (elt : Expr) (s : Addr) (R : D → Prop) (Q : List D → Mu → Prop) (xs : List D) (μ1 : Mu) : Prop :=
  xs.length ≤ sizeLine ∧ ∃ μ0 c0, μ1 = mset μ0 s c0 ∧ SrcC c0 ∧ (∀ x ∈ xs, ∀ L acc c, SrcC c → TurnB X scope ds (own.map (·.2)) tg [] elt x (mset (mset μ0 L (.lst acc)) s c) fun o μ3 => ∃ d c', o = some d ∧ R d ∧ SrcC c' ∧ μ3 = mset (mset μ0 L (.lst acc)) s c') ∧
    ∀ ys c, ys.length = xs.length → (∀ y ∈ ys, R y) → SrcC c → Q ys (mset μ0 s c)
theorem LcS.I {scope : Scope} {own : List (Str × Nat)} {s : Addr} {R : D → Prop} {Q : List D → Mu → Prop} {xs : List D} {μ1 : Mu} (h : LcS X scope ds own tg elt s R Q xs μ1) : ∃ I : Nat → List D → Mu → Prop, I 0 [] μ1 ∧ xs.length ≤ sizeLine ∧
      (∀ i x acc μi L, xs[i]? = some x → I i acc μi → acc.length ≤ i → μi L = none → Turn1 X scope ds (own.map (·.2)) tg [] elt x (mset μi L (.lst acc)) fun o μ3 => ∃ μ3', μ3 = mset μ3' L (.lst acc) ∧ μ3' L = none ∧ I (i + 1) (addO acc o) μ3') ∧
      ∀ acc μn, I xs.length acc μn → acc.length ≤ xs.length → Q acc μn := by
  obtain ⟨hl, μ0, c0, rfl, hc0, step, fin⟩ := h
  refine ⟨fun i acc μi => acc.length = i ∧ (∀ y ∈ acc, R y) ∧ ∃ c, SrcC c ∧ μi = mset μ0 s c, ⟨rfl, by simp, c0, hc0, rfl⟩, hl, fun i x acc μi L hx ⟨e1, e2, c, hc, e3⟩ _ nl => ?_, fun acc μn ⟨e1, e2, c, hc, e3⟩ _ => ?_⟩
  · subst e3
    have ne : L ≠ s := by rintro rfl; rw [mset_same] at nl; cases nl
    rw [mset_comm (Ne.symm ne)]
    refine turn_of fun t H C cl fp => ⟨turn_of.pg_imp (step x (List.mem_of_getElem? hx) L acc c hc t H C cl fp).pg fun v σ H Q ⟨q1, q2, q3, q4⟩ => ⟨q1, q2, q3, fun σ' ds' w1 d1 r => q4 σ' ds' w1 d1 fun t H C cl fp => ?_⟩⟩
    have fin2 : ∀ o μ3, (∃ d c', o = some d ∧ R d ∧ SrcC c' ∧ μ3 = mset (mset μ0 L (.lst acc)) s c') → ∃ μ3', μ3 = mset μ3' L (.lst acc) ∧ μ3' L = none ∧ (addO acc o).length = i + 1 ∧ (∀ y ∈ addO acc o, R y) ∧ ∃ c, SrcC c ∧ μ3' = mset μ0 s c := by
      rintro o μ3 ⟨d, c', rfl, rd, hc', e4⟩
      refine ⟨mset μ0 s c', by rw [e4, mset_comm ne], by rw [mset_ne ne] at nl ⊢; exact nl, by simp [addO, e1], fun y hy => ?_, c', hc', rfl⟩
      rcases List.mem_append.mp hy with z | z
      · exact e2 y z
      · rw [List.mem_singleton.mp z]; exact rd
    refine ⟨turn_of.pts_imp (r t H C cl fp).pts fun σ H Q ⟨q1, q2, q3⟩ => ⟨q1, q2, fun b H' μ' s1 h1 p => q3 b H' μ' s1 h1 ⟨fun z t H C cl fp => (p.1 z t H C cl fp).imp fun d μ2 q => fin2 _ _ q, fun z => fin2 _ _ (p.2 z)⟩⟩⟩
  · subst e3
    exact fin acc c e1 e2 hc
theorem ex_lcS {scope : Scope} (own : List (Str × Nat)) (s : Addr) (R : D → Prop) (h : IX X PE μ ds tg iter (LcS X scope ds own tg elt s R fun ys μ' => P (.lst ys) μ')) (hc : X.calm = true) (hN : X.N.Nodup) (ok : blkC X.N X.env.scope scope own = true) (hs : ∀ x, foldedSetIterable iter X.env x = pure x := by intro _; rfl) :
    EX X PE μ ds (.ListComp elt [⟨tg, iter, [], 0⟩] scope pos) P := ex_lc own (ex_lcF.ix_imp h fun xs μ1 q => q.I) hc hN (blkOk_by ok) hs
theorem sx_setLcS {scope : Scope} (own : List (Str × Nat)) (s : Addr) (R : D → Prop) (i : Nat) {y : Str} {py spos : Pos} (h : IX X PE μ ds tg iter (LcS X scope ds own tg elt s R fun ys μ' => Z.nx (ds.set i (some (.lst ys))) μ')) (hc : X.calm = true) (hN : X.N.Nodup) (ok : blkC X.N X.env.scope scope own = true) (hy : X.N[i]? = some y) (hyl : X.env.scope.names.lookup y = some .local)
    (hsw : swapsWith (.ListComp elt [⟨tg, iter, [], 0⟩] scope pos) (some (.Name y py)) spos.line X.env = pure true := by rfl) (hs : ∀ x, foldedSetIterable iter X.env x = pure x := by intro _; rfl) : SX X PE μ ds (.Assign [.Name y py] (.ListComp elt [⟨tg, iter, [], 0⟩] scope pos) spos) Z :=
  sx_setLc own i (ex_lcF.ix_imp (X := X) h fun xs μ1 q => q.I) hc hN (blkOk_by ok) hy hyl hsw hs
end
theorem fm_some {α β : Type} (f : α → β) (xs : List α) : xs.filterMap (fun x => some (f x)) = xs.map f := by
  induction xs with
  | nil => rfl
  | cons a r ih => simp
theorem f_allM {xs : List D} {b : D → Bool} {P : DP} {μ : Mu} (h : P (.bl (xs.all b)) μ) : allOk [.lst (xs.filterMap fun d => some (.bl (b d)))] μ P :=
  ⟨xs.map b, by rw [fm_some, List.map_map]; rfl, by rw [List.all_map]; exact h⟩
theorem f_anyM {xs : List D} {b : D → Bool} {P : DP} {μ : Mu} (h : P (.bl (xs.any b)) μ) : anyOk [.lst (xs.filterMap fun d => some (.bl (b d)))] μ P :=
  ⟨xs.map b, by rw [fm_some, List.map_map]; rfl, by rw [List.any_map]; exact h⟩
theorem draw_m {μ : Mu} {R : DP} {PE : XP} {a : Addr} {m : Int} {c0 : MD} (hc : SrcC c0) (hm : 0 < m ∧ m.natAbs.log2 < 9000) (h : ∀ z c, 0 ≤ z → z < m → SrcC c → R (.int z) (mset μ a c)) : drawC [.ref a, .int m] (mset μ a c0) R PE :=
  draw_i (.set hc) hm fun z c h0 h1 h2 => by rw [mset_mset]; exact h z c h0 h1 h2
theorem of_m {μ : Mu} {R : DP} {PE : XP} {a : Addr} {d : D} {c0 : MD} (hc : SrcC c0) (hm : menuD d) (h : ∀ x c, inD x d → SrcC c → R x (mset μ a c)) : ofC [.ref a, d] (mset μ a c0) R PE :=
  of_i (.set hc) hm fun x c h1 h2 => by rw [mset_mset]; exact h x c h1 h2
theorem source_i {μ : Mu} {R : DP} {PE : XP} {ns : List Int} (h : ∀ a c, μ a = none → SrcC c → R (.ref a) (mset μ a c)) : sourceC [.rol (ns.map .int)] μ R PE := ⟨ns, rfl, h⟩
theorem same_b {μ : Mu} {R : DP} {PE : XP} {b c : Bool} (e : b = c) (k : R (.bl true) μ) : sameC [.bl b, .bl c] μ R PE := by
  subst e
  exact same_i rfl rfl rfl (by cases b <;> decide) (by cases b <;> decide +kernel) k
theorem lg {m : Int} (h0 : 0 < m) (h1 : m < 2 ^ 200) : 0 < m ∧ m.natAbs.log2 < 9000 :=
  ⟨h0, Nat.lt_trans ((Nat.log2_lt (by omega)).mpr (by omega : m.natAbs < 2 ^ 200)) (by decide)⟩
/-! ### texts -/
theorem cps_app (a b : Str) : (a ++ b).cps.toList = a.cps.toList ++ b.cps.toList := Array.toList_append
theorem str_ext {a b : Str} (h : a.cps.toList = b.cps.toList) : a = b := by
  cases a; cases b
  simp only [Str.mk.injEq]
  exact Array.toList_inj.mp h
theorem joinL_nil : ∀ cs : List Nat, TL.joinL [] (cs.map fun c => [c]) = cs
  | [] => rfl
  | [c] => rfl
  | c :: d :: r => by
    show [c] ++ [] ++ TL.joinL [] ((d :: r).map fun c => [c]) = _
    rw [joinL_nil]
    simp
theorem chars_join {ys : List D} {n : Nat} {p : Nat → Prop} {K : Str → Prop} (hl : ys.length = n) (hy : ∀ y ∈ ys, ∃ c, p c ∧ y = .str ⟨#[c]⟩) (hn : n ≤ 16777216) (k : ∀ cs : List Nat, (∀ c ∈ cs, p c) → cs.length = n → K ⟨cs.toArray⟩) : joinOk "" (.lst ys) K := by
  have h : ∃ cs : List Nat, (∀ c ∈ cs, p c) ∧ cs.length = ys.length ∧ ys = cs.map fun c => D.str ⟨#[c]⟩ := by
    clear hl k
    induction ys with
    | nil => exact ⟨[], by simp, rfl, rfl⟩
    | cons y r ih =>
      obtain ⟨cs, h1, h2, h3⟩ := ih fun z hz => hy z (List.mem_cons_of_mem _ hz)
      obtain ⟨c, hc, e⟩ := hy y List.mem_cons_self
      exact ⟨c :: cs, fun z hz => by rcases List.mem_cons.mp hz with q | q; rw [q]; exact hc; exact h1 z q, by simp [h2], by rw [e, h3]; rfl⟩
  obtain ⟨cs, h1, h2, h3⟩ := h
  have e0 : ("" : Str) = _root_.SX.S [] := rfl
  have e1 : (cs.map fun c => (⟨#[c]⟩ : Str)) = (cs.map fun c => [c]).map _root_.SX.S := by rw [List.map_map]; rfl
  refine ⟨cs.map fun c => ⟨#[c]⟩, .inl (by rw [h3, List.map_map]; rfl), ?_, ?_⟩
  · have : ((cs.map fun c => (⟨#[c]⟩ : Str)).map (·.length)).sum = cs.length := by
      rw [List.map_map]
      clear h1 h2 h3 e1
      induction cs with
      | nil => rfl
      | cons c r ih => rw [List.map_cons, List.sum_cons, ih, List.length_cons]; show 1 + _ = _; omega
    rw [this]
    have z : ("" : Str).length = 0 := rfl
    rw [z]
    omega
  · rw [e0, e1, _root_.SX.join_S, joinL_nil]
    exact k cs h1 (by omega)
theorem mem_rngD {lo : Int} {n : Nat} {x : D} (h : x ∈ rngD lo n) : ∃ i : Nat, i < n ∧ x = .int (lo + i) := by
  unfold rngD at h
  obtain ⟨i, hi, e⟩ := List.mem_map.mp h
  exact ⟨i, List.mem_range.mp hi, e.symm⟩
theorem mem_signs {s : Str} {x : D} (h : x ∈ signs s) : ∃ c ∈ s.cps.toList, x = .str ⟨#[c]⟩ := by
  unfold signs at h
  obtain ⟨i, hi, e⟩ := List.mem_map.mp h
  exact ⟨i, hi, e.symm⟩
theorem rngD_len {lo : Int} {n : Nat} : (rngD lo n).length = n := by simp [rngD]
theorem signs_len {s : Str} : (signs s).length = s.length := by simp [signs, Str.length]
end Hw
set_option Elab.async false
set_option linter.all false
set_option maxRecDepth 100000
set_option maxHeartbeats 1000000
namespace Hw
open PySem L2 PyProof.Rows PySem.Spec
/-! ### an own exception's __init__ that says super().__init__(text) -/
abbrev supEnv (qual : Str) (scope : Scope) (L f cda cc : Addr) : Env := PySem.W.ksEnv qual scope L f (.ref cda) cc
/-- the context of such an __init__ -/
def supCx (P : Program) (w : World) (K : PySem.W.Frag) (mg : Str → Option Value) (base : Heap) (N : List Str) (qual : Str) (scope : Scope) (f cda cc : Addr) (A : Around) (outer : List Env) (s : Shared) (H : Hp) (E : XK) : Cx :=
  { cxOf (L2.CX P w) P w K mg base N qual scope f (.ref cda) A outer s H E with
    A := A.deeper (supEnv qual scope s.heap.objs.size f cda cc)
    env := supEnv qual scope s.heap.objs.size f cda cc
    stack := supEnv qual scope s.heap.objs.size f cda cc :: outer
    fn := fun _ => false
    xe := fun e s' => wpAny (model P w) (A.deeper (supEnv qual scope s.heap.objs.size f cda cc)) (leaving (supEnv qual scope s.heap.objs.size f cda cc) e) (fun _ s'' => L2.CX P w outer H s E e s'') (fun e' s'' => L2.CX P w outer H s E e' s'') s' }
/-- its names -/
structure SupScope (N ps : List Str) (sc : Scope) : Prop where
  kind : sc.kind = .function
  co : sc.isCoroutine = false
  gen : sc.isGenerator = false
  nd : N.Nodup
  pre : N.take ps.length = ps
  par : ∀ x ∈ ps, sc.names.lookup x = some .local
  only : ∀ y ∈ sc.names, y.2 ≠ .cell
  free : ∀ y ∈ sc.names, y.2 = .free → y.1 = "__class__"
  sup : sc.names.lookup ("super" : Str) = some .globalImplicit
  cls : sc.names.lookup ("__class__" : Str) = some .free
theorem zip_fst {α β : Type} : ∀ (a : List α) (b : List β), (a.zip b).map (·.1) = a.take b.length
  | [], _ => by simp
  | _ :: _, [] => by simp
  | x :: a, y :: b => by simp [zip_fst a b]
section
variable {P : Program} {w : World} {K : PySem.W.Frag} {mg : Str → Option Value} {base : Heap} {N ps : List Str} {qual : Str} {scope : Scope} {f cda cc : Addr} {A : Around} {outer : List Env} {s : Shared} {H : Hp} {E : XK} {us : List Value} {vs : List V}
theorem sup_start {h₁ : Heap} {tk : Nat} {D : Value} {cl : Value} {cld : Option Addr} {csl : Array (Option Value)} (S : SupScope N ps scope) (hd : A.handled = none) (e0 : Env0 P w K mg base A outer s H) (hl : vs.length = ps.length) (r : Vals vs us)
    (hcell : K.lookup cc = some ⟨cl, cld, .cell (some D), csl⟩) (hns : h₁.Ns s.heap.objs.size (fun x => (ps.zip us).reverse.lookup x)) (hk : ∀ b o, s.heap.get? b = some o → h₁.get? b = some o) :
    Inv (supCx P w K mg base N qual scope f cda cc A outer s H E) [] (L2.start N vs) H { s with heap := h₁, toks := tk } := by
  have hpl : ps.length ≤ N.length := by have := congrArg List.length S.pre; rw [List.length_take] at this; omega
  have noA : ∀ b : Addr, b ∉ (supCx P w K mg base N qual scope f cda cc A outer s H E).ex := fun b z => absurd (show b ∈ ([] : List Addr) from z) (by simp)
  have hb := e0.mod.kin cc _ hcell
  have look : ∀ {y : Str} {c : Addr}, ([("__class__", cc)] : List (Str × Addr)).lookup y = some c → y = "__class__" ∧ c = cc := fun {y c} e => by
    rw [List.lookup_cons] at e
    cases q : y == ("__class__" : Str) with
    | true => rw [q] at e; exact ⟨by simpa using q, (Option.some.inj e).symm⟩
    | false => rw [q] at e; cases e
  refine ⟨⟨e0.mod, S.kind, rfl, rfl, Nat.le_refl _, fun y z c h1 h2 => (look h1).1.trans (look h2).1.symm, fun y hy => ?_, fun y c z _ => ?_, fun _ => hd, Around.frames_deeper e0.frames, .inr ⟨rfl, rfl⟩, fun b z => absurd z (noA b), e0.bs, e0.bsz, fun b _ _ => noA b, fun b z => absurd z (noA b), e0.funs, e0.frf⟩,
    rfl, e0.bare, Un.kept hk, ⟨_, hns, fun i y v h1 h2 h3 => ?_⟩, fun y c h => ?_, e0.hok.fresh (Nat.le_refl _), fun y c h => ?_, fun p hp => absurd (show p ∈ ([] : List (Addr × Obj)) from hp) (by simp), e0.hok.kept hk, ?_⟩
  · have hy : scope.names.lookup y = some .cell ∨ scope.names.lookup y = some .free := hy
    rcases hy with hy | hy
    · exact absurd rfl (S.only _ (PySem.mem_of_lookup hy))
    · have e := S.free _ (PySem.mem_of_lookup hy) rfl
      have e : y = "__class__" := e
      subst e
      exact ⟨cc, rfl⟩
  · have z : false = true := z
    cases z
  · have hi : i < vs.length := by
      unfold L2.start at h2
      by_cases hi : i < vs.length
      · exact hi
      · rw [List.getElem?_append_right (by simpa using hi)] at h2
        rw [List.getElem?_replicate] at h2
        split at h2 <;> cases h2
    have ha : vs[i]? = some v := by
      unfold L2.start at h2
      rw [List.getElem?_append_left (by simpa using hi), List.getElem?_map] at h2
      cases e : vs[i]? with
      | none => rw [e] at h2; cases h2
      | some a => rw [e] at h2; cases h2; rfl
    obtain ⟨u, hu, rv⟩ := r.get ha
    have hp : ps[i]? = some y := by
      rw [← S.pre, List.getElem?_take_of_lt (by omega)]; exact h1
    have ndP : ps.Nodup := by rw [← S.pre]; exact S.nd.sublist (List.take_sublist _ _)
    refine ⟨u, rv, .inl ⟨S.par y (List.mem_of_getElem? hp), ?_⟩⟩
    have hm : (y, u) ∈ ps.zip us := by
      exact List.mem_of_getElem? (i := i) (by rw [List.getElem?_zip_eq_some]; exact ⟨hp, hu⟩)
    have nd2 : ((ps.zip us).map (·.1)).Nodup := by
      rw [zip_fst]
      exact ndP.sublist (List.take_sublist _ _)
    have key : ∀ l : List (Str × Value), (l.map (·.1)).Nodup → (y, u) ∈ l → l.lookup y = some u := by
      intro l
      induction l with
      | nil => intro _ q; simp at q
      | cons p q ih =>
        intro n m
        obtain ⟨a, b⟩ := p
        rw [List.map_cons, List.nodup_cons] at n
        rw [List.lookup_cons]
        rcases List.mem_cons.mp m with e | e
        · cases e
          simp
        · have : (y == a) = false := by
            have : y ≠ a := fun z => n.1 (by rw [← z]; exact List.mem_map_of_mem (f := (·.1)) e)
            simpa using this
          rw [this]
          exact ih n.2 e
    show (ps.zip us).reverse.lookup y = some u
    rw [lookup_reverse_of_nodup _ nd2]
    exact key _ nd2 hm
  · obtain ⟨_, e⟩ := look h
    subst e
    exact ⟨_, _, hk _ _ (e0.bs _ _ hb).1, rfl⟩
  · obtain ⟨_, e⟩ := look h
    subst e
    exact (e0.bs _ _ hb).2
  · unfold L2.start
    show _ = N.length
    rw [List.length_append, List.length_map, List.length_replicate]
    omega
end
end Hw
set_option Elab.async false
set_option linter.all false
set_option maxRecDepth 100000
set_option maxHeartbeats 1000000
namespace Hw
open PySem L2 PyProof.Rows PySem.Spec
/-- what the program's head says -/
structure PF (P : Program) : Prop where
  top : (P.main.scope.names.lookup ("super" : Str)).isSome = false
/-- a class of the family of ValueError, its __init__ with super() -/
structure SupCls (P : Program) (K : PySem.W.Frag) (D : Addr) : Prop where
  ex : OexC K D
  cls : ∃ cd, PySem.W.clsIn K D = some cd
  mro : PySem.W.mroIn K D (.ref D) = some true
  sup : PySem.W.ks_superIn K D D "__init__" = some (some (.builtin "ValueError.__init__"))
  isV : PySem.W.subIn K (.ref D) (.type "ValueError") = some true
  any : PySem.W.nsIn K cStatics "thirdparty.any" = some none
  blt : PySem.W.nsIn K mainGlobals "super" = some none
  nc : PySem.W.findIn K (.ref D) "code" = some none
/-- its function's object -/
structure SupFn (P : Program) (K : PySem.W.Frag) (qual : Str) (st : Stmt) (D : Addr) (f : Addr) (fd : FuncData) (cda cc : Addr) : Prop where
  ex : ∃ (oc ccl cl kV doc pm ct : Value) (od cdd cld an : Option Addr) (osl ccs csl : Array (Option Value)) (vs : Array Value) (file : Str) (tf : Tok),
    fd = PySem.W.ksFn "__init__" qual (defArgs st) (defBody st) (defScope st) .none kV doc pm an (.ref cda) ct cc ∧ K.lookup f = some ⟨oc, od, .func fd, osl⟩ ∧ PySem.W.codeIn K (.ref cda) qual = true ∧
      K.lookup cda = some ⟨ccl, cdd, .fields vs, ccs⟩ ∧ vs[2]? = some (.str file tf) ∧ ((P.main.file : Str) == file) = true ∧ K.lookup cc = some ⟨cl, cld, .cell (some (.ref D)), csl⟩
section
variable {P : Program} {w : World} {K : PySem.W.Frag} {mg : Str → Option Value} {base : Heap} {N ps : List Str} {qual : Str} {f cda cc D : Addr} {fd : FuncData} {st : Stmt} {k : Nat}
/-- the spec: the object under way, then what the rest of the body makes -/
def spSup (K : PySem.W.Frag) (D : Addr) (N : List Str) (n : Nat) (t : TS) : Sp := fun vs H Q _ => ∃ a ws, vs = .ref a :: ws ∧ vs.length = n ∧ H a = some (exo a D none) ∧ t { nx := fun _ H' => Q .non H', rt := Q } (L2.start N vs) H
theorem fn_sup {rest : List Stmt} {t : TS} {p0 p1 p2 p3 p4 p5 : Pos} {text : Str} {pl : Sem Bool} (pf : PF P) (C : SupCls P K D) (F : SupFn P K qual st D f fd cda cc) (S : SupScope N ps (defScope st)) (hp0 : ps.head? = some ("self" : Str)) (har : ∃ ar : Arg, ((defArgs st).posonlyargs ++ (defArgs st).args).head? = some ar ∧ ar.arg = "self")
    (hbody : defBody st = .Expr (.Call (.Attribute (.Call (.Name "super" p0) [] [] p1) "__init__" p2) [.Constant (.str text) 0 p3] [] p4) p5 :: rest)
    (hev : ∀ L : Addr, eval (.Call (.Attribute (.Call (.Name "super" p0) [] [] p1) "__init__" p2) [.Constant (.str text) 0 p3] [] p4) (supEnv qual (defScope st) L f cda cc) = (do
      let ov ← attributeBase (.Call (.Name "super" p0) [] [] p1) "__init__" (supEnv qual (defScope st) L f cda cc) (eval (.Call (.Name "super" p0) [] [] p1) (supEnv qual (defScope st) L f cda cc))
      standAt p2.atName
      let (g0, first) ← holding [ov] (getMethod ov "__init__" pl)
      callWith p4 g0 first (backTo p4 (starEach [.Constant (.str text) 0 p3] (supEnv qual (defScope st) L f cda cc))) []))
    (hrest : ∀ (A : Around) (outer : List Env) (s : Shared) (H : Hp) (E : XK), PSs (supCx P w K mg base N qual (defScope st) f cda cc A outer s H E) rest t) :
    FnOk P w K mg base (L2.CX P w) (k + 1) f fd ps (spSup K D N ps.length t) := by
  refine ⟨fun vs H Q E ⟨a, ws, e, l, _⟩ => l, fun A outer s H args us vs Q E hr e0 hb r ⟨a, ws, ev, hl, ea, ht⟩ => ?_⟩
  obtain ⟨oc, ccl, cl, kV, doc, pm, ct, od, cdd, cld, an, osl, ccs, csl, cvs, file, tf, rfl, lk, hcd, hco, hv2, hfile, hcell⟩ := F.ex
  have KX : K.In s.heap := e0.mod.kin.keeps fun b o e => (e0.bs b o e).1
  have lim : s.heap.NoLimit := e0.mod.nolimit.keeps fun b o e => (e0.bs b o e).1
  refine PySem.ks_codeAny_call_defAt (fd := PySem.W.ksFn "__init__" qual (defArgs st) (defBody st) (defScope st) .none kV doc pm an (.ref cda) ct cc) (body := defBody st) hr.depth (KX _ _ lk) rfl lim (PySem.W.codeRec_of KX hcd) rfl hb S.only (fun y hy => S.par y.1 (List.of_mem_zip hy).1) (fun h₁ hns hk₁ => ?_) S.co S.gen S.kind
  have I : Inv (supCx P w K mg base N qual (defScope st) f cda cc A outer s H E) [] (L2.start N vs) H { s with heap := h₁, toks := s.toks + (ps.zip us).length } := sup_start S hr.hd e0 hl r hcell hns hk₁
  have fin : ∀ {s' : Shared}, wpAny (model P w) (A.deeper (supEnv qual (defScope st) s.heap.objs.size f cda cc)) (execs rest (supEnv qual (defScope st) s.heap.objs.size f cda cc)) (SP (supCx P w K mg base N qual (defScope st) f cda cc A outer s H E) [] { nx := fun _ H' => Q .non H', rt := Q }) ((supCx P w K mg base N qual (defScope st) f cda cc A outer s H E).xe) s' →
      _root_.PySem.wpAt (model P w) (A.deeper (supEnv qual (defScope st) s.heap.objs.size f cda cc)) (.func (defBody st) (supEnv qual (defScope st) s.heap.objs.size f cda cc)) (execs rest (supEnv qual (defScope st) s.heap.objs.size f cda cc)) (fun fl s' => (CR (L2.CX P w) outer P w H s Q E) (.ok (.ret (match fl with | .ret v => v | _ => .none))) s')
        (fun e s' => wpAny (model P w) (A.deeper (supEnv qual (defScope st) s.heap.objs.size f cda cc)) (leaving (supEnv qual (defScope st) s.heap.objs.size f cda cc) e) (fun _ s'' => (CR (L2.CX P w) outer P w H s Q E) (.error e) s'') (fun e' s'' => (CR (L2.CX P w) outer P w H s Q E) (.error e') s'') s') s' := fun {s'} h => by
    refine wpAt_of_wpAny (wpAny_mono h (fun fl s' hs => ?_) fun e s' hs => hs)
    have fin : ∀ {σ' : L2.St} {H' : Hp} {v : V} {u : Value}, Inv (supCx P w K mg base N qual (defScope st) f cda cc A outer s H E) [] σ' H' s' → L2.RelV v u → Q v H' → CE outer P w H s Q u s' :=
      fun {σ' H' v u} J rv q => ⟨v, H', J.os, J.bare, J.base, J.hok, rv, q⟩
    cases fl with
    | ret u =>
      obtain ⟨v, σ', H', J, rv, q⟩ := hs
      exact fin J rv q
    | next =>
      obtain ⟨σ', H', J, q⟩ := hs
      exact fin (v := V.non) (u := Value.none) J rfl q
    | brk =>
      obtain ⟨_, _, _, q⟩ := hs
      exact False.elim q
    | cont =>
      obtain ⟨_, _, _, q⟩ := hs
      exact False.elim q
  rw [hbody]
  obtain ⟨t1, hx⟩ := exo_at I.hok ea
  have X1 : K.In h₁ := I.kIn
  obtain ⟨cd, hcd2⟩ := C.cls
  obtain ⟨oD, hD1, hD2⟩ : ∃ oD, h₁.get? D = some oD ∧ oD.data = .cls cd := by
    have hcd3 := hcd2
    unfold PySem.W.clsIn at hcd3
    split at hcd3
    · rename_i c d cd' sl ho
      cases hcd3
      exact ⟨_, X1 _ _ ho, rfl⟩
    · cases hcd3
  obtain ⟨ar, har1, har2⟩ := har
  have hself : N[0]? = some ("self" : Str) := by
    have e : (N.take ps.length)[0]? = some ("self" : Str) := by rw [S.pre, ← List.head?_eq_getElem?]; exact hp0
    cases N with
    | nil => simp at e
    | cons n0 N' =>
      cases ps with
      | nil => cases hp0
      | cons p0' ps' => simpa using e
  have hps : ("self" : Str) ∈ ps := by
    cases ps with
    | nil => cases hp0
    | cons p0' ps' =>
      simp only [List.head?_cons, Option.some.injEq] at hp0
      rw [hp0]
      exact List.mem_cons_self
  subst ev
  obtain ⟨mL, hnL, hlL⟩ := id I.loc
  obtain ⟨uself, ruself, hlook⟩ := hlL 0 "self" (.ref a) hself rfl (.inl (S.par _ hps))
  obtain rfl : uself = Value.ref a := ruself
  have hmL : mL "self" = some (.ref a) := by
    rcases hlook with ⟨_, e⟩ | ⟨e, _⟩
    · exact e
    · have e0 : (defScope st).names.lookup ("self" : Str) = some .local := S.par _ hps
      rcases e with e | e <;> (have e : (defScope st).names.lookup ("self" : Str) = _ := e; rw [e0] at e; cases e)
  refine PySem.ks_wpAt_execs_cons (PySem.ks_wpAt_Expr_any (PySem.ks_wpAt_MethodCall (PySem.ks_wpAt_super_base (env := supEnv qual (defScope st) s.heap.objs.size f cda cc) S.sup S.cls (by decide) rfl (X1 _ _ lk) rfl har1 rfl (X1 _ _ hco) rfl hv2 hfile pf.top ?_) (hev _)) (by show interactive (supEnv qual (defScope st) s.heap.objs.size f cda cc) = false; unfold interactive; rw [show (supEnv qual (defScope st) s.heap.objs.size f cda cc).scope.kind = .function from S.kind]; rfl))
  obtain ⟨mb, hb1, hb2⟩ := I.mod.blt
  refine PySem.W.ks_loadName_global S.kind S.sup (Calls.loadGlobal_builtin (I.mod.glob.keeps I.bk) (PySem.W.mg_none_of I.mod.kin I.mod.glob C.blt) (hb1.keeps I.bk) ((hb2 "super" (by decide)).trans (by first | rfl | kernel_rfl)) ⟨rfl, ?_⟩)
  refine wpAny_loadName_free S.kind S.cls rfl ⟨_, X1 _ _ hcell, rfl⟩ ?_
  rw [har2]
  refine wpAny_loadName_local S.kind (S.par _ hps) hnL hmL ?_
  refine ks_wpAny_isType_cls hD1 hD2 ⟨rfl, ?_⟩
  refine ks_wpAny_call_super hD1 hD2 hx rfl (fun c e => by cases e) (PySem.W.looks_mroIn X1 C.mro) (fun h2 e2 k2 => ?_)
  have X2 : K.In h2 := X1.keeps k2
  have hx2 := k2 _ _ hx
  have hI : PySem.W.Looks (model P w) h2 (isInstance (.ref a) (.type "ValueError")) true := by
    have J : PySem.W.InstAt h2 a _ D none := ⟨hx2, rfl, rfl, trivial⟩
    exact J.type.andThen (PySem.W.looks_subIn X2 C.isV)
  have hne : a ≠ D := PySem.W.ks_ne (odx := none) X1 ⟨hx, rfl, rfl, trivial⟩ hcd2
  have hal : PySem.W.alongIn K "__init__" ((cd.mro.dropWhile (· != .ref D)).drop 1) = some (some (.builtin "ValueError.__init__")) := by
    have q := C.sup
    unfold PySem.W.ks_superIn at q
    rw [hcd2] at q
    exact q
  refine PySem.W.kxs_getMethod PySem.W.kxs_ValueError e2 (PySem.W.looks_opaque X2 C.any) (l₀ := cd.mro) (fun A Q E s k q => wpAny_bind ((PySem.W.looks_clsIn X2 hcd2) A _ E s k (wpAny_pure q))) rfl X2 hal hI hne (by decide) ?_
  have k3 : ∀ b o, h₁.get? b = some o → (h2.push (PySem.W.kxs_mw "ValueError.__init__" a)).get? b = some o := fun b o e => Heap.get?_push_of_some _ (k2 b o e)
  have hu3 : (h2.push (PySem.W.kxs_mw "ValueError.__init__" a)).get? h2.objs.size = some (PySem.W.kxs_mw "ValueError.__init__" a) := Heap.get?_push_at rfl rfl
  have I3 : Inv (supCx P w K mg base N qual (defScope st) f cda cc A outer s H E) [] (L2.start N (.ref a :: ws)) H ⟨h2.push (PySem.W.kxs_mw "ValueError.__init__" a), s.gens, s.drawn, s.toks + (ps.zip us).length + 1, s.os⟩ := I.kept k3
  obtain ⟨nm, q, N0, bs, bm, sn, sub, ab, col, dd, k0, k1, kk2, kk3, k5, hC, hbm⟩ := C.ex.cls
  have hC3 := I3.kIn _ _ hC
  obtain ⟨t3, hx3⟩ := exo_at I3.hok ea
  refine PySem.W.kxs_callWith (i := "ValueError.__init__") (x := a) rfl ?_
  refine Calls.evalArgs_plain (Calls.spliced_cons (wpAny_Constant_str (k := 0) (pos := p3) (Calls.spliced_nil ⟨hu3, ?_⟩)))
  have FB := PySem.F.excBase_ValueError
  refine wpAny_call (codeAny_of_tree ?_)
  show wpAny _ (A.deeper (supEnv qual (defScope st) s.heap.objs.size f cda cc)).in1 (callAny (.ref h2.objs.size) ⟨[.str text _], []⟩) _ _ _
  simp only [callAny]
  refine wpAny_bind (wpAny_load hu3 ?_)
  simp only [PySem.W.kxs_mw, show (Value.type "method-wrapper" == Value.type "method" || Value.type "method-wrapper" == Value.type "builtin_function_or_method" || Value.type "method-wrapper" == Value.type "method-wrapper") = true by decide, if_true]
  refine PySem.W.KFB.if_so (by decide) ?_
  refine wpAny_bind (PySem.W.check_bound_init FB.toExcCallFacts hC3 hx3 rfl ?_)
  refine wpAny_bind (wpAny_pure (wpAny_pure ?_))
  refine ⟨plainId_quiet FB.init.plain _, codeAny_builtin FB.initEntry ?_⟩
  refine PySem.W.exc_init_tree (cls := .ref D) (t0 := t3) (dv := none) (c2 := .none) (c3 := .none) (b4 := .bool false) hx3 (by rw [sizeLine_eq]; exact Nat.le_of_ble_eq_true rfl) fun h4 k4 hx4 _ => ?_
  have I5 : Inv (supCx P w K mg base N qual (defScope st) f cda cc A outer s H E) [] (L2.start N (.ref a :: ws)) H ⟨h4, s.gens, s.drawn, s.toks + (ps.zip us).length + 1 + 1, s.os⟩ := by
    have J := (I3.tok (s.toks + (ps.zip us).length + 1 + 1)).write (t' := s.toks + (ps.zip us).length + 1 + 1) (x := a) (e := a) (o := exo a D none) (by rw [ea]; exact True.intro) (.inl rfl) k4 ⟨_, hx4⟩ (exo_ok hx4)
    have eu : upd H a (exo a D none) = H := by
      funext b
      by_cases hb : b = a
      · rw [hb, upd_same, ea]
      · rw [upd_ne hb]
    rw [eu] at J
    exact J
  have z := fin ((hrest A outer s H E).run [] _ _ H _ I5 ht)
  rw [hbody] at z
  exact z
end
end Hw
set_option Elab.async false
set_option linter.all false
set_option maxRecDepth 100000
set_option maxHeartbeats 1000000
namespace Hw
open PySem L2 PyProof.Rows PySem.Spec
/-! ### what makes an exception -/
structure MX (X : Cx) (PE : XP) (μ : Mu) (ds : DS) (e : Expr) (Q : XP) : Prop where
  pm : L2.PMk X e (fun σ H Q' => Hold X.K μ H ∧ Sl X PE μ H σ ds ∧ ∀ Ca dd H' fs vfs μ', Stp μ H μ' H' → Hold X.K μ' H' → H' dd = some (.xd vfs) → DenFs X.K μ' H' vfs fs → Q Ca fs μ' → Q' (.ref Ca) (some dd) H')
section
variable {X : Cx} {PE : XP} {e a b c : Expr} {es : List Expr} {μ : Mu} {ds : DS} {P : DP} {pos : Pos} {Z : Po}
theorem sx_raise (h : MX X PE μ ds e PE) (hc : X.calm = true) : SX X PE μ ds (.Raise (some e) none pos) Z :=
  sx_of (ps_raise hc takes_Wx h.pm) fun D σ H ho hs m => ⟨ho, hs, fun Ca dd H' fs vfs μ' s1 h1 e1 n1 p => hs.x Ca dd H' fs vfs μ' σ s1 h1 e1 n1 p⟩
end
/-- an own exception class of one field, at D -/
structure Exc1 (P : Program) (K : PySem.W.Frag) (x qual fld prm text : Str) (st : Stmt) (D : Addr) : Prop where
  c : SupCls P K D
  nf : PySem.W.findIn K (.ref D) fld = some none
  ini : ∃ f fd cda cc, SupFn P K qual st D f fd cda cc ∧ PySem.W.findIn K (.ref D) "__init__" = some (some (.ref f)) ∧ PySem.W.typeIn K (.ref f) = some (.type "function")
section
variable {X : Cx} {PE : XP} {e : Expr} {es : List Expr} {μ : Mu} {ds : DS} {P : DP} {pos p : Pos} {Q : XP} {x qual fld prm text : Str} {st : Stmt} {D : Addr}
theorem mx_call1 {p0 p1 p2 p3 p4 p5 q0 q1 q2 q3 r0 r1 r2 r3 : Pos} {ar1 ar2 : Arg} {pl : Sem Bool} {k : Nat} (pf : PF X.prog) (C : Exc1 X.prog X.K x qual fld prm text st D) (hm : X.mg x = some (.ref D)) (hr : Room (k + 3) X.A) (S : SupScope ["self", prm] ["self", prm] (defScope st))
    (h : EX X PE μ ds e fun d μ1 => Q D [(fld, d), (("code" : Str), .str text)] μ1) (hg : Gl X x)
    (hbody : defBody st = [.Expr (.Call (.Attribute (.Call (.Name "super" p0) [] [] p1) "__init__" p2) [.Constant (.str text) 0 p3] [] p4) p5, .Assign [.Attribute (.Name "self" q0) "code" q1] (.Constant (.str text) 0 q2) q3, .Assign [.Attribute (.Name "self" r0) fld r1] (.Name prm r2) r3])
    (har : (defArgs st).posonlyargs ++ (defArgs st).args = [ar1, ar2]) (har1 : ar1.arg = "self")
    (hbind : ∀ (cc : Addr) (kV doc pm ct cv : Value) (an : Option Addr) (u v : Value), bindArgs (PySem.W.ksFn "__init__" qual (defArgs st) (defBody st) (defScope st) .none kV doc pm an cv ct cc) ⟨[u, v], []⟩ = pure [(("self" : Str), u), (prm, v)])
    (hev : ∀ L f cda cc : Addr, eval (.Call (.Attribute (.Call (.Name "super" p0) [] [] p1) "__init__" p2) [.Constant (.str text) 0 p3] [] p4) (supEnv qual (defScope st) L f cda cc) = (do
      let ov ← attributeBase (.Call (.Name "super" p0) [] [] p1) "__init__" (supEnv qual (defScope st) L f cda cc) (eval (.Call (.Name "super" p0) [] [] p1) (supEnv qual (defScope st) L f cda cc))
      standAt p2.atName
      let (g0, first) ← holding [ov] (getMethod ov "__init__" pl)
      callWith p4 g0 first (backTo p4 (starEach [.Constant (.str text) 0 p3] (supEnv qual (defScope st) L f cda cc))) []))
    (hs1 : ∀ env : Env, swapsWith (.Constant (.str text) 0 q2) (some (.Attribute (.Name "self" q0) "code" q1)) q3.line env = pure false) (hs2 : ∀ env : Env, swapsWith (.Name prm r2) (some (.Attribute (.Name "self" r0) fld r1)) r3.line env = pure false)
    (hd1 : (prm == ("__debug__" : Str)) = false) (hd2 : (prm == ("__classdict__" : Str)) = false) (hne : fld ≠ "code") (hdb : (x == ("__debug__" : Str)) = false := by decide)
    (he : starEach [e] X.env = (false, eval e X.env) :: starEach [] X.env := by rfl) (hpl : (backTo pos (starEach [] X.env)).any (·.1) = false := by rfl) :
    MX X PE μ ds (.Call (.Name x p) [e] [] pos) Q := by
  obtain ⟨f, fd, cda, cc, F, hi, ht⟩ := C.ini
  have vs0 : Vis (defScope st) "self" := .inl (S.par _ (by simp))
  have vs1 : Vis (defScope st) prm := .inl (S.par _ (by simp))
  have rest : ∀ (A : Around) (outer : List Env) (s : Shared) (H : Hp) (E : XK), PSs (supCx X.prog X.w X.K X.mg X.base ["self", prm] qual (defScope st) f cda cc A outer s H E)
      [.Assign [.Attribute (.Name "self" q0) "code" q1] (.Constant (.str text) 0 q2) q3, .Assign [.Attribute (.Name "self" r0) fld r1] (.Name prm r2) r3] (tSeq (tOst X.K "code" (tVar 0) (tC (V.str text))) (tOst X.K fld (tVar 0) (tVar 1))) := fun A outer s H E =>
    pss_cons (ps_ost (pe_var (i := 0) (x := "self") rfl vs0 (by decide) (by decide)) pe_str (hs1 _)) (pss_one (ps_ost (pe_var (i := 0) (x := "self") rfl vs0 (by decide) (by decide)) (pe_var (i := 1) (x := prm) rfl vs1 hd1 hd2) (hs2 _)))
  have F1 := fn_sup (w := X.w) (mg := X.mg) (base := X.base) (k := k) pf C.c F S rfl ⟨ar1, by rw [har]; rfl, har1⟩ hbody (fun L => hev L f cda cc) rest
  have hb : Binds X.K fd ["self", prm] [] := by
    obtain ⟨oc, ccl, cl, kV, doc, pm, ct, od, cdd, cld, an, osl, ccs, csl, cvs, file, tf, rfl, _⟩ := F.ex
    exact fun s us _ hl => match us, hl with | [u, v], _ => .of_eq (hbind _ _ _ _ _ _ _ u v)
  refine ⟨fun pins s σ H Q' I ⟨ho, hs, kk⟩ => ?_⟩
  refine pmk_oex (ds := []) (dvs := []) (k := k + 1) C.c.ex hi ht F1 (hr.mono (by omega)) hb .nil (passes_call takes_Wx fun _ _ _ _ h => h.elim) hg hm (pa_cons pe_U pa_nil he) hdb he hpl pins s σ H Q' I ?_
  refine h.at ho hs fun v H1 d μ1 s1 h1 b1 n1 q => ⟨by simp, fun a na => ?_⟩
  refine ⟨a, [v], rfl, rfl, upd_same, ?_⟩
  show tOst X.K "code" (tVar 0) (tC (V.str text)) _ _ _
  refine ⟨.ref a, rfl, a, D, rfl, C.c.ex, C.c.nc, .inl ⟨upd_same, fun dx nd ne => ?_⟩⟩
  have nd1 : H1 dx = none := by rw [upd_ne ne] at nd; exact nd
  show tOst X.K fld (tVar 0) (tVar 1) _ _ _
  have ea : (upd (upd (upd H1 a (exo a D none)) dx (exd dx [(("code" : Str), V.str text)])) a (exo a D (some dx))) dx = some (exd dx [(("code" : Str), V.str text)]) := by rw [upd_ne ne, upd_same]
  refine ⟨v, rfl, .ref a, rfl, a, D, rfl, C.c.ex, C.nf, .inr ⟨dx, _, upd_same, ea, by simp, rfl, dx, _, by rw [upd_ne (Ne.symm ne), upd_same], upd_same, nd1, ?_⟩⟩
  have eh : upd (del (upd (upd (upd (upd H1 a (exo a D none)) dx (exd dx [(("code" : Str), V.str text)])) a (exo a D (some dx))) dx (exd dx [(fld, v), (("code" : Str), V.str text)])) a) dx (.xd [(fld, v), (("code" : Str), V.str text)]) = upd H1 dx (.xd [(fld, v), (("code" : Str), V.str text)]) := by
    funext b
    by_cases h1 : b = dx
    · subst h1; rw [upd_same, upd_same]
    · rw [upd_ne h1, upd_ne h1]
      by_cases h2 : b = a
      · subst h2; rw [del_same, na]
      · rw [del_ne h2, upd_ne h1, upd_ne h2, upd_ne h1, upd_ne h2]
  rw [eh]
  exact kk D dx _ _ _ μ1 (s1.trans (Stp.new nd1)) (h1.new nd1) upd_same (.cons (n1.mono (Stp.new nd1)) (.cons (.str _) .nil)) q
end
end Hw
set_option Elab.async false
set_option linter.all false
set_option maxRecDepth 100000
set_option maxHeartbeats 1000000
namespace Hw
open PySem L2 PyProof.Rows PySem.Spec
/-! ### try: .. except (A, B, C) as n: .. -/
theorem up_push {g : Heap} {o : Obj} : g.UpToSlots (g.push o) := fun b u e _ => ⟨u.slots, Heap.get?_push_of_some _ e⟩
theorem fly_push {B : Heap} {l : List Env} {e : Addr} {Z : Obj → Prop} {g : Heap} {o : Obj} (x : HandSPX.FlyingZ B l e Z g) : HandSPX.FlyingZ B l e Z (g.push o) := by
  obtain ⟨y1, y2, y3, oe, vs, T, oT, ts, z1, z2, z3, z4, z5, z6, z7, z8, z9⟩ := x
  have up : ∀ b u, g.get? b = some u → (g.push o).get? b = some u := fun b u q => Heap.get?_push_of_some _ q
  exact ⟨fun b u q => up b u (y1 b u q), y2, Heap.FunFrames.of_keeps (fun b u q _ => ⟨u, up b u q, rfl⟩) y3, oe, vs, T, oT, ts, up _ _ z1, z2, z3, z4, z5, z6, up _ _ z7, z8, z9⟩
/-- what the clause wishes of an exception of the body -/
def wTri (K : PySem.W.Frag) (n0 : Nat) (c1 c2 c3 : Value) (i : Nat) (ts : Addr → Value → Option Addr → TS) (Wo : WX) (D : Ends) : WX := fun cls d σ H =>
  ∃ b, PySem.W.exmAny K cls [c1, c2, c3] = some b ∧ (b = false → Wo cls d σ H) ∧
    (b = true → σ.length = n0 → ∀ a, H a = none → ts a cls d ⟨fun τ G => D.nx (τ.set i none) G, D.rt, fun τ G => D.bk (τ.set i none) G, fun τ G => D.ct (τ.set i none) G⟩ (σ.set i (some (.ref a))) H)
section
variable {X : Cx} {x1 x2 x3 n : Str} {c1 c2 c3 : Value} {i : Nat} {blk st : List Stmt} {b0 : Stmt} {q1 q2 q3 q4 q5 pos : Pos} {kk : Nat} {tb : WX → TS} {ts : Addr → Value → Option Addr → TS} {Wo : WX}
theorem ps_try3 (hs : X.stack = X.env :: X.outer) (hf : X.env.frame = some X.env.locals) (hN : X.N.Nodup) (hi : X.N[i]? = some n) (hln : X.env.kindOf n = some .local) (gl1 : Gl X x1) (gl2 : Gl X x2) (gl3 : Gl X x3) (m1 : X.mg x1 = some c1) (m2 : X.mg x2 = some c2) (m3 : X.mg x3 = some c3)
    (k1 : (x1 == ("__debug__" : Str)) = false) (k2 : (x2 == ("__debug__" : Str)) = false) (k3 : (x3 == ("__debug__" : Str)) = false) (tk : Takes X Wo)
    (hb : ∀ (W : WX) (pn : List (Addr × Obj)) (xe : Value → Shared → Prop), Takes (X.tr pn xe) W → PassesOwn (model X.prog X.w) X.A X.env xe → PSs (X.tr pn xe) blk (tb W))
    (hsu : ∀ (a : Addr) (oe : Obj) (cls : Value) (d : Option Addr) (pn : List (Addr × Obj)), Zc cls d oe → (∃ vs, oe.data = .fields vs) → PSs (X.suite a ((a, oe) :: pn)) (b0 :: st) (ts a cls d)) :
    PS X (.Try blk [.ExceptHandler (some (.Tuple [.Name x1 q1, .Name x2 q2, .Name x3 q3] kk q4)) (some n) (b0 :: st) q5] [] [] pos) (fun D σ H => tb (wTri X.K X.N.length c1 c2 c3 i ts Wo D) D σ H) := by
  refine ⟨fun pins s σ H D I want => ?_⟩
  have ok := I.ok
  have frm : X.A.frames = some (X.env :: X.outer) := by rw [ok.frames, hs]
  refine wpAny_Try_except (wpAny_mono ((hb (wTri X.K X.N.length c1 c2 c3 i ts Wo D) (X.pn ++ pins) _ (fun u t xx => ?_) PassesOwn.looking).run [] s σ H D (I.toTry _) want) (fun fl t hsp => ?_) (fun e t he => he))
  · obtain ⟨a, B, sI, pins', τ, G, cls, d, rfl, J', nb, up, sky, na, eos, bare, b, hx, hno, hyes⟩ := xx
    have J : Inv X pins τ G sI := J'.ofTry ok
    have sky2 : Sky B (X.env :: X.outer) a (Zc cls d) X.env.locals t.heap := hs ▸ sky
    show wpAny (model X.prog X.w) X.A (noteFrame (.ref a) X.env) (fun _ t2 => wpAny (model X.prog X.w) X.A (setFlight (.ref a) none) _ _ t2) _ t
    refine Sky.land Zc.steady frm hf sky2 fun g3 fl3 up3 => ?_
    have Jn : ∀ {g : Heap} {tk : Nat}, HandSPX.FlyingZ B (X.env :: X.outer) a (Zc cls d) g → t.heap.UpToSlots g → Inv X pins τ G { t with heap := g, toks := tk } := fun {g tk} fl u => J.landed (s' := { t with heap := g, toks := tk }) nb fl.1 (up.trans u) eos bare
    have away : ∀ {g : Heap}, HandSPX.FlyingZ B (X.env :: X.outer) a (Zc cls d) g → ∃ oe vs, g.get? a = some oe ∧ Zc cls d oe ∧ oe.data = .fields vs ∧ a ≠ X.env.locals ∧ a ∉ X.fs := fun {g} fl => by
      obtain ⟨oe, vs, e1, e2, e3⟩ := fl.there
      have out : a ∉ frs (X.env :: X.outer) := fun hm => by
        obtain ⟨_, o2, e4, e5⟩ := fl.2.2.1.mem hm
        rw [e1] at e4
        cases e4
        exact e5 _ e3
      refine ⟨oe, vs, e1, e2, e3, fun z => out (List.mem_filterMap.mpr ⟨X.env, .head _, by rw [hf, z]⟩), fun hm => ?_⟩
      obtain ⟨ev, h1, h2⟩ := List.mem_filterMap.mp hm
      exact out (List.mem_filterMap.mpr ⟨ev, .tail _ h1, h2⟩)
    obtain ⟨oe3, vs3, e31, e32, e33, e34, e35⟩ := away fl3
    have S3 := (Jn (tk := t.toks) fl3 up3).suite e31 e33 na e34 e35
    refine wpAny_handleBy_cons (codeAny_handlers_test ?_) (by intro q; cases q)
    refine wpAny_Tuple_spliced (Calls.spliced_cons (ld_glob (X := X.suite a ((a, oe3) :: (X.pn ++ pins))) S3 gl1 m1 (Calls.spliced_cons (ld_glob (X := X.suite a ((a, oe3) :: (X.pn ++ pins))) S3 gl2 m2 (Calls.spliced_cons (ld_glob (X := X.suite a ((a, oe3) :: (X.pn ++ pins))) S3 gl3 m3 (Calls.spliced_nil ⟨by rw [sizeLine_eq]; exact Nat.le_of_ble_eq_true rfl, ?_⟩) k3)) k2)) k1))
    have fl4 := fly_push (o := { cls := .type "tuple", data := .seq [c1, c2, c3].toArray }) fl3
    have up4 : t.heap.UpToSlots (g3.push { cls := .type "tuple", data := .seq [c1, c2, c3].toArray }) := up3.trans up_push
    have S4 := Jn (tk := t.toks) fl4 up4
    obtain ⟨oe4, vs4, e41, e42, e43, e44, e45⟩ := away fl4
    have LT : PySem.W.Looks (model X.prog X.w) (g3.push { cls := .type "tuple", data := .seq [c1, c2, c3].toArray }) (typeOf (.ref a)) cls := fun A Q E s k q => wpAny_typeOf_ref (k _ _ e41) (by rw [e42.1]; exact q)
    refine (PySem.W.exm_tup3 (M := model X.prog X.w) S4.kIn LT (Heap.get?_push_at rfl rfl) hx).here ?_
    cases b with
    | true =>
      refine codeAny_handlers_suite_as (HandSPX.lands_againZ fl4 fun g5 fl5 up5 => ?_)
      obtain ⟨oe5, vs5, e51, e52, e53, e54, e55⟩ := away fl5
      have S5 := (Jn (tk := t.toks) fl5 (up4.trans up5)).suite e51 e53 na e54 e55
      refine store_ok (X := X.suite a ((a, oe5) :: (X.pn ++ pins))) (v := .ref a) S5 hN hi (.inl hln) rfl (fun t6 S6 => ?_) (.inr hln)
      refine wpAny_mono ((hsu a oe5 cls d (X.pn ++ pins) e52 ⟨_, e53⟩).run [] t6 _ G _ S6 (hyes rfl J.len a na)) (fun fl t7 hsp => ?_) (fun _ _ z => z.elim)
      have stop : ∀ {τ7 : L2.St} {G7 : Hp} {R : Shared → Prop}, Inv (X.suite a ((a, oe5) :: (X.pn ++ pins))) [] τ7 G7 t7 → (∀ t8, Inv X pins (τ7.set i none) G7 t8 → R t8) →
          wpAny (model X.prog X.w) X.A (do bindName X.env n .none; unbindBehindTheSuite X.env n q5) (fun _ t8 => R t8) X.xe t7 := fun {τ7 G7 R} S7 hq => gone_ok (S7.unsuite ok) hN hi hln hq
      cases fl with
      | next => obtain ⟨τ7, G7, S7, w7⟩ := hsp; exact stop S7 fun t8 J8 => ⟨_, _, J8, w7⟩
      | brk => obtain ⟨τ7, G7, S7, w7⟩ := hsp; exact stop S7 fun t8 J8 => ⟨_, _, J8, w7⟩
      | cont => obtain ⟨τ7, G7, S7, w7⟩ := hsp; exact stop S7 fun t8 J8 => ⟨_, _, J8, w7⟩
      | ret u => obtain ⟨v7, τ7, G7, S7, r7, w7⟩ := hsp; exact stop S7 fun t8 J8 => ⟨_, _, _, J8, r7, w7⟩
    | false =>
      show wpAny _ X.A (handleBy (.ref a) X.env []) _ _ _
      refine wpAny_handleBy_nil ?_
      obtain ⟨f1, f2, f3, oe, vs, T, oT, ts', y1, y2, y3, y4, yr⟩ := id fl4
      unfold PySem.passOn
      refine wpAny_bind (wpAny_field y1 y3 y4 ?_)
      rw [if_neg (show ¬ ((Value.ref T == Value.none) = true) from by simp)]
      have out : ∀ (t9 : Shared), t9 = { t with heap := g3.push { cls := .type "tuple", data := .seq [c1, c2, c3].toArray } } → wpAny (model X.prog X.w) X.A (setFlight (.ref a) X.env.frame) (fun _ t9 => wpAny (model X.prog X.w) X.A (throw (.ref a) : Sem Flow) (SP X pins D) X.xe t9) X.xe t9 := by
        rintro _ rfl
        rw [hf]
        refine HandSPX.setFlight_upZ fl4 fun g6 held up6 => wpAny_throw (tk _ _ ⟨a, B, sI, pins, τ, G, cls, d, rfl, J, nb, (up.trans up4).trans up6, .inr (.inr (hs.symm ▸ held)), na, eos, bare, hno rfl⟩)
      first
        | exact wpAny_bind (wpAny_pure (wpAny_bind (out _ rfl)))
        | exact wpAny_bind (out _ rfl)
  · cases fl with
    | next => obtain ⟨τ, G, J, z⟩ := hsp; exact wpAny_execs_nil ⟨τ, G, J.ofTry ok, z⟩
    | brk => obtain ⟨τ, G, J, z⟩ := hsp; exact ⟨τ, G, J.ofTry ok, z⟩
    | cont => obtain ⟨τ, G, J, z⟩ := hsp; exact ⟨τ, G, J.ofTry ok, z⟩
    | ret u => obtain ⟨v, τ, G, J, r, z⟩ := hsp; exact ⟨v, τ, G, J.ofTry ok, r, z⟩
end
end Hw
set_option Elab.async false
set_option linter.all false
set_option maxRecDepth 100000
set_option maxHeartbeats 1000000
namespace Hw
open PySem L2 PyProof.Rows PySem.Spec
/-! ### a lambda handed to a def -/
/-- a lambda's body, told without its context -/
def tLamB (K : PySem.W.Frag) (E : XK) (PE : XP) (μ : Mu) (ds : DS) (P : DP) : TE := fun σ H Q => Hold K μ H ∧ DenS K μ H σ ds ∧
  (∀ Ca dd H' fs vfs μ', Stp μ H μ' H' → Hold K μ' H' → H' dd = some (.xd vfs) → DenFs K μ' H' vfs fs → PE Ca fs μ' → E (.ref Ca) (some dd) H') ∧ ∀ v H' d μ', Stp μ H μ' H' → Hold K μ' H' → Den K μ' H' v d → P d μ' → Q v H'
section
variable {X : Cx} {PE : XP} {μ : Mu} {ds : DS} {P : DP} {body : Expr} {scope : Scope} {f c' : Addr}
theorem lamB_pe {A : Around} {outer : List Env} {s : Shared} {H : Hp} {E : XK} (h : EX (LamX.lamCx X A outer s H E scope f c') PE μ ds body P) : L2.PE (LamX.lamCx X A outer s H E scope f c') body (tLamB X.K E PE μ ds P) :=
  pe_imp h.pe fun σ H1 Q ⟨a, b, c, d⟩ => ⟨a, ⟨b, fun Ca dd H' fs vfs μ' σ2 s2 h2 e2 n2 p2 => wx_leave (takes_of rfl rfl rfl rfl) (c Ca dd H' fs vfs μ' s2 h2 e2 n2 p2)⟩, d⟩
/-- the context of the def that got the lambda -/
abbrev gotCx (X : Cx) (Ng : List Str) (x : Str) (st : Stmt) (g : Addr) (cdg : Value) (s : Shared) (G : Hp) : Cx := bodyCx X.prog X.w X.K X.mg X.base Ng x st g cdg X.A X.stack s G (Ex0 X)
/-- what the lambda, called there by its name a, gives -/
def Act (X : Cx) (ds : DS) (body : Expr) (scope : Scope) (Z : Cx) (f : Addr) (G : Hp) (Im : Addr → Prop) (a : Str) (k : Nat) : Prop :=
  ∀ (pn : List (Addr × Obj)) (xe : Value → Shared → Prop) (PE' : XP) (P' : DP) (ds' : DS) (μ' : Mu) (p1 p2 : Pos), ds'[0]? = some (some (.fn f G Im)) →
    (∀ (A : Around) (outer : List Env) (s2 : Shared) (H2 : Hp) (E2 : XK) (c' : Addr), Rm k (LamX.lamCx X A outer s2 H2 E2 scope f c').A → EX (LamX.lamCx X A outer s2 H2 E2 scope f c') PE' μ' ds body P') → EX (Z.tr pn xe) PE' μ' ds' (.Call (.Name a p1) [] [] p2) P'
/-- the call of the lambda, where the def stands in the frames of its own call -/
theorem pe_actG {σ : L2.St} {G : Hp} {s : Shared} {pins : List (Addr × Obj)} {Ng : List Str} {x a : Str} {st : Stmt} {g : Addr} {cdg pm ctv : Value} {params : Arguments} {k : Nat} {pn : List (Addr × Obj)} {xe : Value → Shared → Prop} {tb : TE} {E : XK} {W : WX} {p1 p2 : Pos} (I : Inv X pins σ G s) (L : LamX.LamS X.env.scope scope)
    (hf : s.heap.get? f = some (PySem.W.kla_obj "<lambda>" (X.env.qual ++ "<lambda>") params body scope (cloFrom X.env.cells scope.names []) pm c' ctv)) (hfn : G f = none) (hfr : f ∉ frs X.stack)
    (hbind : bindArgs (PySem.W.kla_fn "<lambda>" (X.env.qual ++ "<lambda>") params body scope (cloFrom X.env.cells scope.names []) pm (.ref c') ctv) ⟨[], []⟩ = pure []) (tk : Takes ((gotCx X Ng x st g cdg s G).tr pn xe) W) (hW : ∀ cls d σ' H', E cls d H' → W cls d σ' H') (hr : Room (k + 1) (gotCx X Ng x st g cdg s G).A)
    (hbody : ∀ (s2 : Shared) (H2 : Hp), L2.PE (LamX.lamCx X (gotCx X Ng x st g cdg s G).A (gotCx X Ng x st g cdg s G).stack s2 H2 E scope f c') body tb)
    (hN : Ng[0]? = some a) (hv : Vis (defScope st) a) (hdb : (a == ("__debug__" : Str)) = false) (hcd : (a == ("__classdict__" : Str)) = false) :
    L2.PE ((gotCx X Ng x st g cdg s G).tr pn xe) (.Call (.Name a p1) [] [] p2) (fun τ F Q => τ[0]? = some (some (.ref f)) ∧ F c' = some (LamX.CodeO c' (X.env.qual ++ "<lambda>")) ∧ tb σ F Q) := by
  refine ⟨fun pz t τ F Q J ⟨w1, w2, w3⟩ => wpAny_Call_Name_kw (thn ((pe_var (pos := p1) (i := 0) hN hv hdb hcd).run pz t τ F (fun v F' => v = .ref f ∧ F' = F) J ⟨.ref f, w1, rfl, rfl⟩) fun u t1 ⟨v, F1, J1, r1, ev, eF⟩ => ?_)⟩
  subst ev eF
  obtain rfl : u = Value.ref f := r1
  have at1 := J1.base.keep f _ hf hfn hfr (fun z => nomatch (show f ∈ ([] : List Addr) from z))
  refine PySem.W.callWith_F0 ⟨_, _, _, _, at1⟩ (wpAny_call (codeAny_mono (show codeAny (model X.prog X.w) (gotCx X Ng x st g cdg s G).A (.call (.ref f) ⟨[], []⟩) (CR (L2.CX X.prog X.w) (gotCx X Ng x st g cdg s G).stack X.prog X.w F1 t1 Q E) t1 from ?_) fun r t2 hq => ?_))
  · obtain ⟨⟨oc, vs, tt, hoc, hdc, hvc⟩, _, _⟩ := J1.hok c' _ w2
    refine PySem.W.kla_callFunE hr.depth at1 rfl L.co L.gen rfl ⟨c', oc, vs, tt, rfl, hoc, hdc, hvc⟩ ?_
    rw [hbind]
    refine wpAny_pure (wpAny_newFunctionEnv (fun y hy => (L.own y hy).2) (fun y hy => absurd hy (by simp)) (fun g1 hns hsb => ⟨J1.nolimit.fresh _ hsb, ?_⟩) L.kind)
    have up : ∀ b o, t1.heap.get? b = some o → g1.get? b = some o := fun b o e => hsb.extBut b o (Nat.ne_of_lt (Heap.lt_size e)) (Heap.get?_push_of_some _ e)
    have J2 := LamX.lam_start2 (f := f) (c' := c') (tk := t1.toks + ([] : List (Str × Value)).length) (E := E) I L J1.env0 hr.hd J1.base hns up
    refine PySem.W.kla_codeExpr (wpAny_mono ((hbody t1 F1).run [] _ _ F1 Q J2 w3) (fun v t3 hq => ?_) fun e t3 hq => hq)
    obtain ⟨v3, F3, J3, r3, q3⟩ := hq
    exact ⟨v3, F3, J3.os, J3.bare, J3.base, J3.hok, r3, q3⟩
  · match r, hq with
    | .error e, hq => exact passes_call tk hW pz τ F1 t1 e t2 J1 hq
    | .ok (.ret u), hq => exact J1.after hq
theorem ex_act {σ : L2.St} {G : Hp} {s : Shared} {pins : List (Addr × Obj)} {Ng : List Str} {x a : Str} {st : Stmt} {g : Addr} {cdg pm ctv : Value} {params : Arguments} {k : Nat} (I : Inv X pins σ G s) (L : LamX.LamS X.env.scope scope)
    (hf : s.heap.get? f = some (PySem.W.kla_obj "<lambda>" (X.env.qual ++ "<lambda>") params body scope (cloFrom X.env.cells scope.names []) pm c' ctv)) (hfn : G f = none) (hfr : f ∉ frs X.stack) (hc : G c' = some (LamX.CodeO c' (X.env.qual ++ "<lambda>"))) (mc : μ c' = none)
    (hbind : bindArgs (PySem.W.kla_fn "<lambda>" (X.env.qual ++ "<lambda>") params body scope (cloFrom X.env.cells scope.names []) pm (.ref c') ctv) ⟨[], []⟩ = pure []) (hr : Room (k + 1) (gotCx X Ng x st g cdg s G).A) (hgu : X.A.guards = some []) (hd : DenS X.K μ G σ ds)
    (hN : Ng[0]? = some a) (hv : Vis (defScope st) a) (hdb : (a == ("__debug__" : Str)) = false) (hcd : (a == ("__classdict__" : Str)) = false) : Act X ds body scope (gotCx X Ng x st g cdg s G) f G (fun b => μ b = none) a k := by
  intro pn xe PE' P' ds' μ' p1 p2 hslot hbody
  refine ex_of (pe_actG (E := Ex0 ((gotCx X Ng x st g cdg s G).tr pn xe)) (tb := tLamB X.K (Ex0 ((gotCx X Ng x st g cdg s G).tr pn xe)) PE' μ' ds P') I L hf hfn hfr hbind takes_Wx (fun cls d σ' H' h => h σ') hr (fun s2 H2 => lamB_pe (hbody _ _ s2 H2 _ c' ⟨hr.deeper _, hgu⟩)) hN hv hdb hcd) fun σZ HZ Q ho hs kk => ?_
  · obtain ⟨v, e1, n1⟩ := hs.d.2 0 _ hslot
    obtain ⟨rfl, stp⟩ := n1.inv_fn
    have st : Stp μ G μ' HZ := fun b o h e n => stp b o h e n
    exact ⟨e1, (st _ _ mc hc LamX.codeO_ne).1, ho, hd.mono st, fun Ca dd H' fs vfs μ2 s2 h2 e2 n2 p2 σ' => hs.x Ca dd H' fs vfs μ2 σ' s2 h2 e2 n2 p2, fun v H' d μ2 s2 h2 n2 p2 => kk v H' d μ2 s2 h2 n2 p2⟩
/-- x(lambda: body), x a def of one parameter a -/
theorem ex_lamcall {Ng : List Str} {x a : Str} {st : Stmt} {g cd T : Addr} {fd : FuncData} {params : Arguments} {k : Nat} {p lpos pos : Pos} (F : Fun X.K x x st g fd) (hm : X.mg x = some (.ref g)) (hb : Binds X.K fd [a] []) (S : FnScope Ng [a] (defScope st)) (hg : Gl X x)
    (TB : LamX.TabB X.base X.mg cd T) (hcode : X.env.code = .ref cd) (tq : μ T = some (.tbl (X.env.qual ++ "<lambda>"))) (t1 : ∀ b q, μ b = some (.tbl q) → b = T) (hr : Rm (k + 2) X.A) (L : LamX.LamS X.env.scope scope) (hdef : defaultsOf params X.env = ([], []))
    (hbind : ∀ (q : Str) (cl : List (Str × Addr)) (pm cv ctv : Value), bindArgs (PySem.W.kla_fn "<lambda>" q params body scope cl pm cv ctv) ⟨[], []⟩ = pure []) (hN : Ng[0]? = some a) (hv : Vis (defScope st) a)
    (h : ∀ (f : Addr) (G : Hp) (s : Shared) (cdg : Value), Rm (k + 1) (gotCx X Ng x st g cdg s G).A → Act X ds body scope (gotCx X Ng x st g cdg s G) f G (fun b => μ b = none) a k →
      SSX (gotCx X Ng x st g cdg s G) PE μ (some (.fn f G (fun b => μ b = none)) :: List.replicate (Ng.length - 1) none) (defBody st) { nx := fun _ μ' => P .non μ', rt := P })
    (hdb : (x == ("__debug__" : Str)) = false := by decide) (hda : (a == ("__debug__" : Str)) = false := by decide) (hca : (a == ("__classdict__" : Str)) = false := by decide) : EX X PE μ ds (.Call (.Name x p) [.Lambda params body scope lpos] [] pos) P := by
  refine ⟨⟨fun pins s σ H Q I ⟨ho, hs, kk⟩ => ?_⟩⟩
  refine wpAny_Call_Name_kw (ld_glob I hg hm ?_ hdb)
  refine PySem.W.callWith_K (h₀ := X.base) I.ok.mod.kin F.kp ?_ (by rfl) (by rfl)
  show wpAny _ _ (spliced ((false, eval (.Lambda params body scope lpos) X.env) :: backTo pos (starEach [] X.env))) _ _ s
  have tabs : LamX.Tabs [(T, X.env.qual ++ "<lambda>")] H := fun pr hp => by
    obtain rfl := List.mem_singleton.mp hp
    obtain ⟨ps, e1, e2, e3⟩ := ho T _ tq
    refine ⟨ps, e1, e2, fun q cv hc => ?_⟩
    obtain ⟨c, h1, _, h3⟩ := e3 q cv hc
    exact ⟨c, h1, h3⟩
  refine Calls.spliced_cons (LamX.lam_make2 I TB hcode (List.mem_singleton.mpr rfl) (fun pr hp e => by obtain rfl := List.mem_singleton.mp hp; rfl) tabs hdef (L.has I.ok) fun f c' pm ctv G s1 I1 eN T1 hf hfn hfr hco => ?_)
  refine Calls.spliced_nil ⟨I1.kIn, ?_⟩
  have stp : Stp μ H μ G := fun b o hb e n => ⟨eN b o e n, hb⟩
  -- the new code object is nobody's that changes
  have noC : ∀ c, G c = some (LamX.CodeO c (X.env.qual ++ "<lambda>")) → μ c = none := fun c ec => by
    cases e : μ c with
    | none => rfl
    | some m =>
      have q := ho c m e
      cases m with
      | lst xs => obtain ⟨vs, h1, _⟩ := q; rw [eN c _ h1 nofun] at ec; cases ec
      | ins C fs => obtain ⟨dx, vs, h1, _⟩ := q; rw [eN c _ h1 nofun] at ec; cases ec
      | dic kvs => obtain ⟨vs, h1, _⟩ := q; rw [eN c _ h1 nofun] at ec; cases ec
      | tbl qn =>
        obtain rfl := t1 c qn e
        obtain ⟨ps, h1, _⟩ := T1 (c, X.env.qual ++ "<lambda>") (List.mem_singleton.mpr rfl)
        rw [h1] at ec; cases ec
  have hoG : Hold X.K μ G := fun b m e => by
    have q := ho b m e
    cases m with
    | lst xs => obtain ⟨vs, h1, h2⟩ := q; exact ⟨vs, eN b _ h1 nofun, h2.mono stp⟩
    | ins C fs => obtain ⟨dx, vs, h1, h2⟩ := q; exact ⟨dx, vs, eN b _ h1 nofun, h2.mono stp⟩
    | dic kvs => obtain ⟨vs, h1, h2⟩ := q; exact ⟨vs, eN b _ h1 nofun, h2.mono stp⟩
    | tbl qn =>
      obtain rfl := t1 b qn e
      rw [tq] at e
      cases e
      obtain ⟨ps, h1, h2, h3⟩ := T1 (b, X.env.qual ++ "<lambda>") (List.mem_singleton.mpr rfl)
      refine ⟨ps, h1, h2, fun q cv hc => ?_⟩
      obtain ⟨c, e1, e2⟩ := h3 q cv hc
      exact ⟨c, e1, noC c e2, e2⟩
  have hsG := hs.mono stp
  obtain ⟨oc, od, kV, doc, pmm, an, cdv, ct, osl, rfl, lk, hcdv⟩ := F.ex
  refine wpAny_call (codeAny_mono (ret_of (Q := Q) I1 (LamX.run_ofS (N := Ng) (ps := [a]) (us := [.ref f]) (vs := [.ref f]) lk hcdv S hr.r I1.env0 (hb s1 [.ref f] I1.kIn rfl) (.cons rfl .nil) rfl fun hr' => ?_)) fun r s2 hq => ?_)
  · have act := ex_act (cdg := cdv) (k := k) I1 L hf hfn hfr hco (noC _ hco) (hbind _ _ _ _ _) hr' hr.g hsG.d hN hv hda hca
    have q := h f G s1 cdv ⟨hr', hr.g⟩ act
    refine ⟨_, q.pss, hoG, ⟨?_, fun Ca dd H' fs vfs μ' σ' s2 h2 e2 n2 p2 => wx_leave (takes_of rfl rfl rfl rfl) fun σ3 => hsG.x Ca dd H' fs vfs μ' σ3 s2 h2 e2 n2 p2⟩, ?_⟩
    · have := DenS.start (N := Ng) (K := X.K) (μ := μ) (H := G) (vs := [.ref f]) (xs := [.fn f G (fun b => μ b = none)]) (.cons (.fn fun b o h e n => ⟨e, h⟩) .nil)
      exact this
    · exact ⟨fun σ' H' ds' μ' s1 h1 n1 p => kk _ H' _ μ' (stp.trans s1) h1 .non p, fun v H' d μ' s1 h1 n1 p => kk v H' d μ' (stp.trans s1) h1 n1 p, fun _ _ _ _ _ _ _ p => p.elim, fun _ _ _ _ _ _ _ p => p.elim⟩
  · match r, hq with
    | .error er, hq => exact hq
    | .ok (.ret u), hq => exact hq
end
end Hw
set_option Elab.async false
set_option linter.all false
set_option maxRecDepth 100000
set_option maxHeartbeats 1000000
namespace Hw
open PySem L2 PyProof.Rows PySem.Spec
/-- D keeps what Z wants: Meets, the exceptions not told -/
structure MeetD (K : PySem.W.Frag) (μ : Mu) (H : Hp) (Z : Po) (D : Ends) : Prop where
  nx : ∀ σ' H' ds' μ', Stp μ H μ' H' → Hold K μ' H' → DenS K μ' H' σ' ds' → Z.nx ds' μ' → D.nx σ' H'
  rt : ∀ v H' d μ', Stp μ H μ' H' → Hold K μ' H' → Den K μ' H' v d → Z.rt d μ' → D.rt v H'
  bk : ∀ σ' H' ds' μ', Stp μ H μ' H' → Hold K μ' H' → DenS K μ' H' σ' ds' → Z.bk ds' μ' → D.bk σ' H'
  ct : ∀ σ' H' ds' μ', Stp μ H μ' H' → Hold K μ' H' → DenS K μ' H' σ' ds' → Z.ct ds' μ' → D.ct σ' H'
theorem Meets.d {X : Cx} {PE : XP} {μ : Mu} {H : Hp} {Z : Po} {D : Ends} (m : Meets X PE μ H Z D) (x : Exc X PE μ H) : MeetD X.K μ H Z D :=
  ⟨fun σ' H' ds' μ' s h n p => m.nx σ' H' ds' μ' s h ⟨n, x.mono s⟩ p, m.rt, fun σ' H' ds' μ' s h n p => m.bk σ' H' ds' μ' s h ⟨n, x.mono s⟩ p, fun σ' H' ds' μ' s h n p => m.ct σ' H' ds' μ' s h ⟨n, x.mono s⟩ p⟩
theorem MeetD.m {X : Cx} {PE : XP} {μ : Mu} {H : Hp} {Z : Po} {D : Ends} (m : MeetD X.K μ H Z D) : Meets X PE μ H Z D :=
  ⟨fun σ' H' ds' μ' s h n p => m.nx σ' H' ds' μ' s h n.d p, m.rt, fun σ' H' ds' μ' s h n p => m.bk σ' H' ds' μ' s h n.d p, fun σ' H' ds' μ' s h n p => m.ct σ' H' ds' μ' s h n.d p⟩
theorem MeetD.later {K : PySem.W.Frag} {μ μ' : Mu} {H H' : Hp} {Z : Po} {D : Ends} (m : MeetD K μ H Z D) (s : Stp μ H μ' H') : MeetD K μ' H' Z D :=
  ⟨fun σ1 H1 ds1 μ1 s1 => m.nx σ1 H1 ds1 μ1 (s.trans s1), fun v H1 d μ1 s1 => m.rt v H1 d μ1 (s.trans s1), fun σ1 H1 ds1 μ1 s1 => m.bk σ1 H1 ds1 μ1 (s.trans s1), fun σ1 H1 ds1 μ1 s1 => m.ct σ1 H1 ds1 μ1 (s.trans s1)⟩
/-- the names' slots, none told -/
theorem DenS.none {K : PySem.W.Frag} {μ : Mu} {H : Hp} {σ : L2.St} {n : Nat} (h : σ.length = n) : DenS K μ H σ (List.replicate n none) := ⟨by simp [h], fun i d e => by
  have := List.mem_of_getElem? e
  rw [List.mem_replicate] at this
  cases this.2⟩
theorem takesF {X : Cx} : Takes X (fun _ _ _ _ => False) := fun _ _ x => by
  obtain ⟨_, _, _, _, _, _, _, _, _, _, _, _, _, _, _, _, z⟩ := x
  exact z.elim
theorem wx_of_takes {X : Cx} {W : WX} {cls : Value} {d : Option Addr} {σ : L2.St} {H : Hp} (tk : Takes X W) (h : W cls d σ H) : Wx X cls d σ H := fun u s' ⟨a, B, sI, pins, σ', H', cls', d', h1, h2, h3, h4, h5, h6, h7, h8, e1, e2, e3, e4⟩ => by
  subst e1 e2 e3 e4
  exact tk u s' ⟨a, B, sI, pins, _, _, _, _, h1, h2, h3, h4, h5, h6, h7, h8, h⟩
section
variable {X : Cx} {PE : XP} {μ : Mu} {ds : DS} {P : DP} {Z : Po} {x1 x2 x3 n : Str} {c1 c2 c3 : Value} {i : Nat} {blk st : List Stmt} {b0 : Stmt} {q1 q2 q3 q4 q5 pos : Pos} {kk : Nat}
theorem sx_try3 (PEb : XP) (i : Nat) (hN : X.N.Nodup) (hi : X.N[i]? = some n) (hln : X.env.kindOf n = some .local) (gl1 : Gl X x1) (gl2 : Gl X x2) (gl3 : Gl X x3) (m1 : X.mg x1 = some c1) (m2 : X.mg x2 = some c2) (m3 : X.mg x3 = some c3)
    (hb : ∀ pn xe, SSX (X.tr pn xe) PEb μ ds blk Z) (hx : ∀ Ca fs μ', PEb Ca fs μ' → PySem.W.exmAny X.K (.ref Ca) [c1, c2, c3] = some true)
    (hsu : ∀ a dd Ca fs μ' oe pn, PEb Ca fs μ' → Zc (.ref Ca) (some dd) oe → (∃ vs, oe.data = .fields vs) →
      SSX (X.suite a ((a, oe) :: pn)) noX μ' ((List.replicate X.N.length none).set i (some (.exc a dd Ca fs))) (b0 :: st) ⟨fun s m => Z.nx (s.set i none) m, Z.rt, fun s m => Z.bk (s.set i none) m, fun s m => Z.ct (s.set i none) m⟩)
    (hs : X.stack = X.env :: X.outer := by rfl) (hf : X.env.frame = some X.env.locals := by rfl)
    (k1 : (x1 == ("__debug__" : Str)) = false := by decide) (k2 : (x2 == ("__debug__" : Str)) = false := by decide) (k3 : (x3 == ("__debug__" : Str)) = false := by decide) :
    SX X PE μ ds (.Try blk [.ExceptHandler (some (.Tuple [.Name x1 q1, .Name x2 q2, .Name x3 q3] kk q4)) (some n) (b0 :: st) q5] [] [] pos) Z := by
  refine sx_of (ps_try3 (tb := fun W D σ H => ∃ t, (∀ pn xe, Takes (X.tr pn xe) W → PSs (X.tr pn xe) blk t) ∧ t D σ H)
    (ts := fun a cls d D σ H => ∃ t, (∀ oe pn, Zc cls d oe → (∃ vs, oe.data = .fields vs) → PSs (X.suite a ((a, oe) :: pn)) (b0 :: st) t) ∧ t D σ H) hs hf hN hi hln gl1 gl2 gl3 m1 m2 m3 k1 k2 k3 takesF
    (fun W pn xe tk _ => ⟨fun pins s σ H D I ⟨t, h1, h2⟩ => (h1 pn xe tk).run pins s σ H D I h2⟩) (fun a oe cls d pn hz hfl => ⟨fun pins s σ H D I ⟨t, h1, h2⟩ => (h1 oe pn hz hfl).run pins s σ H D I h2⟩)) fun D σ H ho hsl m => ?_
  have md := m.d hsl.x
  refine ⟨fun D' σ' H' => Hold X.K μ H' ∧ DenS X.K μ H' σ' ds ∧ (∀ Ca dd H2 fs vfs μ', Stp μ H' μ' H2 → Hold X.K μ' H2 → H2 dd = some (.xd vfs) → DenFs X.K μ' H2 vfs fs → PEb Ca fs μ' → ∀ σ2, wTri X.K X.N.length c1 c2 c3 i (fun a cls d D σ H => ∃ t, (∀ oe pn, Zc cls d oe → (∃ vs, oe.data = .fields vs) → PSs (X.suite a ((a, oe) :: pn)) (b0 :: st) t) ∧ t D σ H) (fun _ _ _ _ => False) D (.ref Ca) (some dd) σ2 H2) ∧ MeetD X.K μ H' Z D',
    fun pn xe tk => pss_imp (hb pn xe).pss fun D' σ' H' ⟨a1, a2, a3, a4⟩ => ⟨a1, ⟨a2, fun Ca dd H2 fs vfs μ' σ2 s2 h2 e2 n2 p2 => wx_of_takes tk (a3 Ca dd H2 fs vfs μ' s2 h2 e2 n2 p2 σ2)⟩, MeetD.m (X := X.tr pn xe) a4⟩, ho, hsl.d, fun Ca dd H2 fs vfs μ' s2 h2 e2 n2 p2 σ2 => ?_, md⟩
  refine ⟨true, hx Ca fs μ' p2, (fun e => by cases e), fun _ hl a na => ?_⟩
  refine ⟨fun D' σ' H' => Hold X.K μ' H' ∧ DenS X.K μ' H' σ' ((List.replicate X.N.length none).set i (some (.exc a dd Ca fs))) ∧ MeetD X.K μ' H' ⟨fun s m => Z.nx (s.set i none) m, Z.rt, fun s m => Z.bk (s.set i none) m, fun s m => Z.ct (s.set i none) m⟩ D',
    fun oe pn hz hfl => pss_imp (hsu a dd Ca fs μ' oe pn p2 hz hfl).pss fun D' σ' H' ⟨a1, a2, a3⟩ => ⟨a1, ⟨a2, Exc.no⟩, MeetD.m (X := X.suite a ((a, oe) :: pn)) a3⟩, h2, ?_, ?_⟩
  · have md2 : μ' dd = none := by
      cases e : μ' dd with
      | none => rfl
      | some c =>
        have q := h2 dd c e
        cases c with
        | lst xs => obtain ⟨vs, z, _⟩ := q; rw [e2] at z; cases z
        | ins C fs => obtain ⟨dx, vs, z, _⟩ := q; rw [e2] at z; cases z
        | dic kvs => obtain ⟨vs, z, _⟩ := q; rw [e2] at z; cases z
        | tbl qn => obtain ⟨ps, z, _⟩ := q; rw [e2] at z; cases z
    exact (DenS.none hl).set (.exc md2 e2 n2)
  · have ml := md.later s2
    exact ⟨fun σ1 H1 d1 μ1 s1 h1 n1 p => ml.nx _ H1 _ μ1 s1 h1 n1.wipe1 p, ml.rt, fun σ1 H1 d1 μ1 s1 h1 n1 p => ml.bk _ H1 _ μ1 s1 h1 n1.wipe1 p, fun σ1 H1 d1 μ1 s1 h1 n1 p => ml.ct _ H1 _ μ1 s1 h1 n1.wipe1 p⟩
end
/-! ### e.f of a caught exception -/
/-- the caught exception is in hand -/
def Pin (X : Cx) (a dd C : Addr) : Prop := ∃ oe vs, (a, oe) ∈ X.pn ∧ Zc (.ref C) (some dd) oe ∧ oe.data = .fields vs
section
variable {X : Cx} {PE : XP} {μ : Mu} {ds : DS} {P : DP} {e : Expr} {es : List Expr} {pos p : Pos} {n : Str}
theorem ex_xf (h : EX X PE μ ds e fun d μ1 => ∃ a dd C fs x, d = .exc a dd C fs ∧ Pin X a dd C ∧ XfC X.K C ∧ PySem.W.findIn X.K (.ref C) n = some none ∧ fs.lookup n = some x ∧ P x μ1) (hb : attributeBase e n X.env (eval e X.env) = eval e X.env := by rfl) : EX X PE μ ds (.Attribute e n pos) P := by
  refine ⟨⟨fun pins s σ H Q I ⟨ho, hs, kk⟩ => attr_of hb (thn ((pe_U (e := e)).run pins s σ H _ I (h.at ho hs fun v H1 d μ1 s1 h1 b1 n1 ⟨a, dd, C, fs, x, e1, p1, x1, f1, l1, q1⟩ => (⟨a, dd, C, fs, x, d, μ1, s1, h1, n1, e1, p1, x1, f1, l1, q1⟩ : ∃ (a dd C : Addr) (fs : List (Str × D)) (x d : D) (μ1 : Mu), Stp μ H μ1 H1 ∧ Hold X.K μ1 H1 ∧ Den X.K μ1 H1 v d ∧ d = Hw.D.exc a dd C fs ∧ Pin X a dd C ∧ XfC X.K C ∧ PySem.W.findIn X.K (.ref C) n = some none ∧ fs.lookup n = some x ∧ P x μ1))) fun u s1 hh => ?_)⟩⟩
  obtain ⟨v, H1, I1, r1, a, dd, C, fs, x, d, μ1, s1', h1, n1, rfl, ⟨oe, vs, hp, hz, hd⟩, x1, f1, l1, q1⟩ := hh
  obtain ⟨xs, rfl, m1, e1, nf⟩ := n1.inv_exc
  obtain rfl : u = Value.ref a := r1
  obtain ⟨ha, _⟩ := I1.pin (a, oe) (List.mem_append_left _ hp)
  obtain ⟨v2, l2, n2⟩ := nf.look l1
  have hx : ObjOk X.prog X.w H1 s1.heap dd (.xd xs) := I1.hok dd _ e1
  obtain ⟨mA, hns, hrr⟩ := hx
  obtain ⟨od, hod, hl⟩ := lookIn_ns hns
  obtain ⟨u2, hu, ru⟩ := RelO.some_of (v := v2) (o := mA n) (l2 ▸ hrr n)
  have J : PySem.W.InstAt s1.heap a oe C (some od) := ⟨ha, hz.1, (by unfold PySem.W.notCls; rw [hd] <;> rfl), (by rw [hz.2]; exact hod)⟩
  exact HandSPX.exc_get I1.kIn J x1.ga x1.gg x1.exC (PySem.W.findObj_own x1.hdC f1 rfl (by simp only [hl, hu])) (handed_of ru) ⟨v2, H1, I1.tok _, ru, kk v2 H1 x μ1 s1' h1 n2 q1⟩
end
end Hw
set_option Elab.async false
set_option linter.all false
set_option maxRecDepth 100000
set_option maxHeartbeats 1000000
namespace Hw
open PySem L2 PyProof.Rows PySem.Spec
/-! ### defs called within an except suite, that raise nothing -/
/-- the caught exception at a, its dict at dd, its class at C; the arguments; the store; the wish -/
abbrev CQ := Addr → Addr → Addr → List D → Mu → DP → Prop
/-- p is the caught exception -/
structure PinX (p : Addr × Obj) (a dd C : Addr) : Prop where
  at_ : p.1 = a
  z : Zc (.ref C) (some dd) p.2
  d : ∃ vs, p.2.data = .fields vs
structure FnQ (P : Program) (w : World) (K : PySem.W.Frag) (mg : Str → Option Value) (base : Heap) (k : Nat) (f : Addr) (fd : FuncData) (ps : List Str) (C : CQ) : Prop where
  len : ∀ a dd Cl xs μ R, C a dd Cl xs μ R → xs.length = ps.length
  run : ∀ (A : Around) (outer : List Env) (s : Shared) (H : Hp) (us : List Value) (vs : List V) (Q : VK) (p : Addr × Obj) (a dd Cl : Addr) (μ : Mu) (xs : List D) (R : DP), L2H.RoomH k A → L2H.PinOk outer H s p → PinX p a dd Cl → Env0 P w K mg base A outer s H → BindsTo s fd ⟨us, []⟩ (ps.zip us) → Vals vs us →
    Hold K μ H → DenAll K μ H vs xs → C a dd Cl xs μ R → (∀ v H' d μ', Stp μ H μ' H' → Hold K μ' H' → Den K μ' H' v d → R d μ' → Q v H') → codeAny (model P w) A (.call (.ref f) ⟨us, []⟩) (CR (L2.CX P w) outer P w H s Q (fun _ _ _ => False)) s
structure CalQ (P : Program) (w : World) (K : PySem.W.Frag) (mg : Str → Option Value) (base : Heap) (x : Str) (st : Stmt) (ps : List Str) (k : Nat) (C : CQ) : Prop where
  ex : ∃ f fd, FnQ P w K mg base k f fd ps C ∧ mg x = some (.ref f) ∧ PySem.W.keepIn K (.ref f) = true ∧ Binds K fd ps []
section
variable {P : Program} {w : World} {K : PySem.W.Frag} {mg : Str → Option Value} {base : Heap}
abbrev hotCx (P : Program) (w : World) (K : PySem.W.Frag) (mg : Str → Option Value) (base : Heap) (N : List Str) (x : Str) (st : Stmt) (f : Addr) (cdv : Value) (A : Around) (outer : List Env) (s : Shared) (H : Hp) (p : Addr × Obj) : Cx :=
  L2H.cxH (L2.CX P w) P w K mg base N x (defScope st) f cdv A outer s H (fun _ _ _ => False) p
theorem fn_okQ {x qual : Str} {st : Stmt} {f : Addr} {fd : FuncData} {N ps : List Str} {k : Nat} {C : CQ} (F : Fun K x qual st f fd) (S : FnScope N ps (defScope st)) (len : ∀ a dd Cl xs μ R, C a dd Cl xs μ R → xs.length = ps.length)
    (hbody : ∀ (a dd Cl : Addr) (xs : List D) (μ : Mu) (R : DP) (cdv : Value) (A : Around) (outer : List Env) (s : Shared) (H : Hp) (p : Addr × Obj), L2H.RoomH k (hotCx P w K mg base N qual st f cdv A outer s H p).A → Pin (hotCx P w K mg base N qual st f cdv A outer s H p) a dd Cl → C a dd Cl xs μ R →
      SSX (hotCx P w K mg base N qual st f cdv A outer s H p) noX μ (xs.map some ++ List.replicate (N.length - xs.length) none) (defBody st) { nx := fun _ μ' => R .non μ', rt := R }) :
    FnQ P w K mg base (k + 1) f fd ps C := by
  refine ⟨len, fun A outer s H us vs Q p a dd Cl μ xs R hr hpin px e0 hb r ho n c kR => ?_⟩
  obtain ⟨oc, od, kV, doc, pm, an, cdv, ct, osl, rfl, lk, hcd⟩ := F.ex
  have KX : K.In s.heap := e0.mod.kin.keeps fun b o e => (e0.bs b o e).1
  have lim : s.heap.NoLimit := e0.mod.nolimit.keeps fun b o e => (e0.bs b o e).1
  have hl : vs.length = ps.length := by rw [n.length]; exact len _ _ _ _ _ _ c
  refine codeAny_call_function hr.depth (KX _ _ lk) rfl S.co S.gen rfl (PySem.W.codeRec_of KX hcd) (hb _ _ _ _ ?_)
  refine wpAny_newFunctionEnv_cells S.kind (fun pr hy => (S.par pr.1 (List.of_mem_zip hy).1).imp id fun q => ⟨q, PySem.W.cellsFrom_some _ _ _ (.inl q)⟩) fun env he s1 y => ?_
  subst he
  refine ⟨lim.keeps y.toInCall.keep, codeAny_func ?_⟩
  have pin : Pin (hotCx P w K mg base N qual st f cdv A outer s H p) a dd Cl := by
    obtain ⟨vs, hv⟩ := px.d
    exact ⟨p.2, vs, by rw [← px.at_]; exact List.mem_singleton.mpr rfl, px.z, hv⟩
  have q := hbody a dd Cl xs μ R cdv A outer s H p (hr.deeper _) pin c
  have I := L2H.inv_startH (CX := L2.CX P w) (E := fun _ _ _ => False) S hpin e0 hl r y
  refine wpAny_mono (q.pss.run [] s1 (L2.start N vs) H { nx := fun _ H' => Q .non H', rt := Q } I ⟨ho, ⟨DenS.start n, Exc.no⟩, ⟨fun σ' H' ds' μ' s1 h1 n1 p => kR _ H' _ μ' s1 h1 .non p, kR, fun _ _ _ _ _ _ _ z => z.elim, fun _ _ _ _ _ _ _ z => z.elim⟩⟩) (fun fl s' hs => ?_) fun e s' hs => hs
  match fl, hs with
  | .ret u, ⟨v, σ', H', J, rv, z⟩ => exact ⟨v, H', J.os, J.bare, J.base, J.hok, rv, z⟩
  | .next, ⟨σ', H', J, z⟩ => exact ⟨.non, H', J.os, J.bare, J.base, J.hok, rfl, z⟩
  | .brk, ⟨_, _, _, z⟩ => exact z.elim
  | .cont, ⟨_, _, _, z⟩ => exact z.elim
theorem calQ_of {x : Str} {st : Stmt} {ps : List Str} {k : Nat} {C : CQ} (T : Tb K mg base) (F : FunAt K x st) (hb : BindOk x st ps) (h : ∀ f fd, Fun K x x st f fd → FnQ P w K mg base k f fd ps C) : CalQ P w K mg base x st ps k C := by
  obtain ⟨f, fd, a, F⟩ := F.ex
  exact ⟨f, fd, h f fd F, T.som a, F.kp, F.binds fun kV doc pm an cdv ct us hl => hb kV doc pm an cdv ct us hl⟩
end
section
variable {X : Cx} {PE : XP} {e : Expr} {es : List Expr} {μ : Mu} {ds : DS} {P : DP} {pos : Pos}
theorem ex_callQ {x : Str} {st : Stmt} {ps : List Str} {k : Nat} {C : CQ} {p : Pos} {a dd Cl : Addr} (c : CalQ X.prog X.w X.K X.mg X.base x st ps k C) (hr : L2H.RoomH k X.A) (pin : Pin X a dd Cl) (h : AX X PE μ ds (e :: es) fun xs μ1 => C a dd Cl xs μ1 P) (hg : Gl X x)
    (hdb : (x == ("__debug__" : Str)) = false := by decide) (he : starEach (e :: es) X.env = (false, eval e X.env) :: starEach es X.env := by rfl) (hpl : (backTo pos (starEach es X.env)).any (·.1) = false := by rfl) : EX X PE μ ds (.Call (.Name x p) (e :: es) [] pos) P := by
  obtain ⟨f, fd, F, hm, hk, hb⟩ := c.ex
  refine ⟨⟨fun pins s σ H Q I ⟨ho, hs, kk⟩ => wpAny_Call_Name_kw (ld_glob I hg hm ?_ hdb)⟩⟩
  refine PySem.W.callWith_K (h₀ := X.base) I.ok.mod.kin hk (thn (pa_U.run pos pins s σ H _ I (h.at ho hs fun vs H1 xs μ1 s1 h1 b1 n1 q => (⟨xs, μ1, s1, h1, n1, q⟩ : ∃ (xs : List D) (μ1 : Mu), Stp μ H μ1 H1 ∧ Hold X.K μ1 H1 ∧ DenAll X.K μ1 H1 vs xs ∧ C a dd Cl xs μ1 P))) fun us s1 ⟨vs, H1, I1, r, xs, μ1, st1, h1, n1, q⟩ => ⟨I1.kIn, ?_⟩) he hpl
  obtain ⟨oe, fv, hp, hz, hd⟩ := pin
  have hl : (us ++ []).length = ps.length := by rw [List.append_nil, ← r.length, n1.length]; exact F.len _ _ _ _ _ _ q
  have b := hb s1 us I1.kIn hl
  rw [List.append_nil] at b
  have p1 := I1.pin (a, oe) (List.mem_append_left _ hp)
  have pk : L2H.PinOk X.stack H1 s1 (a, oe) := ⟨p1.1, p1.2.1, fun hm => (List.mem_cons.mp (I1.stkSub _ hm)).elim p1.2.2.1 p1.2.2.2.1, p1.2.2.2.2⟩
  refine wpAny_call (codeAny_mono (F.run X.A X.stack s1 H1 us vs Q (a, oe) a dd Cl μ1 xs P hr pk ⟨rfl, hz, fv, hd⟩ I1.env0 b r h1 n1 q fun v H' d μ' s2 h2 n2 p2 => kk v H' d μ' (st1.trans s2) h2 n2 p2) fun rr s2 hq => ?_)
  match rr, hq with
  | .error er, hq => exact passes_call takesF (fun _ _ _ _ z => z) pins σ H1 s1 er s2 I1 hq
  | .ok (.ret u), hq => exact I1.after hq
end
end Hw
set_option Elab.async false
set_option linter.all false
set_option maxRecDepth 100000
set_option maxHeartbeats 1000000
namespace Hw
open PySem L2 PyProof.Rows PySem.Spec
/-! ### the end of a law that makes lambdas -/
/-- the store at the law's entry: the table of its code objects -/
def mu0 (T : Addr) (q : Str) : Mu := fun b => if b = T then some (.tbl q) else none
theorem mu0_at {T : Addr} {q : Str} : mu0 T q T = some (.tbl q) := if_pos rfl
theorem mu0_ne {T b : Addr} {q : Str} (h : b ≠ T) : mu0 T q b = none := if_neg h
section
variable {P : Program} {w : World} {K : PySem.W.Frag} {mg mb : Str → Option Value} {k : Nat} {fa a cd T : Addr} {fd : FuncData} {x q : Str} {C : CT} {s1 : Shared} {vs : List Value} {ns : List Int}
theorem law_coreT {H : Hp} (KX : K.In s1.heap) (hns : s1.heap.Ns mainGlobals mg) (hb : s1.heap.Ns builtinsNs mb) (hbb : ∀ x : Str, x ≠ "__name__" → mb x = bootBuiltins x) (hlim : s1.heap.NoLimit) (hgs : s1.gens = #[])
    (hbm : ∃ (bm : Addr) (ob : Obj), mg "__builtins__" = some (.ref bm) ∧ bm ≠ builtinsNs ∧ s1.heap.get? bm = some ob ∧ ob.cls = .type "module" ∧ ob.dict = some builtinsNs ∧ ob.data = .plain)
    (hT : s1.heap.get? T = some (PySem.W.tabObj #[])) (nT : K.lookup T = none) (hC : PySem.W.CodeHd s1.heap cd T)
    (ha : s1.heap.get? a = some { cls := .type "list", data := .seq vs.toArray }) (hr : Rm k callerA) (F : ∀ base : Heap, K.In base → base.Ns mainGlobals mg → LamX.TabB base mg cd T → FnG P w K mg base k fa fd [x] C) (hbind : ∀ (s : Shared) (u : Value), BindsTo s fd ⟨[u], []⟩ [(x, u)])
    (hCt : C [.rol (ns.map .int)] (mu0 T q) (fun d _ => d = .bl true) noX) (hS : Den K (mu0 T q) H (.ref a) (.rol (ns.map .int))) (hok : HOk P w H s1.heap) (HT : H T = some (.tbl #[]))
    (only : ∀ b u, H b = some u → (b = T ∧ u = .tbl #[]) ∨ (b = a ∧ K.lookup a = none ∧ ∃ o xs, u = .frz o (.lst xs))) : codeAny (model P w) callerA (.call (.ref fa) ⟨[.ref a], []⟩) (Done s1) s1 := by
  -- the ground: all that is neither the script nor the table
  have ground : ∀ {b : Addr} {o : Obj}, s1.heap.get? b = some o → o.data ≠ .seq vs.toArray → o.data ≠ .fields #[] → (hidT s1.heap H).get? b = some o := fun {b o} e n1 n2 => hidT_get e (by
    cases z : H b with
    | none => rfl
    | some u =>
      rcases only b u z with ⟨rfl, _⟩ | ⟨rfl, _⟩
      · rw [hT] at e; cases e; exact (n2 rfl).elim
      · rw [ha] at e; cases e; exact (n1 rfl).elim)
  have dic : ∀ {b : Addr} {m : Str → Option Value}, s1.heap.Ns b m → (hidT s1.heap H).Ns b m := fun {b m} ⟨o, es, ep, e, d, r⟩ => ⟨o, es, ep, ground e (by rw [d]; nofun) (by rw [d]; nofun), d, r⟩
  have kin : K.In (hidT s1.heap H) := fun b o e => by
    cases z : H b with
    | none => exact hidT_get (KX b o e) z
    | some u =>
      rcases only b u z with ⟨rfl, _⟩ | ⟨rfl, z2, _⟩
      · rw [nT] at e; cases e
      · rw [z2] at e; cases e
  have hM : Mod K mg (hidT s1.heap H) := ⟨kin, dic hns, ⟨mb, dic hb, hbb⟩, by obtain ⟨mc, h1, h2⟩ := hlim; exact ⟨mc, dic h1, h2⟩⟩
  have TB : LamX.TabB (hidT s1.heap H) mg cd T := by
    refine ⟨?_, ?_, fun z => ?_⟩
    · obtain ⟨o, us, fl, tf, gs, tg, inF, text, tt, e1, r1, r2, r3, r⟩ := hC
      exact ⟨o, us, fl, tf, gs, tg, inF, text, tt, ground e1 (by rw [r2]; nofun) (by rw [r2]; intro z; cases z; simp at r3), r1, r2, r3, r⟩
    · obtain ⟨bm, ob, b1, b2, b3, b4, b5, b6⟩ := hbm
      refine ⟨bm, ob, b1, b2, fun z => ?_, fun z => ?_, ground b3 (by rw [b6]; nofun) (by rw [b6]; nofun), b4, b5, b6⟩
      · obtain ⟨o, es, ep, e, d, _⟩ := hns
        rw [z, e] at b3; cases b3; rw [d] at b6; cases b6
      · rw [z, hT] at b3; cases b3; cases b6
    · obtain ⟨o, es, ep, e, d, _⟩ := hns
      rw [z, hT] at e; cases e; cases d
  have e0 : Env0 P w K mg (hidT s1.heap H) callerA [] s1 H := { frames := rfl, mod := hM, bs := fun b o e => of_hidT e, bsz := by rw [hidT_size]; exact Nat.le_refl _, funs := trivial, frf := fun b hb => absurd hb (by simp [frs]), hok := hok, bare := .of_eq hgs }
  have hold : Hold K (mu0 T q) H := fun b c e => by
    by_cases hb : b = T
    · subst hb
      rw [mu0_at] at e; cases e
      exact ⟨#[], HT, True.intro, fun pos cv hc => by
        have z : codeAmong pos [] = some cv := hc
        simp [codeAmong] at z⟩
    · rw [mu0_ne hb] at e; cases e
  refine codeAny_mono ((F _ kin (dic hns) TB).run callerA [] s1 H ⟨[.ref a], []⟩ [.ref a] [.ref a] (fun v _ => v = .bl true) (fun _ _ _ => False) hr e0 (hbind s1 (.ref a)) (.cons rfl .nil)
    ⟨mu0 T q, [.rol (ns.map .int)], fun d _ => d = .bl true, noX, hold, .cons hS .nil, hCt, fun v H' d μ' _ _ n p => by subst p; exact n.inv_bl, fun Ca dd H' fs vfs μ' _ _ _ _ p => False.elim p⟩) fun r s' h => ?_
  match r, h with
  | .error e, ⟨_, _, _, _, _, _, _, _, _, _, _, _, h⟩ => exact False.elim h
  | .ok (.ret u), ⟨v, H', os, bare, un, hok', r', z⟩ =>
    subst z
    cases r'
    have stays : ∀ b o, b ≠ T → s1.heap.get? b = some o → s'.heap.get? b = some o := fun b o nb e => by
      cases z : H b with
      | none => exact un.keep b o e z (by simp [frs]) (by simp)
      | some u =>
        rcases only b u z with ⟨rfl, _⟩ | ⟨_, _, ob, xs, rfl⟩
        · exact (nb rfl).elim
        · have y1 := (hok b _ z).1
          have y2 := (hok' b _ (un.frzs b ob _ z)).1
          rw [e] at y1; cases y1
          exact y2
    obtain ⟨more, hm⟩ := un.tbls T #[] HT
    have grown := hok' T _ hm
    refine ⟨rfl, ⟨fun b o e => ?_, fun b o e => ?_⟩, os, bare⟩
    · by_cases hb : b = T
      · subst hb
        rw [hT] at e; cases e
        exact .inr (.inl ⟨(hC.tab hT).isCodeTable, rfl, #[], more, rfl, grown⟩)
      · exact .inl (stays b o hb e)
    · by_cases hb : b = T
      · subst hb; exact ⟨_, grown⟩
      · exact ⟨o, stays b o hb e⟩
theorem law_endT (KX : K.In s1.heap) (hns : s1.heap.Ns mainGlobals mg) (hb : s1.heap.Ns builtinsNs mb) (hbb : ∀ x : Str, x ≠ "__name__" → mb x = bootBuiltins x) (hlim : s1.heap.NoLimit) (hgs : s1.gens = #[])
    (hbm : ∃ (bm : Addr) (ob : Obj), mg "__builtins__" = some (.ref bm) ∧ bm ≠ builtinsNs ∧ s1.heap.get? bm = some ob ∧ ob.cls = .type "module" ∧ ob.dict = some builtinsNs ∧ ob.data = .plain)
    (hT : s1.heap.get? T = some (PySem.W.tabObj #[])) (nT : K.lookup T = none) (hC : PySem.W.CodeHd s1.heap cd T)
    (ha : s1.heap.get? a = some { cls := .type "list", data := .seq vs.toArray }) (hi : IntsAre vs ns) (hl : ns.length ≤ sizeLine) (hr : Rm k callerA)
    (F : ∀ base : Heap, K.In base → base.Ns mainGlobals mg → LamX.TabB base mg cd T → FnG P w K mg base k fa fd [x] C) (hbind : ∀ (s : Shared) (u : Value), BindsTo s fd ⟨[u], []⟩ [(x, u)])
    (hCt : C [.rol (ns.map .int)] (mu0 T q) (fun d _ => d = .bl true) noX) : codeAny (model P w) callerA (.call (.ref fa) ⟨[.ref a], []⟩) (Done s1) s1 := by
  have rv := vals_ints hi
  have den : ∀ H, DenAll K (mu0 T q) H (ns.map V.int) (ns.map .int) := fun H => by
    clear ha hi hl rv hCt
    induction ns with
    | nil => exact .nil
    | cons n r ih => exact .cons (.int n) ih
  have aT : a ≠ T := fun z => by rw [z, hT] at ha; cases ha
  have tb : ∀ {b : Addr} {u : HO}, (if b = T then some (HO.tbl #[]) else none) = some u → b = T ∧ u = .tbl #[] := fun {b u} z => by
    by_cases hb : b = T
    · rw [if_pos hb] at z; cases z; exact ⟨hb, rfl⟩
    · rw [if_neg hb] at z; cases z
  cases hk : K.lookup a with
  | some o =>
    have e := KX a o hk
    rw [ha] at e
    cases e
    refine law_coreT (H := fun b => if b = T then some (.tbl #[]) else none) KX hns hb hbb hlim hgs hbm hT nT hC ha hr F hbind hCt (.rolK (fun H' => .inr ⟨_, vs.toArray, _, hk, rfl, rfl, rfl, by rw [List.size_toArray, hi.length]; exact hl, by simpa using rv⟩) (den _)) (fun b u z => ?_) (if_pos rfl) fun b u z => .inl (tb z)
    obtain ⟨rfl, rfl⟩ := tb z
    exact hT
  | none =>
    have two : ∀ {b : Addr} {u : HO}, (if b = a then some (HO.frz { cls := .type "list", data := .seq vs.toArray } (.lst (ns.map V.int))) else if b = T then some (HO.tbl #[]) else none) = some u → (b = T ∧ u = .tbl #[]) ∨ (b = a ∧ u = .frz { cls := .type "list", data := .seq vs.toArray } (.lst (ns.map V.int))) := fun {b u} z => by
      by_cases hb : b = a
      · rw [if_pos hb] at z; cases z; exact .inr ⟨hb, rfl⟩
      · rw [if_neg hb] at z; exact .inl (tb z)
    refine law_coreT (H := fun b => if b = a then some (.frz { cls := .type "list", data := .seq vs.toArray } (.lst (ns.map V.int))) else if b = T then some (.tbl #[]) else none) KX hns hb hbb hlim hgs hbm hT nT hC ha hr F hbind hCt (.rol (mu0_ne aT) (.inr ⟨_, if_pos rfl⟩) (den _)) (fun b u z => ?_) (by show (if T = a then _ else if T = T then _ else _) = _; rw [if_neg (Ne.symm aT), if_pos rfl]) fun b u z => ?_
    · rcases two z with ⟨rfl, rfl⟩ | ⟨rfl, rfl⟩
      · exact hT
      · exact ⟨ha, by rw [List.length_map]; exact hl, vs, _, rv, ha⟩
    · rcases two z with ⟨rfl, rfl⟩ | ⟨rfl, rfl⟩
      · exact .inl ⟨rfl, rfl⟩
      · exact .inr ⟨rfl, hk, _, _, rfl⟩
end
/-- the goal that the head leaves, for a law that makes lambdas -/
theorem walk_endT {l : PySem.W.OpenLaw} {n k : Nat} {q : Program} {loose : List Str} {XP : (Str → Option Value) → Heap → Prop} {YP : World → Heap → Prop} {d : DefRec} {K : Params → PySem.W.Frag} {x tq : Str} {C : Addr → CT}
    (hn : l.most = some n) (hn2 : n ≤ sizeLine) (hdf : d.params.defaults = []) (hr : Rm k callerA) (hY : ∀ (w : World) (h : Heap), YP w h → (K w.params).In h)
    (F : ∀ (w : World) (mg : Str → Option Value) (fa : Addr) (h : Heap), YP w h → (K w.params).In h → h.Ns mainGlobals mg → mg d.name = some (.ref fa) →
      ∃ (cd T : Addr) (fd : FuncData), h.get? T = some (PySem.W.tabObj #[]) ∧ List.lookup T (K w.params) = none ∧ PySem.W.CodeHd h cd T ∧ (∀ (s : Shared) (u : Value), BindsTo s fd ⟨[u], []⟩ [(x, u)]) ∧
        ∀ base : Heap, (K w.params).In base → base.Ns mainGlobals mg → LamX.TabB base mg cd T → FnG l.prog w (K w.params) mg base k fa fd [x] (C T))
    (hC : ∀ (T : Addr) (ns : List Int), ns.length ≤ n → (∀ z ∈ ns, Builtin.Int.intBits z ≤ 1048576) → C T [.rol (ns.map .int)] (mu0 T tq) (fun d _ => d = .bl true) noX) :
    PySem.W.WalkO q loose XP YP l.row.toRowW d [] (fun f vs => PySem.call f vs) := by
  refine Att.attach_callB hn hdf fun w s0 s1 mg mb fa o pm cd doc a vs ns G Y ho hd hcd hmg hobj hints hlen hbits hg => ?_
  obtain ⟨cd, T, fd, h1, h2, h3, hb, hF⟩ := F w mg fa _ Y (hY w _ Y) G.T.g hmg
  exact law_endT (hY w _ Y) G.T.g G.T.b G.T.builtins G.T.nolimit hg G.T.bmain h1 h2 h3 hobj hints (Nat.le_trans hlen hn2) hr hF hb (hC T ns hlen hbits)
end Hw
set_option Elab.async false
set_option linter.all false
set_option maxRecDepth 100000
set_option maxHeartbeats 1000000
namespace Hw
open PySem L2 PyProof.Rows PySem.Spec
/-! ### the law's own def, its code object told -/
structure FunC (K : PySem.W.Frag) (x : Str) (st : Stmt) (f cd : Addr) (fd : FuncData) : Prop where
  ex : ∃ (oc : Value) (od : Option Addr) (kV doc pm : Value) (an : Option Addr) (ct : Value) (osl : Array (Option Value)),
    fd = PySem.W.fnOf x x (defArgs st) (defBody st) (defScope st) .none kV doc pm an (.ref cd) ct ∧ K.lookup f = some ⟨oc, od, .func fd, osl⟩ ∧ PySem.W.codeIn K (.ref cd) x = true
structure FunAtC (K : PySem.W.Frag) (x : Str) (st : Stmt) (cd T : Addr) : Prop where
  ex : ∃ f fd, PySem.W.nsIn K mainGlobals x = some (some (.ref f)) ∧ FunC K x st f cd fd
  hd : PySem.W.codeHdIn K cd T = true
  no : List.lookup T K = none
theorem FunAtC.mk' {K : PySem.W.Frag} {x : Str} {st : Stmt} {f cd T : Addr} {oc : Value} {od an : Option Addr} {osl : Array (Option Value)} {kV doc pm ct ccl : Value} {cdd : Option Addr} {cvs : Array Value} {ccs : Array (Option Value)} (a : PySem.W.nsIn K mainGlobals x = some (some (.ref f)))
    (l : K.lookup f = some ⟨oc, od, .func (PySem.W.fnOf x x (defArgs st) (defBody st) (defScope st) .none kV doc pm an (.ref cd) ct), osl⟩) (c : PySem.W.codeIn K (.ref cd) x = true) (lc : K.lookup cd = some ⟨ccl, cdd, .fields cvs, ccs⟩) (ht : cvs[11]? = some (.ref T)) (hd : PySem.W.codeHdIn K cd T = true) (no : List.lookup T K = none) : FunAtC K x st cd T :=
  ⟨⟨f, _, a, oc, od, kV, doc, pm, an, ct, osl, rfl, l, c⟩, hd, no⟩
section
variable {P : Program} {w : World} {K : PySem.W.Frag} {mg : Str → Option Value} {base : Heap}
theorem fn_okC {x : Str} {st : Stmt} {f cd : Addr} {fd : FuncData} {N ps : List Str} {k : Nat} {C : CT} (F : FunC K x st f cd fd) (S : FnScope N ps (defScope st)) (len : ∀ xs μ R RE, C xs μ R RE → xs.length = ps.length)
    (hbody : ∀ (xs : List D) (μ : Mu) (R : DP) (PE : XP) (A : Around) (outer : List Env) (s : Shared) (H : Hp) (E : XK), Rm k (bodyCx P w K mg base N x st f (.ref cd) A outer s H E).A → C xs μ R PE →
      SSX (bodyCx P w K mg base N x st f (.ref cd) A outer s H E) PE μ (xs.map some ++ List.replicate (N.length - xs.length) none) (defBody st) { nx := fun _ μ' => R .non μ', rt := R }) :
    FnG P w K mg base (k + 1) f fd ps C := by
  refine ⟨len, fun A outer s H args us vs Q E hr e0 hb r h => ?_⟩
  have hl : vs.length = ps.length := by
    obtain ⟨μ, xs, R, PE, ho, n, c, _⟩ := h
    rw [n.length]
    exact len xs μ R PE c
  obtain ⟨oc, od, kV, doc, pm, an, ct, osl, rfl, lk, hcd⟩ := F.ex
  refine LamX.run_ofS lk hcd S hr.r e0 hb r hl fun hr' => ?_
  obtain ⟨μ, xs, R, PE, ho, n, c, kR, kE⟩ := h
  have q := hbody xs μ R PE A outer s H E ⟨hr', hr.g⟩ c
  refine ⟨_, q.pss, ho, ⟨DenS.start n, fun Ca dd H' fs vfs μ' σ s2 h2 e2 n2 p2 => wx_leave (takes_of rfl rfl rfl rfl) (kE Ca dd H' fs vfs μ' s2 h2 e2 n2 p2)⟩, ?_⟩
  exact ⟨fun σ' H' ds' μ' s1 h1 n1 p => kR _ H' _ μ' s1 h1 .non p, fun v H' d μ' s1 h1 n1 p => kR v H' d μ' s1 h1 n1 p, fun _ _ _ _ _ _ _ p => p.elim, fun _ _ _ _ _ _ _ p => p.elim⟩
theorem law_fnT {h : Heap} {fa cd T : Addr} {st : Stmt} {p : Str} {k : Nat} {C : Addr → CT} (Tb0 : Tb K mg h) (F : FunAtC K "law" st cd T) (hfa : mg "law" = some (.ref fa)) (tabs : h.get? T = some (PySem.W.tabObj #[])) (hb : ∀ (kV doc pm : Value) (an : Option Addr) (ct u : Value), bindArgs (PySem.W.fnOf "law" "law" (defArgs st) (defBody st) (defScope st) .none kV doc pm an (.ref cd) ct) ⟨[u], []⟩ = pure [(p, u)])
    (ok : ∀ base f fd, Tb K mg base → LamX.TabB base mg cd T → FunC K "law" st f cd fd → FnG P w K mg base k f fd [p] (C T)) :
    ∃ (cd T : Addr) (fd : FuncData), h.get? T = some (PySem.W.tabObj #[]) ∧ List.lookup T K = none ∧ PySem.W.CodeHd h cd T ∧ (∀ (s : Shared) (u : Value), BindsTo s fd ⟨[u], []⟩ [(p, u)]) ∧
        ∀ base : Heap, K.In base → base.Ns mainGlobals mg → LamX.TabB base mg cd T → FnG P w K mg base k fa fd [p] (C T) := by
  obtain ⟨f, fd, a, F1⟩ := F.ex
  have e := hfa.symm.trans (Tb0.som a)
  cases e
  refine ⟨cd, T, fd, tabs, F.no, PySem.W.codeHd_of_K Tb0.b F.hd, fun s u => ?_, fun base b g t => ok base _ _ ⟨b, g⟩ t F1⟩
  obtain ⟨oc, od, kV, doc, pm, an, ct, osl, e, _, _⟩ := F1.ex
  subst e
  exact .of_eq (hb kV doc pm an ct u)
end
/-! ### classes of exceptions -/
structure BasC (K : PySem.W.Frag) (C : Addr) : Prop where
  c : (PySem.W.clsIn K C).isSome = true
  t : PySem.W.typeIn K (.ref C) = some (.type "type")
  b : PySem.W.subIn K (.ref C) (.type "BaseException") = some true
theorem BasC.mk' {K : PySem.W.Frag} {C : Addr} {cd : ClassData} (c : PySem.W.clsIn K C = some cd) (t : PySem.W.typeIn K (.ref C) = some (.type "type")) (b : PySem.W.subIn K (.ref C) (.type "BaseException") = some true) : BasC K C := ⟨by rw [c]; rfl, t, b⟩
theorem BasC.one {K : PySem.W.Frag} {C D : Addr} {z : Bool} (B : BasC K C) (h : PySem.W.subIn K (.ref D) (.ref C) = some z) : PySem.W.exmOne K (.ref D) (.ref C) = some z := by
  unfold PySem.W.exmOne PySem.W.kitCls
  rw [B.b]
  simp only [B.c, B.t, h]
  rfl
theorem exm3 {K : PySem.W.Frag} {D c1 c2 c3 : Addr} {z1 z2 z3 : Bool} (b1 : BasC K c1) (b2 : BasC K c2) (b3 : BasC K c3) (h1 : PySem.W.subIn K (.ref D) (.ref c1) = some z1) (h2 : PySem.W.subIn K (.ref D) (.ref c2) = some z2) (h3 : PySem.W.subIn K (.ref D) (.ref c3) = some z3) :
    PySem.W.exmAny K (.ref D) [.ref c1, .ref c2, .ref c3] = some (z1 || (z2 || (z3 || false))) := by
  simp only [PySem.W.exmAny, b1.one h1, b2.one h2, b3.one h3]
/-- an own exception class of one field, by flat facts -/
theorem Exc1.mk' {P : Program} {K : PySem.W.Frag} {x qual fld prm text : Str} {st : Stmt} {D f cda cc : Addr} {nm q : Str} {N0 : Addr} {bs bm : List Value} {sn : List Str} {sub : List Value} {ab : Bool} {col : Option Bool} {dd : Option Addr} {k0 k1 k2 k3 k5 : Option Value} {cd : ClassData}
    {oc ccl cl kV doc pm ct : Value} {od cdd cld an : Option Addr} {osl ccs csl : Array (Option Value)} {vs : Array Value} {file : Str} {tf : Tok}
    (lC : K.lookup D = some (excClassObj nm q D N0 bs bm true sn sub ab col dd k0 k1 k2 k3 k5 "ValueError.__new__")) (hbm : PySem.HandSPX.refsVE bm = true) (sa : PySem.W.findIn K (.ref D) "__setattr__" = some (some (.builtin "object.__setattr__"))) (exC : PySem.W.subIn K (.ref D) (.type "BaseException") = some true)
    (tyC : PySem.W.typeIn K (.ref D) = some (.type "type")) (kC : PySem.W.keepIn K (.ref D) = true) (cls : PySem.W.clsIn K D = some cd) (mro : PySem.W.mroIn K D (.ref D) = some true) (sup : PySem.W.ks_superIn K D D "__init__" = some (some (.builtin "ValueError.__init__"))) (isV : PySem.W.subIn K (.ref D) (.type "ValueError") = some true)
    (any : PySem.W.nsIn K cStatics "thirdparty.any" = some none) (blt : PySem.W.nsIn K mainGlobals "super" = some none) (nc : PySem.W.findIn K (.ref D) "code" = some none) (nf : PySem.W.findIn K (.ref D) fld = some none)
    (iC : PySem.W.findIn K (.ref D) "__init__" = some (some (.ref f))) (tI : PySem.W.typeIn K (.ref f) = some (.type "function"))
    (lf : K.lookup f = some ⟨oc, od, .func (PySem.W.ksFn "__init__" qual (defArgs st) (defBody st) (defScope st) .none kV doc pm an (.ref cda) ct cc), osl⟩) (cI : PySem.W.codeIn K (.ref cda) qual = true) (lc : K.lookup cda = some ⟨ccl, cdd, .fields vs, ccs⟩) (hv : vs[2]? = some (.str file tf)) (hfile : ((P.main.file : Str) == file) = true)
    (lcc : K.lookup cc = some ⟨cl, cld, .cell (some (.ref D)), csl⟩) : Exc1 P K x qual fld prm text st D :=
  ⟨⟨⟨⟨nm, q, N0, bs, bm, sn, sub, ab, col, dd, k0, k1, k2, k3, k5, lC, hbm⟩, sa, exC, tyC, kC⟩, ⟨cd, cls⟩, mro, sup, isV, any, blt, nc⟩, nf, f, _, cda, cc, ⟨oc, ccl, cl, kV, doc, pm, ct, od, cdd, cld, an, osl, ccs, csl, vs, file, tf, rfl, lf, cI, lc, hv, hfile, lcc⟩, iC, tI⟩
/-- the i-th statement of a class -/
def methS (st : Stmt) (i : Nat) : Stmt := match st with
  | .ClassDef _ _ _ body _ _ _ _ _ _ _ => body.getD i (.Pass ⟨0, 0, 0, 0⟩)
  | _ => .Pass ⟨0, 0, 0, 0⟩
/-- the law itself, where it makes lambdas (their table at T) -/
def lawCT (T : Addr) : CT := fun xs μ P PE => ∃ ns : List Int, xs = [.rol (ns.map .int)] ∧ ns.length ≤ 63 ∧ (∀ z ∈ ns, Builtin.Int.intBits z ≤ 1048576) ∧ μ = mu0 T "law.<locals>.<lambda>" ∧ ∀ μ', P (.bl true) μ'
end Hw
set_option Elab.async false
set_option linter.all false
set_option maxRecDepth 100000
set_option maxHeartbeats 1000000
namespace Hw
open PySem L2 PyProof.Rows PySem.Spec
/-! ### a lambda with one parameter that has a whole number as its default -/
abbrev dfObj (q : Str) (params : Arguments) (body : Expr) (scope : Scope) (cl : List (Str × Addr)) (T0 : Addr) (doc pm : Value) (c' : Addr) (ctv : Value) : Obj := PySem.W.kdv_obj "<lambda>" q params (.expr body) scope cl (.ref T0) doc pm c' ctv
section
variable {X : Cx} {pins : List (Addr × Obj)} {σ : L2.St} {H : Hp} {s : Shared}
theorem lamD_make {cd T : Addr} {q : Str} {params : Arguments} {body : Expr} {scope : Scope} {pos p0 : Pos} {i0 : Int} {j0 : Nat} {E : Value → Shared → Prop} {Q : Value → Shared → Prop} (I : Inv X pins σ H s) (TB : LamX.TabB X.base X.mg cd T) (hcode : X.env.code = .ref cd)
    (hq : q = X.env.qual ++ "<lambda>") (hT : LamX.TabS H T q) (hd : params.defaults = [.Constant (.int i0) j0 p0]) (hk0 : params.kw_defaults = []) (hfree : ∀ y ∈ scope.names, y.2 = .free → ∃ c, X.env.cells.lookup y.1 = some c)
    (h : ∀ (f c' T0 : Addr) (tk : Tok) (pm ctv doc : Value) (G : Hp) (s' : Shared), Inv X pins σ G s' → LamX.ExtN H G → LamX.TabS G T q → s'.heap.get? f = some (dfObj q params body scope (cloFrom X.env.cells scope.names []) T0 doc pm c' ctv) →
      s'.heap.get? T0 = some (PySem.W.kdv_tup [.int i0 tk]) → G f = none → G T0 = none → f ∉ frs X.stack → T0 ∉ frs X.stack → G c' = some (LamX.CodeO c' q) → Q (.ref f) s') :
    wpAny (model X.prog X.w) X.A (eval (.Lambda params body scope pos) X.env) Q E s := by
  subst hq
  refine PySem.W.kdv_lam (by rw [hd]; rfl) hk0 ?_
  rw [hd]
  refine PySem.W.kdv_all1 (wpAny_Constant_int (PySem.W.kdv_all0 ?_))
  rw [makeFunction_eq]
  simp only [List.zip_nil_right, List.filterMap_nil, List.isEmpty_nil, List.isEmpty_cons, if_true, Bool.false_eq_true, if_false]
  refine wpAny_bind (wpAny_newTextTuple ?_)
  have up0 : ∀ b o, s.heap.get? b = some o → (s.heap.push (PySem.W.kdv_tup [.int i0 s.toks])).get? b = some o := fun b o e => Heap.get?_push_of_some _ e
  have I1 : Inv X pins σ H { s with heap := s.heap.push (PySem.W.kdv_tup [.int i0 s.toks]), toks := s.toks + 1 } := I.kept up0
  have t0 : (s.heap.push (PySem.W.kdv_tup [.int i0 s.toks])).get? s.heap.objs.size = some (PySem.W.kdv_tup [.int i0 s.toks]) := Heap.get?_push_at rfl rfl
  have psz : (s.heap.push (PySem.W.kdv_tup [.int i0 s.toks])).objs.size = s.heap.objs.size + 1 := Heap.size_push ..
  have far : ∀ b, s.heap.objs.size ≤ b → b ∉ frs X.stack := fun b hb z => by
    rcases List.mem_cons.mp (I.stkSub _ z) with e | e
    · have := I.lt
      rw [← e] at this
      exact Nat.lt_irrefl _ (Nat.lt_of_lt_of_le this hb)
    · exact I.nofs hb e
  obtain ⟨ps, hP, ht, ha⟩ := hT
  have tb1 := I1.hok T _ hP
  have bm1 : ({ s with heap := s.heap.push (PySem.W.kdv_tup [.int i0 s.toks]), toks := s.toks + 1 } : Shared).heap.BuiltinsAt X.mg T := TB.bm.keeps I1.bk
  have h0 : H s.heap.objs.size = none := I.hok.fresh (Nat.le_refl _)
  cases hc : codeAmong pos ps.toList with
  | none =>
    refine PySem.W.kdv_makeTail (mg := X.mg) (c := cd) (P := T) (ps := ps) (closure_ok hfree) I1.ok.glob (I1.mod.glob.keeps I1.bk) hcode (TB.code.keeps I1.bk) tb1 ht hc TB.gP bm1 fun c' ctv doc h' tk hx hge hlt hrec htb => ?_
    obtain ⟨c2, oc, vs, t, e2, hoc, hdd, hv⟩ := hrec
    cases e2
    have hc2 : s.heap.objs.size ≤ c' := Nat.le_trans (by show s.heap.objs.size ≤ (s.heap.push (PySem.W.kdv_tup [.int i0 s.toks])).objs.size; rw [psz]; omega) hge
    have sz : s.heap.objs.size ≤ h'.objs.size := Nat.le_trans hc2 (Nat.le_of_lt hlt)
    have nC : H c' = none := I.hok.fresh hc2
    have J := LamX.inv_table (t' := tk) (more := #[rawInt pos.line, rawInt pos.col, .ref c']) (h' := h'.push (dfObj (X.env.qual ++ "<lambda>") params body scope (cloFrom X.env.cells scope.names []) s.heap.objs.size doc ((X.mg "__name__").getD .none) c' ctv)) I1 hP
      (fun b o hb e => Heap.get?_push_of_some _ (hx b o hb e)) (Heap.get?_push_of_some _ htb) hge ⟨oc, vs, t, Heap.get?_push_of_some _ hoc, hdd, hv⟩
    have nPT : ∀ b, s.heap.objs.size ≤ b → b ≠ T := fun b hb z => by
      have := I.hok.fresh (a := T) (by rw [← z]; exact hb)
      rw [hP] at this; cases this
    have grow : LamX.ExtN H (upd (upd H T (.tbl (ps ++ #[rawInt pos.line, rawInt pos.col, .ref c']))) c' (LamX.CodeO c' (X.env.qual ++ "<lambda>"))) := fun b o e n => by
      rw [upd_ne (ne_of_none e nC), upd_ne (fun z : b = T => n ps (by rw [z, hP] at e; exact (Option.some.inj e).symm))]
      exact e
    have tl : (ps ++ #[rawInt pos.line, rawInt pos.col, .ref c']).toList = ps.toList ++ [rawInt pos.line, rawInt pos.col, .ref c'] := by simp
    have gone : ∀ b, s.heap.objs.size ≤ b → b ≠ c' → (upd (upd H T (.tbl (ps ++ #[rawInt pos.line, rawInt pos.col, .ref c']))) c' (LamX.CodeO c' (X.env.qual ++ "<lambda>"))) b = none := fun b hb hn => by
      rw [upd_ne hn, upd_ne (nPT b hb)]
      exact I.hok.fresh hb
    refine h h'.objs.size c' s.heap.objs.size s.toks ((X.mg "__name__").getD .none) ctv doc _ _ J grow ⟨_, by rw [upd_ne (Ne.symm (nPT c' hc2)), upd_same], by rw [tl]; exact PySem.TriplesOk_snoc _ _ _ _ ht, fun p' cv hcv => ?_⟩ (Heap.get?_push_size _ rfl) ?_ (gone _ sz (Nat.ne_of_gt hlt)) (gone _ (Nat.le_refl _) ?_) (far _ sz) (far _ (Nat.le_refl _)) upd_same
    · rw [tl] at hcv
      rcases LamX.among_app _ ht hcv with z | z
      · obtain ⟨c0, e1, e2⟩ := ha p' cv z
        exact ⟨c0, e1, grow _ _ e2 LamX.codeO_ne⟩
      · exact ⟨c', z, upd_same⟩
    · exact Heap.get?_push_of_some _ (hx _ _ (nPT _ (Nat.le_refl _)) t0)
    · have : s.heap.objs.size < c' := Nat.lt_of_lt_of_le (by show s.heap.objs.size < (s.heap.push (PySem.W.kdv_tup [.int i0 s.toks])).objs.size; rw [psz]; omega) hge
      exact Nat.ne_of_lt this
  | some cv =>
    obtain ⟨c', e, hco⟩ := ha pos cv hc
    subst e
    refine PySem.W.kdv_makeTailHit (mg := X.mg) (c := cd) (P := T) (ps := ps) (closure_ok hfree) I1.ok.glob (I1.mod.glob.keeps I1.bk) hcode (TB.code.keeps I1.bk) tb1 ht hc bm1 fun ctv doc h' tk hx hsz => ?_
    have sz : s.heap.objs.size ≤ h'.objs.size := Nat.le_trans (by show s.heap.objs.size ≤ (s.heap.push (PySem.W.kdv_tup [.int i0 s.toks])).objs.size; rw [psz]; omega) hsz
    have J : Inv X pins σ H { s with heap := h'.push (dfObj (X.env.qual ++ "<lambda>") params body scope (cloFrom X.env.cells scope.names []) s.heap.objs.size doc ((X.mg "__name__").getD .none) c' ctv), toks := tk } := I.kept fun b o e => Heap.get?_push_of_some _ (hx b o (up0 b o e))
    exact h h'.objs.size c' s.heap.objs.size s.toks _ ctv doc H _ J (LamX.ExtN.refl H) ⟨ps, hP, ht, ha⟩ (Heap.get?_push_size _ rfl) (Heap.get?_push_of_some _ (hx _ _ t0)) (I.hok.fresh sz) h0 (far _ sz) (far _ (Nat.le_refl _)) hco
end
end Hw
set_option Elab.async false
set_option linter.all false
set_option maxRecDepth 100000
set_option maxHeartbeats 1000000
namespace Hw
open PySem L2 PyProof.Rows PySem.Spec
/-- names of a lambda with the parameter prm: it is none of the def's own slots N -/
structure LamD (N : List Str) (sc scope : Scope) (prm : Str) : Prop where
  kind : scope.kind = .function
  co : scope.isCoroutine = false
  gen : scope.isGenerator = false
  noC : ∀ y ∈ scope.names, y.2 ≠ .cell
  loc : ∀ y ∈ scope.names, y.2 = .local → y.1 ∉ N
  par : scope.names.lookup prm = some .local
  free : ∀ y ∈ scope.names, y.2 = .free → sc.names.lookup y.1 = some .cell ∨ sc.names.lookup y.1 = some .free
def lamDB (N : List Str) (sc scope : Scope) (prm : Str) : Bool :=
  decide (scope.kind = .function) && (!scope.isCoroutine && (!scope.isGenerator && (decide (scope.names.lookup prm = some .local) && scope.names.all fun y => !decide (y.2 = .cell) && ((!decide (y.2 = .local) || decide (y.1 ∉ N)) &&
    (!decide (y.2 = .free) || (decide (sc.names.lookup y.1 = some .cell) || decide (sc.names.lookup y.1 = some .free)))))))
theorem lamD_by {N : List Str} {sc scope : Scope} {prm : Str} (h : lamDB N sc scope prm = true) : LamD N sc scope prm := by
  unfold lamDB at h
  simp only [Bool.and_eq_true, Bool.or_eq_true, Bool.not_eq_true', decide_eq_true_eq, decide_eq_false_iff_not, List.all_eq_true] at h
  obtain ⟨h1, h2, h3, h4, h5⟩ := h
  exact ⟨h1, h2, h3, fun y hy => (h5 y hy).1, fun y hy e => ((h5 y hy).2.1).resolve_left (fun q => q e), h4, fun y hy e => ((h5 y hy).2.2).resolve_left (fun q => q e)⟩
theorem LamD.has {X : Cx} {scope : Scope} {prm : Str} (L : LamD X.N X.env.scope scope prm) (ok : X.Ok) : ∀ y ∈ scope.names, y.2 = .free → ∃ c, X.env.cells.lookup y.1 = some c := fun y hy e => ok.has _ (L.free y hy e)
section
variable {X : Cx} {pins : List (Addr × Obj)} {σ : L2.St} {H HZ : Hp} {s s1 : Shared}
theorem lamD_start {A : Around} {outer : List Env} {E : XK} {scope : Scope} {prm : Str} {f c' : Addr} {g1 : Heap} {tk : Nat} {m1 : Str → Option Value} (I : Inv X pins σ H s) (L : LamD X.N X.env.scope scope prm) (e0 : Env0 X.prog X.w X.K X.mg X.base A outer s1 HZ) (hd : A.handled = none)
    (un : Un (frs X.stack) [] H HZ s.heap s1.heap) (hns : g1.Ns s1.heap.objs.size m1) (up : ∀ b o, s1.heap.get? b = some o → g1.get? b = some o) : Inv (LamX.lamCx X A outer s1 HZ E scope f c') [] σ HZ { s1 with heap := g1, toks := tk } := by
  have has := L.has I.ok
  have cap : ∀ {y c}, (cloFrom X.env.cells scope.names []).lookup y = some c → X.env.cells.lookup y = some c := fun {y c} e => by
    rcases cloFrom_mem (PySem.mem_of_lookup e) with z | ⟨z1, z2⟩
    · cases z
    · obtain ⟨c1, hc⟩ := has _ z1 rfl
      have hc : X.env.cells.lookup y = some c1 := hc
      rw [hc] at z2 ⊢
      rw [z2]; rfl
  have seen : ∀ {y}, scope.names.lookup y = some .free → ∃ c, (cloFrom X.env.cells scope.names []).lookup y = some c := fun {y} q => mem_lookup (cloFrom_has (cells := X.env.cells) (acc := []) (PySem.mem_of_lookup q))
  have held : ∀ {c : Addr} {v : Option Value}, H c = none → s.heap.IsCell c v → g1.IsCell c v := fun {c v} n ⟨o, ho, hd⟩ => by
    obtain ⟨sl, q⟩ := un.any ho n (by simp)
    exact ⟨_, up _ _ q, hd⟩
  have noA : ∀ b : Addr, b ∉ (LamX.lamCx X A outer s1 HZ E scope f c').ex := fun b z => absurd (show b ∈ ([] : List Addr) from z) (by simp)
  exact ⟨⟨e0.mod, L.kind, rfl, rfl, Nat.le_refl _, fun y z c h1 h2 => I.ok.inj y z c (cap h1) (cap h2), fun y hy => by
        rcases (show scope.names.lookup y = some .cell ∨ scope.names.lookup y = some .free from hy) with q | q
        · exact absurd rfl (L.noC _ (PySem.mem_of_lookup q))
        · exact seen q, (fun y c z _ => by cases (show false = true from z)), fun _ => hd, Around.frames_deeper e0.frames, .inr ⟨rfl, rfl⟩, fun b z => absurd z (noA b), e0.bs, e0.bsz, fun b _ _ => noA b, fun b z => absurd z (noA b), e0.funs, e0.frf⟩,
    rfl, e0.bare, Un.kept up, ⟨_, hns, fun i y v h1 h2 h3 => by
        rcases (show Vis scope y from h3) with q | q | q
        · exact absurd (List.mem_of_getElem? h1) (L.loc _ (PySem.mem_of_lookup q) rfl)
        · exact absurd rfl (L.noC _ (PySem.mem_of_lookup q))
        · obtain ⟨m, hn, hl⟩ := I.loc
          have vis : Vis X.env.scope y := .inr (L.free _ (PySem.mem_of_lookup q) rfl)
          obtain ⟨u, r, w⟩ := hl i y v h1 h2 vis
          obtain ⟨c2, hc2⟩ := seen q
          refine ⟨u, r, .inr ⟨.inr q, c2, hc2, ?_⟩⟩
          rcases w with ⟨k', _⟩ | ⟨_, c3, e', z⟩
          · have k' : X.env.scope.names.lookup y = some .local := k'
            rcases L.free _ (PySem.mem_of_lookup q) rfl with k2 | k2 <;> (rw [show X.env.scope.names.lookup y = _ from k2] at k'; cases k')
          · rw [cap hc2] at e'
            cases e'
            exact held (I.freeC y _ (cap hc2)) z⟩,
    fun y c e => by
        obtain ⟨u, z⟩ := I.cell y c (cap e)
        exact ⟨u, held (I.freeC y c (cap e)) z⟩, e0.hok.fresh (Nat.le_refl _), fun y c e => by
        obtain ⟨v, o, ho, _⟩ := I.cell y c (cap e)
        exact un.free c o ho (I.freeC y c (cap e)) (by simp), fun q hq => absurd (show q ∈ ([] : List (Addr × Obj)) ++ [] from hq) (by simp), e0.hok.kept up, I.len⟩
end
end Hw
set_option Elab.async false
set_option linter.all false
set_option maxRecDepth 100000
set_option maxHeartbeats 1000000
namespace Hw
open PySem L2 PyProof.Rows PySem.Spec
section
variable {X : Cx} {PE : XP} {μ : Mu} {ds : DS} {P : DP} {body : Expr} {scope : Scope} {f c' : Addr}
/-- the call of the lambda, where the def stands in the frames of its own call -/
theorem pe_actD {σ : L2.St} {G : Hp} {s : Shared} {pins : List (Addr × Obj)} {Ng : List Str} {x a : Str} {st : Stmt} {g : Addr} {prm : Str} {T0 : Addr} {t0 : Tok} {i0 : Int} {cdg pm ctv doc : Value} {params : Arguments} {k : Nat} {pn : List (Addr × Obj)} {xe : Value → Shared → Prop} {tb : TE} {E : XK} {W : WX} {p1 p2 : Pos} (I : Inv X pins σ G s) (L : LamD X.N X.env.scope scope prm)
    (hf : s.heap.get? f = some (dfObj (X.env.qual ++ "<lambda>") params body scope (cloFrom X.env.cells scope.names []) T0 doc pm c' ctv)) (ht0 : s.heap.get? T0 = some (PySem.W.kdv_tup [.int i0 t0])) (hfn : G f = none) (ht0n : G T0 = none) (hfr : f ∉ frs X.stack) (ht0r : T0 ∉ frs X.stack)
    (hbind : ∃ kk, bindArgs (PySem.W.kdv_fn "<lambda>" (X.env.qual ++ "<lambda>") params (.expr body) scope (cloFrom X.env.cells scope.names []) (.ref T0) doc pm (.ref c') ctv) ⟨[], []⟩ = seqItems? (.ref T0) >>= kk ∧ ∀ v, kk (some #[v]) = pure [(prm, v)]) (tk : Takes ((gotCx X Ng x st g cdg s G).tr pn xe) W) (hW : ∀ cls d σ' H', E cls d H' → W cls d σ' H') (hr : Room (k + 1) (gotCx X Ng x st g cdg s G).A)
    (hbody : ∀ (s2 : Shared) (H2 : Hp), L2.PE (LamX.lamCx X (gotCx X Ng x st g cdg s G).A (gotCx X Ng x st g cdg s G).stack s2 H2 E scope f c') body tb)
    (hN : Ng[0]? = some a) (hv : Vis (defScope st) a) (hdb : (a == ("__debug__" : Str)) = false) (hcd : (a == ("__classdict__" : Str)) = false) :
    L2.PE ((gotCx X Ng x st g cdg s G).tr pn xe) (.Call (.Name a p1) [] [] p2) (fun τ F Q => τ[0]? = some (some (.ref f)) ∧ F c' = some (LamX.CodeO c' (X.env.qual ++ "<lambda>")) ∧ tb σ F Q) := by
  refine ⟨fun pz t τ F Q J ⟨w1, w2, w3⟩ => wpAny_Call_Name_kw (thn ((pe_var (pos := p1) (i := 0) hN hv hdb hcd).run pz t τ F (fun v F' => v = .ref f ∧ F' = F) J ⟨.ref f, w1, rfl, rfl⟩) fun u t1 ⟨v, F1, J1, r1, ev, eF⟩ => ?_)⟩
  subst ev eF
  obtain rfl : u = Value.ref f := r1
  have at1 := J1.base.keep f _ hf hfn hfr (fun z => nomatch (show f ∈ ([] : List Addr) from z))
  refine PySem.W.callWith_F0 ⟨_, _, _, _, at1⟩ (wpAny_call (codeAny_mono (show codeAny (model X.prog X.w) (gotCx X Ng x st g cdg s G).A (.call (.ref f) ⟨[], []⟩) (CR (L2.CX X.prog X.w) (gotCx X Ng x st g cdg s G).stack X.prog X.w F1 t1 Q E) t1 from ?_) fun r t2 hq => ?_))
  · obtain ⟨⟨oc, vs, tt, hoc, hdc, hvc⟩, _, _⟩ := J1.hok c' _ w2
    have at2 := J1.base.keep T0 _ ht0 ht0n ht0r (fun z => nomatch (show T0 ∈ ([] : List Addr) from z))
    obtain ⟨kk, e1, e2⟩ := hbind
    refine PySem.W.kla_callFunE hr.depth at1 rfl L.co L.gen rfl ⟨c', oc, vs, tt, rfl, hoc, hdc, hvc⟩ ((BindsTo.of_defaults (fd := PySem.W.kdv_fn "<lambda>" (X.env.qual ++ "<lambda>") params (.expr body) scope (cloFrom X.env.cells scope.names []) (.ref T0) doc pm (.ref c') ctv) (binds := [(prm, .int i0 t0)]) rfl at2 rfl e1 (e2 _)) _ _ _ _ ?_)
    refine wpAny_newFunctionEnv L.noC (fun y hy => by obtain rfl := List.mem_singleton.mp hy; exact L.par) (fun g1 hns hsb => ⟨J1.nolimit.fresh _ hsb, ?_⟩) L.kind
    have up : ∀ b o, t1.heap.get? b = some o → g1.get? b = some o := fun b o e => hsb.extBut b o (Nat.ne_of_lt (Heap.lt_size e)) (Heap.get?_push_of_some _ e)
    have J2 := lamD_start (f := f) (c' := c') (tk := t1.toks + ([(prm, Value.int i0 t0)] : List (Str × Value)).length) (E := E) I L J1.env0 hr.hd J1.base hns up
    refine PySem.W.kla_codeExpr (wpAny_mono ((hbody t1 F1).run [] _ _ F1 Q J2 w3) (fun v t3 hq => ?_) fun e t3 hq => hq)
    obtain ⟨v3, F3, J3, r3, q3⟩ := hq
    exact ⟨v3, F3, J3.os, J3.bare, J3.base, J3.hok, r3, q3⟩
  · match r, hq with
    | .error e, hq => exact passes_call tk hW pz τ F1 t1 e t2 J1 hq
    | .ok (.ret u), hq => exact J1.after hq
theorem ex_actD {σ : L2.St} {G : Hp} {s : Shared} {pins : List (Addr × Obj)} {Ng : List Str} {x a : Str} {st : Stmt} {g : Addr} {prm : Str} {T0 : Addr} {t0 : Tok} {i0 : Int} {cdg pm ctv doc : Value} {params : Arguments} {k : Nat} (I : Inv X pins σ G s) (L : LamD X.N X.env.scope scope prm)
    (hf : s.heap.get? f = some (dfObj (X.env.qual ++ "<lambda>") params body scope (cloFrom X.env.cells scope.names []) T0 doc pm c' ctv)) (ht0 : s.heap.get? T0 = some (PySem.W.kdv_tup [.int i0 t0])) (hfn : G f = none) (ht0n : G T0 = none) (hfr : f ∉ frs X.stack) (ht0r : T0 ∉ frs X.stack) (hc : G c' = some (LamX.CodeO c' (X.env.qual ++ "<lambda>"))) (mc : μ c' = none)
    (hbind : ∃ kk, bindArgs (PySem.W.kdv_fn "<lambda>" (X.env.qual ++ "<lambda>") params (.expr body) scope (cloFrom X.env.cells scope.names []) (.ref T0) doc pm (.ref c') ctv) ⟨[], []⟩ = seqItems? (.ref T0) >>= kk ∧ ∀ v, kk (some #[v]) = pure [(prm, v)]) (hr : Room (k + 1) (gotCx X Ng x st g cdg s G).A) (hgu : X.A.guards = some []) (hd : DenS X.K μ G σ ds)
    (hN : Ng[0]? = some a) (hv : Vis (defScope st) a) (hdb : (a == ("__debug__" : Str)) = false) (hcd : (a == ("__classdict__" : Str)) = false) : Act X ds body scope (gotCx X Ng x st g cdg s G) f G (fun b => μ b = none) a k := by
  intro pn xe PE' P' ds' μ' p1 p2 hslot hbody
  refine ex_of (pe_actD (E := Ex0 ((gotCx X Ng x st g cdg s G).tr pn xe)) (tb := tLamB X.K (Ex0 ((gotCx X Ng x st g cdg s G).tr pn xe)) PE' μ' ds P') I L hf ht0 hfn ht0n hfr ht0r hbind takes_Wx (fun cls d σ' H' h => h σ') hr (fun s2 H2 => lamB_pe (hbody _ _ s2 H2 _ c' ⟨hr.deeper _, hgu⟩)) hN hv hdb hcd) fun σZ HZ Q ho hs kk => ?_
  · obtain ⟨v, e1, n1⟩ := hs.d.2 0 _ hslot
    obtain ⟨rfl, stp⟩ := n1.inv_fn
    have st : Stp μ G μ' HZ := fun b o h e n => stp b o h e n
    exact ⟨e1, (st _ _ mc hc LamX.codeO_ne).1, ho, hd.mono st, fun Ca dd H' fs vfs μ2 s2 h2 e2 n2 p2 σ' => hs.x Ca dd H' fs vfs μ2 σ' s2 h2 e2 n2 p2, fun v H' d μ2 s2 h2 n2 p2 => kk v H' d μ2 s2 h2 n2 p2⟩
/-- x(lambda prm=i0: body), x a def of one parameter a -/
theorem ex_lamcallD {Ng : List Str} {x a : Str} {st : Stmt} {g cd T : Addr} {fd : FuncData} {params : Arguments} {k : Nat} {p lpos pos : Pos} (F : Fun X.K x x st g fd) (hm : X.mg x = some (.ref g)) (hb : Binds X.K fd [a] []) (S : FnScope Ng [a] (defScope st)) (hg : Gl X x)
    (TB : LamX.TabB X.base X.mg cd T) (hcode : X.env.code = .ref cd) (tq : μ T = some (.tbl (X.env.qual ++ "<lambda>"))) (t1 : ∀ b q, μ b = some (.tbl q) → b = T) (hr : Rm (k + 2) X.A) {prm : Str} {p0 : Pos} {i0 : Int} {j0 : Nat} (L : LamD X.N X.env.scope scope prm) (hd : params.defaults = [.Constant (.int i0) j0 p0]) (hk0 : params.kw_defaults = [])
    (hbind : ∀ (q : Str) (cl : List (Str × Addr)) (T0 : Addr) (doc pm cv ctv : Value), ∃ kk, bindArgs (PySem.W.kdv_fn "<lambda>" q params (.expr body) scope cl (.ref T0) doc pm cv ctv) ⟨[], []⟩ = seqItems? (.ref T0) >>= kk ∧ ∀ v, kk (some #[v]) = pure [(prm, v)]) (hN : Ng[0]? = some a) (hv : Vis (defScope st) a)
    (h : ∀ (f : Addr) (G : Hp) (s : Shared) (cdg : Value), Rm (k + 1) (gotCx X Ng x st g cdg s G).A → Act X ds body scope (gotCx X Ng x st g cdg s G) f G (fun b => μ b = none) a k →
      SSX (gotCx X Ng x st g cdg s G) PE μ (some (.fn f G (fun b => μ b = none)) :: List.replicate (Ng.length - 1) none) (defBody st) { nx := fun _ μ' => P .non μ', rt := P })
    (hdb : (x == ("__debug__" : Str)) = false := by decide) (hda : (a == ("__debug__" : Str)) = false := by decide) (hca : (a == ("__classdict__" : Str)) = false := by decide) : EX X PE μ ds (.Call (.Name x p) [.Lambda params body scope lpos] [] pos) P := by
  refine ⟨⟨fun pins s σ H Q I ⟨ho, hs, kk⟩ => ?_⟩⟩
  refine wpAny_Call_Name_kw (ld_glob I hg hm ?_ hdb)
  refine PySem.W.callWith_K (h₀ := X.base) I.ok.mod.kin F.kp ?_ (by rfl) (by rfl)
  show wpAny _ _ (spliced ((false, eval (.Lambda params body scope lpos) X.env) :: backTo pos (starEach [] X.env))) _ _ s
  have tabs : LamX.TabS H T (X.env.qual ++ "<lambda>") := by
    obtain ⟨ps, e1, e2, e3⟩ := ho T _ tq
    refine ⟨ps, e1, e2, fun q cv hc => ?_⟩
    obtain ⟨c, h1, _, h3⟩ := e3 q cv hc
    exact ⟨c, h1, h3⟩
  refine Calls.spliced_cons (lamD_make I TB hcode rfl tabs hd hk0 (L.has I.ok) fun f c' T0 t0 pm ctv doc G s1 I1 eN T1 hf ht0 hfn ht0n hfr ht0r hco => ?_)
  refine Calls.spliced_nil ⟨I1.kIn, ?_⟩
  have stp : Stp μ H μ G := fun b o hb e n => ⟨eN b o e n, hb⟩
  -- the new code object is nobody's that changes
  have noC : ∀ c, G c = some (LamX.CodeO c (X.env.qual ++ "<lambda>")) → μ c = none := fun c ec => by
    cases e : μ c with
    | none => rfl
    | some m =>
      have q := ho c m e
      cases m with
      | lst xs => obtain ⟨vs, h1, _⟩ := q; rw [eN c _ h1 nofun] at ec; cases ec
      | ins C fs => obtain ⟨dx, vs, h1, _⟩ := q; rw [eN c _ h1 nofun] at ec; cases ec
      | dic kvs => obtain ⟨vs, h1, _⟩ := q; rw [eN c _ h1 nofun] at ec; cases ec
      | tbl qn =>
        obtain rfl := t1 c qn e
        obtain ⟨ps, h1, _⟩ := T1
        rw [h1] at ec; cases ec
  have hoG : Hold X.K μ G := fun b m e => by
    have q := ho b m e
    cases m with
    | lst xs => obtain ⟨vs, h1, h2⟩ := q; exact ⟨vs, eN b _ h1 nofun, h2.mono stp⟩
    | ins C fs => obtain ⟨dx, vs, h1, h2⟩ := q; exact ⟨dx, vs, eN b _ h1 nofun, h2.mono stp⟩
    | dic kvs => obtain ⟨vs, h1, h2⟩ := q; exact ⟨vs, eN b _ h1 nofun, h2.mono stp⟩
    | tbl qn =>
      obtain rfl := t1 b qn e
      rw [tq] at e
      cases e
      obtain ⟨ps, h1, h2, h3⟩ := T1
      refine ⟨ps, h1, h2, fun q cv hc => ?_⟩
      obtain ⟨c, e1, e2⟩ := h3 q cv hc
      exact ⟨c, e1, noC c e2, e2⟩
  have hsG := hs.mono stp
  obtain ⟨oc, od, kV, doc, pmm, an, cdv, ct, osl, rfl, lk, hcdv⟩ := F.ex
  refine wpAny_call (codeAny_mono (ret_of (Q := Q) I1 (LamX.run_ofS (N := Ng) (ps := [a]) (us := [.ref f]) (vs := [.ref f]) lk hcdv S hr.r I1.env0 (hb s1 [.ref f] I1.kIn rfl) (.cons rfl .nil) rfl fun hr' => ?_)) fun r s2 hq => ?_)
  · have act := ex_actD (cdg := cdv) (k := k) I1 L hf ht0 hfn ht0n hfr ht0r hco (noC _ hco) (hbind _ _ _ _ _ _ _) hr' hr.g hsG.d hN hv hda hca
    have q := h f G s1 cdv ⟨hr', hr.g⟩ act
    refine ⟨_, q.pss, hoG, ⟨?_, fun Ca dd H' fs vfs μ' σ' s2 h2 e2 n2 p2 => wx_leave (takes_of rfl rfl rfl rfl) fun σ3 => hsG.x Ca dd H' fs vfs μ' σ3 s2 h2 e2 n2 p2⟩, ?_⟩
    · have := DenS.start (N := Ng) (K := X.K) (μ := μ) (H := G) (vs := [.ref f]) (xs := [.fn f G (fun b => μ b = none)]) (.cons (.fn fun b o h e n => ⟨e, h⟩) .nil)
      exact this
    · exact ⟨fun σ' H' ds' μ' s1 h1 n1 p => kk _ H' _ μ' (stp.trans s1) h1 .non p, fun v H' d μ' s1 h1 n1 p => kk v H' d μ' (stp.trans s1) h1 n1 p, fun _ _ _ _ _ _ _ p => p.elim, fun _ _ _ _ _ _ _ p => p.elim⟩
  · match r, hq with
    | .error er, hq => exact hq
    | .ok (.ret u), hq => exact hq
end
end Hw
set_option Elab.async false
set_option linter.all false
set_option maxRecDepth 100000
set_option maxHeartbeats 1000000
namespace Hw
open PySem L2 PyProof.Rows PySem.Spec
/-! ### a def with defaults (their tuple at T0, its values dvs) -/
structure FunV (K : PySem.W.Frag) (x : Str) (st : Stmt) (f T0 : Addr) (dvs : List Value) (fd : FuncData) : Prop where
  ex : ∃ (oc : Value) (od : Option Addr) (kV doc pm : Value) (an : Option Addr) (cdv ct : Value) (osl : Array (Option Value)),
    fd = PySem.W.fnOf x x (defArgs st) (defBody st) (defScope st) (.ref T0) kV doc pm an cdv ct ∧ K.lookup f = some ⟨oc, od, .func fd, osl⟩ ∧ PySem.W.codeIn K cdv x = true
  kp : PySem.W.keepIn K (.ref f) = true
  tup : ∃ (o : Obj) (n : Nat), K.lookup T0 = some o ∧ o.data = .seq dvs.toArray n
structure FunAtV (K : PySem.W.Frag) (x : Str) (st : Stmt) (dd : List D) : Prop where
  ex : ∃ f T0 dvs fd, PySem.W.nsIn K mainGlobals x = some (some (.ref f)) ∧ FunV K x st f T0 dvs fd ∧ Vals (dd.map fv) dvs
theorem FunAtV.mk' {K : PySem.W.Frag} {x : Str} {st : Stmt} {dd : List D} {f T0 : Addr} {dvs : List Value} {oc : Value} {od an : Option Addr} {osl : Array (Option Value)} {kV doc pm cdv ct tc : Value} {td : Option Addr} {tn : Nat} {tsl : Array (Option Value)} (a : PySem.W.nsIn K mainGlobals x = some (some (.ref f)))
    (l : K.lookup f = some ⟨oc, od, .func (PySem.W.fnOf x x (defArgs st) (defBody st) (defScope st) (.ref T0) kV doc pm an cdv ct), osl⟩) (c : PySem.W.codeIn K cdv x = true) (k : PySem.W.keepIn K (.ref f) = true) (t : K.lookup T0 = some ⟨tc, td, .seq dvs.toArray tn, tsl⟩) (r : Vals (dd.map fv) dvs) : FunAtV K x st dd :=
  ⟨f, T0, dvs, _, a, ⟨⟨oc, od, kV, doc, pm, an, cdv, ct, osl, rfl, l, c⟩, k, _, tn, t, rfl⟩, r⟩
section
variable {P : Program} {w : World} {K : PySem.W.Frag} {mg : Str → Option Value} {base : Heap}
theorem fn_okV {x : Str} {st : Stmt} {f T0 : Addr} {dvs : List Value} {fd : FuncData} {N ps : List Str} {k : Nat} {C : CT} (F : FunV K x st f T0 dvs fd) (S : FnScope N ps (defScope st)) (len : ∀ xs μ R RE, C xs μ R RE → xs.length = ps.length)
    (hbody : ∀ (xs : List D) (μ : Mu) (R : DP) (PE : XP) (cdv : Value) (A : Around) (outer : List Env) (s : Shared) (H : Hp) (E : XK), Rm k (bodyCx P w K mg base N x st f cdv A outer s H E).A → C xs μ R PE →
      SSX (bodyCx P w K mg base N x st f cdv A outer s H E) PE μ (xs.map some ++ List.replicate (N.length - xs.length) none) (defBody st) { nx := fun _ μ' => R .non μ', rt := R }) :
    FnG P w K mg base (k + 1) f fd ps C := by
  refine ⟨len, fun A outer s H args us vs Q E hr e0 hb r h => ?_⟩
  have hl : vs.length = ps.length := by
    obtain ⟨μ, xs, R, PE, ho, n, c, _⟩ := h
    rw [n.length]
    exact len xs μ R PE c
  obtain ⟨oc, od, kV, doc, pm, an, cdv, ct, osl, rfl, lk, hcd⟩ := F.ex
  refine LamX.run_ofS lk hcd S hr.r e0 hb r hl fun hr' => ?_
  obtain ⟨μ, xs, R, PE, ho, n, c, kR, kE⟩ := h
  have q := hbody xs μ R PE cdv A outer s H E ⟨hr', hr.g⟩ c
  refine ⟨_, q.pss, ho, ⟨DenS.start n, fun Ca dd H' fs vfs μ' σ s2 h2 e2 n2 p2 => wx_leave (takes_of rfl rfl rfl rfl) (kE Ca dd H' fs vfs μ' s2 h2 e2 n2 p2)⟩, ?_⟩
  exact ⟨fun σ' H' ds' μ' s1 h1 n1 p => kR _ H' _ μ' s1 h1 .non p, fun v H' d μ' s1 h1 n1 p => kR v H' d μ' s1 h1 n1 p, fun _ _ _ _ _ _ _ p => p.elim, fun _ _ _ _ _ _ _ p => p.elim⟩
/-- such a def called: n values by place, the keywords ks; the places idx of them all, then the defaults behind the first j -/
structure CalV (P : Program) (w : World) (K : PySem.W.Frag) (mg : Str → Option Value) (base : Heap) (x : Str) (ps : List Str) (k : Nat) (C : CT) (n : Nat) (ks : List Str) (idx : List Nat) (dd : List D) : Prop where
  ex : ∃ f fd dvs, FnG P w K mg base k f fd ps C ∧ mg x = some (.ref f) ∧ PySem.W.keepIn K (.ref f) = true ∧ Vals (dd.map fv) dvs ∧ ∀ (s : Shared) (us ws : List Value), K.In s.heap → us.length = n → ws.length = ks.length → BindsTo s fd ⟨us, ks.zip ws⟩ (ps.zip (pick idx (us ++ ws) ++ dvs))
theorem calV_of {x : Str} {st : Stmt} {ps : List Str} {k : Nat} {C : CT} {dd : List D} {n : Nat} {ks : List Str} {idx : List Nat} (j : Nat) (T : Tb K mg base) (F : FunAtV K x st dd) (h : ∀ f T0 dvs fd, FunV K x st f T0 dvs fd → FnG P w K mg base k f fd ps C)
    (hb : ∀ (T0 : Addr) (kV doc pm : Value) (an : Option Addr) (cdv ct : Value) (us ws its : List Value), us.length = n → ws.length = ks.length → its.length = dd.length → ∃ kk, bindArgs (PySem.W.fnOf x x (defArgs st) (defBody st) (defScope st) (.ref T0) kV doc pm an cdv ct) ⟨us, ks.zip ws⟩ = seqItems? (.ref T0) >>= kk ∧ kk (some its.toArray) = pure (ps.zip (pick idx (us ++ ws) ++ its.drop j))) :
    CalV P w K mg base x ps k C n ks idx (dd.drop j) := by
  obtain ⟨f, T0, dvs, fd, a, F, r⟩ := F.ex
  have hl : dvs.length = dd.length := by rw [← r.length, List.length_map]
  refine ⟨f, fd, dvs.drop j, h f T0 dvs fd F, T.som a, F.kp, by rw [List.map_drop]; exact r.drop j, fun s us ws X h1 h2 => ?_⟩
  obtain ⟨oc, od, kV, doc, pm, an, cdv, ct, osl, e, _, _⟩ := F.ex
  subst e
  obtain ⟨o, m, lT, oT⟩ := F.tup
  obtain ⟨kk, e1, e2⟩ := hb T0 kV doc pm an cdv ct us ws dvs h1 h2 hl
  exact .of_defaults rfl (X _ _ lT) oT e1 e2
end
section
variable {X : Cx} {PE : XP} {e : Expr} {es : List Expr} {μ : Mu} {ds : DS} {P : DP} {pos : Pos}
theorem DenAll.fvs {K : PySem.W.Frag} {H : Hp} : ∀ {dd : List D}, dd.all flatD = true → DenAll K μ H (dd.map fv) dd
  | [], _ => .nil
  | d :: dd, h => by
    rw [List.all_cons, Bool.and_eq_true] at h
    refine .cons ?_ (DenAll.fvs h.2)
    cases d <;> first | exact .non | exact .bl _ | exact .int _ | exact .str _ | cases h.1
theorem run_v {pins : List (Addr × Obj)} {σ : L2.St} {H : Hp} {s : Shared} {Q : VK} {k : Nat} {f : Addr} {fd : FuncData} {ps : List Str} {C : CT} {args : Args} {zs : List Value} {vs : List V}
    (F : FnG X.prog X.w X.K X.mg X.base k f fd ps C) (hr : Rm k X.A) (b : BindsTo s fd args (ps.zip zs)) (I : Inv X pins σ H s) (r : Vals vs zs) (h : spD X.K C vs H Q (Ex0 X)) : wpAny (model X.prog X.w) X.A (call (.ref f) args.pos args.kw) (EP X pins σ Q) X.xe s := by
  refine wpAny_call (codeAny_mono (ret_of I (F.run X.A X.stack s H args zs vs Q (Ex0 X) hr I.env0 b r h)) fun r s' q => ?_)
  match r, q with
  | .error er, q => exact q
  | .ok (.ret _), q => exact q
/-- f(e, ..), the defaults dd fill up -/
theorem ex_callV {x : Str} {ps : List Str} {k n : Nat} {C : CT} {idx : List Nat} {dd : List D} {p : Pos} (c : CalV X.prog X.w X.K X.mg X.base x ps k C n [] idx dd) (hr : Rm k X.A) (hf : dd.all flatD = true) (h : AX X PE μ ds (e :: es) fun xs μ1 => xs.length = n ∧ C (pick idx xs ++ dd) μ1 P PE) (hg : Gl X x)
    (hdb : (x == ("__debug__" : Str)) = false := by decide) (he : starEach (e :: es) X.env = (false, eval e X.env) :: starEach es X.env := by rfl) (hpl : (backTo pos (starEach es X.env)).any (·.1) = false := by rfl) : EX X PE μ ds (.Call (.Name x p) (e :: es) [] pos) P := by
  obtain ⟨f, fd, dvs, F, hm, hk, rd, hb⟩ := c.ex
  have pe : L2.PE X (.Call (.Name x p) (e :: es) [] pos) (fun σ H Q => tUA X (e :: es) σ H fun vs H1 => vs.length = n ∧ spD X.K C (pick idx vs ++ dd.map fv) H1 Q (Ex0 X)) := ⟨fun pins s σ H Q I q => by
    refine wpAny_Call_Name_kw (ld_glob I hg hm ?_ hdb)
    refine PySem.W.callWith_K (h₀ := X.base) I.ok.mod.kin hk (thn (pa_U.run pos pins s σ H _ I q) fun us s1 ⟨vs, H1, I1, r, hl, q⟩ => ⟨I1.kIn, ?_⟩) he hpl
    have b := hb s1 us [] I1.kIn (by rw [← r.length]; exact hl) rfl
    rw [List.append_nil] at b
    exact run_v (args := ⟨us, []⟩) F hr b I1 ((Vals.pick r idx).append rd) q⟩
  refine ex_of pe fun σ H Q ho hs kk => h.at ho hs fun vs H1 xs μ1 s1 h1 b1 n1 ⟨hl, q⟩ => ⟨by rw [n1.length]; exact hl, ?_⟩
  exact ⟨μ1, _, P, PE, h1, (n1.pick idx).append (DenAll.fvs hf), q, fun v H' d μ' s2 h2 n2 p2 => kk v H' d μ' (s1.trans s2) h2 n2 p2, fun Ca dd H' fs vfs μ' s2 h2 e2 n2 p2 σ' => b1.x Ca dd H' fs vfs μ' σ' s2 h2 e2 n2 p2⟩
/-- f(a=.., ..) -/
theorem ex_callVK {x : Str} {ps ks : List Str} {k : Nat} {C : CT} {idx : List Nat} {dd : List D} {p : Pos} {kws : List Keyword} (c : CalV X.prog X.w X.K X.mg X.base x ps k C 0 ks idx dd) (hr : Rm k X.A) (hf : dd.all flatD = true) (h : KX X PE μ ds kws fun zs μ1 => zs.length = ks.length ∧ C (pick idx zs ++ dd) μ1 P PE) (hg : Gl X x)
    (hdb : (x == ("__debug__" : Str)) = false := by decide) (hall : (backToKw pos (keywordEach kws X.env)).all (·.1.isSome) = true := by rfl)
    (hks : (backToKw pos (keywordEach kws X.env)).filterMap (·.1) = ks := by rfl) (hpl : ((backTo pos (starEach [] X.env)).any (·.1) || (backToKw pos (keywordEach kws X.env)).any (·.1.isNone)) = false := by rfl) : EX X PE μ ds (.Call (.Name x p) [] kws pos) P := by
  obtain ⟨f, fd, dvs, F, hm, hk, rd, hb⟩ := c.ex
  have pe : L2.PE X (.Call (.Name x p) [] kws pos) (fun σ H Q => tUK X kws σ H fun zs H1 => zs.length = ks.length ∧ spD X.K C (pick idx zs ++ dd.map fv) H1 Q (Ex0 X)) := ⟨fun pins s σ H Q I q => by
    refine wpAny_Call_Name_kw (ld_glob I hg hm ?_ hdb)
    refine PySem.W.callWith_KW0 (h₀ := X.base) I.ok.mod.kin hk hall (thn (pk_U.run pos pins s σ H _ I q) fun ws s1 ⟨zs, H1, I1, rz, hl, q⟩ => ⟨I1.kIn, ?_⟩) hpl
    rw [hks]
    have b := hb s1 [] ws I1.kIn rfl (by rw [← rz.length]; exact hl)
    exact run_v (args := ⟨[], ks.zip ws⟩) F hr b I1 ((Vals.pick rz idx).append rd) q⟩
  refine ex_of pe fun σ H Q ho hs kk => h.at ho hs fun vs H1 xs μ1 s1 h1 b1 n1 ⟨hl, q⟩ => ⟨by rw [n1.length]; exact hl, ?_⟩
  exact ⟨μ1, _, P, PE, h1, (n1.pick idx).append (DenAll.fvs hf), q, fun v H' d μ' s2 h2 n2 p2 => kk v H' d μ' (s1.trans s2) h2 n2 p2, fun Ca dd H' fs vfs μ' s2 h2 e2 n2 p2 σ' => b1.x Ca dd H' fs vfs μ' σ' s2 h2 e2 n2 p2⟩
end
end Hw
set_option Elab.async false
set_option linter.all false
set_option maxRecDepth 100000
set_option maxHeartbeats 1000000
namespace Hw
open PySem L2 PyProof.Rows PySem.Spec
/-! ### == and != of plain data -/
def eqOk (x y : D) (P : Bool → Prop) : Prop := ∃ d e, toPy x = some d ∧ toPy y = some e ∧ SeqAt.shaped d = true ∧ SeqAt.shaped e = true ∧ P (PyData.eqv d e)
section
variable {X : Cx} {PE : XP} {a b : Expr} {μ : Mu} {ds : DS} {P : DP} {PT : Bool → Mu → Prop} {pos : Pos}
theorem ex_eqD (h : EX X PE μ ds a fun x μ1 => EX X PE μ1 ds b fun y μ2 => eqOk x y fun z => P (.bl z) μ2) (hu : X.A.units + 64 < cLine) (hm : behindInMarks .Eq b = false) : EX X PE μ ds (.Compare a [.Eq] [b] pos) P :=
  ex_of (pe_cmpR (op_eqD hu) pe_U pe_U hm) fun σ H Q ho hs k => h.at ho hs fun v H1 x μ1 s1 h1 b1 n1 p => p.at h1 b1 fun u H2 y μ2 s2 h2 b2 n2 ⟨d, e, e1, e2, z1, z2, q⟩ =>
    ⟨d, e, (n1.mono s2).dp e1, n2.dp e2, z1, z2, k _ H2 _ μ2 (s1.trans s2) h2 (.bl _) q⟩
theorem tx_eqD (h : EX X PE μ ds a fun x μ1 => EX X PE μ1 ds b fun y μ2 => eqOk x y fun z => PT z μ2) (hu : X.A.units + 64 < cLine) (hm : behindInMarks .Eq b = false) : TX X PE μ ds (.Compare a [.Eq] [b] pos) PT :=
  tx_of (pt_cmpR (op_eqD hu) pe_U pe_U hm) fun σ H Q ho hs k => h.at ho hs fun v H1 x μ1 s1 h1 b1 n1 p => p.at h1 b1 fun u H2 y μ2 s2 h2 b2 n2 ⟨d, e, e1, e2, z1, z2, q⟩ =>
    ⟨d, e, (n1.mono s2).dp e1, n2.dp e2, z1, z2, _, rfl, k _ H2 μ2 (s1.trans s2) h2 q⟩
end
end Hw
set_option Elab.async false
set_option linter.all false
set_option maxRecDepth 100000
set_option maxHeartbeats 1000000
namespace Hw
open PySem L2 PyProof.Rows
/-! ### data that repr shows: ints below 10 ^ 150 -/
mutual
def shD : D → Prop
  | .non => True
  | .bl _ => True
  | .int i => i.natAbs < 10 ^ 150
  | .str s => ∀ c ∈ s.cps.toList, c < 16 ^ 8
  | .tup xs => shAll xs
  | .lst xs => shAll xs
  | _ => False
def shAll : List D → Prop
  | [] => True
  | x :: xs => shD x ∧ shAll xs
end
mutual
def shL : D → Nat
  | .non => 4
  | .bl _ => 5
  | .int _ => 202
  | .str s => 10 * s.cps.size + 2
  | .tup xs => shLs xs + 3
  | .lst xs => shLs xs + 3
  | _ => 0
def shLs : List D → Nat
  | [] => 0
  | x :: xs => shL x + 2 + shLs xs
end
mutual
def shN : D → Nat
  | .tup xs => shNs xs + 1
  | .lst xs => shNs xs + 1
  | _ => 0
def shNs : List D → Nat
  | [] => 0
  | x :: xs => max (shN x) (shNs xs)
end
theorem log_600 {i : Int} (h : i.natAbs < 10 ^ 150) : i.natAbs.log2 < 1920 := by
  by_cases e : i.natAbs = 0
  · rw [e]; decide
  · exact (Nat.log2_lt e).mpr (Nat.lt_of_lt_of_le h (by decide))
theorem int_len {i : Int} (h : i.natAbs < 10 ^ 150) : (PyData.shown (.int i)).length ≤ 202 := by
  show (Str.ofString (toString i)).length ≤ 202
  rw [PySem.ofString_length]
  exact int_text_length_le10 (k := 201) (by decide) (Nat.lt_of_lt_of_le h (Nat.pow_le_pow_right (by decide) (by decide)))
mutual
theorem shown_len : ∀ {d : D} {p : PyData}, toPy d = some p → shD d → p.shown.length ≤ shL d ∧ p.showable = true ∧ p.depth = shN d
  | .non, _, e, _ => by simp only [toPy, Option.some.injEq] at e; subst e; exact ⟨Nat.le_refl _, rfl, rfl⟩
  | .bl b, _, e, _ => by simp only [toPy, Option.some.injEq] at e; subst e; cases b <;> exact ⟨by decide, rfl, rfl⟩
  | .int i, _, e, h => by
    simp only [toPy, Option.some.injEq] at e; subst e
    simp only [shD] at h
    exact ⟨int_len h, by simp only [PyData.showable, decide_eq_true_eq]; exact log_600 h, rfl⟩
  | .str s, _, e, h => by
    simp only [toPy, Option.some.injEq] at e; subst e
    simp only [shD] at h
    have q := StrLaws.reprText_len s h
    have e2 : s.length = s.cps.size := rfl
    refine ⟨?_, rfl, rfl⟩
    simp only [PyData.shown, shL]
    omega
  | .tup xs, _, e, h => by
    simp only [toPy] at e
    obtain ⟨ps, e1, rfl⟩ := Option.map_eq_some_iff.mp e
    simp only [shD] at h
    obtain ⟨q1, q2, q3⟩ := shown_lens e1 h
    have h2 := tupleText_len_le (PyData.shownAll ps)
    have h3 := PyData.shownAll_length ps
    refine ⟨?_, by simpa only [PyData.showable] using q2, by simp only [PyData.depth, shN, q3]⟩
    simp only [PyData.shown, shL]
    omega
  | .lst xs, _, e, h => by
    simp only [toPy] at e
    obtain ⟨ps, e1, rfl⟩ := Option.map_eq_some_iff.mp e
    simp only [shD] at h
    obtain ⟨q1, q2, q3⟩ := shown_lens e1 h
    have h2 := listText_len_le (PyData.shownAll ps)
    have h3 := PyData.shownAll_length ps
    refine ⟨?_, by simpa only [PyData.showable] using q2, by simp only [PyData.depth, shN, q3]⟩
    simp only [PyData.shown, shL]
    omega
  | .ty n, _, e, _ => by simp [toPy] at e
  | .ref a, _, e, _ => by simp [toPy] at e
  | .rol xs, _, e, _ => by simp [toPy] at e
  | .obj C fs, _, e, _ => by simp [toPy] at e
  | .dic kvs, _, e, _ => by simp [toPy] at e
  | .exc a b c fs, _, e, _ => by simp [toPy] at e
  | .fn a G Im, _, e, _ => by simp [toPy] at e
theorem shown_lens : ∀ {ds : List D} {ps : List PyData}, toPyAll ds = some ps → shAll ds → ((PyData.shownAll ps).map (·.length)).sum + 2 * ps.length ≤ shLs ds ∧ PyData.showableAll ps = true ∧ PyData.depthAll ps = shNs ds
  | [], _, e, _ => by simp only [toPyAll, Option.some.injEq] at e; subst e; exact ⟨Nat.le_refl _, rfl, rfl⟩
  | x :: xs, _, e, h => by
    simp only [toPyAll] at e
    simp only [shAll] at h
    split at e
    · next d ds e1 e2 =>
      cases e
      obtain ⟨a1, a2, a3⟩ := shown_len e1 h.1
      obtain ⟨b1, b2, b3⟩ := shown_lens e2 h.2
      refine ⟨?_, by simp only [PyData.showableAll, a2, b2]; rfl, by simp only [PyData.depthAll, shNs, a3, b3]⟩
      simp only [PyData.shownAll, List.map_cons, List.sum_cons, List.length_cons, shLs]
      omega
    · cases e
end
mutual
theorem sh_toPy : ∀ {d : D}, shD d → (toPy d).isSome = true
  | .non, _ => by simp only [toPy]; rfl
  | .bl b, _ => by simp only [toPy]; rfl
  | .int i, _ => by simp only [toPy]; rfl
  | .str s, _ => by simp only [toPy]; rfl
  | .tup xs, h => by
    simp only [shD] at h
    simp only [toPy, Option.isSome_map]
    exact sh_toPys h
  | .lst xs, h => by
    simp only [shD] at h
    simp only [toPy, Option.isSome_map]
    exact sh_toPys h
  | .ty n, h => by simp [shD] at h
  | .ref a, h => by simp [shD] at h
  | .rol xs, h => by simp [shD] at h
  | .obj C fs, h => by simp [shD] at h
  | .dic kvs, h => by simp [shD] at h
  | .exc a b c fs, h => by simp [shD] at h
  | .fn a G Im, h => by simp [shD] at h
theorem sh_toPys : ∀ {ds : List D}, shAll ds → (toPyAll ds).isSome = true
  | [], _ => by simp only [toPyAll]; rfl
  | x :: xs, h => by
    simp only [shAll] at h
    obtain ⟨p, e1⟩ := Option.isSome_iff_exists.mp (sh_toPy h.1)
    obtain ⟨ps, e2⟩ := Option.isSome_iff_exists.mp (sh_toPys h.2)
    simp only [toPyAll, e1, e2]; rfl
end
theorem shAll_iff : ∀ {xs : List D}, shAll xs ↔ ∀ x ∈ xs, shD x
  | [] => by simp [shAll]
  | x :: xs => by simp [shAll, shAll_iff (xs := xs)]
theorem sh_lit {s : Str} (h : (s.cps.toList.all fun c => decide (c < 16 ^ 8)) = true) : shD (.str s) := by
  simp only [shD]
  exact fun c hc => of_decide_eq_true (List.all_eq_true.mp h c hc)
theorem sh_int {i : Int} (h : i.natAbs < 10 ^ 150) : shD (.int i) := h
theorem sh_tup {xs : List D} (h : shAll xs) : shD (.tup xs) := h
theorem sh_lst {xs : List D} (h : shAll xs) : shD (.lst xs) := h
theorem sh_nil : shAll [] := trivial
theorem sh_cons {x : D} {xs : List D} (h : shD x) (t : shAll xs) : shAll (x :: xs) := ⟨h, t⟩
theorem sh_bl {b : Bool} : shD (.bl b) := trivial
theorem sh_non : shD .non := trivial
/-- both texts of equal data are equal -/
theorem same_v {x y : D} {μ : Mu} {R : DP} {PE : XP} (e : y = x) (hs : shD x) (hl : shL x ≤ 16000000) (hd : shN x ≤ 60) (k : R (.bl true) μ) : sameC [x, y] μ R PE := by
  subst e
  obtain ⟨p, e⟩ := Option.isSome_iff_exists.mp (sh_toPy hs)
  obtain ⟨h1, h2, h3⟩ := shown_len e hs
  exact same_i e e h2 (by rw [h3]; exact hd) (Nat.le_trans h1 (Nat.le_trans hl (by decide))) k
theorem eq_ii {a b c d : Int} {P : Bool → Prop} (k : P (decide (a = c) && decide (b = d))) : eqOk (.tup [.int a, .int b]) (.tup [.int c, .int d]) P := by
  refine ⟨.tuple [.int a, .int b], .tuple [.int c, .int d], by simp [toPy, toPyAll], by simp [toPy, toPyAll], rfl, rfl, ?_⟩
  have e : PyData.eqv (.tuple [.int a, .int b]) (.tuple [.int c, .int d]) = (decide (a = c) && decide (b = d)) := by
    simp only [PyData.eqv, PyData.eqvAll, Bool.and_true]
    rfl
  rw [e]; exact k
end Hw
set_option Elab.async false
set_option linter.all false
set_option maxRecDepth 100000
set_option maxHeartbeats 4000000

namespace Hw
open PySem L2 PyProof.Rows
def topS (i : Nat) : Stmt := PySem.Challenge.pw_heardways_k02_ratios_made.main.body.getD i (.Pass ⟨0, 0, 0, 0⟩)
abbrev s_is_integer : Stmt := topS 6
abbrev s_is_number : Stmt := topS 7
abbrev s_common_divisor : Stmt := topS 8
abbrev s_lowest : Stmt := topS 9
abbrev s_is_ratio : Stmt := topS 10
abbrev s_ratio : Stmt := topS 11
abbrev s_ratio_of : Stmt := topS 12
abbrev s__law_source : Stmt := topS 14
abbrev s__law_draw : Stmt := topS 15
abbrev s__law_of : Stmt := topS 16
abbrev s__law_same : Stmt := topS 17
abbrev s__law_fields : Stmt := topS 18
abbrev s__law_ask : Stmt := topS 19
abbrev s__law_low : Stmt := topS 20
abbrev s__law_number : Stmt := topS 21
abbrev s_law : Stmt := topS 22
abbrev s_InvalidRatio_init : Stmt := methS (topS 3) 0
abbrev s_NothingLeft_init : Stmt := methS (topS 4) 0
structure TK (P : Program) (K : PySem.W.Frag) (a_NetError a_Missing a_InvalidRatio a_NothingLeft cd tT : Addr) : Prop where
  pf : PF P
  n_NetError : PySem.W.nsIn K mainGlobals "NetError" = some (some (.ref a_NetError))
  n_Missing : PySem.W.nsIn K mainGlobals "Missing" = some (some (.ref a_Missing))
  n_InvalidRatio : PySem.W.nsIn K mainGlobals "InvalidRatio" = some (some (.ref a_InvalidRatio))
  n_NothingLeft : PySem.W.nsIn K mainGlobals "NothingLeft" = some (some (.ref a_NothingLeft))
  b_NetError : BasC K a_NetError
  b_Missing : BasC K a_Missing
  b_NothingLeft : BasC K a_NothingLeft
  e_InvalidRatio : Exc1 P K "InvalidRatio" "InvalidRatio.__init__" "given" "given" "InvalidRatio" s_InvalidRatio_init a_InvalidRatio
  x_InvalidRatio : XfC K a_InvalidRatio
  s_InvalidRatio_NetError : PySem.W.subIn K (.ref a_InvalidRatio) (.ref a_NetError) = some true
  s_InvalidRatio_Missing : PySem.W.subIn K (.ref a_InvalidRatio) (.ref a_Missing) = some false
  s_InvalidRatio_NothingLeft : PySem.W.subIn K (.ref a_InvalidRatio) (.ref a_NothingLeft) = some false
  f_is_integer : FunAt K "is_integer" s_is_integer
  f_is_number : FunAt K "is_number" s_is_number
  f_common_divisor : FunAt K "common_divisor" s_common_divisor
  f_lowest : FunAt K "lowest" s_lowest
  f_is_ratio : FunAt K "is_ratio" s_is_ratio
  f_ratio : FunAtV K "ratio" s_ratio [.int (1)]
  f_ratio_of : FunAt K "ratio_of" s_ratio_of
  f__law_source : FunAt K "_law_source" s__law_source
  f__law_draw : FunAt K "_law_draw" s__law_draw
  f__law_of : FunAt K "_law_of" s__law_of
  f__law_same : FunAt K "_law_same" s__law_same
  f__law_fields : FunAt K "_law_fields" s__law_fields
  f__law_ask : FunAt K "_law_ask" s__law_ask
  f__law_low : FunAt K "_law_low" s__law_low
  f__law_number : FunAt K "_law_number" s__law_number
  f_law : FunAtC K "law" s_law cd tT
  z_isinstance : PySem.W.nsIn K mainGlobals "isinstance" = some none
  z_int : PySem.W.nsIn K mainGlobals "int" = some none
  z_bool : PySem.W.nsIn K mainGlobals "bool" = some none
  z_abs : PySem.W.nsIn K mainGlobals "abs" = some none
  z_tuple : PySem.W.nsIn K mainGlobals "tuple" = some none
  z_len : PySem.W.nsIn K mainGlobals "len" = some none
  z_list : PySem.W.nsIn K mainGlobals "list" = some none
  z_repr : PySem.W.nsIn K mainGlobals "repr" = some none
  z_range : PySem.W.nsIn K mainGlobals "range" = some none
  k_int : SubTab K "int"
  k_bool : SubTab K "bool"
  k_tuple : SubTab K "tuple"
structure Tx (P : Program) (K : PySem.W.Frag) (mg : Str → Option Value) (base : Heap) (a_NetError a_Missing a_InvalidRatio a_NothingLeft cd tT : Addr) : Prop where
  t : TK P K a_NetError a_Missing a_InvalidRatio a_NothingLeft cd tT
  tb : Tb K mg base
theorem sS_InvalidRatio : SupScope ["self", "given"] ["self", "given"] (defScope s_InvalidRatio_init) := ⟨rfl, rfl, rfl, by decide +kernel, rfl, by decide +kernel, by decide +kernel, by decide +kernel, by decide +kernel, by decide +kernel⟩
theorem mk_InvalidRatio {X : Cx} {a_NetError a_Missing a_InvalidRatio a_NothingLeft cd tT : Addr} (T : Tx X.prog X.K X.mg X.base a_NetError a_Missing a_InvalidRatio a_NothingLeft cd tT) {PE : XP} {e : Expr} {μ : Mu} {ds : DS} {p pos : Pos} {Q : XP} {k : Nat} (hr : Room (k + 3) X.A) (h : EX X PE μ ds e fun d μ1 => Q a_InvalidRatio [("given", d), (("code" : Str), .str "InvalidRatio")] μ1) (hg : Gl X "InvalidRatio") (he : starEach [e] X.env = (false, eval e X.env) :: starEach [] X.env := by rfl) : MX X PE μ ds (.Call (.Name "InvalidRatio" p) [e] [] pos) Q :=
  mx_call1 T.t.pf T.t.e_InvalidRatio (T.tb.som T.t.n_InvalidRatio) hr sS_InvalidRatio h hg rfl rfl rfl (fun _ _ _ _ _ _ _ _ _ => rfl) (fun _ _ _ _ => rfl) (fun _ => rfl) (fun _ => rfl) (by decide) (by decide) (by decide +kernel) (by decide) he rfl
theorem ma_InvalidRatio {P : Program} {K : PySem.W.Frag} {a_NetError a_Missing a_InvalidRatio a_NothingLeft cd tT : Addr} (T : TK P K a_NetError a_Missing a_InvalidRatio a_NothingLeft cd tT) : PySem.W.exmAny K (.ref a_InvalidRatio) [.ref a_NetError, .ref a_Missing, .ref a_NothingLeft] = some true := exm3 T.b_NetError T.b_Missing T.b_NothingLeft T.s_InvalidRatio_NetError T.s_InvalidRatio_Missing T.s_InvalidRatio_NothingLeft
end Hw
set_option Elab.async false
set_option linter.all false
set_option maxRecDepth 100000
set_option maxHeartbeats 4000000

namespace Hw
open PySem L2 PyProof.Rows
-- my own steps
local macro_rules | `(tactic| fail "size") => `(tactic| first | decide | exact Nat.le_of_ble_eq_true rfl | omega | assumption | (simp only [signs_len, rngD_len]; first | assumption | omega | (show _ ≤ 16777216; omega) | (simp only [Str.length_append]; show _ ≤ 16777216; omega)) | (show _ ≤ 16777216; omega) | (simp only [Str.length_append]; show _ ≤ 16777216; omega))
local macro_rules | `(tactic| fail "mul") => `(tactic| first | exact Or.inl (Or.inl ⟨by omega, by omega⟩) | exact Or.inl (Or.inr ⟨by omega, by omega⟩) | exact Or.inl (Or.inr ⟨by decide, by decide⟩))
local macro_rules | `(tactic| fail "pos") => `(tactic| first | decide | omega)
local macro_rules | `(tactic| fail "div") => `(tactic| first | decide | exact ⟨by omega, by decide⟩ | assumption)
local macro_rules | `(tactic| fail "mark") => `(tactic| with_unfolding_all rfl)
local macro_rules | `(tactic| fail "len") => `(tactic| exact Nat.le_of_ble_eq_true rfl)
local macro_rules | `(tactic| fail "wid") => `(tactic| first | exact Nat.le_of_ble_eq_true rfl | (simp only [shL, shLs, shN, shNs]; omega) | (simp [shL, shLs, shN, shNs, List.replicate]; omega))
local macro_rules | `(tactic| fail "loc") => `(tactic| first | exact Or.inl rfl | exact Or.inr rfl)
local macro_rules | `(tactic| fail "pl") => `(tactic| first | rfl | assumption)
local macro_rules | `(tactic| fail "rng") => `(tactic| first | decide | omega)
local macro_rules | `(tactic| fail "sh") => `(tactic| repeat (first | assumption | with_reducible exact sh_non | with_reducible exact sh_bl | with_reducible exact sh_nil | with_reducible refine sh_cons ?_ ?_ | with_reducible refine sh_tup ?_ | with_reducible refine sh_lst ?_ | (with_reducible refine sh_int ?_; omega) | (with_reducible refine sh_lit ?_; decide +kernel)))
local macro_rules | `(tactic| fail "rep") => `(tactic| exact ⟨by decide, by decide, Nat.le_of_ble_eq_true rfl⟩)
variable {P : Program} {w : World} {K : PySem.W.Frag} {mg : Str → Option Value} {base : Heap}
def isIntD : D → Bool
  | .int _ => true
  | _ => false
def isintC : CT := fun xs μ P PE => ∃ d, xs = [d] ∧ plainD d = true ∧ P (.bl (isIntD d)) μ
theorem isint_i {d : D} {μ : Mu} {R : DP} {PE : XP} (hp : plainD d = true) (k : R (.bl (isIntD d)) μ) : isintC [d] μ R PE := ⟨d, rfl, hp, k⟩
theorem sc_is_integer : FnScope ["value"] ["value"] (defScope s_is_integer) := ⟨rfl, rfl, rfl, by decide +kernel, rfl, by decide +kernel, by decide +kernel⟩
variable {a_NetError a_Missing a_InvalidRatio a_NothingLeft cd tT : Addr}
theorem fg_is_integer (T : Tx P K mg base a_NetError a_Missing a_InvalidRatio a_NothingLeft cd tT) {f : Addr} {fd : FuncData} (F : Fun K "is_integer" "is_integer" s_is_integer f fd) : FnG P w K mg base 1 f fd ["value"] isintC := by
  have m_isinstance := T.tb.non T.t.z_isinstance
  have m_int := T.tb.non T.t.z_int
  have m_bool := T.tb.non T.t.z_bool
  refine fn_ok F sc_is_integer (fun xs μ R RE h => by first | (obtain ⟨rfl, _⟩ := h; rfl) | (obtain ⟨_, rfl, _⟩ := h; rfl) | (obtain ⟨_, _, rfl, _⟩ := h; rfl) | (obtain ⟨_, _, _, rfl, _⟩ := h; rfl) | (obtain ⟨_, _, _, _, rfl, _⟩ := h; rfl) | (obtain ⟨_, _, _, _, _, rfl, _⟩ := h; rfl) | (obtain ⟨_, _, _, _, _, _, rfl, _⟩ := h; rfl)) fun xs μ R PE cdv A outer s H E hr h => ?_
  obtain ⟨d, rfl, hp, k⟩ := h
  refine sx_cons (sx_ret (ex_and (ex_callB cr_isi (ax_cons (ex_nm (i := 0) rfl (ax_cons (ex_blt rfl (by assumption) (by decide +kernel) (v := .ty "int") rfl (fun _ _ => .ty _) (ax_nil (f_isB T.t.k_int (by fail "pl") (⟨_, rfl, two (fun ha => ex_one (ex_not (ex_callB cr_isi (ax_cons (ex_nm (i := 0) rfl (ax_cons (ex_blt rfl (by assumption) (by decide +kernel) (v := .ty "bool") rfl (fun _ _ => .ty _) (ax_nil (f_isB T.t.k_bool (by fail "pl") (⟨_, rfl, ?_⟩))))) rfl (.inl rfl) rfl rfl)) rfl (by assumption) (by decide +kernel)))) (fun ha => ?_)⟩))))) rfl (.inl rfl) rfl rfl)) rfl (by assumption) (by decide +kernel))))
  · have e : isIntD d = !isB "bool" d := by cases d <;> simp_all [isB, isIntD, plainD]
    simpa [e] using k
  · have e : isIntD d = false := by cases d <;> simp_all [isB, isIntD, plainD]
    simpa [e] using k
theorem ok_is_integer (T : Tx P K mg base a_NetError a_Missing a_InvalidRatio a_NothingLeft cd tT) : Cal P w K mg base "is_integer" "is_integer" s_is_integer ["value"] 1 isintC := cal_of T.tb T.t.f_is_integer (fun _ _ _ _ _ _ us hl => match us, hl with | [_], _ => rfl) fun f fd F => fg_is_integer T F
end Hw
set_option Elab.async false
set_option linter.all false
set_option maxRecDepth 100000
set_option maxHeartbeats 4000000

namespace Hw
open PySem L2 PyProof.Rows
-- my own steps
local macro_rules | `(tactic| fail "size") => `(tactic| first | decide | exact Nat.le_of_ble_eq_true rfl | omega | assumption | (simp only [signs_len, rngD_len]; first | assumption | omega | (show _ ≤ 16777216; omega) | (simp only [Str.length_append]; show _ ≤ 16777216; omega)) | (show _ ≤ 16777216; omega) | (simp only [Str.length_append]; show _ ≤ 16777216; omega))
local macro_rules | `(tactic| fail "mul") => `(tactic| first | exact Or.inl (Or.inl ⟨by omega, by omega⟩) | exact Or.inl (Or.inr ⟨by omega, by omega⟩) | exact Or.inl (Or.inr ⟨by decide, by decide⟩))
local macro_rules | `(tactic| fail "pos") => `(tactic| first | decide | omega)
local macro_rules | `(tactic| fail "div") => `(tactic| first | decide | exact ⟨by omega, by decide⟩ | assumption)
local macro_rules | `(tactic| fail "mark") => `(tactic| with_unfolding_all rfl)
local macro_rules | `(tactic| fail "len") => `(tactic| exact Nat.le_of_ble_eq_true rfl)
local macro_rules | `(tactic| fail "wid") => `(tactic| first | exact Nat.le_of_ble_eq_true rfl | (simp only [shL, shLs, shN, shNs]; omega) | (simp [shL, shLs, shN, shNs, List.replicate]; omega))
local macro_rules | `(tactic| fail "loc") => `(tactic| first | exact Or.inl rfl | exact Or.inr rfl)
local macro_rules | `(tactic| fail "pl") => `(tactic| first | rfl | assumption)
local macro_rules | `(tactic| fail "rng") => `(tactic| first | decide | omega)
local macro_rules | `(tactic| fail "sh") => `(tactic| repeat (first | assumption | with_reducible exact sh_non | with_reducible exact sh_bl | with_reducible exact sh_nil | with_reducible refine sh_cons ?_ ?_ | with_reducible refine sh_tup ?_ | with_reducible refine sh_lst ?_ | (with_reducible refine sh_int ?_; omega) | (with_reducible refine sh_lit ?_; decide +kernel)))
local macro_rules | `(tactic| fail "rep") => `(tactic| exact ⟨by decide, by decide, Nat.le_of_ble_eq_true rfl⟩)
variable {P : Program} {w : World} {K : PySem.W.Frag} {mg : Str → Option Value} {base : Heap}
def isNumD : D → Int → Int → Bool
  | .int i, l, m => decide (l ≤ i) && decide (i ≤ m)
  | _, _, _ => false
def isnumC : CT := fun xs μ P PE => ∃ d l m, xs = [d, .int l, .int m] ∧ plainD d = true ∧ P (.bl (isNumD d l m)) μ
theorem isnum_i {d : D} {l m : Int} {μ : Mu} {R : DP} {PE : XP} (hp : plainD d = true) (k : R (.bl (isNumD d l m)) μ) : isnumC [d, .int l, .int m] μ R PE := ⟨d, l, m, rfl, hp, k⟩
theorem sc_is_number : FnScope ["value", "least", "most"] ["value", "least", "most"] (defScope s_is_number) := ⟨rfl, rfl, rfl, by decide +kernel, rfl, by decide +kernel, by decide +kernel⟩
variable {a_NetError a_Missing a_InvalidRatio a_NothingLeft cd tT : Addr}
theorem fg_is_number (T : Tx P K mg base a_NetError a_Missing a_InvalidRatio a_NothingLeft cd tT) {f : Addr} {fd : FuncData} (F : Fun K "is_number" "is_number" s_is_number f fd) : FnG P w K mg base 2 f fd ["value", "least", "most"] isnumC := by
  have c_is_integer := ok_is_integer (P := P) (w := w) T
  refine fn_ok F sc_is_number (fun xs μ R RE h => by first | (obtain ⟨rfl, _⟩ := h; rfl) | (obtain ⟨_, rfl, _⟩ := h; rfl) | (obtain ⟨_, _, rfl, _⟩ := h; rfl) | (obtain ⟨_, _, _, rfl, _⟩ := h; rfl) | (obtain ⟨_, _, _, _, rfl, _⟩ := h; rfl) | (obtain ⟨_, _, _, _, _, rfl, _⟩ := h; rfl) | (obtain ⟨_, _, _, _, _, _, rfl, _⟩ := h; rfl)) fun xs μ R PE cdv A outer s H E hr h => ?_
  obtain ⟨d, l, m, rfl, hp, k⟩ := h
  cases hi : isIntD d with
  | true =>
    obtain ⟨i, rfl⟩ : ∃ i, d = .int i := by cases d <;> first | exact ⟨_, rfl⟩ | cases hi
    refine sx_cons (sx_ret (ex_and (ex_call c_is_integer (hr.mono (by decide)) (ax_cons (ex_nm (i := 0) rfl (ax_nil (isint_i hp (⟨_, rfl, two (fun ha => ex_one (ex_chain (ex_nm (i := 1) rfl (ex_nm (i := 0) rfl (c_le (two (fun hc1 => ex_nm (i := 2) rfl (c_le (?_)) rfl (.inl rfl) rfl rfl) (fun hc1 => ?_))) rfl (.inl rfl) rfl rfl) rfl (.inl rfl) rfl rfl))) (fun ha => ?_)⟩))) rfl (.inl rfl) rfl rfl)) rfl)))
    · have e1 := of_decide_eq_true hc1
      simpa [isNumD, e1] using k
    · have e1 := of_decide_eq_false hc1
      simpa [isNumD, e1] using k
    · cases ha
  | false =>
    refine sx_cons (sx_ret (ex_and (ex_call c_is_integer (hr.mono (by decide)) (ax_cons (ex_nm (i := 0) rfl (ax_nil (isint_i hp (⟨_, rfl, two (fun ha => by rw [hi] at ha; cases ha) (fun ha => ?_)⟩))) rfl (.inl rfl) rfl rfl)) rfl)))
    have e : isNumD d l m = false := by cases d <;> first | rfl | cases hi
    simpa [e] using k
theorem ok_is_number (T : Tx P K mg base a_NetError a_Missing a_InvalidRatio a_NothingLeft cd tT) : Cal P w K mg base "is_number" "is_number" s_is_number ["value", "least", "most"] 2 isnumC := cal_of T.tb T.t.f_is_number (fun _ _ _ _ _ _ us hl => match us, hl with | [_, _, _], _ => rfl) fun f fd F => fg_is_number T F
end Hw
set_option Elab.async false
set_option linter.all false
set_option maxRecDepth 100000
set_option maxHeartbeats 4000000

namespace Hw
open PySem L2 PyProof.Rows
-- my own steps
local macro_rules | `(tactic| fail "size") => `(tactic| first | decide | exact Nat.le_of_ble_eq_true rfl | omega | assumption | (simp only [signs_len, rngD_len]; first | assumption | omega | (show _ ≤ 16777216; omega) | (simp only [Str.length_append]; show _ ≤ 16777216; omega)) | (show _ ≤ 16777216; omega) | (simp only [Str.length_append]; show _ ≤ 16777216; omega))
local macro_rules | `(tactic| fail "mul") => `(tactic| first | exact Or.inl (Or.inl ⟨by omega, by omega⟩) | exact Or.inl (Or.inr ⟨by omega, by omega⟩) | exact Or.inl (Or.inr ⟨by decide, by decide⟩))
local macro_rules | `(tactic| fail "pos") => `(tactic| first | decide | omega)
local macro_rules | `(tactic| fail "div") => `(tactic| first | decide | exact ⟨by omega, by decide⟩ | assumption)
local macro_rules | `(tactic| fail "mark") => `(tactic| with_unfolding_all rfl)
local macro_rules | `(tactic| fail "len") => `(tactic| exact Nat.le_of_ble_eq_true rfl)
local macro_rules | `(tactic| fail "wid") => `(tactic| first | exact Nat.le_of_ble_eq_true rfl | (simp only [shL, shLs, shN, shNs]; omega) | (simp [shL, shLs, shN, shNs, List.replicate]; omega))
local macro_rules | `(tactic| fail "loc") => `(tactic| first | exact Or.inl rfl | exact Or.inr rfl)
local macro_rules | `(tactic| fail "pl") => `(tactic| first | rfl | assumption)
local macro_rules | `(tactic| fail "rng") => `(tactic| first | decide | omega)
local macro_rules | `(tactic| fail "sh") => `(tactic| repeat (first | assumption | with_reducible exact sh_non | with_reducible exact sh_bl | with_reducible exact sh_nil | with_reducible refine sh_cons ?_ ?_ | with_reducible refine sh_tup ?_ | with_reducible refine sh_lst ?_ | (with_reducible refine sh_int ?_; omega) | (with_reducible refine sh_lit ?_; decide +kernel)))
local macro_rules | `(tactic| fail "rep") => `(tactic| exact ⟨by decide, by decide, Nat.le_of_ble_eq_true rfl⟩)
variable {P : Program} {w : World} {K : PySem.W.Frag} {mg : Str → Option Value} {base : Heap}
def gcdC : CT := fun xs μ P PE => ∃ a b : Int, xs = [.int a, .int b] ∧ P (.int (Int.gcd a b)) μ
theorem gcd_i {a b : Int} {μ : Mu} {R : DP} {PE : XP} (k : R (.int (Int.gcd a b)) μ) : gcdC [.int a, .int b] μ R PE := ⟨a, b, rfl, k⟩
theorem abs_nat (a : Int) : (if a < 0 then -a else a) = (a.natAbs : Int) := by split <;> omega
theorem sc_common_divisor : FnScope ["one", "other"] ["one", "other"] (defScope s_common_divisor) := ⟨rfl, rfl, rfl, by decide +kernel, rfl, by decide +kernel, by decide +kernel⟩
variable {a_NetError a_Missing a_InvalidRatio a_NothingLeft cd tT : Addr}
theorem fg_common_divisor (T : Tx P K mg base a_NetError a_Missing a_InvalidRatio a_NothingLeft cd tT) {f : Addr} {fd : FuncData} (F : Fun K "common_divisor" "common_divisor" s_common_divisor f fd) : FnG P w K mg base 1 f fd ["one", "other"] gcdC := by
  have m_abs := T.tb.non T.t.z_abs
  refine fn_ok F sc_common_divisor (fun xs μ R RE h => by first | (obtain ⟨rfl, _⟩ := h; rfl) | (obtain ⟨_, rfl, _⟩ := h; rfl) | (obtain ⟨_, _, rfl, _⟩ := h; rfl) | (obtain ⟨_, _, _, rfl, _⟩ := h; rfl) | (obtain ⟨_, _, _, _, rfl, _⟩ := h; rfl) | (obtain ⟨_, _, _, _, _, rfl, _⟩ := h; rfl) | (obtain ⟨_, _, _, _, _, _, rfl, _⟩ := h; rfl)) fun xs μ R PE cdv A outer s H E hr h => ?_
  obtain ⟨a, b, rfl, k⟩ := h
  refine sx_cons (sx_par 0 1 (ax_cons (ex_callB cr_abs (ax_cons (ex_nm (i := 0) rfl (ax_nil (f_abs (ax_cons (ex_callB cr_abs (ax_cons (ex_nm (i := 1) rfl (ax_nil (f_abs (ax_nil (⟨_, _, rfl, ?_⟩)))) rfl (.inl rfl) rfl rfl)) rfl (by assumption) (by decide +kernel))))) rfl (.inl rfl) rfl rfl)) rfl (by assumption) (by decide +kernel))) rfl sc_common_divisor.nd rfl rfl (by decide) rfl rfl rfl)
  rw [abs_nat, abs_nat]
  refine sx_cut (fun s μ1 => μ1 = μ ∧ s = [some (.int (Int.gcd a b)), some (.int 0)]) ?_ fun s μ1 q => ?_
  · refine sx_while (fun m s μ1 => μ1 = μ ∧ ∃ x y : Nat, s = [some (.int x), some (.int y)] ∧ Nat.gcd x y = Int.gcd a b ∧ y = m) b.natAbs ⟨rfl, a.natAbs, b.natAbs, rfl, rfl, rfl⟩ (fun m s μ1 q => ?_) (passes_of rfl)
    obtain ⟨rfl, x, y, rfl, hg, rfl⟩ := q
    refine tx_cmp (ex_nm (i := 1) rfl (ex_int (c_gt (two (fun h1 => ?_) (fun h1 => ?_)))) rfl (.inl rfl) rfl rfl) (by fail "mark")
    · have h1 := of_decide_eq_true h1
      refine sx_cons (sx_par 0 1 (ax_cons (ex_nm (i := 1) rfl (ax_cons (ex_bin (ex_nm (i := 0) rfl (ex_nm (i := 1) rfl (b_modI (by fail "pos") (ax_nil (⟨_, _, rfl, ?_⟩))) rfl (.inl rfl) rfl rfl) rfl (.inl rfl) rfl rfl))) rfl (.inl rfl) rfl rfl)) rfl sc_common_divisor.nd rfl rfl (by decide) rfl rfl rfl)
      refine sx_nil ⟨x % y, Nat.mod_lt _ (by omega), rfl, y, x % y, rfl, ?_, rfl⟩
      rw [← hg, Nat.gcd_comm x y, Nat.gcd_rec y x, Nat.gcd_comm]
    · have h1 := of_decide_eq_false h1
      obtain rfl : y = 0 := by omega
      exact ⟨rfl, by rw [← hg, Nat.gcd_zero_right]; rfl⟩
  · obtain ⟨rfl, rfl⟩ := q
    refine sx_cons (sx_ret (ex_nm (i := 0) rfl (?_) rfl (.inl rfl) rfl rfl))
    exact k
theorem ok_common_divisor (T : Tx P K mg base a_NetError a_Missing a_InvalidRatio a_NothingLeft cd tT) : Cal P w K mg base "common_divisor" "common_divisor" s_common_divisor ["one", "other"] 1 gcdC := cal_of T.tb T.t.f_common_divisor (fun _ _ _ _ _ _ us hl => match us, hl with | [_, _], _ => rfl) fun f fd F => fg_common_divisor T F
end Hw
set_option Elab.async false
set_option linter.all false
set_option maxRecDepth 100000
set_option maxHeartbeats 4000000

namespace Hw
open PySem L2 PyProof.Rows
-- my own steps
local macro_rules | `(tactic| fail "size") => `(tactic| first | decide | exact Nat.le_of_ble_eq_true rfl | omega | assumption | (simp only [signs_len, rngD_len]; first | assumption | omega | (show _ ≤ 16777216; omega) | (simp only [Str.length_append]; show _ ≤ 16777216; omega)) | (show _ ≤ 16777216; omega) | (simp only [Str.length_append]; show _ ≤ 16777216; omega))
local macro_rules | `(tactic| fail "mul") => `(tactic| first | exact Or.inl (Or.inl ⟨by omega, by omega⟩) | exact Or.inl (Or.inr ⟨by omega, by omega⟩) | exact Or.inl (Or.inr ⟨by decide, by decide⟩))
local macro_rules | `(tactic| fail "pos") => `(tactic| first | decide | omega)
local macro_rules | `(tactic| fail "div") => `(tactic| first | decide | exact ⟨by omega, by decide⟩ | assumption)
local macro_rules | `(tactic| fail "mark") => `(tactic| with_unfolding_all rfl)
local macro_rules | `(tactic| fail "len") => `(tactic| exact Nat.le_of_ble_eq_true rfl)
local macro_rules | `(tactic| fail "wid") => `(tactic| first | exact Nat.le_of_ble_eq_true rfl | (simp only [shL, shLs, shN, shNs]; omega) | (simp [shL, shLs, shN, shNs, List.replicate]; omega))
local macro_rules | `(tactic| fail "loc") => `(tactic| first | exact Or.inl rfl | exact Or.inr rfl)
local macro_rules | `(tactic| fail "pl") => `(tactic| first | rfl | assumption)
local macro_rules | `(tactic| fail "rng") => `(tactic| first | decide | omega)
local macro_rules | `(tactic| fail "sh") => `(tactic| repeat (first | assumption | with_reducible exact sh_non | with_reducible exact sh_bl | with_reducible exact sh_nil | with_reducible refine sh_cons ?_ ?_ | with_reducible refine sh_tup ?_ | with_reducible refine sh_lst ?_ | (with_reducible refine sh_int ?_; omega) | (with_reducible refine sh_lit ?_; decide +kernel)))
local macro_rules | `(tactic| fail "rep") => `(tactic| exact ⟨by decide, by decide, Nat.le_of_ble_eq_true rfl⟩)
variable {P : Program} {w : World} {K : PySem.W.Frag} {mg : Str → Option Value} {base : Heap}
/-- the divisor with bottom's sign -/
def sgn (t b : Int) : Int := if b < 0 then -(Int.gcd t b : Int) else Int.gcd t b
def lowT (t b : Int) : Int := t.fdiv (sgn t b)
def lowB (t b : Int) : Int := b.fdiv (sgn t b)
theorem low_one (t : Int) : lowT t 1 = t ∧ lowB t 1 = 1 := by
  have e : sgn t 1 = 1 := by simp [sgn]
  unfold lowT lowB
  rw [e]
  exact ⟨Int.fdiv_one t, by decide⟩
def lowC : CT := fun xs μ P PE => ∃ t b : Int, xs = [.int t, .int b] ∧ b ≠ 0 ∧ b.natAbs.log2 < 9000 ∧ P (.tup [.int (lowT t b), .int (lowB t b)]) μ
theorem low_i {t b : Int} {μ : Mu} {R : DP} {PE : XP} (h0 : b ≠ 0) (hl : b.natAbs.log2 < 9000) (k : R (.tup [.int (lowT t b), .int (lowB t b)]) μ) : lowC [.int t, .int b] μ R PE := ⟨t, b, rfl, h0, hl, k⟩
theorem sgn_ok {t b : Int} (h0 : b ≠ 0) (hl : b.natAbs.log2 < 9000) : sgn t b ≠ 0 ∧ (sgn t b).natAbs.log2 < 9000 := by
  have h1 : Int.gcd t b ≠ 0 := fun e => h0 (Int.gcd_eq_zero_iff.mp e).2
  have h2 : Int.gcd t b ≤ b.natAbs := Nat.le_of_dvd (by omega) (Nat.gcd_dvd_right _ _)
  have h3 : (sgn t b).natAbs = Int.gcd t b := by unfold sgn; split <;> simp
  refine ⟨fun e => h1 (by rw [← h3, e]; rfl), ?_⟩
  rw [h3]
  exact (Nat.log2_lt h1).mpr (Nat.lt_of_le_of_lt h2 ((Nat.log2_lt (by omega)).mp hl))
theorem sc_lowest : FnScope ["top", "bottom", "by"] ["top", "bottom"] (defScope s_lowest) := ⟨rfl, rfl, rfl, by decide +kernel, rfl, by decide +kernel, by decide +kernel⟩
variable {a_NetError a_Missing a_InvalidRatio a_NothingLeft cd tT : Addr}
theorem fg_lowest (T : Tx P K mg base a_NetError a_Missing a_InvalidRatio a_NothingLeft cd tT) {f : Addr} {fd : FuncData} (F : Fun K "lowest" "lowest" s_lowest f fd) : FnG P w K mg base 2 f fd ["top", "bottom"] lowC := by
  have c_common_divisor := ok_common_divisor (P := P) (w := w) T
  refine fn_ok F sc_lowest (fun xs μ R RE h => by first | (obtain ⟨rfl, _⟩ := h; rfl) | (obtain ⟨_, rfl, _⟩ := h; rfl) | (obtain ⟨_, _, rfl, _⟩ := h; rfl) | (obtain ⟨_, _, _, rfl, _⟩ := h; rfl) | (obtain ⟨_, _, _, _, rfl, _⟩ := h; rfl) | (obtain ⟨_, _, _, _, _, rfl, _⟩ := h; rfl) | (obtain ⟨_, _, _, _, _, _, rfl, _⟩ := h; rfl)) fun xs μ R PE cdv A outer s H E hr h => ?_
  obtain ⟨t, b, rfl, h0, hl, k⟩ := h
  refine sx_cons (sx_if (tx_cmp (ex_nm (i := 1) rfl (ex_int (c_eqI (two (fun h1 => ?_) (fun h1 => sx_nil ?_)))) rfl (.inl rfl) rfl rfl) (by fail "mark")))
  · obtain rfl := of_decide_eq_true h1
    refine sx_cons (sx_ret (ex_tup (ax_cons (ex_nm (i := 0) rfl (ax_cons (ex_int (ax_nil (⟨by fail "len", ?_⟩)))) rfl (.inl rfl) rfl rfl))))
    rw [(low_one t).1, (low_one t).2] at k
    exact k
  · refine sx_cons (sx_set 2 (ex_call c_common_divisor (hr.mono (by decide)) (ax_cons (ex_nm (i := 0) rfl (ax_cons (ex_nm (i := 1) rfl (ax_nil (gcd_i (?_))) rfl (.inl rfl) rfl rfl)) rfl (.inl rfl) rfl rfl)) rfl) sc_lowest.nd rfl (by fail "loc"))
    refine sx_cut (fun s μ1 => μ1 = μ ∧ s = [some (.int t), some (.int b), some (.int (sgn t b))]) ?_ fun s μ1 q => ?_
    · refine sx_if (tx_cmp (ex_nm (i := 1) rfl (ex_int (c_lt (two (fun h2 => ?_) (fun h2 => sx_nil ⟨rfl, ?_⟩)))) rfl (.inl rfl) rfl rfl) (by fail "mark"))
      · refine sx_cons (sx_set 2 (ex_neg (ex_nm (i := 2) rfl (⟨_, rfl, ?_⟩) rfl (.inl rfl) rfl rfl)) sc_lowest.nd rfl (by fail "loc"))
        exact sx_nil ⟨rfl, by unfold sgn; rw [if_pos (of_decide_eq_true h2)]; rfl⟩
      · unfold sgn; rw [if_neg (of_decide_eq_false h2)]; rfl
    · obtain ⟨rfl, rfl⟩ := q
      have hs := sgn_ok h0 hl (t := t)
      refine sx_cons (sx_ret (ex_tup (ax_cons (ex_bin (ex_nm (i := 0) rfl (ex_nm (i := 2) rfl (b_divZ hs (ax_cons (ex_bin (ex_nm (i := 1) rfl (ex_nm (i := 2) rfl (b_divZ hs (ax_nil ⟨by fail "len", k⟩)) rfl (.inl rfl) rfl rfl) rfl (.inl rfl) rfl rfl)))) rfl (.inl rfl) rfl rfl) rfl (.inl rfl) rfl rfl)))))
theorem ok_lowest (T : Tx P K mg base a_NetError a_Missing a_InvalidRatio a_NothingLeft cd tT) : Cal P w K mg base "lowest" "lowest" s_lowest ["top", "bottom"] 2 lowC := cal_of T.tb T.t.f_lowest (fun _ _ _ _ _ _ us hl => match us, hl with | [_, _], _ => rfl) fun f fd F => fg_lowest T F
end Hw
set_option Elab.async false
set_option linter.all false
set_option maxRecDepth 100000
set_option maxHeartbeats 4000000

namespace Hw
open PySem L2 PyProof.Rows
-- my own steps
local macro_rules | `(tactic| fail "size") => `(tactic| first | decide | exact Nat.le_of_ble_eq_true rfl | omega | assumption | (simp only [signs_len, rngD_len]; first | assumption | omega | (show _ ≤ 16777216; omega) | (simp only [Str.length_append]; show _ ≤ 16777216; omega)) | (show _ ≤ 16777216; omega) | (simp only [Str.length_append]; show _ ≤ 16777216; omega))
local macro_rules | `(tactic| fail "mul") => `(tactic| first | exact Or.inl (Or.inl ⟨by omega, by omega⟩) | exact Or.inl (Or.inr ⟨by omega, by omega⟩) | exact Or.inl (Or.inr ⟨by decide, by decide⟩))
local macro_rules | `(tactic| fail "pos") => `(tactic| first | decide | omega)
local macro_rules | `(tactic| fail "div") => `(tactic| first | decide | exact ⟨by omega, by decide⟩ | assumption)
local macro_rules | `(tactic| fail "mark") => `(tactic| with_unfolding_all rfl)
local macro_rules | `(tactic| fail "len") => `(tactic| exact Nat.le_of_ble_eq_true rfl)
local macro_rules | `(tactic| fail "wid") => `(tactic| first | exact Nat.le_of_ble_eq_true rfl | (simp only [shL, shLs, shN, shNs]; omega) | (simp [shL, shLs, shN, shNs, List.replicate]; omega))
local macro_rules | `(tactic| fail "loc") => `(tactic| first | exact Or.inl rfl | exact Or.inr rfl)
local macro_rules | `(tactic| fail "pl") => `(tactic| first | rfl | assumption)
local macro_rules | `(tactic| fail "rng") => `(tactic| first | decide | omega)
local macro_rules | `(tactic| fail "sh") => `(tactic| repeat (first | assumption | with_reducible exact sh_non | with_reducible exact sh_bl | with_reducible exact sh_nil | with_reducible refine sh_cons ?_ ?_ | with_reducible refine sh_tup ?_ | with_reducible refine sh_lst ?_ | (with_reducible refine sh_int ?_; omega) | (with_reducible refine sh_lit ?_; decide +kernel)))
local macro_rules | `(tactic| fail "rep") => `(tactic| exact ⟨by decide, by decide, Nat.le_of_ble_eq_true rfl⟩)
variable {P : Program} {w : World} {K : PySem.W.Frag} {mg : Str → Option Value} {base : Heap}
def isRatioD : D → Bool
  | .tup [.int a, .int b] => decide (1 ≤ b) && decide ((Int.gcd a b : Int) = 1)
  | _ => false
/-- plain, a tuple's items plain -/
def plain2 (d : D) : Prop := plainD d = true ∧ ∀ xs, d = .tup xs → ∀ x ∈ xs, plainD x = true
def isratioC : CT := fun xs μ P PE => ∃ d, xs = [d] ∧ plain2 d ∧ P (.bl (isRatioD d)) μ
theorem isratio_i {d : D} {μ : Mu} {R : DP} {PE : XP} (hp : plain2 d) (k : R (.bl (isRatioD d)) μ) : isratioC [d] μ R PE := ⟨d, rfl, hp, k⟩
theorem isratio_int {x y : D} (h : isRatioD (.tup [x, y]) = true) : isIntD x = true ∧ isIntD y = true := by
  cases x <;> cases y <;> first | exact ⟨rfl, rfl⟩ | cases h
theorem sc_is_ratio : FnScope ["value"] ["value"] (defScope s_is_ratio) := ⟨rfl, rfl, rfl, by decide +kernel, rfl, by decide +kernel, by decide +kernel⟩
variable {a_NetError a_Missing a_InvalidRatio a_NothingLeft cd tT : Addr}
theorem fg_is_ratio (T : Tx P K mg base a_NetError a_Missing a_InvalidRatio a_NothingLeft cd tT) {f : Addr} {fd : FuncData} (F : Fun K "is_ratio" "is_ratio" s_is_ratio f fd) : FnG P w K mg base 2 f fd ["value"] isratioC := by
  have m_isinstance := T.tb.non T.t.z_isinstance
  have m_tuple := T.tb.non T.t.z_tuple
  have m_len := T.tb.non T.t.z_len
  have c_is_integer := ok_is_integer (P := P) (w := w) T
  have c_common_divisor := ok_common_divisor (P := P) (w := w) T
  refine fn_ok F sc_is_ratio (fun xs μ R RE h => by first | (obtain ⟨rfl, _⟩ := h; rfl) | (obtain ⟨_, rfl, _⟩ := h; rfl) | (obtain ⟨_, _, rfl, _⟩ := h; rfl) | (obtain ⟨_, _, _, rfl, _⟩ := h; rfl) | (obtain ⟨_, _, _, _, rfl, _⟩ := h; rfl) | (obtain ⟨_, _, _, _, _, rfl, _⟩ := h; rfl) | (obtain ⟨_, _, _, _, _, _, rfl, _⟩ := h; rfl)) fun xs μ R PE cdv A outer s H E hr h => ?_
  obtain ⟨d, rfl, ⟨hp, ht⟩, k⟩ := h
  have kf : isRatioD d = false → R (.bl false) μ := fun e => by simpa [e] using k
  cases hb : isB "tuple" d with
  | false =>
    refine sx_cons (sx_if (tx_w (tw_or (tx_not (tx_val (ex_callB cr_isi (ax_cons (ex_nm (i := 0) rfl (ax_cons (ex_blt rfl (by assumption) (by decide +kernel) (v := .ty "tuple") rfl (fun _ _ => .ty _) (ax_nil (f_isB T.t.k_tuple (by fail "pl") (⟨_, rfl, two (fun _ => two (fun _ => ?_) (fun e => nomatch e)) (fun ha => absurd ha (by simp [hb]))⟩))))) rfl (.inl rfl) rfl rfl)) rfl (by assumption) (by decide +kernel)) (fun _ => rfl))))))
    refine sx_cons (sx_ret (ex_bl (?_)))
    exact kf (by cases d <;> first | rfl | cases hb)
  | true =>
    obtain ⟨xs, rfl⟩ : ∃ xs, d = .tup xs := by cases d <;> first | exact ⟨_, rfl⟩ | cases hb | cases hp
    have ht := ht xs rfl
    by_cases hl : xs.length = 2
    · obtain ⟨x, y, rfl⟩ : ∃ x y, xs = [x, y] := by
        match xs, hl with
        | [x, y], _ => exact ⟨x, y, rfl⟩
      have px := ht x (by simp)
      have py := ht y (by simp)
      refine sx_cons (sx_if (tx_w (tw_or (tx_not (tx_val (ex_callB cr_isi (ax_cons (ex_nm (i := 0) rfl (ax_cons (ex_blt rfl (by assumption) (by decide +kernel) (v := .ty "tuple") rfl (fun _ _ => .ty _) (ax_nil (f_isB T.t.k_tuple (by fail "pl") (⟨_, rfl, two (fun ha => two (fun h1 => ?_) (fun h1 => ?_)) (fun ha => tw_or (tx_cmp (ex_callB cr_len (ax_cons (ex_nm (i := 0) rfl (ax_nil (f_lenT (ex_int (c_neI (two (fun ha => two (fun h1 => ?_) (fun h1 => ?_)) (fun ha => tw_or (tx_not (tx_val (ex_call c_is_integer (hr.mono (by decide)) (ax_cons (ex_ix (ex_nm (i := 0) rfl (ex_int (i_tup rfl (ax_nil (isint_i px (⟨_, rfl, two (fun ha => two (fun h1 => ?_) (fun h1 => ?_)) (fun ha => tw_or1 (tx_not (tx_val (ex_call c_is_integer (hr.mono (by decide)) (ax_cons (ex_ix (ex_nm (i := 0) rfl (ex_int (i_tup rfl (ax_nil (isint_i py (⟨_, rfl, two (fun h1 => ?_) (fun h1 => ?_)⟩))))) rfl (.inl rfl) rfl rfl))) rfl) (fun _ => rfl))))⟩))))) rfl (.inl rfl) rfl rfl))) rfl) (fun _ => rfl))))))))) rfl (.inl rfl) rfl rfl)) rfl (by assumption) PySem.boot_len) (by fail "mark")))⟩))))) rfl (.inl rfl) rfl rfl)) rfl (by assumption) (by decide +kernel)) (fun _ => rfl))))))
      · exact absurd ha (by simp [isB])
      · cases h1
      · simp at ha
      · cases h1
      · refine sx_cons (sx_ret (ex_bl (?_)))
        refine kf ?_
        cases e : isRatioD (.tup [x, y]) with
        | false => rfl
        | true => simp [(isratio_int e).1] at ha
      · cases h1
      · refine sx_cons (sx_ret (ex_bl (?_)))
        refine kf ?_
        cases e : isRatioD (.tup [x, y]) with
        | false => rfl
        | true => simp [(isratio_int e).2] at h1
      · obtain ⟨a, rfl⟩ : ∃ a, x = .int a := by cases x <;> first | exact ⟨_, rfl⟩ | (simp [isIntD] at ha)
        obtain ⟨b, rfl⟩ : ∃ b, y = .int b := by cases y <;> first | exact ⟨_, rfl⟩ | (simp [isIntD] at h1)
        refine sx_nil ?_
        refine sx_cons (sx_ret (ex_and (ex_cmp (ex_ix (ex_nm (i := 0) rfl (ex_int (i_tup rfl (ex_int (c_ge (⟨_, rfl, two (fun ha => ex_one (ex_cmp (ex_call c_common_divisor (hr.mono (by decide)) (ax_cons (ex_ix (ex_nm (i := 0) rfl (ex_int (i_tup rfl (ax_cons (ex_ix (ex_nm (i := 0) rfl (ex_int (i_tup rfl (ax_nil (gcd_i (ex_int (c_eqI (?_))))))) rfl (.inl rfl) rfl rfl))))) rfl (.inl rfl) rfl rfl))) rfl) (by fail "mark"))) (fun ha => ?_)⟩))))) rfl (.inl rfl) rfl rfl)) (by fail "mark"))))
        · have e1 := of_decide_eq_true ha
          simpa [isRatioD, e1] using k
        · have e1 := of_decide_eq_false ha
          simpa [isRatioD, e1] using k
    · --@type 0 tup
      refine sx_cons (sx_if (tx_w (tw_or (tx_not (tx_val (ex_callB cr_isi (ax_cons (ex_nm (i := 0) rfl (ax_cons (ex_blt rfl (by assumption) (by decide +kernel) (v := .ty "tuple") rfl (fun _ _ => .ty _) (ax_nil (f_isB T.t.k_tuple (by fail "pl") (⟨_, rfl, two (fun ha => absurd ha (by simp [isB])) (fun ha => tw_or (tx_cmp (ex_callB cr_len (ax_cons (ex_nm (i := 0) rfl (ax_nil (f_lenT (ex_int (c_neI (two (fun _ => two (fun _ => ?_) (fun e => nomatch e)) (fun ha => absurd ha (by simp; omega))))))) rfl (.inl rfl) rfl rfl)) rfl (by assumption) PySem.boot_len) (by fail "mark")))⟩))))) rfl (.inl rfl) rfl rfl)) rfl (by assumption) (by decide +kernel)) (fun _ => rfl))))))
      refine sx_cons (sx_ret (ex_bl (?_)))
      refine kf ?_
      match xs, hl with
      | [], _ => rfl
      | [x], _ => cases x <;> rfl
      | x :: y :: z :: r, _ => cases x <;> cases y <;> rfl
theorem ok_is_ratio (T : Tx P K mg base a_NetError a_Missing a_InvalidRatio a_NothingLeft cd tT) : Cal P w K mg base "is_ratio" "is_ratio" s_is_ratio ["value"] 2 isratioC := cal_of T.tb T.t.f_is_ratio (fun _ _ _ _ _ _ us hl => match us, hl with | [_], _ => rfl) fun f fd F => fg_is_ratio T F
end Hw
set_option Elab.async false
set_option linter.all false
set_option maxRecDepth 100000
set_option maxHeartbeats 4000000

namespace Hw
open PySem L2 PyProof.Rows
-- my own steps
local macro_rules | `(tactic| fail "size") => `(tactic| first | decide | exact Nat.le_of_ble_eq_true rfl | omega | assumption | (simp only [signs_len, rngD_len]; first | assumption | omega | (show _ ≤ 16777216; omega) | (simp only [Str.length_append]; show _ ≤ 16777216; omega)) | (show _ ≤ 16777216; omega) | (simp only [Str.length_append]; show _ ≤ 16777216; omega))
local macro_rules | `(tactic| fail "mul") => `(tactic| first | exact Or.inl (Or.inl ⟨by omega, by omega⟩) | exact Or.inl (Or.inr ⟨by omega, by omega⟩) | exact Or.inl (Or.inr ⟨by decide, by decide⟩))
local macro_rules | `(tactic| fail "pos") => `(tactic| first | decide | omega)
local macro_rules | `(tactic| fail "div") => `(tactic| first | decide | exact ⟨by omega, by decide⟩ | assumption)
local macro_rules | `(tactic| fail "mark") => `(tactic| with_unfolding_all rfl)
local macro_rules | `(tactic| fail "len") => `(tactic| exact Nat.le_of_ble_eq_true rfl)
local macro_rules | `(tactic| fail "wid") => `(tactic| first | exact Nat.le_of_ble_eq_true rfl | (simp only [shL, shLs, shN, shNs]; omega) | (simp [shL, shLs, shN, shNs, List.replicate]; omega))
local macro_rules | `(tactic| fail "loc") => `(tactic| first | exact Or.inl rfl | exact Or.inr rfl)
local macro_rules | `(tactic| fail "pl") => `(tactic| first | rfl | assumption)
local macro_rules | `(tactic| fail "rng") => `(tactic| first | decide | omega)
local macro_rules | `(tactic| fail "sh") => `(tactic| repeat (first | assumption | with_reducible exact sh_non | with_reducible exact sh_bl | with_reducible exact sh_nil | with_reducible refine sh_cons ?_ ?_ | with_reducible refine sh_tup ?_ | with_reducible refine sh_lst ?_ | (with_reducible refine sh_int ?_; omega) | (with_reducible refine sh_lit ?_; decide +kernel)))
local macro_rules | `(tactic| fail "rep") => `(tactic| exact ⟨by decide, by decide, Nat.le_of_ble_eq_true rfl⟩)
variable {P : Program} {w : World} {K : PySem.W.Frag} {mg : Str → Option Value} {base : Heap}
def ratioC (aIR : Addr) : CT := fun xs μ P PE => ∃ x y, xs = [x, y] ∧ plainD x = true ∧ plainD y = true ∧
  (∀ t b, x = .int t → y = .int b → b ≠ 0 → b.natAbs.log2 < 9000 ∧ P (.tup [.int (lowT t b), .int (lowB t b)]) μ) ∧
  (isIntD x = false → PE aIR [(("given" : Str), x), (("code" : Str), .str "InvalidRatio")] μ) ∧ (isIntD x = true → (isIntD y = false ∨ y = .int 0) → PE aIR [(("given" : Str), y), (("code" : Str), .str "InvalidRatio")] μ)
theorem sc_ratio : FnScope ["top", "bottom"] ["top", "bottom"] (defScope s_ratio) := ⟨rfl, rfl, rfl, by decide +kernel, rfl, by decide +kernel, by decide +kernel⟩
variable {a_NetError a_Missing a_InvalidRatio a_NothingLeft cd tT : Addr}
theorem fg_ratio (T : Tx P K mg base a_NetError a_Missing a_InvalidRatio a_NothingLeft cd tT) {f T0 : Addr} {dvs : List Value} {fd : FuncData} (F : FunV K "ratio" s_ratio f T0 dvs fd) : FnG P w K mg base 4 f fd ["top", "bottom"] (ratioC a_InvalidRatio) := by
  have c_lowest := ok_lowest (P := P) (w := w) T
  have c_is_integer := ok_is_integer (P := P) (w := w) T
  refine fn_okV F sc_ratio (fun xs μ R RE h => by first | (obtain ⟨rfl, _⟩ := h; rfl) | (obtain ⟨_, rfl, _⟩ := h; rfl) | (obtain ⟨_, _, rfl, _⟩ := h; rfl) | (obtain ⟨_, _, _, rfl, _⟩ := h; rfl) | (obtain ⟨_, _, _, _, rfl, _⟩ := h; rfl) | (obtain ⟨_, _, _, _, _, rfl, _⟩ := h; rfl) | (obtain ⟨_, _, _, _, _, _, rfl, _⟩ := h; rfl)) fun xs μ R PE cdv A outer s H E hr h => ?_
  obtain ⟨x, y, rfl, px, py, k, kx, ky⟩ := h
  refine sx_cons (sx_if (tx_not (tx_val (ex_call c_is_integer (hr.mono (by decide)) (ax_cons (ex_nm (i := 0) rfl (ax_nil (isint_i px (⟨_, rfl, two (fun h1 => ?_) (fun h1 => ?_)⟩))) rfl (.inl rfl) rfl rfl)) rfl) (fun _ => rfl))))
  · refine sx_cons (sx_raise (mk_InvalidRatio (k := 0) T (hr.r.mono (by decide)) (ex_nm (i := 0) rfl (?_) rfl (.inl rfl) rfl rfl) rfl) rfl)
    exact kx (by simpa using h1)
  · obtain ⟨t, rfl⟩ : ∃ t, x = .int t := by cases x <;> first | exact ⟨_, rfl⟩ | (simp [isIntD] at h1)
    refine sx_nil ?_
    cases hy : isIntD y with
    | false =>
      refine sx_cons (sx_if (tx_w (tw_or (tx_not (tx_val (ex_call c_is_integer (hr.mono (by decide)) (ax_cons (ex_nm (i := 1) rfl (ax_nil (isint_i py (⟨_, rfl, two (fun _ => two (fun _ => ?_) (fun e => nomatch e)) (fun ha => absurd ha (by simp [hy]))⟩))) rfl (.inl rfl) rfl rfl)) rfl) (fun _ => rfl))))))
      refine sx_cons (sx_raise (mk_InvalidRatio (k := 0) T (hr.r.mono (by decide)) (ex_nm (i := 1) rfl (?_) rfl (.inl rfl) rfl rfl) rfl) rfl)
      exact ky rfl (.inl hy)
    | true =>
      obtain ⟨b, rfl⟩ : ∃ b, y = .int b := by cases y <;> first | exact ⟨_, rfl⟩ | cases hy
      refine sx_cons (sx_if (tx_w (tw_or (tx_not (tx_val (ex_call c_is_integer (hr.mono (by decide)) (ax_cons (ex_nm (i := 1) rfl (ax_nil (isint_i py (⟨_, rfl, two (fun ha => two (fun h1 => ?_) (fun h1 => ?_)) (fun ha => tw_or1 (tx_cmp (ex_nm (i := 1) rfl (ex_int (c_eqI (two (fun h1 => ?_) (fun h1 => ?_)))) rfl (.inl rfl) rfl rfl) (by fail "mark")))⟩))) rfl (.inl rfl) rfl rfl)) rfl) (fun _ => rfl))))))
      · simp [isIntD] at ha
      · cases h1
      · refine sx_cons (sx_raise (mk_InvalidRatio (k := 0) T (hr.r.mono (by decide)) (ex_nm (i := 1) rfl (?_) rfl (.inl rfl) rfl rfl) rfl) rfl)
        exact ky rfl (.inr (by rw [of_decide_eq_true h1]))
      · have hb := of_decide_eq_false h1
        refine sx_nil ?_
        refine sx_cons (sx_ret (ex_call c_lowest (hr.mono (by decide)) (ax_cons (ex_nm (i := 0) rfl (ax_cons (ex_nm (i := 1) rfl (ax_nil (low_i hb (k t b rfl rfl hb).1 (?_))) rfl (.inl rfl) rfl rfl)) rfl (.inl rfl) rfl rfl)) rfl))
        exact (k t b rfl rfl hb).2
theorem ok_ratio_0 (T : Tx P K mg base a_NetError a_Missing a_InvalidRatio a_NothingLeft cd tT) : CalV P w K mg base "ratio" ["top", "bottom"] 4 (ratioC a_InvalidRatio) 1 [] [0] (List.drop 0 [.int (1)]) := calV_of 0 T.tb T.t.f_ratio (fun f T0 dvs fd F => fg_ratio T F) (fun _ _ _ _ _ _ _ us ws its h1 h2 h3 => match us, ws, its, h1, h2, h3 with | [_], [], [_], _, _, _ => ⟨_, rfl, rfl⟩)
theorem ok_ratio_1 (T : Tx P K mg base a_NetError a_Missing a_InvalidRatio a_NothingLeft cd tT) : CalV P w K mg base "ratio" ["top", "bottom"] 4 (ratioC a_InvalidRatio) 2 [] [0, 1] (List.drop 1 [.int (1)]) := calV_of 1 T.tb T.t.f_ratio (fun f T0 dvs fd F => fg_ratio T F) (fun _ _ _ _ _ _ _ us ws its h1 h2 h3 => match us, ws, its, h1, h2, h3 with | [_, _], [], [_], _, _, _ => ⟨_, rfl, rfl⟩)
theorem ok_ratio_2 (T : Tx P K mg base a_NetError a_Missing a_InvalidRatio a_NothingLeft cd tT) : CalV P w K mg base "ratio" ["top", "bottom"] 4 (ratioC a_InvalidRatio) 0 ["bottom", "top"] [1, 0] (List.drop 1 [.int (1)]) := calV_of 1 T.tb T.t.f_ratio (fun f T0 dvs fd F => fg_ratio T F) (fun _ _ _ _ _ _ _ us ws its h1 h2 h3 => match us, ws, its, h1, h2, h3 with | [], [_, _], [_], _, _, _ => ⟨_, rfl, rfl⟩)
end Hw
set_option Elab.async false
set_option linter.all false
set_option maxRecDepth 100000
set_option maxHeartbeats 4000000

namespace Hw
open PySem L2 PyProof.Rows
-- my own steps
local macro_rules | `(tactic| fail "size") => `(tactic| first | decide | exact Nat.le_of_ble_eq_true rfl | omega | assumption | (simp only [signs_len, rngD_len]; first | assumption | omega | (show _ ≤ 16777216; omega) | (simp only [Str.length_append]; show _ ≤ 16777216; omega)) | (show _ ≤ 16777216; omega) | (simp only [Str.length_append]; show _ ≤ 16777216; omega))
local macro_rules | `(tactic| fail "mul") => `(tactic| first | exact Or.inl (Or.inl ⟨by omega, by omega⟩) | exact Or.inl (Or.inr ⟨by omega, by omega⟩) | exact Or.inl (Or.inr ⟨by decide, by decide⟩))
local macro_rules | `(tactic| fail "pos") => `(tactic| first | decide | omega)
local macro_rules | `(tactic| fail "div") => `(tactic| first | decide | exact ⟨by omega, by decide⟩ | assumption)
local macro_rules | `(tactic| fail "mark") => `(tactic| with_unfolding_all rfl)
local macro_rules | `(tactic| fail "len") => `(tactic| exact Nat.le_of_ble_eq_true rfl)
local macro_rules | `(tactic| fail "wid") => `(tactic| first | exact Nat.le_of_ble_eq_true rfl | (simp only [shL, shLs, shN, shNs]; omega) | (simp [shL, shLs, shN, shNs, List.replicate]; omega))
local macro_rules | `(tactic| fail "loc") => `(tactic| first | exact Or.inl rfl | exact Or.inr rfl)
local macro_rules | `(tactic| fail "pl") => `(tactic| first | rfl | assumption)
local macro_rules | `(tactic| fail "rng") => `(tactic| first | decide | omega)
local macro_rules | `(tactic| fail "sh") => `(tactic| repeat (first | assumption | with_reducible exact sh_non | with_reducible exact sh_bl | with_reducible exact sh_nil | with_reducible refine sh_cons ?_ ?_ | with_reducible refine sh_tup ?_ | with_reducible refine sh_lst ?_ | (with_reducible refine sh_int ?_; omega) | (with_reducible refine sh_lit ?_; decide +kernel)))
local macro_rules | `(tactic| fail "rep") => `(tactic| exact ⟨by decide, by decide, Nat.le_of_ble_eq_true rfl⟩)
variable {P : Program} {w : World} {K : PySem.W.Frag} {mg : Str → Option Value} {base : Heap}
def ratioOfD (d : D) : Option D := match d with
  | .int i => some (.tup [.int i, .int 1])
  | d => if isRatioD d then some d else none
def rofC (aIR : Addr) : CT := fun xs μ P PE => ∃ d, xs = [d] ∧ plain2 d ∧ (∀ r, ratioOfD d = some r → P r μ) ∧ (ratioOfD d = none → PE aIR [(("given" : Str), d), (("code" : Str), .str "InvalidRatio")] μ)
theorem rof_i {aIR : Addr} {d : D} {μ : Mu} {R : DP} {PE : XP} (hp : plain2 d) (k : ∀ r, ratioOfD d = some r → R r μ) (ke : ratioOfD d = none → PE aIR [(("given" : Str), d), (("code" : Str), .str "InvalidRatio")] μ) : rofC aIR [d] μ R PE := ⟨d, rfl, hp, k, ke⟩
theorem rof_ok {aIR : Addr} {d r : D} {μ : Mu} {R : DP} {PE : XP} (hp : plain2 d) (e : ratioOfD d = some r) (k : R r μ) : rofC aIR [d] μ R PE := ⟨d, rfl, hp, fun r2 e2 => by rw [e] at e2; cases e2; exact k, fun e2 => by rw [e] at e2; cases e2⟩
theorem rofD_of {d : D} (h : isIntD d = false) : ratioOfD d = if isRatioD d then some d else none := by cases d <;> first | rfl | cases h
theorem sc_ratio_of : FnScope ["value"] ["value"] (defScope s_ratio_of) := ⟨rfl, rfl, rfl, by decide +kernel, rfl, by decide +kernel, by decide +kernel⟩
variable {a_NetError a_Missing a_InvalidRatio a_NothingLeft cd tT : Addr}
theorem fg_ratio_of (T : Tx P K mg base a_NetError a_Missing a_InvalidRatio a_NothingLeft cd tT) {f : Addr} {fd : FuncData} (F : Fun K "ratio_of" "ratio_of" s_ratio_of f fd) : FnG P w K mg base 4 f fd ["value"] (rofC a_InvalidRatio) := by
  have c_is_integer := ok_is_integer (P := P) (w := w) T
  have c_is_ratio := ok_is_ratio (P := P) (w := w) T
  refine fn_ok F sc_ratio_of (fun xs μ R RE h => by first | (obtain ⟨rfl, _⟩ := h; rfl) | (obtain ⟨_, rfl, _⟩ := h; rfl) | (obtain ⟨_, _, rfl, _⟩ := h; rfl) | (obtain ⟨_, _, _, rfl, _⟩ := h; rfl) | (obtain ⟨_, _, _, _, rfl, _⟩ := h; rfl) | (obtain ⟨_, _, _, _, _, rfl, _⟩ := h; rfl) | (obtain ⟨_, _, _, _, _, _, rfl, _⟩ := h; rfl)) fun xs μ R PE cdv A outer s H E hr h => ?_
  obtain ⟨d, rfl, hp, k, ke⟩ := h
  refine sx_cons (sx_if (tx_val (ex_call c_is_integer (hr.mono (by decide)) (ax_cons (ex_nm (i := 0) rfl (ax_nil (isint_i hp.1 (⟨_, rfl, two (fun h1 => ?_) (fun h1 => ?_)⟩))) rfl (.inl rfl) rfl rfl)) rfl) (fun _ => rfl)))
  · obtain ⟨i, rfl⟩ : ∃ i, d = .int i := by cases d <;> first | exact ⟨_, rfl⟩ | (simp [isIntD] at h1)
    refine sx_cons (sx_ret (ex_tup (ax_cons (ex_nm (i := 0) rfl (ax_cons (ex_int (ax_nil (⟨by fail "len", ?_⟩)))) rfl (.inl rfl) rfl rfl))))
    exact k _ rfl
  · refine sx_nil ?_
    have e := rofD_of h1
    refine sx_cons (sx_if (tx_not (tx_val (ex_call c_is_ratio (hr.mono (by decide)) (ax_cons (ex_nm (i := 0) rfl (ax_nil (isratio_i hp (⟨_, rfl, two (fun h1 => ?_) (fun h1 => ?_)⟩))) rfl (.inl rfl) rfl rfl)) rfl) (fun _ => rfl))))
    · have e2 : isRatioD d = false := by simpa using h1
      refine sx_cons (sx_raise (mk_InvalidRatio (k := 0) T (hr.r.mono (by decide)) (ex_nm (i := 0) rfl (?_) rfl (.inl rfl) rfl rfl) rfl) rfl)
      exact ke (by rw [e, e2]; rfl)
    · have e2 : isRatioD d = true := by simpa using h1
      refine sx_nil ?_
      refine sx_cons (sx_ret (ex_nm (i := 0) rfl (?_) rfl (.inl rfl) rfl rfl))
      exact k _ (by rw [e, e2]; rfl)
theorem ok_ratio_of (T : Tx P K mg base a_NetError a_Missing a_InvalidRatio a_NothingLeft cd tT) : Cal P w K mg base "ratio_of" "ratio_of" s_ratio_of ["value"] 4 (rofC a_InvalidRatio) := cal_of T.tb T.t.f_ratio_of (fun _ _ _ _ _ _ us hl => match us, hl with | [_], _ => rfl) fun f fd F => fg_ratio_of T F
end Hw
set_option Elab.async false
set_option linter.all false
set_option maxRecDepth 100000
set_option maxHeartbeats 4000000

namespace Hw
open PySem L2 PyProof.Rows
-- my own steps
local macro_rules | `(tactic| fail "size") => `(tactic| first | decide | exact Nat.le_of_ble_eq_true rfl | omega | assumption | (simp only [signs_len, rngD_len]; first | assumption | omega | (show _ ≤ 16777216; omega) | (simp only [Str.length_append]; show _ ≤ 16777216; omega)) | (show _ ≤ 16777216; omega) | (simp only [Str.length_append]; show _ ≤ 16777216; omega))
local macro_rules | `(tactic| fail "mul") => `(tactic| first | exact Or.inl (Or.inl ⟨by omega, by omega⟩) | exact Or.inl (Or.inr ⟨by omega, by omega⟩) | exact Or.inl (Or.inr ⟨by decide, by decide⟩))
local macro_rules | `(tactic| fail "pos") => `(tactic| first | decide | omega)
local macro_rules | `(tactic| fail "div") => `(tactic| first | decide | exact ⟨by omega, by decide⟩ | assumption)
local macro_rules | `(tactic| fail "mark") => `(tactic| with_unfolding_all rfl)
local macro_rules | `(tactic| fail "len") => `(tactic| exact Nat.le_of_ble_eq_true rfl)
local macro_rules | `(tactic| fail "wid") => `(tactic| first | exact Nat.le_of_ble_eq_true rfl | (simp only [shL, shLs, shN, shNs]; omega) | (simp [shL, shLs, shN, shNs, List.replicate]; omega))
local macro_rules | `(tactic| fail "loc") => `(tactic| first | exact Or.inl rfl | exact Or.inr rfl)
local macro_rules | `(tactic| fail "pl") => `(tactic| first | rfl | assumption)
local macro_rules | `(tactic| fail "rng") => `(tactic| first | decide | omega)
local macro_rules | `(tactic| fail "sh") => `(tactic| repeat (first | assumption | with_reducible exact sh_non | with_reducible exact sh_bl | with_reducible exact sh_nil | with_reducible refine sh_cons ?_ ?_ | with_reducible refine sh_tup ?_ | with_reducible refine sh_lst ?_ | (with_reducible refine sh_int ?_; omega) | (with_reducible refine sh_lit ?_; decide +kernel)))
local macro_rules | `(tactic| fail "rep") => `(tactic| exact ⟨by decide, by decide, Nat.le_of_ble_eq_true rfl⟩)
variable {P : Program} {w : World} {K : PySem.W.Frag} {mg : Str → Option Value} {base : Heap}

theorem sc__law_source : FnScope ["_law_script", "_law_seed", "_law_cell"] ["_law_script"] (defScope s__law_source) := ⟨rfl, rfl, rfl, by decide +kernel, rfl, by decide +kernel, by decide +kernel⟩
variable {a_NetError a_Missing a_InvalidRatio a_NothingLeft cd tT : Addr}
theorem fg__law_source (T : Tx P K mg base a_NetError a_Missing a_InvalidRatio a_NothingLeft cd tT) {f : Addr} {fd : FuncData} (F : Fun K "_law_source" "_law_source" s__law_source f fd) : FnG P w K mg base 1 f fd ["_law_script"] sourceC := by
  have m_list := T.tb.non T.t.z_list
  have m_int := T.tb.non T.t.z_int
  refine fn_ok F sc__law_source (fun xs μ R RE h => by first | (obtain ⟨rfl, _⟩ := h; rfl) | (obtain ⟨_, rfl, _⟩ := h; rfl) | (obtain ⟨_, _, rfl, _⟩ := h; rfl) | (obtain ⟨_, _, _, rfl, _⟩ := h; rfl) | (obtain ⟨_, _, _, _, rfl, _⟩ := h; rfl) | (obtain ⟨_, _, _, _, _, rfl, _⟩ := h; rfl) | (obtain ⟨_, _, _, _, _, _, rfl, _⟩ := h; rfl)) fun xs μ R PE cdv A outer s H E hr h => ?_
  obtain ⟨ns, rfl, k⟩ := h
  refine sx_cons (sx_set 1 (ex_int (?_)) sc__law_source.nd rfl (by fail "loc"))
  refine sx_cut (fun s μ1 => μ1 = μ ∧ ∃ (z : Int) (d : Option D), s = [some (.rol (ns.map .int)), some (.int z), d]) ?_ fun s μ1 q => ?_
  · refine sx_for (ix_list (ex_slice (ex_nm (i := 0) rfl (ox_none (ox_some (ex_int (⟨_, rfl, s_rol (⟨_, .inl rfl, fun i s μ1 => μ1 = μ ∧ ∃ (z : Int) (d : Option D), s = [some (.rol (ns.map .int)), some (.int z), d], ⟨rfl, _, _, rfl⟩, fun i x dsi μi hx hi => ?_, fun dsn μn h => h⟩)⟩)))) rfl (.inl rfl) rfl rfl))) (passes_of rfl) rfl
    obtain ⟨rfl, z, d, rfl⟩ := hi
    rw [cutL_map, List.getElem?_map] at hx
    obtain ⟨y, _, rfl⟩ := Option.map_eq_some_iff.mp hx
    refine gx_nm 2 ?_ sc__law_source.nd rfl (by fail "loc")
    refine sx_cons (sx_set 1 (ex_bin (ex_callT cr_int (ax_cons (ex_bin (ex_bin (ex_bin (ex_nm (i := 1) rfl (ex_int (b_mulI (by fail "mul") (ex_bin (ex_callT cr_int (ax_cons (ex_nm (i := 2) rfl (ax_nil (f_int (ex_int (b_modI (by fail "pos") (b_addI (ex_int (b_addI (ax_nil (f_int (ex_int (b_modI (by fail "pos") (?_)))))))))))) rfl (.inl rfl) rfl rfl)) rfl (by assumption) (by decide +kernel))))) rfl (.inl rfl) rfl rfl))))) rfl (by assumption) (by decide +kernel))) sc__law_source.nd rfl (by fail "loc"))
    exact sx_nil ⟨rfl, _, _, rfl⟩
  · obtain ⟨rfl, z, d, rfl⟩ := q
    refine sx_cons (sx_ret (ex_lstM (ax_cons (ex_callT cr_list (ax_cons (ex_slice (ex_nm (i := 0) rfl (ox_none (ox_some (ex_int (⟨_, rfl, s_rol (ax_nil (f_listL (ax_cons (ex_int (ax_cons (ex_int (ax_cons (ex_nm (i := 1) rfl (ax_cons (ex_int (ax_nil (⟨by fail "len", fun p hp => ?_⟩)))) rfl (.inl rfl) rfl rfl))))))))⟩)))) rfl (.inl rfl) rfl rfl))) rfl (by assumption) (by decide +kernel)))))
    rw [cutL_map]
    exact k p _ hp ⟨_, _, _, _, _, rfl, Int.le_refl _⟩
theorem ok__law_source (T : Tx P K mg base a_NetError a_Missing a_InvalidRatio a_NothingLeft cd tT) : Cal P w K mg base "_law_source" "_law_source" s__law_source ["_law_script"] 1 sourceC := cal_of T.tb T.t.f__law_source (fun _ _ _ _ _ _ us hl => match us, hl with | [_], _ => rfl) fun f fd F => fg__law_source T F
end Hw
set_option Elab.async false
set_option linter.all false
set_option maxRecDepth 100000
set_option maxHeartbeats 4000000

namespace Hw
open PySem L2 PyProof.Rows
-- my own steps
local macro_rules | `(tactic| fail "size") => `(tactic| first | decide | exact Nat.le_of_ble_eq_true rfl | omega | assumption | (simp only [signs_len, rngD_len]; first | assumption | omega | (show _ ≤ 16777216; omega) | (simp only [Str.length_append]; show _ ≤ 16777216; omega)) | (show _ ≤ 16777216; omega) | (simp only [Str.length_append]; show _ ≤ 16777216; omega))
local macro_rules | `(tactic| fail "mul") => `(tactic| first | exact Or.inl (Or.inl ⟨by omega, by omega⟩) | exact Or.inl (Or.inr ⟨by omega, by omega⟩) | exact Or.inl (Or.inr ⟨by decide, by decide⟩))
local macro_rules | `(tactic| fail "pos") => `(tactic| first | decide | omega)
local macro_rules | `(tactic| fail "div") => `(tactic| first | decide | exact ⟨by omega, by decide⟩ | assumption)
local macro_rules | `(tactic| fail "mark") => `(tactic| with_unfolding_all rfl)
local macro_rules | `(tactic| fail "len") => `(tactic| exact Nat.le_of_ble_eq_true rfl)
local macro_rules | `(tactic| fail "wid") => `(tactic| first | exact Nat.le_of_ble_eq_true rfl | (simp only [shL, shLs, shN, shNs]; omega) | (simp [shL, shLs, shN, shNs, List.replicate]; omega))
local macro_rules | `(tactic| fail "loc") => `(tactic| first | exact Or.inl rfl | exact Or.inr rfl)
local macro_rules | `(tactic| fail "pl") => `(tactic| first | rfl | assumption)
local macro_rules | `(tactic| fail "rng") => `(tactic| first | decide | omega)
local macro_rules | `(tactic| fail "sh") => `(tactic| repeat (first | assumption | with_reducible exact sh_non | with_reducible exact sh_bl | with_reducible exact sh_nil | with_reducible refine sh_cons ?_ ?_ | with_reducible refine sh_tup ?_ | with_reducible refine sh_lst ?_ | (with_reducible refine sh_int ?_; omega) | (with_reducible refine sh_lit ?_; decide +kernel)))
local macro_rules | `(tactic| fail "rep") => `(tactic| exact ⟨by decide, by decide, Nat.le_of_ble_eq_true rfl⟩)
variable {P : Program} {w : World} {K : PySem.W.Frag} {mg : Str → Option Value} {base : Heap}

theorem sc__law_draw : FnScope ["_law_src", "_law_many", "_law_cell", "_law_digit", "_law_root", "_law_grown"] ["_law_src", "_law_many"] (defScope s__law_draw) := ⟨rfl, rfl, rfl, by decide +kernel, rfl, by decide +kernel, by decide +kernel⟩
variable {a_NetError a_Missing a_InvalidRatio a_NothingLeft cd tT : Addr}
theorem fg__law_draw (T : Tx P K mg base a_NetError a_Missing a_InvalidRatio a_NothingLeft cd tT) {f : Addr} {fd : FuncData} (F : Fun K "_law_draw" "_law_draw" s__law_draw f fd) : FnG P w K mg base 1 f fd ["_law_src", "_law_many"] drawC := by
  have m_int := T.tb.non T.t.z_int
  have m_len := T.tb.non T.t.z_len
  refine fn_ok F sc__law_draw (fun xs μ R RE h => by first | (obtain ⟨rfl, _⟩ := h; rfl) | (obtain ⟨_, rfl, _⟩ := h; rfl) | (obtain ⟨_, _, rfl, _⟩ := h; rfl) | (obtain ⟨_, _, _, rfl, _⟩ := h; rfl) | (obtain ⟨_, _, _, _, rfl, _⟩ := h; rfl) | (obtain ⟨_, _, _, _, _, rfl, _⟩ := h; rfl) | (obtain ⟨_, _, _, _, _, _, rfl, _⟩ := h; rfl)) fun xs μ R PE cdv A outer s H E hr h => ?_
  obtain ⟨a, m, rfl, ⟨c0, e0, ns, i, cc, seed, n, rfl, hi⟩, hm, k⟩ := h
  have hm9 := hm.2
  have hm0 := hm.1
  -- behind the first if the store is a source's again, the two arguments stand
  have old : ∃ (ns2 : List Int) (i2 cc2 seed2 n2 : Int), μ = mset μ a (.lst [.lst (ns2.map .int), .int i2, .int cc2, .int seed2, .int n2]) ∧ 0 ≤ i2 := ⟨ns, i, cc, seed, n, (mset_id e0).symm, hi⟩
  refine sx_cut (fun s μ1 => ∃ d2, s = [some (.ref a), some (.int m), d2, none, none, none] ∧ ∃ (ns2 : List Int) (i2 cc2 seed2 n2 : Int), μ1 = mset μ a (.lst [.lst (ns2.map .int), .int i2, .int cc2, .int seed2, .int n2]) ∧ 0 ≤ i2) ?_ fun s μ1 q => ?_
  · refine sx_if (tx_w (tw_and (tx_cmp (ex_ix (ex_nm (i := 0) rfl (ex_int (i_ref e0 rfl (ex_nm (i := 1) rfl (c_lt (two (fun ha => tw_and1 (tx_cmp (ex_ix (ex_nm (i := 0) rfl (ex_int (i_ref e0 rfl (ex_callB cr_len (ax_cons (ex_ix (ex_nm (i := 0) rfl (ex_int (i_ref e0 rfl (ax_nil (f_lenL (c_lt (two (fun h1 => ?_) (fun h2 => sx_nil ⟨none, rfl, old⟩))))))) rfl (.inl rfl) rfl rfl))) rfl (by assumption) PySem.boot_len))) rfl (.inl rfl) rfl rfl)) (by fail "mark"))) (fun ha => two (fun h1 => ?_) (fun h2 => sx_nil ⟨none, rfl, old⟩)))) rfl (.inl rfl) rfl rfl))) rfl (.inl rfl) rfl rfl)) (by fail "mark"))))
    · have h1' : i < (ns.map D.int).length := of_decide_eq_true h1
      rw [List.length_map] at h1'
      obtain ⟨x, hx⟩ : ∃ x, ns[i.toNat]? = some x := ⟨ns[i.toNat], List.getElem?_eq_getElem (by omega)⟩
      have hat : atI (ns.map D.int) i = some (.int x) := atI_map (j := i.toNat) (by omega) hx
      refine sx_cons (sx_set 2 (ex_ix (ex_ix (ex_nm (i := 0) rfl (ex_int (i_ref e0 rfl (ex_ix (ex_nm (i := 0) rfl (ex_int (i_ref e0 rfl (i_lst hat (?_)))) rfl (.inl rfl) rfl rfl)))) rfl (.inl rfl) rfl rfl))) sc__law_draw.nd rfl (by fail "loc"))
      refine sx_cons (sx_asg (ex_bin (ex_ix (ex_nm (i := 0) rfl (ex_int (i_ref e0 rfl (ex_int (b_addI (gx_sub (ex_nm (i := 0) rfl (ex_int (⟨_, _, _, _, rfl, rfl, e0, rfl, ?_⟩)) rfl (.inl rfl) rfl rfl)))))) rfl (.inl rfl) rfl rfl))))
      refine sx_cons (sx_asg (ex_bin (ex_callT cr_int (ax_cons (ex_bin (ex_bin (ex_bin (ex_ix (ex_nm (i := 0) rfl (ex_int (i_refS rfl (ex_int (b_mulI (by fail "mul") (ex_bin (ex_callT cr_int (ax_cons (ex_nm (i := 2) rfl (ax_nil (f_int (ex_int (b_modI (by fail "pos") (b_addI (ex_int (b_addI (ax_nil (f_int (ex_int (b_modI (by fail "pos") (gx_sub (ex_nm (i := 0) rfl (ex_int (⟨_, _, _, _, rfl, rfl, mset_same, rfl, ?_⟩)) rfl (.inl rfl) rfl rfl))))))))))))) rfl (.inl rfl) rfl rfl)) rfl (by assumption) (by decide +kernel))))))) rfl (.inl rfl) rfl rfl)))))) rfl (by assumption) (by decide +kernel))))
      refine sx_cons (sx_asg (ex_if (tx_cmp (ex_nm (i := 2) rfl (ex_bin (ex_int (ex_int (b_powI ⟨by decide, by decide, by decide⟩ (c_ge (two (fun hi => ex_nm (i := 2) rfl (gx_sub (ex_nm (i := 0) rfl (ex_int (⟨_, _, _, _, rfl, rfl, mset_same, rfl, ?_⟩)) rfl (.inl rfl) rfl rfl)) rfl (.inl rfl) rfl rfl) (fun hi => ex_int (gx_sub (ex_nm (i := 0) rfl (ex_int (⟨_, _, _, _, rfl, rfl, mset_same, rfl, ?_⟩)) rfl (.inl rfl) rfl rfl))))))))) rfl (.inl rfl) rfl rfl) (by fail "mark"))))
      · exact sx_nil ⟨_, rfl, ns, i + 1, x, (seed * 46399 + x % 2147483399 + 29) % 2147483563, n, by simp only [mset_mset]; rfl, by omega⟩
      · exact sx_nil ⟨_, rfl, ns, i + 1, 0, (seed * 46399 + x % 2147483399 + 29) % 2147483563, n, by simp only [mset_mset]; rfl, by omega⟩
    · cases h1
  · obtain ⟨d2, rfl, ns2, i2, cc2, seed2, n2, rfl, hi2⟩ := q
    refine sx_cons (sx_if (tx_cmp (ex_ix (ex_nm (i := 0) rfl (ex_int (i_refS rfl (ex_nm (i := 1) rfl (c_ge (two (fun h1 => ?_) (fun h2 => sx_nil ?_))) rfl (.inl rfl) rfl rfl))) rfl (.inl rfl) rfl rfl)) (by fail "mark")))
    · refine sx_cons (sx_set 3 (ex_bin (ex_callT cr_int (ax_cons (ex_ix (ex_nm (i := 0) rfl (ex_int (i_refS rfl (ax_nil (f_int (ex_nm (i := 1) rfl (b_modI (by fail "pos") (?_)) rfl (.inl rfl) rfl rfl))))) rfl (.inl rfl) rfl rfl))) rfl (by assumption) (by decide +kernel))) sc__law_draw.nd rfl (by fail "loc"))
      refine sx_cons (sx_asg (ex_bin (ex_ix (ex_nm (i := 0) rfl (ex_int (i_refS rfl (ex_nm (i := 1) rfl (b_divI (by fail "div") (gx_sub (ex_nm (i := 0) rfl (ex_int (⟨_, _, _, _, rfl, rfl, mset_same, rfl, ?_⟩)) rfl (.inl rfl) rfl rfl))) rfl (.inl rfl) rfl rfl))) rfl (.inl rfl) rfl rfl))))
      refine sx_cons (sx_ret (ex_nm (i := 3) rfl (?_) rfl (.inl rfl) rfl rfl))
      rw [mset_mset]
      exact k _ _ (Int.emod_nonneg _ (by omega)) (Int.emod_lt_of_pos _ hm0) ⟨_, _, _, _, _, rfl, hi2⟩
    · refine sx_cons (sx_asg (ex_bin (ex_ix (ex_nm (i := 0) rfl (ex_int (i_refS rfl (ex_int (b_addI (gx_sub (ex_nm (i := 0) rfl (ex_int (⟨_, _, _, _, rfl, rfl, mset_same, rfl, ?_⟩)) rfl (.inl rfl) rfl rfl)))))) rfl (.inl rfl) rfl rfl))))
      refine sx_cons (sx_set 4 (ex_bin (ex_callT cr_int (ax_cons (ex_bin (ex_ix (ex_nm (i := 0) rfl (ex_int (i_refS rfl (ex_bin (ex_ix (ex_nm (i := 0) rfl (ex_int (i_refS rfl (ex_int (b_mulI (by fail "mul") (b_addI (ax_nil (f_int (ex_int (b_modI (by fail "pos") (?_)))))))))) rfl (.inl rfl) rfl rfl))))) rfl (.inl rfl) rfl rfl)))) rfl (by assumption) (by decide +kernel))) sc__law_draw.nd rfl (by fail "loc"))
      refine sx_cons (sx_set 5 (ex_bin (ex_bin (ex_callT cr_int (ax_cons (ex_bin (ex_nm (i := 4) rfl (ex_nm (i := 4) rfl (b_mulI (by fail "mul") (ax_nil (f_int (ex_int (b_modI (by fail "pos") (ex_bin (ex_bin (ex_callT cr_int (ax_cons (ex_nm (i := 4) rfl (ax_nil (f_int (ex_int (b_modI (by fail "pos") (ex_int (b_addI (b_mulI (by fail "mul") (?_)))))))) rfl (.inl rfl) rfl rfl)) rfl (by assumption) (by decide +kernel))))))))) rfl (.inl rfl) rfl rfl) rfl (.inl rfl) rfl rfl))) rfl (by assumption) (by decide +kernel)))) sc__law_draw.nd rfl (by fail "loc"))
      refine sx_cons (sx_asg (ex_bin (ex_callT cr_int (ax_cons (ex_bin (ex_bin (ex_nm (i := 5) rfl (ex_bin (ex_int (ex_nm (i := 4) rfl (b_mulI (by fail "mul") (b_addI (ex_int (b_addI (ax_nil (f_int (ex_int (b_modI (by fail "pos") (gx_sub (ex_nm (i := 0) rfl (ex_int (⟨_, _, _, _, rfl, rfl, mset_same, rfl, ?_⟩)) rfl (.inl rfl) rfl rfl)))))))))) rfl (.inl rfl) rfl rfl))) rfl (.inl rfl) rfl rfl)))) rfl (by assumption) (by decide +kernel))))
      refine sx_cons (sx_ret (ex_bin (ex_callT cr_int (ax_cons (ex_bin (ex_bin (ex_ix (ex_nm (i := 0) rfl (ex_int (i_refS rfl (ex_int (b_divI (by fail "div") (ex_bin (ex_bin (ex_callT cr_int (ax_cons (ex_ix (ex_nm (i := 0) rfl (ex_int (i_refS rfl (ax_nil (f_int (ex_int (b_modI (by fail "pos") (ex_int (b_mulI (by fail "mul") (b_addI (ax_nil (f_int (ex_nm (i := 1) rfl (b_modI (by fail "pos") (?_)) rfl (.inl rfl) rfl rfl)))))))))))) rfl (.inl rfl) rfl rfl))) rfl (by assumption) (by decide +kernel)))))))) rfl (.inl rfl) rfl rfl))))) rfl (by assumption) (by decide +kernel))))
      simp only [mset_mset]
      exact k _ _ (Int.emod_nonneg _ (by omega)) (Int.emod_lt_of_pos _ hm0) ⟨_, _, _, _, _, rfl, hi2⟩
theorem ok__law_draw (T : Tx P K mg base a_NetError a_Missing a_InvalidRatio a_NothingLeft cd tT) : Cal P w K mg base "_law_draw" "_law_draw" s__law_draw ["_law_src", "_law_many"] 1 drawC := cal_of T.tb T.t.f__law_draw (fun _ _ _ _ _ _ us hl => match us, hl with | [_, _], _ => rfl) fun f fd F => fg__law_draw T F
end Hw
set_option Elab.async false
set_option linter.all false
set_option maxRecDepth 100000
set_option maxHeartbeats 4000000

namespace Hw
open PySem L2 PyProof.Rows
-- my own steps
local macro_rules | `(tactic| fail "size") => `(tactic| first | decide | exact Nat.le_of_ble_eq_true rfl | omega | assumption | (simp only [signs_len, rngD_len]; first | assumption | omega | (show _ ≤ 16777216; omega) | (simp only [Str.length_append]; show _ ≤ 16777216; omega)) | (show _ ≤ 16777216; omega) | (simp only [Str.length_append]; show _ ≤ 16777216; omega))
local macro_rules | `(tactic| fail "mul") => `(tactic| first | exact Or.inl (Or.inl ⟨by omega, by omega⟩) | exact Or.inl (Or.inr ⟨by omega, by omega⟩) | exact Or.inl (Or.inr ⟨by decide, by decide⟩))
local macro_rules | `(tactic| fail "pos") => `(tactic| first | decide | omega)
local macro_rules | `(tactic| fail "div") => `(tactic| first | decide | exact ⟨by omega, by decide⟩ | assumption)
local macro_rules | `(tactic| fail "mark") => `(tactic| with_unfolding_all rfl)
local macro_rules | `(tactic| fail "len") => `(tactic| exact Nat.le_of_ble_eq_true rfl)
local macro_rules | `(tactic| fail "wid") => `(tactic| first | exact Nat.le_of_ble_eq_true rfl | (simp only [shL, shLs, shN, shNs]; omega) | (simp [shL, shLs, shN, shNs, List.replicate]; omega))
local macro_rules | `(tactic| fail "loc") => `(tactic| first | exact Or.inl rfl | exact Or.inr rfl)
local macro_rules | `(tactic| fail "pl") => `(tactic| first | rfl | assumption)
local macro_rules | `(tactic| fail "rng") => `(tactic| first | decide | omega)
local macro_rules | `(tactic| fail "sh") => `(tactic| repeat (first | assumption | with_reducible exact sh_non | with_reducible exact sh_bl | with_reducible exact sh_nil | with_reducible refine sh_cons ?_ ?_ | with_reducible refine sh_tup ?_ | with_reducible refine sh_lst ?_ | (with_reducible refine sh_int ?_; omega) | (with_reducible refine sh_lit ?_; decide +kernel)))
local macro_rules | `(tactic| fail "rep") => `(tactic| exact ⟨by decide, by decide, Nat.le_of_ble_eq_true rfl⟩)
variable {P : Program} {w : World} {K : PySem.W.Frag} {mg : Str → Option Value} {base : Heap}

theorem sc__law_of : FnScope ["_law_src", "_law_some"] ["_law_src", "_law_some"] (defScope s__law_of) := ⟨rfl, rfl, rfl, by decide +kernel, rfl, by decide +kernel, by decide +kernel⟩
variable {a_NetError a_Missing a_InvalidRatio a_NothingLeft cd tT : Addr}
theorem fg__law_of (T : Tx P K mg base a_NetError a_Missing a_InvalidRatio a_NothingLeft cd tT) {f : Addr} {fd : FuncData} (F : Fun K "_law_of" "_law_of" s__law_of f fd) : FnG P w K mg base 2 f fd ["_law_src", "_law_some"] ofC := by
  have c__law_draw := ok__law_draw (P := P) (w := w) T
  have m_len := T.tb.non T.t.z_len
  refine fn_ok F sc__law_of (fun xs μ R RE h => by first | (obtain ⟨rfl, _⟩ := h; rfl) | (obtain ⟨_, rfl, _⟩ := h; rfl) | (obtain ⟨_, _, rfl, _⟩ := h; rfl) | (obtain ⟨_, _, _, rfl, _⟩ := h; rfl) | (obtain ⟨_, _, _, _, rfl, _⟩ := h; rfl) | (obtain ⟨_, _, _, _, _, rfl, _⟩ := h; rfl) | (obtain ⟨_, _, _, _, _, _, rfl, _⟩ := h; rfl)) fun xs μ R PE cdv A outer s H E hr h => ?_
  obtain ⟨a, d, rfl, sa, hm, k⟩ := h
  refine sx_cons (sx_ret (ex_ix (ex_nm (i := 1) rfl (ex_call c__law_draw (hr.mono (by decide)) (ax_cons (ex_nm (i := 0) rfl (ax_cons (ex_callB cr_len (ax_cons (ex_nm (i := 1) rfl (ax_nil (len_menu hm fun n hn hix => (ax_nil (draw_i sa ⟨by omega, by simpa using lt_sz hn.2⟩ fun z c h0 h1 hc => ((hix _ _ _ h0 h1 fun x hx => k x c hx hc)))))) rfl (.inl rfl) rfl rfl)) rfl (by assumption) PySem.boot_len)) rfl (.inl rfl) rfl rfl)) rfl) rfl (.inl rfl) rfl rfl)))
theorem ok__law_of (T : Tx P K mg base a_NetError a_Missing a_InvalidRatio a_NothingLeft cd tT) : Cal P w K mg base "_law_of" "_law_of" s__law_of ["_law_src", "_law_some"] 2 ofC := cal_of T.tb T.t.f__law_of (fun _ _ _ _ _ _ us hl => match us, hl with | [_, _], _ => rfl) fun f fd F => fg__law_of T F
end Hw
set_option Elab.async false
set_option linter.all false
set_option maxRecDepth 100000
set_option maxHeartbeats 4000000

namespace Hw
open PySem L2 PyProof.Rows
-- my own steps
local macro_rules | `(tactic| fail "size") => `(tactic| first | decide | exact Nat.le_of_ble_eq_true rfl | omega | assumption | (simp only [signs_len, rngD_len]; first | assumption | omega | (show _ ≤ 16777216; omega) | (simp only [Str.length_append]; show _ ≤ 16777216; omega)) | (show _ ≤ 16777216; omega) | (simp only [Str.length_append]; show _ ≤ 16777216; omega))
local macro_rules | `(tactic| fail "mul") => `(tactic| first | exact Or.inl (Or.inl ⟨by omega, by omega⟩) | exact Or.inl (Or.inr ⟨by omega, by omega⟩) | exact Or.inl (Or.inr ⟨by decide, by decide⟩))
local macro_rules | `(tactic| fail "pos") => `(tactic| first | decide | omega)
local macro_rules | `(tactic| fail "div") => `(tactic| first | decide | exact ⟨by omega, by decide⟩ | assumption)
local macro_rules | `(tactic| fail "mark") => `(tactic| with_unfolding_all rfl)
local macro_rules | `(tactic| fail "len") => `(tactic| exact Nat.le_of_ble_eq_true rfl)
local macro_rules | `(tactic| fail "wid") => `(tactic| first | exact Nat.le_of_ble_eq_true rfl | (simp only [shL, shLs, shN, shNs]; omega) | (simp [shL, shLs, shN, shNs, List.replicate]; omega))
local macro_rules | `(tactic| fail "loc") => `(tactic| first | exact Or.inl rfl | exact Or.inr rfl)
local macro_rules | `(tactic| fail "pl") => `(tactic| first | rfl | assumption)
local macro_rules | `(tactic| fail "rng") => `(tactic| first | decide | omega)
local macro_rules | `(tactic| fail "sh") => `(tactic| repeat (first | assumption | with_reducible exact sh_non | with_reducible exact sh_bl | with_reducible exact sh_nil | with_reducible refine sh_cons ?_ ?_ | with_reducible refine sh_tup ?_ | with_reducible refine sh_lst ?_ | (with_reducible refine sh_int ?_; omega) | (with_reducible refine sh_lit ?_; decide +kernel)))
local macro_rules | `(tactic| fail "rep") => `(tactic| exact ⟨by decide, by decide, Nat.le_of_ble_eq_true rfl⟩)
variable {P : Program} {w : World} {K : PySem.W.Frag} {mg : Str → Option Value} {base : Heap}

theorem sc__law_same : FnScope ["_law_found", "_law_due"] ["_law_found", "_law_due"] (defScope s__law_same) := ⟨rfl, rfl, rfl, by decide +kernel, rfl, by decide +kernel, by decide +kernel⟩
variable {a_NetError a_Missing a_InvalidRatio a_NothingLeft cd tT : Addr}
theorem fg__law_same (T : Tx P K mg base a_NetError a_Missing a_InvalidRatio a_NothingLeft cd tT) {f : Addr} {fd : FuncData} (F : Fun K "_law_same" "_law_same" s__law_same f fd) : FnG P w K mg base 1 f fd ["_law_found", "_law_due"] sameC := by
  have m_repr := T.tb.non T.t.z_repr
  refine fn_ok F sc__law_same (fun xs μ R RE h => by first | (obtain ⟨rfl, _⟩ := h; rfl) | (obtain ⟨_, rfl, _⟩ := h; rfl) | (obtain ⟨_, _, rfl, _⟩ := h; rfl) | (obtain ⟨_, _, _, rfl, _⟩ := h; rfl) | (obtain ⟨_, _, _, _, rfl, _⟩ := h; rfl) | (obtain ⟨_, _, _, _, _, rfl, _⟩ := h; rfl) | (obtain ⟨_, _, _, _, _, _, rfl, _⟩ := h; rfl)) fun xs μ R PE cdv A outer s H E hr h => ?_
  obtain ⟨x, y, p, rfl, e1, e2, h1, h2, h3, k⟩ := h
  refine sx_cons (sx_ret (ex_cmp (ex_callB (cr_repr (hr.mono (Nat.zero_le _))) (ax_cons (ex_nm (i := 0) rfl (ax_nil (f_repr e1 h1 h2 h3 (ex_callB (cr_repr (hr.mono (Nat.zero_le _))) (ax_cons (ex_nm (i := 1) rfl (ax_nil (f_repr e2 h1 h2 h3 (c_eqS (?_)))) rfl (.inl rfl) rfl rfl)) rfl (by assumption) (by decide +kernel)))) rfl (.inl rfl) rfl rfl)) rfl (by assumption) (by decide +kernel)) (by fail "mark")))
  simpa using k
theorem ok__law_same (T : Tx P K mg base a_NetError a_Missing a_InvalidRatio a_NothingLeft cd tT) : Cal P w K mg base "_law_same" "_law_same" s__law_same ["_law_found", "_law_due"] 1 sameC := cal_of T.tb T.t.f__law_same (fun _ _ _ _ _ _ us hl => match us, hl with | [_, _], _ => rfl) fun f fd F => fg__law_same T F
end Hw
set_option Elab.async false
set_option linter.all false
set_option maxRecDepth 100000
set_option maxHeartbeats 4000000

namespace Hw
open PySem L2 PyProof.Rows
-- my own steps
local macro_rules | `(tactic| fail "size") => `(tactic| first | decide | exact Nat.le_of_ble_eq_true rfl | omega | assumption | (simp only [signs_len, rngD_len]; first | assumption | omega | (show _ ≤ 16777216; omega) | (simp only [Str.length_append]; show _ ≤ 16777216; omega)) | (show _ ≤ 16777216; omega) | (simp only [Str.length_append]; show _ ≤ 16777216; omega))
local macro_rules | `(tactic| fail "mul") => `(tactic| first | exact Or.inl (Or.inl ⟨by omega, by omega⟩) | exact Or.inl (Or.inr ⟨by omega, by omega⟩) | exact Or.inl (Or.inr ⟨by decide, by decide⟩))
local macro_rules | `(tactic| fail "pos") => `(tactic| first | decide | omega)
local macro_rules | `(tactic| fail "div") => `(tactic| first | decide | exact ⟨by omega, by decide⟩ | assumption)
local macro_rules | `(tactic| fail "mark") => `(tactic| with_unfolding_all rfl)
local macro_rules | `(tactic| fail "len") => `(tactic| exact Nat.le_of_ble_eq_true rfl)
local macro_rules | `(tactic| fail "wid") => `(tactic| first | exact Nat.le_of_ble_eq_true rfl | (simp only [shL, shLs, shN, shNs]; omega) | (simp [shL, shLs, shN, shNs, List.replicate]; omega))
local macro_rules | `(tactic| fail "loc") => `(tactic| first | exact Or.inl rfl | exact Or.inr rfl)
local macro_rules | `(tactic| fail "pl") => `(tactic| first | rfl | assumption)
local macro_rules | `(tactic| fail "rng") => `(tactic| first | decide | omega)
local macro_rules | `(tactic| fail "sh") => `(tactic| repeat (first | assumption | with_reducible exact sh_non | with_reducible exact sh_bl | with_reducible exact sh_nil | with_reducible refine sh_cons ?_ ?_ | with_reducible refine sh_tup ?_ | with_reducible refine sh_lst ?_ | (with_reducible refine sh_int ?_; omega) | (with_reducible refine sh_lit ?_; decide +kernel)))
local macro_rules | `(tactic| fail "rep") => `(tactic| exact ⟨by decide, by decide, Nat.le_of_ble_eq_true rfl⟩)
variable {P : Program} {w : World} {K : PySem.W.Frag} {mg : Str → Option Value} {base : Heap}
def fldTab : List (Str × List Str) := [("InvalidRatio", ["given"]), ("InvalidKind", ["given"]), ("InvalidVector", ["given"]), ("InvalidCount", ["given"]), ("InvalidIndex", ["given"]), ("InvalidRoute", ["given"]), ("InvalidName", ["given"]), ("InvalidLimit", ["given"]),
  ("InvalidGain", ["at"]), ("InvalidLine", ["at"]), ("InvalidOutput", ["at"]), ("InvalidSignal", ["at"]), ("InvalidTick", ["at"])]
theorem any_mem {l : List Str} {t : Str} (h : (((l.map D.str).map fv).any fun y => eqV y (fv (.str t))) = true) : t ∈ l := by
  rw [List.any_map, List.any_map, List.any_eq_true] at h
  obtain ⟨x, hx, e⟩ := h
  have : x = t := by simpa [eqV, fv] using e
  rw [← this]; exact hx
theorem any_nmem {l : List Str} {t : Str} (h : (((l.map D.str).map fv).any fun y => eqV y (fv (.str t))) = false) : t ∉ l := fun hm => by
  rw [List.any_map, List.any_map, List.any_eq_false] at h
  exact h t hm (by simp [eqV, fv])
/-- one field n, its value x -/
def fieldsQ (K : PySem.W.Frag) : CQ := fun a dd Cl xs μ R => ∃ fs text n x, xs = [.exc a dd Cl fs] ∧ fs.lookup ("code" : Str) = some (.str text) ∧ fldTab.lookup text = some [n] ∧ fs.lookup n = some x ∧ XfC K Cl ∧ PySem.W.findIn K (.ref Cl) "code" = some none ∧ PySem.W.findIn K (.ref Cl) n = some none ∧ R (.tup [x]) μ
theorem sc__law_fields : FnScope ["_law_e"] ["_law_e"] (defScope s__law_fields) := ⟨rfl, rfl, rfl, by decide +kernel, rfl, by decide +kernel, by decide +kernel⟩
variable {a_NetError a_Missing a_InvalidRatio a_NothingLeft cd tT : Addr}
theorem fg__law_fields (T : Tx P K mg base a_NetError a_Missing a_InvalidRatio a_NothingLeft cd tT) {f : Addr} {fd : FuncData} (F : Fun K "_law_fields" "_law_fields" s__law_fields f fd) : FnQ P w K mg base 1 f fd ["_law_e"] (fieldsQ K) := by
  refine fn_okQ F sc__law_fields (fun a dd Cl xs μ R h => by first | (obtain ⟨rfl, _⟩ := h; rfl) | (obtain ⟨_, rfl, _⟩ := h; rfl) | (obtain ⟨_, _, rfl, _⟩ := h; rfl) | (obtain ⟨_, _, _, rfl, _⟩ := h; rfl) | (obtain ⟨_, _, _, _, rfl, _⟩ := h; rfl) | (obtain ⟨_, _, _, _, _, rfl, _⟩ := h; rfl) | (obtain ⟨_, _, _, _, _, _, rfl, _⟩ := h; rfl)) fun a dd Cl xs μ R cdv A outer s H pp hr pin h => ?_
  obtain ⟨fs, text, n, x, rfl, l_code, lt, l_n, hxf, f_code, f_n, k⟩ := h
  have given : ∀ {l : List Str}, text ∈ l → (∀ t ∈ l, fldTab.lookup t = some [("given" : Str)]) → n = "given" := fun hm q => by
    have := q text hm
    rw [lt] at this
    simpa using this
  have atn : ∀ {l : List Str}, text ∈ l → (∀ t ∈ l, fldTab.lookup t = some [("at" : Str)]) → n = "at" := fun hm q => by
    have := q text hm
    rw [lt] at this
    simpa using this
  refine sx_cons (sx_if (tx_cmp (ex_xf (ex_nm (i := 0) rfl (⟨_, _, _, _, _, rfl, pin, hxf, f_code, l_code, ex_tup (ax_cons (ex_str (ax_cons (ex_str (ax_cons (ex_str (ax_cons (ex_str (ax_cons (ex_str (ax_cons (ex_str (ax_nil (⟨by fail "len", c_inT rfl rfl (two (fun h1 => ?_) (fun h1 => ?_))⟩))))))))))))))⟩) rfl (.inl rfl) rfl rfl)) (by fail "mark")))
  · obtain rfl := given (any_mem (l := ["InvalidRatio", "InvalidKind", "InvalidVector", "InvalidCount", "InvalidIndex", "InvalidRoute"]) h1) (by decide +kernel)
    have l_given := l_n
    have f_given := f_n
    refine sx_cons (sx_ret (ex_tup (ax_cons (ex_xf (ex_nm (i := 0) rfl (⟨_, _, _, _, _, rfl, pin, hxf, f_given, l_given, ax_nil (⟨by fail "len", ?_⟩)⟩) rfl (.inl rfl) rfl rfl)))))
    exact k
  · have n1 := any_nmem (l := ["InvalidRatio", "InvalidKind", "InvalidVector", "InvalidCount", "InvalidIndex", "InvalidRoute"]) h1
    refine sx_nil ?_
    refine sx_cons (sx_if (tx_cmp (ex_xf (ex_nm (i := 0) rfl (⟨_, _, _, _, _, rfl, pin, hxf, f_code, l_code, ex_tup (ax_cons (ex_str (ax_cons (ex_str (ax_nil (⟨by fail "len", c_inT rfl rfl (two (fun h1 => ?_) (fun h1 => ?_))⟩))))))⟩) rfl (.inl rfl) rfl rfl)) (by fail "mark")))
    · obtain rfl := given (any_mem (l := ["InvalidName", "InvalidLimit"]) h1) (by decide +kernel)
      have l_given := l_n
      have f_given := f_n
      refine sx_cons (sx_ret (ex_tup (ax_cons (ex_xf (ex_nm (i := 0) rfl (⟨_, _, _, _, _, rfl, pin, hxf, f_given, l_given, ax_nil (⟨by fail "len", ?_⟩)⟩) rfl (.inl rfl) rfl rfl)))))
      exact k
    · have n2 := any_nmem (l := ["InvalidName", "InvalidLimit"]) h1
      refine sx_nil ?_
      refine sx_cons (sx_if (tx_cmp (ex_xf (ex_nm (i := 0) rfl (⟨_, _, _, _, _, rfl, pin, hxf, f_code, l_code, ex_tup (ax_cons (ex_str (ax_cons (ex_str (ax_cons (ex_str (ax_cons (ex_str (ax_cons (ex_str (ax_nil (⟨by fail "len", c_inT rfl rfl (two (fun h1 => ?_) (fun h1 => ?_))⟩))))))))))))⟩) rfl (.inl rfl) rfl rfl)) (by fail "mark")))
      · obtain rfl := atn (any_mem (l := ["InvalidGain", "InvalidLine", "InvalidOutput", "InvalidSignal", "InvalidTick"]) h1) (by decide +kernel)
        have l_at := l_n
        have f_at := f_n
        refine sx_cons (sx_ret (ex_tup (ax_cons (ex_xf (ex_nm (i := 0) rfl (⟨_, _, _, _, _, rfl, pin, hxf, f_at, l_at, ax_nil (⟨by fail "len", ?_⟩)⟩) rfl (.inl rfl) rfl rfl)))))
        exact k
      · have n3 := any_nmem (l := ["InvalidGain", "InvalidLine", "InvalidOutput", "InvalidSignal", "InvalidTick"]) h1
        exfalso
        have hk : text ∈ fldTab.map (·.1) := by
          have : (text, [n]) ∈ fldTab := PySem.mem_of_lookup lt
          exact List.mem_map_of_mem (f := (·.1)) this
        have hall : ∀ t ∈ fldTab.map (·.1), t ∈ (["InvalidRatio", "InvalidKind", "InvalidVector", "InvalidCount", "InvalidIndex", "InvalidRoute"] : List Str) ∨ t ∈ (["InvalidName", "InvalidLimit"] : List Str) ∨ t ∈ (["InvalidGain", "InvalidLine", "InvalidOutput", "InvalidSignal", "InvalidTick"] : List Str) := by decide +kernel
        rcases hall text hk with h | h | h
        · exact n1 h
        · exact n2 h
        · exact n3 h
theorem ok__law_fields (T : Tx P K mg base a_NetError a_Missing a_InvalidRatio a_NothingLeft cd tT) : CalQ P w K mg base "_law_fields" s__law_fields ["_law_e"] 1 (fieldsQ K) := calQ_of T.tb T.t.f__law_fields (fun _ _ _ _ _ _ us hl => match us, hl with | [_], _ => rfl) fun f fd F => fg__law_fields T F
end Hw
set_option Elab.async false
set_option linter.all false
set_option maxRecDepth 100000
set_option maxHeartbeats 4000000

namespace Hw
open PySem L2 PyProof.Rows
-- my own steps
local macro_rules | `(tactic| fail "size") => `(tactic| first | decide | exact Nat.le_of_ble_eq_true rfl | omega | assumption | (simp only [signs_len, rngD_len]; first | assumption | omega | (show _ ≤ 16777216; omega) | (simp only [Str.length_append]; show _ ≤ 16777216; omega)) | (show _ ≤ 16777216; omega) | (simp only [Str.length_append]; show _ ≤ 16777216; omega))
local macro_rules | `(tactic| fail "mul") => `(tactic| first | exact Or.inl (Or.inl ⟨by omega, by omega⟩) | exact Or.inl (Or.inr ⟨by omega, by omega⟩) | exact Or.inl (Or.inr ⟨by decide, by decide⟩))
local macro_rules | `(tactic| fail "pos") => `(tactic| first | decide | omega)
local macro_rules | `(tactic| fail "div") => `(tactic| first | decide | exact ⟨by omega, by decide⟩ | assumption)
local macro_rules | `(tactic| fail "mark") => `(tactic| with_unfolding_all rfl)
local macro_rules | `(tactic| fail "len") => `(tactic| exact Nat.le_of_ble_eq_true rfl)
local macro_rules | `(tactic| fail "wid") => `(tactic| first | exact Nat.le_of_ble_eq_true rfl | (simp only [shL, shLs, shN, shNs]; omega) | (simp [shL, shLs, shN, shNs, List.replicate]; omega))
local macro_rules | `(tactic| fail "loc") => `(tactic| first | exact Or.inl rfl | exact Or.inr rfl)
local macro_rules | `(tactic| fail "pl") => `(tactic| first | rfl | assumption)
local macro_rules | `(tactic| fail "rng") => `(tactic| first | decide | omega)
local macro_rules | `(tactic| fail "sh") => `(tactic| repeat (first | assumption | with_reducible exact sh_non | with_reducible exact sh_bl | with_reducible exact sh_nil | with_reducible refine sh_cons ?_ ?_ | with_reducible refine sh_tup ?_ | with_reducible refine sh_lst ?_ | (with_reducible refine sh_int ?_; omega) | (with_reducible refine sh_lit ?_; decide +kernel)))
local macro_rules | `(tactic| fail "rep") => `(tactic| exact ⟨by decide, by decide, Nat.le_of_ble_eq_true rfl⟩)
variable {a_NetError a_Missing a_InvalidRatio a_NothingLeft cd tT : Addr}
theorem sc__law_ask : FnScope ["_law_f", "_law_e"] ["_law_f"] (defScope s__law_ask) := ⟨rfl, rfl, rfl, by decide +kernel, rfl, by decide +kernel, by decide +kernel⟩
theorem ex_ask {X : Cx} (T : Tx X.prog X.K X.mg X.base a_NetError a_Missing a_InvalidRatio a_NothingLeft cd tT) (TB : LamX.TabB X.base X.mg cd tT) {PE : XP} {μ : Mu} {ds : DS} {P : DP} {body : Expr} {scope : Scope} {params : Arguments} {p lpos pos : Pos} {k : Nat} (PEb : XP) (Pb : DP)
    (hcode : X.env.code = .ref cd) (tq : μ tT = some (.tbl (X.env.qual ++ "<lambda>"))) (t1 : ∀ b q, μ b = some (.tbl q) → b = tT) (hk : 4 ≤ k) (hr : Rm (k + 2) X.A) (L : LamX.LamS X.env.scope scope) (hdef : defaultsOf params X.env = ([], []))
    (hbind : ∀ (q : Str) (cl : List (Str × Addr)) (pm cv ctv : Value), bindArgs (PySem.W.kla_fn "<lambda>" q params body scope cl pm cv ctv) ⟨[], []⟩ = pure []) (hg : Gl X "_law_ask")
    (hbody : ∀ (A : Around) (outer : List Env) (s2 : Shared) (H2 : Hp) (E2 : XK) (f c' : Addr), Rm k (LamX.lamCx X A outer s2 H2 E2 scope f c').A → EX (LamX.lamCx X A outer s2 H2 E2 scope f c') PEb μ ds body Pb)
    (hret : ∀ d μ', Pb d μ' → P (.tup [.str "", d]) μ')
    (hexc : ∀ Ca fs μ', PEb Ca fs μ' → PySem.W.exmAny X.K (.ref Ca) [.ref a_NetError, .ref a_Missing, .ref a_NothingLeft] = some true ∧ ∃ text n x, fs.lookup ("code" : Str) = some (.str text) ∧ fldTab.lookup text = some [n] ∧ fs.lookup n = some x ∧ XfC X.K Ca ∧ PySem.W.findIn X.K (.ref Ca) "code" = some none ∧ PySem.W.findIn X.K (.ref Ca) n = some none ∧ P (.tup [.str text, x]) μ') :
    EX X PE μ ds (.Call (.Name "_law_ask" p) [.Lambda params body scope lpos] [] pos) P := by
  obtain ⟨g, fd, a, F⟩ := T.t.f__law_ask.ex
  have hb : Binds X.K fd ["_law_f"] [] := F.binds fun _ _ _ _ _ _ us hl => match us, hl with | [_], _ => rfl
  have cF := ok__law_fields (w := X.w) T
  refine ex_lamcall (k := k) F (T.tb.som a) hb sc__law_ask hg TB hcode tq t1 hr L hdef hbind rfl (.inl rfl) fun f G s cdg hr2 act => ?_
  refine sx_cons (sx_try3 PEb 1 sc__law_ask.nd rfl rfl rfl rfl rfl (T.tb.som T.t.n_NetError) (T.tb.som T.t.n_Missing) (T.tb.som T.t.n_NothingLeft) (fun pn xe => ?_) (fun Ca fs μ' h => (hexc Ca fs μ' h).1) (fun a dd Ca fs μ' oe pn pe hz hf => ?_))
  · refine sx_cons (sx_ret (ex_tup (ax_cons (ex_str (ax_cons (act pn xe PEb _ _ _ _ _ rfl fun A outer s2 H2 E2 c' hr3 => (hbody A outer s2 H2 E2 f c' hr3).imp fun d m h => ax_nil ⟨by fail "len", hret d m h⟩))))))
  · obtain ⟨_, text, n, x, l_code, lt, l_n, hxf, f_code, f_n, hp⟩ := hexc Ca fs μ' pe
    obtain ⟨fv, hd⟩ := hf
    have pin : Pin (((gotCx X ["_law_f", "_law_e"] "_law_ask" s__law_ask g cdg s G)).suite a ((a, oe) :: pn)) a dd Ca := ⟨oe, fv, List.mem_cons_self, hz, hd⟩
    have hrH : L2H.RoomH 1 (((gotCx X ["_law_f", "_law_e"] "_law_ask" s__law_ask g cdg s G)).suite a ((a, oe) :: pn)).A := by
      have q := (L2H.roomH_of hr2.r).mono (show 1 ≤ k + 1 by omega)
      exact ⟨q.dp, q.un⟩
    refine sx_cons (sx_ret (ex_bin (ex_tup (ax_cons (ex_xf (ex_nm (i := 1) rfl (⟨_, _, _, _, _, rfl, pin, hxf, f_code, l_code, ax_nil ⟨by fail "len", ex_callQ cF hrH pin (ax_cons (ex_nm (i := 1) rfl (ax_nil ⟨fs, text, n, x, rfl, l_code, lt, l_n, hxf, f_code, f_n, b_addT (by fail "len") hp⟩) rfl (.inl rfl) rfl rfl)) rfl⟩⟩) rfl (.inl rfl) rfl rfl))))))
theorem ex_askD {X : Cx} (T : Tx X.prog X.K X.mg X.base a_NetError a_Missing a_InvalidRatio a_NothingLeft cd tT) (TB : LamX.TabB X.base X.mg cd tT) {PE : XP} {μ : Mu} {ds : DS} {P : DP} {body : Expr} {scope : Scope} {params : Arguments} {p lpos pos : Pos} {k : Nat} (PEb : XP) (Pb : DP)
    (hcode : X.env.code = .ref cd) (tq : μ tT = some (.tbl (X.env.qual ++ "<lambda>"))) (t1 : ∀ b q, μ b = some (.tbl q) → b = tT) (hk : 4 ≤ k) (hr : Rm (k + 2) X.A) {prm : Str} {p0 : Pos} {i0 : Int} {j0 : Nat} (L : LamD X.N X.env.scope scope prm) (hd : params.defaults = [.Constant (.int i0) j0 p0]) (hk0 : params.kw_defaults = [])
    (hbind : ∀ (q : Str) (cl : List (Str × Addr)) (T0 : Addr) (doc pm cv ctv : Value), ∃ kk, bindArgs (PySem.W.kdv_fn "<lambda>" q params (.expr body) scope cl (.ref T0) doc pm cv ctv) ⟨[], []⟩ = seqItems? (.ref T0) >>= kk ∧ ∀ v, kk (some #[v]) = pure [(prm, v)]) (hg : Gl X "_law_ask")
    (hbody : ∀ (A : Around) (outer : List Env) (s2 : Shared) (H2 : Hp) (E2 : XK) (f c' : Addr), Rm k (LamX.lamCx X A outer s2 H2 E2 scope f c').A → EX (LamX.lamCx X A outer s2 H2 E2 scope f c') PEb μ ds body Pb)
    (hret : ∀ d μ', Pb d μ' → P (.tup [.str "", d]) μ')
    (hexc : ∀ Ca fs μ', PEb Ca fs μ' → PySem.W.exmAny X.K (.ref Ca) [.ref a_NetError, .ref a_Missing, .ref a_NothingLeft] = some true ∧ ∃ text n x, fs.lookup ("code" : Str) = some (.str text) ∧ fldTab.lookup text = some [n] ∧ fs.lookup n = some x ∧ XfC X.K Ca ∧ PySem.W.findIn X.K (.ref Ca) "code" = some none ∧ PySem.W.findIn X.K (.ref Ca) n = some none ∧ P (.tup [.str text, x]) μ') :
    EX X PE μ ds (.Call (.Name "_law_ask" p) [.Lambda params body scope lpos] [] pos) P := by
  obtain ⟨g, fd, a, F⟩ := T.t.f__law_ask.ex
  have hb : Binds X.K fd ["_law_f"] [] := F.binds fun _ _ _ _ _ _ us hl => match us, hl with | [_], _ => rfl
  have cF := ok__law_fields (w := X.w) T
  refine ex_lamcallD (k := k) F (T.tb.som a) hb sc__law_ask hg TB hcode tq t1 hr L hd hk0 hbind rfl (.inl rfl) fun f G s cdg hr2 act => ?_
  refine sx_cons (sx_try3 PEb 1 sc__law_ask.nd rfl rfl rfl rfl rfl (T.tb.som T.t.n_NetError) (T.tb.som T.t.n_Missing) (T.tb.som T.t.n_NothingLeft) (fun pn xe => ?_) (fun Ca fs μ' h => (hexc Ca fs μ' h).1) (fun a dd Ca fs μ' oe pn pe hz hf => ?_))
  · refine sx_cons (sx_ret (ex_tup (ax_cons (ex_str (ax_cons (act pn xe PEb _ _ _ _ _ rfl fun A outer s2 H2 E2 c' hr3 => (hbody A outer s2 H2 E2 f c' hr3).imp fun d m h => ax_nil ⟨by fail "len", hret d m h⟩))))))
  · obtain ⟨_, text, n, x, l_code, lt, l_n, hxf, f_code, f_n, hp⟩ := hexc Ca fs μ' pe
    obtain ⟨fv, hdd⟩ := hf
    have pin : Pin (((gotCx X ["_law_f", "_law_e"] "_law_ask" s__law_ask g cdg s G)).suite a ((a, oe) :: pn)) a dd Ca := ⟨oe, fv, List.mem_cons_self, hz, hdd⟩
    have hrH : L2H.RoomH 1 (((gotCx X ["_law_f", "_law_e"] "_law_ask" s__law_ask g cdg s G)).suite a ((a, oe) :: pn)).A := by
      have q := (L2H.roomH_of hr2.r).mono (show 1 ≤ k + 1 by omega)
      exact ⟨q.dp, q.un⟩
    refine sx_cons (sx_ret (ex_bin (ex_tup (ax_cons (ex_xf (ex_nm (i := 1) rfl (⟨_, _, _, _, _, rfl, pin, hxf, f_code, l_code, ax_nil ⟨by fail "len", ex_callQ cF hrH pin (ax_cons (ex_nm (i := 1) rfl (ax_nil ⟨fs, text, n, x, rfl, l_code, lt, l_n, hxf, f_code, f_n, b_addT (by fail "len") hp⟩) rfl (.inl rfl) rfl rfl)) rfl⟩⟩) rfl (.inl rfl) rfl rfl))))))
/-- what _law_ask tells of an exception -/
def AskE (K : PySem.W.Frag) (cs : List Value) (V : D) (Ca : Addr) (fs : List (Str × D)) : Prop := PySem.W.exmAny K (.ref Ca) cs = some true ∧ ∃ text n x, fs.lookup ("code" : Str) = some (.str text) ∧ fldTab.lookup text = some [n] ∧ fs.lookup n = some x ∧ XfC K Ca ∧ PySem.W.findIn K (.ref Ca) "code" = some none ∧ PySem.W.findIn K (.ref Ca) n = some none ∧ V = .tup [.str text, x]
abbrev asked (a b c : Addr) : List Value := [.ref a, .ref b, .ref c]
theorem ae_InvalidRatio {P : Program} {K : PySem.W.Frag} (T : TK P K a_NetError a_Missing a_InvalidRatio a_NothingLeft cd tT) (x : D) : AskE K (asked a_NetError a_Missing a_NothingLeft) (.tup [.str "InvalidRatio", x]) a_InvalidRatio [("given", x), (("code" : Str), .str "InvalidRatio")] := ⟨ma_InvalidRatio T, _, _, _, rfl, rfl, rfl, T.x_InvalidRatio, T.e_InvalidRatio.c.nc, T.e_InvalidRatio.nf, rfl⟩
theorem tq_of {q : Str} {a : Addr} {c : MD} (na : mu0 tT q a = none) : mset (mu0 tT q) a c tT = some (.tbl q) := by
  have : tT ≠ a := by rintro rfl; rw [mu0_at] at na; cases na
  rw [mset_ne this, mu0_at]
theorem t1_of {q : Str} {a : Addr} {c : MD} (hc : SrcC c) : ∀ b q', mset (mu0 tT q) a c b = some (.tbl q') → b = tT := by
  intro b q' e
  by_cases h : b = a
  · subst h; rw [mset_same] at e; obtain ⟨_, _, _, _, _, rfl, _⟩ := hc; cases e
  · rw [mset_ne h] at e; unfold mu0 at e; split at e
    · assumption
    · cases e
theorem ask_v {X : Cx} (T : Tx X.prog X.K X.mg X.base a_NetError a_Missing a_InvalidRatio a_NothingLeft cd tT) (TB : LamX.TabB X.base X.mg cd tT) {PE : XP} {μ : Mu} {ds : DS} {P : DP} {body : Expr} {scope : Scope} {params : Arguments} {p lpos pos : Pos} {k : Nat} {V : D}
    (hcode : X.env.code = .ref cd) (tq : μ tT = some (.tbl (X.env.qual ++ "<lambda>"))) (t1 : ∀ b q, μ b = some (.tbl q) → b = tT) (hk : 4 ≤ k) (hr : Rm (k + 2) X.A) (L : LamX.lamSB X.env.scope scope = true) (hdef : defaultsOf params X.env = ([], []))
    (hbind : ∀ (q : Str) (cl : List (Str × Addr)) (pm cv ctv : Value), bindArgs (PySem.W.kla_fn "<lambda>" q params body scope cl pm cv ctv) ⟨[], []⟩ = pure []) (hg : Gl X "_law_ask")
    (hbody : ∀ (A : Around) (outer : List Env) (s2 : Shared) (H2 : Hp) (E2 : XK) (f c' : Addr), Rm k (LamX.lamCx X A outer s2 H2 E2 scope f c').A → EX (LamX.lamCx X A outer s2 H2 E2 scope f c') (fun Ca fs m => m = μ ∧ AskE X.K (asked a_NetError a_Missing a_NothingLeft) V Ca fs) μ ds body (fun d m => m = μ ∧ V = .tup [.str "", d]))
    (hP : P V μ) : EX X PE μ ds (.Call (.Name "_law_ask" p) [.Lambda params body scope lpos] [] pos) P :=
  ex_ask T TB _ _ hcode tq t1 hk hr (LamX.lamS_by L) hdef hbind hg hbody (fun d m ⟨e, h⟩ => by subst e; rw [← h]; exact hP) (fun Ca fs m ⟨e, h1, text, n, x, h2, h3, h4, h5, h6, h7, h8⟩ => ⟨h1, text, n, x, h2, h3, h4, h5, h6, h7, by subst e; rw [← h8]; exact hP⟩)
theorem askD_v {X : Cx} (T : Tx X.prog X.K X.mg X.base a_NetError a_Missing a_InvalidRatio a_NothingLeft cd tT) (TB : LamX.TabB X.base X.mg cd tT) {PE : XP} {μ : Mu} {ds : DS} {P : DP} {body : Expr} {scope : Scope} {params : Arguments} {p lpos pos : Pos} {k : Nat} {V : D}
    (hcode : X.env.code = .ref cd) (tq : μ tT = some (.tbl (X.env.qual ++ "<lambda>"))) (t1 : ∀ b q, μ b = some (.tbl q) → b = tT) (hk : 4 ≤ k) (hr : Rm (k + 2) X.A) {prm : Str} {p0 : Pos} {i0 : Int} {j0 : Nat} (hd : params.defaults = [.Constant (.int i0) j0 p0]) (hk0 : params.kw_defaults = [])
    (L : lamDB X.N X.env.scope scope prm = true)
    (hbind : ∀ (q : Str) (cl : List (Str × Addr)) (T0 : Addr) (doc pm cv ctv : Value), ∃ kk, bindArgs (PySem.W.kdv_fn "<lambda>" q params (.expr body) scope cl (.ref T0) doc pm cv ctv) ⟨[], []⟩ = seqItems? (.ref T0) >>= kk ∧ ∀ v, kk (some #[v]) = pure [(prm, v)]) (hg : Gl X "_law_ask")
    (hbody : ∀ (A : Around) (outer : List Env) (s2 : Shared) (H2 : Hp) (E2 : XK) (f c' : Addr), Rm k (LamX.lamCx X A outer s2 H2 E2 scope f c').A → EX (LamX.lamCx X A outer s2 H2 E2 scope f c') (fun Ca fs m => m = μ ∧ AskE X.K (asked a_NetError a_Missing a_NothingLeft) V Ca fs) μ ds body (fun d m => m = μ ∧ V = .tup [.str "", d]))
    (hP : P V μ) : EX X PE μ ds (.Call (.Name "_law_ask" p) [.Lambda params body scope lpos] [] pos) P :=
  ex_askD T TB _ _ hcode tq t1 hk hr (lamD_by L) hd hk0 hbind hg hbody (fun d m ⟨e, h⟩ => by subst e; rw [← h]; exact hP) (fun Ca fs m ⟨e, h1, text, n, x, h2, h3, h4, h5, h6, h7, h8⟩ => ⟨h1, text, n, x, h2, h3, h4, h5, h6, h7, by subst e; rw [← h8]; exact hP⟩)

end Hw
set_option Elab.async false
set_option linter.all false
set_option maxRecDepth 100000
set_option maxHeartbeats 4000000

namespace Hw
open PySem L2 PyProof.Rows
-- my own steps
local macro_rules | `(tactic| fail "size") => `(tactic| first | decide | exact Nat.le_of_ble_eq_true rfl | omega | assumption | (simp only [signs_len, rngD_len]; first | assumption | omega | (show _ ≤ 16777216; omega) | (simp only [Str.length_append]; show _ ≤ 16777216; omega)) | (show _ ≤ 16777216; omega) | (simp only [Str.length_append]; show _ ≤ 16777216; omega))
local macro_rules | `(tactic| fail "mul") => `(tactic| first | exact Or.inl (Or.inl ⟨by omega, by omega⟩) | exact Or.inl (Or.inr ⟨by omega, by omega⟩) | exact Or.inl (Or.inr ⟨by decide, by decide⟩))
local macro_rules | `(tactic| fail "pos") => `(tactic| first | decide | omega)
local macro_rules | `(tactic| fail "div") => `(tactic| first | decide | exact ⟨by omega, by decide⟩ | assumption)
local macro_rules | `(tactic| fail "mark") => `(tactic| with_unfolding_all rfl)
local macro_rules | `(tactic| fail "len") => `(tactic| exact Nat.le_of_ble_eq_true rfl)
local macro_rules | `(tactic| fail "wid") => `(tactic| first | exact Nat.le_of_ble_eq_true rfl | (simp only [shL, shLs, shN, shNs]; omega) | (simp [shL, shLs, shN, shNs, List.replicate]; omega))
local macro_rules | `(tactic| fail "loc") => `(tactic| first | exact Or.inl rfl | exact Or.inr rfl)
local macro_rules | `(tactic| fail "pl") => `(tactic| first | rfl | assumption)
local macro_rules | `(tactic| fail "rng") => `(tactic| first | decide | omega)
local macro_rules | `(tactic| fail "sh") => `(tactic| repeat (first | assumption | with_reducible exact sh_non | with_reducible exact sh_bl | with_reducible exact sh_nil | with_reducible refine sh_cons ?_ ?_ | with_reducible refine sh_tup ?_ | with_reducible refine sh_lst ?_ | (with_reducible refine sh_int ?_; omega) | (with_reducible refine sh_lit ?_; decide +kernel)))
local macro_rules | `(tactic| fail "rep") => `(tactic| exact ⟨by decide, by decide, Nat.le_of_ble_eq_true rfl⟩)
variable {P : Program} {w : World} {K : PySem.W.Frag} {mg : Str → Option Value} {base : Heap}
def llowC : CT := fun xs μ P PE => ∃ t b : Int, xs = [.int t, .int b] ∧ 0 < b ∧ b.natAbs.log2 < 9000 ∧ P (.tup [.int (lowT t b), .int (lowB t b)]) μ
theorem llow_i {t b : Int} {μ : Mu} {R : DP} {PE : XP} (h0 : 0 < b) (hl : b.natAbs.log2 < 9000) (k : R (.tup [.int (lowT t b), .int (lowB t b)]) μ) : llowC [.int t, .int b] μ R PE := ⟨t, b, rfl, h0, hl, k⟩
theorem sc__law_low : FnScope ["_law_top_z", "_law_bottom_z", "_law_one", "_law_other"] ["_law_top_z", "_law_bottom_z"] (defScope s__law_low) := ⟨rfl, rfl, rfl, by decide +kernel, rfl, by decide +kernel, by decide +kernel⟩
variable {a_NetError a_Missing a_InvalidRatio a_NothingLeft cd tT : Addr}
theorem fg__law_low (T : Tx P K mg base a_NetError a_Missing a_InvalidRatio a_NothingLeft cd tT) {f : Addr} {fd : FuncData} (F : Fun K "_law_low" "_law_low" s__law_low f fd) : FnG P w K mg base 1 f fd ["_law_top_z", "_law_bottom_z"] llowC := by
  have m_abs := T.tb.non T.t.z_abs
  have m_int := T.tb.non T.t.z_int
  refine fn_ok F sc__law_low (fun xs μ R RE h => by first | (obtain ⟨rfl, _⟩ := h; rfl) | (obtain ⟨_, rfl, _⟩ := h; rfl) | (obtain ⟨_, _, rfl, _⟩ := h; rfl) | (obtain ⟨_, _, _, rfl, _⟩ := h; rfl) | (obtain ⟨_, _, _, _, rfl, _⟩ := h; rfl) | (obtain ⟨_, _, _, _, _, rfl, _⟩ := h; rfl) | (obtain ⟨_, _, _, _, _, _, rfl, _⟩ := h; rfl)) fun xs μ R PE cdv A outer s H E hr h => ?_
  obtain ⟨t, b, rfl, h0, hl, k⟩ := h
  refine sx_cons (sx_par 2 3 (ax_cons (ex_callB cr_abs (ax_cons (ex_nm (i := 0) rfl (ax_nil (f_abs (ax_cons (ex_nm (i := 1) rfl (ax_nil (⟨_, _, rfl, ?_⟩)) rfl (.inl rfl) rfl rfl)))) rfl (.inl rfl) rfl rfl)) rfl (by assumption) (by decide +kernel))) rfl sc__law_low.nd rfl rfl (by decide) rfl rfl rfl)
  rw [abs_nat]
  refine sx_cut (fun s μ1 => μ1 = μ ∧ s = [some (.int t), some (.int b), some (.int (sgn t b)), some (.int 0)]) ?_ fun s μ1 q => ?_
  · refine sx_while (fun m s μ1 => μ1 = μ ∧ ∃ x y : Nat, s = [some (.int t), some (.int b), some (.int x), some (.int y)] ∧ Nat.gcd x y = Int.gcd t b ∧ y = m) b.natAbs ⟨rfl, t.natAbs, b.natAbs, by rw [show ((b.natAbs : Nat) : Int) = b by omega]; rfl, rfl, rfl⟩ (fun m s μ1 q => ?_) (passes_of rfl)
    obtain ⟨rfl, x, y, rfl, hg, rfl⟩ := q
    refine tx_cmp (ex_nm (i := 3) rfl (ex_int (c_gt (two (fun h1 => ?_) (fun h1 => ?_)))) rfl (.inl rfl) rfl rfl) (by fail "mark")
    · have h1 := of_decide_eq_true h1
      refine sx_cons (sx_par 2 3 (ax_cons (ex_nm (i := 3) rfl (ax_cons (ex_bin (ex_callT cr_int (ax_cons (ex_nm (i := 2) rfl (ax_nil (f_int (ex_nm (i := 3) rfl (b_modI (by fail "pos") (ax_nil (⟨_, _, rfl, ?_⟩))) rfl (.inl rfl) rfl rfl))) rfl (.inl rfl) rfl rfl)) rfl (by assumption) (by decide +kernel)))) rfl (.inl rfl) rfl rfl)) rfl sc__law_low.nd rfl rfl (by decide) rfl rfl rfl)
      refine sx_nil ⟨x % y, Nat.mod_lt _ (by omega), rfl, y, x % y, rfl, ?_, rfl⟩
      rw [← hg, Nat.gcd_comm x y, Nat.gcd_rec y x, Nat.gcd_comm]
    · have h1 := of_decide_eq_false h1
      obtain rfl : y = 0 := by omega
      refine ⟨rfl, ?_⟩
      have e : sgn t b = (x : Int) := by
        unfold sgn
        rw [if_neg (by omega), ← hg, Nat.gcd_zero_right]
      rw [e]; rfl
  · obtain ⟨rfl, rfl⟩ := q
    have hs := sgn_ok (t := t) (b := b) (by omega) hl
    refine sx_cons (sx_ret (ex_tup (ax_cons (ex_bin (ex_nm (i := 0) rfl (ex_nm (i := 2) rfl (b_divZ hs (ax_cons (ex_bin (ex_nm (i := 1) rfl (ex_nm (i := 2) rfl (b_divZ hs (ax_nil ⟨by fail "len", k⟩)) rfl (.inl rfl) rfl rfl) rfl (.inl rfl) rfl rfl)))) rfl (.inl rfl) rfl rfl) rfl (.inl rfl) rfl rfl)))))
theorem ok__law_low (T : Tx P K mg base a_NetError a_Missing a_InvalidRatio a_NothingLeft cd tT) : Cal P w K mg base "_law_low" "_law_low" s__law_low ["_law_top_z", "_law_bottom_z"] 1 llowC := cal_of T.tb T.t.f__law_low (fun _ _ _ _ _ _ us hl => match us, hl with | [_, _], _ => rfl) fun f fd F => fg__law_low T F
end Hw
set_option Elab.async false
set_option linter.all false
set_option maxRecDepth 100000
set_option maxHeartbeats 4000000

namespace Hw
open PySem L2 PyProof.Rows
-- my own steps
local macro_rules | `(tactic| fail "size") => `(tactic| first | decide | exact Nat.le_of_ble_eq_true rfl | omega | assumption | (simp only [signs_len, rngD_len]; first | assumption | omega | (show _ ≤ 16777216; omega) | (simp only [Str.length_append]; show _ ≤ 16777216; omega)) | (show _ ≤ 16777216; omega) | (simp only [Str.length_append]; show _ ≤ 16777216; omega))
local macro_rules | `(tactic| fail "mul") => `(tactic| first | exact Or.inl (Or.inl ⟨by omega, by omega⟩) | exact Or.inl (Or.inr ⟨by omega, by omega⟩) | exact Or.inl (Or.inr ⟨by decide, by decide⟩))
local macro_rules | `(tactic| fail "pos") => `(tactic| first | decide | omega)
local macro_rules | `(tactic| fail "div") => `(tactic| first | decide | exact ⟨by omega, by decide⟩ | assumption)
local macro_rules | `(tactic| fail "mark") => `(tactic| with_unfolding_all rfl)
local macro_rules | `(tactic| fail "len") => `(tactic| exact Nat.le_of_ble_eq_true rfl)
local macro_rules | `(tactic| fail "wid") => `(tactic| first | exact Nat.le_of_ble_eq_true rfl | (simp only [shL, shLs, shN, shNs]; omega) | (simp [shL, shLs, shN, shNs, List.replicate]; omega))
local macro_rules | `(tactic| fail "loc") => `(tactic| first | exact Or.inl rfl | exact Or.inr rfl)
local macro_rules | `(tactic| fail "pl") => `(tactic| first | rfl | assumption)
local macro_rules | `(tactic| fail "rng") => `(tactic| first | decide | omega)
local macro_rules | `(tactic| fail "sh") => `(tactic| repeat (first | assumption | with_reducible exact sh_non | with_reducible exact sh_bl | with_reducible exact sh_nil | with_reducible refine sh_cons ?_ ?_ | with_reducible refine sh_tup ?_ | with_reducible refine sh_lst ?_ | (with_reducible refine sh_int ?_; omega) | (with_reducible refine sh_lit ?_; decide +kernel)))
local macro_rules | `(tactic| fail "rep") => `(tactic| exact ⟨by decide, by decide, Nat.le_of_ble_eq_true rfl⟩)
variable {P : Program} {w : World} {K : PySem.W.Frag} {mg : Str → Option Value} {base : Heap}
def numC : CT := fun xs μ P PE => ∃ a c0 μ0, xs = [.ref a] ∧ μ = mset μ0 a c0 ∧ SrcC c0 ∧ ∀ z c, -(10 ^ 18) ≤ z → z ≤ 10 ^ 18 → SrcC c → P (.int z) (mset μ0 a c)
theorem num_m {μ : Mu} {R : DP} {PE : XP} {a : Addr} {c0 : MD} (hc : SrcC c0) (h : ∀ z c, -(10 ^ 18) ≤ z → z ≤ 10 ^ 18 → SrcC c → R (.int z) (mset μ a c)) : numC [.ref a] (mset μ a c0) R PE := ⟨a, c0, μ, rfl, rfl, hc, h⟩
theorem sc__law_number : FnScope ["_law_src", "_law_found"] ["_law_src"] (defScope s__law_number) := ⟨rfl, rfl, rfl, by decide +kernel, rfl, by decide +kernel, by decide +kernel⟩
variable {a_NetError a_Missing a_InvalidRatio a_NothingLeft cd tT : Addr}
theorem fg__law_number (T : Tx P K mg base a_NetError a_Missing a_InvalidRatio a_NothingLeft cd tT) {f : Addr} {fd : FuncData} (F : Fun K "_law_number" "_law_number" s__law_number f fd) : FnG P w K mg base 3 f fd ["_law_src"] numC := by
  have c__law_of := ok__law_of (P := P) (w := w) T
  have c__law_draw := ok__law_draw (P := P) (w := w) T
  refine fn_ok F sc__law_number (fun xs μ R RE h => by first | (obtain ⟨rfl, _⟩ := h; rfl) | (obtain ⟨_, rfl, _⟩ := h; rfl) | (obtain ⟨_, _, rfl, _⟩ := h; rfl) | (obtain ⟨_, _, _, rfl, _⟩ := h; rfl) | (obtain ⟨_, _, _, _, rfl, _⟩ := h; rfl) | (obtain ⟨_, _, _, _, _, rfl, _⟩ := h; rfl) | (obtain ⟨_, _, _, _, _, _, rfl, _⟩ := h; rfl)) fun xs μ R PE cdv A outer s H E hr h => ?_
  obtain ⟨a, c0, μ, rfl, rfl, hc, k⟩ := h
  refine sx_cons (sx_set 1 (ex_call c__law_of (hr.mono (by decide)) (ax_cons (ex_nm (i := 0) rfl (ax_cons (ex_lst (ax_cons (ex_call c__law_draw (hr.mono (by decide)) (ax_cons (ex_nm (i := 0) rfl (ax_cons (ex_int (ax_nil (draw_m hc ⟨by decide, by decide⟩ fun z1 c1 l1 u1 hc1 => (ax_cons (ex_call c__law_draw (hr.mono (by decide)) (ax_cons (ex_nm (i := 0) rfl (ax_cons (ex_int (ax_nil (draw_m hc1 ⟨by decide, by decide⟩ fun z2 c2 l2 u2 hc2 => (ax_cons (ex_call c__law_draw (hr.mono (by decide)) (ax_cons (ex_nm (i := 0) rfl (ax_cons (ex_bin (ex_int (ex_int (b_powI ⟨by decide, by decide, by decide⟩ (ax_nil (draw_m hc2 ⟨by decide, by decide⟩ fun z3 c3 l3 u3 hc3 => (ax_cons (ex_int (ax_cons (ex_int (ax_cons (ex_int (ax_nil (⟨by fail "len", ax_nil (of_m hc3 ⟨by simp, by fail "len"⟩ fun y c4 hy hc4 => (?_))⟩))))))))))))))) rfl (.inl rfl) rfl rfl)) rfl)))))) rfl (.inl rfl) rfl rfl)) rfl)))))) rfl (.inl rfl) rfl rfl)) rfl)))) rfl (.inl rfl) rfl rfl)) rfl) sc__law_number.nd rfl (by fail "loc"))
  obtain ⟨z, rfl, h0, h1⟩ : ∃ z : Int, y = .int z ∧ 0 ≤ z ∧ z ≤ 10 ^ 18 := by
    have e18 : ((10 : Int) ^ (18 : Int).toNat) = 10 ^ 18 := rfl
    rw [e18] at u3
    simp only [inD, List.mem_cons, List.not_mem_nil, or_false] at hy
    rcases hy with rfl | rfl | rfl | rfl | rfl | rfl <;> exact ⟨_, rfl, by omega, by omega⟩
  refine sx_cons (sx_ret (ex_if (tx_cmp (ex_call c__law_draw (hr.mono (by decide)) (ax_cons (ex_nm (i := 0) rfl (ax_cons (ex_int (ax_nil (draw_m hc4 ⟨by decide, by decide⟩ fun z5 c5 l5 u5 hc5 => (ex_int (c_eqI (two (fun _ => ex_nm (i := 1) rfl (k _ _ (by omega) (by omega) hc5) rfl (.inl rfl) rfl rfl) (fun _ => ex_bin (ex_int (ex_nm (i := 1) rfl (b_subI (k _ _ (by omega) (by omega) hc5)) rfl (.inl rfl) rfl rfl)))))))))) rfl (.inl rfl) rfl rfl)) rfl) (by fail "mark"))))
theorem ok__law_number (T : Tx P K mg base a_NetError a_Missing a_InvalidRatio a_NothingLeft cd tT) : Cal P w K mg base "_law_number" "_law_number" s__law_number ["_law_src"] 3 numC := cal_of T.tb T.t.f__law_number (fun _ _ _ _ _ _ us hl => match us, hl with | [_], _ => rfl) fun f fd F => fg__law_number T F
end Hw
set_option Elab.async false
set_option linter.all false
set_option maxRecDepth 100000
set_option maxHeartbeats 4000000

namespace Hw
open PySem L2 PyProof.Rows
-- my own steps
local macro_rules | `(tactic| fail "size") => `(tactic| first | decide | exact Nat.le_of_ble_eq_true rfl | omega | assumption | (simp only [signs_len, rngD_len]; first | assumption | omega | (show _ ≤ 16777216; omega) | (simp only [Str.length_append]; show _ ≤ 16777216; omega)) | (show _ ≤ 16777216; omega) | (simp only [Str.length_append]; show _ ≤ 16777216; omega))
local macro_rules | `(tactic| fail "mul") => `(tactic| first | exact Or.inl (Or.inl ⟨by omega, by omega⟩) | exact Or.inl (Or.inr ⟨by omega, by omega⟩) | exact Or.inl (Or.inr ⟨by decide, by decide⟩))
local macro_rules | `(tactic| fail "pos") => `(tactic| first | decide | omega)
local macro_rules | `(tactic| fail "div") => `(tactic| first | decide | exact ⟨by omega, by decide⟩ | assumption)
local macro_rules | `(tactic| fail "mark") => `(tactic| with_unfolding_all rfl)
local macro_rules | `(tactic| fail "len") => `(tactic| exact Nat.le_of_ble_eq_true rfl)
local macro_rules | `(tactic| fail "wid") => `(tactic| first | exact Nat.le_of_ble_eq_true rfl | (simp only [shL, shLs, shN, shNs]; omega) | (simp [shL, shLs, shN, shNs, List.replicate]; omega))
local macro_rules | `(tactic| fail "loc") => `(tactic| first | exact Or.inl rfl | exact Or.inr rfl)
local macro_rules | `(tactic| fail "pl") => `(tactic| first | rfl | assumption)
local macro_rules | `(tactic| fail "rng") => `(tactic| first | decide | omega)
local macro_rules | `(tactic| fail "sh") => `(tactic| repeat (first | assumption | with_reducible exact sh_non | with_reducible exact sh_bl | with_reducible exact sh_nil | with_reducible refine sh_cons ?_ ?_ | with_reducible refine sh_tup ?_ | with_reducible refine sh_lst ?_ | (with_reducible refine sh_int ?_; omega) | (with_reducible refine sh_lit ?_; decide +kernel)))
local macro_rules | `(tactic| fail "rep") => `(tactic| exact ⟨by decide, by decide, Nat.le_of_ble_eq_true rfl⟩)
variable {P : Program} {w : World} {K : PySem.W.Frag} {mg : Str → Option Value} {base : Heap}
theorem low_opp (t b : Int) (h : b < 0) : lowT (0 - t) (0 - b) = lowT t b ∧ lowB (0 - t) (0 - b) = lowB t b := by
  have e : sgn (0 - t) (0 - b) = -(sgn t b) := by
    unfold sgn
    rw [if_neg (by omega), if_pos h, Int.neg_neg, show (0 - t) = -t by omega, show (0 - b) = -b by omega, Int.gcd_neg, Int.neg_gcd]
  unfold lowT lowB
  rw [e, show (0 - t) = -t by omega, show (0 - b) = -b by omega, Int.neg_fdiv_neg, Int.neg_fdiv_neg]
  exact ⟨rfl, rfl⟩
def dueD (t b : Int) : D := if b = 0 then .tup [.str "InvalidRatio", .int 0] else .tup [.str "", .tup [.int (lowT t b), .int (lowB t b)]]
theorem low_le (t b : Int) : (lowT t b).natAbs ≤ t.natAbs ∧ (lowB t b).natAbs ≤ b.natAbs := by
  have h1 : sgn t b ∣ t := by unfold sgn; split; exact Int.neg_dvd.mpr (Int.gcd_dvd_left ..); exact Int.gcd_dvd_left ..
  have h2 : sgn t b ∣ b := by unfold sgn; split; exact Int.neg_dvd.mpr (Int.gcd_dvd_right ..); exact Int.gcd_dvd_right ..
  unfold lowT lowB
  rw [Int.fdiv_eq_ediv_of_dvd h1, Int.fdiv_eq_ediv_of_dvd h2]
  exact ⟨Int.natAbs_ediv_le_natAbs _ _, Int.natAbs_ediv_le_natAbs _ _⟩
theorem sh_due {t b : Int} (ht : t.natAbs < 10 ^ 150) (hb : b.natAbs < 10 ^ 150) : shD (dueD t b) := by
  have h := low_le t b
  unfold dueD
  split
  · fail "sh"
  · fail "sh"
theorem len_due (t b : Int) : shL (dueD t b) ≤ 16000000 ∧ shN (dueD t b) ≤ 60 := by
  unfold dueD
  split <;> exact ⟨Nat.le_of_ble_eq_true rfl, Nat.le_of_ble_eq_true rfl⟩
theorem due_leaf {P : Program} {K : PySem.W.Frag} {a_NetError a_Missing a_InvalidRatio a_NothingLeft cd tT : Addr} (T : TK P K a_NetError a_Missing a_InvalidRatio a_NothingLeft cd tT) {t b : Int} {μ : Mu} (hl : b.natAbs.log2 < 9000) :
    ratioC a_InvalidRatio [.int t, .int b] μ (fun d m => m = μ ∧ dueD t b = .tup [.str "", d]) (fun Ca fs m => m = μ ∧ AskE K (asked a_NetError a_Missing a_NothingLeft) (dueD t b) Ca fs) := by
  refine ⟨.int t, .int b, rfl, rfl, rfl, fun t2 b2 e1 e2 h0 => ?_, (fun e => nomatch e), fun _ e => ⟨rfl, ?_⟩⟩
  · cases e1; cases e2
    exact ⟨hl, rfl, by simp [dueD, h0]⟩
  · rcases e with e | e
    · cases e
    · cases e
      exact ae_InvalidRatio T (.int 0)
theorem rat_1 {P : Program} {K : PySem.W.Frag} {a_NetError a_Missing a_InvalidRatio a_NothingLeft cd tT : Addr} (T : TK P K a_NetError a_Missing a_InvalidRatio a_NothingLeft cd tT) {t : Int} {μ : Mu} {R : DP} {PE : XP} (k : R (.tup [.int t, .int 1]) μ) :
    ratioC a_InvalidRatio [.int t, .int 1] μ R PE := by
  refine ⟨.int t, .int 1, rfl, rfl, rfl, fun t2 b2 e1 e2 h0 => ?_, (fun e => nomatch e), fun _ e => ?_⟩
  · cases e1; cases e2
    exact ⟨by decide, by rw [(low_one t).1, (low_one t).2]; exact k⟩
  · rcases e with e | e <;> cases e
theorem plain2_int (i : Int) : plain2 (.int i) := ⟨rfl, fun xs e => nomatch e⟩
theorem plain2_pair (i j : Int) : plain2 (.tup [.int i, .int j]) := ⟨rfl, fun xs e x hx => by cases e; simp at hx; rcases hx with rfl | rfl <;> rfl⟩
theorem right_eq {t b : Int} (h : 0 < b) : isRatioD (.tup [.int t, .int b]) = (decide (lowT t b = t) && decide (lowB t b = b)) := by
  have hs : sgn t b = (Int.gcd t b : Int) := by unfold sgn; rw [if_neg (by omega)]
  show (decide (1 ≤ b) && decide ((Int.gcd t b : Int) = 1)) = _
  unfold lowT lowB
  rw [hs, decide_eq_true (show (1 : Int) ≤ b by omega), Bool.true_and]
  have h2 : (Int.gcd t b : Int) ∣ b := Int.gcd_dvd_right ..
  have hg : Int.gcd t b ≠ 0 := fun e => by have := (Int.gcd_eq_zero_iff.mp e).2; omega
  by_cases e : (Int.gcd t b : Int) = 1
  · rw [e, Int.fdiv_one, Int.fdiv_one]
    simp
  · have e2 : b.fdiv (Int.gcd t b : Int) ≠ b := by
      intro q
      rw [Int.fdiv_eq_ediv_of_dvd h2] at q
      have := Int.ediv_mul_cancel h2
      rw [q] at this
      have h3 : b * ((Int.gcd t b : Int) - 1) = 0 := by rw [Int.mul_sub]; omega
      rcases Int.mul_eq_zero.mp h3 with h3 | h3 <;> omega
    simp [e, e2]
theorem right_no {t b : Int} (h : b ≤ 0) : isRatioD (.tup [.int t, .int b]) = false := by
  show (decide (1 ≤ b) && decide ((Int.gcd t b : Int) = 1)) = _
  rw [decide_eq_false (show ¬ (1 : Int) ≤ b by omega)]
  rfl
def due2D (t b : Int) : D := if isRatioD (.tup [.int t, .int b]) then .tup [.str "", .tup [.int t, .int b]] else .tup [.str "InvalidRatio", .tup [.int t, .int b]]
theorem rof_leaf {P : Program} {K : PySem.W.Frag} {a_NetError a_Missing a_InvalidRatio a_NothingLeft cd tT : Addr} (T : TK P K a_NetError a_Missing a_InvalidRatio a_NothingLeft cd tT) (t b : Int) {μ : Mu} :
    rofC a_InvalidRatio [.tup [.int t, .int b]] μ (fun d m => m = μ ∧ due2D t b = .tup [.str "", d]) (fun Ca fs m => m = μ ∧ AskE K (asked a_NetError a_Missing a_NothingLeft) (due2D t b) Ca fs) := by
  refine rof_i (plain2_pair t b) (fun r e => ⟨rfl, ?_⟩) fun e => ⟨rfl, ?_⟩
  · rw [rofD_of rfl] at e
    cases h : isRatioD (.tup [.int t, .int b]) with
    | true => rw [h] at e; cases e; simp [due2D, h]
    | false => rw [h] at e; cases e
  · rw [rofD_of rfl] at e
    cases h : isRatioD (.tup [.int t, .int b]) with
    | true => rw [h] at e; cases e
    | false => simp only [due2D, h]; exact ae_InvalidRatio T (.tup [.int t, .int b])
theorem rof_odd {P : Program} {K : PySem.W.Frag} {a_NetError a_Missing a_InvalidRatio a_NothingLeft cd tT : Addr} (T : TK P K a_NetError a_Missing a_InvalidRatio a_NothingLeft cd tT) {y : D} {μ : Mu} (hp : plain2 y) (h : ratioOfD y = none) :
    rofC a_InvalidRatio [y] μ (fun d m => m = μ ∧ D.tup [.str "InvalidRatio", y] = .tup [.str "", d]) (fun Ca fs m => m = μ ∧ AskE K (asked a_NetError a_Missing a_NothingLeft) (.tup [.str "InvalidRatio", y]) Ca fs) :=
  rof_i hp (fun r e => by rw [h] at e; cases e) fun e => ⟨rfl, ae_InvalidRatio T y⟩
theorem rat_odd1 {P : Program} {K : PySem.W.Frag} {a_NetError a_Missing a_InvalidRatio a_NothingLeft cd tT : Addr} (T : TK P K a_NetError a_Missing a_InvalidRatio a_NothingLeft cd tT) {x y : D} {μ : Mu} (hp : plainD y = true) (h : isIntD y = false) (hx : plainD x = true := by rfl) :
    ratioC a_InvalidRatio [y, x] μ (fun d m => m = μ ∧ D.tup [.str "InvalidRatio", y] = .tup [.str "", d]) (fun Ca fs m => m = μ ∧ AskE K (asked a_NetError a_Missing a_NothingLeft) (.tup [.str "InvalidRatio", y]) Ca fs) :=
  ⟨y, x, rfl, hp, hx, fun t b e1 e2 h0 => by (subst e1; cases h), fun e => ⟨rfl, ae_InvalidRatio T y⟩, fun e => by (rw [h] at e; cases e)⟩
theorem rat_odd2 {P : Program} {K : PySem.W.Frag} {a_NetError a_Missing a_InvalidRatio a_NothingLeft cd tT : Addr} (T : TK P K a_NetError a_Missing a_InvalidRatio a_NothingLeft cd tT) {y : D} {i : Int} {μ : Mu} (hp : plainD y = true) (h : isIntD y = false) :
    ratioC a_InvalidRatio [.int i, y] μ (fun d m => m = μ ∧ D.tup [.str "InvalidRatio", y] = .tup [.str "", d]) (fun Ca fs m => m = μ ∧ AskE K (asked a_NetError a_Missing a_NothingLeft) (.tup [.str "InvalidRatio", y]) Ca fs) :=
  ⟨.int i, y, rfl, rfl, hp, fun t b e1 e2 h0 => by (subst e2; cases h), (fun e => by cases e), fun e1 e2 => ⟨rfl, ae_InvalidRatio T y⟩⟩
theorem sc_law : FnScope ["_law_script", "_law_src", "_law_turn", "_law_top_z", "_law_bottom_z", "_law_due", "_law_pair", "_law_right", "_law_low_here", "_law_high", "_law_odd", "_law_got"] ["_law_script"] (defScope s_law) := ⟨rfl, rfl, rfl, by decide +kernel, rfl, by decide +kernel, by decide +kernel⟩
variable {a_NetError a_Missing a_InvalidRatio a_NothingLeft cd tT : Addr}
theorem fg_law (T : Tx P K mg base a_NetError a_Missing a_InvalidRatio a_NothingLeft cd tT) (TB : LamX.TabB base mg cd tT) {f : Addr} {fd : FuncData} (F : FunC K "law" s_law f cd fd) : FnG P w K mg base 7 f fd ["_law_script"] (lawCT tT) := by
  have c__law_source := ok__law_source (P := P) (w := w) T
  have m_range := T.tb.non T.t.z_range
  have c__law_of := ok__law_of (P := P) (w := w) T
  have c__law_same := ok__law_same (P := P) (w := w) T
  have c_is_ratio := ok_is_ratio (P := P) (w := w) T
  have c_is_number := ok_is_number (P := P) (w := w) T
  have c__law_number := ok__law_number (P := P) (w := w) T
  have c__law_low := ok__law_low (P := P) (w := w) T
  have c_ratio_of := ok_ratio_of (P := P) (w := w) T
  have c_ratio_0 := ok_ratio_0 (P := P) (w := w) T
  have c_ratio_1 := ok_ratio_1 (P := P) (w := w) T
  have c_ratio_2 := ok_ratio_2 (P := P) (w := w) T
  refine fn_okC F sc_law (fun xs μ R RE h => by first | (obtain ⟨rfl, _⟩ := h; rfl) | (obtain ⟨_, rfl, _⟩ := h; rfl) | (obtain ⟨_, _, rfl, _⟩ := h; rfl) | (obtain ⟨_, _, _, rfl, _⟩ := h; rfl) | (obtain ⟨_, _, _, _, rfl, _⟩ := h; rfl) | (obtain ⟨_, _, _, _, _, rfl, _⟩ := h; rfl) | (obtain ⟨_, _, _, _, _, _, rfl, _⟩ := h; rfl)) fun xs μ R PE A outer s H E hr h => ?_
  obtain ⟨ns, rfl, hn, hb, rfl, k⟩ := h
  refine sx_cons (sx_set 1 (ex_call c__law_source (hr.mono (by decide)) (ax_cons (ex_nm (i := 0) rfl (ax_nil (source_i fun a c0 na hc0 => (?_))) rfl (.inl rfl) rfl rfl)) rfl) sc_law.nd rfl (by fail "loc"))
  refine sx_cut (fun s μ1 => ∃ c d2 d3 d4 d5 d6 d7 d8 d9, SrcC c ∧ μ1 = mset (mu0 tT "law.<locals>.<lambda>") a c ∧ s = [some (.rol (ns.map .int)), some (.ref a), d2, d3, d4, d5, d6, d7, d8, d9, none, none]) ?_ fun s μ1 q => ?_
  · refine sx_for (ix_range1 (ex_int (⟨_, rfl, by fail "rng", by fail "rng", ⟨fun i s μ1 => ∃ c d2 d3 d4 d5 d6 d7 d8 d9, SrcC c ∧ μ1 = mset (mu0 tT "law.<locals>.<lambda>") a c ∧ s = [some (.rol (ns.map .int)), some (.ref a), d2, d3, d4, d5, d6, d7, d8, d9, none, none], ⟨c0, _, _, _, _, _, _, _, _, hc0, rfl, rfl⟩, fun i x dsi μi hx hi => ?_, fun dsn μn h => h⟩⟩)) rfl (by assumption)) (passes_of rfl) rfl
    obtain ⟨c, d2, d3, d4, d5, d6, d7, d8, d9, hc, rfl, rfl⟩ := hi
    refine gx_nm 2 ?_ sc_law.nd rfl (by fail "loc")
    refine sx_cons (sx_asg (ex_tup (ax_cons (ex_call c__law_number (hr.mono (by decide)) (ax_cons (ex_nm (i := 1) rfl (ax_nil (num_m hc fun z1 c1 l1 u1 hc1 => (ax_cons (ex_call c__law_number (hr.mono (by decide)) (ax_cons (ex_nm (i := 1) rfl (ax_nil (num_m hc1 fun z2 c2 l2 u2 hc2 => (ax_nil (⟨by fail "len", gx_tup (gs_cons (gx_nm 3 (gs_cons (gx_nm 4 (gs_nil (?_)) sc_law.nd rfl (by fail "loc"))) sc_law.nd rfl (by fail "loc"))) rfl rfl⟩)))) rfl (.inl rfl) rfl rfl)) rfl)))) rfl (.inl rfl) rfl rfl)) rfl))))
    have b1 : z1.natAbs.log2 < 9000 := by
      by_cases h0 : z1 = 0
      · subst h0; decide
      · exact (Nat.log2_lt (by omega)).mpr (Nat.lt_of_lt_of_le (show z1.natAbs < 2 ^ 64 by omega) (Nat.pow_le_pow_right (by decide) (by decide)))
    have b2 : z2.natAbs.log2 < 9000 := by
      by_cases h0 : z2 = 0
      · subst h0; decide
      · exact (Nat.log2_lt (by omega)).mpr (Nat.lt_of_lt_of_le (show z2.natAbs < 2 ^ 64 by omega) (Nat.pow_le_pow_right (by decide) (by decide)))
    refine sx_cons (sx_set 5 (ex_tup (ax_cons (ex_str (ax_cons (ex_int (ax_nil (⟨by fail "len", ?_⟩))))))) sc_law.nd rfl (by fail "loc"))
    refine sx_cut (fun s μ1 => μ1 = mset (mu0 tT "law.<locals>.<lambda>") a c2 ∧ s = [some (.rol (ns.map .int)), some (.ref a), some x, some (.int z1), some (.int z2), some (dueD z1 z2), d6, d7, d8, d9, none, none]) ?_ fun s μ1 q => ?_
    · refine sx_if (tx_cmp (ex_nm (i := 4) rfl (ex_int (c_neI (two (fun h1 => ?_) (fun h1 => sx_nil ⟨rfl, ?_⟩)))) rfl (.inr (.inl rfl)) rfl rfl) (by fail "mark"))
      · have hz : z2 ≠ 0 := by simpa using h1
        refine sx_cons (sx_set 5 (ex_tup (ax_cons (ex_str (ax_cons (ex_if (tx_cmp (ex_nm (i := 4) rfl (ex_int (c_gt (two (fun hi => ex_call c__law_low (hr.mono (by decide)) (ax_cons (ex_nm (i := 3) rfl (ax_cons (ex_nm (i := 4) rfl (ax_nil (llow_i (of_decide_eq_true hi) b2 (ax_nil (⟨by fail "len", ?_⟩)))) rfl (.inr (.inl rfl)) rfl rfl)) rfl (.inr (.inl rfl)) rfl rfl)) rfl) (fun hi => ex_call c__law_low (hr.mono (by decide)) (ax_cons (ex_bin (ex_int (ex_nm (i := 3) rfl (b_subI (ax_cons (ex_bin (ex_int (ex_nm (i := 4) rfl (b_subI (ax_nil (llow_i (by have := of_decide_eq_false hi; omega) (by rw [show (0 - z2).natAbs = z2.natAbs by omega]; exact b2) (ax_nil (⟨by fail "len", ?_⟩))))) rfl (.inr (.inl rfl)) rfl rfl))))) rfl (.inr (.inl rfl)) rfl rfl)))) rfl)))) rfl (.inr (.inl rfl)) rfl rfl) (by fail "mark"))))))) sc_law.nd rfl (by fail "loc"))
        · refine sx_nil ⟨rfl, ?_⟩
          simp [dueD, hz]
        · refine sx_nil ⟨rfl, ?_⟩
          have := of_decide_eq_false hi
          have q := low_opp z1 z2 (by omega)
          simpa [dueD, hz] using q
      · have hz : z2 = 0 := by simpa using h1
        simp [dueD, hz]
    obtain ⟨rfl, rfl⟩ := q
    refine sx_cons (sx_if (tx_not (tx_val (ex_call c__law_same (hr.mono (by decide)) (ax_cons (ask_v T TB (V := dueD z1 z2) (k := 4) rfl (tq_of na) (t1_of (by assumption)) (by decide) hr (by (show LamX.lamSB (defScope s_law) _ = true); decide +kernel) rfl (fun _ _ _ _ _ => rfl) rfl (fun A outer s2 H2 E2 f c' hr => ex_callVK c_ratio_2 (hr.mono (by decide)) rfl (kx_cons (ex_nm (i := 4) rfl (kx_cons (ex_nm (i := 3) rfl (kx_nil (⟨rfl, (due_leaf T.t b2)⟩)) rfl (.inr (.inr rfl)) rfl rfl)) rfl (.inr (.inr rfl)) rfl rfl)) rfl) (ax_cons (ex_nm (i := 5) rfl (ax_nil (same_v rfl (sh_due (by omega) (by omega)) (len_due _ _).1 (len_due _ _).2 (⟨_, rfl, two (fun h1 => ?_) (fun h1 => ?_)⟩))) rfl (.inl rfl) rfl rfl)))) rfl) (fun _ => rfl))))
    · cases h1
    refine sx_nil ?_
    refine sx_cons (sx_if (tx_not (tx_val (ex_call c__law_same (hr.mono (by decide)) (ax_cons (ex_lst (ax_cons (ex_callV c_ratio_0 (hr.mono (by decide)) rfl (ax_cons (ex_nm (i := 3) rfl (ax_nil (⟨rfl, rat_1 T.t (ax_cons (ex_callK0 (ks := ["value"]) (idx := [0]) c_ratio_of (fun _ _ _ _ _ _ us ws h1 h2 => match us, ws, h1, h2 with | [], [_], _, _ => rfl) (hr.mono (by decide)) (kx_cons (ex_nm (i := 3) rfl (kx_nil (⟨rfl, rof_ok (plain2_int _) rfl (ax_cons (ex_call c_ratio_of (hr.mono (by decide)) (ax_cons (ex_tup (ax_cons (ex_nm (i := 3) rfl (ax_cons (ex_int (ax_nil (⟨by fail "len", ax_nil (rof_ok (plain2_pair _ _) (by simp [ratioOfD, isRatioD]) (ax_nil (⟨by fail "len", ax_cons (ex_bin (ex_lst (ax_cons (ex_tup (ax_cons (ex_nm (i := 3) rfl (ax_cons (ex_int (ax_nil (⟨by fail "len", ax_nil (⟨by fail "len", ex_int (b_repL (by fail "rep") (ax_nil (same_v rfl (by fail "sh") (by fail "wid") (by fail "wid") (⟨_, rfl, two (fun h1 => ?_) (fun h1 => ?_)⟩))))⟩)⟩)))) rfl (.inr (.inl rfl)) rfl rfl))))))⟩)))⟩)))) rfl (.inr (.inl rfl)) rfl rfl)))) rfl))⟩)) rfl (.inr (.inl rfl)) rfl rfl)) rfl))⟩)) rfl (.inr (.inl rfl)) rfl rfl)) rfl)))) rfl) (fun _ => rfl))))
    · cases h1
    refine sx_nil ?_
    refine sx_cons (sx_set 6 (ex_tup (ax_cons (ex_nm (i := 3) rfl (ax_cons (ex_nm (i := 4) rfl (ax_nil (⟨by fail "len", ?_⟩)) rfl (.inr (.inl rfl)) rfl rfl)) rfl (.inr (.inl rfl)) rfl rfl))) sc_law.nd rfl (by fail "loc"))
    refine sx_cut (fun s μ1 => μ1 = mset (mu0 tT "law.<locals>.<lambda>") a c2 ∧ s = [some (.rol (ns.map .int)), some (.ref a), some x, some (.int z1), some (.int z2), some (dueD z1 z2), some (.tup [.int z1, .int z2]), some (.bl (isRatioD (.tup [.int z1, .int z2]))), d8, d9, none, none]) ?_ fun s μ1 q => ?_
    · refine (sx_set 7 (ex_and (ex_cmp (ex_nm (i := 4) rfl (ex_int (c_gt (⟨_, rfl, two (fun ha => ex_one (ex_eqD (ex_call c__law_low (hr.mono (by decide)) (ax_cons (ex_nm (i := 3) rfl (ax_cons (ex_nm (i := 4) rfl (ax_nil (llow_i (of_decide_eq_true ha) b2 (ex_nm (i := 6) rfl (eq_ii (?_)) rfl (.inr (.inl rfl)) rfl rfl))) rfl (.inr (.inl rfl)) rfl rfl)) rfl (.inr (.inl rfl)) rfl rfl)) rfl) hr.r.units (by fail "mark"))) (fun ha => ?_)⟩))) rfl (.inr (.inl rfl)) rfl rfl) (by fail "mark"))) sc_law.nd rfl (by fail "loc"))
      · exact ⟨rfl, by rw [right_eq (of_decide_eq_true ha)]; rfl⟩
      · exact ⟨rfl, by rw [right_no (by have := of_decide_eq_false ha; omega)]; rfl⟩
    obtain ⟨rfl, rfl⟩ := q
    have s2 : shD (due2D z1 z2) := by unfold due2D; split <;> fail "sh"
    have w2 : shL (due2D z1 z2) ≤ 1000 ∧ shN (due2D z1 z2) ≤ 10 := by unfold due2D; split <;> exact ⟨Nat.le_of_ble_eq_true rfl, Nat.le_of_ble_eq_true rfl⟩
    have e2 := w2.1
    have e3 := w2.2
    refine sx_cons (sx_if (tx_not (tx_val (ex_call c__law_same (hr.mono (by decide)) (ax_cons (ex_lst (ax_cons (ex_callK0 (ks := ["value"]) (idx := [0]) c_is_ratio (fun _ _ _ _ _ _ us ws h1 h2 => match us, ws, h1, h2 with | [], [_], _, _ => rfl) (hr.mono (by decide)) (kx_cons (ex_nm (i := 6) rfl (kx_nil (⟨rfl, isratio_i (plain2_pair _ _) (ax_cons (ask_v T TB (V := due2D z1 z2) (k := 4) rfl (tq_of na) (t1_of (by assumption)) (by decide) hr (by (show LamX.lamSB (defScope s_law) _ = true); decide +kernel) rfl (fun _ _ _ _ _ => rfl) rfl (fun A outer s2 H2 E2 f c' hr => ex_call c_ratio_of (hr.mono (by decide)) (ax_cons (ex_nm (i := 6) rfl (ax_nil ((rof_leaf T.t _ _))) rfl (.inr (.inr rfl)) rfl rfl)) rfl) (ax_nil (⟨by fail "len", ax_cons (ex_lst (ax_cons (ex_nm (i := 7) rfl (ax_cons (ex_if (tx_val (ex_nm (i := 7) rfl (⟨_, rfl, two (fun hi => ex_tup (ax_cons (ex_str (ax_cons (ex_nm (i := 6) rfl (ax_nil (⟨by fail "len", ax_nil (⟨by fail "len", ax_nil (same_v (by simp [due2D, hi]) (by fail "sh") (by fail "wid") (by fail "wid") (⟨_, rfl, two (fun h1 => ?_) (fun h1 => ?_)⟩))⟩)⟩)) rfl (.inr (.inl rfl)) rfl rfl))))) (fun hi => ex_tup (ax_cons (ex_str (ax_cons (ex_nm (i := 6) rfl (ax_nil (⟨by fail "len", ax_nil (⟨by fail "len", ax_nil (same_v (by simp [due2D, hi]) (by fail "sh") (by fail "wid") (by fail "wid") (⟨_, rfl, two (fun h1 => ?_) (fun h1 => ?_)⟩))⟩)⟩)) rfl (.inr (.inl rfl)) rfl rfl)))))⟩) rfl (.inl rfl) rfl rfl) (fun _ => rfl)))) rfl (.inl rfl) rfl rfl)))⟩))))⟩)) rfl (.inr (.inl rfl)) rfl rfl)) rfl)))) rfl) (fun _ => rfl))))
    · cases h1
    all_goals first | (cases h1; done) | skip
    all_goals
      refine sx_nil ?_
      refine sx_cons (sx_par 8 9 (ax_cons (ex_call c__law_number (hr.mono (by decide)) (ax_cons (ex_nm (i := 1) rfl (ax_nil (num_m hc2 fun z3 c3 l3 u3 hc3 => (ax_cons (ex_call c__law_number (hr.mono (by decide)) (ax_cons (ex_nm (i := 1) rfl (ax_nil (num_m hc3 fun z4 c4 l4 u4 hc4 => (ax_nil (⟨_, _, rfl, ?_⟩)))) rfl (.inl rfl) rfl rfl)) rfl)))) rfl (.inl rfl) rfl rfl)) rfl)) rfl sc_law.nd rfl rfl (by decide) rfl rfl rfl)
      refine sx_cons (sx_if (tx_not (tx_val (ex_call c__law_same (hr.mono (by decide)) (ax_cons (ex_lst (ax_cons (ex_call c_is_number (hr.mono (by decide)) (ax_cons (ex_nm (i := 3) rfl (ax_cons (ex_nm (i := 8) rfl (ax_cons (ex_nm (i := 9) rfl (ax_nil (isnum_i rfl (ax_cons (ex_callK0 (ks := ["most", "value", "least"]) (idx := [1, 2, 0]) c_is_number (fun _ _ _ _ _ _ us ws h1 h2 => match us, ws, h1, h2 with | [], [_, _, _], _, _ => rfl) (hr.mono (by decide)) (kx_cons (ex_nm (i := 3) rfl (kx_cons (ex_nm (i := 3) rfl (kx_cons (ex_nm (i := 3) rfl (kx_nil (⟨rfl, isnum_i rfl (ax_nil (⟨by fail "len", ax_cons (ex_lst (ax_cons (ex_chain (ex_nm (i := 8) rfl (ex_nm (i := 3) rfl (c_le (two (fun hc1 => ex_nm (i := 9) rfl (c_le (ax_cons (ex_bl (ax_nil (⟨by fail "len", ax_nil (same_v (by simp [isNumD, of_decide_eq_true hc1]) (by fail "sh") (by fail "wid") (by fail "wid") (⟨_, rfl, two (fun h1 => ?_) (fun h1 => ?_)⟩))⟩))))) rfl (.inl rfl) rfl rfl) (fun hc1 => ax_cons (ex_bl (ax_nil (⟨by fail "len", ax_nil (same_v (by simp [isNumD, of_decide_eq_false hc1]) (by fail "sh") (by fail "wid") (by fail "wid") (⟨_, rfl, two (fun h1 => ?_) (fun h1 => ?_)⟩))⟩)))))) rfl (.inr (.inl rfl)) rfl rfl) rfl (.inl rfl) rfl rfl))))⟩))⟩)) rfl (.inr (.inl rfl)) rfl rfl)) rfl (.inr (.inl rfl)) rfl rfl)) rfl (.inr (.inl rfl)) rfl rfl)) rfl)))) rfl (.inl rfl) rfl rfl)) rfl (.inl rfl) rfl rfl)) rfl (.inr (.inl rfl)) rfl rfl)) rfl)))) rfl) (fun _ => rfl))))
      all_goals first | (cases h1; done) | skip
      all_goals exact sx_nil (sx_nil ⟨_, _, _, _, _, _, _, _, _, hc4, rfl, rfl⟩)
  · obtain ⟨c, d2, d3, d4, d5, d6, d7, d8, d9, hc, rfl, rfl⟩ := q
    refine sx_cons (sx_set 10 (ex_call c__law_of (hr.mono (by decide)) (ax_cons (ex_nm (i := 1) rfl (ax_cons (ex_lst (ax_cons (ex_non (ax_cons (ex_bl (ax_cons (ex_str (ax_cons (ex_tup (ax_cons (ex_int (ax_nil (⟨by fail "len", ax_cons (ex_lst (ax_cons (ex_int (ax_cons (ex_int (ax_nil (⟨by fail "len", ax_cons (ex_tup (ax_cons (ex_int (ax_cons (ex_int (ax_cons (ex_int (ax_nil (⟨by fail "len", ax_cons (ex_tup (ax_cons (ex_int (ax_cons (ex_bl (ax_nil (⟨by fail "len", ax_cons (ex_tup (ax_cons (ex_str (ax_cons (ex_int (ax_nil (⟨by fail "len", ax_cons (ex_tup (ax_cons (ex_int (ax_cons (ex_int (ax_nil (⟨by fail "len", ax_cons (ex_tup (ax_cons (ex_int (ax_cons (ex_int (ax_nil (⟨by fail "len", ax_cons (ex_tup (ax_cons (ex_int (ax_cons (ex_neg (ex_int (⟨_, rfl, ax_nil (⟨by fail "len", ax_nil (⟨by fail "len", ax_nil (of_m hc ⟨by simp, by decide⟩ fun y c1 hy hc1 => (?_))⟩)⟩)⟩)))))))⟩)))))))⟩)))))))⟩)))))))⟩)))))))⟩)))))))))⟩)))))))⟩)))))))))))))) rfl (.inl rfl) rfl rfl)) rfl) sc_law.nd rfl (by fail "loc"))
    have hp : plain2 y ∧ isRatioD y = false ∧ isNumD y (-5) 5 = false ∧ ratioOfD y = none ∧ isIntD y = false ∧ shD y ∧ shL y ≤ 1000 ∧ shN y ≤ 10 := by
      simp only [inD, List.mem_cons, List.not_mem_nil, or_false] at hy
      rcases hy with rfl | rfl | rfl | rfl | rfl | rfl | rfl | rfl | rfl | rfl | rfl <;> refine ⟨⟨rfl, fun xs e x hx => ?_⟩, by decide +kernel, rfl, ?_, rfl, ?_, Nat.le_of_ble_eq_true rfl, Nat.le_of_ble_eq_true rfl⟩
      all_goals first | (fail "sh"; done) | (cases e; done) | (cases e; simp at hx; rcases hx with rfl | rfl | rfl <;> rfl) | (cases e; simp at hx; rcases hx with rfl | rfl <;> rfl) | (cases e; simp at hx; subst hx; rfl) | rfl | decide +kernel
    obtain ⟨p1, p2, p3, p4, p5, p6, p7, p8⟩ := hp
    refine sx_cons (sx_set 11 (ex_lst (ax_cons (ex_call c_is_ratio (hr.mono (by decide)) (ax_cons (ex_nm (i := 10) rfl (ax_nil (isratio_i p1 (ax_cons (ex_call c_is_number (hr.mono (by decide)) (ax_cons (ex_nm (i := 10) rfl (ax_cons (ex_neg (ex_int (⟨_, rfl, ax_cons (ex_int (ax_nil (isnum_i p1.1 (ax_cons (ask_v T TB (V := .tup [.str "InvalidRatio", y]) (k := 4) rfl (tq_of na) (t1_of (by assumption)) (by decide) hr (by (show LamX.lamSB (defScope s_law) _ = true); decide +kernel) rfl (fun _ _ _ _ _ => rfl) rfl (fun A outer s2 H2 E2 f c' hr => ex_call c_ratio_of (hr.mono (by decide)) (ax_cons (ex_nm (i := 10) rfl (ax_nil ((rof_odd T.t p1 p4))) rfl (.inr (.inr rfl)) rfl rfl)) rfl) (ax_cons (askD_v T TB (V := .tup [.str "InvalidRatio", y]) (k := 4) rfl (tq_of na) (t1_of (by assumption)) (by decide) hr (prm := "_law_a") rfl rfl (by (show lamDB ["_law_script", "_law_src", "_law_turn", "_law_top_z", "_law_bottom_z", "_law_due", "_law_pair", "_law_right", "_law_low_here", "_law_high", "_law_odd", "_law_got"] (defScope s_law) _ _ = true); decide +kernel) (fun _ _ _ _ _ _ _ => ⟨_, rfl, fun _ => rfl⟩) rfl (fun A outer s2 H2 E2 f c' hr => ex_callV c_ratio_1 (hr.mono (by decide)) rfl (ax_cons (ex_nm (i := 10) rfl (ax_cons (ex_int (ax_nil (⟨rfl, (rat_odd1 T.t p1.1 p5)⟩)))) rfl (.inr (.inr rfl)) rfl rfl)) rfl) (ax_cons (askD_v T TB (V := .tup [.str "InvalidRatio", y]) (k := 4) rfl (tq_of na) (t1_of (by assumption)) (by decide) hr (prm := "_law_b") rfl rfl (by (show lamDB ["_law_script", "_law_src", "_law_turn", "_law_top_z", "_law_bottom_z", "_law_due", "_law_pair", "_law_right", "_law_low_here", "_law_high", "_law_odd", "_law_got"] (defScope s_law) _ _ = true); decide +kernel) (fun _ _ _ _ _ _ _ => ⟨_, rfl, fun _ => rfl⟩) rfl (fun A outer s2 H2 E2 f c' hr => ex_callV c_ratio_1 (hr.mono (by decide)) rfl (ax_cons (ex_int (ax_cons (ex_nm (i := 10) rfl (ax_nil (⟨rfl, (rat_odd2 T.t p1.1 p5)⟩)) rfl (.inr (.inr rfl)) rfl rfl)))) rfl) (ax_nil (⟨by fail "len", ?_⟩)))))))))))⟩)))) rfl (.inr (.inl rfl)) rfl rfl)) rfl)))) rfl (.inr (.inl rfl)) rfl rfl)) rfl))) sc_law.nd rfl (by fail "loc"))
    rw [p2, p3]
    have i12 : (Str.ofString "InvalidRatio").cps.size = 12 := by decide +kernel
    refine sx_cons (sx_ret (ex_call c__law_same (hr.mono (by decide)) (ax_cons (ex_nm (i := 11) rfl (ax_cons (ex_bin (ex_lst (ax_cons (ex_bl (ax_cons (ex_bl (ax_nil (⟨by fail "len", ex_bin (ex_lst (ax_cons (ex_tup (ax_cons (ex_str (ax_cons (ex_nm (i := 10) rfl (ax_nil (⟨by fail "len", ax_nil (⟨by fail "len", ex_int (b_repL (by fail "rep") (b_addL (by fail "size") (ax_nil (same_v rfl (by fail "sh") (by fail "wid") (by fail "wid") (?_)))))⟩)⟩)) rfl (.inr (.inl rfl)) rfl rfl)))))))⟩))))))))) rfl (.inl rfl) rfl rfl)) rfl))
    exact k _
end Hw
set_option Elab.async false
set_option linter.all false
set_option maxRecDepth 100000
set_option maxHeartbeats 4000000

open PySem PySem.W PyProof.Rows
set_option maxRecDepth 100000 in
set_option maxHeartbeats 0 in
theorem PySem.Challenge.cw_heardways_k02_ratios_made_holds : PySem.Challenge.rw_heardways_k02_ratios_made.Holds := by
  w_on; o_law; k_head; (case hw => w_witness2)
  k_fill
  refine Hw.walk_endT (l := PySem.Challenge.rw_heardways_k02_ratios_made) (x := "_law_script") (tq := "law.<locals>.<lambda>") (k := 7) (C := Hw.lawCT) rfl (by decide) rfl ⟨⟨rfl, by decide, by decide⟩, rfl⟩ (fun w h Y => PySem.W.km_in_of Y) ?F (fun T ns hl hb => ⟨ns, rfl, hl, hb, rfl, fun _ => rfl⟩)
  case F =>
    intro w mg fa h Y KX G hmg
    refine' (fun (T : Hw.TK (PySem.Challenge.rw_heardways_k02_ratios_made).prog _ _ _ _ _ _ _) => Hw.law_fnT (C := Hw.lawCT) ⟨KX, G⟩ T.f_law hmg (PySem.W.km_tabs_of Y _ ?tab) (fun _ _ _ _ _ _ => rfl) fun base f fd tb tc F => Hw.fg_law ⟨T, tb⟩ tc F) ?T
    case T =>
      refine' Hw.TK.mk ?pf ?n_NetError ?n_Missing ?n_InvalidRatio ?n_NothingLeft ?b_NetError ?b_Missing ?b_NothingLeft ?e_InvalidRatio ?x_InvalidRatio ?s_InvalidRatio_NetError ?s_InvalidRatio_Missing ?s_InvalidRatio_NothingLeft ?f_is_integer ?f_is_number ?f_common_divisor ?f_lowest ?f_is_ratio ?f_ratio ?f_ratio_of ?f__law_source ?f__law_draw ?f__law_of ?f__law_same ?f__law_fields ?f__law_ask ?f__law_low ?f__law_number ?f_law ?z_isinstance ?z_int ?z_bool ?z_abs ?z_tuple ?z_len ?z_list ?z_repr ?z_range ?k_int ?k_bool ?k_tuple
      (case pf => exact ⟨by decide +kernel⟩)
      (case n_NetError => k_is)
      (case n_Missing => k_is)
      (case n_InvalidRatio => k_is)
      (case n_NothingLeft => k_is)
      (case b_NetError => (refine' Hw.BasC.mk' ?c ?t ?b; (case c => k_is); (case t => k_is); (case b => k_is)))
      (case b_Missing => (refine' Hw.BasC.mk' ?c ?t ?b; (case c => k_is); (case t => k_is); (case b => k_is)))
      (case b_NothingLeft => (refine' Hw.BasC.mk' ?c ?t ?b; (case c => k_is); (case t => k_is); (case b => k_is)))
      (case e_InvalidRatio => (refine' Hw.Exc1.mk' ?lC ?hbm ?sa ?exC ?tyC ?kC ?cls ?mro ?sup ?isV ?any ?blt ?nc ?nf ?iC ?tI ?lf ?cI ?lc ?hv ?hfile ?lcc; (case lC => k_is); (case hbm => decide +kernel); (case sa => k_is); (case exC => k_is); (case tyC => k_is); (case kC => k_is); (case cls => k_is); (case mro => k_is); (case sup => ks_is); (case isV => k_is); (case any => k_is); (case blt => k_is); (case nc => k_is); (case nf => k_is); (case iC => k_is); (case tI => k_is); (case lf => k_is); (case cI => k_is); (case lc => k_is); (case hv => rfl); (case hfile => decide +kernel); (case lcc => k_is)))
      (case x_InvalidRatio => exact ⟨by k_is, by k_is, by k_is, by k_is⟩)
      (case s_InvalidRatio_NetError => k_is)
      (case s_InvalidRatio_Missing => k_is)
      (case s_InvalidRatio_NothingLeft => k_is)
      (case f_is_integer => (refine' Hw.FunAt.mk' ?a ?l ?c ?k; (case a => k_is); (case l => k_is); (case c => k_is); (case k => k_is)))
      (case f_is_number => (refine' Hw.FunAt.mk' ?a ?l ?c ?k; (case a => k_is); (case l => k_is); (case c => k_is); (case k => k_is)))
      (case f_common_divisor => (refine' Hw.FunAt.mk' ?a ?l ?c ?k; (case a => k_is); (case l => k_is); (case c => k_is); (case k => k_is)))
      (case f_lowest => (refine' Hw.FunAt.mk' ?a ?l ?c ?k; (case a => k_is); (case l => k_is); (case c => k_is); (case k => k_is)))
      (case f_is_ratio => (refine' Hw.FunAt.mk' ?a ?l ?c ?k; (case a => k_is); (case l => k_is); (case c => k_is); (case k => k_is)))
      (case f_ratio => (refine' Hw.FunAtV.mk' ?a ?l ?c ?k ?t ?r; (case a => k_is); (case l => k_is); (case c => k_is); (case k => k_is); (case t => k_is); (case r => repeat (first | exact .nil | refine .cons (by first | exact rfl | exact ⟨_, rfl⟩) ?_))))
      (case f_ratio_of => (refine' Hw.FunAt.mk' ?a ?l ?c ?k; (case a => k_is); (case l => k_is); (case c => k_is); (case k => k_is)))
      (case f__law_source => (refine' Hw.FunAt.mk' ?a ?l ?c ?k; (case a => k_is); (case l => k_is); (case c => k_is); (case k => k_is)))
      (case f__law_draw => (refine' Hw.FunAt.mk' ?a ?l ?c ?k; (case a => k_is); (case l => k_is); (case c => k_is); (case k => k_is)))
      (case f__law_of => (refine' Hw.FunAt.mk' ?a ?l ?c ?k; (case a => k_is); (case l => k_is); (case c => k_is); (case k => k_is)))
      (case f__law_same => (refine' Hw.FunAt.mk' ?a ?l ?c ?k; (case a => k_is); (case l => k_is); (case c => k_is); (case k => k_is)))
      (case f__law_fields => (refine' Hw.FunAt.mk' ?a ?l ?c ?k; (case a => k_is); (case l => k_is); (case c => k_is); (case k => k_is)))
      (case f__law_ask => (refine' Hw.FunAt.mk' ?a ?l ?c ?k; (case a => k_is); (case l => k_is); (case c => k_is); (case k => k_is)))
      (case f__law_low => (refine' Hw.FunAt.mk' ?a ?l ?c ?k; (case a => k_is); (case l => k_is); (case c => k_is); (case k => k_is)))
      (case f__law_number => (refine' Hw.FunAt.mk' ?a ?l ?c ?k; (case a => k_is); (case l => k_is); (case c => k_is); (case k => k_is)))
      (case f_law => (refine' Hw.FunAtC.mk' ?a ?l ?c ?lc ?ht ?hd ?no; (case a => k_is); (case l => k_is); (case c => k_is); (case lc => k_is); (case ht => rfl); (case hd => kernel_rfl); (case no => kernel_rfl)))
      (case z_isinstance => k_is)
      (case z_int => k_is)
      (case z_bool => k_is)
      (case z_abs => k_is)
      (case z_tuple => k_is)
      (case z_len => k_is)
      (case z_list => k_is)
      (case z_repr => k_is)
      (case z_range => k_is)
      (case k_int => (refine Hw.SubTab.mk (by decide +kernel) ?_; rintro t (rfl | rfl | rfl | rfl | rfl | rfl | rfl) <;> k_is))
      (case k_bool => (refine Hw.SubTab.mk (by decide +kernel) ?_; rintro t (rfl | rfl | rfl | rfl | rfl | rfl | rfl) <;> k_is))
      (case k_tuple => (refine Hw.SubTab.mk (by decide +kernel) ?_; rintro t (rfl | rfl | rfl | rfl | rfl | rfl | rfl) <;> k_is))
    case tab => k_mem
#print axioms PySem.Challenge.cw_heardways_k02_ratios_made_holds
