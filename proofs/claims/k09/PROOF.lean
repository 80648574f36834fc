import PyProof.Rows.All
import Wide.All
import OpenK.AllK
import Wide.FinOn
import HandS.ForMost
import HandS.ForExc
import HandS.Lambda
import HandS.TupAny
import HandS.Wide
import HandS.IsInst
import HandS.FStr
import HandS.Flow
import HandS.EndBits
import HandS.RaiseMore
import PyProof.ReprRoads
import HandS.TupLe
import HandS.Codes
import KE.KExcSuper
import HandS.ExcInit
import HandS.ExcField
import HandS.HotCalls
import KE.KTryMore
import HandS.TryMany
import HandS.EndTab
import KE.KDflt
import HandS.Star
import HandS.ClsMeth
import HandS.Property
import HandS.CallRecv
import HandS.MethStar
import HandS.Text
import OpenK.KOps
import OpenK.KMeth
import PyProof.InstNe
import HandS.Iter
import KE.GoesEnum
import KE.GoesZip
import PyProof.ListStr
import KE.GoesRaise
import HandS.Exc
import PyProof.Rows.Range3
import PySem.Challenge.RW_heardways_k09_lines_told
import KE.DataCmp
import KE.KStateDown
import HandS.Head0
import HandS.Head1
import HandS.Head2
import HandS.HeadHook1
import HandS.HeadHook2
import HandS.HeadHook3
import HandS.HeadHook4
set_option Elab.async false
set_option linter.all false
set_option maxRecDepth 100000
set_option maxHeartbeats 1000000
/-! Hw: a layer of data over the hand layer. Values that never change are data (D); objects that change stand in a store (Mu). -/
namespace Hw
open PySem L2

/-- a value as data -/
inductive D where
  | non
  | bl (b : Bool)
  | int (i : Int)
  | str (s : Str)
  | ty (n : String)
  | ref (a : Addr)
  | tup (xs : List D)
  | lst (xs : List D)
  | rol (xs : List D)
  | obj (C : Addr) (fs : List (Str × D))
  | dic (kvs : List (Key × D))
  /-- a caught exception at a, its dict at dd, its class at C -/
  | exc (a dd C : Addr) (fs : List (Str × D))
  /-- a function at a, made at the heap G, of which Im stays -/
  | fn (a : Addr) (G : Hp) (Im : Addr → Prop)
/-- what an object that changes holds -/
inductive MD where
  | lst (xs : List D)
  | ins (C : Addr) (fs : List (Str × D))
  | dic (kvs : List (Key × D))
  /-- a table of code objects, all of the name q -/
  | tbl (q : Str)
abbrev Mu := Addr → Option MD
def mset (μ : Mu) (a : Addr) (c : MD) : Mu := fun b => if b = a then some c else μ b
theorem mset_same {μ : Mu} {a : Addr} {c : MD} : mset μ a c a = some c := if_pos rfl
theorem mset_ne {μ : Mu} {a b : Addr} {c : MD} (h : b ≠ a) : mset μ a c b = μ b := if_neg h
theorem mset_id {μ : Mu} {a : Addr} {c : MD} (h : μ a = some c) : mset μ a c = μ := by
  funext b; unfold mset; by_cases e : b = a
  · rw [if_pos e, e, h]
  · rw [if_neg e]
theorem mset_mset {μ : Mu} {a : Addr} {c c' : MD} : mset (mset μ a c) a c' = mset μ a c' := by
  funext b; unfold mset; by_cases h : b = a <;> simp [h]

section
variable (K : PySem.W.Frag) (μ : Mu) (H : Hp)
mutual
inductive Den : V → D → Prop
  | non : Den .non .non
  | bl (b : Bool) : Den (.bl b) (.bl b)
  | int (i : Int) : Den (.int i) (.int i)
  | str (s : Str) : Den (.str s) (.str s)
  | ty (n : String) : Den (.ty n) (.ty n)
  | ref (a : Addr) : Den (.ref a) (.ref a)
  | tup {a : Addr} {vs : List V} {ds : List D} : μ a = none → H a = some (.tup vs) → DenAll vs ds → Den (.ref a) (.tup ds)
  | tupK {a : Addr} {vs : List V} {ds : List D} : (∀ H', SqT K H' a vs) → DenAll vs ds → Den (.ref a) (.tup ds)
  | lst {a : Addr} {vs : List V} {ds : List D} : μ a = none → H a = some (.lst vs) → DenAll vs ds → Den (.ref a) (.lst ds)
  | rol {a : Addr} {vs : List V} {ds : List D} : μ a = none → Rd H a (.lst vs) → DenAll vs ds → Den (.ref a) (.rol ds)
  | rolK {a : Addr} {vs : List V} {ds : List D} : (∀ H', SqL K H' a vs) → DenAll vs ds → Den (.ref a) (.rol ds)
  | obj {a C dx : Addr} {vs : List (Str × V)} {fs : List (Str × D)} : μ a = none → H a = some (.ins C dx vs) → DenFs vs fs → Den (.ref a) (.obj C fs)
  | exc {a dd C : Addr} {vs : List (Str × V)} {fs : List (Str × D)} : μ dd = none → H dd = some (.xd vs) → DenFs vs fs → Den (.ref a) (.exc a dd C fs)
  | fn {a : Addr} {G : Hp} {Im : Addr → Prop} : (∀ b o, Im b → G b = some o → (∀ ps, o ≠ .tbl ps) → H b = some o ∧ μ b = none) → Den (.ref a) (.fn a G Im)
  | dic {a : Addr} {vs : List (Key × V)} {kvs : List (Key × D)} : μ a = none → H a = some (.dK vs) → DenKv vs kvs → Den (.ref a) (.dic kvs)
inductive DenAll : List V → List D → Prop
  | nil : DenAll [] []
  | cons {v : V} {vs : List V} {d : D} {ds : List D} : Den v d → DenAll vs ds → DenAll (v :: vs) (d :: ds)
inductive DenFs : List (Str × V) → List (Str × D) → Prop
  | nil : DenFs [] []
  | cons {f : Str} {v : V} {vs : List (Str × V)} {d : D} {ds : List (Str × D)} : Den v d → DenFs vs ds → DenFs ((f, v) :: vs) ((f, d) :: ds)
inductive DenKv : List (Key × V) → List (Key × D) → Prop
  | nil : DenKv [] []
  | cons {f : Key} {v : V} {vs : List (Key × V)} {d : D} {ds : List (Key × D)} : Den v d → DenKv vs ds → DenKv ((f, v) :: vs) ((f, d) :: ds)
end
end

/-- what never changes stays, and stays so; what is not told of before is not an old name's -/
def Stp (μ : Mu) (H : Hp) (μ' : Mu) (H' : Hp) : Prop := ∀ b o, μ b = none → H b = some o → (∀ ps, o ≠ .tbl ps) → H' b = some o ∧ μ' b = none
theorem Stp.refl (μ : Mu) (H : Hp) : Stp μ H μ H := fun _ _ h e _ => ⟨e, h⟩
theorem Stp.trans {μ μ1 μ2 : Mu} {H H1 H2 : Hp} (a : Stp μ H μ1 H1) (b : Stp μ1 H1 μ2 H2) : Stp μ H μ2 H2 := fun c o h e n =>
  let ⟨e1, h1⟩ := a c o h e n
  b c o h1 e1 n
theorem Stp.new {μ : Mu} {H : Hp} {p : Addr} {o : HO} (n : H p = none) : Stp μ H μ (upd H p o) := fun b u h e _ => ⟨by rw [upd_ne (ne_of_none e n)]; exact e, h⟩
theorem Stp.newM {μ : Mu} {H : Hp} {p : Addr} {o : HO} {c : MD} (n : H p = none) : Stp μ H (mset μ p c) (upd H p o) := fun b u h e _ =>
  ⟨by rw [upd_ne (ne_of_none e n)]; exact e, by rw [mset_ne (ne_of_none e n)]; exact h⟩
theorem Stp.write {μ : Mu} {H : Hp} {p : Addr} {o : HO} {c c' : MD} (n : μ p = some c) : Stp μ H (mset μ p c') (upd H p o) := fun b u h e _ => by
  have hb : b ≠ p := fun z => by rw [z, n] at h; cases h
  exact ⟨by rw [upd_ne hb]; exact e, by rw [mset_ne hb]; exact h⟩

section
variable {K : PySem.W.Frag} {μ μ' : Mu} {H H' : Hp}
theorem Rd.stp {a : Addr} {u : HO} (s : Stp μ H μ' H') (h : μ a = none) (r : Rd H a u) (n : ∀ ps, u ≠ .tbl ps := by nofun) : Rd H' a u ∧ μ' a = none := by
  rcases r with r | ⟨o, r⟩
  · exact ⟨.inl (s a _ h r n).1, (s a _ h r n).2⟩
  · exact ⟨.inr ⟨o, (s a _ h r (by nofun)).1⟩, (s a _ h r (by nofun)).2⟩
mutual
theorem Den.mono (s : Stp μ H μ' H') : ∀ {v : V} {d : D}, Den K μ H v d → Den K μ' H' v d
  | _, _, .non => .non
  | _, _, .bl b => .bl b
  | _, _, .int i => .int i
  | _, _, .str x => .str x
  | _, _, .ty n => .ty n
  | _, _, .ref a => .ref a
  | _, _, .tup h r a => .tup (s _ _ h r nofun).2 (s _ _ h r nofun).1 (DenAll.mono s a)
  | _, _, .tupK r a => .tupK r (DenAll.mono s a)
  | _, _, .lst h r a => .lst (s _ _ h r nofun).2 (s _ _ h r nofun).1 (DenAll.mono s a)
  | _, _, .rol h r a => .rol (Rd.stp s h r).2 (Rd.stp s h r).1 (DenAll.mono s a)
  | _, _, .rolK r a => .rolK r (DenAll.mono s a)
  | _, _, .obj h r a => .obj (s _ _ h r nofun).2 (s _ _ h r nofun).1 (DenFs.mono s a)
  | _, _, .exc h r a => .exc (s _ _ h r nofun).2 (s _ _ h r nofun).1 (DenFs.mono s a)
  | _, _, .fn r => .fn fun b o h e n => s b o (r b o h e n).2 (r b o h e n).1 n
  | _, _, .dic h r a => .dic (s _ _ h r nofun).2 (s _ _ h r nofun).1 (DenKv.mono s a)
theorem DenAll.mono (s : Stp μ H μ' H') : ∀ {vs : List V} {ds : List D}, DenAll K μ H vs ds → DenAll K μ' H' vs ds
  | _, _, .nil => .nil
  | _, _, .cons a b => .cons (Den.mono s a) (DenAll.mono s b)
theorem DenFs.mono (s : Stp μ H μ' H') : ∀ {vs : List (Str × V)} {ds : List (Str × D)}, DenFs K μ H vs ds → DenFs K μ' H' vs ds
  | _, _, .nil => .nil
  | _, _, .cons a b => .cons (Den.mono s a) (DenFs.mono s b)
theorem DenKv.mono (s : Stp μ H μ' H') : ∀ {vs : List (Key × V)} {ds : List (Key × D)}, DenKv K μ H vs ds → DenKv K μ' H' vs ds
  | _, _, .nil => .nil
  | _, _, .cons a b => .cons (Den.mono s a) (DenKv.mono s b)
end
theorem DenAll.length : ∀ {vs : List V} {ds : List D}, DenAll K μ H vs ds → vs.length = ds.length
  | _, _, .nil => rfl
  | _, _, .cons _ b => congrArg (· + 1) b.length
theorem DenAll.get : ∀ {vs : List V} {ds : List D} {i : Nat} {v : V}, DenAll K μ H vs ds → vs[i]? = some v → ∃ d, ds[i]? = some d ∧ Den K μ H v d
  | _, _, _, _, .nil, e => by simp at e
  | _, _, 0, _, .cons a _, e => by simp at e; subst e; exact ⟨_, rfl, a⟩
  | _, _, i + 1, _, .cons _ b, e => by
    obtain ⟨d, h1, h2⟩ := DenAll.get (i := i) b (by simpa using e)
    exact ⟨d, by simpa using h1, h2⟩
theorem DenAll.getD : ∀ {vs : List V} {ds : List D} {i : Nat} {d : D}, DenAll K μ H vs ds → ds[i]? = some d → ∃ v, vs[i]? = some v ∧ Den K μ H v d
  | _, _, _, _, .nil, e => by simp at e
  | _, _, 0, _, .cons a _, e => by simp at e; subst e; exact ⟨_, rfl, a⟩
  | _, _, i + 1, _, .cons _ b, e => by
    obtain ⟨v, h1, h2⟩ := DenAll.getD (i := i) b (by simpa using e)
    exact ⟨v, by simpa using h1, h2⟩
theorem DenAll.append : ∀ {vs ws : List V} {ds es : List D}, DenAll K μ H vs ds → DenAll K μ H ws es → DenAll K μ H (vs ++ ws) (ds ++ es)
  | _, _, _, _, .nil, b => b
  | _, _, _, _, .cons a t, b => .cons a (t.append b)
theorem DenAll.take : ∀ {vs : List V} {ds : List D} (n : Nat), DenAll K μ H vs ds → DenAll K μ H (vs.take n) (ds.take n)
  | _, _, 0, _ => by simpa using DenAll.nil
  | _, _, n + 1, .nil => .nil
  | _, _, n + 1, .cons a t => .cons a (t.take n)
theorem DenAll.drop : ∀ {vs : List V} {ds : List D} (n : Nat), DenAll K μ H vs ds → DenAll K μ H (vs.drop n) (ds.drop n)
  | _, _, 0, h => h
  | _, _, n + 1, .nil => .nil
  | _, _, n + 1, .cons a t => t.drop n
theorem DenAll.set : ∀ {vs : List V} {ds : List D} (i : Nat) {v : V} {d : D}, DenAll K μ H vs ds → Den K μ H v d → DenAll K μ H (vs.set i v) (ds.set i d)
  | _, _, _, _, _, .nil, _ => .nil
  | _, _, 0, _, _, .cons _ t, b => .cons b t
  | _, _, i + 1, _, _, .cons a t, b => .cons a (t.set i b)
theorem DenFs.look : ∀ {vs : List (Str × V)} {ds : List (Str × D)} {f : Str} {d : D}, DenFs K μ H vs ds → ds.lookup f = some d → ∃ v, vs.lookup f = some v ∧ Den K μ H v d
  | _, _, _, _, .nil, e => by simp at e
  | _, _, g, _, .cons (f := f) a t, e => by
    rw [List.lookup_cons] at e
    cases hb : g == f with
    | true =>
      rw [hb] at e
      cases e
      exact ⟨_, by rw [List.lookup_cons, hb], a⟩
    | false =>
      rw [hb] at e
      obtain ⟨v, h1, h2⟩ := DenFs.look t e
      exact ⟨v, by rw [List.lookup_cons, hb]; exact h1, h2⟩
theorem DenFs.lookN : ∀ {vs : List (Str × V)} {ds : List (Str × D)} {f : Str}, DenFs K μ H vs ds → ds.lookup f = none → vs.lookup f = none
  | _, _, _, .nil, _ => rfl
  | _, _, g, .cons (f := f) a t, e => by
    rw [List.lookup_cons] at e
    cases hb : g == f with
    | true => rw [hb] at e; cases e
    | false =>
      rw [hb] at e
      rw [List.lookup_cons, hb]
      exact DenFs.lookN t e
theorem Den.inv_non {v : V} (h : Den K μ H v .non) : v = .non := by cases h; rfl
theorem Den.inv_bl {v : V} {b : Bool} (h : Den K μ H v (.bl b)) : v = .bl b := by cases h; rfl
theorem Den.inv_int {v : V} {i : Int} (h : Den K μ H v (.int i)) : v = .int i := by cases h; rfl
theorem Den.inv_str {v : V} {x : Str} (h : Den K μ H v (.str x)) : v = .str x := by cases h; rfl
theorem Den.inv_ref {v : V} {a : Addr} (h : Den K μ H v (.ref a)) : v = .ref a := by cases h; rfl
theorem Den.inv_ty {v : V} {n : String} (h : Den K μ H v (.ty n)) : v = .ty n := by cases h; rfl
theorem Den.inv_tup {v : V} {ds : List D} (h : Den K μ H v (.tup ds)) : ∃ a vs, v = .ref a ∧ SqT K H a vs ∧ DenAll K μ H vs ds := by
  cases h with
  | tup h r a => exact ⟨_, _, rfl, .inl (.inl r), a⟩
  | tupK r a => exact ⟨_, _, rfl, r H, a⟩
theorem Den.inv_lst {v : V} {ds : List D} (h : Den K μ H v (.lst ds)) : ∃ a vs, v = .ref a ∧ μ a = none ∧ H a = some (.lst vs) ∧ DenAll K μ H vs ds := by
  cases h with
  | lst h r a => exact ⟨_, _, rfl, h, r, a⟩
theorem Den.inv_rol {v : V} {ds : List D} (h : Den K μ H v (.rol ds)) : ∃ a vs, v = .ref a ∧ SqL K H a vs ∧ DenAll K μ H vs ds := by
  cases h with
  | rol h r a => exact ⟨_, _, rfl, .inl r, a⟩
  | rolK r a => exact ⟨_, _, rfl, r H, a⟩
theorem Den.inv_obj {v : V} {C : Addr} {fs : List (Str × D)} (h : Den K μ H v (.obj C fs)) : ∃ a dx vs, v = .ref a ∧ μ a = none ∧ H a = some (.ins C dx vs) ∧ DenFs K μ H vs fs := by
  cases h with
  | obj h r a => exact ⟨_, _, _, rfl, h, r, a⟩
theorem Den.inv_exc {v : V} {a dd C : Addr} {fs : List (Str × D)} (h : Den K μ H v (.exc a dd C fs)) : ∃ vs, v = .ref a ∧ μ dd = none ∧ H dd = some (.xd vs) ∧ DenFs K μ H vs fs := by
  cases h with
  | exc h r a => exact ⟨_, rfl, h, r, a⟩
theorem Den.inv_fn {v : V} {a : Addr} {G : Hp} {Im : Addr → Prop} (h : Den K μ H v (.fn a G Im)) : v = .ref a ∧ ∀ b o, Im b → G b = some o → (∀ ps, o ≠ .tbl ps) → H b = some o ∧ μ b = none := by
  cases h with
  | fn r => exact ⟨rfl, r⟩
theorem Den.inv_dic {v : V} {kvs : List (Key × D)} (h : Den K μ H v (.dic kvs)) : ∃ a vs, v = .ref a ∧ μ a = none ∧ H a = some (.dK vs) ∧ DenKv K μ H vs kvs := by
  cases h with
  | dic h r a => exact ⟨_, _, rfl, h, r, a⟩
end

/-- what stands at a is c -/
def HoldAt (K : PySem.W.Frag) (μ : Mu) (H : Hp) (a : Addr) : MD → Prop
  | .lst xs => ∃ vs, H a = some (.lst vs) ∧ DenAll K μ H vs xs
  | .ins C fs => ∃ dx vs, H a = some (.ins C dx vs) ∧ DenFs K μ H vs fs
  | .dic kvs => ∃ vs, H a = some (.dK vs) ∧ DenKv K μ H vs kvs
  | .tbl q => ∃ ps : Array Value, H a = some (.tbl ps) ∧ TriplesOk ps.toList ∧ ∀ (pos : Pos) (cv : Value), codeAmong pos ps.toList = some cv → ∃ c, cv = .ref c ∧ μ c = none ∧ H c = some (LamX.CodeO c q)
def Hold (K : PySem.W.Frag) (μ : Mu) (H : Hp) : Prop := ∀ a c, μ a = some c → HoldAt K μ H a c
section
variable {K : PySem.W.Frag} {μ μ' : Mu} {H H' : Hp}
theorem HoldAt.there {a : Addr} {c : MD} (h : HoldAt K μ H a c) : ∃ o, H a = some o := by
  cases c with
  | lst xs => obtain ⟨vs, e, _⟩ := h; exact ⟨_, e⟩
  | ins C fs => obtain ⟨dx, vs, e, _⟩ := h; exact ⟨_, e⟩
  | dic kvs => obtain ⟨vs, e, _⟩ := h; exact ⟨_, e⟩
  | tbl q => obtain ⟨ps, e, _⟩ := h; exact ⟨_, e⟩
theorem Hold.free {a : Addr} (h : Hold K μ H) (n : H a = none) : μ a = none := by
  cases e : μ a with
  | none => rfl
  | some c =>
    obtain ⟨o, q⟩ := (h a c e).there
    rw [n] at q; cases q
theorem HoldAt.mono {a : Addr} {c : MD} (s : Stp μ H μ' H') (e : H' a = H a) (h : HoldAt K μ H a c) : HoldAt K μ' H' a c := by
  cases c with
  | lst xs => obtain ⟨vs, e1, d⟩ := h; exact ⟨vs, by rw [e]; exact e1, d.mono s⟩
  | ins C fs => obtain ⟨dx, vs, e1, d⟩ := h; exact ⟨dx, vs, by rw [e]; exact e1, d.mono s⟩
  | dic kvs => obtain ⟨vs, e1, d⟩ := h; exact ⟨vs, by rw [e]; exact e1, d.mono s⟩
  | tbl q =>
    obtain ⟨ps, e1, t, d⟩ := h
    refine ⟨ps, by rw [e]; exact e1, t, fun pos cv hc => ?_⟩
    obtain ⟨c, h1, h2, h3⟩ := d pos cv hc
    exact ⟨c, h1, (s c _ h2 h3 LamX.codeO_ne).2, (s c _ h2 h3 LamX.codeO_ne).1⟩
theorem Hold.new {p : Addr} {o : HO} (h : Hold K μ H) (n : H p = none) : Hold K μ (upd H p o) := fun a c e => by
  have hp : a ≠ p := by
    rintro rfl
    rw [h.free n] at e; cases e
  exact (h a c e).mono (Stp.new n) (upd_ne hp)
theorem Hold.newM {p : Addr} {o : HO} {c : MD} (h : Hold K μ H) (n : H p = none) (new : HoldAt K (mset μ p c) (upd H p o) p c) : Hold K (mset μ p c) (upd H p o) := fun a c' e => by
  by_cases hp : a = p
  · subst hp
    rw [mset_same] at e; cases e; exact new
  · rw [mset_ne hp] at e
    exact (h a c' e).mono (Stp.newM n) (upd_ne hp)
theorem Hold.write {p : Addr} {o : HO} {c0 c : MD} (h : Hold K μ H) (m : μ p = some c0) (new : HoldAt K (mset μ p c) (upd H p o) p c) : Hold K (mset μ p c) (upd H p o) := fun a c' e => by
  by_cases hp : a = p
  · subst hp
    rw [mset_same] at e; cases e; exact new
  · rw [mset_ne hp] at e
    exact (h a c' e).mono (Stp.write m) (upd_ne hp)
end

/-- the slots, as data; none: not told -/
abbrev DS := List (Option D)
def DenS (K : PySem.W.Frag) (μ : Mu) (H : Hp) (σ : St) (ds : DS) : Prop := σ.length = ds.length ∧ ∀ (i : Nat) (d : D), ds[i]? = some (some d) → ∃ v, σ[i]? = some (some v) ∧ Den K μ H v d
section
variable {K : PySem.W.Frag} {μ μ' : Mu} {H H' : Hp} {σ : St} {ds : DS}
theorem DenS.mono (s : Stp μ H μ' H') (h : DenS K μ H σ ds) : DenS K μ' H' σ ds := ⟨h.1, fun i d e =>
  let ⟨v, a, b⟩ := h.2 i d e
  ⟨v, a, b.mono s⟩⟩
theorem DenS.set {j : Nat} {v : V} {d : D} (h : DenS K μ H σ ds) (r : Den K μ H v d) : DenS K μ H (σ.set j (some v)) (ds.set j (some d)) := by
  refine ⟨by rw [List.length_set, List.length_set]; exact h.1, fun i e hi => ?_⟩
  by_cases hij : j = i
  · subst hij
    have hl : j < ds.length := by
      have := (List.getElem?_eq_some_iff.mp hi).1
      simpa using this
    rw [List.getElem?_set_self hl] at hi
    cases hi
    exact ⟨v, List.getElem?_set_self (by rw [h.1]; exact hl), r⟩
  · rw [List.getElem?_set_ne hij] at hi
    rw [List.getElem?_set_ne hij]
    exact h.2 i e hi
theorem DenS.wipe1 {j : Nat} (h : DenS K μ H σ ds) : DenS K μ H (σ.set j none) (ds.set j none) := by
  refine ⟨by rw [List.length_set, List.length_set]; exact h.1, fun i e hi => ?_⟩
  by_cases hij : j = i
  · subst hij
    have hl : j < ds.length := by
      have := (List.getElem?_eq_some_iff.mp hi).1
      simpa using this
    rw [List.getElem?_set_self hl] at hi
    cases hi
  · rw [List.getElem?_set_ne hij] at hi
    rw [List.getElem?_set_ne hij]
    exact h.2 i e hi
/-- told less -/
theorem DenS.weak {es : DS} (h : DenS K μ H σ ds) (hl : es.length = ds.length) (w : ∀ (i : Nat) (d : D), es[i]? = some (some d) → ds[i]? = some (some d)) : DenS K μ H σ es :=
  ⟨by rw [hl]; exact h.1, fun i d e => h.2 i d (w i d e)⟩
theorem DenS.start {N : List Str} {vs : List V} {xs : List D} (h : DenAll K μ H vs xs) : DenS K μ H (L2.start N vs) (xs.map some ++ List.replicate (N.length - xs.length) none) := by
  have hl := h.length
  refine ⟨by simp [L2.start, hl], fun i d e => ?_⟩
  by_cases hi : i < xs.length
  · rw [List.getElem?_append_left (by simpa using hi), List.getElem?_map] at e
    cases q : xs[i]? with
    | none => rw [q] at e; cases e
    | some y =>
      rw [q] at e
      cases e
      obtain ⟨v, a, b⟩ := h.getD q
      refine ⟨v, ?_, b⟩
      unfold L2.start
      rw [List.getElem?_append_left (by simpa [hl] using hi), List.getElem?_map, a]
      rfl
  · rw [List.getElem?_append_right (by simpa using Nat.le_of_not_lt hi)] at e
    have := List.mem_of_getElem? e
    rw [List.mem_replicate] at this
    cases this.2
end
end Hw
set_option Elab.async false
set_option linter.all false
set_option maxRecDepth 100000
set_option maxHeartbeats 1000000
namespace Hw
open PySem L2 PyProof.Rows

/-! ### exceptions, as data: the class, the fields -/
abbrev XP := Addr → List (Str × D) → Mu → Prop
def noX : XP := fun _ _ _ => False
/-- what the context wants of an exception -/
def Wx (X : Cx) (cls : Value) (d : Option Addr) (σ : L2.St) (H : Hp) : Prop := ∀ u s', XE X (fun c d' σ' H' => c = cls ∧ d' = d ∧ σ' = σ ∧ H' = H) u s' → X.xe u s'
theorem takes_Wx {X : Cx} : Takes X (Wx X) := fun u s' ⟨a, B, sI, pins, σ, H, cls, d, h1, h2, h3, h4, h5, h6, h7, h8, w⟩ => w u s' ⟨a, B, sI, pins, σ, H, cls, d, h1, h2, h3, h4, h5, h6, h7, h8, rfl, rfl, rfl, rfl⟩
/-- the exceptions of PE may leave, from μ at H on -/
def Exc (X : Cx) (PE : XP) (μ : Mu) (H : Hp) : Prop := ∀ Ca dd H' fs vfs μ' σ, Stp μ H μ' H' → Hold X.K μ' H' → H' dd = some (.xd vfs) → DenFs X.K μ' H' vfs fs → PE Ca fs μ' → Wx X (.ref Ca) (some dd) σ H'
theorem Exc.mono {X : Cx} {PE : XP} {μ μ' : Mu} {H H' : Hp} (x : Exc X PE μ H) (s : Stp μ H μ' H') : Exc X PE μ' H' := fun Ca dd H2 fs vfs μ2 σ s2 => x Ca dd H2 fs vfs μ2 σ (s.trans s2)
theorem Exc.no {X : Cx} {μ : Mu} {H : Hp} : Exc X noX μ H := fun _ _ _ _ _ _ _ _ _ _ _ h => h.elim
/-- the slots, and what may be raised -/
structure Sl (X : Cx) (PE : XP) (μ : Mu) (H : Hp) (σ : L2.St) (ds : DS) : Prop where
  d : DenS X.K μ H σ ds
  x : Exc X PE μ H
section
variable {X : Cx} {PE : XP} {μ μ' : Mu} {H H' : Hp} {σ : L2.St} {ds : DS}
theorem Sl.mono (s : Stp μ H μ' H') (h : Sl X PE μ H σ ds) : Sl X PE μ' H' σ ds := ⟨h.d.mono s, h.x.mono s⟩
theorem Sl.set {j : Nat} {v : V} {d : D} (h : Sl X PE μ H σ ds) (r : Den X.K μ H v d) : Sl X PE μ H (σ.set j (some v)) (ds.set j (some d)) := ⟨h.d.set r, h.x⟩
end

/-! ### judgements -/
abbrev DP := D → Mu → Prop
def tD (X : Cx) (PE : XP) (μ : Mu) (ds : DS) (P : DP) : TE := fun σ H Q => Hold X.K μ H ∧ Sl X PE μ H σ ds ∧ ∀ v H' d μ', Stp μ H μ' H' → Hold X.K μ' H' → Den X.K μ' H' v d → P d μ' → Q v H'
def tDT (X : Cx) (PE : XP) (μ : Mu) (ds : DS) (P : Bool → Mu → Prop) : TT := fun σ H Q => Hold X.K μ H ∧ Sl X PE μ H σ ds ∧ ∀ b H' μ', Stp μ H μ' H' → Hold X.K μ' H' → P b μ' → Q b H'
def tDA (X : Cx) (PE : XP) (μ : Mu) (ds : DS) (P : List D → Mu → Prop) : TA := fun σ H Q => Hold X.K μ H ∧ Sl X PE μ H σ ds ∧ ∀ vs H' xs μ', Stp μ H μ' H' → Hold X.K μ' H' → DenAll X.K μ' H' vs xs → P xs μ' → Q vs H'
/-- e evaluates, at the slots ds and the store μ, to some d and μ' of which P holds, or raises what PE says -/
structure EX (X : Cx) (PE : XP) (μ : Mu) (ds : DS) (e : Expr) (P : DP) : Prop where
  pe : L2.PE X e (tD X PE μ ds P)
structure TX (X : Cx) (PE : XP) (μ : Mu) (ds : DS) (e : Expr) (P : Bool → Mu → Prop) : Prop where
  pt : PT X e (tDT X PE μ ds P)
structure AX (X : Cx) (PE : XP) (μ : Mu) (ds : DS) (es : List Expr) (P : List D → Mu → Prop) : Prop where
  pa : PA X es (tDA X PE μ ds P)

/-! ### the strongest readings -/
def tU (X : Cx) (e : Expr) : TE := fun σ H Q => ∃ t, L2.PE X e t ∧ t σ H Q
def tUT (X : Cx) (e : Expr) : TT := fun σ H Q => ∃ t, PT X e t ∧ t σ H Q
def tUA (X : Cx) (es : List Expr) : TA := fun σ H Q => ∃ t, PA X es t ∧ t σ H Q
section
variable {X : Cx} {PE : XP} {e a b c : Expr} {es : List Expr} {μ : Mu} {ds : DS} {P : DP} {pos : Pos}
theorem pe_U : L2.PE X e (tU X e) := ⟨fun pins s σ H Q I h => by obtain ⟨t, p, h⟩ := h; exact p.run pins s σ H Q I h⟩
theorem pt_U : PT X e (tUT X e) := ⟨fun pins s σ H Q I h => by obtain ⟨t, p, h⟩ := h; exact p.run pins s σ H Q I h⟩
theorem pa_U : PA X es (tUA X es) := ⟨fun po pins s σ H Q I h => by obtain ⟨t, p, h⟩ := h; exact p.run po pins s σ H Q I h⟩
theorem pe_imp {t t' : TE} (p : L2.PE X e t) (h : ∀ σ H Q, t' σ H Q → t σ H Q) : L2.PE X e t' := ⟨fun pins s σ H Q I q => p.run pins s σ H Q I (h σ H Q q)⟩
theorem pt_imp {t t' : TT} (p : PT X e t) (h : ∀ σ H Q, t' σ H Q → t σ H Q) : PT X e t' := ⟨fun pins s σ H Q I q => p.run pins s σ H Q I (h σ H Q q)⟩
theorem pa_imp {t t' : TA} (p : PA X es t) (h : ∀ σ H Q, t' σ H Q → t σ H Q) : PA X es t' := ⟨fun po pins s σ H Q I q => p.run po pins s σ H Q I (h σ H Q q)⟩
/-- the one form of all rules -/
theorem ex_of {t : TE} (p : L2.PE X e t) (h : ∀ σ H Q, Hold X.K μ H → Sl X PE μ H σ ds → (∀ v H' d μ', Stp μ H μ' H' → Hold X.K μ' H' → Den X.K μ' H' v d → P d μ' → Q v H') → t σ H Q) : EX X PE μ ds e P :=
  ⟨pe_imp p fun σ H Q ⟨a, b, c⟩ => h σ H Q a b c⟩
theorem EX.at {σ : L2.St} {H : Hp} {Q : VK} (x : EX X PE μ ds e P) (ho : Hold X.K μ H) (hs : Sl X PE μ H σ ds) (k : ∀ v H' d μ', Stp μ H μ' H' → Hold X.K μ' H' → Sl X PE μ' H' σ ds → Den X.K μ' H' v d → P d μ' → Q v H') : tU X e σ H Q :=
  ⟨_, x.pe, ho, hs, fun v H' d μ' s h n p => k v H' d μ' s h (hs.mono s) n p⟩
theorem TX.at {σ : L2.St} {H : Hp} {Q : Bool → Hp → Prop} {P : Bool → Mu → Prop} (x : TX X PE μ ds e P) (ho : Hold X.K μ H) (hs : Sl X PE μ H σ ds) (k : ∀ b H' μ', Stp μ H μ' H' → Hold X.K μ' H' → Sl X PE μ' H' σ ds → P b μ' → Q b H') : tUT X e σ H Q :=
  ⟨_, x.pt, ho, hs, fun b H' μ' s h p => k b H' μ' s h (hs.mono s) p⟩
theorem AX.at {σ : L2.St} {H : Hp} {Q : List V → Hp → Prop} {P : List D → Mu → Prop} (x : AX X PE μ ds es P) (ho : Hold X.K μ H) (hs : Sl X PE μ H σ ds) (k : ∀ vs H' xs μ', Stp μ H μ' H' → Hold X.K μ' H' → Sl X PE μ' H' σ ds → DenAll X.K μ' H' vs xs → P xs μ' → Q vs H') : tUA X es σ H Q :=
  ⟨_, x.pa, ho, hs, fun vs H' xs μ' s h n p => k vs H' xs μ' s h (hs.mono s) n p⟩
theorem EX.imp {P' : DP} (x : EX X PE μ ds e P) (h : ∀ d μ', P d μ' → P' d μ') : EX X PE μ ds e P' := ⟨pe_imp x.pe fun σ H Q ⟨a, b, c⟩ => ⟨a, b, fun v H' d μ' s h1 n p => c v H' d μ' s h1 n (h d μ' p)⟩⟩
theorem TX.imp {P P' : Bool → Mu → Prop} (x : TX X PE μ ds e P) (h : ∀ d μ', P d μ' → P' d μ') : TX X PE μ ds e P' := ⟨pt_imp x.pt fun σ H Q ⟨a, b, c⟩ => ⟨a, b, fun v H' μ' s h1 p => c v H' μ' s h1 (h v μ' p)⟩⟩

/-! ### names and constants -/
theorem ex_int {i : Int} {j} (h : P (.int i) μ) : EX X PE μ ds (.Constant (.int i) j pos) P := ex_of pe_int fun _ H Q a _ k => k _ H _ μ (Stp.refl _ _) a (.int i) h
theorem ex_bl {i : Bool} {j} (h : P (.bl i) μ) : EX X PE μ ds (.Constant (.bool i) j pos) P := ex_of pe_bl fun _ H Q a _ k => k _ H _ μ (Stp.refl _ _) a (.bl i) h
theorem ex_str {i : Str} {j} (h : P (.str i) μ) : EX X PE μ ds (.Constant (.str i) j pos) P := ex_of pe_str fun _ H Q a _ k => k _ H _ μ (Stp.refl _ _) a (.str i) h
theorem ex_non {j} (h : P .non μ) : EX X PE μ ds (.Constant .none j pos) P := ex_of pe_non fun _ H Q a _ k => k _ H _ μ (Stp.refl _ _) a .non h
theorem ex_nm {i : Nat} {x : Str} {d : D} (hd : ds[i]? = some (some d)) (h : P d μ) (hN : X.N[i]? = some x) (hv : Vis X.env.scope x) (h1 : (x == ("__debug__" : Str)) = false) (h2 : (x == ("__classdict__" : Str)) = false) : EX X PE μ ds (.Name x pos) P :=
  ex_of (pe_var hN hv h1 h2) fun _ H Q a s k =>
    let ⟨v, e, n⟩ := s.d.2 i d hd
    ⟨v, e, k v H d μ (Stp.refl _ _) a n h⟩
/-- a module's own constant -/
theorem ex_gl {x : Str} {v : V} {u : Value} {d : D} (hg : Gl X x) (hm : X.mg x = some u) (r : RelV v u) (hd : ∀ μ H, Den X.K μ H v d) (h : P d μ) (hdb : (x == ("__debug__" : Str)) = false := by decide) : EX X PE μ ds (.Name x pos) P :=
  ex_of (pe_glob hg hm r hdb) fun _ H Q a _ k => k v H d μ (Stp.refl _ _) a (hd _ _) h
theorem ex_blt {x : Str} {v : V} {u : Value} {d : D} (hg : Gl X x) (hm : X.mg x = none) (hv : bootBuiltins x = some u) (r : RelV v u) (hd : ∀ μ H, Den X.K μ H v d) (h : P d μ) (hn : x ≠ "__name__" := by decide) (hdb : (x == ("__debug__" : Str)) = false := by decide) : EX X PE μ ds (.Name x pos) P :=
  ex_of (pe_bltn hg hm hv r hn hdb) fun _ H Q a _ k => k v H d μ (Stp.refl _ _) a (hd _ _) h

/-! ### arguments, displays -/
theorem ax_nil {P : List D → Mu → Prop} (h : P [] μ) : AX X PE μ ds [] P := ⟨pa_imp pa_nil fun σ H Q ⟨a, b, c⟩ => c [] H [] μ (Stp.refl _ _) a .nil h⟩
theorem ax_cons {P : List D → Mu → Prop} (h : EX X PE μ ds e fun d μ1 => AX X PE μ1 ds es fun xs μ2 => P (d :: xs) μ2) (hs : starEach (e :: es) X.env = (false, eval e X.env) :: starEach es X.env := by rfl) : AX X PE μ ds (e :: es) P :=
  ⟨pa_imp (pa_cons pe_U pa_U hs) fun σ H Q ⟨a, b, c⟩ => h.at a b fun v H1 d μ1 s1 h1 b1 n1 p => p.at h1 b1 fun vs H2 xs μ2 s2 h2 b2 n2 p2 => c (v :: vs) H2 (d :: xs) μ2 (s1.trans s2) h2 (.cons (n1.mono s2) n2) p2⟩
theorem ex_tup {x1} (h : AX X PE μ ds es fun xs μ' => xs.length ≤ sizeLine ∧ P (.tup xs) μ') : EX X PE μ ds (.Tuple es x1 pos) P :=
  ex_of (pe_tup pa_U) fun σ H Q a b k => h.at a b fun vs H1 xs μ1 s1 h1 _ n1 ⟨l, p⟩ => ⟨by rw [n1.length]; exact l, fun p0 n0 =>
    k _ _ (.tup xs) μ1 (s1.trans (Stp.new n0)) (h1.new n0) (.tup (h1.free n0) upd_same (n1.mono (Stp.new n0))) p⟩
/-- a list that will not change -/
theorem ex_lst (h : AX X PE μ ds es fun xs μ' => xs.length ≤ sizeLine ∧ P (.lst xs) μ') : EX X PE μ ds (.List es pos) P :=
  ex_of (pe_lst pa_U) fun σ H Q a b k => h.at a b fun vs H1 xs μ1 s1 h1 _ n1 ⟨l, p⟩ => ⟨by rw [n1.length]; exact l, fun p0 n0 =>
    k _ _ (.lst xs) μ1 (s1.trans (Stp.new n0)) (h1.new n0) (.lst (h1.free n0) upd_same (n1.mono (Stp.new n0))) p⟩
/-- a list that will change -/
theorem ex_lstM (h : AX X PE μ ds es fun xs μ' => xs.length ≤ sizeLine ∧ ∀ p, μ' p = none → P (.ref p) (mset μ' p (.lst xs))) : EX X PE μ ds (.List es pos) P :=
  ex_of (pe_lst pa_U) fun σ H Q a b k => h.at a b fun vs H1 xs μ1 s1 h1 _ n1 ⟨l, p⟩ => ⟨by rw [n1.length]; exact l, fun p0 n0 =>
    k _ _ (.ref p0) _ (s1.trans (Stp.newM n0)) (h1.newM (c := .lst xs) n0 ⟨vs, upd_same, n1.mono (Stp.newM n0)⟩) (.ref p0) (p p0 (h1.free n0))⟩

/-! ### operators -/
/-- what a op b gives -/
def binOk : Operator → D → D → (D → Prop) → Prop
  | .Add, .int i, .int j, P => P (.int (i + j))
  | .Sub, .int i, .int j, P => P (.int (i - j))
  | .Mult, .int i, .int j, P => (CMul i j ∨ CMulW i j) ∧ P (.int (i * j))
  | .FloorDiv, .int i, .int j, P => (j ≠ 0 ∧ j.natAbs.log2 < 9000) ∧ P (.int (i.fdiv j))
  | .Mod, .int i, .int j, P => j ≠ 0 ∧ P (.int (i.fmod j))
  | .Pow, .int i, .int j, P => CPow i j ∧ P (.int (i ^ j.toNat))
  | .Add, .str i, .str j, P => i.length + j.length ≤ sizeLine ∧ P (.str (i ++ j))
  | .Add, .tup xs, .tup ys, P => xs.length + ys.length ≤ sizeLine ∧ P (.tup (xs ++ ys))
  | .Add, .lst xs, .lst ys, P => xs.length + ys.length ≤ sizeLine ∧ P (.lst (xs ++ ys))
  | .Mult, .lst xs, .int k, P => (-(2 ^ 63) ≤ k ∧ k < 2 ^ 63 ∧ xs.length * k.toNat ≤ sizeLine) ∧ P (.lst (List.replicate k.toNat xs).flatten)
  | _, _, _, _ => False
/-- a reading of an operation on data -/
def rD2 (K : PySem.W.Frag) (ok : D → D → (D → Prop) → Prop) : R2 := fun x y H Q => ∃ μ dx dy R, Hold K μ H ∧ Den K μ H x dx ∧ Den K μ H y dy ∧ ok dx dy R ∧ ∀ v H' d, Stp μ H μ H' → Hold K μ H' → Den K μ H' v d → R d → Q v H'
theorem DenAll.rep {K : PySem.W.Frag} {H : Hp} {vs : List V} {xs : List D} (h : DenAll K μ H vs xs) : ∀ k, DenAll K μ H (List.replicate k vs).flatten (List.replicate k xs).flatten
  | 0 => .nil
  | k + 1 => by
    rw [List.replicate_succ, List.replicate_succ, List.flatten_cons, List.flatten_cons]
    exact h.append (DenAll.rep h k)
theorem DenAll.nil_iff {K : PySem.W.Frag} {H : Hp} {vs : List V} {xs : List D} (h : DenAll K μ H vs xs) : vs = [] ↔ xs = [] := by
  cases h with
  | nil => simp
  | cons a b => simp
theorem op_fdivZ : OpR X (binaryOp .FloorDiv) (rI (fun i j => j ≠ 0 ∧ j.natAbs.log2 < 9000) fun i j => .int (i.fdiv j)) := opI fun i j _ _ _ _ _ hc q => floordiv_int hc.1 q (.inl (PyProof.noPylong_of_log2 hc.2))
theorem op_mulZ : OpR X (binaryOp .Mult) (rI (fun i j => CMul i j ∨ CMulW i j) fun i j => .int (i * j)) := opI fun i j _ _ _ _ _ hc q => mul_int q (hc.elim CMul.ok CMulW.ok)
theorem op_bin {op : Operator} : OpR X (binaryOp op) (rD2 X.K (binOk op)) := by
  intro pins s σ H x y v u Q I rx ry h
  obtain ⟨μ, dx, dy, R, ho, nx, ny, ok, k⟩ := h
  have k0 : ∀ v d, Den X.K μ H v d → R d → Q v H := fun v d n r => k v H d (Stp.refl _ _) ho n r
  unfold binOk at ok
  split at ok
  · exact op_add pins s σ H x y v u Q I rx ry ⟨_, _, nx.inv_int, ny.inv_int, k0 _ _ (.int _) ok⟩
  · exact op_sub pins s σ H x y v u Q I rx ry ⟨_, _, nx.inv_int, ny.inv_int, k0 _ _ (.int _) ok⟩
  · exact op_mulZ pins s σ H x y v u Q I rx ry ⟨_, _, nx.inv_int, ny.inv_int, ok.1, k0 _ _ (.int _) ok.2⟩
  · exact op_fdivZ pins s σ H x y v u Q I rx ry ⟨_, _, nx.inv_int, ny.inv_int, ok.1, k0 _ _ (.int _) ok.2⟩
  · exact op_modN pins s σ H x y v u Q I rx ry ⟨_, _, nx.inv_int, ny.inv_int, ok.1, k0 _ _ (.int _) ok.2⟩
  · exact op_pow pins s σ H x y v u Q I rx ry ⟨_, _, nx.inv_int, ny.inv_int, ok.1, k0 _ _ (.int _) ok.2⟩
  · exact op_add_str pins s σ H x y v u Q I rx ry ⟨_, _, nx.inv_str, ny.inv_str, ok.1, k0 _ _ (.str _) ok.2⟩
  · obtain ⟨a, vs, e1, s1, d1⟩ := nx.inv_tup
    obtain ⟨b, ws, e2, s2, d2⟩ := ny.inv_tup
    refine op_catA pins s σ H x y v u Q I rx ry ⟨a, b, vs, ws, e1, e2, s1, s2, by rw [d1.length, d2.length]; exact ok.1, fun q => ?_, fun q q2 => ?_, fun q q2 p n => ?_⟩
    · rw [← e2]
      have e := d1.nil_iff.mp q
      subst e
      exact k0 _ _ ny (by simpa using ok.2)
    · rw [← e1]
      have e := d2.nil_iff.mp q2
      subst e
      exact k0 _ _ nx (by simpa using ok.2)
    · exact k _ _ _ (Stp.new n) (ho.new n) (.tup (ho.free n) upd_same ((d1.append d2).mono (Stp.new n))) ok.2
  · obtain ⟨a, vs, e1, _, s1, d1⟩ := nx.inv_lst
    obtain ⟨b, ws, e2, _, s2, d2⟩ := ny.inv_lst
    refine op_cat pins s σ H x y v u Q I rx ry ⟨a, b, vs, ws, e1, e2, s1, s2, by rw [d1.length, d2.length]; exact ok.1, fun p n => ?_⟩
    exact k _ _ _ (Stp.new n) (ho.new n) (.lst (ho.free n) upd_same ((d1.append d2).mono (Stp.new n))) ok.2
  · obtain ⟨a, vs, e1, _, s1, d1⟩ := nx.inv_lst
    refine op_rep pins s σ H x y v u Q I rx ry ⟨a, _, vs, e1, ny.inv_int, s1, ok.1.1, ok.1.2.1, by rw [d1.length]; exact ok.1.2.2, fun p n => ?_⟩
    exact k _ _ _ (Stp.new n) (ho.new n) (.lst (ho.free n) upd_same ((DenAll.rep d1 _).mono (Stp.new n))) ok.2
  · exact ok.elim
theorem ex_bin {op : Operator} (h : EX X PE μ ds a fun x μ1 => EX X PE μ1 ds b fun y μ2 => binOk op x y fun z => P z μ2) : EX X PE μ ds (.BinOp a op b pos) P :=
  ex_of (pe_op op_bin pe_U pe_U) fun σ H Q ho hs k => h.at ho hs fun v H1 x μ1 s1 h1 b1 n1 p => p.at h1 b1 fun u H2 y μ2 s2 h2 b2 n2 q =>
    ⟨μ2, x, y, _, h2, n1.mono s2, n2, q, fun w H3 d s3 h3 n3 r => k w H3 d μ2 ((s1.trans s2).trans s3) h3 n3 r⟩
theorem ex_neg (h : EX X PE μ ds a fun x μ1 => ∃ i, x = .int i ∧ P (.int (-i)) μ1) : EX X PE μ ds (.UnaryOp .USub a pos) P :=
  ex_of (pe_un un_neg pe_U) fun σ H Q ho hs k => h.at ho hs fun v H1 x μ1 s1 h1 b1 n1 ⟨i, e, p⟩ => by
    subst e
    exact ⟨i, n1.inv_int, k _ H1 _ μ1 s1 h1 (.int _) p⟩

/-! ### comparisons -/
/-- flat data, as Python's == tells them apart -/
def flatD : D → Bool
  | .non | .bl _ | .int _ | .str _ => true
  | _ => false
def fv : D → V
  | .bl b => .bl b
  | .int i => .int i
  | .str s => .str s
  | _ => .non
theorem Den.flat {K : PySem.W.Frag} {H : Hp} {v : V} {d : D} (h : Den K μ H v d) (f : flatD d = true) : v = fv d := by
  cases h <;> first | rfl | simp [flatD] at f
theorem flatV_fv (d : D) : flatV (fv d) = true := by cases d <;> rfl
def isNon : D → Bool
  | .non => true
  | _ => false
/-- what a op b gives, as a truth -/
def cmpOk : CmpOp → D → D → (Bool → Prop) → Prop
  | .Lt, .int i, .int j, P => P (decide (i < j))
  | .LtE, .int i, .int j, P => P (decide (i ≤ j))
  | .Gt, .int i, .int j, P => P (decide (j < i))
  | .GtE, .int i, .int j, P => P (decide (j ≤ i))
  | .Eq, x, y, P => scal (fv x) (fv y) = true ∧ flatD x = true ∧ flatD y = true ∧ P (decide (fv x = fv y))
  | .NotEq, x, y, P => scal (fv x) (fv y) = true ∧ flatD x = true ∧ flatD y = true ∧ P (!decide (fv x = fv y))
  | .Is, x, .non, P => P (isNon x)
  | .IsNot, x, .non, P => P (!isNon x)
  | .In, .str s, .str t, P => ∃ c, s = ⟨#[c]⟩ ∧ P (decide (c ∈ t.cps.toList))
  | .NotIn, .str s, .str t, P => ∃ c, s = ⟨#[c]⟩ ∧ P (!decide (c ∈ t.cps.toList))
  | .In, x, .tup ys, P => flatD x = true ∧ ys.all flatD = true ∧ P ((ys.map fv).any fun y => eqV y (fv x))
  | .In, x, .lst ys, P => flatD x = true ∧ ys.all flatD = true ∧ P ((ys.map fv).any fun y => eqV y (fv x))
  | .NotIn, x, .tup ys, P => flatD x = true ∧ ys.all flatD = true ∧ P (!(ys.map fv).any fun y => eqV y (fv x))
  | .NotIn, x, .lst ys, P => flatD x = true ∧ ys.all flatD = true ∧ P (!(ys.map fv).any fun y => eqV y (fv x))
  | _, _, _, _ => False
theorem DenAll.flat {K : PySem.W.Frag} {H : Hp} : ∀ {vs : List V} {xs : List D}, DenAll K μ H vs xs → xs.all flatD = true → vs = xs.map fv
  | _, _, .nil, _ => rfl
  | _, _, .cons a b, f => by
    rw [List.all_cons, Bool.and_eq_true] at f
    rw [List.map_cons, a.flat f.1, b.flat f.2]
theorem all_flatV : ∀ xs : List D, (xs.map fv).all flatV = true
  | [] => rfl
  | x :: xs => by rw [List.map_cons, List.all_cons, flatV_fv, all_flatV xs]; rfl
theorem Den.is_non {K : PySem.W.Frag} {H : Hp} {v : V} {d : D} (h : Den K μ H v d) : decide (v = .non) = isNon d := by
  cases h <;> simp [isNon]
/-- a reading of a comparison on data -/
def rC2 (K : PySem.W.Frag) (ok : D → D → (Bool → Prop) → Prop) : R2 := fun x y H Q => ∃ μ dx dy R, Hold K μ H ∧ Den K μ H x dx ∧ Den K μ H y dy ∧ ok dx dy R ∧ ∀ b, R b → Q (.bl b) H
theorem op_cmp {op : CmpOp} : OpR X (compareOp op) (rC2 X.K (cmpOk op)) := by
  intro pins s σ H x y v u Q I rx ry h
  obtain ⟨μ, dx, dy, R, ho, nx, ny, ok, k⟩ := h
  unfold cmpOk at ok
  split at ok
  · exact op_lt pins s σ H x y v u Q I rx ry ⟨_, _, nx.inv_int, ny.inv_int, k _ ok⟩
  · exact op_le pins s σ H x y v u Q I rx ry ⟨_, _, nx.inv_int, ny.inv_int, k _ ok⟩
  · exact op_gt pins s σ H x y v u Q I rx ry ⟨_, _, nx.inv_int, ny.inv_int, k _ ok⟩
  · exact op_ge pins s σ H x y v u Q I rx ry ⟨_, _, nx.inv_int, ny.inv_int, k _ ok⟩
  · obtain ⟨h1, f1, f2, p⟩ := ok
    exact op_eq pins s σ H x y v u Q I rx ry ⟨by rw [nx.flat f1, ny.flat f2]; exact h1, by rw [nx.flat f1, ny.flat f2]; exact k _ p⟩
  · obtain ⟨h1, f1, f2, p⟩ := ok
    exact op_ne pins s σ H x y v u Q I rx ry ⟨by rw [nx.flat f1, ny.flat f2]; exact h1, by rw [nx.flat f1, ny.flat f2]; exact k _ p⟩
  · exact op_isN pins s σ H x y v u Q I rx ry ⟨ny.inv_non, by rw [nx.is_non]; exact k _ ok⟩
  · exact op_notN pins s σ H x y v u Q I rx ry ⟨ny.inv_non, by rw [nx.is_non]; exact k _ ok⟩
  · obtain ⟨c, e, p⟩ := ok
    subst e
    exact op_in_sign pins s σ H x y v u Q I rx ry ⟨c, _, nx.inv_str, ny.inv_str, k _ p⟩
  · obtain ⟨c, e, p⟩ := ok
    subst e
    exact op_notIn_sign pins s σ H x y v u Q I rx ry ⟨c, _, nx.inv_str, ny.inv_str, k _ p⟩
  · obtain ⟨f1, f2, p⟩ := ok
    obtain ⟨a, vs, e1, s1, d1⟩ := ny.inv_tup
    exact op_in_seq pins s σ H x y v u Q I rx ry ⟨a, vs, e1, .inr s1, by rw [nx.flat f1]; exact flatV_fv _, by rw [d1.flat f2]; exact all_flatV _, by rw [nx.flat f1, d1.flat f2]; exact k _ p⟩
  · obtain ⟨f1, f2, p⟩ := ok
    obtain ⟨a, vs, e1, _, s1, d1⟩ := ny.inv_lst
    exact op_in_seq pins s σ H x y v u Q I rx ry ⟨a, vs, e1, .inl (SqL.of s1), by rw [nx.flat f1]; exact flatV_fv _, by rw [d1.flat f2]; exact all_flatV _, by rw [nx.flat f1, d1.flat f2]; exact k _ p⟩
  · obtain ⟨f1, f2, p⟩ := ok
    obtain ⟨a, vs, e1, s1, d1⟩ := ny.inv_tup
    exact op_notIn_seq pins s σ H x y v u Q I rx ry ⟨a, vs, e1, .inr s1, by rw [nx.flat f1]; exact flatV_fv _, by rw [d1.flat f2]; exact all_flatV _, by rw [nx.flat f1, d1.flat f2]; exact k _ p⟩
  · obtain ⟨f1, f2, p⟩ := ok
    obtain ⟨a, vs, e1, _, s1, d1⟩ := ny.inv_lst
    exact op_notIn_seq pins s σ H x y v u Q I rx ry ⟨a, vs, e1, .inl (SqL.of s1), by rw [nx.flat f1]; exact flatV_fv _, by rw [d1.flat f2]; exact all_flatV _, by rw [nx.flat f1, d1.flat f2]; exact k _ p⟩
  · exact ok.elim
theorem ex_cmp {op : CmpOp} (h : EX X PE μ ds a fun x μ1 => EX X PE μ1 ds b fun y μ2 => cmpOk op x y fun z => P (.bl z) μ2) (hm : behindInMarks op b = false) : EX X PE μ ds (.Compare a [op] [b] pos) P :=
  ex_of (pe_cmpR op_cmp pe_U pe_U hm) fun σ H Q ho hs k => h.at ho hs fun v H1 x μ1 s1 h1 b1 n1 p => p.at h1 b1 fun u H2 y μ2 s2 h2 b2 n2 q =>
    ⟨μ2, x, y, _, h2, n1.mono s2, n2, q, fun w r => k _ H2 _ μ2 (s1.trans s2) h2 (.bl _) r⟩
variable {PT : Bool → Mu → Prop}
theorem tx_of {e : Expr} {t : TT} (p : L2.PT X e t) (h : ∀ σ H Q, Hold X.K μ H → Sl X PE μ H σ ds → (∀ b H' μ', Stp μ H μ' H' → Hold X.K μ' H' → PT b μ' → Q b H') → t σ H Q) : TX X PE μ ds e PT :=
  ⟨pt_imp p fun σ H Q ⟨a, b, c⟩ => h σ H Q a b c⟩
theorem tx_cmp {op : CmpOp} (h : EX X PE μ ds a fun x μ1 => EX X PE μ1 ds b fun y μ2 => cmpOk op x y fun z => PT z μ2) (hm : behindInMarks op b = false) : TX X PE μ ds (.Compare a [op] [b] pos) PT :=
  tx_of (pt_cmpR op_cmp pe_U pe_U hm) fun σ H Q ho hs k => h.at ho hs fun v H1 x μ1 s1 h1 b1 n1 p => p.at h1 b1 fun u H2 y μ2 s2 h2 b2 n2 q =>
    ⟨μ2, x, y, _, h2, n1.mono s2, n2, q, fun w r => ⟨w, rfl, k _ H2 μ2 (s1.trans s2) h2 r⟩⟩
/-- a op b op' c -/
theorem tx_chain {op op' : CmpOp} (h : EX X PE μ ds a fun x μ1 => EX X PE μ1 ds b fun y μ2 => cmpOk op x y fun z => (z = true → EX X PE μ2 ds c fun w μ3 => cmpOk op' y w fun z2 => PT z2 μ3) ∧ (z = false → PT false μ2))
    (hm : lastMarks [op, op'] [b, c] = false := by with_unfolding_all rfl) : TX X PE μ ds (.Compare a [op, op'] [b, c] pos) PT :=
  tx_of (pt_chain op_cmp op_cmp pe_U pe_U pe_U hm) fun σ H Q ho hs k => h.at ho hs fun v H1 x μ1 s1 h1 b1 n1 p => p.at h1 b1 fun u H2 y μ2 s2 h2 b2 n2 q =>
    ⟨μ2, x, y, _, h2, n1.mono s2, n2, q, fun z r => ⟨z, rfl, by
      cases z with
      | true =>
        refine iteT ?_
        exact (r.1 rfl).at h2 b2 fun w H3 dw μ3 s3 h3 b3 n3 p3 => ⟨μ3, y, dw, _, h3, n2.mono s3, n3, p3, fun z2 r2 => ⟨z2, rfl, k _ H3 μ3 ((s1.trans s2).trans s3) h3 r2⟩⟩
      | false =>
        refine iteF ?_
        exact ⟨false, rfl, k _ H2 μ2 (s1.trans s2) h2 (r.2 rfl)⟩⟩⟩
theorem ex_chain {op op' : CmpOp} (h : EX X PE μ ds a fun x μ1 => EX X PE μ1 ds b fun y μ2 => cmpOk op x y fun z => (z = true → EX X PE μ2 ds c fun w μ3 => cmpOk op' y w fun z2 => P (.bl z2) μ3) ∧ (z = false → P (.bl false) μ2))
    (hm : lastMarks [op, op'] [b, c] = false := by with_unfolding_all rfl) : EX X PE μ ds (.Compare a [op, op'] [b, c] pos) P :=
  ex_of (pe_chain op_cmp op_cmp pe_U pe_U pe_U hm) fun σ H Q ho hs k => h.at ho hs fun v H1 x μ1 s1 h1 b1 n1 p => p.at h1 b1 fun u H2 y μ2 s2 h2 b2 n2 q =>
    ⟨μ2, x, y, _, h2, n1.mono s2, n2, q, fun z r => ⟨z, rfl, by
      cases z with
      | true =>
        refine iteT ?_
        exact (r.1 rfl).at h2 b2 fun w H3 dw μ3 s3 h3 b3 n3 p3 => ⟨μ3, y, dw, _, h3, n2.mono s3, n3, p3, fun z2 r2 => k _ H3 _ μ3 ((s1.trans s2).trans s3) h3 (.bl _) r2⟩
      | false =>
        refine iteF ?_
        exact k _ H2 _ μ2 (s1.trans s2) h2 (.bl _) (r.2 rfl)⟩⟩
/-! ### and, or, not, if -/
/-- a test that is an and, an or -/
structure TW (X : Cx) (PE : XP) (μ : Mu) (ds : DS) (e : Expr) (P : Bool → Mu → Prop) : Prop where
  pw : PW X e (tDT X PE μ ds P)
def tUW (X : Cx) (e : Expr) : TT := fun σ H Q => ∃ t, PW X e t ∧ t σ H Q
theorem pw_U : PW X e (tUW X e) := ⟨fun wh pins s σ H Q I h => by obtain ⟨t, p, h⟩ := h; exact p.run wh pins s σ H Q I h⟩
theorem pw_imp {t t' : TT} (p : PW X e t) (h : ∀ σ H Q, t' σ H Q → t σ H Q) : PW X e t' := ⟨fun wh pins s σ H Q I q => p.run wh pins s σ H Q I (h σ H Q q)⟩
theorem TW.at {σ : L2.St} {H : Hp} {Q : Bool → Hp → Prop} (x : TW X PE μ ds e PT) (ho : Hold X.K μ H) (hs : Sl X PE μ H σ ds) (k : ∀ b H' μ', Stp μ H μ' H' → Hold X.K μ' H' → Sl X PE μ' H' σ ds → PT b μ' → Q b H') : tUW X e σ H Q :=
  ⟨_, x.pw, ho, hs, fun b H' μ' s h p => k b H' μ' s h (hs.mono s) p⟩
theorem tx_w (h : TW X PE μ ds e PT) : TX X PE μ ds e PT := ⟨h.pw.pt⟩
theorem tw_and1 (h : TX X PE μ ds a PT) : TW X PE μ ds (.BoolOp .And [a] pos) PT := ⟨pw_imp (pw_and1 pt_U) fun σ H Q ⟨ho, hs, k⟩ => h.at ho hs fun b H1 μ1 s1 h1 _ p => k b H1 μ1 s1 h1 p⟩
theorem tw_or1 (h : TX X PE μ ds a PT) : TW X PE μ ds (.BoolOp .Or [a] pos) PT := ⟨pw_imp (pw_or1 pt_U) fun σ H Q ⟨ho, hs, k⟩ => h.at ho hs fun b H1 μ1 s1 h1 _ p => k b H1 μ1 s1 h1 p⟩
theorem tw_and {l : List Expr} (h : TX X PE μ ds a fun z μ1 => (z = true → TW X PE μ1 ds (.BoolOp .And (b :: l) pos) PT) ∧ (z = false → PT false μ1)) : TW X PE μ ds (.BoolOp .And (a :: b :: l) pos) PT :=
  ⟨pw_imp (pw_and pt_U pw_U) fun σ H Q ⟨ho, hs, k⟩ => h.at ho hs fun z H1 μ1 s1 h1 b1 p => by
    cases z with
    | true => exact iteT ((p.1 rfl).at h1 b1 fun z2 H2 μ2 s2 h2 _ p2 => k z2 H2 μ2 (s1.trans s2) h2 p2)
    | false => exact iteF (k false H1 μ1 s1 h1 (p.2 rfl))⟩
theorem tw_or {l : List Expr} (h : TX X PE μ ds a fun z μ1 => (z = true → PT true μ1) ∧ (z = false → TW X PE μ1 ds (.BoolOp .Or (b :: l) pos) PT)) : TW X PE μ ds (.BoolOp .Or (a :: b :: l) pos) PT :=
  ⟨pw_imp (pw_or pt_U pw_U) fun σ H Q ⟨ho, hs, k⟩ => h.at ho hs fun z H1 μ1 s1 h1 b1 p => by
    cases z with
    | true => exact iteT (k true H1 μ1 s1 h1 (p.1 rfl))
    | false => exact iteF ((p.2 rfl).at h1 b1 fun z2 H2 μ2 s2 h2 _ p2 => k z2 H2 μ2 (s1.trans s2) h2 p2)⟩
theorem tx_not (h : TX X PE μ ds a fun z μ1 => PT (!z) μ1) : TX X PE μ ds (.UnaryOp .Not a pos) PT :=
  tx_of (pt_not pt_U) fun σ H Q ho hs k => h.at ho hs fun z H1 μ1 s1 h1 _ p => k _ H1 μ1 s1 h1 p
/-- .. as values that are bools -/
theorem ex_one {op : BoolOp} (h : EX X PE μ ds a P) : EX X PE μ ds (.BoolOp op [a] pos) P := ex_of (pe_one pe_U) fun σ H Q ho hs k => h.at ho hs fun v H1 d μ1 s1 h1 _ n1 p => k v H1 d μ1 s1 h1 n1 p
theorem ex_and {l : List Expr} (h : EX X PE μ ds a fun x μ1 => ∃ z, x = .bl z ∧ (z = true → EX X PE μ1 ds (.BoolOp .And (b :: l) pos) P) ∧ (z = false → P (.bl false) μ1)) : EX X PE μ ds (.BoolOp .And (a :: b :: l) pos) P :=
  ex_of (pe_and pe_U pe_U) fun σ H Q ho hs k => h.at ho hs fun v H1 x μ1 s1 h1 b1 n1 ⟨z, e, p⟩ => by
    subst e
    refine ⟨z, n1.inv_bl, ?_⟩
    cases z with
    | true => exact iteT ((p.1 rfl).at h1 b1 fun z2 H2 d2 μ2 s2 h2 _ n2 p2 => k z2 H2 d2 μ2 (s1.trans s2) h2 n2 p2)
    | false => exact iteF (k _ H1 _ μ1 s1 h1 (.bl _) (p.2 rfl))
theorem ex_or {l : List Expr} (h : EX X PE μ ds a fun x μ1 => ∃ z, x = .bl z ∧ (z = true → P (.bl true) μ1) ∧ (z = false → EX X PE μ1 ds (.BoolOp .Or (b :: l) pos) P)) : EX X PE μ ds (.BoolOp .Or (a :: b :: l) pos) P :=
  ex_of (pe_or pe_U pe_U) fun σ H Q ho hs k => h.at ho hs fun v H1 x μ1 s1 h1 b1 n1 ⟨z, e, p⟩ => by
    subst e
    refine ⟨z, n1.inv_bl, ?_⟩
    cases z with
    | true => exact iteT (k _ H1 _ μ1 s1 h1 (.bl _) (p.1 rfl))
    | false => exact iteF ((p.2 rfl).at h1 b1 fun z2 H2 d2 μ2 s2 h2 _ n2 p2 => k z2 H2 d2 μ2 (s1.trans s2) h2 n2 p2)
theorem ex_not (h : EX X PE μ ds a fun x μ1 => ∃ z, x = .bl z ∧ P (.bl (!z)) μ1) : EX X PE μ ds (.UnaryOp .Not a pos) P :=
  ex_of (L2.pe_not pe_U) fun σ H Q ho hs k => h.at ho hs fun v H1 x μ1 s1 h1 b1 n1 ⟨z, e, p⟩ => by
    subst e
    exact ⟨z, n1.inv_bl, k _ H1 _ μ1 s1 h1 (.bl _) p⟩
theorem ex_if (h : TX X PE μ ds c fun z μ1 => (z = true → EX X PE μ1 ds a P) ∧ (z = false → EX X PE μ1 ds b P)) : EX X PE μ ds (.IfExp c a b pos) P :=
  ex_of (pe_ifExp pt_U pe_U pe_U) fun σ H Q ho hs k => h.at ho hs fun z H1 μ1 s1 h1 b1 p => by
    cases z with
    | true => exact iteT ((p.1 rfl).at h1 b1 fun z2 H2 d2 μ2 s2 h2 _ n2 p2 => k z2 H2 d2 μ2 (s1.trans s2) h2 n2 p2)
    | false => exact iteF ((p.2 rfl).at h1 b1 fun z2 H2 d2 μ2 s2 h2 _ n2 p2 => k z2 H2 d2 μ2 (s1.trans s2) h2 n2 p2)
/-- truth of data -/
def truD : D → Option Bool
  | .non => some false
  | .bl b => some b
  | .int i => some (i != 0)
  | .lst xs => some !xs.isEmpty
  | .tup xs => some !xs.isEmpty
  | _ => none
theorem DenAll.isEmpty {K : PySem.W.Frag} {H : Hp} {vs : List V} {xs : List D} (h : DenAll K μ H vs xs) : vs.isEmpty = xs.isEmpty := by cases h <;> rfl
theorem tx_val (h : EX X PE μ ds a fun x μ1 => ∃ z, truD x = some z ∧ PT z μ1) (he : ∀ whole, isTrue a X.env whole = (do let v ← whole; standAt a.pos; holding [v] (truthy v))) : TX X PE μ ds a PT :=
  tx_of (pt_truth pe_U he) fun σ H Q ho hs k => h.at ho hs fun v H1 x μ1 s1 h1 b1 n1 ⟨z, e, p⟩ => by
    refine ⟨z, ?_, k z H1 μ1 s1 h1 p⟩
    cases n1 with
    | non => cases e; rfl
    | bl b => cases e; rfl
    | int i => cases e; rfl
    | str s => cases e
    | ty n => cases e
    | ref a => cases e
    | tup q r t => cases e; exact .inr (.inl ⟨_, .inl (.inl r), by rw [t.isEmpty]⟩)
    | tupK r t => cases e; exact .inr (.inl ⟨_, r H1, by rw [t.isEmpty]⟩)
    | lst q r t => cases e; exact .inl ⟨_, SqL.of r, by rw [t.isEmpty]⟩
    | rol q r t => cases e
    | rolK r t => cases e
    | obj q r t => cases e
    | exc q r t => cases e
    | fn r => cases e
    | dic q r t => cases e

/-! ### subscripts -/
/-- what a[i] gives -/
def ixOk : D → D → (D → Prop) → Prop
  | .tup xs, .int i, P => ∃ d, atI xs i = some d ∧ P d
  | .lst xs, .int i, P => ∃ d, atI xs i = some d ∧ P d
  | .rol xs, .int i, P => ∃ d, atI xs i = some d ∧ P d
  | .str s, .int i, P => ∃ c, s.length ≤ sizeLine ∧ atI s.cps.toList i = some c ∧ P (.str ⟨#[c]⟩)
  | _, _, _ => False
theorem DenAll.atI {K : PySem.W.Frag} {H : Hp} {vs : List V} {xs : List D} {i : Int} {d : D} (h : DenAll K μ H vs xs) (e : L2.atI xs i = some d) : ∃ v, L2.atI vs i = some v ∧ Den K μ H v d := by
  unfold L2.atI at e ⊢
  rw [h.length]
  cases q : ixN xs.length i with
  | none => rw [q] at e; cases e
  | some j =>
    rw [q] at e
    exact h.getD e
theorem ix_D : IxR X (rD2 X.K ixOk) := by
  intro value slice pins s σ H x y v u Q I rx ry h hsub
  obtain ⟨μ, dx, dy, R, ho, nx, ny, ok, k⟩ := h
  unfold ixOk at ok
  split at ok
  · obtain ⟨d, e, p⟩ := ok
    obtain ⟨a, vs, e1, s1, d1⟩ := nx.inv_tup
    obtain ⟨w, e2, n2⟩ := d1.atI e
    exact ix_tup value slice pins s σ H x y v u Q I rx ry ⟨a, vs, _, w, e1, ny.inv_int, s1, e2, k w H d (Stp.refl _ _) ho n2 p⟩ hsub
  · obtain ⟨d, e, p⟩ := ok
    obtain ⟨a, vs, e1, _, s1, d1⟩ := nx.inv_lst
    obtain ⟨w, e2, n2⟩ := d1.atI e
    exact ix_list value slice pins s σ H x y v u Q I rx ry ⟨a, vs, _, w, e1, ny.inv_int, SqL.of s1, e2, k w H d (Stp.refl _ _) ho n2 p⟩ hsub
  · obtain ⟨d, e, p⟩ := ok
    obtain ⟨a, vs, e1, s1, d1⟩ := nx.inv_rol
    obtain ⟨w, e2, n2⟩ := d1.atI e
    exact ix_list value slice pins s σ H x y v u Q I rx ry ⟨a, vs, _, w, e1, ny.inv_int, s1, e2, k w H d (Stp.refl _ _) ho n2 p⟩ hsub
  · obtain ⟨c, l, e, p⟩ := ok
    exact ix_str value slice pins s σ H x y v u Q I rx ry ⟨_, _, c, nx.inv_str, ny.inv_int, l, e, k _ H _ (Stp.refl _ _) ho (.str _) p⟩ hsub
  · exact ok.elim
/-- .. of a list that changes, too -/
def ixA (μ : Mu) : D → D → (D → Prop) → Prop
  | .ref p, .int i, P => ∃ xs d, μ p = some (.lst xs) ∧ L2.atI xs i = some d ∧ P d
  | x, y, P => ixOk x y P
theorem ex_ix (h : EX X PE μ ds a fun x μ1 => EX X PE μ1 ds b fun y μ2 => ixA μ2 x y fun z => P z μ2) (hs : PlainIx b := by exact fun _ _ => rfl) : EX X PE μ ds (.Subscript a b pos) P :=
  ex_of (pe_ix (IxR.or ix_list ix_D) pe_U pe_U hs) fun σ H Q ho hs k => h.at ho hs fun v H1 x μ1 s1 h1 b1 n1 p => p.at h1 b1 fun u H2 y μ2 s2 h2 b2 n2 q => by
    unfold ixA at q
    split at q
    · obtain ⟨xs, d, m, e3, q⟩ := q
      obtain ⟨vs, hv, dv⟩ := h2 _ _ m
      obtain ⟨w, e4, n4⟩ := dv.atI e3
      exact .inl ⟨_, vs, _, w, n1.inv_ref, n2.inv_int, SqL.of hv, e4, k w H2 d μ2 (s1.trans s2) h2 n4 q⟩
    · exact .inr ⟨μ2, _, _, _, h2, n1.mono s2, n2, q, fun w H3 d s3 h3 n3 r => k w H3 d μ2 ((s1.trans s2).trans s3) h3 n3 r⟩
end
end Hw
set_option Elab.async false
set_option linter.all false
set_option maxRecDepth 100000
set_option maxHeartbeats 1000000
namespace Hw
open PySem L2 PyProof.Rows

/-! ### statements -/
/-- what is wanted behind a statement -/
structure Po where
  nx : DS → Mu → Prop
  rt : D → Mu → Prop
  bk : DS → Mu → Prop := fun _ _ => False
  ct : DS → Mu → Prop := fun _ _ => False
/-- D keeps what Z wants, from μ at H on -/
structure Meets (X : Cx) (PE : XP) (μ : Mu) (H : Hp) (Z : Po) (D : Ends) : Prop where
  nx : ∀ σ' H' ds' μ', Stp μ H μ' H' → Hold X.K μ' H' → Sl X PE μ' H' σ' ds' → Z.nx ds' μ' → D.nx σ' H'
  rt : ∀ v H' d μ', Stp μ H μ' H' → Hold X.K μ' H' → Den X.K μ' H' v d → Z.rt d μ' → D.rt v H'
  bk : ∀ σ' H' ds' μ', Stp μ H μ' H' → Hold X.K μ' H' → Sl X PE μ' H' σ' ds' → Z.bk ds' μ' → D.bk σ' H'
  ct : ∀ σ' H' ds' μ', Stp μ H μ' H' → Hold X.K μ' H' → Sl X PE μ' H' σ' ds' → Z.ct ds' μ' → D.ct σ' H'
theorem Meets.later {X : Cx} {PE : XP} {μ μ' : Mu} {H H' : Hp} {Z : Po} {D : Ends} (m : Meets X PE μ H Z D) (s : Stp μ H μ' H') : Meets X PE μ' H' Z D :=
  ⟨fun σ1 H1 ds1 μ1 s1 => m.nx σ1 H1 ds1 μ1 (s.trans s1), fun v H1 d μ1 s1 => m.rt v H1 d μ1 (s.trans s1), fun σ1 H1 ds1 μ1 s1 => m.bk σ1 H1 ds1 μ1 (s.trans s1), fun σ1 H1 ds1 μ1 s1 => m.ct σ1 H1 ds1 μ1 (s.trans s1)⟩
def tDS (X : Cx) (PE : XP) (μ : Mu) (ds : DS) (Z : Po) : TS := fun D σ H => Hold X.K μ H ∧ Sl X PE μ H σ ds ∧ Meets X PE μ H Z D
structure SX (X : Cx) (PE : XP) (μ : Mu) (ds : DS) (st : Stmt) (Z : Po) : Prop where
  ps : PS X st (tDS X PE μ ds Z)
structure SSX (X : Cx) (PE : XP) (μ : Mu) (ds : DS) (st : List Stmt) (Z : Po) : Prop where
  pss : PSs X st (tDS X PE μ ds Z)
/-- a target: d is stored -/
structure GX (X : Cx) (PE : XP) (μ : Mu) (ds : DS) (tg : Expr) (d : D) (R : DS → Mu → Prop) : Prop where
  pg : PG X tg (fun v σ H Q => Hold X.K μ H ∧ Sl X PE μ H σ ds ∧ Den X.K μ H v d ∧ ∀ σ' H' ds' μ', Stp μ H μ' H' → Hold X.K μ' H' → Sl X PE μ' H' σ' ds' → R ds' μ' → Q σ' H')
def tUS (X : Cx) (st : List Stmt) : TS := fun D σ H => ∃ t, PSs X st t ∧ t D σ H
def tUS1 (X : Cx) (st : Stmt) : TS := fun D σ H => ∃ t, PS X st t ∧ t D σ H
def tUG (X : Cx) (tg : Expr) : TG := fun v σ H Q => ∃ t, PG X tg t ∧ t v σ H Q
section
variable {X : Cx} {PE : XP} {e a b c : Expr} {es : List Expr} {μ : Mu} {ds : DS} {P : DP} {pos : Pos} {Z : Po} {st : Stmt} {rest : List Stmt} {tg : Expr} {d : D} {R : DS → Mu → Prop}
theorem pss_U {l : List Stmt} : PSs X l (tUS X l) := ⟨fun pins s σ H D I h => by obtain ⟨t, p, h⟩ := h; exact p.run pins s σ H D I h⟩
theorem ps_U : PS X st (tUS1 X st) := ⟨fun pins s σ H D I h => by obtain ⟨t, p, h⟩ := h; exact p.run pins s σ H D I h⟩
theorem pg_U : PG X tg (tUG X tg) := ⟨fun pins s σ H v u Q I r h => by obtain ⟨t, p, h⟩ := h; exact p.run pins s σ H v u Q I r h⟩
theorem ps_imp {t t' : TS} (p : PS X st t) (h : ∀ D σ H, t' D σ H → t D σ H) : PS X st t' := ⟨fun pins s σ H D I q => p.run pins s σ H D I (h D σ H q)⟩
theorem pss_imp {l : List Stmt} {t t' : TS} (p : PSs X l t) (h : ∀ D σ H, t' D σ H → t D σ H) : PSs X l t' := ⟨fun pins s σ H D I q => p.run pins s σ H D I (h D σ H q)⟩
theorem sx_of {t : TS} (p : PS X st t) (h : ∀ D σ H, Hold X.K μ H → Sl X PE μ H σ ds → Meets X PE μ H Z D → t D σ H) : SX X PE μ ds st Z := ⟨ps_imp p fun D σ H ⟨x, y, z⟩ => h D σ H x y z⟩
theorem SX.at {D : Ends} {σ : L2.St} {H : Hp} (x : SX X PE μ ds st Z) (ho : Hold X.K μ H) (hs : Sl X PE μ H σ ds) (m : Meets X PE μ H Z D) : tUS1 X st D σ H := ⟨_, x.ps, ho, hs, m⟩
theorem SSX.at {l : List Stmt} {D : Ends} {σ : L2.St} {H : Hp} (x : SSX X PE μ ds l Z) (ho : Hold X.K μ H) (hs : Sl X PE μ H σ ds) (m : Meets X PE μ H Z D) : tUS X l D σ H := ⟨_, x.pss, ho, hs, m⟩
theorem SSX.imp {l : List Stmt} {Z' : Po} (x : SSX X PE μ ds l Z) (hn : ∀ s m, Z.nx s m → Z'.nx s m) (hr : ∀ s m, Z.rt s m → Z'.rt s m) (hb : ∀ s m, Z.bk s m → Z'.bk s m) (hc : ∀ s m, Z.ct s m → Z'.ct s m) : SSX X PE μ ds l Z' :=
  ⟨pss_imp x.pss fun D σ H ⟨ho, hs, m⟩ => ⟨ho, hs, fun σ1 H1 d1 μ1 s1 h1 n1 p => m.nx σ1 H1 d1 μ1 s1 h1 n1 (hn _ _ p), fun v H1 d1 μ1 s1 h1 n1 p => m.rt v H1 d1 μ1 s1 h1 n1 (hr _ _ p), fun σ1 H1 d1 μ1 s1 h1 n1 p => m.bk σ1 H1 d1 μ1 s1 h1 n1 (hb _ _ p), fun σ1 H1 d1 μ1 s1 h1 n1 p => m.ct σ1 H1 d1 μ1 s1 h1 n1 (hc _ _ p)⟩⟩
theorem GX.at {v : V} {Q : L2.St → Hp → Prop} {σ : L2.St} {H : Hp} (x : GX X PE μ ds tg d R) (ho : Hold X.K μ H) (hs : Sl X PE μ H σ ds) (n : Den X.K μ H v d)
    (k : ∀ σ' H' ds' μ', Stp μ H μ' H' → Hold X.K μ' H' → Sl X PE μ' H' σ' ds' → R ds' μ' → Q σ' H') : tUG X tg v σ H Q := ⟨_, x.pg, ho, hs, n, k⟩
theorem sx_nil (h : Z.nx ds μ) : SSX X PE μ ds [] Z := ⟨pss_imp pss_nil fun D σ H ⟨ho, hs, m⟩ => m.nx σ H ds μ (Stp.refl _ _) ho hs h⟩
theorem sx_cons (h : SX X PE μ ds st { Z with nx := fun ds1 μ1 => SSX X PE μ1 ds1 rest Z }) : SSX X PE μ ds (st :: rest) Z :=
  ⟨pss_imp (pss_cons ps_U pss_U) fun D σ H ⟨ho, hs, m⟩ => h.at ho hs ⟨fun σ1 H1 ds1 μ1 s1 h1 n1 p => p.at h1 n1 (m.later s1), m.rt, m.bk, m.ct⟩⟩
theorem SX.imp {Z' : Po} (x : SX X PE μ ds st Z) (hn : ∀ s m, Z.nx s m → Z'.nx s m) (hr : ∀ s m, Z.rt s m → Z'.rt s m) (hb : ∀ s m, Z.bk s m → Z'.bk s m) (hc : ∀ s m, Z.ct s m → Z'.ct s m) : SX X PE μ ds st Z' :=
  ⟨ps_imp x.ps fun D σ H ⟨ho, hs, m⟩ => ⟨ho, hs, fun σ1 H1 d1 μ1 s1 h1 n1 p => m.nx σ1 H1 d1 μ1 s1 h1 n1 (hn _ _ p), fun v H1 d1 μ1 s1 h1 n1 p => m.rt v H1 d1 μ1 s1 h1 n1 (hr _ _ p), fun σ1 H1 d1 μ1 s1 h1 n1 p => m.bk σ1 H1 d1 μ1 s1 h1 n1 (hb _ _ p), fun σ1 H1 d1 μ1 s1 h1 n1 p => m.ct σ1 H1 d1 μ1 s1 h1 n1 (hc _ _ p)⟩⟩
/-- a word between a statement and the rest -/
theorem sx_cut (Mid : DS → Mu → Prop) (h1 : SX X PE μ ds st { Z with nx := Mid }) (h2 : ∀ s m, Mid s m → SSX X PE m s rest Z) : SSX X PE μ ds (st :: rest) Z :=
  sx_cons (h1.imp h2 (fun _ _ q => q) (fun _ _ q => q) fun _ _ q => q)
/-- the rest behind a letter -/
theorem sx_next (h : ∀ Z1 : Po, (∀ s m, SSX X PE m s rest Z → Z1.nx s m) → (∀ d m, Z.rt d m → Z1.rt d m) → (∀ s m, Z.bk s m → Z1.bk s m) → (∀ s m, Z.ct s m → Z1.ct s m) → SX X PE μ ds st Z1) : SSX X PE μ ds (st :: rest) Z :=
  sx_cons (h { Z with nx := fun ds1 μ1 => SSX X PE μ1 ds1 rest Z } (fun _ _ q => q) (fun _ _ q => q) (fun _ _ q => q) fun _ _ q => q)
theorem sx_one (h : SX X PE μ ds st Z) : SSX X PE μ ds [st] Z := ⟨pss_imp (pss_one ps_U) fun D σ H ⟨ho, hs, m⟩ => h.at ho hs m⟩
theorem sx_doc {x j} {p2 : Pos} (h : Z.nx ds μ) : SX X PE μ ds (.Expr (.Constant (.str x) j p2) pos) Z := sx_of ps_doc fun D σ H ho hs m => m.nx σ H ds μ (Stp.refl _ _) ho hs h
theorem sx_pass (h : Z.nx ds μ) : SX X PE μ ds (.Pass pos) Z := sx_of ps_pass fun D σ H ho hs m => m.nx σ H ds μ (Stp.refl _ _) ho hs h
theorem sx_brk (h : Z.bk ds μ) : SX X PE μ ds (.Break pos) Z := sx_of ps_break fun D σ H ho hs m => m.bk σ H ds μ (Stp.refl _ _) ho hs h
theorem sx_cnt (h : Z.ct ds μ) : SX X PE μ ds (.Continue pos) Z := sx_of ps_continue fun D σ H ho hs m => m.ct σ H ds μ (Stp.refl _ _) ho hs h
theorem sx_expr (h : EX X PE μ ds e fun _ μ' => Z.nx ds μ') (hs : swapsWith e none pos.line X.env = pure false := by rfl) : SX X PE μ ds (.Expr e pos) Z :=
  sx_of (ps_expr pe_U hs) fun D σ H ho hs m => h.at ho hs fun v H1 d μ1 s1 h1 b1 n1 p => m.nx σ H1 ds μ1 s1 h1 b1 p
theorem sx_ret (h : EX X PE μ ds e Z.rt) : SX X PE μ ds (.Return (some e) pos) Z := sx_of (ps_ret pe_U) fun D σ H ho hs m => h.at ho hs fun v H1 d μ1 s1 h1 b1 n1 p => m.rt v H1 d μ1 s1 h1 n1 p
theorem sx_retN (h : Z.rt .non μ) : SX X PE μ ds (.Return none pos) Z := sx_of ps_retN fun D σ H ho hs m => m.rt _ H _ μ (Stp.refl _ _) ho .non h
theorem sx_if {l1 l2 : List Stmt} (h : TX X PE μ ds c fun z μ1 => (z = true → SSX X PE μ1 ds l1 Z) ∧ (z = false → SSX X PE μ1 ds l2 Z)) : SX X PE μ ds (.If c l1 l2 pos) Z :=
  sx_of (ps_if pt_U pss_U pss_U) fun D σ H ho hs m => h.at ho hs fun z H1 μ1 s1 h1 b1 p => by
    cases z with
    | true => exact iteT ((p.1 rfl).at h1 b1 (m.later s1))
    | false => exact iteF ((p.2 rfl).at h1 b1 (m.later s1))
/-- name = e -/
theorem sx_set (i : Nat) {x : Str} {px : Pos} (h : EX X PE μ ds e fun d μ' => Z.nx (ds.set i (some d)) μ') (hN : X.N.Nodup) (hi : X.N[i]? = some x) (hx : Loc X.env.scope x) (hs : swapsWith e (some (.Name x px)) pos.line X.env = pure false := by rfl)
    (hf : X.fn x = true ∨ X.env.scope.names.lookup x = some .local := by first | exact .inl rfl | exact .inr rfl | assumption) : SX X PE μ ds (.Assign [.Name x px] e pos) Z :=
  sx_of (ps_set hN hi hx pe_U hs hf) fun D σ H ho hs m => h.at ho hs fun v H1 d μ1 s1 h1 b1 n1 p => m.nx _ H1 _ μ1 s1 h1 (b1.set n1) p
theorem gx_nm (i : Nat) {x : Str} (h : R (ds.set i (some d)) μ) (hN : X.N.Nodup) (hi : X.N[i]? = some x) (hx : Loc X.env.scope x) (hf : X.fn x = true ∨ X.env.scope.names.lookup x = some .local := by first | exact .inl rfl | exact .inr rfl | assumption) : GX X PE μ ds (.Name x pos) d R :=
  ⟨⟨fun pins s σ H v u Q I r ⟨ho, hs, n, k⟩ => (pg_name hN hi hx hf).run pins s σ H v u Q I r (k _ H _ μ (Stp.refl _ _) ho (hs.set n) h)⟩⟩
/-- several targets -/
structure GSX (X : Cx) (PE : XP) (μ : Mu) (ds : DS) (ts : List Expr) (xs : List D) (R : DS → Mu → Prop) : Prop where
  pg : PGs X ts (fun vs σ H Q => Hold X.K μ H ∧ Sl X PE μ H σ ds ∧ DenAll X.K μ H vs xs ∧ ∀ σ' H' ds' μ', Stp μ H μ' H' → Hold X.K μ' H' → Sl X PE μ' H' σ' ds' → R ds' μ' → Q σ' H')
theorem gs_nil (h : R ds μ) : GSX X PE μ ds [] [] R := ⟨⟨fun pins s σ H vs us Q I r ⟨ho, hs, n, k⟩ => by
    cases n
    exact pgs_nil.run pins s σ H [] us Q I r ⟨rfl, k σ H ds μ (Stp.refl _ _) ho hs h⟩⟩⟩
def tUGs (X : Cx) (ts : List Expr) : TGs := fun vs σ H Q => ∃ t, PGs X ts t ∧ t vs σ H Q
theorem pgs_U {ts : List Expr} : PGs X ts (tUGs X ts) := ⟨fun pins s σ H v u Q I r h => by obtain ⟨t, p, h⟩ := h; exact p.run pins s σ H v u Q I r h⟩
theorem gs_cons {ts : List Expr} {xs : List D} (h : GX X PE μ ds tg d fun ds1 μ1 => GSX X PE μ1 ds1 ts xs R) (hs : (assignEach (tg :: ts) X.env).map (·.2) = assign tg X.env :: (assignEach ts X.env).map (·.2) := by rfl) : GSX X PE μ ds (tg :: ts) (d :: xs) R :=
  ⟨⟨fun pins s σ H vs us Q I r ⟨ho, hs', n, k⟩ => by
    cases n with
    | cons n1 n2 => exact (pgs_cons pg_U pgs_U hs).run pins s σ H _ us Q I r ⟨_, _, rfl, h.at ho hs' n1 fun σ1 H1 ds1 μ1 s1 h1 b1 p => ⟨_, p.pg, h1, b1, n2.mono s1, fun σ2 H2 ds2 μ2 s2 h2 b2 p2 => k σ2 H2 ds2 μ2 (s1.trans s2) h2 b2 p2⟩⟩⟩⟩
theorem gx_tup {ts : List Expr} {kk : Nat} {xs : List D} (h : GSX X PE μ ds ts xs R) (hc : X.calm = true) (hl : xs.length = ts.length) (hn : (assignEach ts X.env).length = ts.length := by rfl) (hst : (assignEach ts X.env).findIdx? (·.1) = none := by rfl) : GX X PE μ ds (.Tuple ts kk pos) (.tup xs) R :=
  ⟨⟨fun pins s σ H v u Q I r ⟨ho, hs, n, k⟩ => by
    obtain ⟨a, vs, e, sq, n2⟩ := n.inv_tup
    exact (pg_tup hc pgs_U hn hst).run pins s σ H v u Q I r ⟨a, vs, e, sq, by rw [n2.length]; exact hl, _, h.pg, ho, hs, n2, k⟩⟩⟩
/-- target = e -/
theorem sx_asg (h : EX X PE μ ds e fun d μ1 => GX X PE μ1 ds tg d Z.nx) (hs : swapsWithSole [tg] e pos.line X.env = pure false := by rfl) (hw : swappedStores [tg] e X.env = pure none := by rfl)
    (h1 : (assignEach [tg] X.env).map (·.2) = [assign tg X.env] := by rfl) : SX X PE μ ds (.Assign [tg] e pos) Z :=
  sx_of (ps_asg pe_U pg_U hs hw h1) fun D σ H ho hs m => h.at ho hs fun v H1 d μ1 s1 h1 b1 n1 p => p.at h1 b1 n1 fun σ2 H2 ds2 μ2 s2 h2 b2 p2 => m.nx σ2 H2 ds2 μ2 (s1.trans s2) h2 b2 p2
/-- a, b = x, y -/
theorem sx_par (i j : Nat) {x y : Str} {px py pt : Pos} {kt k2 pt2} (h : AX X PE μ ds [a, b] fun xs μ' => ∃ v w, xs = [v, w] ∧ Z.nx ((ds.set i (some v)).set j (some w)) μ') (hc : X.calm = true) (hN : X.N.Nodup) (hi : X.N[i]? = some x) (hj : X.N[j]? = some y) (hij : i ≠ j)
    (hx : X.env.scope.names.lookup x = some .local) (hy : X.env.scope.names.lookup y = some .local)
    (hw : swappedStores [.Tuple [.Name x px, .Name y py] kt pt] (.Tuple [a, b] k2 pt2) X.env = pure (some [x, y])) (hs : swapsWithSole [.Tuple [.Name x px, .Name y py] kt pt] (.Tuple [a, b] k2 pt2) pos.line X.env = pure false := by rfl) :
    SX X PE μ ds (.Assign [.Tuple [.Name x px, .Name y py] kt pt] (.Tuple [a, b] k2 pt2) pos) Z :=
  sx_of (ps_par hc hN hi hj hij hx hy pa_U hw hs) fun D σ H ho hs m => h.at ho hs fun vs H1 xs μ1 s1 h1 b1 n1 ⟨v, w, e, p⟩ => by
    subst e
    cases n1 with
    | cons r1 n1 =>
      cases n1 with
      | cons r2 n1 =>
        cases n1
        exact ⟨_, _, rfl, m.nx _ H1 _ μ1 s1 h1 ((b1.set r1).set r2) p⟩
end

/-! ### what is walked -/
/-- J goes through the data xs, from μ at H on -/
def ItD (K : PySem.W.Frag) (J : It) (μ : Mu) (H : Hp) (xs : List D) : Prop := ∀ i H1 μ1, Stp μ H μ1 H1 → Hold K μ1 H1 → (xs.length ≤ i → J.stop i H1) ∧
  ∀ x, xs[i]? = some x → J.go i H1 ∧ ∀ v H2, J.yld i H1 v H2 → Stp μ1 H1 μ1 H2 ∧ Hold K μ1 H2 ∧ Den K μ1 H2 v x
structure IX (X : Cx) (PE : XP) (μ : Mu) (ds : DS) (tg iter : Expr) (P : List D → Mu → Prop) : Prop where
  pi : PI X tg iter (fun σ H R => Hold X.K μ H ∧ Sl X PE μ H σ ds ∧ ∀ J H' xs μ', Stp μ H μ' H' → Hold X.K μ' H' → ItD X.K J μ' H' xs → P xs μ' → R J H')
def tUI (X : Cx) (tg iter : Expr) : TI := fun σ H R => ∃ t, PI X tg iter t ∧ t σ H R
section
variable {X : Cx} {PE : XP} {e a b c : Expr} {es : List Expr} {μ : Mu} {ds : DS} {P : DP} {pos : Pos} {Z : Po} {st : Stmt} {rest : List Stmt} {tg iter : Expr} {d : D} {R : DS → Mu → Prop}
theorem pi_U : PI X tg iter (tUI X tg iter) := ⟨fun pins s σ H R I h => by obtain ⟨t, p, h⟩ := h; exact p.run pins s σ H R I h⟩
theorem IX.at {P : List D → Mu → Prop} {σ : L2.St} {H : Hp} {Q : It → Hp → Prop} (x : IX X PE μ ds tg iter P) (ho : Hold X.K μ H) (hs : Sl X PE μ H σ ds) (k : ∀ J H' xs μ', Stp μ H μ' H' → Hold X.K μ' H' → Sl X PE μ' H' σ ds → ItD X.K J μ' H' xs → P xs μ' → Q J H') : tUI X tg iter σ H Q :=
  ⟨_, x.pi, ho, hs, fun J H' xs μ' s h i p => k J H' xs μ' s h (hs.mono s) i p⟩
theorem ix_of {t : TI} {P : List D → Mu → Prop} (p : PI X tg iter t) (h : ∀ σ H R, Hold X.K μ H → Sl X PE μ H σ ds → (∀ J H' xs μ', Stp μ H μ' H' → Hold X.K μ' H' → ItD X.K J μ' H' xs → P xs μ' → R J H') → t σ H R) : IX X PE μ ds tg iter P :=
  ⟨⟨fun pins s σ H R I ⟨x, y, z⟩ => p.run pins s σ H R I (h σ H R x y z)⟩⟩
theorem itd_list {K : PySem.W.Frag} {H : Hp} {p : Addr} {vs : List V} {xs : List D} (h0 : ∀ H1 μ1, Stp μ H μ1 H1 → SqL K H1 p vs) (n : DenAll K μ H vs xs) : ItD K (Itl K p) μ H xs := fun i H1 μ1 s h => by
  have hl := n.length
  refine ⟨fun q => ⟨vs, h0 H1 μ1 s, by rw [hl]; exact q⟩, fun x hx => ?_⟩
  obtain ⟨v, hv, nv⟩ := n.getD hx
  refine ⟨⟨vs, v, h0 H1 μ1 s, hv⟩, fun w H2 ⟨e, q⟩ => ?_⟩
  subst e
  have e := q vs (h0 H2 μ1 s)
  rw [hv] at e
  cases e
  exact ⟨Stp.refl _ _, h, nv.mono s⟩
theorem itd_tup {K : PySem.W.Frag} {H : Hp} {p : Addr} {vs : List V} {xs : List D} (h0 : ∀ H1 μ1, Stp μ H μ1 H1 → SqT K H1 p vs) (n : DenAll K μ H vs xs) : ItD K (Itt K p) μ H xs := fun i H1 μ1 s h => by
  have hl := n.length
  refine ⟨fun q => ⟨vs, h0 H1 μ1 s, by rw [hl]; exact q⟩, fun x hx => ?_⟩
  obtain ⟨v, hv, nv⟩ := n.getD hx
  refine ⟨⟨vs, v, h0 H1 μ1 s, hv⟩, fun w H2 ⟨e, q⟩ => ?_⟩
  subst e
  have e := q vs (h0 H2 μ1 s)
  rw [hv] at e
  cases e
  exact ⟨Stp.refl _ _, h, nv.mono s⟩
theorem ix_list {P : List D → Mu → Prop} (h : EX X PE μ ds iter fun d μ1 => ∃ xs, (d = .lst xs ∨ d = .rol xs) ∧ P xs μ1) : IX X PE μ ds tg iter P :=
  ix_of (pi_list pe_U) fun σ H R ho hs k => h.at ho hs fun v H1 d μ1 s1 h1 b1 n1 ⟨xs, e, p⟩ => by
    rcases e with e | e <;> subst e
    · cases n1 with
      | lst q r t => exact ⟨_, rfl, ⟨_, SqL.of r⟩, k _ H1 xs μ1 s1 h1 (itd_list (fun H2 μ2 s2 => SqL.of (s2 _ _ q r nofun).1) t) p⟩
    · cases n1 with
      | rol q r t => exact ⟨_, rfl, ⟨_, .inl r⟩, k _ H1 xs μ1 s1 h1 (itd_list (fun H2 μ2 s2 => .inl (Rd.stp s2 q r).1) t) p⟩
      | rolK r t => exact ⟨_, rfl, ⟨_, r H1⟩, k _ H1 xs μ1 s1 h1 (itd_list (fun H2 μ2 s2 => r H2) t) p⟩
theorem ix_tup {P : List D → Mu → Prop} (h : EX X PE μ ds iter fun d μ1 => ∃ xs, d = .tup xs ∧ P xs μ1) : IX X PE μ ds tg iter P :=
  ix_of (pi_tup pe_U) fun σ H R ho hs k => h.at ho hs fun v H1 d μ1 s1 h1 b1 n1 ⟨xs, e, p⟩ => by
    subst e
    cases n1 with
    | tup q r t => exact ⟨_, rfl, ⟨_, .inl (.inl r)⟩, k _ H1 xs μ1 s1 h1 (itd_tup (fun H2 μ2 s2 => .inl (.inl (s2 _ _ q r nofun).1)) t) p⟩
    | tupK r t => exact ⟨_, rfl, ⟨_, r H1⟩, k _ H1 xs μ1 s1 h1 (itd_tup (fun H2 μ2 s2 => r H2) t) p⟩
/-- lo, lo + 1, .., n of them -/
def rngD (lo : Int) (n : Nat) : List D := (List.range n).map fun (i : Nat) => D.int (lo + (i : Int))
theorem itd_range {K : PySem.W.Frag} {H : Hp} (lo : Int) (n : Nat) : ItD K (Itr lo n) μ H (rngD lo n) := fun i H1 μ1 s h => by
  refine ⟨fun q => (show n ≤ i by simpa [rngD] using q), fun x hx => ?_⟩
  have hi : i < n := by
    have := (List.getElem?_eq_some_iff.mp hx).1
    simpa [rngD] using this
  refine ⟨hi, fun w H2 ⟨e, q⟩ => ?_⟩
  subst e q
  have : x = D.int (lo + (i : Int)) := by
    simp [rngD, List.getElem?_map, List.getElem?_range hi] at hx
    exact hx.symm
  subst this
  exact ⟨Stp.refl _ _, h, .int _⟩
theorem ix_range1 {p : Pos} {P : List D → Mu → Prop} (h : EX X PE μ ds a fun d μ1 => ∃ j, d = .int j ∧ -(2 ^ 62) ≤ j ∧ j < 2 ^ 62 ∧ P (rngD 0 j.toNat) μ1) (hg : Gl X "range") (hm : X.mg "range" = none) (hs : starEach [a] X.env = [(false, eval a X.env)] := by rfl) : IX X PE μ ds tg (.Call (.Name "range" p) [a] [] pos) P :=
  ix_of (pi_range1 hg hm (pa_cons pe_U pa_nil hs) hs) fun σ H R ho hs k => h.at ho hs fun v H1 d μ1 s1 h1 b1 n1 ⟨j, e, p1, p2, p⟩ => by
    subst e
    rw [n1.inv_int]
    exact ⟨j, rfl, p1, p2, k _ H1 _ μ1 s1 h1 (itd_range _ _) p⟩
theorem ix_range2 {p : Pos} {P : List D → Mu → Prop} (h : EX X PE μ ds a fun d μ1 => EX X PE μ1 ds b fun d2 μ2 => ∃ i j, d = .int i ∧ d2 = .int j ∧ (-(2 ^ 62) ≤ i ∧ i < 2 ^ 62 ∧ -(2 ^ 62) ≤ j ∧ j < 2 ^ 62) ∧ P (rngD i (j - i).toNat) μ2) (hg : Gl X "range") (hm : X.mg "range" = none)
    (hs : starEach [a, b] X.env = [(false, eval a X.env), (false, eval b X.env)] := by rfl) (hs0 : starEach [a, b] X.env = (false, eval a X.env) :: starEach [b] X.env := by rfl) (hs1 : starEach [b] X.env = (false, eval b X.env) :: starEach [] X.env := by rfl) (hs2 : starEach [b] X.env = [(false, eval b X.env)] := by rfl) : IX X PE μ ds tg (.Call (.Name "range" p) [a, b] [] pos) P :=
  ix_of (pi_range2 hg hm (pa_cons pe_U (pa_cons pe_U pa_nil hs1) hs0) hs hs2) fun σ H R ho hs k => h.at ho hs fun v H1 d μ1 s1 h1 b1 n1 q => q.at h1 b1 fun v2 H2 d2 μ2 s2 h2 b2 n2 ⟨i, j, e, e2, pp, p⟩ => by
    subst e e2
    rw [n1.inv_int, n2.inv_int]
    exact ⟨i, j, rfl, pp, k _ H2 _ μ2 (s1.trans s2) h2 (itd_range _ _) p⟩

/-! ### for, while -/
theorem sx_for {body : List Stmt} (h : IX X PE μ ds tg iter fun xs μ1 => ∃ I : Nat → DS → Mu → Prop, I 0 ds μ1 ∧
      (∀ i x dsi μi, xs[i]? = some x → I i dsi μi → GX X PE μi dsi tg x fun ds2 μ2 => SSX X PE μ2 ds2 body { nx := I (i + 1), ct := I (i + 1), bk := Z.nx, rt := Z.rt }) ∧ (∀ dsn μn, I xs.length dsn μn → Z.nx dsn μn))
    (hp : PassesOwn (model X.prog X.w) X.A X.env X.xe) (hc : X.calm = true) (hs : ∀ x, foldedSetIterable iter X.env x = pure x := by intro _; rfl) : SX X PE μ ds (.For tg iter body [] pos) Z :=
  sx_of (ps_for hp hc pi_U pg_U pss_U hs) fun D σ H ho hs m => h.at ho hs fun J H1 xs μ1 s1 h1 b1 it ⟨I, i0, step, fin⟩ =>
    ⟨fun i mm σ H2 => i + mm = xs.length ∧ ∃ dsi μi, I i dsi μi ∧ Hold X.K μi H2 ∧ Sl X PE μi H2 σ dsi ∧ Stp μ1 H1 μi H2, ⟨xs.length, Nat.zero_add _, ds, μ1, i0, h1, b1, Stp.refl _ _⟩, fun i mm σ2 H2 ⟨hm, dsi, μi, hi, h2, b2, s2⟩ => by
      by_cases hx : i < xs.length
      · refine .inr ?_
        obtain ⟨x, ex⟩ : ∃ x, xs[i]? = some x := ⟨xs[i], List.getElem?_eq_getElem hx⟩
        obtain ⟨g1, g2⟩ := (it i H2 μi s2 h2).2 x ex
        refine ⟨g1, fun σ' H' => ∃ ds' μ', I (i + 1) ds' μ' ∧ Hold X.K μ' H' ∧ Sl X PE μ' H' σ' ds' ∧ Stp μ1 H1 μ' H', fun σ' H' ⟨ds', μ', a1, a2, a3, a4⟩ => ⟨mm - 1, by omega, by omega, ds', μ', a1, a2, a3, a4⟩, fun v H3 hy => ?_⟩
        obtain ⟨s3, h3, n3⟩ := g2 v H3 hy
        exact (step i x dsi μi ex hi).at h3 (b2.mono s3) n3 fun σ4 H4 ds4 μ4 s4 h4 b4 p4 => p4.at h4 b4
          ⟨fun σ5 H5 ds5 μ5 s5 h5 b5 p5 => ⟨ds5, μ5, p5, h5, b5, ((s2.trans s3).trans s4).trans s5⟩, fun v5 H5 d5 μ5 s5 h5 n5 p5 => m.rt v5 H5 d5 μ5 ((((s1.trans s2).trans s3).trans s4).trans s5) h5 n5 p5,
            fun σ5 H5 ds5 μ5 s5 h5 b5 p5 => m.nx σ5 H5 ds5 μ5 ((((s1.trans s2).trans s3).trans s4).trans s5) h5 b5 p5, fun σ5 H5 ds5 μ5 s5 h5 b5 p5 => ⟨ds5, μ5, p5, h5, b5, ((s2.trans s3).trans s4).trans s5⟩⟩
      · have e : i = xs.length := by omega
        subst e
        exact .inl ⟨(it _ H2 μi s2 h2).1 (Nat.le_refl _), m.nx σ2 H2 dsi μi (s1.trans s2) h2 b2 (fin dsi μi hi)⟩⟩
theorem sx_while {body : List Stmt} (I : Nat → DS → Mu → Prop) (m0 : Nat) (h0 : I m0 ds μ) (h : ∀ m dsi μi, I m dsi μi → TX X PE μi dsi c fun z μ1 => (z = true → SSX X PE μ1 dsi body { nx := fun s u => ∃ m', m' < m ∧ I m' s u, ct := fun s u => ∃ m', m' < m ∧ I m' s u, bk := Z.nx, rt := Z.rt }) ∧ (z = false → Z.nx dsi μ1))
    (hp : PassesOwn (model X.prog X.w) X.A X.env X.xe) : SX X PE μ ds (.While c body [] pos) Z :=
  sx_of (ps_while hp pt_U pss_U) fun D σ H ho hs m =>
    ⟨fun mm σ H2 => ∃ dsi μi, I mm dsi μi ∧ Hold X.K μi H2 ∧ Sl X PE μi H2 σ dsi ∧ Stp μ H μi H2, ⟨m0, ds, μ, h0, ho, hs, Stp.refl _ _⟩, fun mm σ2 H2 ⟨dsi, μi, hi, h2, b2, s2⟩ =>
      (h mm dsi μi hi).at h2 b2 fun z H3 μ3 s3 h3 b3 p => by
        cases z with
        | true =>
          refine iteT ⟨fun σ' H' => ∃ m', m' < mm ∧ ∃ dsi μi, I m' dsi μi ∧ Hold X.K μi H' ∧ Sl X PE μi H' σ' dsi ∧ Stp μ H μi H', fun σ' H' q => q, ?_⟩
          exact (p.1 rfl).at h3 b3 ⟨fun σ5 H5 ds5 μ5 s5 h5 b5 ⟨m', l, p5⟩ => ⟨m', l, ds5, μ5, p5, h5, b5, (s2.trans s3).trans s5⟩, fun v5 H5 d5 μ5 s5 h5 n5 p5 => m.rt v5 H5 d5 μ5 ((s2.trans s3).trans s5) h5 n5 p5,
            fun σ5 H5 ds5 μ5 s5 h5 b5 p5 => m.nx σ5 H5 ds5 μ5 ((s2.trans s3).trans s5) h5 b5 p5, fun σ5 H5 ds5 μ5 s5 h5 b5 ⟨m', l, p5⟩ => ⟨m', l, ds5, μ5, p5, h5, b5, (s2.trans s3).trans s5⟩⟩
        | false => exact iteF (m.nx σ2 H3 dsi μ3 (s2.trans s3) h3 b3 (p.2 rfl))⟩
end
end Hw
set_option Elab.async false
set_option linter.all false
set_option maxRecDepth 100000
set_option maxHeartbeats 1000000
namespace Hw
open PySem L2 PyProof.Rows

/-! ### room, and that no repr is under way -/
structure Rm (k : Nat) (A : Around) : Prop where
  r : Room k A
  g : A.guards = some []
theorem Rm.mono {j k : Nat} {A : Around} (h : Rm k A) (l : j ≤ k) : Rm j A := ⟨h.r.mono l, h.g⟩
/-! ### contracts -/
/-- what a call asks of its arguments and the store, for a wanted end and wanted exceptions -/
abbrev CT := List D → Mu → DP → XP → Prop
def spD (K : PySem.W.Frag) (C : CT) : Sp := fun vs H Q E => ∃ μ ds P PE, Hold K μ H ∧ DenAll K μ H vs ds ∧ C ds μ P PE ∧
  (∀ v H' d μ', Stp μ H μ' H' → Hold K μ' H' → Den K μ' H' v d → P d μ' → Q v H') ∧
  (∀ Ca dd H' fs vfs μ', Stp μ H μ' H' → Hold K μ' H' → H' dd = some (.xd vfs) → DenFs K μ' H' vfs fs → PE Ca fs μ' → E (.ref Ca) (some dd) H')
/-- a def's promise, where no repr is under way -/
structure FnG (P : Program) (w : World) (K : PySem.W.Frag) (mg : Str → Option Value) (base : Heap) (k : Nat) (f : Addr) (fd : FuncData) (ps : List Str) (C : CT) : Prop where
  len : ∀ xs μ R RE, C xs μ R RE → xs.length = ps.length
  run : ∀ (A : Around) (outer : List Env) (s : Shared) (H : Hp) (args : Args) (us : List Value) (vs : List V) (Q : VK) (E : XK), Rm k A → Env0 P w K mg base A outer s H → BindsTo s fd args (ps.zip us) → Vals vs us → spD K C vs H Q E →
    codeAny (model P w) A (.call (.ref f) args) (CR (L2.CX P w) outer P w H s Q E) s
theorem FnG.lenV {P : Program} {w : World} {K : PySem.W.Frag} {mg : Str → Option Value} {base : Heap} {k : Nat} {f : Addr} {fd : FuncData} {ps : List Str} {C : CT} (F : FnG P w K mg base k f fd ps C) {vs : List V} {H : Hp} {Q : VK} {E : XK} (h : spD K C vs H Q E) : vs.length = ps.length := by
  obtain ⟨μ, ds, R, RE, _, n, c, _⟩ := h
  rw [n.length]
  exact F.len _ _ _ _ c
theorem FnG.mono {P : Program} {w : World} {K : PySem.W.Frag} {mg : Str → Option Value} {base : Heap} {j k : Nat} {f : Addr} {fd : FuncData} {ps : List Str} {C : CT} (F : FnG P w K mg base j f fd ps C) (l : j ≤ k) : FnG P w K mg base k f fd ps C :=
  ⟨F.len, fun A outer s H args us vs Q E hr => F.run A outer s H args us vs Q E (hr.mono l)⟩
theorem FnG.weak {P : Program} {w : World} {K : PySem.W.Frag} {mg : Str → Option Value} {base : Heap} {k : Nat} {f : Addr} {fd : FuncData} {ps : List Str} {C C' : CT} (F : FnG P w K mg base k f fd ps C) (h : ∀ xs μ R RE, C' xs μ R RE → C xs μ R RE) : FnG P w K mg base k f fd ps C' :=
  ⟨fun xs μ R RE c => F.len xs μ R RE (h _ _ _ _ c), fun A outer s H args us vs Q E hr e0 hb r ⟨μ, ds, R, RE, a, b, c, d⟩ => F.run A outer s H args us vs Q E hr e0 hb r ⟨μ, ds, R, RE, a, b, h _ _ _ _ c, d⟩⟩
/-- the def of the name x keeps C, at level k -/
structure Cal (P : Program) (w : World) (K : PySem.W.Frag) (mg : Str → Option Value) (base : Heap) (x qual : Str) (st : Stmt) (ps : List Str) (k : Nat) (C : CT) : Prop where
  ex : ∃ f fd, FnG P w K mg base k f fd ps C ∧ mg x = some (.ref f) ∧ Fun K x qual st f fd ∧ Binds K fd ps []
section
variable {X : Cx} {PE : XP} {e a b c : Expr} {es : List Expr} {μ : Mu} {ds : DS} {P : DP} {pos : Pos}
/-- the wish of the context, told of one call -/
def Ex0 (X : Cx) : XK := fun c d H => ∀ σ, Wx X c d σ H
theorem passX {X : Cx} : Passes (L2.CX X.prog X.w) X (Ex0 X) := passes_call takes_Wx fun cls d σ H h => h σ
/-- behind a call -/
theorem ret_of {pins : List (Addr × Obj)} {σ : L2.St} {H : Hp} {s : Shared} {Q : VK} {g : Addr} {args : Args} (I : Inv X pins σ H s)
    (h : codeAny (model X.prog X.w) X.A (.call (.ref g) args) (CR (L2.CX X.prog X.w) X.stack X.prog X.w H s Q (Ex0 X)) s) : codeAny (model X.prog X.w) X.A (.call (.ref g) args) (fun r s' => match r with
      | .ok (.ret u) => EP X pins σ Q u s'
      | .ok _ => False
      | .error e => X.xe e s') s :=
  codeAny_mono h fun r s' q => match r, q with
    | .error er, q => passX pins σ H s er s' I q
    | .ok (.ret _), q => I.after q
    | .ok .next, q => q.elim
    | .ok .brk, q => q.elim
    | .ok .cont, q => q.elim
theorem run_g {pins : List (Addr × Obj)} {σ : L2.St} {H : Hp} {s : Shared} {Q : VK} {k : Nat} {f : Addr} {fd : FuncData} {ps : List Str} {C : CT} {us : List Value} {vs : List V}
    (F : FnG X.prog X.w X.K X.mg X.base k f fd ps C) (hr : Rm k X.A) (hb : Binds X.K fd ps []) (I : Inv X pins σ H s) (r : Vals vs us) (h : spD X.K C vs H Q (Ex0 X)) : wpAny (model X.prog X.w) X.A (call (.ref f) us) (EP X pins σ Q) X.xe s := by
  have hl : (us ++ []).length = ps.length := by rw [List.append_nil, ← r.length]; exact F.lenV h
  have hb' := hb s us I.kIn hl
  rw [List.append_nil] at hb'
  refine wpAny_call (codeAny_mono (ret_of I (F.run X.A X.stack s H ⟨us, []⟩ us vs Q (Ex0 X) hr I.env0 hb' r h)) fun r s' q => ?_)
  match r, q with
  | .error er, q => exact q
  | .ok (.ret _), q => exact q
theorem ex_call {x qual : Str} {st : Stmt} {ps : List Str} {k : Nat} {C : CT} {p : Pos} (c : Cal X.prog X.w X.K X.mg X.base x qual st ps k C) (hr : Rm k X.A) (h : AX X PE μ ds (e :: es) fun xs μ1 => C xs μ1 P PE) (hg : Gl X x)
    (hdb : (x == ("__debug__" : Str)) = false := by decide) (he : starEach (e :: es) X.env = (false, eval e X.env) :: starEach es X.env := by rfl) (hpl : (backTo pos (starEach es X.env)).any (·.1) = false := by rfl) : EX X PE μ ds (.Call (.Name x p) (e :: es) [] pos) P := by
  obtain ⟨f, fd, F, hm, hF, hb⟩ := c.ex
  have hk := hF.kp
  have pe : L2.PE X (.Call (.Name x p) (e :: es) [] pos) (fun σ H Q => tUA X (e :: es) σ H fun vs H1 => spD X.K C vs H1 Q (Ex0 X)) := ⟨fun pins s σ H Q I q => by
    refine wpAny_Call_Name_kw (ld_glob I hg hm ?_ hdb)
    refine PySem.W.callWith_K (h₀ := X.base) I.ok.mod.kin hk (thn (pa_U.run pos pins s σ H _ I q) fun us s1 ⟨vs, H1, I1, r, q⟩ => ⟨I1.kIn, ?_⟩) he hpl
    exact run_g F hr hb I1 r q⟩
  refine ex_of pe fun σ H Q ho hs kk => h.at ho hs fun vs H1 xs μ1 s1 h1 b1 n1 q => ?_
  exact ⟨μ1, xs, P, PE, h1, n1, q, fun v H' d μ' s2 h2 n2 p2 => kk v H' d μ' (s1.trans s2) h2 n2 p2, fun Ca dd H' fs vfs μ' s2 h2 e2 n2 p2 σ' => b1.x Ca dd H' fs vfs μ' σ' s2 h2 e2 n2 p2⟩
theorem ex_call0 {x qual : Str} {st : Stmt} {ps : List Str} {k : Nat} {C : CT} {p : Pos} (c : Cal X.prog X.w X.K X.mg X.base x qual st ps k C) (hr : Rm k X.A) (h : C [] μ P PE) (hg : Gl X x)
    (hdb : (x == ("__debug__" : Str)) = false := by decide) : EX X PE μ ds (.Call (.Name x p) [] [] pos) P := by
  obtain ⟨f, fd, F, hm, hF, hb⟩ := c.ex
  have hk := hF.kp
  have pe : L2.PE X (.Call (.Name x p) [] [] pos) (fun σ H Q => spD X.K C [] H Q (Ex0 X)) := ⟨fun pins s σ H Q I q => by
    refine wpAny_Call_Name_kw (ld_glob I hg hm ?_ hdb)
    exact PySem.W.callWith_K0 I.kIn hk (run_g (us := []) F hr hb I .nil q)⟩
  refine ex_of pe fun σ H Q ho hs kk => ?_
  exact ⟨μ, [], P, PE, ho, .nil, h, fun v H' d μ' s2 h2 n2 p2 => kk v H' d μ' s2 h2 n2 p2, fun Ca dd H' fs vfs μ' s2 h2 e2 n2 p2 σ' => hs.x Ca dd H' fs vfs μ' σ' s2 h2 e2 n2 p2⟩

/-! ### a def keeps its contract -/
theorem wx_leave {X : Cx} {E : XK} (tk : Takes X (fun cls d _ H => E cls d H)) {cls : Value} {d : Option Addr} {σ : L2.St} {H : Hp} (h : E cls d H) : Wx X cls d σ H := fun u s' ⟨a, B, sI, pins, σ', H', cls', d', h1, h2, h3, h4, h5, h6, h7, h8, e1, e2, e3, e4⟩ => by
  subst e1 e2 e3 e4
  exact tk u s' ⟨a, B, sI, pins, _, _, _, _, h1, h2, h3, h4, h5, h6, h7, h8, h⟩
end
section
variable {P : Program} {w : World} {K : PySem.W.Frag} {mg : Str → Option Value} {base : Heap}
/-- the context of a def's body -/
abbrev bodyCx (P : Program) (w : World) (K : PySem.W.Frag) (mg : Str → Option Value) (base : Heap) (N : List Str) (x : Str) (st : Stmt) (f : Addr) (cdv : Value) (A : Around) (outer : List Env) (s : Shared) (H : Hp) (E : XK) : Cx :=
  cxOf (L2.CX P w) P w K mg base N x (defScope st) f cdv A outer s H E
theorem fn_ok {x qual : Str} {st : Stmt} {f : Addr} {fd : FuncData} {N ps : List Str} {k : Nat} {C : CT} (F : Fun K x qual st f fd) (S : FnScope N ps (defScope st)) (len : ∀ xs μ R RE, C xs μ R RE → xs.length = ps.length)
    (hbody : ∀ (xs : List D) (μ : Mu) (R : DP) (PE : XP) (cdv : Value) (A : Around) (outer : List Env) (s : Shared) (H : Hp) (E : XK), Rm k (bodyCx P w K mg base N qual st f cdv A outer s H E).A → C xs μ R PE →
      SSX (bodyCx P w K mg base N qual st f cdv A outer s H E) PE μ (xs.map some ++ List.replicate (N.length - xs.length) none) (defBody st) { nx := fun _ μ' => R .non μ', rt := R }) :
    FnG P w K mg base (k + 1) f fd ps C := by
  refine ⟨len, fun A outer s H args us vs Q E hr e0 hb r h => ?_⟩
  have hl : vs.length = ps.length := by
    obtain ⟨μ, xs, R, PE, ho, n, c, _⟩ := h
    rw [n.length]
    exact len xs μ R PE c
  obtain ⟨oc, od, kV, doc, pm, an, cdv, ct, osl, rfl, lk, hcd⟩ := F.ex
  refine LamX.run_ofS lk hcd S hr.r e0 hb r hl fun hr' => ?_
  obtain ⟨μ, xs, R, PE, ho, n, c, kR, kE⟩ := h
  have q := hbody xs μ R PE cdv A outer s H E ⟨hr', hr.g⟩ c
  refine ⟨_, q.pss, ho, ⟨DenS.start n, fun Ca dd H' fs vfs μ' σ s2 h2 e2 n2 p2 => wx_leave (takes_of rfl rfl rfl rfl) (kE Ca dd H' fs vfs μ' s2 h2 e2 n2 p2)⟩, ?_⟩
  exact ⟨fun σ' H' ds' μ' s1 h1 n1 p => kR _ H' _ μ' s1 h1 .non p, fun v H' d μ' s1 h1 n1 p => kR v H' d μ' s1 h1 n1 p, fun _ _ _ _ _ _ _ p => p.elim, fun _ _ _ _ _ _ _ p => p.elim⟩
end

/-! ### a comprehension -/
section
variable {X : Cx} {PE : XP} {e a b c elt tg iter : Expr} {es ifs : List Expr} {μ : Mu} {ds : DS} {P : DP} {pos : Pos} {Z : Po}
/-- all of its tests -/
structure TsX (X : Cx) (PE : XP) (μ : Mu) (ds : DS) (ifs : List Expr) (P : Bool → Mu → Prop) : Prop where
  pts : PTs X ifs (tDT X PE μ ds P)
def tUTs (X : Cx) (e : List Expr) : TT := fun σ H Q => ∃ t, PTs X e t ∧ t σ H Q
theorem ts_nil {P : Bool → Mu → Prop} (h : P true μ) : TsX X PE μ ds [] P := ⟨⟨fun pins s σ H Q I ⟨ho, hs, k⟩ => pts_nil.run pins s σ H Q I (k true H μ (Stp.refl _ _) ho h)⟩⟩
theorem ts_one {P : Bool → Mu → Prop} (h : TX X PE μ ds c P) : TsX X PE μ ds [c] P := ⟨pts_one h.pt⟩
/-- the slots of the block's own names forgotten -/
def wipeD (ds : DS) : List Nat → DS
  | [] => ds
  | v :: vs => (wipeD ds vs).set v none
theorem DenS.wipe {K : PySem.W.Frag} {H : Hp} {σ : L2.St} (h : DenS K μ H σ ds) : ∀ vs, DenS K μ H (wipe σ vs) (wipeD ds vs)
  | [] => h
  | v :: vs => (DenS.wipe h vs).wipe1
/-- the contexts of the block -/
def Blk (X : Cx) (scope : Scope) (X' : Cx) : Prop := ∃ (s : Shared) (H : Hp) (C : Addr) (cl : List (Str × Addr)) (fp : List Addr), X' = X.blk s H scope (compEnvC scope cl C X.env) fp
/-- a block's own target: its names alone are stored -/
structure GCX (X : Cx) (μ : Mu) (ds : DS) (own : List Nat) (tg : Expr) (d : D) (R : DS → Prop) : Prop where
  pg : PG X tg (fun v σ H Q => Hold X.K μ H ∧ DenS X.K μ H σ ds ∧ Den X.K μ H v d ∧ ∀ σ' ds', wipe σ' own = wipe σ own → DenS X.K μ H σ' ds' → R ds' → Q σ' H)
theorem wipe_set {σ : L2.St} {j : Nat} {v : Option V} : ∀ {own : List Nat}, j ∈ own → wipe (σ.set j v) own = wipe σ own
  | [], h => by simp at h
  | k :: own, h => by
    show (wipe (σ.set j v) own).set k none = (wipe σ own).set k none
    by_cases hj : j ∈ own
    · rw [wipe_set hj]
    · have hk : j = k := by
        rcases List.mem_cons.mp h with e | e
        · exact e
        · exact absurd e hj
      subst hk
      have : ∀ (own : List Nat) (τ : L2.St), j ∉ own → wipe (τ.set j v) own = (wipe τ own).set j v := by
        intro own
        induction own with
        | nil => intro τ _; rfl
        | cons a r ih =>
          intro τ hn
          have h1 : j ≠ a := fun e => hn (by rw [e]; exact List.mem_cons_self)
          have h2 : j ∉ r := fun e => hn (List.mem_cons_of_mem _ e)
          show (wipe (τ.set j v) r).set a none = ((wipe τ r).set a none).set j v
          rw [ih τ h2, List.set_comm _ _ h1]
      rw [this own σ hj, List.set_set]
theorem wipe_wipe {σ : L2.St} : ∀ {own ow2 : List Nat}, (∀ i ∈ ow2, i ∈ own) → wipe (wipe σ ow2) own = wipe σ own
  | own, [], _ => rfl
  | own, k :: r, h => by
    show wipe ((wipe σ r).set k none) own = wipe σ own
    rw [wipe_set (h k List.mem_cons_self), wipe_wipe fun i hi => h i (List.mem_cons_of_mem _ hi)]
theorem gc_nm {own : List Nat} {tgp : Pos} {x : Str} {d : D} {R : DS → Prop} (j : Nat) (h : R (ds.set j (some d))) (ho : j ∈ own) (hN : X.N.Nodup) (hi : X.N[j]? = some x) (hx : Loc X.env.scope x) (hf : X.fn x = true ∨ X.env.scope.names.lookup x = some .local := by first | exact .inl rfl | exact .inr rfl | assumption) :
    GCX X μ ds own (.Name x tgp) d R := ⟨⟨fun pins s σ H v u Q I r ⟨_, hs, n, k⟩ => (pg_name hN hi hx hf).run pins s σ H v u Q I r (k _ _ (wipe_set ho) (hs.set n) h)⟩⟩
structure GCSX (X : Cx) (μ : Mu) (ds : DS) (own : List Nat) (ts : List Expr) (xs : List D) (R : DS → Prop) : Prop where
  pg : PGs X ts (fun vs σ H Q => Hold X.K μ H ∧ DenS X.K μ H σ ds ∧ DenAll X.K μ H vs xs ∧ ∀ σ' ds', wipe σ' own = wipe σ own → DenS X.K μ H σ' ds' → R ds' → Q σ' H)
theorem gcs_nil {own : List Nat} {R : DS → Prop} (h : R ds) : GCSX X μ ds own [] [] R := ⟨⟨fun pins s σ H vs us Q I r ⟨_, hs, n, k⟩ => by
  cases n
  exact pgs_nil.run pins s σ H [] us Q I r ⟨rfl, k σ ds rfl hs h⟩⟩⟩
theorem gcs_cons {own : List Nat} {ts : List Expr} {xs : List D} {d : D} {R : DS → Prop} (h : GCX X μ ds own tg d fun ds1 => GCSX X μ ds1 own ts xs R) (hs : (assignEach (tg :: ts) X.env).map (·.2) = assign tg X.env :: (assignEach ts X.env).map (·.2) := by rfl) : GCSX X μ ds own (tg :: ts) (d :: xs) R :=
  ⟨⟨fun pins s σ H vs us Q I r ⟨ho, hs', n, k⟩ => by
    cases n with
    | cons n1 n2 => exact (pgs_cons pg_U pgs_U hs).run pins s σ H _ us Q I r ⟨_, _, rfl, ⟨_, h.pg, ho, hs', n1, fun σ1 ds1 w1 b1 p => ⟨_, p.pg, ho, b1, n2, fun σ2 ds2 w2 b2 p2 => k σ2 ds2 (w2.trans w1) b2 p2⟩⟩⟩⟩⟩
theorem gc_tup {own : List Nat} {ts : List Expr} {kk : Nat} {xs : List D} {R : DS → Prop} (h : GCSX X μ ds own ts xs R) (hc : X.calm = true) (hl : xs.length = ts.length) (hn : (assignEach ts X.env).length = ts.length := by rfl) (hst : (assignEach ts X.env).findIdx? (·.1) = none := by rfl) : GCX X μ ds own (.Tuple ts kk pos) (.tup xs) R :=
  ⟨⟨fun pins s σ H v u Q I r ⟨ho, hs, n, k⟩ => by
    obtain ⟨a, vs, e, sq, n2⟩ := n.inv_tup
    exact (pg_tup hc pgs_U hn hst).run pins s σ H v u Q I r ⟨a, vs, e, sq, by rw [n2.length]; exact hl, _, h.pg, ho, hs, n2, k⟩⟩⟩
/-- what one turn is to do, at the store with the list under way (at L) in it -/
def Turn1 (X : Cx) (scope : Scope) (ds : DS) (own : List Nat) (tg : Expr) (ifs : List Expr) (elt : Expr) (x : D) (μ : Mu) (Q : Option D → Mu → Prop) : Prop :=
  ∀ X', Blk X scope X' → GCX X' μ (wipeD ds own) own tg x fun ds2 => ∀ X', Blk X scope X' → TsX X' noX μ ds2 ifs fun z μ1 => (z = true → ∀ X', Blk X scope X' → EX X' noX μ1 ds2 elt fun d μ2 => Q (some d) μ2) ∧ (z = false → Q none μ1)
def addO (acc : List D) : Option D → List D
  | some d => acc ++ [d]
  | none => acc
def tgB (X : Cx) (scope : Scope) (tg : Expr) : TG := fun v σ H Q => ∃ t, (∀ X', Blk X scope X' → PG X' tg t) ∧ t v σ H Q
def ttB (X : Cx) (scope : Scope) (ifs : List Expr) : TT := fun σ H Q => ∃ t, (∀ X', Blk X scope X' → PTs X' ifs t) ∧ t σ H Q
def teB (X : Cx) (scope : Scope) (elt : Expr) : TE := fun σ H Q => ∃ t, (∀ X', Blk X scope X' → L2.PE X' elt t) ∧ t σ H Q
theorem pg_B {scope : Scope} {X' : Cx} (hb : Blk X scope X') : PG X' tg (tgB X scope tg) := ⟨fun pins s σ H v u Q I r h => by obtain ⟨t, p, h⟩ := h; exact (p X' hb).run pins s σ H v u Q I r h⟩
theorem pt_B {scope : Scope} {X' : Cx} (hb : Blk X scope X') : PTs X' ifs (ttB X scope ifs) := ⟨fun pins s σ H Q I h => by obtain ⟨t, p, h⟩ := h; exact (p X' hb).run pins s σ H Q I h⟩
theorem pe_B {scope : Scope} {X' : Cx} (hb : Blk X scope X') : L2.PE X' elt (teB X scope elt) := ⟨fun pins s σ H Q I h => by obtain ⟨t, p, h⟩ := h; exact (p X' hb).run pins s σ H Q I h⟩
theorem blk_K {scope : Scope} {X' : Cx} (hb : Blk X scope X') : X'.K = X.K := by obtain ⟨s, H, C, cl, fp, rfl⟩ := hb; rfl
theorem Stp.freeze {μ : Mu} {H : Hp} {p : Addr} {c : MD} : Stp (mset μ p c) H μ H := fun b o h e _ => ⟨e, by
  by_cases hb : b = p
  · subst hb; rw [mset_same] at h; cases h
  · rw [mset_ne hb] at h; exact h⟩
theorem Hold.freeze {K : PySem.W.Frag} {H : Hp} {p : Addr} {c : MD} (h : Hold K (mset μ p c) H) (n : μ p = none) : Hold K μ H := fun a c' e => by
  have ha : a ≠ p := by rintro rfl; rw [n] at e; cases e
  exact (h a c' (by rw [mset_ne ha]; exact e)).mono Stp.freeze rfl
theorem lc_read {scope : Scope} {own : List Nat} {σ : L2.St} {H : Hp} {Q : VK} (ho : Hold X.K μ H) (hs : Sl X PE μ H σ ds)
    (h : IX X PE μ ds tg iter fun xs μ1 => ∃ I : Nat → List D → Mu → Prop, I 0 [] μ1 ∧ xs.length ≤ sizeLine ∧
      (∀ i x acc μi L, xs[i]? = some x → I i acc μi → acc.length ≤ i → μi L = none → Turn1 X scope ds own tg ifs elt x (mset μi L (.lst acc)) fun o μ3 => ∃ μ3', μ3 = mset μ3' L (.lst acc) ∧ μ3' L = none ∧ I (i + 1) (addO acc o) μ3') ∧
      ∀ acc μn, I xs.length acc μn → acc.length ≤ xs.length → P (.lst acc) μn)
    (k : ∀ v H' d μ', Stp μ H μ' H' → Hold X.K μ' H' → Den X.K μ' H' v d → P d μ' → Q v H') :
    tLc (tUI X tg iter) (tgB X scope tg) (ttB X scope ifs) (teB X scope elt) own σ H Q :=
  h.at ho hs fun J H1 xs μ1 s1 h1 b1 it ⟨I, i0, hz, step, fin⟩ => fun L nL =>
    ⟨fun i mm H2 => i + mm = xs.length ∧ ∃ acc μi, I i acc μi ∧ acc.length ≤ i ∧ μi L = none ∧ Hold X.K (mset μi L (.lst acc)) H2 ∧ Stp μ1 H1 (mset μi L (.lst acc)) H2,
      ⟨xs.length, Nat.zero_add _, [], μ1, i0, Nat.le_refl _, h1.free nL, h1.newM (c := .lst []) nL ⟨[], upd_same, .nil⟩, Stp.newM nL⟩, fun i mm H2 ⟨hm, acc, μi, hi, hl, nl, h2, s2⟩ => by
      by_cases hx : i < xs.length
      · refine .inr ?_
        obtain ⟨x, ex⟩ : ∃ x, xs[i]? = some x := ⟨xs[i], List.getElem?_eq_getElem hx⟩
        obtain ⟨g1, g2⟩ := (it i H2 _ s2 h2).2 x ex
        refine ⟨g1, fun H' => ∃ acc μi, I (i + 1) acc μi ∧ acc.length ≤ i + 1 ∧ μi L = none ∧ Hold X.K (mset μi L (.lst acc)) H' ∧ Stp μ1 H1 (mset μi L (.lst acc)) H', fun H' q => ⟨mm - 1, by omega, by omega, q⟩, fun v H3 hy => ?_⟩
        obtain ⟨s3, h3, n3⟩ := g2 v H3 hy
        have T := step i x acc μi L ex hi hl nl
        have bs : DenS X.K (mset μi L (.lst acc)) H3 (wipe σ own) (wipeD ds own) := (DenS.wipe b1.d own).mono (s2.trans s3)
        refine ⟨fun v σ H Q => Hold X.K (mset μi L (.lst acc)) H ∧ DenS X.K (mset μi L (.lst acc)) H σ (wipeD ds own) ∧ Den X.K (mset μi L (.lst acc)) H v x ∧ ∀ σ' ds', wipe σ' own = wipe σ own → DenS X.K (mset μi L (.lst acc)) H σ' ds' →
          (∀ X', Blk X scope X' → TsX X' noX (mset μi L (.lst acc)) ds' ifs fun z μ1 => (z = true → ∀ X', Blk X scope X' → EX X' noX μ1 ds' elt fun d μ2 => (fun o μ3 => ∃ μ3', μ3 = mset μ3' L (.lst acc) ∧ μ3' L = none ∧ I (i + 1) (addO acc o) μ3') (some d) μ2) ∧ (z = false → (fun o μ3 => ∃ μ3', μ3 = mset μ3' L (.lst acc) ∧ μ3' L = none ∧ I (i + 1) (addO acc o) μ3') none μ1)) → Q σ' H, fun X' hb => ?_, h3, bs, n3, fun σ4 ds4 w4 b4 ts => ?_⟩
        · have := (T X' hb).pg
          rw [blk_K hb] at this
          exact this
        · refine ⟨w4.trans (wipe_wipe fun i h => h), ?_⟩
          refine ⟨fun σ H Q => Hold X.K (mset μi L (.lst acc)) H ∧ DenS X.K (mset μi L (.lst acc)) H σ ds4 ∧ ∀ b H' μ', Stp (mset μi L (.lst acc)) H μ' H' → Hold X.K μ' H' →
            ((b = true → ∀ X', Blk X scope X' → EX X' noX μ' ds4 elt fun d μ2 => ∃ μ3', μ2 = mset μ3' L (.lst acc) ∧ μ3' L = none ∧ I (i + 1) (addO acc (some d)) μ3') ∧ (b = false → ∃ μ3', μ' = mset μ3' L (.lst acc) ∧ μ3' L = none ∧ I (i + 1) (addO acc none) μ3')) → Q b H', fun X' hb => ?_, h3, b4, fun z H5 μ5 s5 h5 p5 => ?_⟩
          · refine ⟨fun pins s σ H Q J ⟨q1, q2, q3⟩ => (ts X' hb).pts.run pins s σ H Q J ⟨by rw [blk_K hb]; exact q1, ⟨by rw [blk_K hb]; exact q2, Exc.no⟩, fun b H' μ' s h p => q3 b H' μ' s (by rw [blk_K hb] at h; exact h) p⟩⟩
          · cases z with
            | true =>
              refine iteT ⟨fun σ H Q => Hold X.K μ5 H ∧ DenS X.K μ5 H σ ds4 ∧ ∀ v H' d μ', Stp μ5 H μ' H' → Hold X.K μ' H' → Den X.K μ' H' v d → (∃ μ3', μ' = mset μ3' L (.lst acc) ∧ μ3' L = none ∧ I (i + 1) (addO acc (some d)) μ3') → Q v H', fun X' hb => ?_, h5, b4.mono s5, fun v H6 d μ6 s6 h6 n6 ⟨μ7, e7, nl7, p7⟩ => ?_⟩
              · refine ⟨fun pins s σ H Q J ⟨q1, q2, q3⟩ => (p5.1 rfl X' hb).pe.run pins s σ H Q J ⟨by rw [blk_K hb]; exact q1, ⟨by rw [blk_K hb]; exact q2, Exc.no⟩, fun v H' d μ' s h n p => q3 v H' d μ' s (by rw [blk_K hb] at h; exact h) (by rw [blk_K hb] at n; exact n) p⟩⟩
              · subst e7
                obtain ⟨vs, ev, dv⟩ := h6 L _ mset_same
                have sw : Stp (mset μ7 L (.lst acc)) H6 (mset (mset μ7 L (.lst acc)) L (.lst (acc ++ [d]))) (upd H6 L (.lst (vs ++ [v]))) := Stp.write mset_same
                refine ⟨vs, ev, by rw [dv.length]; omega, acc ++ [d], μ7, p7, by simp; omega, nl7, ?_, ?_⟩
                · have := h6.write (c := .lst (acc ++ [d])) (o := .lst (vs ++ [v])) mset_same ⟨_, upd_same, (dv.append (.cons n6 .nil)).mono sw⟩
                  rw [mset_mset] at this
                  exact this
                · rw [mset_mset] at sw
                  exact (((s2.trans s3).trans s5).trans s6).trans sw
            | false =>
              obtain ⟨μ7, e7, nl7, p7⟩ := p5.2 rfl
              subst e7
              exact iteF ⟨acc, μ7, p7, by omega, nl7, h5, (s2.trans s3).trans s5⟩
      · have e : i = xs.length := by omega
        subst e
        refine .inl ⟨(it _ H2 _ s2 h2).1 (Nat.le_refl _), ?_⟩
        obtain ⟨vs, ev, dv⟩ := h2 L _ mset_same
        exact k _ H2 (.lst acc) μi ((s1.trans s2).trans Stp.freeze) (h2.freeze nl) (.lst nl ev (dv.mono Stp.freeze)) (fin acc μi hi hl)⟩
theorem ex_lc {scope : Scope} (own : List (Str × Nat))
    (h : IX X PE μ ds tg iter fun xs μ1 => ∃ I : Nat → List D → Mu → Prop, I 0 [] μ1 ∧ xs.length ≤ sizeLine ∧
      (∀ i x acc μi L, xs[i]? = some x → I i acc μi → acc.length ≤ i → μi L = none → Turn1 X scope ds (own.map (·.2)) tg ifs elt x (mset μi L (.lst acc)) fun o μ3 => ∃ μ3', μ3 = mset μ3' L (.lst acc) ∧ μ3' L = none ∧ I (i + 1) (addO acc o) μ3') ∧
      ∀ acc μn, I xs.length acc μn → acc.length ≤ xs.length → P (.lst acc) μn)
    (hc : X.calm = true) (hN : X.N.Nodup) (ok : BlkOk X.N X.env.scope scope own) (hs : ∀ x, foldedSetIterable iter X.env x = pure x := by intro _; rfl) : EX X PE μ ds (.ListComp elt [⟨tg, iter, ifs, 0⟩] scope pos) P :=
  ex_of (pe_lc hc hN pi_U ok (fun s H C cl fp => pg_B ⟨s, H, C, cl, fp, rfl⟩) (fun s H C cl fp => pt_B ⟨s, H, C, cl, fp, rfl⟩) (fun s H C cl fp => pe_B ⟨s, H, C, cl, fp, rfl⟩) hs) fun σ H Q ho hs k => lc_read ho hs h k
theorem sx_setLc {scope : Scope} (own : List (Str × Nat)) (i : Nat) {y : Str} {py spos : Pos}
    (h : IX X PE μ ds tg iter fun xs μ1 => ∃ I : Nat → List D → Mu → Prop, I 0 [] μ1 ∧ xs.length ≤ sizeLine ∧
      (∀ i x acc μi L, xs[i]? = some x → I i acc μi → acc.length ≤ i → μi L = none → Turn1 X scope ds (own.map (·.2)) tg ifs elt x (mset μi L (.lst acc)) fun o μ3 => ∃ μ3', μ3 = mset μ3' L (.lst acc) ∧ μ3' L = none ∧ I (i + 1) (addO acc o) μ3') ∧
      ∀ acc μn, I xs.length acc μn → acc.length ≤ xs.length → Z.nx (ds.set i (some (.lst acc))) μn)
    (hc : X.calm = true) (hN : X.N.Nodup) (ok : BlkOk X.N X.env.scope scope own) (hy : X.N[i]? = some y) (hyl : X.env.scope.names.lookup y = some .local)
    (hsw : swapsWith (.ListComp elt [⟨tg, iter, ifs, 0⟩] scope pos) (some (.Name y py)) spos.line X.env = pure true) (hs : ∀ x, foldedSetIterable iter X.env x = pure x := by intro _; rfl) : SX X PE μ ds (.Assign [.Name y py] (.ListComp elt [⟨tg, iter, ifs, 0⟩] scope pos) spos) Z :=
  sx_of (ps_setLc hc hN hy hyl hsw pi_U ok (fun s H C cl fp => pg_B ⟨s, H, C, cl, fp, rfl⟩) (fun s H C cl fp => pt_B ⟨s, H, C, cl, fp, rfl⟩) (fun s H C cl fp => pe_B ⟨s, H, C, cl, fp, rfl⟩) hs) fun D σ H ho hs m =>
    lc_read (P := fun d μ' => Z.nx (ds.set i (some d)) μ') ho hs h fun v H' d μ' s h n p => m.nx _ H' _ μ' s h ((hs.mono s).set n) p
end
end Hw
set_option Elab.async false
set_option linter.all false
set_option maxRecDepth 100000
set_option maxHeartbeats 1000000
namespace Hw
open PySem L2 PyProof.Rows

/-! ### data as the library's own data -/
mutual
def toPy : D → Option PyData
  | .non => some .none
  | .bl b => some (.bool b)
  | .int i => some (.int i)
  | .str s => some (.str s)
  | .tup xs => (toPyAll xs).map .tuple
  | .lst xs => (toPyAll xs).map .list
  | _ => none
def toPyAll : List D → Option (List PyData)
  | [] => some []
  | x :: xs => match toPy x, toPyAll xs with
    | some d, some ds => some (d :: ds)
    | _, _ => none
end
section
variable {K : PySem.W.Frag} {μ : Mu} {H : Hp}
mutual
theorem Den.dp : ∀ {v : V} {d : D} {p : PyData}, Den K μ H v d → toPy d = some p → Dp K H v p
  | _, _, _, .non, e => by simp only [toPy, Option.some.injEq] at e; subst e; exact .non
  | _, _, _, .bl b, e => by simp only [toPy, Option.some.injEq] at e; subst e; exact .bl b
  | _, _, _, .int i, e => by simp only [toPy, Option.some.injEq] at e; subst e; exact .int i
  | _, _, _, .str s, e => by simp only [toPy, Option.some.injEq] at e; subst e; exact .str s
  | _, _, _, .ty n, e => by simp [toPy] at e
  | _, _, _, .ref a, e => by simp [toPy] at e
  | _, _, _, .tup h r a, e => by
    simp only [toPy] at e
    obtain ⟨ds, e1, e2⟩ := Option.map_eq_some_iff.mp e
    subst e2
    exact .tup (.inl (.inl r)) (DenAll.dp a e1)
  | _, _, _, .tupK r a, e => by
    simp only [toPy] at e
    obtain ⟨ds, e1, e2⟩ := Option.map_eq_some_iff.mp e
    subst e2
    exact .tup (r H) (DenAll.dp a e1)
  | _, _, _, .lst h r a, e => by
    simp only [toPy] at e
    obtain ⟨ds, e1, e2⟩ := Option.map_eq_some_iff.mp e
    subst e2
    exact .lst (SqL.of r) (DenAll.dp a e1)
  | _, _, _, .rol h r a, e => by simp [toPy] at e
  | _, _, _, .rolK r a, e => by simp [toPy] at e
  | _, _, _, .obj h r a, e => by simp [toPy] at e
  | _, _, _, .dic h r a, e => by simp [toPy] at e
theorem DenAll.dp : ∀ {vs : List V} {ds : List D} {ps : List PyData}, DenAll K μ H vs ds → toPyAll ds = some ps → DpAll K H vs ps
  | _, _, _, .nil, e => by simp only [toPyAll, Option.some.injEq] at e; subst e; exact .nil
  | _, _, _, .cons (d := d) (ds := ds) a b, e => by
    simp only [toPyAll] at e
    cases h1 : toPy d with
    | none => rw [h1] at e; simp at e
    | some p =>
      cases h2 : toPyAll ds with
      | none => rw [h1, h2] at e; simp at e
      | some ps =>
        rw [h1, h2] at e
        simp only [Option.some.injEq] at e
        subst e
        exact .cons (Den.dp a h1) (DenAll.dp b h2)
end
end

/-! ### data with lists of the store in it -/
mutual
def toPyM (μ : Mu) : D → Option PyData
  | .non => some .none
  | .bl b => some (.bool b)
  | .int i => some (.int i)
  | .str s => some (.str s)
  | .ref a => match μ a with
    | some (.lst xs) => (toPyAll xs).map .list
    | _ => none
  | .tup xs => (toPyMs μ xs).map .tuple
  | .lst xs => (toPyMs μ xs).map .list
  | _ => none
def toPyMs (μ : Mu) : List D → Option (List PyData)
  | [] => some []
  | x :: xs => match toPyM μ x, toPyMs μ xs with
    | some d, some ds => some (d :: ds)
    | _, _ => none
end
section
variable {K : PySem.W.Frag} {μ : Mu} {H : Hp}
mutual
theorem toPyM_of : ∀ {d : D} {p : PyData}, toPy d = some p → toPyM μ d = some p
  | .non, _, e => by simp only [toPy] at e; simpa only [toPyM] using e
  | .bl b, _, e => by simp only [toPy] at e; simpa only [toPyM] using e
  | .int i, _, e => by simp only [toPy] at e; simpa only [toPyM] using e
  | .str s, _, e => by simp only [toPy] at e; simpa only [toPyM] using e
  | .tup xs, _, e => by
    simp only [toPy] at e
    obtain ⟨ds, e1, e2⟩ := Option.map_eq_some_iff.mp e
    simp only [toPyM, toPyMs_of e1, Option.map_some, e2]
  | .lst xs, _, e => by
    simp only [toPy] at e
    obtain ⟨ds, e1, e2⟩ := Option.map_eq_some_iff.mp e
    simp only [toPyM, toPyMs_of e1, Option.map_some, e2]
  | .ty n, _, e => by simp [toPy] at e
  | .ref a, _, e => by simp [toPy] at e
  | .rol xs, _, e => by simp [toPy] at e
  | .obj C fs, _, e => by simp [toPy] at e
  | .dic kvs, _, e => by simp [toPy] at e
  | .exc a b c fs, _, e => by simp [toPy] at e
  | .fn a G Im, _, e => by simp [toPy] at e
theorem toPyMs_of : ∀ {ds : List D} {ps : List PyData}, toPyAll ds = some ps → toPyMs μ ds = some ps
  | [], _, e => by simp only [toPyAll] at e; simpa only [toPyMs] using e
  | x :: xs, _, e => by
    simp only [toPyAll] at e
    split at e
    · next d ds e1 e2 =>
      cases e
      simp only [toPyMs, toPyM_of e1, toPyMs_of e2]
    · cases e
end
theorem hold_list {a : Addr} {xs : List D} (h : Hold K μ H) (e : μ a = some (.lst xs)) : ∃ vs, H a = some (.lst vs) ∧ DenAll K μ H vs xs := h _ _ e
mutual
theorem Den.dpM : ∀ {v : V} {d : D} {p : PyData}, Den K μ H v d → Hold K μ H → toPyM μ d = some p → Dp K H v p
  | _, _, _, .non, _, e => by simp only [toPyM, Option.some.injEq] at e; subst e; exact .non
  | _, _, _, .bl b, _, e => by simp only [toPyM, Option.some.injEq] at e; subst e; exact .bl b
  | _, _, _, .int i, _, e => by simp only [toPyM, Option.some.injEq] at e; subst e; exact .int i
  | _, _, _, .str s, _, e => by simp only [toPyM, Option.some.injEq] at e; subst e; exact .str s
  | _, _, _, .ty n, _, e => by simp [toPyM] at e
  | _, _, _, .ref a, ho, e => by
    simp only [toPyM] at e
    split at e
    · next xs em =>
      obtain ⟨ds, e1, e2⟩ := Option.map_eq_some_iff.mp e
      subst e2
      obtain ⟨vs, hv, dv⟩ := hold_list ho em
      exact .lst (SqL.of hv) (DenAll.dp dv e1)
    · cases e
  | _, _, _, .tup h r a, ho, e => by
    simp only [toPyM] at e
    obtain ⟨ds, e1, e2⟩ := Option.map_eq_some_iff.mp e
    subst e2
    exact .tup (.inl (.inl r)) (DenAll.dpM a ho e1)
  | _, _, _, .tupK r a, ho, e => by
    simp only [toPyM] at e
    obtain ⟨ds, e1, e2⟩ := Option.map_eq_some_iff.mp e
    subst e2
    exact .tup (r H) (DenAll.dpM a ho e1)
  | _, _, _, .lst h r a, ho, e => by
    simp only [toPyM] at e
    obtain ⟨ds, e1, e2⟩ := Option.map_eq_some_iff.mp e
    subst e2
    exact .lst (SqL.of r) (DenAll.dpM a ho e1)
  | _, _, _, .rol h r a, _, e => by simp [toPyM] at e
  | _, _, _, .rolK r a, _, e => by simp [toPyM] at e
  | _, _, _, .obj h r a, _, e => by simp [toPyM] at e
  | _, _, _, .dic h r a, _, e => by simp [toPyM] at e
theorem DenAll.dpM : ∀ {vs : List V} {ds : List D} {ps : List PyData}, DenAll K μ H vs ds → Hold K μ H → toPyMs μ ds = some ps → DpAll K H vs ps
  | _, _, _, .nil, _, e => by simp only [toPyMs, Option.some.injEq] at e; subst e; exact .nil
  | _, _, _, .cons (d := d) (ds := ds) a b, ho, e => by
    simp only [toPyMs] at e
    cases h1 : toPyM μ d with
    | none => rw [h1] at e; simp at e
    | some p =>
      cases h2 : toPyMs μ ds with
      | none => rw [h1, h2] at e; simp at e
      | some ps =>
        rw [h1, h2] at e
        simp only [Option.some.injEq] at e
        subst e
        exact .cons (Den.dpM a ho h1) (DenAll.dpM b ho h2)
end
end

/-! ### built-in functions -/
def rDB (K : PySem.W.Frag) (ok : List D → Mu → DP → Prop) : List V → Hp → VK → Prop := fun vs H Q => ∃ μ xs P, Hold K μ H ∧ DenAll K μ H vs xs ∧ ok xs μ P ∧ ∀ v H' d μ', Stp μ H μ' H' → Hold K μ' H' → Den K μ' H' v d → P d μ' → Q v H'
section
variable {X : Cx} {PE : XP} {e a b c : Expr} {es : List Expr} {μ : Mu} {ds : DS} {P : DP} {pos : Pos} {Z : Po}
theorem ex_callB {id : String} {x : Str} {p : Pos} {ok : List D → Mu → DP → Prop} (hc : CallR X (.builtin id) (rDB X.K ok)) (h : AX X PE μ ds (e :: es) fun xs μ1 => ok xs μ1 P) (hg : Gl X x) (hm : X.mg x = none) (hv : bootBuiltins x = some (.builtin id)) (hn : x ≠ "__name__" := by decide) (hdb : (x == ("__debug__" : Str)) = false := by decide)
    (he : starEach (e :: es) X.env = (false, eval e X.env) :: starEach es X.env := by rfl) (hpl : (backTo pos (starEach es X.env)).any (·.1) = false := by rfl) : EX X PE μ ds (.Call (.Name x p) (e :: es) [] pos) P :=
  ex_of (pe_callB hc hg hm hv pa_U hn hdb he hpl) fun σ H Q ho hs k => h.at ho hs fun vs H1 xs μ1 s1 h1 b1 n1 q => ⟨μ1, xs, P, h1, n1, q, fun v H' d μ' s2 h2 n2 p2 => k v H' d μ' (s1.trans s2) h2 n2 p2⟩
theorem ex_callT {T : String} {x : Str} {p : Pos} {ok : List D → Mu → DP → Prop} (hc : CallR X (.type T) (rDB X.K ok)) (h : AX X PE μ ds (e :: es) fun xs μ1 => ok xs μ1 P) (hg : Gl X x) (hm : X.mg x = none) (hv : bootBuiltins x = some (.type T)) (hn : x ≠ "__name__" := by decide) (hdb : (x == ("__debug__" : Str)) = false := by decide)
    (he : starEach (e :: es) X.env = (false, eval e X.env) :: starEach es X.env := by rfl) (hpl : (backTo pos (starEach es X.env)).any (·.1) = false := by rfl) : EX X PE μ ds (.Call (.Name x p) (e :: es) [] pos) P :=
  ex_of (pe_callTy hc hg hm hv pa_U hn hdb he hpl) fun σ H Q ho hs k => h.at ho hs fun vs H1 xs μ1 s1 h1 b1 n1 q => ⟨μ1, xs, P, h1, n1, q, fun v H' d μ' s2 h2 n2 p2 => k v H' d μ' (s1.trans s2) h2 n2 p2⟩
theorem DenAll.one {K : PySem.W.Frag} {H : Hp} {vs : List V} {d : D} (h : DenAll K μ H vs [d]) : ∃ v, vs = [v] ∧ Den K μ H v d := by
  cases h with
  | cons a b => cases b; exact ⟨_, rfl, a⟩
theorem DenAll.two {K : PySem.W.Frag} {H : Hp} {vs : List V} {d e : D} (h : DenAll K μ H vs [d, e]) : ∃ v w, vs = [v, w] ∧ Den K μ H v d ∧ Den K μ H w e := by
  cases h with
  | cons a b =>
    obtain ⟨w, rfl, n⟩ := b.one
    exact ⟨_, _, rfl, a, n⟩
/-- len -/
def lenOk : List D → Mu → DP → Prop
  | [.str s], μ, P => s.length ≤ sizeLine ∧ P (.int s.length) μ
  | [.tup l], μ, P => P (.int l.length) μ
  | [.lst l], μ, P => P (.int l.length) μ
  | [.rol l], μ, P => P (.int l.length) μ
  | [.ref a], μ, P => ∃ l, μ a = some (.lst l) ∧ P (.int l.length) μ
  | _, _, _ => False
theorem cr_len : CallR X (.builtin "len") (rDB X.K lenOk) := by
  intro pins s σ H vs us Q I r h
  obtain ⟨μ, xs, P, ho, n, ok, k⟩ := h
  unfold lenOk at ok
  split at ok
  · obtain ⟨v, rfl, n1⟩ := n.one
    exact call_len_str pins s σ H _ us Q I r ⟨_, by rw [n1.inv_str], ok.1, k _ H _ μ (Stp.refl _ _) ho (.int _) ok.2⟩
  · obtain ⟨v, rfl, n1⟩ := n.one
    obtain ⟨a, vs, e1, s1, d1⟩ := n1.inv_tup
    exact call_len_seq pins s σ H _ us Q I r ⟨a, vs, by rw [e1], .inr s1, by rw [d1.length]; exact k _ H _ μ (Stp.refl _ _) ho (.int _) ok⟩
  · obtain ⟨v, rfl, n1⟩ := n.one
    obtain ⟨a, vs, e1, _, s1, d1⟩ := n1.inv_lst
    exact call_len_seq pins s σ H _ us Q I r ⟨a, vs, by rw [e1], .inl (SqL.of s1), by rw [d1.length]; exact k _ H _ μ (Stp.refl _ _) ho (.int _) ok⟩
  · obtain ⟨v, rfl, n1⟩ := n.one
    obtain ⟨a, vs, e1, s1, d1⟩ := n1.inv_rol
    exact call_len_seq pins s σ H _ us Q I r ⟨a, vs, by rw [e1], .inl s1, by rw [d1.length]; exact k _ H _ μ (Stp.refl _ _) ho (.int _) ok⟩
  · obtain ⟨v, rfl, n1⟩ := n.one
    obtain ⟨l, m, p⟩ := ok
    obtain ⟨vs, hv, dv⟩ := ho _ _ m
    exact call_len_seq pins s σ H _ us Q I r ⟨_, vs, by rw [n1.inv_ref], .inl (SqL.of hv), by rw [dv.length]; exact k _ H _ μ (Stp.refl _ _) ho (.int _) p⟩
  · exact ok.elim
/-- abs, int, str, list, tuple -/
def absOk : List D → Mu → DP → Prop
  | [.int i], μ, P => P (.int (if i < 0 then -i else i)) μ
  | _, _, _ => False
theorem cr_abs : CallR X (.builtin "abs") (rDB X.K absOk) := by
  intro pins s σ H vs us Q I r h
  obtain ⟨μ, xs, P, ho, n, ok, k⟩ := h
  unfold absOk at ok
  split at ok
  · obtain ⟨v, rfl, n1⟩ := n.one
    exact call_abs pins s σ H _ us Q I r ⟨_, by rw [n1.inv_int], k _ H _ μ (Stp.refl _ _) ho (.int _) ok⟩
  · exact ok.elim
def intOk : List D → Mu → DP → Prop
  | [.int i], μ, P => P (.int i) μ
  | [.bl b], μ, P => P (.int (if b then 1 else 0)) μ
  | _, _, _ => False
theorem cr_int : CallR X (.type "int") (rDB X.K intOk) := by
  intro pins s σ H vs us Q I r h
  obtain ⟨μ, xs, P, ho, n, ok, k⟩ := h
  unfold intOk at ok
  split at ok
  · obtain ⟨v, rfl, n1⟩ := n.one
    exact call_int1 pins s σ H _ us Q I r (.inl ⟨_, by rw [n1.inv_int], k _ H _ μ (Stp.refl _ _) ho (.int _) ok⟩)
  · obtain ⟨v, rfl, n1⟩ := n.one
    exact call_int1 pins s σ H _ us Q I r (.inr ⟨_, by rw [n1.inv_bl], k _ H _ μ (Stp.refl _ _) ho (.int _) ok⟩)
  · exact ok.elim
def strOk : List D → Mu → DP → Prop
  | [.int i], μ, P => i.natAbs.log2 < 1920 ∧ P (.str (toString i)) μ
  | [.str s], μ, P => P (.str s) μ
  | _, _, _ => False
theorem cr_str : CallR X (.type "str") (rDB X.K strOk) := by
  intro pins s σ H vs us Q I r h
  obtain ⟨μ, xs, P, ho, n, ok, k⟩ := h
  unfold strOk at ok
  split at ok
  · obtain ⟨v, rfl, n1⟩ := n.one
    exact call_str_int pins s σ H _ us Q I r ⟨_, by rw [n1.inv_int], ok.1, k _ H _ μ (Stp.refl _ _) ho (.str _) ok.2⟩
  · obtain ⟨v, rfl, n1⟩ := n.one
    exact SkE.call_str_str pins s σ H _ us Q I r ⟨_, by rw [n1.inv_str], k _ H _ μ (Stp.refl _ _) ho (.str _) ok⟩
  · exact ok.elim
/-- list(x): a list that will not change -/
def listOk : List D → Mu → DP → Prop
  | [.tup l], μ, P => P (.lst l) μ
  | [.lst l], μ, P => P (.lst l) μ
  | [.rol l], μ, P => P (.lst l) μ
  | [.ref a], μ, P => ∃ l, μ a = some (.lst l) ∧ P (.lst l) μ
  | _, _, _ => False
theorem cr_list : CallR X (.type "list") (rDB X.K listOk) := by
  intro pins s σ H vs us Q I r h
  obtain ⟨μ, xs, P, ho, n, ok, k⟩ := h
  have fin : ∀ (ws : List V) (l : List D), DenAll X.K μ H ws l → P (.lst l) μ → ∀ p, H p = none → Q (.ref p) (upd H p (.lst ws)) := fun ws l d p q nq => k _ _ _ μ (Stp.new nq) (ho.new nq) (.lst (ho.free nq) upd_same (d.mono (Stp.new nq))) p
  unfold listOk at ok
  split at ok
  · obtain ⟨v, rfl, n1⟩ := n.one
    obtain ⟨a, ws, e1, s1, d1⟩ := n1.inv_tup
    exact call_list_of pins s σ H _ us Q I r ⟨a, ws, by rw [e1], .inr s1, fin ws _ d1 ok⟩
  · obtain ⟨v, rfl, n1⟩ := n.one
    obtain ⟨a, ws, e1, _, s1, d1⟩ := n1.inv_lst
    exact call_list_of pins s σ H _ us Q I r ⟨a, ws, by rw [e1], .inl (SqL.of s1), fin ws _ d1 ok⟩
  · obtain ⟨v, rfl, n1⟩ := n.one
    obtain ⟨a, ws, e1, s1, d1⟩ := n1.inv_rol
    exact call_list_of pins s σ H _ us Q I r ⟨a, ws, by rw [e1], .inl s1, fin ws _ d1 ok⟩
  · obtain ⟨v, rfl, n1⟩ := n.one
    obtain ⟨l, m, p⟩ := ok
    obtain ⟨ws, hv, dv⟩ := ho _ _ m
    exact call_list_of pins s σ H _ us Q I r ⟨_, ws, by rw [n1.inv_ref], .inl (SqL.of hv), fin ws _ dv p⟩
  · exact ok.elim
def tupleOk : List D → Mu → DP → Prop
  | [.tup l], μ, P => P (.tup l) μ
  | [.lst l], μ, P => P (.tup l) μ
  | [.rol l], μ, P => P (.tup l) μ
  | [.ref a], μ, P => ∃ l, μ a = some (.lst l) ∧ P (.tup l) μ
  | _, _, _ => False
theorem cr_tuple : CallR X (.type "tuple") (rDB X.K tupleOk) := by
  intro pins s σ H vs us Q I r h
  obtain ⟨μ, xs, P, ho, n, ok, k⟩ := h
  have fin : ∀ (ws : List V) (l : List D), DenAll X.K μ H ws l → P (.tup l) μ → ∀ p, H p = none → Q (.ref p) (upd H p (.tup ws)) := fun ws l d p q nq => k _ _ _ μ (Stp.new nq) (ho.new nq) (.tup (ho.free nq) upd_same (d.mono (Stp.new nq))) p
  unfold tupleOk at ok
  split at ok
  · obtain ⟨v, rfl, n1⟩ := n.one
    obtain ⟨a, ws, e1, s1, d1⟩ := n1.inv_tup
    exact call_tuple_of pins s σ H _ us Q I r ⟨a, ws, by rw [e1], .inr ⟨s1, by rw [← e1]; exact k _ H _ μ (Stp.refl _ _) ho n1 ok⟩⟩
  · obtain ⟨v, rfl, n1⟩ := n.one
    obtain ⟨a, ws, e1, _, s1, d1⟩ := n1.inv_lst
    exact call_tuple_of pins s σ H _ us Q I r ⟨a, ws, by rw [e1], .inl ⟨SqL.of s1, fin ws _ d1 ok⟩⟩
  · obtain ⟨v, rfl, n1⟩ := n.one
    obtain ⟨a, ws, e1, s1, d1⟩ := n1.inv_rol
    exact call_tuple_of pins s σ H _ us Q I r ⟨a, ws, by rw [e1], .inl ⟨s1, fin ws _ d1 ok⟩⟩
  · obtain ⟨v, rfl, n1⟩ := n.one
    obtain ⟨l, m, p⟩ := ok
    obtain ⟨ws, hv, dv⟩ := ho _ _ m
    exact call_tuple_of pins s σ H _ us Q I r ⟨_, ws, by rw [n1.inv_ref], .inl ⟨SqL.of hv, fin ws _ dv p⟩⟩
  · exact ok.elim
/-- all, any of a list of bools -/
def allOk : List D → Mu → DP → Prop := fun xs μ P => ∃ bs : List Bool, xs = [.lst (bs.map .bl)] ∧ P (.bl (bs.all id)) μ
def anyOk : List D → Mu → DP → Prop := fun xs μ P => ∃ bs : List Bool, xs = [.lst (bs.map .bl)] ∧ P (.bl (bs.any id)) μ
theorem DenAll.bls {K : PySem.W.Frag} {H : Hp} : ∀ {bs : List Bool} {vs : List V}, DenAll K μ H vs (bs.map .bl) → vs = bs.map V.bl
  | [], _, h => by cases h; rfl
  | b :: bs, _, h => by
    cases h with
    | cons a t => rw [a.inv_bl, DenAll.bls t]; rfl
theorem DenAll.strs {K : PySem.W.Frag} {H : Hp} : ∀ {bs : List Str} {vs : List V}, DenAll K μ H vs (bs.map .str) → vs = bs.map V.str
  | [], _, h => by cases h; rfl
  | b :: bs, _, h => by
    cases h with
    | cons a t => rw [a.inv_str, DenAll.strs t]; rfl
theorem DenAll.ints {K : PySem.W.Frag} {H : Hp} : ∀ {bs : List Int} {vs : List V}, DenAll K μ H vs (bs.map .int) → vs = bs.map V.int
  | [], _, h => by cases h; rfl
  | b :: bs, _, h => by
    cases h with
    | cons a t => rw [a.inv_int, DenAll.ints t]; rfl
theorem cr_allD (hc : X.calm = true) : CallR X (.builtin "all") (rDB X.K allOk) := by
  intro pins s σ H vs us Q I r h
  obtain ⟨μ, xs, P, ho, n, ⟨bs, rfl, ok⟩, k⟩ := h
  obtain ⟨v, rfl, n1⟩ := n.one
  obtain ⟨a, ws, e1, _, s1, d1⟩ := n1.inv_lst
  exact cr_all hc pins s σ H _ us Q I r ⟨a, bs, by rw [e1], by rw [← d1.bls]; exact SqL.of s1, k _ H _ μ (Stp.refl _ _) ho (.bl _) ok⟩
theorem cr_anyD (hc : X.calm = true) : CallR X (.builtin "any") (rDB X.K anyOk) := by
  intro pins s σ H vs us Q I r h
  obtain ⟨μ, xs, P, ho, n, ⟨bs, rfl, ok⟩, k⟩ := h
  obtain ⟨v, rfl, n1⟩ := n.one
  obtain ⟨a, ws, e1, _, s1, d1⟩ := n1.inv_lst
  exact cr_any hc pins s σ H _ us Q I r ⟨a, bs, by rw [e1], by rw [← d1.bls]; exact SqL.of s1, k _ H _ μ (Stp.refl _ _) ho (.bl _) ok⟩
/-- repr of plain data -/
def reprOk : List D → Mu → DP → Prop := fun xs μ P => ∃ x p, xs = [x] ∧ toPyM μ x = some p ∧ p.showable = true ∧ p.depth ≤ 60 ∧ p.shown.length ≤ sizeLine ∧ P (.str p.shown) μ
mutual
theorem noDict_toPy : ∀ {d : D} {p : PyData}, toPy d = some p → p.hasDict = false
  | .non, _, e => by simp only [toPy, Option.some.injEq] at e; subst e; rfl
  | .bl b, _, e => by simp only [toPy, Option.some.injEq] at e; subst e; rfl
  | .int i, _, e => by simp only [toPy, Option.some.injEq] at e; subst e; rfl
  | .str s, _, e => by simp only [toPy, Option.some.injEq] at e; subst e; rfl
  | .ty n, _, e => by simp [toPy] at e
  | .ref a, _, e => by simp [toPy] at e
  | .tup xs, _, e => by
    simp only [toPy] at e
    obtain ⟨ds, e1, e2⟩ := Option.map_eq_some_iff.mp e
    subst e2
    simp only [PyData.hasDict]
    exact noDictAll_toPy e1
  | .lst xs, _, e => by
    simp only [toPy] at e
    obtain ⟨ds, e1, e2⟩ := Option.map_eq_some_iff.mp e
    subst e2
    simp only [PyData.hasDict]
    exact noDictAll_toPy e1
  | .rol xs, _, e => by simp [toPy] at e
  | .obj C fs, _, e => by simp [toPy] at e
  | .exc a dd C fs, _, e => by simp [toPy] at e
  | .fn a G Im, _, e => by simp [toPy] at e
  | .dic kvs, _, e => by simp [toPy] at e
theorem noDictAll_toPy : ∀ {ds : List D} {ps : List PyData}, toPyAll ds = some ps → PyData.hasDictAll ps = false
  | [], _, e => by simp only [toPyAll, Option.some.injEq] at e; subst e; rfl
  | d :: ds, _, e => by
    simp only [toPyAll] at e
    cases h1 : toPy d with
    | none => rw [h1] at e; simp at e
    | some p =>
      cases h2 : toPyAll ds with
      | none => rw [h1, h2] at e; simp at e
      | some ps =>
        rw [h1, h2] at e
        simp only [Option.some.injEq] at e
        subst e
        simp only [PyData.hasDictAll, noDict_toPy h1, noDictAll_toPy h2, Bool.or_self]
end
mutual
theorem noDict_toPyM {μ : Mu} : ∀ {d : D} {p : PyData}, toPyM μ d = some p → p.hasDict = false
  | .non, _, e => by simp only [toPyM, Option.some.injEq] at e; subst e; rfl
  | .bl b, _, e => by simp only [toPyM, Option.some.injEq] at e; subst e; rfl
  | .int i, _, e => by simp only [toPyM, Option.some.injEq] at e; subst e; rfl
  | .str s, _, e => by simp only [toPyM, Option.some.injEq] at e; subst e; rfl
  | .ty n, _, e => by simp [toPyM] at e
  | .ref a, _, e => by
    simp only [toPyM] at e
    split at e
    · next xs em =>
      obtain ⟨ds, e1, e2⟩ := Option.map_eq_some_iff.mp e
      subst e2
      simp only [PyData.hasDict]
      exact noDictAll_toPy e1
    · cases e
  | .tup xs, _, e => by
    simp only [toPyM] at e
    obtain ⟨ds, e1, e2⟩ := Option.map_eq_some_iff.mp e
    subst e2
    simp only [PyData.hasDict]
    exact noDictAll_toPyM e1
  | .lst xs, _, e => by
    simp only [toPyM] at e
    obtain ⟨ds, e1, e2⟩ := Option.map_eq_some_iff.mp e
    subst e2
    simp only [PyData.hasDict]
    exact noDictAll_toPyM e1
  | .rol xs, _, e => by simp [toPyM] at e
  | .obj C fs, _, e => by simp [toPyM] at e
  | .exc a dd C fs, _, e => by simp [toPyM] at e
  | .fn a G Im, _, e => by simp [toPyM] at e
  | .dic kvs, _, e => by simp [toPyM] at e
theorem noDictAll_toPyM {μ : Mu} : ∀ {ds : List D} {ps : List PyData}, toPyMs μ ds = some ps → PyData.hasDictAll ps = false
  | [], _, e => by simp only [toPyMs, Option.some.injEq] at e; subst e; rfl
  | d :: ds, _, e => by
    simp only [toPyMs] at e
    cases h1 : toPyM μ d with
    | none => rw [h1] at e; simp at e
    | some p =>
      cases h2 : toPyMs μ ds with
      | none => rw [h1, h2] at e; simp at e
      | some ps =>
        rw [h1, h2] at e
        simp only [Option.some.injEq] at e
        subst e
        simp only [PyData.hasDictAll, noDict_toPyM h1, noDictAll_toPyM h2, Bool.or_self]
end
theorem cr_repr {k0 : Nat} (hr : Rm k0 X.A) : CallR X (.builtin "repr") (rDB X.K reprOk) := by
  intro pins s σ H vs us Q I r h
  obtain ⟨μ, xs, P, ho, n, ⟨x, p, rfl, hp, hsh, hd, hz, ok⟩, k⟩ := h
  obtain ⟨v, rfl, n1⟩ := n.one
  obtain ⟨u, rfl, r1⟩ := vals1 r
  obtain ⟨as, rd⟩ := Dp.reads I p v u (n1.dpM ho hp) r1
  have hu := hr.r.units
  have fin : ∀ (h' : Heap) (w : Tok) (tk : Nat), (∀ b o, s.heap.get? b = some o → h'.get? b = some o) → EP X pins σ Q (.str p.shown w) { s with heap := h', toks := tk } := fun h' w tk hk => ⟨.str p.shown, H, I.kept hk, ⟨w, rfl⟩, k _ H _ μ (Stp.refl _ _) ho (.str _) ok⟩
  cases rd with
  | none => exact PySem.P.repr_of_none (fin s.heap _ _ fun _ _ e => e)
  | bool b => exact PySem.P.repr_of_bool (by cases b <;> exact fin s.heap _ _ fun _ _ e => e)
  | int i t => exact PySem.P.repr_of_int (by simpa [PyData.showable] using hsh) (fin s.heap _ _ fun _ _ e => e)
  | str y t => exact PySem.P.repr_of_str (fin s.heap _ _ fun _ _ e => e) hz
  | list h1 h2 h3 h4 => exact repr_of_reads' (.list h1 h2 h3 h4) hsh (fun q => by rw [noDict_toPyM hp] at q; cases q) hr.g (by omega) (fun _ _ e => e) (fun h' w tk hk => fin h' w tk hk) hz
  | tuple h1 h2 h3 h4 => exact repr_of_reads' (.tuple h1 h2 h3 h4) hsh (fun q => by rw [noDict_toPyM hp] at q; cases q) hr.g (by omega) (fun _ _ e => e) (fun h' w tk hk => fin h' w tk hk) hz
  | dict h1 h2 h3 h4 h5 => have := noDict_toPyM hp; simp [PyData.hasDict] at this

/-! ### slices -/
def cutL {α : Type} (xs : List α) (lo hi : Option Int) : List α := (xs.drop (HT.sIx xs.length 0 lo)).take (HT.sIx xs.length xs.length hi - HT.sIx xs.length 0 lo)
def slOk : D → Option Int → Option Int → (D → Prop) → Prop
  | .str s, lo, hi, P => s.length ≤ sizeLine ∧ P (.str (cutS s lo hi))
  | .tup l, lo, hi, P => P (.tup (cutL l lo hi))
  | .lst l, lo, hi, P => P (.lst (cutL l lo hi))
  | .rol l, lo, hi, P => P (.lst (cutL l lo hi))
  | _, _, _, _ => False
def rDS (K : PySem.W.Frag) : V → Option Int → Option Int → Hp → VK → Prop := fun x lo hi H Q => ∃ μ dx R, Hold K μ H ∧ Den K μ H x dx ∧ slOk dx lo hi R ∧ ∀ v H' d, Stp μ H μ H' → Hold K μ H' → Den K μ H' v d → R d → Q v H'
theorem DenAll.cut {K : PySem.W.Frag} {H : Hp} {vs : List V} {xs : List D} (h : DenAll K μ H vs xs) (lo hi : Option Int) : DenAll K μ H (cutV vs lo hi) (cutL xs lo hi) := by
  unfold cutV cutL
  rw [h.length]
  exact (h.drop _).take _
theorem sl_D : SlR X (rDS X.K) := by
  intro pins s σ H x v vl vu lo hi sl Q I rx hs pl pu h
  obtain ⟨μ, dx, R, ho, n, ok, k⟩ := h
  unfold slOk at ok
  split at ok
  · exact sl_str pins s σ H x v vl vu lo hi sl Q I rx hs pl pu ⟨_, n.inv_str, ok.1, k _ H _ (Stp.refl _ _) ho (.str _) ok.2⟩
  · obtain ⟨a, ws, e1, s1, d1⟩ := n.inv_tup
    refine sl_tupA pins s σ H x v vl vu lo hi sl Q I rx hs pl pu ⟨a, ws, e1, s1, fun q => ?_, fun q p np => k _ _ _ (Stp.new np) (ho.new np) (.tup (ho.free np) upd_same ((d1.cut lo hi).mono (Stp.new np))) ok⟩
    rw [← e1]
    refine k _ H _ (Stp.refl _ _) ho n ?_
    rename_i l
    have e : cutL l lo hi = l := by
      unfold cutL
      rw [← d1.length, q.1, q.2, d1.length]
      simp
    rw [e] at ok
    exact ok
  · obtain ⟨a, ws, e1, _, s1, d1⟩ := n.inv_lst
    exact sl_list pins s σ H x v vl vu lo hi sl Q I rx hs pl pu ⟨a, ws, e1, SqL.of s1, fun p np => k _ _ _ (Stp.new np) (ho.new np) (.lst (ho.free np) upd_same ((d1.cut lo hi).mono (Stp.new np))) ok⟩
  · obtain ⟨a, ws, e1, s1, d1⟩ := n.inv_rol
    exact sl_list pins s σ H x v vl vu lo hi sl Q I rx hs pl pu ⟨a, ws, e1, s1, fun p np => k _ _ _ (Stp.new np) (ho.new np) (.lst (ho.free np) upd_same ((d1.cut lo hi).mono (Stp.new np))) ok⟩
  · exact ok.elim
/-- a part of a slice -/
structure OX (X : Cx) (PE : XP) (μ : Mu) (ds : DS) (e : Option Expr) (P : Option Int → Mu → Prop) : Prop where
  po : PO X e (fun σ H Q => Hold X.K μ H ∧ Sl X PE μ H σ ds ∧ ∀ o H' μ', Stp μ H μ' H' → Hold X.K μ' H' → P o μ' → Q o H')
def tUO (X : Cx) (e : Option Expr) : TO := fun σ H Q => ∃ t, PO X e t ∧ t σ H Q
theorem po_U {e : Option Expr} : PO X e (tUO X e) := ⟨fun pins s σ H Q I h => by obtain ⟨t, p, h⟩ := h; exact p.run pins s σ H Q I h⟩
theorem ox_none {P : Option Int → Mu → Prop} (h : P none μ) : OX X PE μ ds none P := ⟨⟨fun pins s σ H Q I ⟨ho, hs, k⟩ => po_none.run pins s σ H Q I (k none H μ (Stp.refl _ _) ho h)⟩⟩
theorem ox_some {P : Option Int → Mu → Prop} (h : EX X PE μ ds e fun d μ' => ∃ i, d = .int i ∧ P (some i) μ') : OX X PE μ ds (some e) P := ⟨⟨fun pins s σ H Q I ⟨ho, hs, k⟩ => (po_some pe_U).run pins s σ H Q I (h.at ho hs fun v H1 d μ1 s1 h1 b1 n1 ⟨i, e, p⟩ => by
  subst e
  exact ⟨i, n1.inv_int, k _ H1 μ1 s1 h1 p⟩)⟩⟩
theorem ex_slice {lo hi : Option Expr} {p2 : Pos} (h : EX X PE μ ds e fun x μ1 => OX X PE μ1 ds lo fun l μ2 => OX X PE μ2 ds hi fun u μ3 => slOk x l u fun z => P z μ3) : EX X PE μ ds (.Subscript e (.Slice lo hi none p2) pos) P :=
  ex_of (pe_slice sl_D pe_U po_U po_U) fun σ H Q ho hs k => h.at ho hs fun v H1 x μ1 s1 h1 b1 n1 p => ⟨_, p.po, h1, b1, fun l H2 μ2 s2 h2 p2 => ⟨_, p2.po, h2, b1.mono s2, fun u H3 μ3 s3 h3 p3 =>
    ⟨μ3, x, _, h3, (n1.mono s2).mono s3, p3, fun w H4 d s4 h4 n4 r => k w H4 d μ3 (((s1.trans s2).trans s3).trans s4) h4 n4 r⟩⟩⟩

/-! ### xs[i] = d, of a list that changes -/
theorem gx_sub {o i : Expr} {d : D} {R : DS → Mu → Prop} (h : EX X PE μ ds o fun x μ1 => EX X PE μ1 ds i fun y μ2 => ∃ p xs k j, x = .ref p ∧ y = .int k ∧ μ2 p = some (.lst xs) ∧ ixN xs.length k = some j ∧ R ds (mset μ2 p (.lst (xs.set j d))))
    (ha : ∀ v, assign (.Subscript o i pos) X.env v = (do
      let ov ← holding [v] (eval o X.env)
      let iv ← holding [v, ov] (eval i X.env)
      standAt pos
      holding [v, ov, iv] (setItem ov iv v)
      release [v, ov, iv] []) := by intro _; rfl) : GX X PE μ ds (.Subscript o i pos) d R :=
  ⟨⟨fun pins s σ H v u Q I r ⟨ho, hs, n, k⟩ => (L2.pg_sub pe_U pe_U set_list ha).run pins s σ H v u Q I r (h.at ho hs fun ov H1 x μ1 s1 h1 b1 n1 q => q.at h1 b1 fun iv H2 y μ2 s2 h2 b2 n2 ⟨p, xs, kk, j, e1, e2, m, e3, z⟩ => by
    subst e1 e2
    obtain ⟨vs, hv, dv⟩ := h2 p _ m
    have sw : Stp μ2 H2 (mset μ2 p (.lst (xs.set j d))) (upd H2 p (.lst (vs.set j v))) := Stp.write m
    have n3 := (n.mono s1).mono s2
    exact ⟨p, vs, kk, j, n1.inv_ref, n2.inv_int, hv, by rw [dv.length]; exact e3, k σ _ ds _ ((s1.trans s2).trans sw) (h2.write (c := .lst (xs.set j d)) m ⟨_, upd_same, (dv.set j n3).mono sw⟩) (b2.mono sw) z⟩)⟩⟩

/-! ### sep.join(l) -/
def joinOk (s : Str) (y : D) (K : Str → Prop) : Prop := ∃ (ys : List Str), (y = .lst (ys.map .str) ∨ y = .tup (ys.map .str)) ∧ (ys.map (·.length)).sum + ys.length * s.length ≤ 16777216 ∧ K (Txt.join s ys)
theorem ex_join {o : Expr} {apos : Pos} (h : EX X PE μ ds o fun x μ1 => ∃ s : Str, x = .str s ∧ EX X PE μ1 ds e fun y μ2 => joinOk s y fun z => P (.str z) μ2)
    (hs : starEach [e] X.env = [(false, eval e X.env)] := by rfl) (hbase : attributeBase o "join" X.env (eval o X.env) = eval o X.env := by rfl) (hline : (apos.endLine == pos.line) = true := by rfl) : EX X PE μ ds (.Call (.Attribute o "join" apos) [e] [] pos) P :=
  ex_of (pe_join pe_U pe_U hs hbase hline) fun σ H Q ho hs k => h.at ho hs fun v H1 x μ1 s1 h1 b1 n1 ⟨st, e1, q⟩ => by
    subst e1
    refine ⟨⟨st, n1.inv_str⟩, q.at h1 b1 fun w H2 y μ2 s2 h2 b2 n2 ⟨ys, e2, hz, p⟩ => ?_⟩
    · rcases e2 with e2 | e2 <;> subst e2
      · obtain ⟨a, ws, e3, _, q1, d1⟩ := n2.inv_lst
        exact ⟨st, a, ys, n1.inv_str, by rw [e3], .inl (by rw [← d1.strs]; exact SqL.of q1), hz, k _ H2 _ μ2 (s1.trans s2) h2 (.str _) p⟩
      · obtain ⟨a, ws, e3, q1, d1⟩ := n2.inv_tup
        exact ⟨st, a, ys, n1.inv_str, by rw [e3], .inr (by rw [← d1.strs]; exact q1), hz, k _ H2 _ μ2 (s1.trans s2) h2 (.str _) p⟩
end
end Hw
set_option Elab.async false
set_option linter.all false
set_option maxRecDepth 100000
set_option maxHeartbeats 1000000
namespace Hw
open PySem L2 PyProof.Rows

/-! ### isinstance -/
def tyD : D → Option Value
  | .non => some (.type "NoneType")
  | .bl _ => some (.type "bool")
  | .int _ => some (.type "int")
  | .str _ => some (.type "str")
  | .tup _ => some (.type "tuple")
  | .lst _ => some (.type "list")
  | .dic _ => some (.type "dict")
  | .obj C _ => some (.ref C)
  | _ => none
/-- what isinstance asks of an own class -/
structure IsC (K : PySem.W.Frag) (C : Addr) : Prop where
  cl : Cls K C
  ha : PySem.W.findIn K (.ref C) "__class__" = some (some (.builtin "object.__class__"))
  hn : PySem.W.specialIn K (.builtin "object.__class__") "__get__" = some (some (.builtin "getset_descriptor.__get__"))
  ht : PySem.W.takesIn K (.builtin "object.__class__") = some true
  hm : PySem.W.mroIn K C (.type "object") = some true
def clsD : D → Option Value
  | .ty n => some (.type n)
  | .ref C => some (.ref C)
  | _ => none
def clsAll : List D → Option (List Value)
  | [] => some []
  | d :: ds => match clsD d, clsAll ds with
    | some u, some us => some (u :: us)
    | _, _ => none
section
variable {X : Cx} {PE : XP} {e a b c : Expr} {es : List Expr} {μ : Mu} {ds : DS} {P : DP} {pos : Pos} {Z : Po}
theorem Den.tyx {K : PySem.W.Frag} {H : Hp} {v : V} {d : D} {t : Value} (h : Den K μ H v d) (e : tyD d = some t) (ho : ∀ C fs, d = .obj C fs → IsC K C) : TyX K H v t := by
  cases h with
  | non => cases e; exact .base .non
  | bl b => cases e; exact .base (.bl b)
  | int i => cases e; exact .base (.int i)
  | str s => cases e; exact .base (.str s)
  | ty n => cases e
  | ref a => cases e
  | tup q r t => cases e; exact .base (.tup r)
  | tupK r t =>
    cases e
    rcases r (fun _ => none) with r | ⟨o, _, _, h1, h2, _⟩
    · rcases r with r | ⟨_, r⟩ <;> cases r
    · exact .kTuple h1 h2
  | lst q r t => cases e; exact .base (.lst r)
  | rol q r t => cases e
  | rolK r t => cases e
  | obj q r t =>
    cases e
    have i := ho _ _ rfl
    exact .base (.ins r i.cl i.ha i.hn i.ht i.hm)
  | exc q r t => cases e
  | fn r => cases e
  | dic q r t => cases e; exact .base (.dK r)
theorem Den.cls {K : PySem.W.Frag} {H : Hp} {v : V} {d : D} {u : Value} (h : Den K μ H v d) (e : clsD d = some u) : ClsV v u := by
  cases h <;> cases e
  · exact .ty _
  · exact .own _
theorem DenAll.cls {K : PySem.W.Frag} {H : Hp} : ∀ {vs : List V} {ds : List D} {us : List Value}, DenAll K μ H vs ds → clsAll ds = some us → Paired ClsV vs us
  | _, _, _, .nil, e => by cases e; exact .nil
  | _, _, _, .cons (d := d) (ds := ds) a t, e => by
    unfold clsAll at e
    split at e
    · rename_i h1 h2
      cases e
      exact .cons (a.cls h1) (t.cls h2)
    · cases e
def isiOk (K : PySem.W.Frag) : List D → Mu → DP → Prop := fun xs μ P => ∃ x c t b, xs = [x, c] ∧ tyD x = some t ∧ (∀ C fs, x = .obj C fs → IsC K C) ∧
  ((∃ u, clsD c = some u ∧ PySem.W.kitOne K t u = some b) ∨ ∃ cs us, c = .tup cs ∧ clsAll cs = some us ∧ μ = μ ∧ PySem.W.kitAny K t us = some b) ∧ P (.bl b) μ
theorem cr_isi : CallR X (.builtin "isinstance") (rDB X.K (isiOk X.K)) := by
  intro pins s σ H vs us Q I r h
  obtain ⟨μ, xs, P, ho, n, ⟨x, c, t, b, rfl, ht, hi, hc, ok⟩, k⟩ := h
  obtain ⟨v, w, rfl, n1, n2⟩ := n.two
  rcases hc with ⟨u, hu, hk⟩ | ⟨cs, us', rfl, hu, _, hk⟩
  · exact call_isi pins s σ H _ us Q I r ⟨v, w, t, u, b, rfl, n2.cls hu, n1.tyx ht hi, hk, k _ H _ μ (Stp.refl _ _) ho (.bl _) ok⟩
  · cases n2 with
    | tup q rr t2 => exact call_isiT pins s σ H _ us Q I r ⟨v, _, _, t, us', b, rfl, rr, t2.cls hu, n1.tyx ht hi, hk, k _ H _ μ (Stp.refl _ _) ho (.bl _) ok⟩
    | tupK rr t2 =>
      rcases rr (fun _ => none) with r0 | ⟨o, its, m, h1, h2, h3, h4, h5⟩
      · rcases r0 with r0 | ⟨_, r0⟩ <;> cases r0
      · have e1 := ClsV.all (t2.cls hu) h5
        obtain ⟨oc, od, dt, sl⟩ := o
        simp only at h2 h3
        subst h2 h3
        refine call_isiK pins s σ H _ us Q I r ⟨v, _, od, us', m, sl, t, b, rfl, ?_, n1.tyx ht hi, hk, k _ H _ μ (Stp.refl _ _) ho (.bl _) ok⟩
        rw [h1, ← e1]
end

/-! ### the law's own end -/
section
variable {P : Program} {w : World} {K : PySem.W.Frag} {mg mb : Str → Option Value} {k : Nat} {fa a : Addr} {fd : FuncData} {x : Str} {C : CT} {s1 : Shared} {vs : List Value} {ns : List Int}
/-- what the law's call leaves -/
def Done (s1 : Shared) (r : Result) (s' : Shared) : Prop := r = .ok (.ret (.bool true)) ∧ OldK s1.heap s'.heap ∧ s'.os = s1.os ∧ AllBare s'.gens
theorem law_core {H : Hp} (KX : K.In s1.heap) (hns : s1.heap.Ns mainGlobals mg) (hb : s1.heap.Ns builtinsNs mb) (hbb : ∀ x : Str, x ≠ "__name__" → mb x = bootBuiltins x) (hlim : s1.heap.NoLimit) (hgs : s1.gens = #[])
    (ha : s1.heap.get? a = some { cls := .type "list", data := .seq vs.toArray }) (hr : Rm k callerA) (F : ∀ base : Heap, K.In base → base.Ns mainGlobals mg → FnG P w K mg base k fa fd [x] C) (hbind : ∀ (s : Shared) (u : Value), BindsTo s fd ⟨[u], []⟩ [(x, u)])
    (hC : C [.rol (ns.map .int)] (fun _ => none) (fun d _ => d = .bl true) noX)
    (hS : Den K (fun _ => none) H (.ref a) (.rol (ns.map .int))) (hok : HOk P w H s1.heap) (only : ∀ b u, H b = some u → b = a ∧ K.lookup a = none ∧ ∃ o xs, u = .frz o (.lst xs)) :
    codeAny (model P w) callerA (.call (.ref fa) ⟨[.ref a], []⟩) (Done s1) s1 := by
  -- the ground is the heap without the script
  have other : ∀ {b : Addr} {o : Obj}, s1.heap.get? b = some o → (b = a → False) → (hidT s1.heap H).get? b = some o := fun {b o} e nb => hidT_get e (by
    cases q : H b with
    | none => rfl
    | some u => exact (nb (only b u q).1).elim)
  have space : ∀ {b : Addr} {m : Str → Option Value}, s1.heap.Ns b m → (hidT s1.heap H).Ns b m := fun {b m} ⟨o, es, ep, e, d, rst⟩ => ⟨o, es, ep, other e (fun z => by
    rw [z, ha] at e
    have e1 := (Option.some.inj e).symm
    subst e1
    simp at d), d, rst⟩
  have kin : K.In (hidT s1.heap H) := fun b o e => by
    cases q : H b with
    | none => exact hidT_get (KX b o e) q
    | some u =>
      obtain ⟨rfl, h2, _⟩ := only b u q
      rw [h2] at e; cases e
  have hM : Mod K mg (hidT s1.heap H) := ⟨kin, space hns, ⟨mb, space hb, hbb⟩, by obtain ⟨mc, h1, h2⟩ := hlim; exact ⟨mc, space h1, h2⟩⟩
  have e0 : Env0 P w K mg (hidT s1.heap H) callerA [] s1 H := { frames := rfl, mod := hM, bs := fun b o e => of_hidT e, bsz := by rw [hidT_size]; exact Nat.le_refl _, funs := trivial, frf := fun b hb => absurd hb (by simp [frs]), hok := hok, bare := .of_eq hgs }
  have run := (F _ kin (space hns)).run callerA [] s1 H ⟨[.ref a], []⟩ [.ref a] [.ref a] (fun v _ => v = .bl true) (fun _ _ _ => False) hr e0 (hbind s1 (.ref a)) (.cons rfl .nil)
    ⟨fun _ => none, [.rol (ns.map .int)], fun d _ => d = .bl true, noX, (fun _ _ e => by cases e), .cons hS .nil, hC, fun v H' d μ' _ _ n p => by subst p; exact n.inv_bl, fun Ca dd H' fs vfs μ' _ _ _ _ p => False.elim p⟩
  refine codeAny_mono run fun r s' h => ?_
  match r, h with
  | .error e, ⟨_, _, _, _, _, _, _, _, _, _, _, _, h⟩ => exact False.elim h
  | .ok (.ret u), ⟨v, H', os, bare, un, hok', r', q⟩ =>
    subst q
    cases r'
    refine ⟨rfl, OldK.of_keep fun b o e => ?_, os, bare⟩
    cases q : H b with
    | none => exact un.keep b o e q (by simp [frs]) (by simp)
    | some u =>
      obtain ⟨_, _, ob, xs, rfl⟩ := only b u q
      have z1 := hok b _ q
      have z2 := hok' b _ (un.frzs b ob _ q)
      have z1 := z1.1
      have z2 := z2.1
      rw [e] at z1
      cases z1
      exact z2
theorem law_end (KX : K.In s1.heap) (hns : s1.heap.Ns mainGlobals mg) (hb : s1.heap.Ns builtinsNs mb) (hbb : ∀ x : Str, x ≠ "__name__" → mb x = bootBuiltins x) (hlim : s1.heap.NoLimit) (hgs : s1.gens = #[])
    (ha : s1.heap.get? a = some { cls := .type "list", data := .seq vs.toArray }) (hi : IntsAre vs ns) (hl : ns.length ≤ sizeLine) (hr : Rm k callerA)
    (F : ∀ base : Heap, K.In base → base.Ns mainGlobals mg → FnG P w K mg base k fa fd [x] C) (hbind : ∀ (s : Shared) (u : Value), BindsTo s fd ⟨[u], []⟩ [(x, u)])
    (hC : C [.rol (ns.map .int)] (fun _ => none) (fun d _ => d = .bl true) noX) : codeAny (model P w) callerA (.call (.ref fa) ⟨[.ref a], []⟩) (Done s1) s1 := by
  have rv := vals_ints hi
  have den : ∀ H, DenAll K (fun _ => none) H (ns.map V.int) (ns.map .int) := fun H => by
    clear ha hi hl rv hC
    induction ns with
    | nil => exact .nil
    | cons n r ih => exact .cons (.int n) ih
  cases hk : K.lookup a with
  | some o =>
    have e := KX a o hk
    rw [ha] at e
    cases e
    exact law_core (H := fun _ => none) KX hns hb hbb hlim hgs ha hr F hbind hC (.rolK (fun H' => .inr ⟨_, vs.toArray, _, hk, rfl, rfl, rfl, by rw [List.size_toArray, hi.length]; exact hl, by simpa using rv⟩) (den _)) (fun b u z => by cases z) fun b u z => by cases z
  | none =>
    have at_ : ∀ {b : Addr} {u : HO}, (fun b => if b = a then some (HO.frz { cls := .type "list", data := .seq vs.toArray } (.lst (ns.map V.int))) else none) b = some u → b = a ∧ u = .frz { cls := .type "list", data := .seq vs.toArray } (.lst (ns.map V.int)) := fun {b u} z => by
      by_cases hb : b = a
      · exact ⟨hb, (Option.some.inj ((if_pos hb).symm.trans z)).symm⟩
      · have := (if_neg hb).symm.trans z
        cases this
    refine law_core (H := fun b => if b = a then some (.frz { cls := .type "list", data := .seq vs.toArray } (.lst (ns.map V.int))) else none) KX hns hb hbb hlim hgs ha hr F hbind hC (.rol rfl (.inr ⟨_, if_pos rfl⟩) (den _)) (fun b u z => ?_) fun b u z => ?_
    · obtain ⟨rfl, rfl⟩ := at_ z
      exact ⟨ha, by rw [List.length_map]; exact hl, vs, _, rv, ha⟩
    · obtain ⟨rfl, rfl⟩ := at_ z
      exact ⟨rfl, hk, _, _, rfl⟩
end
/-- the goal that the head leaves -/
theorem walk_end {l : PySem.W.OpenLaw} {n k : Nat} {q : Program} {loose : List Str} {XP : (Str → Option Value) → Heap → Prop} {YP : World → Heap → Prop} {d : DefRec} {K : Params → PySem.W.Frag} {x : Str} {C : CT}
    (hn : l.most = some n) (hn2 : n ≤ sizeLine) (hdf : d.params.defaults = []) (hr : Rm k callerA) (hY : ∀ (w : World) (h : Heap), YP w h → (K w.params).In h)
    (F : ∀ (w : World) (mg : Str → Option Value) (fa : Addr) (h : Heap), (K w.params).In h → h.Ns mainGlobals mg → mg d.name = some (.ref fa) →
      ∃ fd : FuncData, (∀ (s : Shared) (u : Value), BindsTo s fd ⟨[u], []⟩ [(x, u)]) ∧ ∀ base : Heap, (K w.params).In base → base.Ns mainGlobals mg → FnG l.prog w (K w.params) mg base k fa fd [x] C)
    (hC : ∀ ns : List Int, ns.length ≤ n → (∀ z ∈ ns, Builtin.Int.intBits z ≤ 1048576) → C [.rol (ns.map .int)] (fun _ => none) (fun d _ => d = .bl true) noX) :
    PySem.W.WalkO q loose XP YP l.row.toRowW d [] (fun f vs => PySem.call f vs) := by
  refine Att.attach_callB hn hdf fun w s0 s1 mg mb fa o pm cd doc a vs ns G Y ho hd hcd hmg hobj hints hlen hbits hg => ?_
  obtain ⟨fd, hb, hF⟩ := F w mg fa _ (hY w _ Y) G.T.g hmg
  exact law_end (hY w _ Y) G.T.g G.T.b G.T.builtins G.T.nolimit hg hobj hints (Nat.le_trans hlen hn2) hr hF hb (hC ns hlen hbits)
end Hw
set_option Elab.async false
set_option linter.all false
set_option maxRecDepth 100000
set_option maxHeartbeats 1000000
namespace Hw
open PySem L2 PyProof.Rows

/-! ### what the operators ask, case by case -/
section
variable {P : D → Prop} {i j : Int} {s t : Str} {xs ys : List D}
theorem b_addI (h : P (.int (i + j))) : binOk .Add (.int i) (.int j) P := h
theorem b_subI (h : P (.int (i - j))) : binOk .Sub (.int i) (.int j) P := h
theorem b_mulI (c : CMul i j ∨ CMulW i j) (h : P (.int (i * j))) : binOk .Mult (.int i) (.int j) P := ⟨c, h⟩
theorem b_divI (c : 0 < j ∧ j.natAbs.log2 < 9000) (h : P (.int (i / j))) : binOk .FloorDiv (.int i) (.int j) P := ⟨⟨by omega, c.2⟩, by rw [Int.fdiv_eq_ediv_of_nonneg i (by omega)]; exact h⟩
theorem b_divZ (c : j ≠ 0 ∧ j.natAbs.log2 < 9000) (h : P (.int (i.fdiv j))) : binOk .FloorDiv (.int i) (.int j) P := ⟨c, h⟩
theorem b_modI (c : 0 < j) (h : P (.int (i % j))) : binOk .Mod (.int i) (.int j) P := ⟨by omega, by rw [Int.fmod_eq_emod_of_nonneg i (by omega)]; exact h⟩
theorem b_powI (c : CPow i j) (h : P (.int (i ^ j.toNat))) : binOk .Pow (.int i) (.int j) P := ⟨c, h⟩
theorem b_addS (c : s.length + t.length ≤ sizeLine) (h : P (.str (s ++ t))) : binOk .Add (.str s) (.str t) P := ⟨c, h⟩
theorem b_addT (c : xs.length + ys.length ≤ sizeLine) (h : P (.tup (xs ++ ys))) : binOk .Add (.tup xs) (.tup ys) P := ⟨c, h⟩
theorem b_addL (c : xs.length + ys.length ≤ sizeLine) (h : P (.lst (xs ++ ys))) : binOk .Add (.lst xs) (.lst ys) P := ⟨c, h⟩
theorem b_repL (c : -(2 ^ 63) ≤ j ∧ j < 2 ^ 63 ∧ xs.length * j.toNat ≤ sizeLine) (h : P (.lst (List.replicate j.toNat xs).flatten)) : binOk .Mult (.lst xs) (.int j) P := ⟨c, h⟩
end
section
variable {P : Bool → Prop} {i j : Int} {s t : Str} {b c : Bool} {x : D} {xs ys : List D} {a : Addr} {fs : List (Str × D)}
theorem c_lt (h : P (decide (i < j))) : cmpOk .Lt (.int i) (.int j) P := h
theorem c_le (h : P (decide (i ≤ j))) : cmpOk .LtE (.int i) (.int j) P := h
theorem c_gt (h : P (decide (j < i))) : cmpOk .Gt (.int i) (.int j) P := h
theorem c_ge (h : P (decide (j ≤ i))) : cmpOk .GtE (.int i) (.int j) P := h
theorem dV_int : decide (V.int i = V.int j) = decide (i = j) := by by_cases h : i = j <;> simp [h]
theorem dV_str : decide (V.str s = V.str t) = decide (s = t) := by by_cases h : s = t <;> simp [h]
theorem dV_bl : decide (V.bl b = V.bl c) = decide (b = c) := by by_cases h : b = c <;> simp [h]
theorem c_eqI (h : P (decide (i = j))) : cmpOk .Eq (.int i) (.int j) P := ⟨rfl, rfl, rfl, by show P (decide (V.int i = V.int j)); rw [dV_int]; exact h⟩
theorem c_neI (h : P (!decide (i = j))) : cmpOk .NotEq (.int i) (.int j) P := ⟨rfl, rfl, rfl, by show P (!decide (V.int i = V.int j)); rw [dV_int]; exact h⟩
theorem c_eqS (h : P (decide (s = t))) : cmpOk .Eq (.str s) (.str t) P := ⟨rfl, rfl, rfl, by show P (decide (V.str s = V.str t)); rw [dV_str]; exact h⟩
theorem c_neS (h : P (!decide (s = t))) : cmpOk .NotEq (.str s) (.str t) P := ⟨rfl, rfl, rfl, by show P (!decide (V.str s = V.str t)); rw [dV_str]; exact h⟩
theorem c_eqB (h : P (decide (b = c))) : cmpOk .Eq (.bl b) (.bl c) P := ⟨rfl, rfl, rfl, by show P (decide (V.bl b = V.bl c)); rw [dV_bl]; exact h⟩
theorem c_isN (h : P (isNon x)) : cmpOk .Is x .non P := h
theorem c_notN (h : P (!isNon x)) : cmpOk .IsNot x .non P := h
theorem c_inS {k : Nat} (h : P (decide (k ∈ t.cps.toList))) : cmpOk .In (.str ⟨#[k]⟩) (.str t) P := ⟨k, rfl, h⟩
theorem c_ninS {k : Nat} (h : P (!decide (k ∈ t.cps.toList))) : cmpOk .NotIn (.str ⟨#[k]⟩) (.str t) P := ⟨k, rfl, h⟩
theorem c_inT (f : flatD x = true) (g : ys.all flatD = true) (h : P ((ys.map fv).any fun y => eqV y (fv x))) : cmpOk .In x (.tup ys) P := by cases x <;> first | exact ⟨f, g, h⟩ | cases f
theorem c_inL (f : flatD x = true) (g : ys.all flatD = true) (h : P ((ys.map fv).any fun y => eqV y (fv x))) : cmpOk .In x (.lst ys) P := by cases x <;> first | exact ⟨f, g, h⟩ | cases f
theorem c_ninT (f : flatD x = true) (g : ys.all flatD = true) (h : P (!(ys.map fv).any fun y => eqV y (fv x))) : cmpOk .NotIn x (.tup ys) P := by cases x <;> first | exact ⟨f, g, h⟩ | cases f
theorem c_ninL (f : flatD x = true) (g : ys.all flatD = true) (h : P (!(ys.map fv).any fun y => eqV y (fv x))) : cmpOk .NotIn x (.lst ys) P := by cases x <;> first | exact ⟨f, g, h⟩ | cases f
end
section
variable {P : D → Prop} {i : Int} {s : Str} {xs : List D} {d : D} {μ : Mu} {a : Addr} {c : MD}
theorem i_tup (e : atI xs i = some d) (h : P d) : ixA μ (.tup xs) (.int i) P := ⟨d, e, h⟩
theorem i_lst (e : atI xs i = some d) (h : P d) : ixA μ (.lst xs) (.int i) P := ⟨d, e, h⟩
theorem i_rol (e : atI xs i = some d) (h : P d) : ixA μ (.rol xs) (.int i) P := ⟨d, e, h⟩
theorem i_str {k : Nat} (l : s.length ≤ sizeLine) (e : atI s.cps.toList i = some k) (h : P (.str ⟨#[k]⟩)) : ixA μ (.str s) (.int i) P := ⟨k, l, e, h⟩
theorem i_ref (m : μ a = some (.lst xs)) (e : atI xs i = some d) (h : P d) : ixA μ (.ref a) (.int i) P := ⟨xs, d, m, e, h⟩
theorem i_refS (e : atI xs i = some d) (h : P d) : ixA (mset μ a (.lst xs)) (.ref a) (.int i) P := ⟨xs, d, mset_same, e, h⟩
end
section
variable {P : DP} {i : Int} {s : Str} {xs : List D} {d : D} {μ : Mu} {a : Addr} {b : Bool}
theorem f_lenS (l : s.length ≤ sizeLine) (h : P (.int s.length) μ) : lenOk [.str s] μ P := ⟨l, h⟩
theorem f_lenT (h : P (.int xs.length) μ) : lenOk [.tup xs] μ P := h
theorem f_lenL (h : P (.int xs.length) μ) : lenOk [.lst xs] μ P := h
theorem f_lenR (h : P (.int xs.length) μ) : lenOk [.rol xs] μ P := h
theorem f_lenM (m : μ a = some (.lst xs)) (h : P (.int xs.length) μ) : lenOk [.ref a] μ P := ⟨xs, m, h⟩
theorem f_abs (h : P (.int (if i < 0 then -i else i)) μ) : absOk [.int i] μ P := h
theorem f_int (h : P (.int i) μ) : intOk [.int i] μ P := h
theorem f_strI (l : i.natAbs.log2 < 1920) (h : P (.str (toString i)) μ) : strOk [.int i] μ P := ⟨l, h⟩
theorem f_strS (h : P (.str s) μ) : strOk [.str s] μ P := h
theorem f_listT (h : P (.lst xs) μ) : listOk [.tup xs] μ P := h
theorem f_listL (h : P (.lst xs) μ) : listOk [.lst xs] μ P := h
theorem f_listR (h : P (.lst xs) μ) : listOk [.rol xs] μ P := h
theorem f_tupleL (h : P (.tup xs) μ) : tupleOk [.lst xs] μ P := h
theorem f_tupleT (h : P (.tup xs) μ) : tupleOk [.tup xs] μ P := h
theorem f_all {bs : List Bool} (h : P (.bl (bs.all id)) μ) : allOk [.lst (bs.map .bl)] μ P := ⟨bs, rfl, h⟩
theorem f_any {bs : List Bool} (h : P (.bl (bs.any id)) μ) : anyOk [.lst (bs.map .bl)] μ P := ⟨bs, rfl, h⟩
theorem f_repr {p : PyData} (e : toPyM μ d = some p) (h1 : p.showable = true) (h2 : p.depth ≤ 60) (h3 : p.shown.length ≤ sizeLine) (h : P (.str p.shown) μ) : reprOk [d] μ P := ⟨d, p, rfl, e, h1, h2, h3, h⟩
theorem f_isi {K : PySem.W.Frag} {x c : D} {t u : Value} {b : Bool} (ht : tyD x = some t) (ho : ∀ C fs, x = .obj C fs → IsC K C) (hu : clsD c = some u) (hk : PySem.W.kitOne K t u = some b) (h : P (.bl b) μ) : isiOk K [x, c] μ P := ⟨x, c, t, b, rfl, ht, ho, .inl ⟨u, hu, hk⟩, h⟩
theorem f_isiT {K : PySem.W.Frag} {x : D} {cs : List D} {t : Value} {us : List Value} {b : Bool} (ht : tyD x = some t) (ho : ∀ C fs, x = .obj C fs → IsC K C) (hu : clsAll cs = some us) (hk : PySem.W.kitAny K t us = some b) (h : P (.bl b) μ) : isiOk K [x, .tup cs] μ P := ⟨x, _, t, b, rfl, ht, ho, .inr ⟨cs, us, rfl, hu, rfl, hk⟩, h⟩
end
section
variable {P : D → Prop} {s : Str} {xs : List D} {lo hi : Option Int}
theorem s_str (l : s.length ≤ sizeLine) (h : P (.str (cutS s lo hi))) : slOk (.str s) lo hi P := ⟨l, h⟩
theorem s_tup (h : P (.tup (cutL xs lo hi))) : slOk (.tup xs) lo hi P := h
theorem s_lst (h : P (.lst (cutL xs lo hi))) : slOk (.lst xs) lo hi P := h
theorem s_rol (h : P (.lst (cutL xs lo hi))) : slOk (.rol xs) lo hi P := h
end
theorem atI_map {α : Type} {f : α → D} {xs : List α} {i : Int} {j : Nat} {y : α} (hi : i = (j : Int)) (h : xs[j]? = some y) : atI (xs.map f) i = some (f y) := by
  subst hi
  exact atI_nat (by rw [List.getElem?_map, h]; rfl)
/-- split what a truth is -/
theorem two {b : Bool} {P Q : Prop} (h1 : b = true → P) (h2 : b = false → Q) : (b = true → P) ∧ (b = false → Q) := ⟨h1, h2⟩
end Hw
set_option Elab.async false
set_option linter.all false
set_option maxRecDepth 100000
set_option maxHeartbeats 1000000
namespace Hw
open PySem L2 PyProof.Rows
section
variable {X : Cx} {PE : XP} {e a b c : Expr} {es : List Expr} {μ : Mu} {ds : DS} {P : DP} {pos : Pos} {Z : Po} {tg : Expr}
/-! ### a text walked -/
def signs (s : Str) : List D := s.cps.toList.map fun c => D.str ⟨#[c]⟩
theorem itd_str {K : PySem.W.Frag} {H : Hp} (s : Str) : ItD K (Its s) μ H (signs s) := fun i H1 μ1 st h => by
  refine ⟨fun q => (show s.cps.size ≤ i by simpa [signs] using q), fun x hx => ?_⟩
  have hi : i < s.cps.size := by
    have := (List.getElem?_eq_some_iff.mp hx).1
    simpa [signs] using this
  refine ⟨hi, fun w H2 ⟨e, c, hc, q⟩ => ?_⟩
  subst e q
  have : x = D.str ⟨#[c]⟩ := by
    have hl : s.cps.toList[i]? = some c := by rw [Array.getElem?_toList]; exact hc
    rw [signs, List.getElem?_map, hl] at hx
    exact (Option.some.inj hx).symm
  subst this
  exact ⟨Stp.refl _ _, h, .str _⟩
theorem ix_str {P : List D → Mu → Prop} (h : EX X PE μ ds e fun d μ1 => ∃ s, d = .str s ∧ P (signs s) μ1) : IX X PE μ ds tg e P :=
  ix_of (pi_str pe_U) fun σ H R ho hs k => h.at ho hs fun v H1 d μ1 s1 h1 b1 n1 ⟨s, e, p⟩ => by
    subst e
    exact ⟨s, n1.inv_str, k _ H1 _ μ1 s1 h1 (itd_str s) p⟩
/-! ### keywords -/
structure KX (X : Cx) (PE : XP) (μ : Mu) (ds : DS) (kws : List Keyword) (P : List D → Mu → Prop) : Prop where
  pk : PK X kws (tDA X PE μ ds P)
def tUK (X : Cx) (kws : List Keyword) : TA := fun σ H Q => ∃ t, PK X kws t ∧ t σ H Q
theorem pk_U {kws : List Keyword} : PK X kws (tUK X kws) := ⟨fun po pins s σ H Q I h => by obtain ⟨t, p, h⟩ := h; exact p.run po pins s σ H Q I h⟩
theorem KX.at {kws : List Keyword} {σ : L2.St} {H : Hp} {Q : List V → Hp → Prop} {P : List D → Mu → Prop} (x : KX X PE μ ds kws P) (ho : Hold X.K μ H) (hs : Sl X PE μ H σ ds) (k : ∀ vs H' xs μ', Stp μ H μ' H' → Hold X.K μ' H' → Sl X PE μ' H' σ ds → DenAll X.K μ' H' vs xs → P xs μ' → Q vs H') : tUK X kws σ H Q :=
  ⟨_, x.pk, ho, hs, fun vs H' xs μ' s h n p => k vs H' xs μ' s h (hs.mono s) n p⟩
theorem kx_nil {P : List D → Mu → Prop} (h : P [] μ) : KX X PE μ ds [] P := ⟨⟨fun po pins s σ H Q I ⟨ho, hs, k⟩ => pk_nil.run po pins s σ H Q I (k [] H [] μ (Stp.refl _ _) ho .nil h)⟩⟩
theorem kx_cons {kws : List Keyword} {nm : Option Str} {kpos : Pos} {P : List D → Mu → Prop} (h : EX X PE μ ds e fun d μ1 => KX X PE μ1 ds kws fun xs μ2 => P (d :: xs) μ2) : KX X PE μ ds (⟨nm, e, kpos⟩ :: kws) P :=
  ⟨⟨fun po pins s σ H Q I ⟨ho, hs, k⟩ => (pk_cons pe_U pk_U).run po pins s σ H Q I (h.at ho hs fun v H1 d μ1 s1 h1 b1 n1 p => p.at h1 b1 fun vs H2 xs μ2 s2 h2 b2 n2 p2 => k (v :: vs) H2 (d :: xs) μ2 (s1.trans s2) h2 (.cons (n1.mono s2) n2) p2)⟩⟩
/-- the values at the places idx -/
def pick {α : Type} (idx : List Nat) (l : List α) : List α := idx.filterMap fun j => l[j]?
theorem Vals.pick {vs : List V} {us : List Value} (r : Vals vs us) : ∀ idx, Vals (pick idx vs) (pick idx us)
  | [] => .nil
  | j :: idx => by
    unfold Hw.pick
    cases h : vs[j]? with
    | none =>
      rw [List.filterMap_cons, h, List.filterMap_cons, r.none_of h]
      exact Vals.pick r idx
    | some v =>
      obtain ⟨u, h2, r2⟩ := r.get h
      rw [List.filterMap_cons, h, List.filterMap_cons, h2]
      exact .cons r2 (Vals.pick r idx)
theorem DenAll.none_of {K : PySem.W.Frag} {H : Hp} {vs : List V} {xs : List D} (h : DenAll K μ H vs xs) {j : Nat} (e : vs[j]? = none) : xs[j]? = none := by
  rw [List.getElem?_eq_none_iff] at e ⊢
  rw [← h.length]
  exact e
theorem DenAll.pick {K : PySem.W.Frag} {H : Hp} {vs : List V} {xs : List D} (h : DenAll K μ H vs xs) : ∀ idx, DenAll K μ H (pick idx vs) (pick idx xs)
  | [] => .nil
  | j :: idx => by
    unfold Hw.pick
    cases e : vs[j]? with
    | none =>
      rw [List.filterMap_cons, e, List.filterMap_cons, h.none_of e]
      exact DenAll.pick h idx
    | some v =>
      obtain ⟨d, e2, n2⟩ := h.get e
      rw [List.filterMap_cons, e, List.filterMap_cons, e2]
      exact .cons n2 (DenAll.pick h idx)
/-- how the arguments bind: n by place, the keywords ks -/
def KwOk (x qual : Str) (st : Stmt) (ps ks : List Str) (n : Nat) (idx : List Nat) : Prop := ∀ (kV doc pm : Value) (an : Option Addr) (cdv ct : Value) (us ws : List Value), us.length = n → ws.length = ks.length →
  bindArgs (PySem.W.fnOf x qual (defArgs st) (defBody st) (defScope st) .none kV doc pm an cdv ct) ⟨us, ks.zip ws⟩ = pure (ps.zip (pick idx (us ++ ws)))
theorem run_gk {pins : List (Addr × Obj)} {σ : L2.St} {H : Hp} {s : Shared} {Q : VK} {k n : Nat} {f : Addr} {fd : FuncData} {x qual : Str} {st : Stmt} {ps ks : List Str} {idx : List Nat} {C : CT} {us ws : List Value} {vs zs : List V}
    (F : FnG X.prog X.w X.K X.mg X.base k f fd ps C) (hF : Fun X.K x qual st f fd) (hb : KwOk x qual st ps ks n idx) (hn : us.length = n) (hm : ws.length = ks.length) (hr : Rm k X.A) (I : Inv X pins σ H s) (r : Vals vs us) (r2 : Vals zs ws)
    (h : spD X.K C (pick idx (vs ++ zs)) H Q (Ex0 X)) : wpAny (model X.prog X.w) X.A (call (.ref f) us (ks.zip ws)) (EP X pins σ Q) X.xe s := by
  obtain ⟨oc, od, kV, doc, pm, an, cdv, ct, osl, e, _, _⟩ := hF.ex
  have bt : BindsTo s fd ⟨us, ks.zip ws⟩ (ps.zip (pick idx (us ++ ws))) := by
    subst e
    exact .of_eq (hb kV doc pm an cdv ct us ws hn hm)
  refine wpAny_call (codeAny_mono (ret_of I (F.run X.A X.stack s H ⟨us, ks.zip ws⟩ _ _ Q (Ex0 X) hr I.env0 bt (Vals.pick (r.append r2) idx) h)) fun r s' q => ?_)
  match r, q with
  | .error er, q => exact q
  | .ok (.ret _), q => exact q
theorem ex_callK0 {x qual : Str} {st : Stmt} {ps ks : List Str} {idx : List Nat} {k : Nat} {C : CT} {p : Pos} {kws : List Keyword} (c : Cal X.prog X.w X.K X.mg X.base x qual st ps k C) (hb : KwOk x qual st ps ks 0 idx) (hr : Rm k X.A)
    (h : KX X PE μ ds kws fun zs μ1 => zs.length = ks.length ∧ C (pick idx zs) μ1 P PE) (hg : Gl X x) (hdb : (x == ("__debug__" : Str)) = false := by decide) (hall : (backToKw pos (keywordEach kws X.env)).all (·.1.isSome) = true := by rfl)
    (hks : (backToKw pos (keywordEach kws X.env)).filterMap (·.1) = ks := by rfl) (hpl : ((backTo pos (starEach [] X.env)).any (·.1) || (backToKw pos (keywordEach kws X.env)).any (·.1.isNone)) = false := by rfl) : EX X PE μ ds (.Call (.Name x p) [] kws pos) P := by
  obtain ⟨f, fd, F, hm, hF, _⟩ := c.ex
  have pe : L2.PE X (.Call (.Name x p) [] kws pos) (fun σ H Q => tUK X kws σ H fun zs H1 => zs.length = ks.length ∧ spD X.K C (pick idx zs) H1 Q (Ex0 X)) := ⟨fun pins s σ H Q I q => by
    refine wpAny_Call_Name_kw (ld_glob I hg hm ?_ hdb)
    refine PySem.W.callWith_KW0 (h₀ := X.base) I.ok.mod.kin hF.kp hall (thn (pk_U.run pos pins s σ H _ I q) fun ws s1 ⟨zs, H1, I1, rz, hl, q⟩ => ⟨I1.kIn, ?_⟩) hpl
    rw [hks]
    exact run_gk (us := []) (vs := []) F hF hb rfl (by rw [← rz.length]; exact hl) hr I1 .nil rz q⟩
  refine ex_of pe fun σ H Q ho hs kk => h.at ho hs fun vs H1 xs μ1 s1 h1 b1 n1 ⟨hl, q⟩ => ⟨by rw [n1.length]; exact hl, ?_⟩
  exact ⟨μ1, _, P, PE, h1, n1.pick idx, q, fun v H' d μ' s2 h2 n2 p2 => kk v H' d μ' (s1.trans s2) h2 n2 p2, fun Ca dd H' fs vfs μ' s2 h2 e2 n2 p2 σ' => b1.x Ca dd H' fs vfs μ' σ' s2 h2 e2 n2 p2⟩
theorem ex_callK {x qual : Str} {st : Stmt} {ps ks : List Str} {idx : List Nat} {k n : Nat} {C : CT} {p : Pos} {kws : List Keyword} (c : Cal X.prog X.w X.K X.mg X.base x qual st ps k C) (hb : KwOk x qual st ps ks n idx) (hr : Rm k X.A)
    (h : AX X PE μ ds (e :: es) fun xs μ1 => xs.length = n ∧ KX X PE μ1 ds kws fun zs μ2 => zs.length = ks.length ∧ C (pick idx (xs ++ zs)) μ2 P PE) (hg : Gl X x) (hdb : (x == ("__debug__" : Str)) = false := by decide) (hall : (backToKw pos (keywordEach kws X.env)).all (·.1.isSome) = true := by rfl)
    (hks : (backToKw pos (keywordEach kws X.env)).filterMap (·.1) = ks := by rfl) (he : starEach (e :: es) X.env = (false, eval e X.env) :: starEach es X.env := by rfl)
    (hpl : ((backTo pos (starEach (e :: es) X.env)).any (·.1) || (backToKw pos (keywordEach kws X.env)).any (·.1.isNone)) = false := by rfl) : EX X PE μ ds (.Call (.Name x p) (e :: es) kws pos) P := by
  obtain ⟨f, fd, F, hm, hF, _⟩ := c.ex
  have pe : L2.PE X (.Call (.Name x p) (e :: es) kws pos) (fun σ H Q => tUA X (e :: es) σ H fun vs H0 => vs.length = n ∧ tUK X kws σ H0 fun zs H1 => zs.length = ks.length ∧ spD X.K C (pick idx (vs ++ zs)) H1 Q (Ex0 X)) := ⟨fun pins s σ H Q I q => by
    refine wpAny_Call_Name_kw (ld_glob I hg hm ?_ hdb)
    refine PySem.W.callWith_KW (h₀ := X.base) I.ok.mod.kin hF.kp hall (thn (pa_U.run pos pins s σ H _ I q) fun us s0 ⟨vs, H0, I0, r0, hl0, q⟩ => thn (pk_U.run pos pins s0 σ H0 _ I0 q) fun ws s1 ⟨zs, H1, I1, rz, hl, q⟩ => ⟨I1.kIn, ?_⟩) hpl he
    rw [hks]
    exact run_gk F hF hb (by rw [List.nil_append, ← r0.length]; exact hl0) (by rw [← rz.length]; exact hl) hr I1 r0 rz q⟩
  refine ex_of pe fun σ H Q ho hs kk => h.at ho hs fun us H0 ys μ0 s0 h0 b0 n0 ⟨hl0, q⟩ => ⟨by rw [n0.length]; exact hl0, q.at h0 b0 fun vs H1 xs μ1 s1 h1 b1 n1 ⟨hl, q⟩ => ⟨by rw [n1.length]; exact hl, ?_⟩⟩
  exact ⟨μ1, _, P, PE, h1, ((n0.mono s1).append n1).pick idx, q, fun v H' d μ' s2 h2 n2 p2 => kk v H' d μ' ((s0.trans s1).trans s2) h2 n2 p2, fun Ca dd H' fs vfs μ' s2 h2 e2 n2 p2 σ' => b1.x Ca dd H' fs vfs μ' σ' s2 h2 e2 n2 p2⟩
end
end Hw
set_option Elab.async false
set_option linter.all false
set_option maxRecDepth 100000
set_option maxHeartbeats 1000000
namespace Hw
open PySem L2 PyProof.Rows
/-! ### what the top has written -/
structure FunAt (K : PySem.W.Frag) (x : Str) (st : Stmt) : Prop where
  ex : ∃ f fd, PySem.W.nsIn K mainGlobals x = some (some (.ref f)) ∧ Fun K x x st f fd
theorem FunAt.mk' {K : PySem.W.Frag} {x : Str} {st : Stmt} {f : Addr} {oc : Value} {od an : Option Addr} {osl : Array (Option Value)} {kV doc pm cdv ct : Value} (a : PySem.W.nsIn K mainGlobals x = some (some (.ref f)))
    (l : K.lookup f = some ⟨oc, od, .func (PySem.W.fnOf x x (defArgs st) (defBody st) (defScope st) .none kV doc pm an cdv ct), osl⟩) (c : PySem.W.codeIn K cdv x = true) (k : PySem.W.keepIn K (.ref f) = true) : FunAt K x st :=
  ⟨f, _, a, fun_mk l c k⟩
/-- how the arguments bind by place -/
def BindOk (x : Str) (st : Stmt) (ps : List Str) : Prop := ∀ (kV doc pm : Value) (an : Option Addr) (cdv ct : Value) (us : List Value), us.length = ps.length → bindArgs (PySem.W.fnOf x x (defArgs st) (defBody st) (defScope st) .none kV doc pm an cdv ct) ⟨us, []⟩ = pure (ps.zip us)
structure Tb (K : PySem.W.Frag) (mg : Str → Option Value) (base : Heap) : Prop where
  b : K.In base
  g : base.Ns mainGlobals mg
section
variable {P : Program} {w : World} {K : PySem.W.Frag} {mg : Str → Option Value} {base : Heap}
theorem Tb.non {x : Str} (T : Tb K mg base) (e : PySem.W.nsIn K mainGlobals x = some none) : mg x = none := PySem.W.mg_none_of T.b T.g e
theorem Tb.som {x : Str} {v : Value} (T : Tb K mg base) (e : PySem.W.nsIn K mainGlobals x = some (some v)) : mg x = some v := PySem.W.mg_of T.b T.g e
theorem cal_of {x : Str} {st : Stmt} {ps : List Str} {k : Nat} {C : CT} (T : Tb K mg base) (F : FunAt K x st) (hb : BindOk x st ps) (h : ∀ f fd, Fun K x x st f fd → FnG P w K mg base k f fd ps C) : Cal P w K mg base x x st ps k C := by
  obtain ⟨f, fd, a, F⟩ := F.ex
  refine ⟨f, fd, h f fd F, T.som a, F, ?_⟩
  exact F.binds fun kV doc pm an cdv ct us hl => hb kV doc pm an cdv ct us hl
theorem Cal.weak {x qual : Str} {st : Stmt} {ps : List Str} {k : Nat} {C C' : CT} (c : Cal P w K mg base x qual st ps k C) (h : ∀ xs μ R RE, C' xs μ R RE → C xs μ R RE) : Cal P w K mg base x qual st ps k C' := by
  obtain ⟨f, fd, F, a, b, d⟩ := c.ex
  exact ⟨f, fd, F.weak h, a, b, d⟩
/-- the law -/
theorem law_fn {h : Heap} {fa : Addr} {st : Stmt} {p : Str} {k : Nat} {C : CT} (T : Tb K mg h) (F : FunAt K "law" st) (hfa : mg "law" = some (.ref fa)) (hb : ∀ (kV doc pm : Value) (an : Option Addr) (cdv ct u : Value), bindArgs (PySem.W.fnOf "law" "law" (defArgs st) (defBody st) (defScope st) .none kV doc pm an cdv ct) ⟨[u], []⟩ = pure [(p, u)])
    (ok : ∀ base f fd, Tb K mg base → Fun K "law" "law" st f fd → FnG P w K mg base k f fd [p] C) :
    ∃ fd : FuncData, (∀ (s : Shared) (u : Value), BindsTo s fd ⟨[u], []⟩ [(p, u)]) ∧ ∀ base : Heap, K.In base → base.Ns mainGlobals mg → FnG P w K mg base k fa fd [p] C := by
  obtain ⟨f, fd, a, F⟩ := F.ex
  have e := hfa.symm.trans (T.som a)
  cases e
  refine ⟨fd, fun s u => ?_, fun base b g => ok base _ _ ⟨b, g⟩ F⟩
  obtain ⟨oc, od, kV, doc, pm, an, cdv, ct, osl, e, _, _⟩ := F.ex
  subst e
  exact .of_eq (hb kV doc pm an cdv ct u)
end
/-! ### isinstance of a built-in class -/
def isB (c : String) : D → Bool
  | .non => c == "NoneType"
  | .bl _ => c == "bool" || c == "int"
  | .int _ => c == "int"
  | .str _ => c == "str"
  | .tup _ => c == "tuple"
  | .lst _ => c == "list"
  | .dic _ => c == "dict"
  | _ => false
structure SubTab (K : PySem.W.Frag) (c : String) : Prop where
  m : PySem.W.kitMeta c = true
  t : ∀ t, t = "NoneType" ∨ t = "bool" ∨ t = "int" ∨ t = "str" ∨ t = "tuple" ∨ t = "list" ∨ t = "dict" → PySem.W.subIn K (.type t) (.type c) = some (t == c || (t == "bool" && c == "int"))
/-- plain data: no reference, no type, no object -/
def plainD : D → Bool
  | .non | .bl _ | .int _ | .str _ | .tup _ | .lst _ | .dic _ => true
  | _ => false
theorem SubTab.one {K : PySem.W.Frag} {c t : String} (T : SubTab K c) (h : t = "NoneType" ∨ t = "bool" ∨ t = "int" ∨ t = "str" ∨ t = "tuple" ∨ t = "list" ∨ t = "dict") : PySem.W.kitOne K (.type t) (.type c) = some (t == c || (t == "bool" && c == "int")) := by
  unfold PySem.W.kitOne PySem.W.kitCls
  by_cases e : t = c
  · subst e; simp
  · have e1 : (Value.type t == Value.type c) = false := by simpa using e
    rw [e1]
    simp only [T.m, if_true, T.t t h]
    rfl
theorem SubTab.kit {K : PySem.W.Frag} {c : String} (T : SubTab K c) (d : D) (h : plainD d = true) : ∃ t, tyD d = some t ∧ PySem.W.kitOne K t (.type c) = some (isB c d) ∧ ∀ C fs, d ≠ .obj C fs := by
  cases d <;> first | cases h | skip
  all_goals refine ⟨_, rfl, (T.one (by simp)).trans ?_, fun _ _ => by simp⟩
  all_goals simp [isB, Bool.beq_comm, eq_comm]
  all_goals rw [Bool.eq_iff_iff]; simp [eq_comm]
theorem f_isB {K : PySem.W.Frag} {c : String} {d : D} {μ : Mu} {P : DP} (T : SubTab K c) (h : plainD d = true) (k : P (.bl (isB c d)) μ) : isiOk K [d, .ty c] μ P := by
  obtain ⟨t, h1, h2, h3⟩ := T.kit d h
  exact f_isi h1 (fun C fs e => (h3 C fs e).elim) rfl h2 k
/-! ### x is True, x is False -/
section
variable {X : Cx} {PE : XP} {a : Expr} {μ : Mu} {ds : DS} {P : DP} {PT : Bool → Mu → Prop} {pos p2 : Pos} {c : Bool} {j : Option Str}
theorem ex_isB {j} (h : EX X PE μ ds a fun x μ1 => ∃ b, x = .bl b ∧ P (.bl (decide (b = c))) μ1) : EX X PE μ ds (.Compare a [.Is] [.Constant (.bool c) j p2] pos) P :=
  ex_of (pe_cmpR op_is_bl pe_U pe_bl rfl) fun σ H Q ho hs k => h.at ho hs fun v H1 x μ1 s1 h1 b1 n1 ⟨b, e, p⟩ => by
    subst e
    exact ⟨b, c, n1.inv_bl, rfl, k _ H1 _ μ1 s1 h1 (.bl _) p⟩
theorem ex_nisB {j} (h : EX X PE μ ds a fun x μ1 => ∃ b, x = .bl b ∧ P (.bl (!decide (b = c))) μ1) : EX X PE μ ds (.Compare a [.IsNot] [.Constant (.bool c) j p2] pos) P :=
  ex_of (pe_cmpR op_isnot_bl pe_U pe_bl rfl) fun σ H Q ho hs k => h.at ho hs fun v H1 x μ1 s1 h1 b1 n1 ⟨b, e, p⟩ => by
    subst e
    exact ⟨b, c, n1.inv_bl, rfl, k _ H1 _ μ1 s1 h1 (.bl _) p⟩
theorem tx_isB {j} (h : EX X PE μ ds a fun x μ1 => ∃ b, x = .bl b ∧ PT (decide (b = c)) μ1) : TX X PE μ ds (.Compare a [.Is] [.Constant (.bool c) j p2] pos) PT :=
  tx_of (pt_cmpR op_is_bl pe_U pe_bl rfl) fun σ H Q ho hs k => h.at ho hs fun v H1 x μ1 s1 h1 b1 n1 ⟨b, e, p⟩ => by
    subst e
    exact ⟨b, c, n1.inv_bl, rfl, _, rfl, k _ H1 μ1 s1 h1 p⟩
theorem tx_nisB {j} (h : EX X PE μ ds a fun x μ1 => ∃ b, x = .bl b ∧ PT (!decide (b = c)) μ1) : TX X PE μ ds (.Compare a [.IsNot] [.Constant (.bool c) j p2] pos) PT :=
  tx_of (pt_cmpR op_isnot_bl pe_U pe_bl rfl) fun σ H Q ho hs k => h.at ho hs fun v H1 x μ1 s1 h1 b1 n1 ⟨b, e, p⟩ => by
    subst e
    exact ⟨b, c, n1.inv_bl, rfl, _, rfl, k _ H1 μ1 s1 h1 p⟩
end
end Hw
set_option Elab.async false
set_option linter.all false
set_option maxRecDepth 100000
set_option maxHeartbeats 1000000
namespace Hw
open PySem L2 PyProof.Rows
/-! ### the contracts of the laws' own draws -/
/-- the draws' store -/
def SrcC (c : MD) : Prop := ∃ (ns : List Int) (i cc seed n : Int), c = .lst [.lst (ns.map .int), .int i, .int cc, .int seed, .int n] ∧ 0 ≤ i
def SrcAt (μ : Mu) (a : Addr) : Prop := ∃ c, μ a = some c ∧ SrcC c
theorem SrcAt.set {μ : Mu} {a : Addr} {c : MD} (h : SrcC c) : SrcAt (mset μ a c) a := ⟨c, mset_same, h⟩
theorem cutL_map {α : Type} (f : α → D) (l : List α) (lo hi : Option Int) : cutL (l.map f) lo hi = (cutL l lo hi).map f := by
  unfold cutL
  rw [List.length_map, ← List.map_drop, ← List.map_take]
theorem mset_comm {μ : Mu} {a b : Addr} {c d : MD} (h : a ≠ b) : mset (mset μ a c) b d = mset (mset μ b d) a c := by
  funext x
  unfold mset
  by_cases h1 : x = a
  · by_cases h2 : x = b
    · exact absurd (h1.symm.trans h2) h
    · simp [h1, h]
  · simp [h1]
theorem lt_sz {n : Nat} (h : n ≤ sizeLine) : n.log2 < 9000 := by
  rcases Nat.eq_zero_or_pos n with e | e
  · subst e; decide
  · exact (Nat.log2_lt (by omega)).mpr (Nat.lt_of_le_of_lt h (by decide +kernel))
def sourceC : CT := fun xs μ P PE => ∃ ns : List Int, xs = [.rol (ns.map .int)] ∧ ∀ a c, μ a = none → SrcC c → P (.ref a) (mset μ a c)
def drawC : CT := fun xs μ P PE => ∃ a m, xs = [.ref a, .int m] ∧ SrcAt μ a ∧ (0 < m ∧ m.natAbs.log2 < 9000) ∧ ∀ z c, 0 ≤ z → z < m → SrcC c → P (.int z) (mset μ a c)
theorem draw_i {μ : Mu} {R : DP} {PE : XP} {a : Addr} {m : Int} (sa : SrcAt μ a) (hm : 0 < m ∧ m.natAbs.log2 < 9000) (h : ∀ z c, 0 ≤ z → z < m → SrcC c → R (.int z) (mset μ a c)) : drawC [.ref a, .int m] μ R PE := ⟨a, m, rfl, sa, hm, h⟩
/-- a menu that one may draw of -/
def menuD : D → Prop
  | .lst xs => xs ≠ [] ∧ xs.length ≤ sizeLine
  | .tup xs => xs ≠ [] ∧ xs.length ≤ sizeLine
  | .str s => s.length ≠ 0 ∧ s.length ≤ sizeLine
  | _ => False
def inD (x : D) : D → Prop
  | .lst xs => x ∈ xs
  | .tup xs => x ∈ xs
  | .str s => ∃ c ∈ s.cps.toList, x = .str ⟨#[c]⟩
  | _ => False
def ofC : CT := fun xs μ P PE => ∃ a d, xs = [.ref a, d] ∧ SrcAt μ a ∧ menuD d ∧ ∀ x c, inD x d → SrcC c → P x (mset μ a c)
theorem of_i {μ : Mu} {R : DP} {PE : XP} {a : Addr} {d : D} (sa : SrcAt μ a) (hm : menuD d) (h : ∀ x c, inD x d → SrcC c → R x (mset μ a c)) : ofC [.ref a, d] μ R PE := ⟨a, d, rfl, sa, hm, h⟩
theorem atI_in {α : Type} {xs : List α} {z : Int} (h0 : 0 ≤ z) (h1 : z < (xs.length : Int)) : ∃ x ∈ xs, atI xs z = some x := by
  obtain ⟨j, rfl⟩ := Int.eq_ofNat_of_zero_le h0
  have hj : j < xs.length := by omega
  exact ⟨xs[j], List.getElem_mem hj, atI_nat (List.getElem?_eq_getElem hj)⟩
theorem len_menu {d : D} {Q : DP} {m : Mu} (h : menuD d) (k : ∀ n : Nat, 0 < n ∧ n ≤ sizeLine → (∀ (z : Int) (μ2 : Mu) (R : D → Prop), 0 ≤ z → z < n → (∀ x, inD x d → R x) → ixA μ2 d (.int z) R) → Q (.int n) m) : lenOk [d] m Q := by
  cases d with
  | lst xs =>
    refine f_lenL (k _ ⟨List.length_pos_iff.mpr h.1, h.2⟩ fun z μ2 R h0 h1 q => ?_)
    obtain ⟨x, hx, e⟩ := atI_in h0 h1
    exact i_lst e (q x hx)
  | tup xs =>
    refine f_lenT (k _ ⟨List.length_pos_iff.mpr h.1, h.2⟩ fun z μ2 R h0 h1 q => ?_)
    obtain ⟨x, hx, e⟩ := atI_in h0 h1
    exact i_tup e (q x hx)
  | str s =>
    refine f_lenS h.2 (k _ ⟨Nat.pos_of_ne_zero h.1, h.2⟩ fun z μ2 R h0 h1 q => ?_)
    obtain ⟨x, hx, e⟩ := atI_in (xs := s.cps.toList) h0 (by simpa [Str.length] using h1)
    exact i_str h.2 e (q _ ⟨x, hx, rfl⟩)
  | _ => exact h.elim
def sameC : CT := fun xs μ P PE => ∃ x y p, xs = [x, y] ∧ toPyM μ x = some p ∧ toPyM μ y = some p ∧ p.showable = true ∧ p.depth ≤ 60 ∧ p.shown.length ≤ sizeLine ∧ P (.bl true) μ
theorem same_i {μ : Mu} {R : DP} {PE : XP} {x y : D} {p : PyData} (h1 : toPy x = some p) (h2 : toPy y = some p) (h3 : p.showable = true) (h4 : p.depth ≤ 60) (h5 : p.shown.length ≤ sizeLine) (k : R (.bl true) μ) : sameC [x, y] μ R PE := ⟨x, y, p, rfl, toPyM_of h1, toPyM_of h2, h3, h4, h5, k⟩
theorem same_m {μ : Mu} {R : DP} {PE : XP} {x y : D} {p : PyData} (h1 : toPyM μ x = some p) (h2 : toPyM μ y = some p) (h3 : p.showable = true) (h4 : p.depth ≤ 60) (h5 : p.shown.length ≤ sizeLine) (k : R (.bl true) μ) : sameC [x, y] μ R PE := ⟨x, y, p, rfl, h1, h2, h3, h4, h5, k⟩
/-- the law itself -/
def lawC : CT := fun xs μ P PE => ∃ ns : List Int, xs = [.rol (ns.map .int)] ∧ ns.length ≤ 63 ∧ (∀ z ∈ ns, Builtin.Int.intBits z ≤ 1048576) ∧ ∀ μ', P (.bl true) μ'
end Hw
set_option Elab.async false
set_option linter.all false
set_option maxRecDepth 100000
set_option maxHeartbeats 1000000
namespace Hw
open PySem L2 PyProof.Rows
section
variable {X : Cx} {PE : XP} {e a b c elt tg iter : Expr} {es ifs : List Expr} {μ : Mu} {ds : DS} {P : DP} {pos : Pos} {Z : Po}
/-- one turn, the block's context written out -/
def TurnB (X : Cx) (scope : Scope) (ds : DS) (own : List Nat) (tg : Expr) (ifs : List Expr) (elt : Expr) (x : D) (μ : Mu) (Q : Option D → Mu → Prop) : Prop :=
  ∀ s H C cl fp, GCX (X.blk s H scope (compEnvC scope cl C X.env) fp) μ (wipeD ds own) own tg x fun ds2 => ∀ s H C cl fp, TsX (X.blk s H scope (compEnvC scope cl C X.env) fp) noX μ ds2 ifs fun z μ1 =>
    (z = true → ∀ s H C cl fp, EX (X.blk s H scope (compEnvC scope cl C X.env) fp) noX μ1 ds2 elt fun d μ2 => Q (some d) μ2) ∧ (z = false → Q none μ1)
theorem turn_of {scope : Scope} {own : List Nat} {x : D} {Q : Option D → Mu → Prop} (h : TurnB X scope ds own tg ifs elt x μ Q) : Turn1 X scope ds own tg ifs elt x μ Q := fun X' hb => by
  obtain ⟨s, H, C, cl, fp, rfl⟩ := hb
  refine ⟨pg_imp (h s H C cl fp).pg fun v σ H Q ⟨q1, q2, q3, q4⟩ => ⟨q1, q2, q3, fun σ' ds' w1 d1 r => q4 σ' ds' w1 d1 fun X' hb => ?_⟩⟩
  obtain ⟨s, H, C, cl, fp, rfl⟩ := hb
  refine ⟨pts_imp (r s H C cl fp).pts fun σ H Q ⟨q1, q2, q3⟩ => ⟨q1, q2, fun b H' μ' s1 h1 p => q3 b H' μ' s1 h1 ⟨fun z X' hb => ?_, p.2⟩⟩⟩
  obtain ⟨s, H, C, cl, fp, rfl⟩ := hb
  exact p.1 z s H C cl fp
where
  pg_imp {X : Cx} {tg : Expr} {t t' : TG} (p : PG X tg t) (h : ∀ v σ H Q, t' v σ H Q → t v σ H Q) : PG X tg t' := ⟨fun pins s σ H v u Q I r q => p.run pins s σ H v u Q I r (h v σ H Q q)⟩
  pts_imp {X : Cx} {l : List Expr} {t t' : TT} (p : PTs X l t) (h : ∀ σ H Q, t' σ H Q → t σ H Q) : PTs X l t' := ⟨fun pins s σ H Q I q => p.run pins s σ H Q I (h σ H Q q)⟩
/-- what a comprehension that leaves the store gives -/
def LcF (X : Cx) (scope : Scope) (ds : DS) (own : List (Str × Nat)) (tg : Expr) (ifs : List Expr) (elt : Expr) (Q : List D → Mu → Prop) (xs : List D) (μ1 : Mu) : Prop :=
  xs.length ≤ sizeLine ∧ ∃ g : D → Option D, (∀ x ∈ xs, ∀ L acc, μ1 L = none → TurnB X scope ds (own.map (·.2)) tg ifs elt x (mset μ1 L (.lst acc)) fun o μ3 => o = g x ∧ μ3 = mset μ1 L (.lst acc)) ∧ Q (xs.filterMap g) μ1
theorem addO_filterMap {g : D → Option D} {xs : List D} {i : Nat} {x : D} (h : xs[i]? = some x) : addO ((xs.take i).filterMap g) (g x) = (xs.take (i + 1)).filterMap g := by
  rw [List.take_add_one, h]
  simp only [Option.toList, List.filterMap_append]
  cases e : g x <;> simp [addO, e]
theorem LcF.I {scope : Scope} {own : List (Str × Nat)} {Q : List D → Mu → Prop} {xs : List D} {μ1 : Mu} (h : LcF X scope ds own tg ifs elt Q xs μ1) : ∃ I : Nat → List D → Mu → Prop, I 0 [] μ1 ∧ xs.length ≤ sizeLine ∧
      (∀ i x acc μi L, xs[i]? = some x → I i acc μi → acc.length ≤ i → μi L = none → Turn1 X scope ds (own.map (·.2)) tg ifs elt x (mset μi L (.lst acc)) fun o μ3 => ∃ μ3', μ3 = mset μ3' L (.lst acc) ∧ μ3' L = none ∧ I (i + 1) (addO acc o) μ3') ∧
      ∀ acc μn, I xs.length acc μn → acc.length ≤ xs.length → Q acc μn := by
  obtain ⟨hl, g, step, fin⟩ := h
  refine ⟨fun i acc μi => μi = μ1 ∧ acc = (xs.take i).filterMap g, ⟨rfl, by simp⟩, hl, fun i x acc μi L hx ⟨e1, e2⟩ _ nl => ?_, fun acc μn ⟨e1, e2⟩ _ => ?_⟩
  · subst e1
    refine turn_of fun s H C cl fp => ⟨turn_of.pg_imp (step x (List.mem_of_getElem? hx) L acc nl s H C cl fp).pg fun v σ H Q ⟨q1, q2, q3, q4⟩ => ⟨q1, q2, q3, fun σ' ds' w1 d1 r => q4 σ' ds' w1 d1 fun s H C cl fp => ?_⟩⟩
    refine ⟨turn_of.pts_imp (r s H C cl fp).pts fun σ H Q ⟨q1, q2, q3⟩ => ⟨q1, q2, fun b H' μ' s1 h1 p => q3 b H' μ' s1 h1 ⟨fun z s H C cl fp => (p.1 z s H C cl fp).imp fun d μ2 ⟨e3, e4⟩ => ?_, fun z => ?_⟩⟩⟩
    · exact ⟨μi, e4, nl, rfl, by rw [e2, e3, addO_filterMap hx]⟩
    · obtain ⟨e3, e4⟩ := p.2 z
      exact ⟨μi, e4, nl, rfl, by rw [e2, e3, addO_filterMap hx]⟩
  · subst e1
    rw [e2, List.take_of_length_le (Nat.le_refl _)]
    exact fin
theorem ex_lcF {scope : Scope} (own : List (Str × Nat)) (h : IX X PE μ ds tg iter (LcF X scope ds own tg ifs elt fun ys μ' => P (.lst ys) μ')) (hc : X.calm = true) (hN : X.N.Nodup) (ok : blkC X.N X.env.scope scope own = true) (hs : ∀ x, foldedSetIterable iter X.env x = pure x := by intro _; rfl) :
    EX X PE μ ds (.ListComp elt [⟨tg, iter, ifs, 0⟩] scope pos) P := ex_lc own (ix_imp h fun xs μ1 q => q.I) hc hN (blkOk_by ok) hs
where
  ix_imp {Q Q' : List D → Mu → Prop} (x : IX X PE μ ds tg iter Q) (h : ∀ xs m, Q xs m → Q' xs m) : IX X PE μ ds tg iter Q' := ⟨⟨fun pins s σ H R I ⟨a, b, c⟩ => x.pi.run pins s σ H R I ⟨a, b, fun J H' xs μ' s1 h1 i p => c J H' xs μ' s1 h1 i (h xs μ' p)⟩⟩⟩
theorem sx_setLcF {scope : Scope} (own : List (Str × Nat)) (i : Nat) {y : Str} {py spos : Pos} (h : IX X PE μ ds tg iter (LcF X scope ds own tg ifs elt fun ys μ' => Z.nx (ds.set i (some (.lst ys))) μ')) (hc : X.calm = true) (hN : X.N.Nodup) (ok : blkC X.N X.env.scope scope own = true) (hy : X.N[i]? = some y) (hyl : X.env.scope.names.lookup y = some .local)
    (hsw : swapsWith (.ListComp elt [⟨tg, iter, ifs, 0⟩] scope pos) (some (.Name y py)) spos.line X.env = pure true := by rfl) (hs : ∀ x, foldedSetIterable iter X.env x = pure x := by intro _; rfl) : SX X PE μ ds (.Assign [.Name y py] (.ListComp elt [⟨tg, iter, ifs, 0⟩] scope pos) spos) Z :=
  sx_setLc own i (ex_lcF.ix_imp (X := X) h fun xs μ1 q => q.I) hc hN (blkOk_by ok) hy hyl hsw hs
/-- a comprehension whose turns draw: each element is as R says -/
def LcS (X : Cx) (scope : Scope) (ds : DS) (own : List (Str × Nat)) (tg : Expr) (elt : Expr) (s : Addr) (R : D → Prop) (Q : List D → Mu → Prop) (xs : List D) (μ1 : Mu) : Prop :=
  xs.length ≤ sizeLine ∧ ∃ μ0 c0, μ1 = mset μ0 s c0 ∧ SrcC c0 ∧ (∀ x ∈ xs, ∀ L acc c, SrcC c → TurnB X scope ds (own.map (·.2)) tg [] elt x (mset (mset μ0 L (.lst acc)) s c) fun o μ3 => ∃ d c', o = some d ∧ R d ∧ SrcC c' ∧ μ3 = mset (mset μ0 L (.lst acc)) s c') ∧
    ∀ ys c, ys.length = xs.length → (∀ y ∈ ys, R y) → SrcC c → Q ys (mset μ0 s c)
theorem LcS.I {scope : Scope} {own : List (Str × Nat)} {s : Addr} {R : D → Prop} {Q : List D → Mu → Prop} {xs : List D} {μ1 : Mu} (h : LcS X scope ds own tg elt s R Q xs μ1) : ∃ I : Nat → List D → Mu → Prop, I 0 [] μ1 ∧ xs.length ≤ sizeLine ∧
      (∀ i x acc μi L, xs[i]? = some x → I i acc μi → acc.length ≤ i → μi L = none → Turn1 X scope ds (own.map (·.2)) tg [] elt x (mset μi L (.lst acc)) fun o μ3 => ∃ μ3', μ3 = mset μ3' L (.lst acc) ∧ μ3' L = none ∧ I (i + 1) (addO acc o) μ3') ∧
      ∀ acc μn, I xs.length acc μn → acc.length ≤ xs.length → Q acc μn := by
  obtain ⟨hl, μ0, c0, rfl, hc0, step, fin⟩ := h
  refine ⟨fun i acc μi => acc.length = i ∧ (∀ y ∈ acc, R y) ∧ ∃ c, SrcC c ∧ μi = mset μ0 s c, ⟨rfl, by simp, c0, hc0, rfl⟩, hl, fun i x acc μi L hx ⟨e1, e2, c, hc, e3⟩ _ nl => ?_, fun acc μn ⟨e1, e2, c, hc, e3⟩ _ => ?_⟩
  · subst e3
    have ne : L ≠ s := by rintro rfl; rw [mset_same] at nl; cases nl
    rw [mset_comm (Ne.symm ne)]
    refine turn_of fun t H C cl fp => ⟨turn_of.pg_imp (step x (List.mem_of_getElem? hx) L acc c hc t H C cl fp).pg fun v σ H Q ⟨q1, q2, q3, q4⟩ => ⟨q1, q2, q3, fun σ' ds' w1 d1 r => q4 σ' ds' w1 d1 fun t H C cl fp => ?_⟩⟩
    have fin2 : ∀ o μ3, (∃ d c', o = some d ∧ R d ∧ SrcC c' ∧ μ3 = mset (mset μ0 L (.lst acc)) s c') → ∃ μ3', μ3 = mset μ3' L (.lst acc) ∧ μ3' L = none ∧ (addO acc o).length = i + 1 ∧ (∀ y ∈ addO acc o, R y) ∧ ∃ c, SrcC c ∧ μ3' = mset μ0 s c := by
      rintro o μ3 ⟨d, c', rfl, rd, hc', e4⟩
      refine ⟨mset μ0 s c', by rw [e4, mset_comm ne], by rw [mset_ne ne] at nl ⊢; exact nl, by simp [addO, e1], fun y hy => ?_, c', hc', rfl⟩
      rcases List.mem_append.mp hy with z | z
      · exact e2 y z
      · rw [List.mem_singleton.mp z]; exact rd
    refine ⟨turn_of.pts_imp (r t H C cl fp).pts fun σ H Q ⟨q1, q2, q3⟩ => ⟨q1, q2, fun b H' μ' s1 h1 p => q3 b H' μ' s1 h1 ⟨fun z t H C cl fp => (p.1 z t H C cl fp).imp fun d μ2 q => fin2 _ _ q, fun z => fin2 _ _ (p.2 z)⟩⟩⟩
  · subst e3
    exact fin acc c e1 e2 hc
theorem ex_lcS {scope : Scope} (own : List (Str × Nat)) (s : Addr) (R : D → Prop) (h : IX X PE μ ds tg iter (LcS X scope ds own tg elt s R fun ys μ' => P (.lst ys) μ')) (hc : X.calm = true) (hN : X.N.Nodup) (ok : blkC X.N X.env.scope scope own = true) (hs : ∀ x, foldedSetIterable iter X.env x = pure x := by intro _; rfl) :
    EX X PE μ ds (.ListComp elt [⟨tg, iter, [], 0⟩] scope pos) P := ex_lc own (ex_lcF.ix_imp h fun xs μ1 q => q.I) hc hN (blkOk_by ok) hs
theorem sx_setLcS {scope : Scope} (own : List (Str × Nat)) (s : Addr) (R : D → Prop) (i : Nat) {y : Str} {py spos : Pos} (h : IX X PE μ ds tg iter (LcS X scope ds own tg elt s R fun ys μ' => Z.nx (ds.set i (some (.lst ys))) μ')) (hc : X.calm = true) (hN : X.N.Nodup) (ok : blkC X.N X.env.scope scope own = true) (hy : X.N[i]? = some y) (hyl : X.env.scope.names.lookup y = some .local)
    (hsw : swapsWith (.ListComp elt [⟨tg, iter, [], 0⟩] scope pos) (some (.Name y py)) spos.line X.env = pure true := by rfl) (hs : ∀ x, foldedSetIterable iter X.env x = pure x := by intro _; rfl) : SX X PE μ ds (.Assign [.Name y py] (.ListComp elt [⟨tg, iter, [], 0⟩] scope pos) spos) Z :=
  sx_setLc own i (ex_lcF.ix_imp (X := X) h fun xs μ1 q => q.I) hc hN (blkOk_by ok) hy hyl hsw hs
end
theorem fm_some {α β : Type} (f : α → β) (xs : List α) : xs.filterMap (fun x => some (f x)) = xs.map f := by
  induction xs with
  | nil => rfl
  | cons a r ih => simp
theorem f_allM {xs : List D} {b : D → Bool} {P : DP} {μ : Mu} (h : P (.bl (xs.all b)) μ) : allOk [.lst (xs.filterMap fun d => some (.bl (b d)))] μ P :=
  ⟨xs.map b, by rw [fm_some, List.map_map]; rfl, by rw [List.all_map]; exact h⟩
theorem f_anyM {xs : List D} {b : D → Bool} {P : DP} {μ : Mu} (h : P (.bl (xs.any b)) μ) : anyOk [.lst (xs.filterMap fun d => some (.bl (b d)))] μ P :=
  ⟨xs.map b, by rw [fm_some, List.map_map]; rfl, by rw [List.any_map]; exact h⟩
theorem draw_m {μ : Mu} {R : DP} {PE : XP} {a : Addr} {m : Int} {c0 : MD} (hc : SrcC c0) (hm : 0 < m ∧ m.natAbs.log2 < 9000) (h : ∀ z c, 0 ≤ z → z < m → SrcC c → R (.int z) (mset μ a c)) : drawC [.ref a, .int m] (mset μ a c0) R PE :=
  draw_i (.set hc) hm fun z c h0 h1 h2 => by rw [mset_mset]; exact h z c h0 h1 h2
theorem of_m {μ : Mu} {R : DP} {PE : XP} {a : Addr} {d : D} {c0 : MD} (hc : SrcC c0) (hm : menuD d) (h : ∀ x c, inD x d → SrcC c → R x (mset μ a c)) : ofC [.ref a, d] (mset μ a c0) R PE :=
  of_i (.set hc) hm fun x c h1 h2 => by rw [mset_mset]; exact h x c h1 h2
theorem source_i {μ : Mu} {R : DP} {PE : XP} {ns : List Int} (h : ∀ a c, μ a = none → SrcC c → R (.ref a) (mset μ a c)) : sourceC [.rol (ns.map .int)] μ R PE := ⟨ns, rfl, h⟩
theorem same_b {μ : Mu} {R : DP} {PE : XP} {b c : Bool} (e : b = c) (k : R (.bl true) μ) : sameC [.bl b, .bl c] μ R PE := by
  subst e
  exact same_i rfl rfl rfl (by cases b <;> decide) (by cases b <;> decide +kernel) k
theorem lg {m : Int} (h0 : 0 < m) (h1 : m < 2 ^ 200) : 0 < m ∧ m.natAbs.log2 < 9000 :=
  ⟨h0, Nat.lt_trans ((Nat.log2_lt (by omega)).mpr (by omega : m.natAbs < 2 ^ 200)) (by decide)⟩
/-! ### texts -/
theorem cps_app (a b : Str) : (a ++ b).cps.toList = a.cps.toList ++ b.cps.toList := Array.toList_append
theorem str_ext {a b : Str} (h : a.cps.toList = b.cps.toList) : a = b := by
  cases a; cases b
  simp only [Str.mk.injEq]
  exact Array.toList_inj.mp h
theorem joinL_nil : ∀ cs : List Nat, TL.joinL [] (cs.map fun c => [c]) = cs
  | [] => rfl
  | [c] => rfl
  | c :: d :: r => by
    show [c] ++ [] ++ TL.joinL [] ((d :: r).map fun c => [c]) = _
    rw [joinL_nil]
    simp
theorem chars_join {ys : List D} {n : Nat} {p : Nat → Prop} {K : Str → Prop} (hl : ys.length = n) (hy : ∀ y ∈ ys, ∃ c, p c ∧ y = .str ⟨#[c]⟩) (hn : n ≤ 16777216) (k : ∀ cs : List Nat, (∀ c ∈ cs, p c) → cs.length = n → K ⟨cs.toArray⟩) : joinOk "" (.lst ys) K := by
  have h : ∃ cs : List Nat, (∀ c ∈ cs, p c) ∧ cs.length = ys.length ∧ ys = cs.map fun c => D.str ⟨#[c]⟩ := by
    clear hl k
    induction ys with
    | nil => exact ⟨[], by simp, rfl, rfl⟩
    | cons y r ih =>
      obtain ⟨cs, h1, h2, h3⟩ := ih fun z hz => hy z (List.mem_cons_of_mem _ hz)
      obtain ⟨c, hc, e⟩ := hy y List.mem_cons_self
      exact ⟨c :: cs, fun z hz => by rcases List.mem_cons.mp hz with q | q; rw [q]; exact hc; exact h1 z q, by simp [h2], by rw [e, h3]; rfl⟩
  obtain ⟨cs, h1, h2, h3⟩ := h
  have e0 : ("" : Str) = _root_.SX.S [] := rfl
  have e1 : (cs.map fun c => (⟨#[c]⟩ : Str)) = (cs.map fun c => [c]).map _root_.SX.S := by rw [List.map_map]; rfl
  refine ⟨cs.map fun c => ⟨#[c]⟩, .inl (by rw [h3, List.map_map]; rfl), ?_, ?_⟩
  · have : ((cs.map fun c => (⟨#[c]⟩ : Str)).map (·.length)).sum = cs.length := by
      rw [List.map_map]
      clear h1 h2 h3 e1
      induction cs with
      | nil => rfl
      | cons c r ih => rw [List.map_cons, List.sum_cons, ih, List.length_cons]; show 1 + _ = _; omega
    rw [this]
    have z : ("" : Str).length = 0 := rfl
    rw [z]
    omega
  · rw [e0, e1, _root_.SX.join_S, joinL_nil]
    exact k cs h1 (by omega)
theorem mem_rngD {lo : Int} {n : Nat} {x : D} (h : x ∈ rngD lo n) : ∃ i : Nat, i < n ∧ x = .int (lo + i) := by
  unfold rngD at h
  obtain ⟨i, hi, e⟩ := List.mem_map.mp h
  exact ⟨i, List.mem_range.mp hi, e.symm⟩
theorem mem_signs {s : Str} {x : D} (h : x ∈ signs s) : ∃ c ∈ s.cps.toList, x = .str ⟨#[c]⟩ := by
  unfold signs at h
  obtain ⟨i, hi, e⟩ := List.mem_map.mp h
  exact ⟨i, hi, e.symm⟩
theorem rngD_len {lo : Int} {n : Nat} : (rngD lo n).length = n := by simp [rngD]
theorem signs_len {s : Str} : (signs s).length = s.length := by simp [signs, Str.length]
end Hw
set_option Elab.async false
set_option linter.all false
set_option maxRecDepth 100000
set_option maxHeartbeats 1000000
namespace Hw
open PySem L2 PyProof.Rows PySem.Spec
/-! ### an own exception's __init__ that says super().__init__(text) -/
abbrev supEnv (qual : Str) (scope : Scope) (L f cda cc : Addr) : Env := PySem.W.ksEnv qual scope L f (.ref cda) cc
/-- the context of such an __init__ -/
def supCx (P : Program) (w : World) (K : PySem.W.Frag) (mg : Str → Option Value) (base : Heap) (N : List Str) (qual : Str) (scope : Scope) (f cda cc : Addr) (A : Around) (outer : List Env) (s : Shared) (H : Hp) (E : XK) : Cx :=
  { cxOf (L2.CX P w) P w K mg base N qual scope f (.ref cda) A outer s H E with
    A := A.deeper (supEnv qual scope s.heap.objs.size f cda cc)
    env := supEnv qual scope s.heap.objs.size f cda cc
    stack := supEnv qual scope s.heap.objs.size f cda cc :: outer
    fn := fun _ => false
    xe := fun e s' => wpAny (model P w) (A.deeper (supEnv qual scope s.heap.objs.size f cda cc)) (leaving (supEnv qual scope s.heap.objs.size f cda cc) e) (fun _ s'' => L2.CX P w outer H s E e s'') (fun e' s'' => L2.CX P w outer H s E e' s'') s' }
/-- its names -/
structure SupScope (N ps : List Str) (sc : Scope) : Prop where
  kind : sc.kind = .function
  co : sc.isCoroutine = false
  gen : sc.isGenerator = false
  nd : N.Nodup
  pre : N.take ps.length = ps
  par : ∀ x ∈ ps, sc.names.lookup x = some .local
  only : ∀ y ∈ sc.names, y.2 ≠ .cell
  free : ∀ y ∈ sc.names, y.2 = .free → y.1 = "__class__"
  sup : sc.names.lookup ("super" : Str) = some .globalImplicit
  cls : sc.names.lookup ("__class__" : Str) = some .free
theorem zip_fst {α β : Type} : ∀ (a : List α) (b : List β), (a.zip b).map (·.1) = a.take b.length
  | [], _ => by simp
  | _ :: _, [] => by simp
  | x :: a, y :: b => by simp [zip_fst a b]
section
variable {P : Program} {w : World} {K : PySem.W.Frag} {mg : Str → Option Value} {base : Heap} {N ps : List Str} {qual : Str} {scope : Scope} {f cda cc : Addr} {A : Around} {outer : List Env} {s : Shared} {H : Hp} {E : XK} {us : List Value} {vs : List V}
theorem sup_start {h₁ : Heap} {tk : Nat} {D : Value} {cl : Value} {cld : Option Addr} {csl : Array (Option Value)} (S : SupScope N ps scope) (hd : A.handled = none) (e0 : Env0 P w K mg base A outer s H) (hl : vs.length = ps.length) (r : Vals vs us)
    (hcell : K.lookup cc = some ⟨cl, cld, .cell (some D), csl⟩) (hns : h₁.Ns s.heap.objs.size (fun x => (ps.zip us).reverse.lookup x)) (hk : ∀ b o, s.heap.get? b = some o → h₁.get? b = some o) :
    Inv (supCx P w K mg base N qual scope f cda cc A outer s H E) [] (L2.start N vs) H { s with heap := h₁, toks := tk } := by
  have hpl : ps.length ≤ N.length := by have := congrArg List.length S.pre; rw [List.length_take] at this; omega
  have noA : ∀ b : Addr, b ∉ (supCx P w K mg base N qual scope f cda cc A outer s H E).ex := fun b z => absurd (show b ∈ ([] : List Addr) from z) (by simp)
  have hb := e0.mod.kin cc _ hcell
  have look : ∀ {y : Str} {c : Addr}, ([("__class__", cc)] : List (Str × Addr)).lookup y = some c → y = "__class__" ∧ c = cc := fun {y c} e => by
    rw [List.lookup_cons] at e
    cases q : y == ("__class__" : Str) with
    | true => rw [q] at e; exact ⟨by simpa using q, (Option.some.inj e).symm⟩
    | false => rw [q] at e; cases e
  refine ⟨⟨e0.mod, S.kind, rfl, rfl, Nat.le_refl _, fun y z c h1 h2 => (look h1).1.trans (look h2).1.symm, fun y hy => ?_, fun y c z _ => ?_, fun _ => hd, Around.frames_deeper e0.frames, .inr ⟨rfl, rfl⟩, fun b z => absurd z (noA b), e0.bs, e0.bsz, fun b _ _ => noA b, fun b z => absurd z (noA b), e0.funs, e0.frf⟩,
    rfl, e0.bare, Un.kept hk, ⟨_, hns, fun i y v h1 h2 h3 => ?_⟩, fun y c h => ?_, e0.hok.fresh (Nat.le_refl _), fun y c h => ?_, fun p hp => absurd (show p ∈ ([] : List (Addr × Obj)) from hp) (by simp), e0.hok.kept hk, ?_⟩
  · have hy : scope.names.lookup y = some .cell ∨ scope.names.lookup y = some .free := hy
    rcases hy with hy | hy
    · exact absurd rfl (S.only _ (PySem.mem_of_lookup hy))
    · have e := S.free _ (PySem.mem_of_lookup hy) rfl
      have e : y = "__class__" := e
      subst e
      exact ⟨cc, rfl⟩
  · have z : false = true := z
    cases z
  · have hi : i < vs.length := by
      unfold L2.start at h2
      by_cases hi : i < vs.length
      · exact hi
      · rw [List.getElem?_append_right (by simpa using hi)] at h2
        rw [List.getElem?_replicate] at h2
        split at h2 <;> cases h2
    have ha : vs[i]? = some v := by
      unfold L2.start at h2
      rw [List.getElem?_append_left (by simpa using hi), List.getElem?_map] at h2
      cases e : vs[i]? with
      | none => rw [e] at h2; cases h2
      | some a => rw [e] at h2; cases h2; rfl
    obtain ⟨u, hu, rv⟩ := r.get ha
    have hp : ps[i]? = some y := by
      rw [← S.pre, List.getElem?_take_of_lt (by omega)]; exact h1
    have ndP : ps.Nodup := by rw [← S.pre]; exact S.nd.sublist (List.take_sublist _ _)
    refine ⟨u, rv, .inl ⟨S.par y (List.mem_of_getElem? hp), ?_⟩⟩
    have hm : (y, u) ∈ ps.zip us := by
      exact List.mem_of_getElem? (i := i) (by rw [List.getElem?_zip_eq_some]; exact ⟨hp, hu⟩)
    have nd2 : ((ps.zip us).map (·.1)).Nodup := by
      rw [zip_fst]
      exact ndP.sublist (List.take_sublist _ _)
    have key : ∀ l : List (Str × Value), (l.map (·.1)).Nodup → (y, u) ∈ l → l.lookup y = some u := by
      intro l
      induction l with
      | nil => intro _ q; simp at q
      | cons p q ih =>
        intro n m
        obtain ⟨a, b⟩ := p
        rw [List.map_cons, List.nodup_cons] at n
        rw [List.lookup_cons]
        rcases List.mem_cons.mp m with e | e
        · cases e
          simp
        · have : (y == a) = false := by
            have : y ≠ a := fun z => n.1 (by rw [← z]; exact List.mem_map_of_mem (f := (·.1)) e)
            simpa using this
          rw [this]
          exact ih n.2 e
    show (ps.zip us).reverse.lookup y = some u
    rw [lookup_reverse_of_nodup _ nd2]
    exact key _ nd2 hm
  · obtain ⟨_, e⟩ := look h
    subst e
    exact ⟨_, _, hk _ _ (e0.bs _ _ hb).1, rfl⟩
  · obtain ⟨_, e⟩ := look h
    subst e
    exact (e0.bs _ _ hb).2
  · unfold L2.start
    show _ = N.length
    rw [List.length_append, List.length_map, List.length_replicate]
    omega
end
end Hw
set_option Elab.async false
set_option linter.all false
set_option maxRecDepth 100000
set_option maxHeartbeats 1000000
namespace Hw
open PySem L2 PyProof.Rows PySem.Spec
/-- what the program's head says -/
structure PF (P : Program) : Prop where
  top : (P.main.scope.names.lookup ("super" : Str)).isSome = false
/-- a class of the family of ValueError, its __init__ with super() -/
structure SupCls (P : Program) (K : PySem.W.Frag) (D : Addr) : Prop where
  ex : OexC K D
  cls : ∃ cd, PySem.W.clsIn K D = some cd
  mro : PySem.W.mroIn K D (.ref D) = some true
  sup : PySem.W.ks_superIn K D D "__init__" = some (some (.builtin "ValueError.__init__"))
  isV : PySem.W.subIn K (.ref D) (.type "ValueError") = some true
  any : PySem.W.nsIn K cStatics "thirdparty.any" = some none
  blt : PySem.W.nsIn K mainGlobals "super" = some none
  nc : PySem.W.findIn K (.ref D) "code" = some none
/-- its function's object -/
structure SupFn (P : Program) (K : PySem.W.Frag) (qual : Str) (st : Stmt) (D : Addr) (f : Addr) (fd : FuncData) (cda cc : Addr) : Prop where
  ex : ∃ (oc ccl cl kV doc pm ct : Value) (od cdd cld an : Option Addr) (osl ccs csl : Array (Option Value)) (vs : Array Value) (file : Str) (tf : Tok),
    fd = PySem.W.ksFn "__init__" qual (defArgs st) (defBody st) (defScope st) .none kV doc pm an (.ref cda) ct cc ∧ K.lookup f = some ⟨oc, od, .func fd, osl⟩ ∧ PySem.W.codeIn K (.ref cda) qual = true ∧
      K.lookup cda = some ⟨ccl, cdd, .fields vs, ccs⟩ ∧ vs[2]? = some (.str file tf) ∧ ((P.main.file : Str) == file) = true ∧ K.lookup cc = some ⟨cl, cld, .cell (some (.ref D)), csl⟩
section
variable {P : Program} {w : World} {K : PySem.W.Frag} {mg : Str → Option Value} {base : Heap} {N ps : List Str} {qual : Str} {f cda cc D : Addr} {fd : FuncData} {st : Stmt} {k : Nat}
/-- the spec: the object under way, then what the rest of the body makes -/
def spSup (K : PySem.W.Frag) (D : Addr) (N : List Str) (n : Nat) (t : TS) : Sp := fun vs H Q _ => ∃ a ws, vs = .ref a :: ws ∧ vs.length = n ∧ H a = some (exo a D none) ∧ t { nx := fun _ H' => Q .non H', rt := Q } (L2.start N vs) H
theorem fn_sup {rest : List Stmt} {t : TS} {p0 p1 p2 p3 p4 p5 : Pos} {text : Str} {pl : Sem Bool} (pf : PF P) (C : SupCls P K D) (F : SupFn P K qual st D f fd cda cc) (S : SupScope N ps (defScope st)) (hp0 : ps.head? = some ("self" : Str)) (har : ∃ ar : Arg, ((defArgs st).posonlyargs ++ (defArgs st).args).head? = some ar ∧ ar.arg = "self")
    (hbody : defBody st = .Expr (.Call (.Attribute (.Call (.Name "super" p0) [] [] p1) "__init__" p2) [.Constant (.str text) 0 p3] [] p4) p5 :: rest)
    (hev : ∀ L : Addr, eval (.Call (.Attribute (.Call (.Name "super" p0) [] [] p1) "__init__" p2) [.Constant (.str text) 0 p3] [] p4) (supEnv qual (defScope st) L f cda cc) = (do
      let ov ← attributeBase (.Call (.Name "super" p0) [] [] p1) "__init__" (supEnv qual (defScope st) L f cda cc) (eval (.Call (.Name "super" p0) [] [] p1) (supEnv qual (defScope st) L f cda cc))
      standAt p2.atName
      let (g0, first) ← holding [ov] (getMethod ov "__init__" pl)
      callWith p4 g0 first (backTo p4 (starEach [.Constant (.str text) 0 p3] (supEnv qual (defScope st) L f cda cc))) []))
    (hrest : ∀ (A : Around) (outer : List Env) (s : Shared) (H : Hp) (E : XK), PSs (supCx P w K mg base N qual (defScope st) f cda cc A outer s H E) rest t) :
    FnOk P w K mg base (L2.CX P w) (k + 1) f fd ps (spSup K D N ps.length t) := by
  refine ⟨fun vs H Q E ⟨a, ws, e, l, _⟩ => l, fun A outer s H args us vs Q E hr e0 hb r ⟨a, ws, ev, hl, ea, ht⟩ => ?_⟩
  obtain ⟨oc, ccl, cl, kV, doc, pm, ct, od, cdd, cld, an, osl, ccs, csl, cvs, file, tf, rfl, lk, hcd, hco, hv2, hfile, hcell⟩ := F.ex
  have KX : K.In s.heap := e0.mod.kin.keeps fun b o e => (e0.bs b o e).1
  have lim : s.heap.NoLimit := e0.mod.nolimit.keeps fun b o e => (e0.bs b o e).1
  refine PySem.ks_codeAny_call_defAt (fd := PySem.W.ksFn "__init__" qual (defArgs st) (defBody st) (defScope st) .none kV doc pm an (.ref cda) ct cc) (body := defBody st) hr.depth (KX _ _ lk) rfl lim (PySem.W.codeRec_of KX hcd) rfl hb S.only (fun y hy => S.par y.1 (List.of_mem_zip hy).1) (fun h₁ hns hk₁ => ?_) S.co S.gen S.kind
  have I : Inv (supCx P w K mg base N qual (defScope st) f cda cc A outer s H E) [] (L2.start N vs) H { s with heap := h₁, toks := s.toks + (ps.zip us).length } := sup_start S hr.hd e0 hl r hcell hns hk₁
  have fin : ∀ {s' : Shared}, wpAny (model P w) (A.deeper (supEnv qual (defScope st) s.heap.objs.size f cda cc)) (execs rest (supEnv qual (defScope st) s.heap.objs.size f cda cc)) (SP (supCx P w K mg base N qual (defScope st) f cda cc A outer s H E) [] { nx := fun _ H' => Q .non H', rt := Q }) ((supCx P w K mg base N qual (defScope st) f cda cc A outer s H E).xe) s' →
      _root_.PySem.wpAt (model P w) (A.deeper (supEnv qual (defScope st) s.heap.objs.size f cda cc)) (.func (defBody st) (supEnv qual (defScope st) s.heap.objs.size f cda cc)) (execs rest (supEnv qual (defScope st) s.heap.objs.size f cda cc)) (fun fl s' => (CR (L2.CX P w) outer P w H s Q E) (.ok (.ret (match fl with | .ret v => v | _ => .none))) s')
        (fun e s' => wpAny (model P w) (A.deeper (supEnv qual (defScope st) s.heap.objs.size f cda cc)) (leaving (supEnv qual (defScope st) s.heap.objs.size f cda cc) e) (fun _ s'' => (CR (L2.CX P w) outer P w H s Q E) (.error e) s'') (fun e' s'' => (CR (L2.CX P w) outer P w H s Q E) (.error e') s'') s') s' := fun {s'} h => by
    refine wpAt_of_wpAny (wpAny_mono h (fun fl s' hs => ?_) fun e s' hs => hs)
    have fin : ∀ {σ' : L2.St} {H' : Hp} {v : V} {u : Value}, Inv (supCx P w K mg base N qual (defScope st) f cda cc A outer s H E) [] σ' H' s' → L2.RelV v u → Q v H' → CE outer P w H s Q u s' :=
      fun {σ' H' v u} J rv q => ⟨v, H', J.os, J.bare, J.base, J.hok, rv, q⟩
    cases fl with
    | ret u =>
      obtain ⟨v, σ', H', J, rv, q⟩ := hs
      exact fin J rv q
    | next =>
      obtain ⟨σ', H', J, q⟩ := hs
      exact fin (v := V.non) (u := Value.none) J rfl q
    | brk =>
      obtain ⟨_, _, _, q⟩ := hs
      exact False.elim q
    | cont =>
      obtain ⟨_, _, _, q⟩ := hs
      exact False.elim q
  rw [hbody]
  obtain ⟨t1, hx⟩ := exo_at I.hok ea
  have X1 : K.In h₁ := I.kIn
  obtain ⟨cd, hcd2⟩ := C.cls
  obtain ⟨oD, hD1, hD2⟩ : ∃ oD, h₁.get? D = some oD ∧ oD.data = .cls cd := by
    have hcd3 := hcd2
    unfold PySem.W.clsIn at hcd3
    split at hcd3
    · rename_i c d cd' sl ho
      cases hcd3
      exact ⟨_, X1 _ _ ho, rfl⟩
    · cases hcd3
  obtain ⟨ar, har1, har2⟩ := har
  have hself : N[0]? = some ("self" : Str) := by
    have e : (N.take ps.length)[0]? = some ("self" : Str) := by rw [S.pre, ← List.head?_eq_getElem?]; exact hp0
    cases N with
    | nil => simp at e
    | cons n0 N' =>
      cases ps with
      | nil => cases hp0
      | cons p0' ps' => simpa using e
  have hps : ("self" : Str) ∈ ps := by
    cases ps with
    | nil => cases hp0
    | cons p0' ps' =>
      simp only [List.head?_cons, Option.some.injEq] at hp0
      rw [hp0]
      exact List.mem_cons_self
  subst ev
  obtain ⟨mL, hnL, hlL⟩ := id I.loc
  obtain ⟨uself, ruself, hlook⟩ := hlL 0 "self" (.ref a) hself rfl (.inl (S.par _ hps))
  obtain rfl : uself = Value.ref a := ruself
  have hmL : mL "self" = some (.ref a) := by
    rcases hlook with ⟨_, e⟩ | ⟨e, _⟩
    · exact e
    · have e0 : (defScope st).names.lookup ("self" : Str) = some .local := S.par _ hps
      rcases e with e | e <;> (have e : (defScope st).names.lookup ("self" : Str) = _ := e; rw [e0] at e; cases e)
  refine PySem.ks_wpAt_execs_cons (PySem.ks_wpAt_Expr_any (PySem.ks_wpAt_MethodCall (PySem.ks_wpAt_super_base (env := supEnv qual (defScope st) s.heap.objs.size f cda cc) S.sup S.cls (by decide) rfl (X1 _ _ lk) rfl har1 rfl (X1 _ _ hco) rfl hv2 hfile pf.top ?_) (hev _)) (by show interactive (supEnv qual (defScope st) s.heap.objs.size f cda cc) = false; unfold interactive; rw [show (supEnv qual (defScope st) s.heap.objs.size f cda cc).scope.kind = .function from S.kind]; rfl))
  obtain ⟨mb, hb1, hb2⟩ := I.mod.blt
  refine PySem.W.ks_loadName_global S.kind S.sup (Calls.loadGlobal_builtin (I.mod.glob.keeps I.bk) (PySem.W.mg_none_of I.mod.kin I.mod.glob C.blt) (hb1.keeps I.bk) ((hb2 "super" (by decide)).trans (by first | rfl | kernel_rfl)) ⟨rfl, ?_⟩)
  refine wpAny_loadName_free S.kind S.cls rfl ⟨_, X1 _ _ hcell, rfl⟩ ?_
  rw [har2]
  refine wpAny_loadName_local S.kind (S.par _ hps) hnL hmL ?_
  refine ks_wpAny_isType_cls hD1 hD2 ⟨rfl, ?_⟩
  refine ks_wpAny_call_super hD1 hD2 hx rfl (fun c e => by cases e) (PySem.W.looks_mroIn X1 C.mro) (fun h2 e2 k2 => ?_)
  have X2 : K.In h2 := X1.keeps k2
  have hx2 := k2 _ _ hx
  have hI : PySem.W.Looks (model P w) h2 (isInstance (.ref a) (.type "ValueError")) true := by
    have J : PySem.W.InstAt h2 a _ D none := ⟨hx2, rfl, rfl, trivial⟩
    exact J.type.andThen (PySem.W.looks_subIn X2 C.isV)
  have hne : a ≠ D := PySem.W.ks_ne (odx := none) X1 ⟨hx, rfl, rfl, trivial⟩ hcd2
  have hal : PySem.W.alongIn K "__init__" ((cd.mro.dropWhile (· != .ref D)).drop 1) = some (some (.builtin "ValueError.__init__")) := by
    have q := C.sup
    unfold PySem.W.ks_superIn at q
    rw [hcd2] at q
    exact q
  refine PySem.W.kxs_getMethod PySem.W.kxs_ValueError e2 (PySem.W.looks_opaque X2 C.any) (l₀ := cd.mro) (fun A Q E s k q => wpAny_bind ((PySem.W.looks_clsIn X2 hcd2) A _ E s k (wpAny_pure q))) rfl X2 hal hI hne (by decide) ?_
  have k3 : ∀ b o, h₁.get? b = some o → (h2.push (PySem.W.kxs_mw "ValueError.__init__" a)).get? b = some o := fun b o e => Heap.get?_push_of_some _ (k2 b o e)
  have hu3 : (h2.push (PySem.W.kxs_mw "ValueError.__init__" a)).get? h2.objs.size = some (PySem.W.kxs_mw "ValueError.__init__" a) := Heap.get?_push_at rfl rfl
  have I3 : Inv (supCx P w K mg base N qual (defScope st) f cda cc A outer s H E) [] (L2.start N (.ref a :: ws)) H ⟨h2.push (PySem.W.kxs_mw "ValueError.__init__" a), s.gens, s.drawn, s.toks + (ps.zip us).length + 1, s.os⟩ := I.kept k3
  obtain ⟨nm, q, N0, bs, bm, sn, sub, ab, col, dd, k0, k1, kk2, kk3, k5, hC, hbm⟩ := C.ex.cls
  have hC3 := I3.kIn _ _ hC
  obtain ⟨t3, hx3⟩ := exo_at I3.hok ea
  refine PySem.W.kxs_callWith (i := "ValueError.__init__") (x := a) rfl ?_
  refine Calls.evalArgs_plain (Calls.spliced_cons (wpAny_Constant_str (k := 0) (pos := p3) (Calls.spliced_nil ⟨hu3, ?_⟩)))
  have FB := PySem.F.excBase_ValueError
  refine wpAny_call (codeAny_of_tree ?_)
  show wpAny _ (A.deeper (supEnv qual (defScope st) s.heap.objs.size f cda cc)).in1 (callAny (.ref h2.objs.size) ⟨[.str text _], []⟩) _ _ _
  simp only [callAny]
  refine wpAny_bind (wpAny_load hu3 ?_)
  simp only [PySem.W.kxs_mw, show (Value.type "method-wrapper" == Value.type "method" || Value.type "method-wrapper" == Value.type "builtin_function_or_method" || Value.type "method-wrapper" == Value.type "method-wrapper") = true by decide, if_true]
  refine PySem.W.KFB.if_so (by decide) ?_
  refine wpAny_bind (PySem.W.check_bound_init FB.toExcCallFacts hC3 hx3 rfl ?_)
  refine wpAny_bind (wpAny_pure (wpAny_pure ?_))
  refine ⟨plainId_quiet FB.init.plain _, codeAny_builtin FB.initEntry ?_⟩
  refine PySem.W.exc_init_tree (cls := .ref D) (t0 := t3) (dv := none) (c2 := .none) (c3 := .none) (b4 := .bool false) hx3 (by rw [sizeLine_eq]; exact Nat.le_of_ble_eq_true rfl) fun h4 k4 hx4 _ => ?_
  have I5 : Inv (supCx P w K mg base N qual (defScope st) f cda cc A outer s H E) [] (L2.start N (.ref a :: ws)) H ⟨h4, s.gens, s.drawn, s.toks + (ps.zip us).length + 1 + 1, s.os⟩ := by
    have J := (I3.tok (s.toks + (ps.zip us).length + 1 + 1)).write (t' := s.toks + (ps.zip us).length + 1 + 1) (x := a) (e := a) (o := exo a D none) (by rw [ea]; exact True.intro) (.inl rfl) k4 ⟨_, hx4⟩ (exo_ok hx4)
    have eu : upd H a (exo a D none) = H := by
      funext b
      by_cases hb : b = a
      · rw [hb, upd_same, ea]
      · rw [upd_ne hb]
    rw [eu] at J
    exact J
  have z := fin ((hrest A outer s H E).run [] _ _ H _ I5 ht)
  rw [hbody] at z
  exact z
end
end Hw
set_option Elab.async false
set_option linter.all false
set_option maxRecDepth 100000
set_option maxHeartbeats 1000000
namespace Hw
open PySem L2 PyProof.Rows PySem.Spec
/-! ### what makes an exception -/
structure MX (X : Cx) (PE : XP) (μ : Mu) (ds : DS) (e : Expr) (Q : XP) : Prop where
  pm : L2.PMk X e (fun σ H Q' => Hold X.K μ H ∧ Sl X PE μ H σ ds ∧ ∀ Ca dd H' fs vfs μ', Stp μ H μ' H' → Hold X.K μ' H' → H' dd = some (.xd vfs) → DenFs X.K μ' H' vfs fs → Q Ca fs μ' → Q' (.ref Ca) (some dd) H')
section
variable {X : Cx} {PE : XP} {e a b c : Expr} {es : List Expr} {μ : Mu} {ds : DS} {P : DP} {pos : Pos} {Z : Po}
theorem sx_raise (h : MX X PE μ ds e PE) (hc : X.calm = true) : SX X PE μ ds (.Raise (some e) none pos) Z :=
  sx_of (ps_raise hc takes_Wx h.pm) fun D σ H ho hs m => ⟨ho, hs, fun Ca dd H' fs vfs μ' s1 h1 e1 n1 p => hs.x Ca dd H' fs vfs μ' σ s1 h1 e1 n1 p⟩
end
/-- an own exception class of one field, at D -/
structure Exc1 (P : Program) (K : PySem.W.Frag) (x qual fld prm text : Str) (st : Stmt) (D : Addr) : Prop where
  c : SupCls P K D
  nf : PySem.W.findIn K (.ref D) fld = some none
  ini : ∃ f fd cda cc, SupFn P K qual st D f fd cda cc ∧ PySem.W.findIn K (.ref D) "__init__" = some (some (.ref f)) ∧ PySem.W.typeIn K (.ref f) = some (.type "function")
section
variable {X : Cx} {PE : XP} {e : Expr} {es : List Expr} {μ : Mu} {ds : DS} {P : DP} {pos p : Pos} {Q : XP} {x qual fld prm text : Str} {st : Stmt} {D : Addr}
theorem mx_call1 {p0 p1 p2 p3 p4 p5 q0 q1 q2 q3 r0 r1 r2 r3 : Pos} {ar1 ar2 : Arg} {pl : Sem Bool} {k : Nat} (pf : PF X.prog) (C : Exc1 X.prog X.K x qual fld prm text st D) (hm : X.mg x = some (.ref D)) (hr : Room (k + 3) X.A) (S : SupScope ["self", prm] ["self", prm] (defScope st))
    (h : EX X PE μ ds e fun d μ1 => Q D [(fld, d), (("code" : Str), .str text)] μ1) (hg : Gl X x)
    (hbody : defBody st = [.Expr (.Call (.Attribute (.Call (.Name "super" p0) [] [] p1) "__init__" p2) [.Constant (.str text) 0 p3] [] p4) p5, .Assign [.Attribute (.Name "self" q0) "code" q1] (.Constant (.str text) 0 q2) q3, .Assign [.Attribute (.Name "self" r0) fld r1] (.Name prm r2) r3])
    (har : (defArgs st).posonlyargs ++ (defArgs st).args = [ar1, ar2]) (har1 : ar1.arg = "self")
    (hbind : ∀ (cc : Addr) (kV doc pm ct cv : Value) (an : Option Addr) (u v : Value), bindArgs (PySem.W.ksFn "__init__" qual (defArgs st) (defBody st) (defScope st) .none kV doc pm an cv ct cc) ⟨[u, v], []⟩ = pure [(("self" : Str), u), (prm, v)])
    (hev : ∀ L f cda cc : Addr, eval (.Call (.Attribute (.Call (.Name "super" p0) [] [] p1) "__init__" p2) [.Constant (.str text) 0 p3] [] p4) (supEnv qual (defScope st) L f cda cc) = (do
      let ov ← attributeBase (.Call (.Name "super" p0) [] [] p1) "__init__" (supEnv qual (defScope st) L f cda cc) (eval (.Call (.Name "super" p0) [] [] p1) (supEnv qual (defScope st) L f cda cc))
      standAt p2.atName
      let (g0, first) ← holding [ov] (getMethod ov "__init__" pl)
      callWith p4 g0 first (backTo p4 (starEach [.Constant (.str text) 0 p3] (supEnv qual (defScope st) L f cda cc))) []))
    (hs1 : ∀ env : Env, swapsWith (.Constant (.str text) 0 q2) (some (.Attribute (.Name "self" q0) "code" q1)) q3.line env = pure false) (hs2 : ∀ env : Env, swapsWith (.Name prm r2) (some (.Attribute (.Name "self" r0) fld r1)) r3.line env = pure false)
    (hd1 : (prm == ("__debug__" : Str)) = false) (hd2 : (prm == ("__classdict__" : Str)) = false) (hne : fld ≠ "code") (hdb : (x == ("__debug__" : Str)) = false := by decide)
    (he : starEach [e] X.env = (false, eval e X.env) :: starEach [] X.env := by rfl) (hpl : (backTo pos (starEach [] X.env)).any (·.1) = false := by rfl) :
    MX X PE μ ds (.Call (.Name x p) [e] [] pos) Q := by
  obtain ⟨f, fd, cda, cc, F, hi, ht⟩ := C.ini
  have vs0 : Vis (defScope st) "self" := .inl (S.par _ (by simp))
  have vs1 : Vis (defScope st) prm := .inl (S.par _ (by simp))
  have rest : ∀ (A : Around) (outer : List Env) (s : Shared) (H : Hp) (E : XK), PSs (supCx X.prog X.w X.K X.mg X.base ["self", prm] qual (defScope st) f cda cc A outer s H E)
      [.Assign [.Attribute (.Name "self" q0) "code" q1] (.Constant (.str text) 0 q2) q3, .Assign [.Attribute (.Name "self" r0) fld r1] (.Name prm r2) r3] (tSeq (tOst X.K "code" (tVar 0) (tC (V.str text))) (tOst X.K fld (tVar 0) (tVar 1))) := fun A outer s H E =>
    pss_cons (ps_ost (pe_var (i := 0) (x := "self") rfl vs0 (by decide) (by decide)) pe_str (hs1 _)) (pss_one (ps_ost (pe_var (i := 0) (x := "self") rfl vs0 (by decide) (by decide)) (pe_var (i := 1) (x := prm) rfl vs1 hd1 hd2) (hs2 _)))
  have F1 := fn_sup (w := X.w) (mg := X.mg) (base := X.base) (k := k) pf C.c F S rfl ⟨ar1, by rw [har]; rfl, har1⟩ hbody (fun L => hev L f cda cc) rest
  have hb : Binds X.K fd ["self", prm] [] := by
    obtain ⟨oc, ccl, cl, kV, doc, pm, ct, od, cdd, cld, an, osl, ccs, csl, cvs, file, tf, rfl, _⟩ := F.ex
    exact fun s us _ hl => match us, hl with | [u, v], _ => .of_eq (hbind _ _ _ _ _ _ _ u v)
  refine ⟨fun pins s σ H Q' I ⟨ho, hs, kk⟩ => ?_⟩
  refine pmk_oex (ds := []) (dvs := []) (k := k + 1) C.c.ex hi ht F1 (hr.mono (by omega)) hb .nil (passes_call takes_Wx fun _ _ _ _ h => h.elim) hg hm (pa_cons pe_U pa_nil he) hdb he hpl pins s σ H Q' I ?_
  refine h.at ho hs fun v H1 d μ1 s1 h1 b1 n1 q => ⟨by simp, fun a na => ?_⟩
  refine ⟨a, [v], rfl, rfl, upd_same, ?_⟩
  show tOst X.K "code" (tVar 0) (tC (V.str text)) _ _ _
  refine ⟨.ref a, rfl, a, D, rfl, C.c.ex, C.c.nc, .inl ⟨upd_same, fun dx nd ne => ?_⟩⟩
  have nd1 : H1 dx = none := by rw [upd_ne ne] at nd; exact nd
  show tOst X.K fld (tVar 0) (tVar 1) _ _ _
  have ea : (upd (upd (upd H1 a (exo a D none)) dx (exd dx [(("code" : Str), V.str text)])) a (exo a D (some dx))) dx = some (exd dx [(("code" : Str), V.str text)]) := by rw [upd_ne ne, upd_same]
  refine ⟨v, rfl, .ref a, rfl, a, D, rfl, C.c.ex, C.nf, .inr ⟨dx, _, upd_same, ea, by simp, rfl, dx, _, by rw [upd_ne (Ne.symm ne), upd_same], upd_same, nd1, ?_⟩⟩
  have eh : upd (del (upd (upd (upd (upd H1 a (exo a D none)) dx (exd dx [(("code" : Str), V.str text)])) a (exo a D (some dx))) dx (exd dx [(fld, v), (("code" : Str), V.str text)])) a) dx (.xd [(fld, v), (("code" : Str), V.str text)]) = upd H1 dx (.xd [(fld, v), (("code" : Str), V.str text)]) := by
    funext b
    by_cases h1 : b = dx
    · subst h1; rw [upd_same, upd_same]
    · rw [upd_ne h1, upd_ne h1]
      by_cases h2 : b = a
      · subst h2; rw [del_same, na]
      · rw [del_ne h2, upd_ne h1, upd_ne h2, upd_ne h1, upd_ne h2]
  rw [eh]
  exact kk D dx _ _ _ μ1 (s1.trans (Stp.new nd1)) (h1.new nd1) upd_same (.cons (n1.mono (Stp.new nd1)) (.cons (.str _) .nil)) q
end
end Hw
set_option Elab.async false
set_option linter.all false
set_option maxRecDepth 100000
set_option maxHeartbeats 1000000
namespace Hw
open PySem L2 PyProof.Rows PySem.Spec
/-! ### try: .. except (A, B, C) as n: .. -/
theorem up_push {g : Heap} {o : Obj} : g.UpToSlots (g.push o) := fun b u e _ => ⟨u.slots, Heap.get?_push_of_some _ e⟩
theorem fly_push {B : Heap} {l : List Env} {e : Addr} {Z : Obj → Prop} {g : Heap} {o : Obj} (x : HandSPX.FlyingZ B l e Z g) : HandSPX.FlyingZ B l e Z (g.push o) := by
  obtain ⟨y1, y2, y3, oe, vs, T, oT, ts, z1, z2, z3, z4, z5, z6, z7, z8, z9⟩ := x
  have up : ∀ b u, g.get? b = some u → (g.push o).get? b = some u := fun b u q => Heap.get?_push_of_some _ q
  exact ⟨fun b u q => up b u (y1 b u q), y2, Heap.FunFrames.of_keeps (fun b u q _ => ⟨u, up b u q, rfl⟩) y3, oe, vs, T, oT, ts, up _ _ z1, z2, z3, z4, z5, z6, up _ _ z7, z8, z9⟩
/-- what the clause wishes of an exception of the body -/
def wTri (K : PySem.W.Frag) (n0 : Nat) (c1 c2 c3 : Value) (i : Nat) (ts : Addr → Value → Option Addr → TS) (Wo : WX) (D : Ends) : WX := fun cls d σ H =>
  ∃ b, PySem.W.exmAny K cls [c1, c2, c3] = some b ∧ (b = false → Wo cls d σ H) ∧
    (b = true → σ.length = n0 → ∀ a, H a = none → ts a cls d ⟨fun τ G => D.nx (τ.set i none) G, D.rt, fun τ G => D.bk (τ.set i none) G, fun τ G => D.ct (τ.set i none) G⟩ (σ.set i (some (.ref a))) H)
section
variable {X : Cx} {x1 x2 x3 n : Str} {c1 c2 c3 : Value} {i : Nat} {blk st : List Stmt} {b0 : Stmt} {q1 q2 q3 q4 q5 pos : Pos} {kk : Nat} {tb : WX → TS} {ts : Addr → Value → Option Addr → TS} {Wo : WX}
theorem ps_try3 (hs : X.stack = X.env :: X.outer) (hf : X.env.frame = some X.env.locals) (hN : X.N.Nodup) (hi : X.N[i]? = some n) (hln : X.env.kindOf n = some .local) (gl1 : Gl X x1) (gl2 : Gl X x2) (gl3 : Gl X x3) (m1 : X.mg x1 = some c1) (m2 : X.mg x2 = some c2) (m3 : X.mg x3 = some c3)
    (k1 : (x1 == ("__debug__" : Str)) = false) (k2 : (x2 == ("__debug__" : Str)) = false) (k3 : (x3 == ("__debug__" : Str)) = false) (tk : Takes X Wo)
    (hb : ∀ (W : WX) (pn : List (Addr × Obj)) (xe : Value → Shared → Prop), Takes (X.tr pn xe) W → PassesOwn (model X.prog X.w) X.A X.env xe → PSs (X.tr pn xe) blk (tb W))
    (hsu : ∀ (a : Addr) (oe : Obj) (cls : Value) (d : Option Addr) (pn : List (Addr × Obj)), Zc cls d oe → (∃ vs, oe.data = .fields vs) → PSs (X.suite a ((a, oe) :: pn)) (b0 :: st) (ts a cls d)) :
    PS X (.Try blk [.ExceptHandler (some (.Tuple [.Name x1 q1, .Name x2 q2, .Name x3 q3] kk q4)) (some n) (b0 :: st) q5] [] [] pos) (fun D σ H => tb (wTri X.K X.N.length c1 c2 c3 i ts Wo D) D σ H) := by
  refine ⟨fun pins s σ H D I want => ?_⟩
  have ok := I.ok
  have frm : X.A.frames = some (X.env :: X.outer) := by rw [ok.frames, hs]
  refine wpAny_Try_except (wpAny_mono ((hb (wTri X.K X.N.length c1 c2 c3 i ts Wo D) (X.pn ++ pins) _ (fun u t xx => ?_) PassesOwn.looking).run [] s σ H D (I.toTry _) want) (fun fl t hsp => ?_) (fun e t he => he))
  · obtain ⟨a, B, sI, pins', τ, G, cls, d, rfl, J', nb, up, sky, na, eos, bare, b, hx, hno, hyes⟩ := xx
    have J : Inv X pins τ G sI := J'.ofTry ok
    have sky2 : Sky B (X.env :: X.outer) a (Zc cls d) X.env.locals t.heap := hs ▸ sky
    show wpAny (model X.prog X.w) X.A (noteFrame (.ref a) X.env) (fun _ t2 => wpAny (model X.prog X.w) X.A (setFlight (.ref a) none) _ _ t2) _ t
    refine Sky.land Zc.steady frm hf sky2 fun g3 fl3 up3 => ?_
    have Jn : ∀ {g : Heap} {tk : Nat}, HandSPX.FlyingZ B (X.env :: X.outer) a (Zc cls d) g → t.heap.UpToSlots g → Inv X pins τ G { t with heap := g, toks := tk } := fun {g tk} fl u => J.landed (s' := { t with heap := g, toks := tk }) nb fl.1 (up.trans u) eos bare
    have away : ∀ {g : Heap}, HandSPX.FlyingZ B (X.env :: X.outer) a (Zc cls d) g → ∃ oe vs, g.get? a = some oe ∧ Zc cls d oe ∧ oe.data = .fields vs ∧ a ≠ X.env.locals ∧ a ∉ X.fs := fun {g} fl => by
      obtain ⟨oe, vs, e1, e2, e3⟩ := fl.there
      have out : a ∉ frs (X.env :: X.outer) := fun hm => by
        obtain ⟨_, o2, e4, e5⟩ := fl.2.2.1.mem hm
        rw [e1] at e4
        cases e4
        exact e5 _ e3
      refine ⟨oe, vs, e1, e2, e3, fun z => out (List.mem_filterMap.mpr ⟨X.env, .head _, by rw [hf, z]⟩), fun hm => ?_⟩
      obtain ⟨ev, h1, h2⟩ := List.mem_filterMap.mp hm
      exact out (List.mem_filterMap.mpr ⟨ev, .tail _ h1, h2⟩)
    obtain ⟨oe3, vs3, e31, e32, e33, e34, e35⟩ := away fl3
    have S3 := (Jn (tk := t.toks) fl3 up3).suite e31 e33 na e34 e35
    refine wpAny_handleBy_cons (codeAny_handlers_test ?_) (by intro q; cases q)
    refine wpAny_Tuple_spliced (Calls.spliced_cons (ld_glob (X := X.suite a ((a, oe3) :: (X.pn ++ pins))) S3 gl1 m1 (Calls.spliced_cons (ld_glob (X := X.suite a ((a, oe3) :: (X.pn ++ pins))) S3 gl2 m2 (Calls.spliced_cons (ld_glob (X := X.suite a ((a, oe3) :: (X.pn ++ pins))) S3 gl3 m3 (Calls.spliced_nil ⟨by rw [sizeLine_eq]; exact Nat.le_of_ble_eq_true rfl, ?_⟩) k3)) k2)) k1))
    have fl4 := fly_push (o := { cls := .type "tuple", data := .seq [c1, c2, c3].toArray }) fl3
    have up4 : t.heap.UpToSlots (g3.push { cls := .type "tuple", data := .seq [c1, c2, c3].toArray }) := up3.trans up_push
    have S4 := Jn (tk := t.toks) fl4 up4
    obtain ⟨oe4, vs4, e41, e42, e43, e44, e45⟩ := away fl4
    have LT : PySem.W.Looks (model X.prog X.w) (g3.push { cls := .type "tuple", data := .seq [c1, c2, c3].toArray }) (typeOf (.ref a)) cls := fun A Q E s k q => wpAny_typeOf_ref (k _ _ e41) (by rw [e42.1]; exact q)
    refine (PySem.W.exm_tup3 (M := model X.prog X.w) S4.kIn LT (Heap.get?_push_at rfl rfl) hx).here ?_
    cases b with
    | true =>
      refine codeAny_handlers_suite_as (HandSPX.lands_againZ fl4 fun g5 fl5 up5 => ?_)
      obtain ⟨oe5, vs5, e51, e52, e53, e54, e55⟩ := away fl5
      have S5 := (Jn (tk := t.toks) fl5 (up4.trans up5)).suite e51 e53 na e54 e55
      refine store_ok (X := X.suite a ((a, oe5) :: (X.pn ++ pins))) (v := .ref a) S5 hN hi (.inl hln) rfl (fun t6 S6 => ?_) (.inr hln)
      refine wpAny_mono ((hsu a oe5 cls d (X.pn ++ pins) e52 ⟨_, e53⟩).run [] t6 _ G _ S6 (hyes rfl J.len a na)) (fun fl t7 hsp => ?_) (fun _ _ z => z.elim)
      have stop : ∀ {τ7 : L2.St} {G7 : Hp} {R : Shared → Prop}, Inv (X.suite a ((a, oe5) :: (X.pn ++ pins))) [] τ7 G7 t7 → (∀ t8, Inv X pins (τ7.set i none) G7 t8 → R t8) →
          wpAny (model X.prog X.w) X.A (do bindName X.env n .none; unbindBehindTheSuite X.env n q5) (fun _ t8 => R t8) X.xe t7 := fun {τ7 G7 R} S7 hq => gone_ok (S7.unsuite ok) hN hi hln hq
      cases fl with
      | next => obtain ⟨τ7, G7, S7, w7⟩ := hsp; exact stop S7 fun t8 J8 => ⟨_, _, J8, w7⟩
      | brk => obtain ⟨τ7, G7, S7, w7⟩ := hsp; exact stop S7 fun t8 J8 => ⟨_, _, J8, w7⟩
      | cont => obtain ⟨τ7, G7, S7, w7⟩ := hsp; exact stop S7 fun t8 J8 => ⟨_, _, J8, w7⟩
      | ret u => obtain ⟨v7, τ7, G7, S7, r7, w7⟩ := hsp; exact stop S7 fun t8 J8 => ⟨_, _, _, J8, r7, w7⟩
    | false =>
      show wpAny _ X.A (handleBy (.ref a) X.env []) _ _ _
      refine wpAny_handleBy_nil ?_
      obtain ⟨f1, f2, f3, oe, vs, T, oT, ts', y1, y2, y3, y4, yr⟩ := id fl4
      unfold PySem.passOn
      refine wpAny_bind (wpAny_field y1 y3 y4 ?_)
      rw [if_neg (show ¬ ((Value.ref T == Value.none) = true) from by simp)]
      have out : ∀ (t9 : Shared), t9 = { t with heap := g3.push { cls := .type "tuple", data := .seq [c1, c2, c3].toArray } } → wpAny (model X.prog X.w) X.A (setFlight (.ref a) X.env.frame) (fun _ t9 => wpAny (model X.prog X.w) X.A (throw (.ref a) : Sem Flow) (SP X pins D) X.xe t9) X.xe t9 := by
        rintro _ rfl
        rw [hf]
        refine HandSPX.setFlight_upZ fl4 fun g6 held up6 => wpAny_throw (tk _ _ ⟨a, B, sI, pins, τ, G, cls, d, rfl, J, nb, (up.trans up4).trans up6, .inr (.inr (hs.symm ▸ held)), na, eos, bare, hno rfl⟩)
      first
        | exact wpAny_bind (wpAny_pure (wpAny_bind (out _ rfl)))
        | exact wpAny_bind (out _ rfl)
  · cases fl with
    | next => obtain ⟨τ, G, J, z⟩ := hsp; exact wpAny_execs_nil ⟨τ, G, J.ofTry ok, z⟩
    | brk => obtain ⟨τ, G, J, z⟩ := hsp; exact ⟨τ, G, J.ofTry ok, z⟩
    | cont => obtain ⟨τ, G, J, z⟩ := hsp; exact ⟨τ, G, J.ofTry ok, z⟩
    | ret u => obtain ⟨v, τ, G, J, r, z⟩ := hsp; exact ⟨v, τ, G, J.ofTry ok, r, z⟩
end
end Hw
set_option Elab.async false
set_option linter.all false
set_option maxRecDepth 100000
set_option maxHeartbeats 1000000
namespace Hw
open PySem L2 PyProof.Rows PySem.Spec
/-! ### a lambda handed to a def -/
/-- a lambda's body, told without its context -/
def tLamB (K : PySem.W.Frag) (E : XK) (PE : XP) (μ : Mu) (ds : DS) (P : DP) : TE := fun σ H Q => Hold K μ H ∧ DenS K μ H σ ds ∧
  (∀ Ca dd H' fs vfs μ', Stp μ H μ' H' → Hold K μ' H' → H' dd = some (.xd vfs) → DenFs K μ' H' vfs fs → PE Ca fs μ' → E (.ref Ca) (some dd) H') ∧ ∀ v H' d μ', Stp μ H μ' H' → Hold K μ' H' → Den K μ' H' v d → P d μ' → Q v H'
section
variable {X : Cx} {PE : XP} {μ : Mu} {ds : DS} {P : DP} {body : Expr} {scope : Scope} {f c' : Addr}
theorem lamB_pe {A : Around} {outer : List Env} {s : Shared} {H : Hp} {E : XK} (h : EX (LamX.lamCx X A outer s H E scope f c') PE μ ds body P) : L2.PE (LamX.lamCx X A outer s H E scope f c') body (tLamB X.K E PE μ ds P) :=
  pe_imp h.pe fun σ H1 Q ⟨a, b, c, d⟩ => ⟨a, ⟨b, fun Ca dd H' fs vfs μ' σ2 s2 h2 e2 n2 p2 => wx_leave (takes_of rfl rfl rfl rfl) (c Ca dd H' fs vfs μ' s2 h2 e2 n2 p2)⟩, d⟩
/-- the context of the def that got the lambda -/
abbrev gotCx (X : Cx) (Ng : List Str) (x : Str) (st : Stmt) (g : Addr) (cdg : Value) (s : Shared) (G : Hp) : Cx := bodyCx X.prog X.w X.K X.mg X.base Ng x st g cdg X.A X.stack s G (Ex0 X)
/-- what the lambda, called there by its name a, gives -/
def Act (X : Cx) (ds : DS) (body : Expr) (scope : Scope) (Z : Cx) (f : Addr) (G : Hp) (Im : Addr → Prop) (a : Str) (k : Nat) : Prop :=
  ∀ (pn : List (Addr × Obj)) (xe : Value → Shared → Prop) (PE' : XP) (P' : DP) (ds' : DS) (μ' : Mu) (p1 p2 : Pos), ds'[0]? = some (some (.fn f G Im)) →
    (∀ (A : Around) (outer : List Env) (s2 : Shared) (H2 : Hp) (E2 : XK) (c' : Addr), Rm k (LamX.lamCx X A outer s2 H2 E2 scope f c').A → EX (LamX.lamCx X A outer s2 H2 E2 scope f c') PE' μ' ds body P') → EX (Z.tr pn xe) PE' μ' ds' (.Call (.Name a p1) [] [] p2) P'
/-- the call of the lambda, where the def stands in the frames of its own call -/
theorem pe_actG {σ : L2.St} {G : Hp} {s : Shared} {pins : List (Addr × Obj)} {Ng : List Str} {x a : Str} {st : Stmt} {g : Addr} {cdg pm ctv : Value} {params : Arguments} {k : Nat} {pn : List (Addr × Obj)} {xe : Value → Shared → Prop} {tb : TE} {E : XK} {W : WX} {p1 p2 : Pos} (I : Inv X pins σ G s) (L : LamX.LamS X.env.scope scope)
    (hf : s.heap.get? f = some (PySem.W.kla_obj "<lambda>" (X.env.qual ++ "<lambda>") params body scope (cloFrom X.env.cells scope.names []) pm c' ctv)) (hfn : G f = none) (hfr : f ∉ frs X.stack)
    (hbind : bindArgs (PySem.W.kla_fn "<lambda>" (X.env.qual ++ "<lambda>") params body scope (cloFrom X.env.cells scope.names []) pm (.ref c') ctv) ⟨[], []⟩ = pure []) (tk : Takes ((gotCx X Ng x st g cdg s G).tr pn xe) W) (hW : ∀ cls d σ' H', E cls d H' → W cls d σ' H') (hr : Room (k + 1) (gotCx X Ng x st g cdg s G).A)
    (hbody : ∀ (s2 : Shared) (H2 : Hp), L2.PE (LamX.lamCx X (gotCx X Ng x st g cdg s G).A (gotCx X Ng x st g cdg s G).stack s2 H2 E scope f c') body tb)
    (hN : Ng[0]? = some a) (hv : Vis (defScope st) a) (hdb : (a == ("__debug__" : Str)) = false) (hcd : (a == ("__classdict__" : Str)) = false) :
    L2.PE ((gotCx X Ng x st g cdg s G).tr pn xe) (.Call (.Name a p1) [] [] p2) (fun τ F Q => τ[0]? = some (some (.ref f)) ∧ F c' = some (LamX.CodeO c' (X.env.qual ++ "<lambda>")) ∧ tb σ F Q) := by
  refine ⟨fun pz t τ F Q J ⟨w1, w2, w3⟩ => wpAny_Call_Name_kw (thn ((pe_var (pos := p1) (i := 0) hN hv hdb hcd).run pz t τ F (fun v F' => v = .ref f ∧ F' = F) J ⟨.ref f, w1, rfl, rfl⟩) fun u t1 ⟨v, F1, J1, r1, ev, eF⟩ => ?_)⟩
  subst ev eF
  obtain rfl : u = Value.ref f := r1
  have at1 := J1.base.keep f _ hf hfn hfr (fun z => nomatch (show f ∈ ([] : List Addr) from z))
  refine PySem.W.callWith_F0 ⟨_, _, _, _, at1⟩ (wpAny_call (codeAny_mono (show codeAny (model X.prog X.w) (gotCx X Ng x st g cdg s G).A (.call (.ref f) ⟨[], []⟩) (CR (L2.CX X.prog X.w) (gotCx X Ng x st g cdg s G).stack X.prog X.w F1 t1 Q E) t1 from ?_) fun r t2 hq => ?_))
  · obtain ⟨⟨oc, vs, tt, hoc, hdc, hvc⟩, _, _⟩ := J1.hok c' _ w2
    refine PySem.W.kla_callFunE hr.depth at1 rfl L.co L.gen rfl ⟨c', oc, vs, tt, rfl, hoc, hdc, hvc⟩ ?_
    rw [hbind]
    refine wpAny_pure (wpAny_newFunctionEnv (fun y hy => (L.own y hy).2) (fun y hy => absurd hy (by simp)) (fun g1 hns hsb => ⟨J1.nolimit.fresh _ hsb, ?_⟩) L.kind)
    have up : ∀ b o, t1.heap.get? b = some o → g1.get? b = some o := fun b o e => hsb.extBut b o (Nat.ne_of_lt (Heap.lt_size e)) (Heap.get?_push_of_some _ e)
    have J2 := LamX.lam_start2 (f := f) (c' := c') (tk := t1.toks + ([] : List (Str × Value)).length) (E := E) I L J1.env0 hr.hd J1.base hns up
    refine PySem.W.kla_codeExpr (wpAny_mono ((hbody t1 F1).run [] _ _ F1 Q J2 w3) (fun v t3 hq => ?_) fun e t3 hq => hq)
    obtain ⟨v3, F3, J3, r3, q3⟩ := hq
    exact ⟨v3, F3, J3.os, J3.bare, J3.base, J3.hok, r3, q3⟩
  · match r, hq with
    | .error e, hq => exact passes_call tk hW pz τ F1 t1 e t2 J1 hq
    | .ok (.ret u), hq => exact J1.after hq
theorem ex_act {σ : L2.St} {G : Hp} {s : Shared} {pins : List (Addr × Obj)} {Ng : List Str} {x a : Str} {st : Stmt} {g : Addr} {cdg pm ctv : Value} {params : Arguments} {k : Nat} (I : Inv X pins σ G s) (L : LamX.LamS X.env.scope scope)
    (hf : s.heap.get? f = some (PySem.W.kla_obj "<lambda>" (X.env.qual ++ "<lambda>") params body scope (cloFrom X.env.cells scope.names []) pm c' ctv)) (hfn : G f = none) (hfr : f ∉ frs X.stack) (hc : G c' = some (LamX.CodeO c' (X.env.qual ++ "<lambda>"))) (mc : μ c' = none)
    (hbind : bindArgs (PySem.W.kla_fn "<lambda>" (X.env.qual ++ "<lambda>") params body scope (cloFrom X.env.cells scope.names []) pm (.ref c') ctv) ⟨[], []⟩ = pure []) (hr : Room (k + 1) (gotCx X Ng x st g cdg s G).A) (hgu : X.A.guards = some []) (hd : DenS X.K μ G σ ds)
    (hN : Ng[0]? = some a) (hv : Vis (defScope st) a) (hdb : (a == ("__debug__" : Str)) = false) (hcd : (a == ("__classdict__" : Str)) = false) : Act X ds body scope (gotCx X Ng x st g cdg s G) f G (fun b => μ b = none) a k := by
  intro pn xe PE' P' ds' μ' p1 p2 hslot hbody
  refine ex_of (pe_actG (E := Ex0 ((gotCx X Ng x st g cdg s G).tr pn xe)) (tb := tLamB X.K (Ex0 ((gotCx X Ng x st g cdg s G).tr pn xe)) PE' μ' ds P') I L hf hfn hfr hbind takes_Wx (fun cls d σ' H' h => h σ') hr (fun s2 H2 => lamB_pe (hbody _ _ s2 H2 _ c' ⟨hr.deeper _, hgu⟩)) hN hv hdb hcd) fun σZ HZ Q ho hs kk => ?_
  · obtain ⟨v, e1, n1⟩ := hs.d.2 0 _ hslot
    obtain ⟨rfl, stp⟩ := n1.inv_fn
    have st : Stp μ G μ' HZ := fun b o h e n => stp b o h e n
    exact ⟨e1, (st _ _ mc hc LamX.codeO_ne).1, ho, hd.mono st, fun Ca dd H' fs vfs μ2 s2 h2 e2 n2 p2 σ' => hs.x Ca dd H' fs vfs μ2 σ' s2 h2 e2 n2 p2, fun v H' d μ2 s2 h2 n2 p2 => kk v H' d μ2 s2 h2 n2 p2⟩
/-- x(lambda: body), x a def of one parameter a -/
theorem ex_lamcall {Ng : List Str} {x a : Str} {st : Stmt} {g cd T : Addr} {fd : FuncData} {params : Arguments} {k : Nat} {p lpos pos : Pos} (F : Fun X.K x x st g fd) (hm : X.mg x = some (.ref g)) (hb : Binds X.K fd [a] []) (S : FnScope Ng [a] (defScope st)) (hg : Gl X x)
    (TB : LamX.TabB X.base X.mg cd T) (hcode : X.env.code = .ref cd) (tq : μ T = some (.tbl (X.env.qual ++ "<lambda>"))) (t1 : ∀ b q, μ b = some (.tbl q) → b = T) (hr : Rm (k + 2) X.A) (L : LamX.LamS X.env.scope scope) (hdef : defaultsOf params X.env = ([], []))
    (hbind : ∀ (q : Str) (cl : List (Str × Addr)) (pm cv ctv : Value), bindArgs (PySem.W.kla_fn "<lambda>" q params body scope cl pm cv ctv) ⟨[], []⟩ = pure []) (hN : Ng[0]? = some a) (hv : Vis (defScope st) a)
    (h : ∀ (f : Addr) (G : Hp) (s : Shared) (cdg : Value), Rm (k + 1) (gotCx X Ng x st g cdg s G).A → Act X ds body scope (gotCx X Ng x st g cdg s G) f G (fun b => μ b = none) a k →
      SSX (gotCx X Ng x st g cdg s G) PE μ (some (.fn f G (fun b => μ b = none)) :: List.replicate (Ng.length - 1) none) (defBody st) { nx := fun _ μ' => P .non μ', rt := P })
    (hdb : (x == ("__debug__" : Str)) = false := by decide) (hda : (a == ("__debug__" : Str)) = false := by decide) (hca : (a == ("__classdict__" : Str)) = false := by decide) : EX X PE μ ds (.Call (.Name x p) [.Lambda params body scope lpos] [] pos) P := by
  refine ⟨⟨fun pins s σ H Q I ⟨ho, hs, kk⟩ => ?_⟩⟩
  refine wpAny_Call_Name_kw (ld_glob I hg hm ?_ hdb)
  refine PySem.W.callWith_K (h₀ := X.base) I.ok.mod.kin F.kp ?_ (by rfl) (by rfl)
  show wpAny _ _ (spliced ((false, eval (.Lambda params body scope lpos) X.env) :: backTo pos (starEach [] X.env))) _ _ s
  have tabs : LamX.Tabs [(T, X.env.qual ++ "<lambda>")] H := fun pr hp => by
    obtain rfl := List.mem_singleton.mp hp
    obtain ⟨ps, e1, e2, e3⟩ := ho T _ tq
    refine ⟨ps, e1, e2, fun q cv hc => ?_⟩
    obtain ⟨c, h1, _, h3⟩ := e3 q cv hc
    exact ⟨c, h1, h3⟩
  refine Calls.spliced_cons (LamX.lam_make2 I TB hcode (List.mem_singleton.mpr rfl) (fun pr hp e => by obtain rfl := List.mem_singleton.mp hp; rfl) tabs hdef (L.has I.ok) fun f c' pm ctv G s1 I1 eN T1 hf hfn hfr hco => ?_)
  refine Calls.spliced_nil ⟨I1.kIn, ?_⟩
  have stp : Stp μ H μ G := fun b o hb e n => ⟨eN b o e n, hb⟩
  -- the new code object is nobody's that changes
  have noC : ∀ c, G c = some (LamX.CodeO c (X.env.qual ++ "<lambda>")) → μ c = none := fun c ec => by
    cases e : μ c with
    | none => rfl
    | some m =>
      have q := ho c m e
      cases m with
      | lst xs => obtain ⟨vs, h1, _⟩ := q; rw [eN c _ h1 nofun] at ec; cases ec
      | ins C fs => obtain ⟨dx, vs, h1, _⟩ := q; rw [eN c _ h1 nofun] at ec; cases ec
      | dic kvs => obtain ⟨vs, h1, _⟩ := q; rw [eN c _ h1 nofun] at ec; cases ec
      | tbl qn =>
        obtain rfl := t1 c qn e
        obtain ⟨ps, h1, _⟩ := T1 (c, X.env.qual ++ "<lambda>") (List.mem_singleton.mpr rfl)
        rw [h1] at ec; cases ec
  have hoG : Hold X.K μ G := fun b m e => by
    have q := ho b m e
    cases m with
    | lst xs => obtain ⟨vs, h1, h2⟩ := q; exact ⟨vs, eN b _ h1 nofun, h2.mono stp⟩
    | ins C fs => obtain ⟨dx, vs, h1, h2⟩ := q; exact ⟨dx, vs, eN b _ h1 nofun, h2.mono stp⟩
    | dic kvs => obtain ⟨vs, h1, h2⟩ := q; exact ⟨vs, eN b _ h1 nofun, h2.mono stp⟩
    | tbl qn =>
      obtain rfl := t1 b qn e
      rw [tq] at e
      cases e
      obtain ⟨ps, h1, h2, h3⟩ := T1 (b, X.env.qual ++ "<lambda>") (List.mem_singleton.mpr rfl)
      refine ⟨ps, h1, h2, fun q cv hc => ?_⟩
      obtain ⟨c, e1, e2⟩ := h3 q cv hc
      exact ⟨c, e1, noC c e2, e2⟩
  have hsG := hs.mono stp
  obtain ⟨oc, od, kV, doc, pmm, an, cdv, ct, osl, rfl, lk, hcdv⟩ := F.ex
  refine wpAny_call (codeAny_mono (ret_of (Q := Q) I1 (LamX.run_ofS (N := Ng) (ps := [a]) (us := [.ref f]) (vs := [.ref f]) lk hcdv S hr.r I1.env0 (hb s1 [.ref f] I1.kIn rfl) (.cons rfl .nil) rfl fun hr' => ?_)) fun r s2 hq => ?_)
  · have act := ex_act (cdg := cdv) (k := k) I1 L hf hfn hfr hco (noC _ hco) (hbind _ _ _ _ _) hr' hr.g hsG.d hN hv hda hca
    have q := h f G s1 cdv ⟨hr', hr.g⟩ act
    refine ⟨_, q.pss, hoG, ⟨?_, fun Ca dd H' fs vfs μ' σ' s2 h2 e2 n2 p2 => wx_leave (takes_of rfl rfl rfl rfl) fun σ3 => hsG.x Ca dd H' fs vfs μ' σ3 s2 h2 e2 n2 p2⟩, ?_⟩
    · have := DenS.start (N := Ng) (K := X.K) (μ := μ) (H := G) (vs := [.ref f]) (xs := [.fn f G (fun b => μ b = none)]) (.cons (.fn fun b o h e n => ⟨e, h⟩) .nil)
      exact this
    · exact ⟨fun σ' H' ds' μ' s1 h1 n1 p => kk _ H' _ μ' (stp.trans s1) h1 .non p, fun v H' d μ' s1 h1 n1 p => kk v H' d μ' (stp.trans s1) h1 n1 p, fun _ _ _ _ _ _ _ p => p.elim, fun _ _ _ _ _ _ _ p => p.elim⟩
  · match r, hq with
    | .error er, hq => exact hq
    | .ok (.ret u), hq => exact hq
end
end Hw
set_option Elab.async false
set_option linter.all false
set_option maxRecDepth 100000
set_option maxHeartbeats 1000000
namespace Hw
open PySem L2 PyProof.Rows PySem.Spec
/-- D keeps what Z wants: Meets, the exceptions not told -/
structure MeetD (K : PySem.W.Frag) (μ : Mu) (H : Hp) (Z : Po) (D : Ends) : Prop where
  nx : ∀ σ' H' ds' μ', Stp μ H μ' H' → Hold K μ' H' → DenS K μ' H' σ' ds' → Z.nx ds' μ' → D.nx σ' H'
  rt : ∀ v H' d μ', Stp μ H μ' H' → Hold K μ' H' → Den K μ' H' v d → Z.rt d μ' → D.rt v H'
  bk : ∀ σ' H' ds' μ', Stp μ H μ' H' → Hold K μ' H' → DenS K μ' H' σ' ds' → Z.bk ds' μ' → D.bk σ' H'
  ct : ∀ σ' H' ds' μ', Stp μ H μ' H' → Hold K μ' H' → DenS K μ' H' σ' ds' → Z.ct ds' μ' → D.ct σ' H'
theorem Meets.d {X : Cx} {PE : XP} {μ : Mu} {H : Hp} {Z : Po} {D : Ends} (m : Meets X PE μ H Z D) (x : Exc X PE μ H) : MeetD X.K μ H Z D :=
  ⟨fun σ' H' ds' μ' s h n p => m.nx σ' H' ds' μ' s h ⟨n, x.mono s⟩ p, m.rt, fun σ' H' ds' μ' s h n p => m.bk σ' H' ds' μ' s h ⟨n, x.mono s⟩ p, fun σ' H' ds' μ' s h n p => m.ct σ' H' ds' μ' s h ⟨n, x.mono s⟩ p⟩
theorem MeetD.m {X : Cx} {PE : XP} {μ : Mu} {H : Hp} {Z : Po} {D : Ends} (m : MeetD X.K μ H Z D) : Meets X PE μ H Z D :=
  ⟨fun σ' H' ds' μ' s h n p => m.nx σ' H' ds' μ' s h n.d p, m.rt, fun σ' H' ds' μ' s h n p => m.bk σ' H' ds' μ' s h n.d p, fun σ' H' ds' μ' s h n p => m.ct σ' H' ds' μ' s h n.d p⟩
theorem MeetD.later {K : PySem.W.Frag} {μ μ' : Mu} {H H' : Hp} {Z : Po} {D : Ends} (m : MeetD K μ H Z D) (s : Stp μ H μ' H') : MeetD K μ' H' Z D :=
  ⟨fun σ1 H1 ds1 μ1 s1 => m.nx σ1 H1 ds1 μ1 (s.trans s1), fun v H1 d μ1 s1 => m.rt v H1 d μ1 (s.trans s1), fun σ1 H1 ds1 μ1 s1 => m.bk σ1 H1 ds1 μ1 (s.trans s1), fun σ1 H1 ds1 μ1 s1 => m.ct σ1 H1 ds1 μ1 (s.trans s1)⟩
/-- the names' slots, none told -/
theorem DenS.none {K : PySem.W.Frag} {μ : Mu} {H : Hp} {σ : L2.St} {n : Nat} (h : σ.length = n) : DenS K μ H σ (List.replicate n none) := ⟨by simp [h], fun i d e => by
  have := List.mem_of_getElem? e
  rw [List.mem_replicate] at this
  cases this.2⟩
theorem takesF {X : Cx} : Takes X (fun _ _ _ _ => False) := fun _ _ x => by
  obtain ⟨_, _, _, _, _, _, _, _, _, _, _, _, _, _, _, _, z⟩ := x
  exact z.elim
theorem wx_of_takes {X : Cx} {W : WX} {cls : Value} {d : Option Addr} {σ : L2.St} {H : Hp} (tk : Takes X W) (h : W cls d σ H) : Wx X cls d σ H := fun u s' ⟨a, B, sI, pins, σ', H', cls', d', h1, h2, h3, h4, h5, h6, h7, h8, e1, e2, e3, e4⟩ => by
  subst e1 e2 e3 e4
  exact tk u s' ⟨a, B, sI, pins, _, _, _, _, h1, h2, h3, h4, h5, h6, h7, h8, h⟩
section
variable {X : Cx} {PE : XP} {μ : Mu} {ds : DS} {P : DP} {Z : Po} {x1 x2 x3 n : Str} {c1 c2 c3 : Value} {i : Nat} {blk st : List Stmt} {b0 : Stmt} {q1 q2 q3 q4 q5 pos : Pos} {kk : Nat}
theorem sx_try3 (PEb : XP) (i : Nat) (hN : X.N.Nodup) (hi : X.N[i]? = some n) (hln : X.env.kindOf n = some .local) (gl1 : Gl X x1) (gl2 : Gl X x2) (gl3 : Gl X x3) (m1 : X.mg x1 = some c1) (m2 : X.mg x2 = some c2) (m3 : X.mg x3 = some c3)
    (hb : ∀ pn xe, SSX (X.tr pn xe) PEb μ ds blk Z) (hx : ∀ Ca fs μ', PEb Ca fs μ' → PySem.W.exmAny X.K (.ref Ca) [c1, c2, c3] = some true)
    (hsu : ∀ a dd Ca fs μ' oe pn, PEb Ca fs μ' → Zc (.ref Ca) (some dd) oe → (∃ vs, oe.data = .fields vs) →
      SSX (X.suite a ((a, oe) :: pn)) noX μ' ((List.replicate X.N.length none).set i (some (.exc a dd Ca fs))) (b0 :: st) ⟨fun s m => Z.nx (s.set i none) m, Z.rt, fun s m => Z.bk (s.set i none) m, fun s m => Z.ct (s.set i none) m⟩)
    (hs : X.stack = X.env :: X.outer := by rfl) (hf : X.env.frame = some X.env.locals := by rfl)
    (k1 : (x1 == ("__debug__" : Str)) = false := by decide) (k2 : (x2 == ("__debug__" : Str)) = false := by decide) (k3 : (x3 == ("__debug__" : Str)) = false := by decide) :
    SX X PE μ ds (.Try blk [.ExceptHandler (some (.Tuple [.Name x1 q1, .Name x2 q2, .Name x3 q3] kk q4)) (some n) (b0 :: st) q5] [] [] pos) Z := by
  refine sx_of (ps_try3 (tb := fun W D σ H => ∃ t, (∀ pn xe, Takes (X.tr pn xe) W → PSs (X.tr pn xe) blk t) ∧ t D σ H)
    (ts := fun a cls d D σ H => ∃ t, (∀ oe pn, Zc cls d oe → (∃ vs, oe.data = .fields vs) → PSs (X.suite a ((a, oe) :: pn)) (b0 :: st) t) ∧ t D σ H) hs hf hN hi hln gl1 gl2 gl3 m1 m2 m3 k1 k2 k3 takesF
    (fun W pn xe tk _ => ⟨fun pins s σ H D I ⟨t, h1, h2⟩ => (h1 pn xe tk).run pins s σ H D I h2⟩) (fun a oe cls d pn hz hfl => ⟨fun pins s σ H D I ⟨t, h1, h2⟩ => (h1 oe pn hz hfl).run pins s σ H D I h2⟩)) fun D σ H ho hsl m => ?_
  have md := m.d hsl.x
  refine ⟨fun D' σ' H' => Hold X.K μ H' ∧ DenS X.K μ H' σ' ds ∧ (∀ Ca dd H2 fs vfs μ', Stp μ H' μ' H2 → Hold X.K μ' H2 → H2 dd = some (.xd vfs) → DenFs X.K μ' H2 vfs fs → PEb Ca fs μ' → ∀ σ2, wTri X.K X.N.length c1 c2 c3 i (fun a cls d D σ H => ∃ t, (∀ oe pn, Zc cls d oe → (∃ vs, oe.data = .fields vs) → PSs (X.suite a ((a, oe) :: pn)) (b0 :: st) t) ∧ t D σ H) (fun _ _ _ _ => False) D (.ref Ca) (some dd) σ2 H2) ∧ MeetD X.K μ H' Z D',
    fun pn xe tk => pss_imp (hb pn xe).pss fun D' σ' H' ⟨a1, a2, a3, a4⟩ => ⟨a1, ⟨a2, fun Ca dd H2 fs vfs μ' σ2 s2 h2 e2 n2 p2 => wx_of_takes tk (a3 Ca dd H2 fs vfs μ' s2 h2 e2 n2 p2 σ2)⟩, MeetD.m (X := X.tr pn xe) a4⟩, ho, hsl.d, fun Ca dd H2 fs vfs μ' s2 h2 e2 n2 p2 σ2 => ?_, md⟩
  refine ⟨true, hx Ca fs μ' p2, (fun e => by cases e), fun _ hl a na => ?_⟩
  refine ⟨fun D' σ' H' => Hold X.K μ' H' ∧ DenS X.K μ' H' σ' ((List.replicate X.N.length none).set i (some (.exc a dd Ca fs))) ∧ MeetD X.K μ' H' ⟨fun s m => Z.nx (s.set i none) m, Z.rt, fun s m => Z.bk (s.set i none) m, fun s m => Z.ct (s.set i none) m⟩ D',
    fun oe pn hz hfl => pss_imp (hsu a dd Ca fs μ' oe pn p2 hz hfl).pss fun D' σ' H' ⟨a1, a2, a3⟩ => ⟨a1, ⟨a2, Exc.no⟩, MeetD.m (X := X.suite a ((a, oe) :: pn)) a3⟩, h2, ?_, ?_⟩
  · have md2 : μ' dd = none := by
      cases e : μ' dd with
      | none => rfl
      | some c =>
        have q := h2 dd c e
        cases c with
        | lst xs => obtain ⟨vs, z, _⟩ := q; rw [e2] at z; cases z
        | ins C fs => obtain ⟨dx, vs, z, _⟩ := q; rw [e2] at z; cases z
        | dic kvs => obtain ⟨vs, z, _⟩ := q; rw [e2] at z; cases z
        | tbl qn => obtain ⟨ps, z, _⟩ := q; rw [e2] at z; cases z
    exact (DenS.none hl).set (.exc md2 e2 n2)
  · have ml := md.later s2
    exact ⟨fun σ1 H1 d1 μ1 s1 h1 n1 p => ml.nx _ H1 _ μ1 s1 h1 n1.wipe1 p, ml.rt, fun σ1 H1 d1 μ1 s1 h1 n1 p => ml.bk _ H1 _ μ1 s1 h1 n1.wipe1 p, fun σ1 H1 d1 μ1 s1 h1 n1 p => ml.ct _ H1 _ μ1 s1 h1 n1.wipe1 p⟩
end
/-! ### e.f of a caught exception -/
/-- the caught exception is in hand -/
def Pin (X : Cx) (a dd C : Addr) : Prop := ∃ oe vs, (a, oe) ∈ X.pn ∧ Zc (.ref C) (some dd) oe ∧ oe.data = .fields vs
section
variable {X : Cx} {PE : XP} {μ : Mu} {ds : DS} {P : DP} {e : Expr} {es : List Expr} {pos p : Pos} {n : Str}
theorem ex_xf (h : EX X PE μ ds e fun d μ1 => ∃ a dd C fs x, d = .exc a dd C fs ∧ Pin X a dd C ∧ XfC X.K C ∧ PySem.W.findIn X.K (.ref C) n = some none ∧ fs.lookup n = some x ∧ P x μ1) (hb : attributeBase e n X.env (eval e X.env) = eval e X.env := by rfl) : EX X PE μ ds (.Attribute e n pos) P := by
  refine ⟨⟨fun pins s σ H Q I ⟨ho, hs, kk⟩ => attr_of hb (thn ((pe_U (e := e)).run pins s σ H _ I (h.at ho hs fun v H1 d μ1 s1 h1 b1 n1 ⟨a, dd, C, fs, x, e1, p1, x1, f1, l1, q1⟩ => (⟨a, dd, C, fs, x, d, μ1, s1, h1, n1, e1, p1, x1, f1, l1, q1⟩ : ∃ (a dd C : Addr) (fs : List (Str × D)) (x d : D) (μ1 : Mu), Stp μ H μ1 H1 ∧ Hold X.K μ1 H1 ∧ Den X.K μ1 H1 v d ∧ d = Hw.D.exc a dd C fs ∧ Pin X a dd C ∧ XfC X.K C ∧ PySem.W.findIn X.K (.ref C) n = some none ∧ fs.lookup n = some x ∧ P x μ1))) fun u s1 hh => ?_)⟩⟩
  obtain ⟨v, H1, I1, r1, a, dd, C, fs, x, d, μ1, s1', h1, n1, rfl, ⟨oe, vs, hp, hz, hd⟩, x1, f1, l1, q1⟩ := hh
  obtain ⟨xs, rfl, m1, e1, nf⟩ := n1.inv_exc
  obtain rfl : u = Value.ref a := r1
  obtain ⟨ha, _⟩ := I1.pin (a, oe) (List.mem_append_left _ hp)
  obtain ⟨v2, l2, n2⟩ := nf.look l1
  have hx : ObjOk X.prog X.w H1 s1.heap dd (.xd xs) := I1.hok dd _ e1
  obtain ⟨mA, hns, hrr⟩ := hx
  obtain ⟨od, hod, hl⟩ := lookIn_ns hns
  obtain ⟨u2, hu, ru⟩ := RelO.some_of (v := v2) (o := mA n) (l2 ▸ hrr n)
  have J : PySem.W.InstAt s1.heap a oe C (some od) := ⟨ha, hz.1, (by unfold PySem.W.notCls; rw [hd] <;> rfl), (by rw [hz.2]; exact hod)⟩
  exact HandSPX.exc_get I1.kIn J x1.ga x1.gg x1.exC (PySem.W.findObj_own x1.hdC f1 rfl (by simp only [hl, hu])) (handed_of ru) ⟨v2, H1, I1.tok _, ru, kk v2 H1 x μ1 s1' h1 n2 q1⟩
end
end Hw
set_option Elab.async false
set_option linter.all false
set_option maxRecDepth 100000
set_option maxHeartbeats 1000000
namespace Hw
open PySem L2 PyProof.Rows PySem.Spec
/-! ### defs called within an except suite, that raise nothing -/
/-- the caught exception at a, its dict at dd, its class at C; the arguments; the store; the wish -/
abbrev CQ := Addr → Addr → Addr → List D → Mu → DP → Prop
/-- p is the caught exception -/
structure PinX (p : Addr × Obj) (a dd C : Addr) : Prop where
  at_ : p.1 = a
  z : Zc (.ref C) (some dd) p.2
  d : ∃ vs, p.2.data = .fields vs
structure FnQ (P : Program) (w : World) (K : PySem.W.Frag) (mg : Str → Option Value) (base : Heap) (k : Nat) (f : Addr) (fd : FuncData) (ps : List Str) (C : CQ) : Prop where
  len : ∀ a dd Cl xs μ R, C a dd Cl xs μ R → xs.length = ps.length
  run : ∀ (A : Around) (outer : List Env) (s : Shared) (H : Hp) (us : List Value) (vs : List V) (Q : VK) (p : Addr × Obj) (a dd Cl : Addr) (μ : Mu) (xs : List D) (R : DP), L2H.RoomH k A → L2H.PinOk outer H s p → PinX p a dd Cl → Env0 P w K mg base A outer s H → BindsTo s fd ⟨us, []⟩ (ps.zip us) → Vals vs us →
    Hold K μ H → DenAll K μ H vs xs → C a dd Cl xs μ R → (∀ v H' d μ', Stp μ H μ' H' → Hold K μ' H' → Den K μ' H' v d → R d μ' → Q v H') → codeAny (model P w) A (.call (.ref f) ⟨us, []⟩) (CR (L2.CX P w) outer P w H s Q (fun _ _ _ => False)) s
structure CalQ (P : Program) (w : World) (K : PySem.W.Frag) (mg : Str → Option Value) (base : Heap) (x : Str) (st : Stmt) (ps : List Str) (k : Nat) (C : CQ) : Prop where
  ex : ∃ f fd, FnQ P w K mg base k f fd ps C ∧ mg x = some (.ref f) ∧ PySem.W.keepIn K (.ref f) = true ∧ Binds K fd ps []
section
variable {P : Program} {w : World} {K : PySem.W.Frag} {mg : Str → Option Value} {base : Heap}
abbrev hotCx (P : Program) (w : World) (K : PySem.W.Frag) (mg : Str → Option Value) (base : Heap) (N : List Str) (x : Str) (st : Stmt) (f : Addr) (cdv : Value) (A : Around) (outer : List Env) (s : Shared) (H : Hp) (p : Addr × Obj) : Cx :=
  L2H.cxH (L2.CX P w) P w K mg base N x (defScope st) f cdv A outer s H (fun _ _ _ => False) p
theorem fn_okQ {x qual : Str} {st : Stmt} {f : Addr} {fd : FuncData} {N ps : List Str} {k : Nat} {C : CQ} (F : Fun K x qual st f fd) (S : FnScope N ps (defScope st)) (len : ∀ a dd Cl xs μ R, C a dd Cl xs μ R → xs.length = ps.length)
    (hbody : ∀ (a dd Cl : Addr) (xs : List D) (μ : Mu) (R : DP) (cdv : Value) (A : Around) (outer : List Env) (s : Shared) (H : Hp) (p : Addr × Obj), L2H.RoomH k (hotCx P w K mg base N qual st f cdv A outer s H p).A → Pin (hotCx P w K mg base N qual st f cdv A outer s H p) a dd Cl → C a dd Cl xs μ R →
      SSX (hotCx P w K mg base N qual st f cdv A outer s H p) noX μ (xs.map some ++ List.replicate (N.length - xs.length) none) (defBody st) { nx := fun _ μ' => R .non μ', rt := R }) :
    FnQ P w K mg base (k + 1) f fd ps C := by
  refine ⟨len, fun A outer s H us vs Q p a dd Cl μ xs R hr hpin px e0 hb r ho n c kR => ?_⟩
  obtain ⟨oc, od, kV, doc, pm, an, cdv, ct, osl, rfl, lk, hcd⟩ := F.ex
  have KX : K.In s.heap := e0.mod.kin.keeps fun b o e => (e0.bs b o e).1
  have lim : s.heap.NoLimit := e0.mod.nolimit.keeps fun b o e => (e0.bs b o e).1
  have hl : vs.length = ps.length := by rw [n.length]; exact len _ _ _ _ _ _ c
  refine codeAny_call_function hr.depth (KX _ _ lk) rfl S.co S.gen rfl (PySem.W.codeRec_of KX hcd) (hb _ _ _ _ ?_)
  refine wpAny_newFunctionEnv_cells S.kind (fun pr hy => (S.par pr.1 (List.of_mem_zip hy).1).imp id fun q => ⟨q, PySem.W.cellsFrom_some _ _ _ (.inl q)⟩) fun env he s1 y => ?_
  subst he
  refine ⟨lim.keeps y.toInCall.keep, codeAny_func ?_⟩
  have pin : Pin (hotCx P w K mg base N qual st f cdv A outer s H p) a dd Cl := by
    obtain ⟨vs, hv⟩ := px.d
    exact ⟨p.2, vs, by rw [← px.at_]; exact List.mem_singleton.mpr rfl, px.z, hv⟩
  have q := hbody a dd Cl xs μ R cdv A outer s H p (hr.deeper _) pin c
  have I := L2H.inv_startH (CX := L2.CX P w) (E := fun _ _ _ => False) S hpin e0 hl r y
  refine wpAny_mono (q.pss.run [] s1 (L2.start N vs) H { nx := fun _ H' => Q .non H', rt := Q } I ⟨ho, ⟨DenS.start n, Exc.no⟩, ⟨fun σ' H' ds' μ' s1 h1 n1 p => kR _ H' _ μ' s1 h1 .non p, kR, fun _ _ _ _ _ _ _ z => z.elim, fun _ _ _ _ _ _ _ z => z.elim⟩⟩) (fun fl s' hs => ?_) fun e s' hs => hs
  match fl, hs with
  | .ret u, ⟨v, σ', H', J, rv, z⟩ => exact ⟨v, H', J.os, J.bare, J.base, J.hok, rv, z⟩
  | .next, ⟨σ', H', J, z⟩ => exact ⟨.non, H', J.os, J.bare, J.base, J.hok, rfl, z⟩
  | .brk, ⟨_, _, _, z⟩ => exact z.elim
  | .cont, ⟨_, _, _, z⟩ => exact z.elim
theorem calQ_of {x : Str} {st : Stmt} {ps : List Str} {k : Nat} {C : CQ} (T : Tb K mg base) (F : FunAt K x st) (hb : BindOk x st ps) (h : ∀ f fd, Fun K x x st f fd → FnQ P w K mg base k f fd ps C) : CalQ P w K mg base x st ps k C := by
  obtain ⟨f, fd, a, F⟩ := F.ex
  exact ⟨f, fd, h f fd F, T.som a, F.kp, F.binds fun kV doc pm an cdv ct us hl => hb kV doc pm an cdv ct us hl⟩
end
section
variable {X : Cx} {PE : XP} {e : Expr} {es : List Expr} {μ : Mu} {ds : DS} {P : DP} {pos : Pos}
theorem ex_callQ {x : Str} {st : Stmt} {ps : List Str} {k : Nat} {C : CQ} {p : Pos} {a dd Cl : Addr} (c : CalQ X.prog X.w X.K X.mg X.base x st ps k C) (hr : L2H.RoomH k X.A) (pin : Pin X a dd Cl) (h : AX X PE μ ds (e :: es) fun xs μ1 => C a dd Cl xs μ1 P) (hg : Gl X x)
    (hdb : (x == ("__debug__" : Str)) = false := by decide) (he : starEach (e :: es) X.env = (false, eval e X.env) :: starEach es X.env := by rfl) (hpl : (backTo pos (starEach es X.env)).any (·.1) = false := by rfl) : EX X PE μ ds (.Call (.Name x p) (e :: es) [] pos) P := by
  obtain ⟨f, fd, F, hm, hk, hb⟩ := c.ex
  refine ⟨⟨fun pins s σ H Q I ⟨ho, hs, kk⟩ => wpAny_Call_Name_kw (ld_glob I hg hm ?_ hdb)⟩⟩
  refine PySem.W.callWith_K (h₀ := X.base) I.ok.mod.kin hk (thn (pa_U.run pos pins s σ H _ I (h.at ho hs fun vs H1 xs μ1 s1 h1 b1 n1 q => (⟨xs, μ1, s1, h1, n1, q⟩ : ∃ (xs : List D) (μ1 : Mu), Stp μ H μ1 H1 ∧ Hold X.K μ1 H1 ∧ DenAll X.K μ1 H1 vs xs ∧ C a dd Cl xs μ1 P))) fun us s1 ⟨vs, H1, I1, r, xs, μ1, st1, h1, n1, q⟩ => ⟨I1.kIn, ?_⟩) he hpl
  obtain ⟨oe, fv, hp, hz, hd⟩ := pin
  have hl : (us ++ []).length = ps.length := by rw [List.append_nil, ← r.length, n1.length]; exact F.len _ _ _ _ _ _ q
  have b := hb s1 us I1.kIn hl
  rw [List.append_nil] at b
  have p1 := I1.pin (a, oe) (List.mem_append_left _ hp)
  have pk : L2H.PinOk X.stack H1 s1 (a, oe) := ⟨p1.1, p1.2.1, fun hm => (List.mem_cons.mp (I1.stkSub _ hm)).elim p1.2.2.1 p1.2.2.2.1, p1.2.2.2.2⟩
  refine wpAny_call (codeAny_mono (F.run X.A X.stack s1 H1 us vs Q (a, oe) a dd Cl μ1 xs P hr pk ⟨rfl, hz, fv, hd⟩ I1.env0 b r h1 n1 q fun v H' d μ' s2 h2 n2 p2 => kk v H' d μ' (st1.trans s2) h2 n2 p2) fun rr s2 hq => ?_)
  match rr, hq with
  | .error er, hq => exact passes_call takesF (fun _ _ _ _ z => z) pins σ H1 s1 er s2 I1 hq
  | .ok (.ret u), hq => exact I1.after hq
end
end Hw
set_option Elab.async false
set_option linter.all false
set_option maxRecDepth 100000
set_option maxHeartbeats 1000000
namespace Hw
open PySem L2 PyProof.Rows PySem.Spec
/-! ### the end of a law that makes lambdas -/
/-- the store at the law's entry: the table of its code objects -/
def mu0 (T : Addr) (q : Str) : Mu := fun b => if b = T then some (.tbl q) else none
theorem mu0_at {T : Addr} {q : Str} : mu0 T q T = some (.tbl q) := if_pos rfl
theorem mu0_ne {T b : Addr} {q : Str} (h : b ≠ T) : mu0 T q b = none := if_neg h
section
variable {P : Program} {w : World} {K : PySem.W.Frag} {mg mb : Str → Option Value} {k : Nat} {fa a cd T : Addr} {fd : FuncData} {x q : Str} {C : CT} {s1 : Shared} {vs : List Value} {ns : List Int}
theorem law_coreT {H : Hp} (KX : K.In s1.heap) (hns : s1.heap.Ns mainGlobals mg) (hb : s1.heap.Ns builtinsNs mb) (hbb : ∀ x : Str, x ≠ "__name__" → mb x = bootBuiltins x) (hlim : s1.heap.NoLimit) (hgs : s1.gens = #[])
    (hbm : ∃ (bm : Addr) (ob : Obj), mg "__builtins__" = some (.ref bm) ∧ bm ≠ builtinsNs ∧ s1.heap.get? bm = some ob ∧ ob.cls = .type "module" ∧ ob.dict = some builtinsNs ∧ ob.data = .plain)
    (hT : s1.heap.get? T = some (PySem.W.tabObj #[])) (nT : K.lookup T = none) (hC : PySem.W.CodeHd s1.heap cd T)
    (ha : s1.heap.get? a = some { cls := .type "list", data := .seq vs.toArray }) (hr : Rm k callerA) (F : ∀ base : Heap, K.In base → base.Ns mainGlobals mg → LamX.TabB base mg cd T → FnG P w K mg base k fa fd [x] C) (hbind : ∀ (s : Shared) (u : Value), BindsTo s fd ⟨[u], []⟩ [(x, u)])
    (hCt : C [.rol (ns.map .int)] (mu0 T q) (fun d _ => d = .bl true) noX) (hS : Den K (mu0 T q) H (.ref a) (.rol (ns.map .int))) (hok : HOk P w H s1.heap) (HT : H T = some (.tbl #[]))
    (only : ∀ b u, H b = some u → (b = T ∧ u = .tbl #[]) ∨ (b = a ∧ K.lookup a = none ∧ ∃ o xs, u = .frz o (.lst xs))) : codeAny (model P w) callerA (.call (.ref fa) ⟨[.ref a], []⟩) (Done s1) s1 := by
  -- the ground: all that is neither the script nor the table
  have ground : ∀ {b : Addr} {o : Obj}, s1.heap.get? b = some o → o.data ≠ .seq vs.toArray → o.data ≠ .fields #[] → (hidT s1.heap H).get? b = some o := fun {b o} e n1 n2 => hidT_get e (by
    cases z : H b with
    | none => rfl
    | some u =>
      rcases only b u z with ⟨rfl, _⟩ | ⟨rfl, _⟩
      · rw [hT] at e; cases e; exact (n2 rfl).elim
      · rw [ha] at e; cases e; exact (n1 rfl).elim)
  have dic : ∀ {b : Addr} {m : Str → Option Value}, s1.heap.Ns b m → (hidT s1.heap H).Ns b m := fun {b m} ⟨o, es, ep, e, d, r⟩ => ⟨o, es, ep, ground e (by rw [d]; nofun) (by rw [d]; nofun), d, r⟩
  have kin : K.In (hidT s1.heap H) := fun b o e => by
    cases z : H b with
    | none => exact hidT_get (KX b o e) z
    | some u =>
      rcases only b u z with ⟨rfl, _⟩ | ⟨rfl, z2, _⟩
      · rw [nT] at e; cases e
      · rw [z2] at e; cases e
  have hM : Mod K mg (hidT s1.heap H) := ⟨kin, dic hns, ⟨mb, dic hb, hbb⟩, by obtain ⟨mc, h1, h2⟩ := hlim; exact ⟨mc, dic h1, h2⟩⟩
  have TB : LamX.TabB (hidT s1.heap H) mg cd T := by
    refine ⟨?_, ?_, fun z => ?_⟩
    · obtain ⟨o, us, fl, tf, gs, tg, inF, text, tt, e1, r1, r2, r3, r⟩ := hC
      exact ⟨o, us, fl, tf, gs, tg, inF, text, tt, ground e1 (by rw [r2]; nofun) (by rw [r2]; intro z; cases z; simp at r3), r1, r2, r3, r⟩
    · obtain ⟨bm, ob, b1, b2, b3, b4, b5, b6⟩ := hbm
      refine ⟨bm, ob, b1, b2, fun z => ?_, fun z => ?_, ground b3 (by rw [b6]; nofun) (by rw [b6]; nofun), b4, b5, b6⟩
      · obtain ⟨o, es, ep, e, d, _⟩ := hns
        rw [z, e] at b3; cases b3; rw [d] at b6; cases b6
      · rw [z, hT] at b3; cases b3; cases b6
    · obtain ⟨o, es, ep, e, d, _⟩ := hns
      rw [z, hT] at e; cases e; cases d
  have e0 : Env0 P w K mg (hidT s1.heap H) callerA [] s1 H := { frames := rfl, mod := hM, bs := fun b o e => of_hidT e, bsz := by rw [hidT_size]; exact Nat.le_refl _, funs := trivial, frf := fun b hb => absurd hb (by simp [frs]), hok := hok, bare := .of_eq hgs }
  have hold : Hold K (mu0 T q) H := fun b c e => by
    by_cases hb : b = T
    · subst hb
      rw [mu0_at] at e; cases e
      exact ⟨#[], HT, True.intro, fun pos cv hc => by
        have z : codeAmong pos [] = some cv := hc
        simp [codeAmong] at z⟩
    · rw [mu0_ne hb] at e; cases e
  refine codeAny_mono ((F _ kin (dic hns) TB).run callerA [] s1 H ⟨[.ref a], []⟩ [.ref a] [.ref a] (fun v _ => v = .bl true) (fun _ _ _ => False) hr e0 (hbind s1 (.ref a)) (.cons rfl .nil)
    ⟨mu0 T q, [.rol (ns.map .int)], fun d _ => d = .bl true, noX, hold, .cons hS .nil, hCt, fun v H' d μ' _ _ n p => by subst p; exact n.inv_bl, fun Ca dd H' fs vfs μ' _ _ _ _ p => False.elim p⟩) fun r s' h => ?_
  match r, h with
  | .error e, ⟨_, _, _, _, _, _, _, _, _, _, _, _, h⟩ => exact False.elim h
  | .ok (.ret u), ⟨v, H', os, bare, un, hok', r', z⟩ =>
    subst z
    cases r'
    have stays : ∀ b o, b ≠ T → s1.heap.get? b = some o → s'.heap.get? b = some o := fun b o nb e => by
      cases z : H b with
      | none => exact un.keep b o e z (by simp [frs]) (by simp)
      | some u =>
        rcases only b u z with ⟨rfl, _⟩ | ⟨_, _, ob, xs, rfl⟩
        · exact (nb rfl).elim
        · have y1 := (hok b _ z).1
          have y2 := (hok' b _ (un.frzs b ob _ z)).1
          rw [e] at y1; cases y1
          exact y2
    obtain ⟨more, hm⟩ := un.tbls T #[] HT
    have grown := hok' T _ hm
    refine ⟨rfl, ⟨fun b o e => ?_, fun b o e => ?_⟩, os, bare⟩
    · by_cases hb : b = T
      · subst hb
        rw [hT] at e; cases e
        exact .inr (.inl ⟨(hC.tab hT).isCodeTable, rfl, #[], more, rfl, grown⟩)
      · exact .inl (stays b o hb e)
    · by_cases hb : b = T
      · subst hb; exact ⟨_, grown⟩
      · exact ⟨o, stays b o hb e⟩
theorem law_endT (KX : K.In s1.heap) (hns : s1.heap.Ns mainGlobals mg) (hb : s1.heap.Ns builtinsNs mb) (hbb : ∀ x : Str, x ≠ "__name__" → mb x = bootBuiltins x) (hlim : s1.heap.NoLimit) (hgs : s1.gens = #[])
    (hbm : ∃ (bm : Addr) (ob : Obj), mg "__builtins__" = some (.ref bm) ∧ bm ≠ builtinsNs ∧ s1.heap.get? bm = some ob ∧ ob.cls = .type "module" ∧ ob.dict = some builtinsNs ∧ ob.data = .plain)
    (hT : s1.heap.get? T = some (PySem.W.tabObj #[])) (nT : K.lookup T = none) (hC : PySem.W.CodeHd s1.heap cd T)
    (ha : s1.heap.get? a = some { cls := .type "list", data := .seq vs.toArray }) (hi : IntsAre vs ns) (hl : ns.length ≤ sizeLine) (hr : Rm k callerA)
    (F : ∀ base : Heap, K.In base → base.Ns mainGlobals mg → LamX.TabB base mg cd T → FnG P w K mg base k fa fd [x] C) (hbind : ∀ (s : Shared) (u : Value), BindsTo s fd ⟨[u], []⟩ [(x, u)])
    (hCt : C [.rol (ns.map .int)] (mu0 T q) (fun d _ => d = .bl true) noX) : codeAny (model P w) callerA (.call (.ref fa) ⟨[.ref a], []⟩) (Done s1) s1 := by
  have rv := vals_ints hi
  have den : ∀ H, DenAll K (mu0 T q) H (ns.map V.int) (ns.map .int) := fun H => by
    clear ha hi hl rv hCt
    induction ns with
    | nil => exact .nil
    | cons n r ih => exact .cons (.int n) ih
  have aT : a ≠ T := fun z => by rw [z, hT] at ha; cases ha
  have tb : ∀ {b : Addr} {u : HO}, (if b = T then some (HO.tbl #[]) else none) = some u → b = T ∧ u = .tbl #[] := fun {b u} z => by
    by_cases hb : b = T
    · rw [if_pos hb] at z; cases z; exact ⟨hb, rfl⟩
    · rw [if_neg hb] at z; cases z
  cases hk : K.lookup a with
  | some o =>
    have e := KX a o hk
    rw [ha] at e
    cases e
    refine law_coreT (H := fun b => if b = T then some (.tbl #[]) else none) KX hns hb hbb hlim hgs hbm hT nT hC ha hr F hbind hCt (.rolK (fun H' => .inr ⟨_, vs.toArray, _, hk, rfl, rfl, rfl, by rw [List.size_toArray, hi.length]; exact hl, by simpa using rv⟩) (den _)) (fun b u z => ?_) (if_pos rfl) fun b u z => .inl (tb z)
    obtain ⟨rfl, rfl⟩ := tb z
    exact hT
  | none =>
    have two : ∀ {b : Addr} {u : HO}, (if b = a then some (HO.frz { cls := .type "list", data := .seq vs.toArray } (.lst (ns.map V.int))) else if b = T then some (HO.tbl #[]) else none) = some u → (b = T ∧ u = .tbl #[]) ∨ (b = a ∧ u = .frz { cls := .type "list", data := .seq vs.toArray } (.lst (ns.map V.int))) := fun {b u} z => by
      by_cases hb : b = a
      · rw [if_pos hb] at z; cases z; exact .inr ⟨hb, rfl⟩
      · rw [if_neg hb] at z; exact .inl (tb z)
    refine law_coreT (H := fun b => if b = a then some (.frz { cls := .type "list", data := .seq vs.toArray } (.lst (ns.map V.int))) else if b = T then some (.tbl #[]) else none) KX hns hb hbb hlim hgs hbm hT nT hC ha hr F hbind hCt (.rol (mu0_ne aT) (.inr ⟨_, if_pos rfl⟩) (den _)) (fun b u z => ?_) (by show (if T = a then _ else if T = T then _ else _) = _; rw [if_neg (Ne.symm aT), if_pos rfl]) fun b u z => ?_
    · rcases two z with ⟨rfl, rfl⟩ | ⟨rfl, rfl⟩
      · exact hT
      · exact ⟨ha, by rw [List.length_map]; exact hl, vs, _, rv, ha⟩
    · rcases two z with ⟨rfl, rfl⟩ | ⟨rfl, rfl⟩
      · exact .inl ⟨rfl, rfl⟩
      · exact .inr ⟨rfl, hk, _, _, rfl⟩
end
/-- the goal that the head leaves, for a law that makes lambdas -/
theorem walk_endT {l : PySem.W.OpenLaw} {n k : Nat} {q : Program} {loose : List Str} {XP : (Str → Option Value) → Heap → Prop} {YP : World → Heap → Prop} {d : DefRec} {K : Params → PySem.W.Frag} {x tq : Str} {C : Addr → CT}
    (hn : l.most = some n) (hn2 : n ≤ sizeLine) (hdf : d.params.defaults = []) (hr : Rm k callerA) (hY : ∀ (w : World) (h : Heap), YP w h → (K w.params).In h)
    (F : ∀ (w : World) (mg : Str → Option Value) (fa : Addr) (h : Heap), YP w h → (K w.params).In h → h.Ns mainGlobals mg → mg d.name = some (.ref fa) →
      ∃ (cd T : Addr) (fd : FuncData), h.get? T = some (PySem.W.tabObj #[]) ∧ List.lookup T (K w.params) = none ∧ PySem.W.CodeHd h cd T ∧ (∀ (s : Shared) (u : Value), BindsTo s fd ⟨[u], []⟩ [(x, u)]) ∧
        ∀ base : Heap, (K w.params).In base → base.Ns mainGlobals mg → LamX.TabB base mg cd T → FnG l.prog w (K w.params) mg base k fa fd [x] (C T))
    (hC : ∀ (T : Addr) (ns : List Int), ns.length ≤ n → (∀ z ∈ ns, Builtin.Int.intBits z ≤ 1048576) → C T [.rol (ns.map .int)] (mu0 T tq) (fun d _ => d = .bl true) noX) :
    PySem.W.WalkO q loose XP YP l.row.toRowW d [] (fun f vs => PySem.call f vs) := by
  refine Att.attach_callB hn hdf fun w s0 s1 mg mb fa o pm cd doc a vs ns G Y ho hd hcd hmg hobj hints hlen hbits hg => ?_
  obtain ⟨cd, T, fd, h1, h2, h3, hb, hF⟩ := F w mg fa _ Y (hY w _ Y) G.T.g hmg
  exact law_endT (hY w _ Y) G.T.g G.T.b G.T.builtins G.T.nolimit hg G.T.bmain h1 h2 h3 hobj hints (Nat.le_trans hlen hn2) hr hF hb (hC T ns hlen hbits)
end Hw
set_option Elab.async false
set_option linter.all false
set_option maxRecDepth 100000
set_option maxHeartbeats 1000000
namespace Hw
open PySem L2 PyProof.Rows PySem.Spec
/-! ### the law's own def, its code object told -/
structure FunC (K : PySem.W.Frag) (x : Str) (st : Stmt) (f cd : Addr) (fd : FuncData) : Prop where
  ex : ∃ (oc : Value) (od : Option Addr) (kV doc pm : Value) (an : Option Addr) (ct : Value) (osl : Array (Option Value)),
    fd = PySem.W.fnOf x x (defArgs st) (defBody st) (defScope st) .none kV doc pm an (.ref cd) ct ∧ K.lookup f = some ⟨oc, od, .func fd, osl⟩ ∧ PySem.W.codeIn K (.ref cd) x = true
structure FunAtC (K : PySem.W.Frag) (x : Str) (st : Stmt) (cd T : Addr) : Prop where
  ex : ∃ f fd, PySem.W.nsIn K mainGlobals x = some (some (.ref f)) ∧ FunC K x st f cd fd
  hd : PySem.W.codeHdIn K cd T = true
  no : List.lookup T K = none
theorem FunAtC.mk' {K : PySem.W.Frag} {x : Str} {st : Stmt} {f cd T : Addr} {oc : Value} {od an : Option Addr} {osl : Array (Option Value)} {kV doc pm ct ccl : Value} {cdd : Option Addr} {cvs : Array Value} {ccs : Array (Option Value)} (a : PySem.W.nsIn K mainGlobals x = some (some (.ref f)))
    (l : K.lookup f = some ⟨oc, od, .func (PySem.W.fnOf x x (defArgs st) (defBody st) (defScope st) .none kV doc pm an (.ref cd) ct), osl⟩) (c : PySem.W.codeIn K (.ref cd) x = true) (lc : K.lookup cd = some ⟨ccl, cdd, .fields cvs, ccs⟩) (ht : cvs[11]? = some (.ref T)) (hd : PySem.W.codeHdIn K cd T = true) (no : List.lookup T K = none) : FunAtC K x st cd T :=
  ⟨⟨f, _, a, oc, od, kV, doc, pm, an, ct, osl, rfl, l, c⟩, hd, no⟩
section
variable {P : Program} {w : World} {K : PySem.W.Frag} {mg : Str → Option Value} {base : Heap}
theorem fn_okC {x : Str} {st : Stmt} {f cd : Addr} {fd : FuncData} {N ps : List Str} {k : Nat} {C : CT} (F : FunC K x st f cd fd) (S : FnScope N ps (defScope st)) (len : ∀ xs μ R RE, C xs μ R RE → xs.length = ps.length)
    (hbody : ∀ (xs : List D) (μ : Mu) (R : DP) (PE : XP) (A : Around) (outer : List Env) (s : Shared) (H : Hp) (E : XK), Rm k (bodyCx P w K mg base N x st f (.ref cd) A outer s H E).A → C xs μ R PE →
      SSX (bodyCx P w K mg base N x st f (.ref cd) A outer s H E) PE μ (xs.map some ++ List.replicate (N.length - xs.length) none) (defBody st) { nx := fun _ μ' => R .non μ', rt := R }) :
    FnG P w K mg base (k + 1) f fd ps C := by
  refine ⟨len, fun A outer s H args us vs Q E hr e0 hb r h => ?_⟩
  have hl : vs.length = ps.length := by
    obtain ⟨μ, xs, R, PE, ho, n, c, _⟩ := h
    rw [n.length]
    exact len xs μ R PE c
  obtain ⟨oc, od, kV, doc, pm, an, ct, osl, rfl, lk, hcd⟩ := F.ex
  refine LamX.run_ofS lk hcd S hr.r e0 hb r hl fun hr' => ?_
  obtain ⟨μ, xs, R, PE, ho, n, c, kR, kE⟩ := h
  have q := hbody xs μ R PE A outer s H E ⟨hr', hr.g⟩ c
  refine ⟨_, q.pss, ho, ⟨DenS.start n, fun Ca dd H' fs vfs μ' σ s2 h2 e2 n2 p2 => wx_leave (takes_of rfl rfl rfl rfl) (kE Ca dd H' fs vfs μ' s2 h2 e2 n2 p2)⟩, ?_⟩
  exact ⟨fun σ' H' ds' μ' s1 h1 n1 p => kR _ H' _ μ' s1 h1 .non p, fun v H' d μ' s1 h1 n1 p => kR v H' d μ' s1 h1 n1 p, fun _ _ _ _ _ _ _ p => p.elim, fun _ _ _ _ _ _ _ p => p.elim⟩
theorem law_fnT {h : Heap} {fa cd T : Addr} {st : Stmt} {p : Str} {k : Nat} {C : Addr → CT} (Tb0 : Tb K mg h) (F : FunAtC K "law" st cd T) (hfa : mg "law" = some (.ref fa)) (tabs : h.get? T = some (PySem.W.tabObj #[])) (hb : ∀ (kV doc pm : Value) (an : Option Addr) (ct u : Value), bindArgs (PySem.W.fnOf "law" "law" (defArgs st) (defBody st) (defScope st) .none kV doc pm an (.ref cd) ct) ⟨[u], []⟩ = pure [(p, u)])
    (ok : ∀ base f fd, Tb K mg base → LamX.TabB base mg cd T → FunC K "law" st f cd fd → FnG P w K mg base k f fd [p] (C T)) :
    ∃ (cd T : Addr) (fd : FuncData), h.get? T = some (PySem.W.tabObj #[]) ∧ List.lookup T K = none ∧ PySem.W.CodeHd h cd T ∧ (∀ (s : Shared) (u : Value), BindsTo s fd ⟨[u], []⟩ [(p, u)]) ∧
        ∀ base : Heap, K.In base → base.Ns mainGlobals mg → LamX.TabB base mg cd T → FnG P w K mg base k fa fd [p] (C T) := by
  obtain ⟨f, fd, a, F1⟩ := F.ex
  have e := hfa.symm.trans (Tb0.som a)
  cases e
  refine ⟨cd, T, fd, tabs, F.no, PySem.W.codeHd_of_K Tb0.b F.hd, fun s u => ?_, fun base b g t => ok base _ _ ⟨b, g⟩ t F1⟩
  obtain ⟨oc, od, kV, doc, pm, an, ct, osl, e, _, _⟩ := F1.ex
  subst e
  exact .of_eq (hb kV doc pm an ct u)
end
/-! ### classes of exceptions -/
structure BasC (K : PySem.W.Frag) (C : Addr) : Prop where
  c : (PySem.W.clsIn K C).isSome = true
  t : PySem.W.typeIn K (.ref C) = some (.type "type")
  b : PySem.W.subIn K (.ref C) (.type "BaseException") = some true
theorem BasC.mk' {K : PySem.W.Frag} {C : Addr} {cd : ClassData} (c : PySem.W.clsIn K C = some cd) (t : PySem.W.typeIn K (.ref C) = some (.type "type")) (b : PySem.W.subIn K (.ref C) (.type "BaseException") = some true) : BasC K C := ⟨by rw [c]; rfl, t, b⟩
theorem BasC.one {K : PySem.W.Frag} {C D : Addr} {z : Bool} (B : BasC K C) (h : PySem.W.subIn K (.ref D) (.ref C) = some z) : PySem.W.exmOne K (.ref D) (.ref C) = some z := by
  unfold PySem.W.exmOne PySem.W.kitCls
  rw [B.b]
  simp only [B.c, B.t, h]
  rfl
theorem exm3 {K : PySem.W.Frag} {D c1 c2 c3 : Addr} {z1 z2 z3 : Bool} (b1 : BasC K c1) (b2 : BasC K c2) (b3 : BasC K c3) (h1 : PySem.W.subIn K (.ref D) (.ref c1) = some z1) (h2 : PySem.W.subIn K (.ref D) (.ref c2) = some z2) (h3 : PySem.W.subIn K (.ref D) (.ref c3) = some z3) :
    PySem.W.exmAny K (.ref D) [.ref c1, .ref c2, .ref c3] = some (z1 || (z2 || (z3 || false))) := by
  simp only [PySem.W.exmAny, b1.one h1, b2.one h2, b3.one h3]
/-- an own exception class of one field, by flat facts -/
theorem Exc1.mk' {P : Program} {K : PySem.W.Frag} {x qual fld prm text : Str} {st : Stmt} {D f cda cc : Addr} {nm q : Str} {N0 : Addr} {bs bm : List Value} {sn : List Str} {sub : List Value} {ab : Bool} {col : Option Bool} {dd : Option Addr} {k0 k1 k2 k3 k5 : Option Value} {cd : ClassData}
    {oc ccl cl kV doc pm ct : Value} {od cdd cld an : Option Addr} {osl ccs csl : Array (Option Value)} {vs : Array Value} {file : Str} {tf : Tok}
    (lC : K.lookup D = some (excClassObj nm q D N0 bs bm true sn sub ab col dd k0 k1 k2 k3 k5 "ValueError.__new__")) (hbm : PySem.HandSPX.refsVE bm = true) (sa : PySem.W.findIn K (.ref D) "__setattr__" = some (some (.builtin "object.__setattr__"))) (exC : PySem.W.subIn K (.ref D) (.type "BaseException") = some true)
    (tyC : PySem.W.typeIn K (.ref D) = some (.type "type")) (kC : PySem.W.keepIn K (.ref D) = true) (cls : PySem.W.clsIn K D = some cd) (mro : PySem.W.mroIn K D (.ref D) = some true) (sup : PySem.W.ks_superIn K D D "__init__" = some (some (.builtin "ValueError.__init__"))) (isV : PySem.W.subIn K (.ref D) (.type "ValueError") = some true)
    (any : PySem.W.nsIn K cStatics "thirdparty.any" = some none) (blt : PySem.W.nsIn K mainGlobals "super" = some none) (nc : PySem.W.findIn K (.ref D) "code" = some none) (nf : PySem.W.findIn K (.ref D) fld = some none)
    (iC : PySem.W.findIn K (.ref D) "__init__" = some (some (.ref f))) (tI : PySem.W.typeIn K (.ref f) = some (.type "function"))
    (lf : K.lookup f = some ⟨oc, od, .func (PySem.W.ksFn "__init__" qual (defArgs st) (defBody st) (defScope st) .none kV doc pm an (.ref cda) ct cc), osl⟩) (cI : PySem.W.codeIn K (.ref cda) qual = true) (lc : K.lookup cda = some ⟨ccl, cdd, .fields vs, ccs⟩) (hv : vs[2]? = some (.str file tf)) (hfile : ((P.main.file : Str) == file) = true)
    (lcc : K.lookup cc = some ⟨cl, cld, .cell (some (.ref D)), csl⟩) : Exc1 P K x qual fld prm text st D :=
  ⟨⟨⟨⟨nm, q, N0, bs, bm, sn, sub, ab, col, dd, k0, k1, k2, k3, k5, lC, hbm⟩, sa, exC, tyC, kC⟩, ⟨cd, cls⟩, mro, sup, isV, any, blt, nc⟩, nf, f, _, cda, cc, ⟨oc, ccl, cl, kV, doc, pm, ct, od, cdd, cld, an, osl, ccs, csl, vs, file, tf, rfl, lf, cI, lc, hv, hfile, lcc⟩, iC, tI⟩
/-- the i-th statement of a class -/
def methS (st : Stmt) (i : Nat) : Stmt := match st with
  | .ClassDef _ _ _ body _ _ _ _ _ _ _ => body.getD i (.Pass ⟨0, 0, 0, 0⟩)
  | _ => .Pass ⟨0, 0, 0, 0⟩
/-- the law itself, where it makes lambdas (their table at T) -/
def lawCT (T : Addr) : CT := fun xs μ P PE => ∃ ns : List Int, xs = [.rol (ns.map .int)] ∧ ns.length ≤ 63 ∧ (∀ z ∈ ns, Builtin.Int.intBits z ≤ 1048576) ∧ μ = mu0 T "law.<locals>.<lambda>" ∧ ∀ μ', P (.bl true) μ'
end Hw
set_option Elab.async false
set_option linter.all false
set_option maxRecDepth 100000
set_option maxHeartbeats 1000000
namespace Hw
open PySem L2 PyProof.Rows PySem.Spec
/-! ### a lambda with one parameter that has a whole number as its default -/
abbrev dfObj (q : Str) (params : Arguments) (body : Expr) (scope : Scope) (cl : List (Str × Addr)) (T0 : Addr) (doc pm : Value) (c' : Addr) (ctv : Value) : Obj := PySem.W.kdv_obj "<lambda>" q params (.expr body) scope cl (.ref T0) doc pm c' ctv
section
variable {X : Cx} {pins : List (Addr × Obj)} {σ : L2.St} {H : Hp} {s : Shared}
theorem lamD_make {cd T : Addr} {q : Str} {params : Arguments} {body : Expr} {scope : Scope} {pos p0 : Pos} {i0 : Int} {j0 : Nat} {E : Value → Shared → Prop} {Q : Value → Shared → Prop} (I : Inv X pins σ H s) (TB : LamX.TabB X.base X.mg cd T) (hcode : X.env.code = .ref cd)
    (hq : q = X.env.qual ++ "<lambda>") (hT : LamX.TabS H T q) (hd : params.defaults = [.Constant (.int i0) j0 p0]) (hk0 : params.kw_defaults = []) (hfree : ∀ y ∈ scope.names, y.2 = .free → ∃ c, X.env.cells.lookup y.1 = some c)
    (h : ∀ (f c' T0 : Addr) (tk : Tok) (pm ctv doc : Value) (G : Hp) (s' : Shared), Inv X pins σ G s' → LamX.ExtN H G → LamX.TabS G T q → s'.heap.get? f = some (dfObj q params body scope (cloFrom X.env.cells scope.names []) T0 doc pm c' ctv) →
      s'.heap.get? T0 = some (PySem.W.kdv_tup [.int i0 tk]) → G f = none → G T0 = none → f ∉ frs X.stack → T0 ∉ frs X.stack → G c' = some (LamX.CodeO c' q) → Q (.ref f) s') :
    wpAny (model X.prog X.w) X.A (eval (.Lambda params body scope pos) X.env) Q E s := by
  subst hq
  refine PySem.W.kdv_lam (by rw [hd]; rfl) hk0 ?_
  rw [hd]
  refine PySem.W.kdv_all1 (wpAny_Constant_int (PySem.W.kdv_all0 ?_))
  rw [makeFunction_eq]
  simp only [List.zip_nil_right, List.filterMap_nil, List.isEmpty_nil, List.isEmpty_cons, if_true, Bool.false_eq_true, if_false]
  refine wpAny_bind (wpAny_newTextTuple ?_)
  have up0 : ∀ b o, s.heap.get? b = some o → (s.heap.push (PySem.W.kdv_tup [.int i0 s.toks])).get? b = some o := fun b o e => Heap.get?_push_of_some _ e
  have I1 : Inv X pins σ H { s with heap := s.heap.push (PySem.W.kdv_tup [.int i0 s.toks]), toks := s.toks + 1 } := I.kept up0
  have t0 : (s.heap.push (PySem.W.kdv_tup [.int i0 s.toks])).get? s.heap.objs.size = some (PySem.W.kdv_tup [.int i0 s.toks]) := Heap.get?_push_at rfl rfl
  have psz : (s.heap.push (PySem.W.kdv_tup [.int i0 s.toks])).objs.size = s.heap.objs.size + 1 := Heap.size_push ..
  have far : ∀ b, s.heap.objs.size ≤ b → b ∉ frs X.stack := fun b hb z => by
    rcases List.mem_cons.mp (I.stkSub _ z) with e | e
    · have := I.lt
      rw [← e] at this
      exact Nat.lt_irrefl _ (Nat.lt_of_lt_of_le this hb)
    · exact I.nofs hb e
  obtain ⟨ps, hP, ht, ha⟩ := hT
  have tb1 := I1.hok T _ hP
  have bm1 : ({ s with heap := s.heap.push (PySem.W.kdv_tup [.int i0 s.toks]), toks := s.toks + 1 } : Shared).heap.BuiltinsAt X.mg T := TB.bm.keeps I1.bk
  have h0 : H s.heap.objs.size = none := I.hok.fresh (Nat.le_refl _)
  cases hc : codeAmong pos ps.toList with
  | none =>
    refine PySem.W.kdv_makeTail (mg := X.mg) (c := cd) (P := T) (ps := ps) (closure_ok hfree) I1.ok.glob (I1.mod.glob.keeps I1.bk) hcode (TB.code.keeps I1.bk) tb1 ht hc TB.gP bm1 fun c' ctv doc h' tk hx hge hlt hrec htb => ?_
    obtain ⟨c2, oc, vs, t, e2, hoc, hdd, hv⟩ := hrec
    cases e2
    have hc2 : s.heap.objs.size ≤ c' := Nat.le_trans (by show s.heap.objs.size ≤ (s.heap.push (PySem.W.kdv_tup [.int i0 s.toks])).objs.size; rw [psz]; omega) hge
    have sz : s.heap.objs.size ≤ h'.objs.size := Nat.le_trans hc2 (Nat.le_of_lt hlt)
    have nC : H c' = none := I.hok.fresh hc2
    have J := LamX.inv_table (t' := tk) (more := #[rawInt pos.line, rawInt pos.col, .ref c']) (h' := h'.push (dfObj (X.env.qual ++ "<lambda>") params body scope (cloFrom X.env.cells scope.names []) s.heap.objs.size doc ((X.mg "__name__").getD .none) c' ctv)) I1 hP
      (fun b o hb e => Heap.get?_push_of_some _ (hx b o hb e)) (Heap.get?_push_of_some _ htb) hge ⟨oc, vs, t, Heap.get?_push_of_some _ hoc, hdd, hv⟩
    have nPT : ∀ b, s.heap.objs.size ≤ b → b ≠ T := fun b hb z => by
      have := I.hok.fresh (a := T) (by rw [← z]; exact hb)
      rw [hP] at this; cases this
    have grow : LamX.ExtN H (upd (upd H T (.tbl (ps ++ #[rawInt pos.line, rawInt pos.col, .ref c']))) c' (LamX.CodeO c' (X.env.qual ++ "<lambda>"))) := fun b o e n => by
      rw [upd_ne (ne_of_none e nC), upd_ne (fun z : b = T => n ps (by rw [z, hP] at e; exact (Option.some.inj e).symm))]
      exact e
    have tl : (ps ++ #[rawInt pos.line, rawInt pos.col, .ref c']).toList = ps.toList ++ [rawInt pos.line, rawInt pos.col, .ref c'] := by simp
    have gone : ∀ b, s.heap.objs.size ≤ b → b ≠ c' → (upd (upd H T (.tbl (ps ++ #[rawInt pos.line, rawInt pos.col, .ref c']))) c' (LamX.CodeO c' (X.env.qual ++ "<lambda>"))) b = none := fun b hb hn => by
      rw [upd_ne hn, upd_ne (nPT b hb)]
      exact I.hok.fresh hb
    refine h h'.objs.size c' s.heap.objs.size s.toks ((X.mg "__name__").getD .none) ctv doc _ _ J grow ⟨_, by rw [upd_ne (Ne.symm (nPT c' hc2)), upd_same], by rw [tl]; exact PySem.TriplesOk_snoc _ _ _ _ ht, fun p' cv hcv => ?_⟩ (Heap.get?_push_size _ rfl) ?_ (gone _ sz (Nat.ne_of_gt hlt)) (gone _ (Nat.le_refl _) ?_) (far _ sz) (far _ (Nat.le_refl _)) upd_same
    · rw [tl] at hcv
      rcases LamX.among_app _ ht hcv with z | z
      · obtain ⟨c0, e1, e2⟩ := ha p' cv z
        exact ⟨c0, e1, grow _ _ e2 LamX.codeO_ne⟩
      · exact ⟨c', z, upd_same⟩
    · exact Heap.get?_push_of_some _ (hx _ _ (nPT _ (Nat.le_refl _)) t0)
    · have : s.heap.objs.size < c' := Nat.lt_of_lt_of_le (by show s.heap.objs.size < (s.heap.push (PySem.W.kdv_tup [.int i0 s.toks])).objs.size; rw [psz]; omega) hge
      exact Nat.ne_of_lt this
  | some cv =>
    obtain ⟨c', e, hco⟩ := ha pos cv hc
    subst e
    refine PySem.W.kdv_makeTailHit (mg := X.mg) (c := cd) (P := T) (ps := ps) (closure_ok hfree) I1.ok.glob (I1.mod.glob.keeps I1.bk) hcode (TB.code.keeps I1.bk) tb1 ht hc bm1 fun ctv doc h' tk hx hsz => ?_
    have sz : s.heap.objs.size ≤ h'.objs.size := Nat.le_trans (by show s.heap.objs.size ≤ (s.heap.push (PySem.W.kdv_tup [.int i0 s.toks])).objs.size; rw [psz]; omega) hsz
    have J : Inv X pins σ H { s with heap := h'.push (dfObj (X.env.qual ++ "<lambda>") params body scope (cloFrom X.env.cells scope.names []) s.heap.objs.size doc ((X.mg "__name__").getD .none) c' ctv), toks := tk } := I.kept fun b o e => Heap.get?_push_of_some _ (hx b o (up0 b o e))
    exact h h'.objs.size c' s.heap.objs.size s.toks _ ctv doc H _ J (LamX.ExtN.refl H) ⟨ps, hP, ht, ha⟩ (Heap.get?_push_size _ rfl) (Heap.get?_push_of_some _ (hx _ _ t0)) (I.hok.fresh sz) h0 (far _ sz) (far _ (Nat.le_refl _)) hco
end
end Hw
set_option Elab.async false
set_option linter.all false
set_option maxRecDepth 100000
set_option maxHeartbeats 1000000
namespace Hw
open PySem L2 PyProof.Rows PySem.Spec
/-- names of a lambda with the parameter prm: it is none of the def's own slots N -/
structure LamD (N : List Str) (sc scope : Scope) (prm : Str) : Prop where
  kind : scope.kind = .function
  co : scope.isCoroutine = false
  gen : scope.isGenerator = false
  noC : ∀ y ∈ scope.names, y.2 ≠ .cell
  loc : ∀ y ∈ scope.names, y.2 = .local → y.1 ∉ N
  par : scope.names.lookup prm = some .local
  free : ∀ y ∈ scope.names, y.2 = .free → sc.names.lookup y.1 = some .cell ∨ sc.names.lookup y.1 = some .free
def lamDB (N : List Str) (sc scope : Scope) (prm : Str) : Bool :=
  decide (scope.kind = .function) && (!scope.isCoroutine && (!scope.isGenerator && (decide (scope.names.lookup prm = some .local) && scope.names.all fun y => !decide (y.2 = .cell) && ((!decide (y.2 = .local) || decide (y.1 ∉ N)) &&
    (!decide (y.2 = .free) || (decide (sc.names.lookup y.1 = some .cell) || decide (sc.names.lookup y.1 = some .free)))))))
theorem lamD_by {N : List Str} {sc scope : Scope} {prm : Str} (h : lamDB N sc scope prm = true) : LamD N sc scope prm := by
  unfold lamDB at h
  simp only [Bool.and_eq_true, Bool.or_eq_true, Bool.not_eq_true', decide_eq_true_eq, decide_eq_false_iff_not, List.all_eq_true] at h
  obtain ⟨h1, h2, h3, h4, h5⟩ := h
  exact ⟨h1, h2, h3, fun y hy => (h5 y hy).1, fun y hy e => ((h5 y hy).2.1).resolve_left (fun q => q e), h4, fun y hy e => ((h5 y hy).2.2).resolve_left (fun q => q e)⟩
theorem LamD.has {X : Cx} {scope : Scope} {prm : Str} (L : LamD X.N X.env.scope scope prm) (ok : X.Ok) : ∀ y ∈ scope.names, y.2 = .free → ∃ c, X.env.cells.lookup y.1 = some c := fun y hy e => ok.has _ (L.free y hy e)
section
variable {X : Cx} {pins : List (Addr × Obj)} {σ : L2.St} {H HZ : Hp} {s s1 : Shared}
theorem lamD_start {A : Around} {outer : List Env} {E : XK} {scope : Scope} {prm : Str} {f c' : Addr} {g1 : Heap} {tk : Nat} {m1 : Str → Option Value} (I : Inv X pins σ H s) (L : LamD X.N X.env.scope scope prm) (e0 : Env0 X.prog X.w X.K X.mg X.base A outer s1 HZ) (hd : A.handled = none)
    (un : Un (frs X.stack) [] H HZ s.heap s1.heap) (hns : g1.Ns s1.heap.objs.size m1) (up : ∀ b o, s1.heap.get? b = some o → g1.get? b = some o) : Inv (LamX.lamCx X A outer s1 HZ E scope f c') [] σ HZ { s1 with heap := g1, toks := tk } := by
  have has := L.has I.ok
  have cap : ∀ {y c}, (cloFrom X.env.cells scope.names []).lookup y = some c → X.env.cells.lookup y = some c := fun {y c} e => by
    rcases cloFrom_mem (PySem.mem_of_lookup e) with z | ⟨z1, z2⟩
    · cases z
    · obtain ⟨c1, hc⟩ := has _ z1 rfl
      have hc : X.env.cells.lookup y = some c1 := hc
      rw [hc] at z2 ⊢
      rw [z2]; rfl
  have seen : ∀ {y}, scope.names.lookup y = some .free → ∃ c, (cloFrom X.env.cells scope.names []).lookup y = some c := fun {y} q => mem_lookup (cloFrom_has (cells := X.env.cells) (acc := []) (PySem.mem_of_lookup q))
  have held : ∀ {c : Addr} {v : Option Value}, H c = none → s.heap.IsCell c v → g1.IsCell c v := fun {c v} n ⟨o, ho, hd⟩ => by
    obtain ⟨sl, q⟩ := un.any ho n (by simp)
    exact ⟨_, up _ _ q, hd⟩
  have noA : ∀ b : Addr, b ∉ (LamX.lamCx X A outer s1 HZ E scope f c').ex := fun b z => absurd (show b ∈ ([] : List Addr) from z) (by simp)
  exact ⟨⟨e0.mod, L.kind, rfl, rfl, Nat.le_refl _, fun y z c h1 h2 => I.ok.inj y z c (cap h1) (cap h2), fun y hy => by
        rcases (show scope.names.lookup y = some .cell ∨ scope.names.lookup y = some .free from hy) with q | q
        · exact absurd rfl (L.noC _ (PySem.mem_of_lookup q))
        · exact seen q, (fun y c z _ => by cases (show false = true from z)), fun _ => hd, Around.frames_deeper e0.frames, .inr ⟨rfl, rfl⟩, fun b z => absurd z (noA b), e0.bs, e0.bsz, fun b _ _ => noA b, fun b z => absurd z (noA b), e0.funs, e0.frf⟩,
    rfl, e0.bare, Un.kept up, ⟨_, hns, fun i y v h1 h2 h3 => by
        rcases (show Vis scope y from h3) with q | q | q
        · exact absurd (List.mem_of_getElem? h1) (L.loc _ (PySem.mem_of_lookup q) rfl)
        · exact absurd rfl (L.noC _ (PySem.mem_of_lookup q))
        · obtain ⟨m, hn, hl⟩ := I.loc
          have vis : Vis X.env.scope y := .inr (L.free _ (PySem.mem_of_lookup q) rfl)
          obtain ⟨u, r, w⟩ := hl i y v h1 h2 vis
          obtain ⟨c2, hc2⟩ := seen q
          refine ⟨u, r, .inr ⟨.inr q, c2, hc2, ?_⟩⟩
          rcases w with ⟨k', _⟩ | ⟨_, c3, e', z⟩
          · have k' : X.env.scope.names.lookup y = some .local := k'
            rcases L.free _ (PySem.mem_of_lookup q) rfl with k2 | k2 <;> (rw [show X.env.scope.names.lookup y = _ from k2] at k'; cases k')
          · rw [cap hc2] at e'
            cases e'
            exact held (I.freeC y _ (cap hc2)) z⟩,
    fun y c e => by
        obtain ⟨u, z⟩ := I.cell y c (cap e)
        exact ⟨u, held (I.freeC y c (cap e)) z⟩, e0.hok.fresh (Nat.le_refl _), fun y c e => by
        obtain ⟨v, o, ho, _⟩ := I.cell y c (cap e)
        exact un.free c o ho (I.freeC y c (cap e)) (by simp), fun q hq => absurd (show q ∈ ([] : List (Addr × Obj)) ++ [] from hq) (by simp), e0.hok.kept up, I.len⟩
end
end Hw
set_option Elab.async false
set_option linter.all false
set_option maxRecDepth 100000
set_option maxHeartbeats 1000000
namespace Hw
open PySem L2 PyProof.Rows PySem.Spec
section
variable {X : Cx} {PE : XP} {μ : Mu} {ds : DS} {P : DP} {body : Expr} {scope : Scope} {f c' : Addr}
/-- the call of the lambda, where the def stands in the frames of its own call -/
theorem pe_actD {σ : L2.St} {G : Hp} {s : Shared} {pins : List (Addr × Obj)} {Ng : List Str} {x a : Str} {st : Stmt} {g : Addr} {prm : Str} {T0 : Addr} {t0 : Tok} {i0 : Int} {cdg pm ctv doc : Value} {params : Arguments} {k : Nat} {pn : List (Addr × Obj)} {xe : Value → Shared → Prop} {tb : TE} {E : XK} {W : WX} {p1 p2 : Pos} (I : Inv X pins σ G s) (L : LamD X.N X.env.scope scope prm)
    (hf : s.heap.get? f = some (dfObj (X.env.qual ++ "<lambda>") params body scope (cloFrom X.env.cells scope.names []) T0 doc pm c' ctv)) (ht0 : s.heap.get? T0 = some (PySem.W.kdv_tup [.int i0 t0])) (hfn : G f = none) (ht0n : G T0 = none) (hfr : f ∉ frs X.stack) (ht0r : T0 ∉ frs X.stack)
    (hbind : ∃ kk, bindArgs (PySem.W.kdv_fn "<lambda>" (X.env.qual ++ "<lambda>") params (.expr body) scope (cloFrom X.env.cells scope.names []) (.ref T0) doc pm (.ref c') ctv) ⟨[], []⟩ = seqItems? (.ref T0) >>= kk ∧ ∀ v, kk (some #[v]) = pure [(prm, v)]) (tk : Takes ((gotCx X Ng x st g cdg s G).tr pn xe) W) (hW : ∀ cls d σ' H', E cls d H' → W cls d σ' H') (hr : Room (k + 1) (gotCx X Ng x st g cdg s G).A)
    (hbody : ∀ (s2 : Shared) (H2 : Hp), L2.PE (LamX.lamCx X (gotCx X Ng x st g cdg s G).A (gotCx X Ng x st g cdg s G).stack s2 H2 E scope f c') body tb)
    (hN : Ng[0]? = some a) (hv : Vis (defScope st) a) (hdb : (a == ("__debug__" : Str)) = false) (hcd : (a == ("__classdict__" : Str)) = false) :
    L2.PE ((gotCx X Ng x st g cdg s G).tr pn xe) (.Call (.Name a p1) [] [] p2) (fun τ F Q => τ[0]? = some (some (.ref f)) ∧ F c' = some (LamX.CodeO c' (X.env.qual ++ "<lambda>")) ∧ tb σ F Q) := by
  refine ⟨fun pz t τ F Q J ⟨w1, w2, w3⟩ => wpAny_Call_Name_kw (thn ((pe_var (pos := p1) (i := 0) hN hv hdb hcd).run pz t τ F (fun v F' => v = .ref f ∧ F' = F) J ⟨.ref f, w1, rfl, rfl⟩) fun u t1 ⟨v, F1, J1, r1, ev, eF⟩ => ?_)⟩
  subst ev eF
  obtain rfl : u = Value.ref f := r1
  have at1 := J1.base.keep f _ hf hfn hfr (fun z => nomatch (show f ∈ ([] : List Addr) from z))
  refine PySem.W.callWith_F0 ⟨_, _, _, _, at1⟩ (wpAny_call (codeAny_mono (show codeAny (model X.prog X.w) (gotCx X Ng x st g cdg s G).A (.call (.ref f) ⟨[], []⟩) (CR (L2.CX X.prog X.w) (gotCx X Ng x st g cdg s G).stack X.prog X.w F1 t1 Q E) t1 from ?_) fun r t2 hq => ?_))
  · obtain ⟨⟨oc, vs, tt, hoc, hdc, hvc⟩, _, _⟩ := J1.hok c' _ w2
    have at2 := J1.base.keep T0 _ ht0 ht0n ht0r (fun z => nomatch (show T0 ∈ ([] : List Addr) from z))
    obtain ⟨kk, e1, e2⟩ := hbind
    refine PySem.W.kla_callFunE hr.depth at1 rfl L.co L.gen rfl ⟨c', oc, vs, tt, rfl, hoc, hdc, hvc⟩ ((BindsTo.of_defaults (fd := PySem.W.kdv_fn "<lambda>" (X.env.qual ++ "<lambda>") params (.expr body) scope (cloFrom X.env.cells scope.names []) (.ref T0) doc pm (.ref c') ctv) (binds := [(prm, .int i0 t0)]) rfl at2 rfl e1 (e2 _)) _ _ _ _ ?_)
    refine wpAny_newFunctionEnv L.noC (fun y hy => by obtain rfl := List.mem_singleton.mp hy; exact L.par) (fun g1 hns hsb => ⟨J1.nolimit.fresh _ hsb, ?_⟩) L.kind
    have up : ∀ b o, t1.heap.get? b = some o → g1.get? b = some o := fun b o e => hsb.extBut b o (Nat.ne_of_lt (Heap.lt_size e)) (Heap.get?_push_of_some _ e)
    have J2 := lamD_start (f := f) (c' := c') (tk := t1.toks + ([(prm, Value.int i0 t0)] : List (Str × Value)).length) (E := E) I L J1.env0 hr.hd J1.base hns up
    refine PySem.W.kla_codeExpr (wpAny_mono ((hbody t1 F1).run [] _ _ F1 Q J2 w3) (fun v t3 hq => ?_) fun e t3 hq => hq)
    obtain ⟨v3, F3, J3, r3, q3⟩ := hq
    exact ⟨v3, F3, J3.os, J3.bare, J3.base, J3.hok, r3, q3⟩
  · match r, hq with
    | .error e, hq => exact passes_call tk hW pz τ F1 t1 e t2 J1 hq
    | .ok (.ret u), hq => exact J1.after hq
theorem ex_actD {σ : L2.St} {G : Hp} {s : Shared} {pins : List (Addr × Obj)} {Ng : List Str} {x a : Str} {st : Stmt} {g : Addr} {prm : Str} {T0 : Addr} {t0 : Tok} {i0 : Int} {cdg pm ctv doc : Value} {params : Arguments} {k : Nat} (I : Inv X pins σ G s) (L : LamD X.N X.env.scope scope prm)
    (hf : s.heap.get? f = some (dfObj (X.env.qual ++ "<lambda>") params body scope (cloFrom X.env.cells scope.names []) T0 doc pm c' ctv)) (ht0 : s.heap.get? T0 = some (PySem.W.kdv_tup [.int i0 t0])) (hfn : G f = none) (ht0n : G T0 = none) (hfr : f ∉ frs X.stack) (ht0r : T0 ∉ frs X.stack) (hc : G c' = some (LamX.CodeO c' (X.env.qual ++ "<lambda>"))) (mc : μ c' = none)
    (hbind : ∃ kk, bindArgs (PySem.W.kdv_fn "<lambda>" (X.env.qual ++ "<lambda>") params (.expr body) scope (cloFrom X.env.cells scope.names []) (.ref T0) doc pm (.ref c') ctv) ⟨[], []⟩ = seqItems? (.ref T0) >>= kk ∧ ∀ v, kk (some #[v]) = pure [(prm, v)]) (hr : Room (k + 1) (gotCx X Ng x st g cdg s G).A) (hgu : X.A.guards = some []) (hd : DenS X.K μ G σ ds)
    (hN : Ng[0]? = some a) (hv : Vis (defScope st) a) (hdb : (a == ("__debug__" : Str)) = false) (hcd : (a == ("__classdict__" : Str)) = false) : Act X ds body scope (gotCx X Ng x st g cdg s G) f G (fun b => μ b = none) a k := by
  intro pn xe PE' P' ds' μ' p1 p2 hslot hbody
  refine ex_of (pe_actD (E := Ex0 ((gotCx X Ng x st g cdg s G).tr pn xe)) (tb := tLamB X.K (Ex0 ((gotCx X Ng x st g cdg s G).tr pn xe)) PE' μ' ds P') I L hf ht0 hfn ht0n hfr ht0r hbind takes_Wx (fun cls d σ' H' h => h σ') hr (fun s2 H2 => lamB_pe (hbody _ _ s2 H2 _ c' ⟨hr.deeper _, hgu⟩)) hN hv hdb hcd) fun σZ HZ Q ho hs kk => ?_
  · obtain ⟨v, e1, n1⟩ := hs.d.2 0 _ hslot
    obtain ⟨rfl, stp⟩ := n1.inv_fn
    have st : Stp μ G μ' HZ := fun b o h e n => stp b o h e n
    exact ⟨e1, (st _ _ mc hc LamX.codeO_ne).1, ho, hd.mono st, fun Ca dd H' fs vfs μ2 s2 h2 e2 n2 p2 σ' => hs.x Ca dd H' fs vfs μ2 σ' s2 h2 e2 n2 p2, fun v H' d μ2 s2 h2 n2 p2 => kk v H' d μ2 s2 h2 n2 p2⟩
/-- x(lambda prm=i0: body), x a def of one parameter a -/
theorem ex_lamcallD {Ng : List Str} {x a : Str} {st : Stmt} {g cd T : Addr} {fd : FuncData} {params : Arguments} {k : Nat} {p lpos pos : Pos} (F : Fun X.K x x st g fd) (hm : X.mg x = some (.ref g)) (hb : Binds X.K fd [a] []) (S : FnScope Ng [a] (defScope st)) (hg : Gl X x)
    (TB : LamX.TabB X.base X.mg cd T) (hcode : X.env.code = .ref cd) (tq : μ T = some (.tbl (X.env.qual ++ "<lambda>"))) (t1 : ∀ b q, μ b = some (.tbl q) → b = T) (hr : Rm (k + 2) X.A) {prm : Str} {p0 : Pos} {i0 : Int} {j0 : Nat} (L : LamD X.N X.env.scope scope prm) (hd : params.defaults = [.Constant (.int i0) j0 p0]) (hk0 : params.kw_defaults = [])
    (hbind : ∀ (q : Str) (cl : List (Str × Addr)) (T0 : Addr) (doc pm cv ctv : Value), ∃ kk, bindArgs (PySem.W.kdv_fn "<lambda>" q params (.expr body) scope cl (.ref T0) doc pm cv ctv) ⟨[], []⟩ = seqItems? (.ref T0) >>= kk ∧ ∀ v, kk (some #[v]) = pure [(prm, v)]) (hN : Ng[0]? = some a) (hv : Vis (defScope st) a)
    (h : ∀ (f : Addr) (G : Hp) (s : Shared) (cdg : Value), Rm (k + 1) (gotCx X Ng x st g cdg s G).A → Act X ds body scope (gotCx X Ng x st g cdg s G) f G (fun b => μ b = none) a k →
      SSX (gotCx X Ng x st g cdg s G) PE μ (some (.fn f G (fun b => μ b = none)) :: List.replicate (Ng.length - 1) none) (defBody st) { nx := fun _ μ' => P .non μ', rt := P })
    (hdb : (x == ("__debug__" : Str)) = false := by decide) (hda : (a == ("__debug__" : Str)) = false := by decide) (hca : (a == ("__classdict__" : Str)) = false := by decide) : EX X PE μ ds (.Call (.Name x p) [.Lambda params body scope lpos] [] pos) P := by
  refine ⟨⟨fun pins s σ H Q I ⟨ho, hs, kk⟩ => ?_⟩⟩
  refine wpAny_Call_Name_kw (ld_glob I hg hm ?_ hdb)
  refine PySem.W.callWith_K (h₀ := X.base) I.ok.mod.kin F.kp ?_ (by rfl) (by rfl)
  show wpAny _ _ (spliced ((false, eval (.Lambda params body scope lpos) X.env) :: backTo pos (starEach [] X.env))) _ _ s
  have tabs : LamX.TabS H T (X.env.qual ++ "<lambda>") := by
    obtain ⟨ps, e1, e2, e3⟩ := ho T _ tq
    refine ⟨ps, e1, e2, fun q cv hc => ?_⟩
    obtain ⟨c, h1, _, h3⟩ := e3 q cv hc
    exact ⟨c, h1, h3⟩
  refine Calls.spliced_cons (lamD_make I TB hcode rfl tabs hd hk0 (L.has I.ok) fun f c' T0 t0 pm ctv doc G s1 I1 eN T1 hf ht0 hfn ht0n hfr ht0r hco => ?_)
  refine Calls.spliced_nil ⟨I1.kIn, ?_⟩
  have stp : Stp μ H μ G := fun b o hb e n => ⟨eN b o e n, hb⟩
  -- the new code object is nobody's that changes
  have noC : ∀ c, G c = some (LamX.CodeO c (X.env.qual ++ "<lambda>")) → μ c = none := fun c ec => by
    cases e : μ c with
    | none => rfl
    | some m =>
      have q := ho c m e
      cases m with
      | lst xs => obtain ⟨vs, h1, _⟩ := q; rw [eN c _ h1 nofun] at ec; cases ec
      | ins C fs => obtain ⟨dx, vs, h1, _⟩ := q; rw [eN c _ h1 nofun] at ec; cases ec
      | dic kvs => obtain ⟨vs, h1, _⟩ := q; rw [eN c _ h1 nofun] at ec; cases ec
      | tbl qn =>
        obtain rfl := t1 c qn e
        obtain ⟨ps, h1, _⟩ := T1
        rw [h1] at ec; cases ec
  have hoG : Hold X.K μ G := fun b m e => by
    have q := ho b m e
    cases m with
    | lst xs => obtain ⟨vs, h1, h2⟩ := q; exact ⟨vs, eN b _ h1 nofun, h2.mono stp⟩
    | ins C fs => obtain ⟨dx, vs, h1, h2⟩ := q; exact ⟨dx, vs, eN b _ h1 nofun, h2.mono stp⟩
    | dic kvs => obtain ⟨vs, h1, h2⟩ := q; exact ⟨vs, eN b _ h1 nofun, h2.mono stp⟩
    | tbl qn =>
      obtain rfl := t1 b qn e
      rw [tq] at e
      cases e
      obtain ⟨ps, h1, h2, h3⟩ := T1
      refine ⟨ps, h1, h2, fun q cv hc => ?_⟩
      obtain ⟨c, e1, e2⟩ := h3 q cv hc
      exact ⟨c, e1, noC c e2, e2⟩
  have hsG := hs.mono stp
  obtain ⟨oc, od, kV, doc, pmm, an, cdv, ct, osl, rfl, lk, hcdv⟩ := F.ex
  refine wpAny_call (codeAny_mono (ret_of (Q := Q) I1 (LamX.run_ofS (N := Ng) (ps := [a]) (us := [.ref f]) (vs := [.ref f]) lk hcdv S hr.r I1.env0 (hb s1 [.ref f] I1.kIn rfl) (.cons rfl .nil) rfl fun hr' => ?_)) fun r s2 hq => ?_)
  · have act := ex_actD (cdg := cdv) (k := k) I1 L hf ht0 hfn ht0n hfr ht0r hco (noC _ hco) (hbind _ _ _ _ _ _ _) hr' hr.g hsG.d hN hv hda hca
    have q := h f G s1 cdv ⟨hr', hr.g⟩ act
    refine ⟨_, q.pss, hoG, ⟨?_, fun Ca dd H' fs vfs μ' σ' s2 h2 e2 n2 p2 => wx_leave (takes_of rfl rfl rfl rfl) fun σ3 => hsG.x Ca dd H' fs vfs μ' σ3 s2 h2 e2 n2 p2⟩, ?_⟩
    · have := DenS.start (N := Ng) (K := X.K) (μ := μ) (H := G) (vs := [.ref f]) (xs := [.fn f G (fun b => μ b = none)]) (.cons (.fn fun b o h e n => ⟨e, h⟩) .nil)
      exact this
    · exact ⟨fun σ' H' ds' μ' s1 h1 n1 p => kk _ H' _ μ' (stp.trans s1) h1 .non p, fun v H' d μ' s1 h1 n1 p => kk v H' d μ' (stp.trans s1) h1 n1 p, fun _ _ _ _ _ _ _ p => p.elim, fun _ _ _ _ _ _ _ p => p.elim⟩
  · match r, hq with
    | .error er, hq => exact hq
    | .ok (.ret u), hq => exact hq
end
end Hw
set_option Elab.async false
set_option linter.all false
set_option maxRecDepth 100000
set_option maxHeartbeats 1000000
namespace Hw
open PySem L2 PyProof.Rows PySem.Spec
/-! ### a def with defaults (their tuple at T0, its values dvs) -/
structure FunV (K : PySem.W.Frag) (x : Str) (st : Stmt) (f T0 : Addr) (dvs : List Value) (fd : FuncData) : Prop where
  ex : ∃ (oc : Value) (od : Option Addr) (kV doc pm : Value) (an : Option Addr) (cdv ct : Value) (osl : Array (Option Value)),
    fd = PySem.W.fnOf x x (defArgs st) (defBody st) (defScope st) (.ref T0) kV doc pm an cdv ct ∧ K.lookup f = some ⟨oc, od, .func fd, osl⟩ ∧ PySem.W.codeIn K cdv x = true
  kp : PySem.W.keepIn K (.ref f) = true
  tup : ∃ (o : Obj) (n : Nat), K.lookup T0 = some o ∧ o.data = .seq dvs.toArray n
structure FunAtV (K : PySem.W.Frag) (x : Str) (st : Stmt) (dd : List D) : Prop where
  ex : ∃ f T0 dvs fd, PySem.W.nsIn K mainGlobals x = some (some (.ref f)) ∧ FunV K x st f T0 dvs fd ∧ Vals (dd.map fv) dvs
theorem FunAtV.mk' {K : PySem.W.Frag} {x : Str} {st : Stmt} {dd : List D} {f T0 : Addr} {dvs : List Value} {oc : Value} {od an : Option Addr} {osl : Array (Option Value)} {kV doc pm cdv ct tc : Value} {td : Option Addr} {tn : Nat} {tsl : Array (Option Value)} (a : PySem.W.nsIn K mainGlobals x = some (some (.ref f)))
    (l : K.lookup f = some ⟨oc, od, .func (PySem.W.fnOf x x (defArgs st) (defBody st) (defScope st) (.ref T0) kV doc pm an cdv ct), osl⟩) (c : PySem.W.codeIn K cdv x = true) (k : PySem.W.keepIn K (.ref f) = true) (t : K.lookup T0 = some ⟨tc, td, .seq dvs.toArray tn, tsl⟩) (r : Vals (dd.map fv) dvs) : FunAtV K x st dd :=
  ⟨f, T0, dvs, _, a, ⟨⟨oc, od, kV, doc, pm, an, cdv, ct, osl, rfl, l, c⟩, k, _, tn, t, rfl⟩, r⟩
section
variable {P : Program} {w : World} {K : PySem.W.Frag} {mg : Str → Option Value} {base : Heap}
theorem fn_okV {x : Str} {st : Stmt} {f T0 : Addr} {dvs : List Value} {fd : FuncData} {N ps : List Str} {k : Nat} {C : CT} (F : FunV K x st f T0 dvs fd) (S : FnScope N ps (defScope st)) (len : ∀ xs μ R RE, C xs μ R RE → xs.length = ps.length)
    (hbody : ∀ (xs : List D) (μ : Mu) (R : DP) (PE : XP) (cdv : Value) (A : Around) (outer : List Env) (s : Shared) (H : Hp) (E : XK), Rm k (bodyCx P w K mg base N x st f cdv A outer s H E).A → C xs μ R PE →
      SSX (bodyCx P w K mg base N x st f cdv A outer s H E) PE μ (xs.map some ++ List.replicate (N.length - xs.length) none) (defBody st) { nx := fun _ μ' => R .non μ', rt := R }) :
    FnG P w K mg base (k + 1) f fd ps C := by
  refine ⟨len, fun A outer s H args us vs Q E hr e0 hb r h => ?_⟩
  have hl : vs.length = ps.length := by
    obtain ⟨μ, xs, R, PE, ho, n, c, _⟩ := h
    rw [n.length]
    exact len xs μ R PE c
  obtain ⟨oc, od, kV, doc, pm, an, cdv, ct, osl, rfl, lk, hcd⟩ := F.ex
  refine LamX.run_ofS lk hcd S hr.r e0 hb r hl fun hr' => ?_
  obtain ⟨μ, xs, R, PE, ho, n, c, kR, kE⟩ := h
  have q := hbody xs μ R PE cdv A outer s H E ⟨hr', hr.g⟩ c
  refine ⟨_, q.pss, ho, ⟨DenS.start n, fun Ca dd H' fs vfs μ' σ s2 h2 e2 n2 p2 => wx_leave (takes_of rfl rfl rfl rfl) (kE Ca dd H' fs vfs μ' s2 h2 e2 n2 p2)⟩, ?_⟩
  exact ⟨fun σ' H' ds' μ' s1 h1 n1 p => kR _ H' _ μ' s1 h1 .non p, fun v H' d μ' s1 h1 n1 p => kR v H' d μ' s1 h1 n1 p, fun _ _ _ _ _ _ _ p => p.elim, fun _ _ _ _ _ _ _ p => p.elim⟩
/-- such a def called: n values by place, the keywords ks; the places idx of them all, then the defaults behind the first j -/
structure CalV (P : Program) (w : World) (K : PySem.W.Frag) (mg : Str → Option Value) (base : Heap) (x : Str) (ps : List Str) (k : Nat) (C : CT) (n : Nat) (ks : List Str) (idx : List Nat) (dd : List D) : Prop where
  ex : ∃ f fd dvs, FnG P w K mg base k f fd ps C ∧ mg x = some (.ref f) ∧ PySem.W.keepIn K (.ref f) = true ∧ Vals (dd.map fv) dvs ∧ ∀ (s : Shared) (us ws : List Value), K.In s.heap → us.length = n → ws.length = ks.length → BindsTo s fd ⟨us, ks.zip ws⟩ (ps.zip (pick idx (us ++ ws) ++ dvs))
theorem calV_of {x : Str} {st : Stmt} {ps : List Str} {k : Nat} {C : CT} {dd : List D} {n : Nat} {ks : List Str} {idx : List Nat} (j : Nat) (T : Tb K mg base) (F : FunAtV K x st dd) (h : ∀ f T0 dvs fd, FunV K x st f T0 dvs fd → FnG P w K mg base k f fd ps C)
    (hb : ∀ (T0 : Addr) (kV doc pm : Value) (an : Option Addr) (cdv ct : Value) (us ws its : List Value), us.length = n → ws.length = ks.length → its.length = dd.length → ∃ kk, bindArgs (PySem.W.fnOf x x (defArgs st) (defBody st) (defScope st) (.ref T0) kV doc pm an cdv ct) ⟨us, ks.zip ws⟩ = seqItems? (.ref T0) >>= kk ∧ kk (some its.toArray) = pure (ps.zip (pick idx (us ++ ws) ++ its.drop j))) :
    CalV P w K mg base x ps k C n ks idx (dd.drop j) := by
  obtain ⟨f, T0, dvs, fd, a, F, r⟩ := F.ex
  have hl : dvs.length = dd.length := by rw [← r.length, List.length_map]
  refine ⟨f, fd, dvs.drop j, h f T0 dvs fd F, T.som a, F.kp, by rw [List.map_drop]; exact r.drop j, fun s us ws X h1 h2 => ?_⟩
  obtain ⟨oc, od, kV, doc, pm, an, cdv, ct, osl, e, _, _⟩ := F.ex
  subst e
  obtain ⟨o, m, lT, oT⟩ := F.tup
  obtain ⟨kk, e1, e2⟩ := hb T0 kV doc pm an cdv ct us ws dvs h1 h2 hl
  exact .of_defaults rfl (X _ _ lT) oT e1 e2
end
section
variable {X : Cx} {PE : XP} {e : Expr} {es : List Expr} {μ : Mu} {ds : DS} {P : DP} {pos : Pos}
theorem DenAll.fvs {K : PySem.W.Frag} {H : Hp} : ∀ {dd : List D}, dd.all flatD = true → DenAll K μ H (dd.map fv) dd
  | [], _ => .nil
  | d :: dd, h => by
    rw [List.all_cons, Bool.and_eq_true] at h
    refine .cons ?_ (DenAll.fvs h.2)
    cases d <;> first | exact .non | exact .bl _ | exact .int _ | exact .str _ | cases h.1
theorem run_v {pins : List (Addr × Obj)} {σ : L2.St} {H : Hp} {s : Shared} {Q : VK} {k : Nat} {f : Addr} {fd : FuncData} {ps : List Str} {C : CT} {args : Args} {zs : List Value} {vs : List V}
    (F : FnG X.prog X.w X.K X.mg X.base k f fd ps C) (hr : Rm k X.A) (b : BindsTo s fd args (ps.zip zs)) (I : Inv X pins σ H s) (r : Vals vs zs) (h : spD X.K C vs H Q (Ex0 X)) : wpAny (model X.prog X.w) X.A (call (.ref f) args.pos args.kw) (EP X pins σ Q) X.xe s := by
  refine wpAny_call (codeAny_mono (ret_of I (F.run X.A X.stack s H args zs vs Q (Ex0 X) hr I.env0 b r h)) fun r s' q => ?_)
  match r, q with
  | .error er, q => exact q
  | .ok (.ret _), q => exact q
/-- f(e, ..), the defaults dd fill up -/
theorem ex_callV {x : Str} {ps : List Str} {k n : Nat} {C : CT} {idx : List Nat} {dd : List D} {p : Pos} (c : CalV X.prog X.w X.K X.mg X.base x ps k C n [] idx dd) (hr : Rm k X.A) (hf : dd.all flatD = true) (h : AX X PE μ ds (e :: es) fun xs μ1 => xs.length = n ∧ C (pick idx xs ++ dd) μ1 P PE) (hg : Gl X x)
    (hdb : (x == ("__debug__" : Str)) = false := by decide) (he : starEach (e :: es) X.env = (false, eval e X.env) :: starEach es X.env := by rfl) (hpl : (backTo pos (starEach es X.env)).any (·.1) = false := by rfl) : EX X PE μ ds (.Call (.Name x p) (e :: es) [] pos) P := by
  obtain ⟨f, fd, dvs, F, hm, hk, rd, hb⟩ := c.ex
  have pe : L2.PE X (.Call (.Name x p) (e :: es) [] pos) (fun σ H Q => tUA X (e :: es) σ H fun vs H1 => vs.length = n ∧ spD X.K C (pick idx vs ++ dd.map fv) H1 Q (Ex0 X)) := ⟨fun pins s σ H Q I q => by
    refine wpAny_Call_Name_kw (ld_glob I hg hm ?_ hdb)
    refine PySem.W.callWith_K (h₀ := X.base) I.ok.mod.kin hk (thn (pa_U.run pos pins s σ H _ I q) fun us s1 ⟨vs, H1, I1, r, hl, q⟩ => ⟨I1.kIn, ?_⟩) he hpl
    have b := hb s1 us [] I1.kIn (by rw [← r.length]; exact hl) rfl
    rw [List.append_nil] at b
    exact run_v (args := ⟨us, []⟩) F hr b I1 ((Vals.pick r idx).append rd) q⟩
  refine ex_of pe fun σ H Q ho hs kk => h.at ho hs fun vs H1 xs μ1 s1 h1 b1 n1 ⟨hl, q⟩ => ⟨by rw [n1.length]; exact hl, ?_⟩
  exact ⟨μ1, _, P, PE, h1, (n1.pick idx).append (DenAll.fvs hf), q, fun v H' d μ' s2 h2 n2 p2 => kk v H' d μ' (s1.trans s2) h2 n2 p2, fun Ca dd H' fs vfs μ' s2 h2 e2 n2 p2 σ' => b1.x Ca dd H' fs vfs μ' σ' s2 h2 e2 n2 p2⟩
/-- f(a=.., ..) -/
theorem ex_callVK {x : Str} {ps ks : List Str} {k : Nat} {C : CT} {idx : List Nat} {dd : List D} {p : Pos} {kws : List Keyword} (c : CalV X.prog X.w X.K X.mg X.base x ps k C 0 ks idx dd) (hr : Rm k X.A) (hf : dd.all flatD = true) (h : KX X PE μ ds kws fun zs μ1 => zs.length = ks.length ∧ C (pick idx zs ++ dd) μ1 P PE) (hg : Gl X x)
    (hdb : (x == ("__debug__" : Str)) = false := by decide) (hall : (backToKw pos (keywordEach kws X.env)).all (·.1.isSome) = true := by rfl)
    (hks : (backToKw pos (keywordEach kws X.env)).filterMap (·.1) = ks := by rfl) (hpl : ((backTo pos (starEach [] X.env)).any (·.1) || (backToKw pos (keywordEach kws X.env)).any (·.1.isNone)) = false := by rfl) : EX X PE μ ds (.Call (.Name x p) [] kws pos) P := by
  obtain ⟨f, fd, dvs, F, hm, hk, rd, hb⟩ := c.ex
  have pe : L2.PE X (.Call (.Name x p) [] kws pos) (fun σ H Q => tUK X kws σ H fun zs H1 => zs.length = ks.length ∧ spD X.K C (pick idx zs ++ dd.map fv) H1 Q (Ex0 X)) := ⟨fun pins s σ H Q I q => by
    refine wpAny_Call_Name_kw (ld_glob I hg hm ?_ hdb)
    refine PySem.W.callWith_KW0 (h₀ := X.base) I.ok.mod.kin hk hall (thn (pk_U.run pos pins s σ H _ I q) fun ws s1 ⟨zs, H1, I1, rz, hl, q⟩ => ⟨I1.kIn, ?_⟩) hpl
    rw [hks]
    have b := hb s1 [] ws I1.kIn rfl (by rw [← rz.length]; exact hl)
    exact run_v (args := ⟨[], ks.zip ws⟩) F hr b I1 ((Vals.pick rz idx).append rd) q⟩
  refine ex_of pe fun σ H Q ho hs kk => h.at ho hs fun vs H1 xs μ1 s1 h1 b1 n1 ⟨hl, q⟩ => ⟨by rw [n1.length]; exact hl, ?_⟩
  exact ⟨μ1, _, P, PE, h1, (n1.pick idx).append (DenAll.fvs hf), q, fun v H' d μ' s2 h2 n2 p2 => kk v H' d μ' (s1.trans s2) h2 n2 p2, fun Ca dd H' fs vfs μ' s2 h2 e2 n2 p2 σ' => b1.x Ca dd H' fs vfs μ' σ' s2 h2 e2 n2 p2⟩
end
end Hw
set_option Elab.async false
set_option linter.all false
set_option maxRecDepth 100000
set_option maxHeartbeats 1000000
namespace Hw
open PySem L2 PyProof.Rows PySem.Spec
/-! ### == and != of plain data -/
def eqOk (x y : D) (P : Bool → Prop) : Prop := ∃ d e, toPy x = some d ∧ toPy y = some e ∧ SeqAt.shaped d = true ∧ SeqAt.shaped e = true ∧ P (PyData.eqv d e)
section
variable {X : Cx} {PE : XP} {a b : Expr} {μ : Mu} {ds : DS} {P : DP} {PT : Bool → Mu → Prop} {pos : Pos}
theorem ex_eqD (h : EX X PE μ ds a fun x μ1 => EX X PE μ1 ds b fun y μ2 => eqOk x y fun z => P (.bl z) μ2) (hu : X.A.units + 64 < cLine) (hm : behindInMarks .Eq b = false) : EX X PE μ ds (.Compare a [.Eq] [b] pos) P :=
  ex_of (pe_cmpR (op_eqD hu) pe_U pe_U hm) fun σ H Q ho hs k => h.at ho hs fun v H1 x μ1 s1 h1 b1 n1 p => p.at h1 b1 fun u H2 y μ2 s2 h2 b2 n2 ⟨d, e, e1, e2, z1, z2, q⟩ =>
    ⟨d, e, (n1.mono s2).dp e1, n2.dp e2, z1, z2, k _ H2 _ μ2 (s1.trans s2) h2 (.bl _) q⟩
theorem tx_eqD (h : EX X PE μ ds a fun x μ1 => EX X PE μ1 ds b fun y μ2 => eqOk x y fun z => PT z μ2) (hu : X.A.units + 64 < cLine) (hm : behindInMarks .Eq b = false) : TX X PE μ ds (.Compare a [.Eq] [b] pos) PT :=
  tx_of (pt_cmpR (op_eqD hu) pe_U pe_U hm) fun σ H Q ho hs k => h.at ho hs fun v H1 x μ1 s1 h1 b1 n1 p => p.at h1 b1 fun u H2 y μ2 s2 h2 b2 n2 ⟨d, e, e1, e2, z1, z2, q⟩ =>
    ⟨d, e, (n1.mono s2).dp e1, n2.dp e2, z1, z2, _, rfl, k _ H2 μ2 (s1.trans s2) h2 q⟩
end
end Hw
set_option Elab.async false
set_option linter.all false
set_option maxRecDepth 100000
set_option maxHeartbeats 1000000
namespace Hw
open PySem L2 PyProof.Rows
/-! ### data that repr shows: ints below 10 ^ 570 -/
mutual
def shD : D → Prop
  | .non => True
  | .bl _ => True
  | .int i => i.natAbs < 10 ^ 570
  | .str s => ∀ c ∈ s.cps.toList, c < 16 ^ 8
  | .tup xs => shAll xs
  | .lst xs => shAll xs
  | _ => False
def shAll : List D → Prop
  | [] => True
  | x :: xs => shD x ∧ shAll xs
end
mutual
def shL : D → Nat
  | .non => 4
  | .bl _ => 5
  | .int _ => 572
  | .str s => 10 * s.cps.size + 2
  | .tup xs => shLs xs + 3
  | .lst xs => shLs xs + 3
  | _ => 0
def shLs : List D → Nat
  | [] => 0
  | x :: xs => shL x + 2 + shLs xs
end
mutual
def shN : D → Nat
  | .tup xs => shNs xs + 1
  | .lst xs => shNs xs + 1
  | _ => 0
def shNs : List D → Nat
  | [] => 0
  | x :: xs => max (shN x) (shNs xs)
end
theorem log_600 {i : Int} (h : i.natAbs < 10 ^ 570) : i.natAbs.log2 < 1920 := by
  by_cases e : i.natAbs = 0
  · rw [e]; decide
  · exact (Nat.log2_lt e).mpr (Nat.lt_of_lt_of_le h (by decide))
theorem int_len {i : Int} (h : i.natAbs < 10 ^ 570) : (PyData.shown (.int i)).length ≤ 572 := by
  show (Str.ofString (toString i)).length ≤ 572
  rw [PySem.ofString_length]
  exact int_text_length_le10 (k := 571) (by decide) (Nat.lt_of_lt_of_le h (Nat.pow_le_pow_right (by decide) (by decide)))
mutual
theorem shown_len : ∀ {d : D} {p : PyData}, toPy d = some p → shD d → p.shown.length ≤ shL d ∧ p.showable = true ∧ p.depth = shN d
  | .non, _, e, _ => by simp only [toPy, Option.some.injEq] at e; subst e; exact ⟨Nat.le_refl _, rfl, rfl⟩
  | .bl b, _, e, _ => by simp only [toPy, Option.some.injEq] at e; subst e; cases b <;> exact ⟨by decide, rfl, rfl⟩
  | .int i, _, e, h => by
    simp only [toPy, Option.some.injEq] at e; subst e
    simp only [shD] at h
    exact ⟨int_len h, by simp only [PyData.showable, decide_eq_true_eq]; exact log_600 h, rfl⟩
  | .str s, _, e, h => by
    simp only [toPy, Option.some.injEq] at e; subst e
    simp only [shD] at h
    have q := StrLaws.reprText_len s h
    have e2 : s.length = s.cps.size := rfl
    refine ⟨?_, rfl, rfl⟩
    simp only [PyData.shown, shL]
    omega
  | .tup xs, _, e, h => by
    simp only [toPy] at e
    obtain ⟨ps, e1, rfl⟩ := Option.map_eq_some_iff.mp e
    simp only [shD] at h
    obtain ⟨q1, q2, q3⟩ := shown_lens e1 h
    have h2 := tupleText_len_le (PyData.shownAll ps)
    have h3 := PyData.shownAll_length ps
    refine ⟨?_, by simpa only [PyData.showable] using q2, by simp only [PyData.depth, shN, q3]⟩
    simp only [PyData.shown, shL]
    omega
  | .lst xs, _, e, h => by
    simp only [toPy] at e
    obtain ⟨ps, e1, rfl⟩ := Option.map_eq_some_iff.mp e
    simp only [shD] at h
    obtain ⟨q1, q2, q3⟩ := shown_lens e1 h
    have h2 := listText_len_le (PyData.shownAll ps)
    have h3 := PyData.shownAll_length ps
    refine ⟨?_, by simpa only [PyData.showable] using q2, by simp only [PyData.depth, shN, q3]⟩
    simp only [PyData.shown, shL]
    omega
  | .ty n, _, e, _ => by simp [toPy] at e
  | .ref a, _, e, _ => by simp [toPy] at e
  | .rol xs, _, e, _ => by simp [toPy] at e
  | .obj C fs, _, e, _ => by simp [toPy] at e
  | .dic kvs, _, e, _ => by simp [toPy] at e
  | .exc a b c fs, _, e, _ => by simp [toPy] at e
  | .fn a G Im, _, e, _ => by simp [toPy] at e
theorem shown_lens : ∀ {ds : List D} {ps : List PyData}, toPyAll ds = some ps → shAll ds → ((PyData.shownAll ps).map (·.length)).sum + 2 * ps.length ≤ shLs ds ∧ PyData.showableAll ps = true ∧ PyData.depthAll ps = shNs ds
  | [], _, e, _ => by simp only [toPyAll, Option.some.injEq] at e; subst e; exact ⟨Nat.le_refl _, rfl, rfl⟩
  | x :: xs, _, e, h => by
    simp only [toPyAll] at e
    simp only [shAll] at h
    split at e
    · next d ds e1 e2 =>
      cases e
      obtain ⟨a1, a2, a3⟩ := shown_len e1 h.1
      obtain ⟨b1, b2, b3⟩ := shown_lens e2 h.2
      refine ⟨?_, by simp only [PyData.showableAll, a2, b2]; rfl, by simp only [PyData.depthAll, shNs, a3, b3]⟩
      simp only [PyData.shownAll, List.map_cons, List.sum_cons, List.length_cons, shLs]
      omega
    · cases e
end
mutual
theorem sh_toPy : ∀ {d : D}, shD d → (toPy d).isSome = true
  | .non, _ => by simp only [toPy]; rfl
  | .bl b, _ => by simp only [toPy]; rfl
  | .int i, _ => by simp only [toPy]; rfl
  | .str s, _ => by simp only [toPy]; rfl
  | .tup xs, h => by
    simp only [shD] at h
    simp only [toPy, Option.isSome_map]
    exact sh_toPys h
  | .lst xs, h => by
    simp only [shD] at h
    simp only [toPy, Option.isSome_map]
    exact sh_toPys h
  | .ty n, h => by simp [shD] at h
  | .ref a, h => by simp [shD] at h
  | .rol xs, h => by simp [shD] at h
  | .obj C fs, h => by simp [shD] at h
  | .dic kvs, h => by simp [shD] at h
  | .exc a b c fs, h => by simp [shD] at h
  | .fn a G Im, h => by simp [shD] at h
theorem sh_toPys : ∀ {ds : List D}, shAll ds → (toPyAll ds).isSome = true
  | [], _ => by simp only [toPyAll]; rfl
  | x :: xs, h => by
    simp only [shAll] at h
    obtain ⟨p, e1⟩ := Option.isSome_iff_exists.mp (sh_toPy h.1)
    obtain ⟨ps, e2⟩ := Option.isSome_iff_exists.mp (sh_toPys h.2)
    simp only [toPyAll, e1, e2]; rfl
end
theorem shAll_iff : ∀ {xs : List D}, shAll xs ↔ ∀ x ∈ xs, shD x
  | [] => by simp [shAll]
  | x :: xs => by simp [shAll, shAll_iff (xs := xs)]
theorem sh_lit {s : Str} (h : (s.cps.toList.all fun c => decide (c < 16 ^ 8)) = true) : shD (.str s) := by
  simp only [shD]
  exact fun c hc => of_decide_eq_true (List.all_eq_true.mp h c hc)
theorem sh_int {i : Int} (h : i.natAbs < 10 ^ 570) : shD (.int i) := h
theorem sh_tup {xs : List D} (h : shAll xs) : shD (.tup xs) := h
theorem sh_lst {xs : List D} (h : shAll xs) : shD (.lst xs) := h
theorem sh_nil : shAll [] := trivial
theorem sh_cons {x : D} {xs : List D} (h : shD x) (t : shAll xs) : shAll (x :: xs) := ⟨h, t⟩
theorem sh_bl {b : Bool} : shD (.bl b) := trivial
theorem sh_non : shD .non := trivial
/-- both texts of equal data are equal -/
theorem same_v {x y : D} {μ : Mu} {R : DP} {PE : XP} (e : y = x) (hs : shD x) (hl : shL x ≤ 16000000) (hd : shN x ≤ 60) (k : R (.bl true) μ) : sameC [x, y] μ R PE := by
  subst e
  obtain ⟨p, e⟩ := Option.isSome_iff_exists.mp (sh_toPy hs)
  obtain ⟨h1, h2, h3⟩ := shown_len e hs
  exact same_i e e h2 (by rw [h3]; exact hd) (Nat.le_trans h1 (Nat.le_trans hl (by decide))) k
/-- .. with lists of the store in the first -/
theorem same_vM {x y : D} {μ : Mu} {R : DP} {PE : XP} (e : toPyM μ x = toPyM μ y) (hs : shD y) (hl : shL y ≤ 16000000) (hd : shN y ≤ 60) (k : R (.bl true) μ) : sameC [x, y] μ R PE := by
  obtain ⟨p, ep⟩ := Option.isSome_iff_exists.mp (sh_toPy hs)
  obtain ⟨h1, h2, h3⟩ := shown_len ep hs
  have e2 := toPyM_of (μ := μ) ep
  exact same_m (e.trans e2) e2 h2 (by rw [h3]; exact hd) (Nat.le_trans h1 (Nat.le_trans hl (by decide))) k
theorem eq_ii {a b c d : Int} {P : Bool → Prop} (k : P (decide (a = c) && decide (b = d))) : eqOk (.tup [.int a, .int b]) (.tup [.int c, .int d]) P := by
  refine ⟨.tuple [.int a, .int b], .tuple [.int c, .int d], by simp [toPy, toPyAll], by simp [toPy, toPyAll], rfl, rfl, ?_⟩
  have e : PyData.eqv (.tuple [.int a, .int b]) (.tuple [.int c, .int d]) = (decide (a = c) && decide (b = d)) := by
    simp only [PyData.eqv, PyData.eqvAll, Bool.and_true]
    rfl
  rw [e]; exact k
end Hw
set_option Elab.async false
set_option linter.all false
set_option maxRecDepth 100000
set_option maxHeartbeats 1000000
namespace Hw
open PySem L2 PyProof.Rows
/-! ### rules that ask nothing of the syntax: truth, ==, what is walked -/
/-- two ways of a truth -/
def wIf (z : Bool) (A B : Prop) : Prop := (z = true → A) ∧ (z = false → B)
theorem wIf_t {A B : Prop} : wIf true A B ↔ A := by simp [wIf]
theorem wIf_f {A B : Prop} : wIf false A B ↔ B := by simp [wIf]
/-- the truth of data -/
def truK : D → (Bool → Prop) → Prop
  | .non, K => K false
  | .bl b, K => K b
  | .int i, K => K (i != 0)
  | .lst xs, K => K (!xs.isEmpty)
  | .tup xs, K => K (!xs.isEmpty)
  | _, _ => False
section
variable {X : Cx} {PE : XP} {e a b c : Expr} {es : List Expr} {μ : Mu} {ds : DS} {P : DP} {pos : Pos} {PT : Bool → Mu → Prop}
theorem Den.tru {K : PySem.W.Frag} {H : Hp} {v : V} {d : D} {Q : Bool → Prop} (n : Den K μ H v d) (h : truK d Q) : ∃ k, TruV K v H k ∧ Q k := by
  cases n with
  | non => exact ⟨_, rfl, h⟩
  | bl b => exact ⟨_, rfl, h⟩
  | int i => exact ⟨_, rfl, h⟩
  | str s => exact h.elim
  | ty n => exact h.elim
  | ref a => exact h.elim
  | tup q r t => exact ⟨_, .inr (.inl ⟨_, .inl (.inl r), rfl⟩), by rw [t.isEmpty]; exact h⟩
  | tupK r t => exact ⟨_, .inr (.inl ⟨_, r H, rfl⟩), by rw [t.isEmpty]; exact h⟩
  | lst q r t => exact ⟨_, .inl ⟨_, SqL.of r, rfl⟩, by rw [t.isEmpty]; exact h⟩
  | rol q r t => exact h.elim
  | rolK r t => exact h.elim
  | obj q r t => exact h.elim
  | exc q r t => exact h.elim
  | fn r => exact h.elim
  | dic q r t => exact h.elim
theorem ex_notK (h : EX X PE μ ds a fun x μ1 => truK x fun z => P (.bl (!z)) μ1) : EX X PE μ ds (.UnaryOp .Not a pos) P :=
  ex_of (pe_notT pe_U) fun σ H Q ho hs k => h.at ho hs fun v H1 x μ1 s1 h1 b1 n1 p => by
    obtain ⟨z, e, q⟩ := n1.tru p
    exact ⟨z, e, k _ H1 _ μ1 s1 h1 (.bl _) q⟩
theorem ex_andK {l : List Expr} (h : EX X PE μ ds a fun x μ1 => truK x fun z => wIf z (EX X PE μ1 ds (.BoolOp .And (b :: l) pos) P) (P x μ1)) : EX X PE μ ds (.BoolOp .And (a :: b :: l) pos) P :=
  ex_of (pe_andT pe_U pe_U) fun σ H Q ho hs k => h.at ho hs fun v H1 x μ1 s1 h1 b1 n1 p => by
    obtain ⟨z, e, q⟩ := n1.tru p
    refine ⟨z, e, ?_⟩
    cases z with
    | true => exact iteT ((q.1 rfl).at h1 b1 fun z2 H2 d2 μ2 s2 h2 _ n2 p2 => k z2 H2 d2 μ2 (s1.trans s2) h2 n2 p2)
    | false => exact iteF (k _ H1 _ μ1 s1 h1 n1 (q.2 rfl))
theorem ex_orK {l : List Expr} (h : EX X PE μ ds a fun x μ1 => truK x fun z => wIf z (P x μ1) (EX X PE μ1 ds (.BoolOp .Or (b :: l) pos) P)) : EX X PE μ ds (.BoolOp .Or (a :: b :: l) pos) P :=
  ex_of (pe_orT pe_U pe_U) fun σ H Q ho hs k => h.at ho hs fun v H1 x μ1 s1 h1 b1 n1 p => by
    obtain ⟨z, e, q⟩ := n1.tru p
    refine ⟨z, e, ?_⟩
    cases z with
    | true => exact iteT (k _ H1 _ μ1 s1 h1 n1 (q.1 rfl))
    | false => exact iteF ((q.2 rfl).at h1 b1 fun z2 H2 d2 μ2 s2 h2 _ n2 p2 => k z2 H2 d2 μ2 (s1.trans s2) h2 n2 p2)
theorem tx_valK (h : EX X PE μ ds a fun x μ1 => truK x fun z => PT z μ1) (he : ∀ whole, isTrue a X.env whole = (do let v ← whole; standAt a.pos; holding [v] (truthy v))) : TX X PE μ ds a PT :=
  tx_of (pt_truth pe_U he) fun σ H Q ho hs k => h.at ho hs fun v H1 x μ1 s1 h1 b1 n1 p => by
    obtain ⟨z, e, q⟩ := n1.tru p
    exact ⟨z, e, k z H1 μ1 s1 h1 q⟩
/-! ### == of data -/
/-- Python's == on data -/
def eqvD (x y : D) : Bool := match toPy x, toPy y with
  | some d, some e => PyData.eqv d e
  | _, _ => false
/-- data that == compares -/
def dataD (x : D) : Bool := match toPy x with
  | some d => SeqAt.shaped d
  | none => false
/-- flat data that == compares by itself -/
def scal2 (x y : D) : Bool := flatD x && (flatD y && scal (fv x) (fv y))
/-- what a op b gives, as a truth -/
def cmpW : CmpOp → D → D → (Bool → Prop) → Prop
  | .Eq, x, y, P => match scal2 x y with
    | true => P (decide (fv x = fv y))
    | false => (dataD x = true ∧ dataD y = true) ∧ P (eqvD x y)
  | .NotEq, x, y, P => match scal2 x y with
    | true => P (!decide (fv x = fv y))
    | false => (dataD x = true ∧ dataD y = true) ∧ P (!eqvD x y)
  | op, x, y, P => cmpOk op x y P
theorem scal2_iff {x y : D} (h : scal2 x y = true) : scal (fv x) (fv y) = true ∧ flatD x = true ∧ flatD y = true := by
  unfold scal2 at h
  simp only [Bool.and_eq_true] at h
  exact ⟨h.2.2, h.1, h.2.1⟩
theorem data_py {x : D} (h : dataD x = true) : ∃ d, toPy x = some d ∧ SeqAt.shaped d = true := by
  unfold dataD at h
  split at h
  · exact ⟨_, by assumption, h⟩
  · cases h
theorem op_cmpW {op : CmpOp} (hu : X.A.units + 64 < cLine) : OpR X (compareOp op) (rC2 X.K (cmpW op)) := by
  intro pins s σ H x y v u Q I rx ry h
  obtain ⟨μ, dx, dy, R, ho, nx, ny, ok, k⟩ := h
  unfold cmpW at ok
  split at ok
  · split at ok
    · next h0 =>
      obtain ⟨z1, z2, z3⟩ := scal2_iff h0
      exact op_cmp (op := .Eq) pins s σ H x y v u Q I rx ry ⟨μ, dx, dy, R, ho, nx, ny, ⟨z1, z2, z3, ok⟩, k⟩
    · obtain ⟨⟨h1, h2⟩, q⟩ := ok
      obtain ⟨d, e1, s1⟩ := data_py h1
      obtain ⟨e, e2, s2⟩ := data_py h2
      have z : eqvD dx dy = PyData.eqv d e := by simp only [eqvD, e1, e2]
      exact op_eqD hu pins s σ H x y v u Q I rx ry ⟨d, e, nx.dp e1, ny.dp e2, s1, s2, k _ (by rw [← z]; exact q)⟩
  · split at ok
    · next h0 =>
      obtain ⟨z1, z2, z3⟩ := scal2_iff h0
      exact op_cmp (op := .NotEq) pins s σ H x y v u Q I rx ry ⟨μ, dx, dy, R, ho, nx, ny, ⟨z1, z2, z3, ok⟩, k⟩
    · obtain ⟨⟨h1, h2⟩, q⟩ := ok
      obtain ⟨d, e1, s1⟩ := data_py h1
      obtain ⟨e, e2, s2⟩ := data_py h2
      have z : eqvD dx dy = PyData.eqv d e := by simp only [eqvD, e1, e2]
      exact op_neD hu pins s σ H x y v u Q I rx ry ⟨d, e, nx.dp e1, ny.dp e2, s1, s2, k _ (by rw [← z]; exact q)⟩
  · exact op_cmp pins s σ H x y v u Q I rx ry ⟨μ, dx, dy, R, ho, nx, ny, ok, k⟩
theorem ex_cmpW {op : CmpOp} (hu : X.A.units + 64 < cLine) (h : EX X PE μ ds a fun x μ1 => EX X PE μ1 ds b fun y μ2 => cmpW op x y fun z => P (.bl z) μ2) (hm : behindInMarks op b = false) : EX X PE μ ds (.Compare a [op] [b] pos) P :=
  ex_of (pe_cmpR (op_cmpW hu) pe_U pe_U hm) fun σ H Q ho hs k => h.at ho hs fun v H1 x μ1 s1 h1 b1 n1 p => p.at h1 b1 fun u H2 y μ2 s2 h2 b2 n2 q =>
    ⟨μ2, x, y, _, h2, n1.mono s2, n2, q, fun w r => k _ H2 _ μ2 (s1.trans s2) h2 (.bl _) r⟩
theorem tx_cmpW {op : CmpOp} (hu : X.A.units + 64 < cLine) (h : EX X PE μ ds a fun x μ1 => EX X PE μ1 ds b fun y μ2 => cmpW op x y fun z => PT z μ2) (hm : behindInMarks op b = false) : TX X PE μ ds (.Compare a [op] [b] pos) PT :=
  tx_of (pt_cmpR (op_cmpW hu) pe_U pe_U hm) fun σ H Q ho hs k => h.at ho hs fun v H1 x μ1 s1 h1 b1 n1 p => p.at h1 b1 fun u H2 y μ2 s2 h2 b2 n2 q =>
    ⟨μ2, x, y, _, h2, n1.mono s2, n2, q, fun w r => ⟨w, rfl, k _ H2 μ2 (s1.trans s2) h2 r⟩⟩
/-- a op b op' c -/
theorem tx_chainW {op op' : CmpOp} (hu : X.A.units + 64 < cLine) (h : EX X PE μ ds a fun x μ1 => EX X PE μ1 ds b fun y μ2 => cmpW op x y fun z => wIf z (EX X PE μ2 ds c fun w μ3 => cmpW op' y w fun z2 => PT z2 μ3) (PT false μ2))
    (hm : lastMarks [op, op'] [b, c] = false) : TX X PE μ ds (.Compare a [op, op'] [b, c] pos) PT :=
  tx_of (pt_chain (op_cmpW hu) (op_cmpW hu) pe_U pe_U pe_U hm) fun σ H Q ho hs k => h.at ho hs fun v H1 x μ1 s1 h1 b1 n1 p => p.at h1 b1 fun u H2 y μ2 s2 h2 b2 n2 q =>
    ⟨μ2, x, y, _, h2, n1.mono s2, n2, q, fun z r => ⟨z, rfl, by
      cases z with
      | true =>
        refine iteT ?_
        exact (r.1 rfl).at h2 b2 fun w H3 dw μ3 s3 h3 b3 n3 p3 => ⟨μ3, y, dw, _, h3, n2.mono s3, n3, p3, fun z2 r2 => ⟨z2, rfl, k _ H3 μ3 ((s1.trans s2).trans s3) h3 r2⟩⟩
      | false =>
        refine iteF ?_
        exact ⟨false, rfl, k _ H2 μ2 (s1.trans s2) h2 (r.2 rfl)⟩⟩⟩
theorem ex_chainW {op op' : CmpOp} (hu : X.A.units + 64 < cLine) (h : EX X PE μ ds a fun x μ1 => EX X PE μ1 ds b fun y μ2 => cmpW op x y fun z => wIf z (EX X PE μ2 ds c fun w μ3 => cmpW op' y w fun z2 => P (.bl z2) μ3) (P (.bl false) μ2))
    (hm : lastMarks [op, op'] [b, c] = false) : EX X PE μ ds (.Compare a [op, op'] [b, c] pos) P :=
  ex_of (pe_chain (op_cmpW hu) (op_cmpW hu) pe_U pe_U pe_U hm) fun σ H Q ho hs k => h.at ho hs fun v H1 x μ1 s1 h1 b1 n1 p => p.at h1 b1 fun u H2 y μ2 s2 h2 b2 n2 q =>
    ⟨μ2, x, y, _, h2, n1.mono s2, n2, q, fun z r => ⟨z, rfl, by
      cases z with
      | true =>
        refine iteT ?_
        exact (r.1 rfl).at h2 b2 fun w H3 dw μ3 s3 h3 b3 n3 p3 => ⟨μ3, y, dw, _, h3, n2.mono s3, n3, p3, fun z2 r2 => k _ H3 _ μ3 ((s1.trans s2).trans s3) h3 (.bl _) r2⟩
      | false =>
        refine iteF ?_
        exact k _ H2 _ μ2 (s1.trans s2) h2 (.bl _) (r.2 rfl)⟩⟩
/-! ### what is walked, of any kind -/
/-- the items of data -/
def itemsK : D → (List D → Prop) → Prop
  | .lst xs, K => K xs
  | .rol xs, K => K xs
  | .tup xs, K => K xs
  | .str s, K => K (signs s)
  | _, _ => False
/-- the walks of the three kinds -/
def iAny (K : PySem.W.Frag) (tl : TE) : TI := fun σ H R => tl σ H fun x H1 =>
  (∃ a, x = .ref a ∧ (∃ xs, SqL K H1 a xs) ∧ R (Itl K a) H1) ∨ (∃ a, x = .ref a ∧ (∃ xs, SqT K H1 a xs) ∧ R (Itt K a) H1) ∨ (∃ z, x = .str z ∧ R (Its z) H1)
theorem pi_any {tg l : Expr} {tl : TE} (hl : L2.PE X l tl) : PI X tg l (iAny X.K tl) := by
  refine ⟨fun pins s σ H R I h => ?_⟩
  refine thn (hl.run pins s σ H _ I h) fun v s1 ⟨x, H1, I1, r1, q1⟩ => ?_
  rcases q1 with ⟨a, e, ⟨xs, hq⟩, q⟩ | ⟨a, e, ⟨xs, hq⟩, q⟩ | ⟨z, e, q⟩
  · subst e
    cases r1
    obtain ⟨its, rv, p, hz⟩ := I1.list hq
    refine wpAny_pyIter_list p.isList ?_
    refine ⟨s1.heap.objs.size, [s1.heap.objs.size], _, _, H1, rfl, I1.kept (t' := s1.toks) fun b o e => Heap.get?_push_of_some _ e, turn_list a _, ⟨_, Heap.get?_push_size _ rfl, rfl, rfl⟩, fun b hb => ?_, q⟩
    have e : b = s1.heap.objs.size := by simpa using hb
    subst e
    exact I1.fpOk (Nat.le_refl _) (I1.hok.fresh (Nat.le_refl _))
  · subst e
    cases r1
    obtain ⟨its, rv, p, hz⟩ := I1.tuple hq
    refine wpAny_pyIter_tuple (show s1.heap.IsTuple a its.toArray from p) ?_
    refine ⟨s1.heap.objs.size, [s1.heap.objs.size], _, _, H1, rfl, I1.kept (t' := s1.toks) fun b o e => Heap.get?_push_of_some _ e, turn_tuple a _, ⟨_, Heap.get?_push_size _ rfl, rfl, rfl⟩, fun b hb => ?_, q⟩
    have e : b = s1.heap.objs.size := by simpa using hb
    subst e
    exact I1.fpOk (Nat.le_refl _) (I1.hok.fresh (Nat.le_refl _))
  · subst e
    obtain ⟨t, rfl⟩ := r1
    cases ha : z.cps.all (· < 128)
    · exact wpAny_pyIter_wide ha (pi_one (tk := s1.toks) I1 _ (turn_str _ z t "str_iterator" (.inr rfl)) ⟨_, Heap.get?_push_size _ rfl, rfl, rfl⟩ q)
    · exact wpAny_pyIter_ascii ha (pi_one (tk := s1.toks) I1 _ (turn_str _ z t "str_ascii_iterator" (.inl rfl)) ⟨_, Heap.get?_push_size _ rfl, rfl, rfl⟩ q)
theorem ix_any {tg iter : Expr} {PL : List D → Mu → Prop} (h : EX X PE μ ds iter fun d μ1 => itemsK d fun xs => PL xs μ1) : IX X PE μ ds tg iter PL :=
  ix_of (pi_any pe_U) fun σ H R ho hs k => h.at ho hs fun v H1 d μ1 s1 h1 b1 n1 p => by
    cases n1 with
    | lst q r t => exact .inl ⟨_, rfl, ⟨_, SqL.of r⟩, k _ H1 _ μ1 s1 h1 (itd_list (fun H2 μ2 s2 => SqL.of (s2 _ _ q r nofun).1) t) p⟩
    | rol q r t => exact .inl ⟨_, rfl, ⟨_, .inl r⟩, k _ H1 _ μ1 s1 h1 (itd_list (fun H2 μ2 s2 => .inl (Rd.stp s2 q r).1) t) p⟩
    | rolK r t => exact .inl ⟨_, rfl, ⟨_, r H1⟩, k _ H1 _ μ1 s1 h1 (itd_list (fun H2 μ2 s2 => r H2) t) p⟩
    | tup q r t => exact .inr (.inl ⟨_, rfl, ⟨_, .inl (.inl r)⟩, k _ H1 _ μ1 s1 h1 (itd_tup (fun H2 μ2 s2 => .inl (.inl (s2 _ _ q r nofun).1)) t) p⟩)
    | tupK r t => exact .inr (.inl ⟨_, rfl, ⟨_, r H1⟩, k _ H1 _ μ1 s1 h1 (itd_tup (fun H2 μ2 s2 => r H2) t) p⟩)
    | str s => exact .inr (.inr ⟨_, rfl, k _ H1 _ μ1 s1 h1 (itd_str s) p⟩)
    | _ => exact p.elim
end
/-! ### comprehensions, item by item -/
section
variable {X : Cx} {PE : XP} {e a b c elt tg iter : Expr} {es ifs : List Expr} {μ : Mu} {ds : DS} {P : DP} {pos : Pos} {Z : Po}
theorem lc_readL {scope : Scope} {own : List Nat} {σ : L2.St} {H : Hp} {Q : VK} (ho : Hold X.K μ H) (hs : Sl X PE μ H σ ds)
    (h : IX X PE μ ds tg iter fun xs μ1 => xs.length ≤ sizeLine ∧ ∀ L, μ1 L = none → ∃ I : Nat → List D → Mu → Prop, I 0 [] μ1 ∧
      (∀ i x acc μi, xs[i]? = some x → I i acc μi → acc.length ≤ i → μi L = none → Turn1 X scope ds own tg ifs elt x (mset μi L (.lst acc)) fun o μ3 => ∃ μ3', μ3 = mset μ3' L (.lst acc) ∧ μ3' L = none ∧ I (i + 1) (addO acc o) μ3') ∧
      ∀ acc μn, I xs.length acc μn → P (.lst acc) μn)
    (k : ∀ v H' d μ', Stp μ H μ' H' → Hold X.K μ' H' → Den X.K μ' H' v d → P d μ' → Q v H') :
    tLc (tUI X tg iter) (tgB X scope tg) (ttB X scope ifs) (teB X scope elt) own σ H Q :=
  h.at ho hs fun J H1 xs μ1 s1 h1 b1 it ⟨hz, hI⟩ => fun L nL => by
    obtain ⟨I, i0, step, fin⟩ := hI L (h1.free nL)
    exact
    ⟨fun i mm H2 => i + mm = xs.length ∧ ∃ acc μi, I i acc μi ∧ acc.length ≤ i ∧ μi L = none ∧ Hold X.K (mset μi L (.lst acc)) H2 ∧ Stp μ1 H1 (mset μi L (.lst acc)) H2,
      ⟨xs.length, Nat.zero_add _, [], μ1, i0, Nat.le_refl _, h1.free nL, h1.newM (c := .lst []) nL ⟨[], upd_same, .nil⟩, Stp.newM nL⟩, fun i mm H2 ⟨hm, acc, μi, hi, hl, nl, h2, s2⟩ => by
      by_cases hx : i < xs.length
      · refine .inr ?_
        obtain ⟨x, ex⟩ : ∃ x, xs[i]? = some x := ⟨xs[i], List.getElem?_eq_getElem hx⟩
        obtain ⟨g1, g2⟩ := (it i H2 _ s2 h2).2 x ex
        refine ⟨g1, fun H' => ∃ acc μi, I (i + 1) acc μi ∧ acc.length ≤ i + 1 ∧ μi L = none ∧ Hold X.K (mset μi L (.lst acc)) H' ∧ Stp μ1 H1 (mset μi L (.lst acc)) H', fun H' q => ⟨mm - 1, by omega, by omega, q⟩, fun v H3 hy => ?_⟩
        obtain ⟨s3, h3, n3⟩ := g2 v H3 hy
        have T := step i x acc μi ex hi hl nl
        have bs : DenS X.K (mset μi L (.lst acc)) H3 (wipe σ own) (wipeD ds own) := (DenS.wipe b1.d own).mono (s2.trans s3)
        refine ⟨fun v σ H Q => Hold X.K (mset μi L (.lst acc)) H ∧ DenS X.K (mset μi L (.lst acc)) H σ (wipeD ds own) ∧ Den X.K (mset μi L (.lst acc)) H v x ∧ ∀ σ' ds', wipe σ' own = wipe σ own → DenS X.K (mset μi L (.lst acc)) H σ' ds' →
          (∀ X', Blk X scope X' → TsX X' noX (mset μi L (.lst acc)) ds' ifs fun z μ1 => (z = true → ∀ X', Blk X scope X' → EX X' noX μ1 ds' elt fun d μ2 => (fun o μ3 => ∃ μ3', μ3 = mset μ3' L (.lst acc) ∧ μ3' L = none ∧ I (i + 1) (addO acc o) μ3') (some d) μ2) ∧ (z = false → (fun o μ3 => ∃ μ3', μ3 = mset μ3' L (.lst acc) ∧ μ3' L = none ∧ I (i + 1) (addO acc o) μ3') none μ1)) → Q σ' H, fun X' hb => ?_, h3, bs, n3, fun σ4 ds4 w4 b4 ts => ?_⟩
        · have := (T X' hb).pg
          rw [blk_K hb] at this
          exact this
        · refine ⟨w4.trans (wipe_wipe fun i h => h), ?_⟩
          refine ⟨fun σ H Q => Hold X.K (mset μi L (.lst acc)) H ∧ DenS X.K (mset μi L (.lst acc)) H σ ds4 ∧ ∀ b H' μ', Stp (mset μi L (.lst acc)) H μ' H' → Hold X.K μ' H' →
            ((b = true → ∀ X', Blk X scope X' → EX X' noX μ' ds4 elt fun d μ2 => ∃ μ3', μ2 = mset μ3' L (.lst acc) ∧ μ3' L = none ∧ I (i + 1) (addO acc (some d)) μ3') ∧ (b = false → ∃ μ3', μ' = mset μ3' L (.lst acc) ∧ μ3' L = none ∧ I (i + 1) (addO acc none) μ3')) → Q b H', fun X' hb => ?_, h3, b4, fun z H5 μ5 s5 h5 p5 => ?_⟩
          · refine ⟨fun pins s σ H Q J ⟨q1, q2, q3⟩ => (ts X' hb).pts.run pins s σ H Q J ⟨by rw [blk_K hb]; exact q1, ⟨by rw [blk_K hb]; exact q2, Exc.no⟩, fun b H' μ' s h p => q3 b H' μ' s (by rw [blk_K hb] at h; exact h) p⟩⟩
          · cases z with
            | true =>
              refine iteT ⟨fun σ H Q => Hold X.K μ5 H ∧ DenS X.K μ5 H σ ds4 ∧ ∀ v H' d μ', Stp μ5 H μ' H' → Hold X.K μ' H' → Den X.K μ' H' v d → (∃ μ3', μ' = mset μ3' L (.lst acc) ∧ μ3' L = none ∧ I (i + 1) (addO acc (some d)) μ3') → Q v H', fun X' hb => ?_, h5, b4.mono s5, fun v H6 d μ6 s6 h6 n6 ⟨μ7, e7, nl7, p7⟩ => ?_⟩
              · refine ⟨fun pins s σ H Q J ⟨q1, q2, q3⟩ => (p5.1 rfl X' hb).pe.run pins s σ H Q J ⟨by rw [blk_K hb]; exact q1, ⟨by rw [blk_K hb]; exact q2, Exc.no⟩, fun v H' d μ' s h n p => q3 v H' d μ' s (by rw [blk_K hb] at h; exact h) (by rw [blk_K hb] at n; exact n) p⟩⟩
              · subst e7
                obtain ⟨vs, ev, dv⟩ := h6 L _ mset_same
                have sw : Stp (mset μ7 L (.lst acc)) H6 (mset (mset μ7 L (.lst acc)) L (.lst (acc ++ [d]))) (upd H6 L (.lst (vs ++ [v]))) := Stp.write mset_same
                refine ⟨vs, ev, by rw [dv.length]; omega, acc ++ [d], μ7, p7, by simp; omega, nl7, ?_, ?_⟩
                · have := h6.write (c := .lst (acc ++ [d])) (o := .lst (vs ++ [v])) mset_same ⟨_, upd_same, (dv.append (.cons n6 .nil)).mono sw⟩
                  rw [mset_mset] at this
                  exact this
                · rw [mset_mset] at sw
                  exact (((s2.trans s3).trans s5).trans s6).trans sw
            | false =>
              obtain ⟨μ7, e7, nl7, p7⟩ := p5.2 rfl
              subst e7
              exact iteF ⟨acc, μ7, p7, by omega, nl7, h5, (s2.trans s3).trans s5⟩
      · have e : i = xs.length := by omega
        subst e
        refine .inl ⟨(it _ H2 _ s2 h2).1 (Nat.le_refl _), ?_⟩
        obtain ⟨vs, ev, dv⟩ := h2 L _ mset_same
        exact k _ H2 (.lst acc) μi ((s1.trans s2).trans Stp.freeze) (h2.freeze nl) (.lst nl ev (dv.mono Stp.freeze)) (fin acc μi hi)⟩

/-- the turns of a comprehension whose list stands at L -/
def lcL (turn : D → Mu → (Option D → Mu → Prop) → Prop) (L : Addr) (K : List D → Mu → Prop) : List D → List D → Mu → Prop
  | [], acc, μ => K acc μ
  | x :: xs, acc, μ => turn x (mset μ L (.lst acc)) fun o μ1 => ∃ μ2, μ1 = mset μ2 L (.lst acc) ∧ μ2 L = none ∧ lcL turn L K xs (addO acc o) μ2
def lcW (turn : D → Mu → (Option D → Mu → Prop) → Prop) (xs : List D) (μ : Mu) (K : List D → Mu → Prop) : Prop := xs.length ≤ sizeLine ∧ ∀ L, μ L = none → lcL turn L K xs [] μ
theorem lcW_I {scope : Scope} {own : List Nat} {turn : D → Mu → (Option D → Mu → Prop) → Prop} {xs : List D} {μ1 : Mu} {K : List D → Mu → Prop} (ht : ∀ x μ Q, turn x μ Q → Turn1 X scope ds own tg ifs elt x μ Q) (h : lcW turn xs μ1 K) :
    xs.length ≤ sizeLine ∧ ∀ L, μ1 L = none → ∃ I : Nat → List D → Mu → Prop, I 0 [] μ1 ∧
      (∀ i x acc μi, xs[i]? = some x → I i acc μi → acc.length ≤ i → μi L = none → Turn1 X scope ds own tg ifs elt x (mset μi L (.lst acc)) fun o μ3 => ∃ μ3', μ3 = mset μ3' L (.lst acc) ∧ μ3' L = none ∧ I (i + 1) (addO acc o) μ3') ∧
      ∀ acc μn, I xs.length acc μn → K acc μn := by
  refine ⟨h.1, fun L nL => ⟨fun i acc μi => lcL turn L K (xs.drop i) acc μi, h.2 L nL, fun i x acc μi ex hi hl nl => ?_, fun acc μn hn => ?_⟩⟩
  · have e : xs.drop i = x :: xs.drop (i + 1) := by
      obtain ⟨hi, e⟩ := List.getElem?_eq_some_iff.mp ex
      rw [List.drop_eq_getElem_cons hi, e]
    have hi : lcL turn L K (xs.drop i) acc μi := hi
    rw [e] at hi
    exact ht _ _ _ hi
  · have hn : lcL turn L K (xs.drop xs.length) acc μn := hn
    rw [List.drop_length] at hn
    exact hn
theorem ex_lcW {scope : Scope} (own : List (Str × Nat)) (turn : D → Mu → (Option D → Mu → Prop) → Prop) (ht : ∀ x μ Q, turn x μ Q → Turn1 X scope ds (own.map (·.2)) tg ifs elt x μ Q)
    (h : IX X PE μ ds tg iter fun xs μ1 => lcW turn xs μ1 fun ys μ2 => P (.lst ys) μ2) (hc : X.calm = true) (hN : X.N.Nodup) (ok : BlkOk X.N X.env.scope scope own) (hs : ∀ x, foldedSetIterable iter X.env x = pure x) : EX X PE μ ds (.ListComp elt [⟨tg, iter, ifs, 0⟩] scope pos) P :=
  ex_of (pe_lc hc hN pi_U ok (fun s H C cl fp => pg_B ⟨s, H, C, cl, fp, rfl⟩) (fun s H C cl fp => pt_B ⟨s, H, C, cl, fp, rfl⟩) (fun s H C cl fp => pe_B ⟨s, H, C, cl, fp, rfl⟩) hs) fun σ H Q ho hs k => lc_readL ho hs (ex_lcF.ix_imp h fun xs m q => lcW_I ht q) k
theorem sx_setLcW {scope : Scope} (own : List (Str × Nat)) (i : Nat) {y : Str} {py spos : Pos} (turn : D → Mu → (Option D → Mu → Prop) → Prop) (ht : ∀ x μ Q, turn x μ Q → Turn1 X scope ds (own.map (·.2)) tg ifs elt x μ Q)
    (h : IX X PE μ ds tg iter fun xs μ1 => lcW turn xs μ1 fun ys μ2 => Z.nx (ds.set i (some (.lst ys))) μ2) (hc : X.calm = true) (hN : X.N.Nodup) (ok : BlkOk X.N X.env.scope scope own) (hy : X.N[i]? = some y) (hyl : X.env.scope.names.lookup y = some .local)
    (hsw : swapsWith (.ListComp elt [⟨tg, iter, ifs, 0⟩] scope pos) (some (.Name y py)) spos.line X.env = pure true) (hs : ∀ x, foldedSetIterable iter X.env x = pure x) : SX X PE μ ds (.Assign [.Name y py] (.ListComp elt [⟨tg, iter, ifs, 0⟩] scope pos) spos) Z :=
  sx_of (ps_setLc hc hN hy hyl hsw pi_U ok (fun s H C cl fp => pg_B ⟨s, H, C, cl, fp, rfl⟩) (fun s H C cl fp => pt_B ⟨s, H, C, cl, fp, rfl⟩) (fun s H C cl fp => pe_B ⟨s, H, C, cl, fp, rfl⟩) hs) fun D σ H ho hs m =>
    lc_readL (P := fun d μ' => Z.nx (ds.set i (some d)) μ') ho hs (ex_lcF.ix_imp h fun xs m q => lcW_I ht q) fun v H' d μ' s h n p => m.nx _ H' _ μ' s h ((hs.mono s).set n) p
/-! ### loops, item by item -/
/-- a loop over data -/
def forW (step : D → DS → Mu → Po → Prop) (Z : Po) : List D → DS → Mu → Prop
  | [], ds, μ => Z.nx ds μ
  | x :: xs, ds, μ => step x ds μ { nx := forW step Z xs, ct := forW step Z xs, bk := Z.nx, rt := Z.rt }
theorem sx_forW {body : List Stmt} (step : D → DS → Mu → Po → Prop) (ht : ∀ x ds μ Z, step x ds μ Z → GX X PE μ ds tg x fun ds2 μ2 => SSX X PE μ2 ds2 body Z)
    (h : IX X PE μ ds tg iter fun xs μ1 => forW step Z xs ds μ1) (hp : PassesOwn (model X.prog X.w) X.A X.env X.xe) (hc : X.calm = true) (hs : ∀ x, foldedSetIterable iter X.env x = pure x) : SX X PE μ ds (.For tg iter body [] pos) Z :=
  sx_for (ex_lcF.ix_imp h fun xs m q => ⟨fun i dsi μi => forW step Z (xs.drop i) dsi μi, q, fun i x dsi μi ex hi => by
    have e : xs.drop i = x :: xs.drop (i + 1) := by
      obtain ⟨hi, e⟩ := List.getElem?_eq_some_iff.mp ex
      rw [List.drop_eq_getElem_cons hi, e]
    have hi : forW step Z (xs.drop i) dsi μi := hi
    rw [e] at hi
    exact ht _ _ _ _ hi, fun dsn μn hn => by
      have hn : forW step Z (xs.drop xs.length) dsn μn := hn
      rw [List.drop_length] at hn; exact hn⟩) hp hc hs
/-- a while, by what holds at each turn and a number that falls -/
def whW (test : DS → Mu → (Bool → Mu → Prop) → Prop) (body : DS → Mu → Po → Prop) (ds : DS) (μ : Mu) (Z : Po) : Prop :=
  ∃ (I : Nat → DS → Mu → Prop) (m0 : Nat), I m0 ds μ ∧ ∀ m dsi μi, I m dsi μi → test dsi μi fun z μ1 => wIf z (body dsi μ1 { nx := fun s u => ∃ m', m' < m ∧ I m' s u, ct := fun s u => ∃ m', m' < m ∧ I m' s u, bk := Z.nx, rt := Z.rt }) (Z.nx dsi μ1)
theorem sx_whW {body : List Stmt} (wt : DS → Mu → (Bool → Mu → Prop) → Prop) (wb : DS → Mu → Po → Prop) (h1 : ∀ ds μ K, wt ds μ K → TX X PE μ ds c K) (h2 : ∀ ds μ Z, wb ds μ Z → SSX X PE μ ds body Z)
    (h : whW wt wb ds μ Z) (hp : PassesOwn (model X.prog X.w) X.A X.env X.xe) : SX X PE μ ds (.While c body [] pos) Z := by
  obtain ⟨I, m0, i0, step⟩ := h
  exact sx_while I m0 i0 (fun m dsi μi hi => (h1 _ _ _ (step m dsi μi hi)).imp fun z μ1 p => ⟨fun e => h2 _ _ _ (p.1 e), p.2⟩) hp
end
end Hw
set_option Elab.async false
set_option linter.all false
set_option maxRecDepth 100000
set_option maxHeartbeats 2000000
namespace Hw
open PySem L2 PyProof.Rows
/-! ### a callable, by the number of its places and its keywords -/
structure CalG (P : Program) (w : World) (K : PySem.W.Frag) (mg : Str → Option Value) (base : Heap) (x : Str) (k n : Nat) (ks : List Str) (W : CT) : Prop where
  ex : ∃ f, mg x = some (.ref f) ∧ PySem.W.keepIn K (.ref f) = true ∧ ∀ (A : Around) (outer : List Env) (s : Shared) (H : Hp) (us ws : List Value) (vs : List V) (Q : VK) (E : XK), Rm k A → Env0 P w K mg base A outer s H → us.length = n → ws.length = ks.length → Vals vs (us ++ ws) → spD K W vs H Q E →
    codeAny (model P w) A (.call (.ref f) ⟨us, ks.zip ws⟩) (CR (L2.CX P w) outer P w H s Q E) s
section
variable {P : Program} {w : World} {K : PySem.W.Frag} {mg : Str → Option Value} {base : Heap}
/-- the contract C, of the values as they are written -/
def ctV (C : CT) (m : Nat) (idx : List Nat) (dd : List D) : CT := fun zs μ P PE => zs.length = m ∧ C (pick idx zs ++ dd) μ P PE
theorem CalV.g {x : Str} {ps : List Str} {k n : Nat} {C : CT} {ks : List Str} {idx : List Nat} {dd : List D} (c : CalV P w K mg base x ps k C n ks idx dd) (hf : dd.all flatD = true) : CalG P w K mg base x k n ks (ctV C (n + ks.length) idx dd) := by
  obtain ⟨f, fd, dvs, F, hm, hk, rd, hb⟩ := c.ex
  refine ⟨f, hm, hk, fun A outer s H us ws vs Q E hr e0 h1 h2 r ⟨μ, ds, R, RE, ho, n1, ⟨hl, c1⟩, kR, kE⟩ => ?_⟩
  exact F.run A outer s H ⟨us, ks.zip ws⟩ _ (pick idx vs ++ dd.map fv) Q E hr e0 (hb s us ws (fun b o e => (e0.bs b o (e0.mod.kin b o e)).1) h1 h2) ((Vals.pick r idx).append rd) ⟨μ, _, R, RE, ho, (n1.pick idx).append (DenAll.fvs hf), c1, kR, kE⟩
theorem CalG.mono {x : Str} {k k' n : Nat} {ks : List Str} {W : CT} (c : CalG P w K mg base x k n ks W) (l : k ≤ k') : CalG P w K mg base x k' n ks W := by
  obtain ⟨f, hm, hk, h⟩ := c.ex
  exact ⟨f, hm, hk, fun A outer s H us ws vs Q E hr => h A outer s H us ws vs Q E (hr.mono l)⟩
theorem CalG.weak {x : Str} {k n : Nat} {ks : List Str} {W W' : CT} (c : CalG P w K mg base x k n ks W) (l : ∀ zs μ R RE, W' zs μ R RE → W zs μ R RE) : CalG P w K mg base x k n ks W' := by
  obtain ⟨f, hm, hk, h⟩ := c.ex
  exact ⟨f, hm, hk, fun A outer s H us ws vs Q E hr e0 h1 h2 r ⟨μ, ds, R, RE, ho, n1, c1, kR, kE⟩ => h A outer s H us ws vs Q E hr e0 h1 h2 r ⟨μ, ds, R, RE, ho, n1, l _ _ _ _ c1, kR, kE⟩⟩
end
section
variable {X : Cx} {PE : XP} {e a b c : Expr} {es : List Expr} {kws : List Keyword} {μ : Mu} {ds : DS} {P : DP} {pos : Pos}
theorem kwAll : ∀ {kws : List Keyword} {env : Env}, kws.all (·.arg.isSome) = true → (backToKw pos (keywordEach kws env)).all (·.1.isSome) = true
  | [], _, _ => rfl
  | ⟨some x, v, p⟩ :: r, env, h => by
    have ih := kwAll (kws := r) (env := env) (by simpa using h)
    simpa [backToKw, keywordEach] using ih
  | ⟨none, v, p⟩ :: r, env, h => by simp at h
theorem kwNames : ∀ {kws : List Keyword} {env : Env}, (backToKw pos (keywordEach kws env)).filterMap (·.1) = kws.filterMap (·.arg)
  | [], _ => rfl
  | ⟨some x, v, p⟩ :: r, env => by
    have ih := kwNames (kws := r) (env := env)
    simpa [backToKw, keywordEach] using ih
  | ⟨none, v, p⟩ :: r, env => by
    have ih := kwNames (kws := r) (env := env)
    simpa [backToKw, keywordEach] using ih
theorem kwNone : ∀ {kws : List Keyword} {env : Env}, kws.all (·.arg.isSome) = true → (backToKw pos (keywordEach kws env)).any (·.1.isNone) = false
  | [], _, _ => rfl
  | ⟨some x, v, p⟩ :: r, env, h => by
    have ih := kwNone (kws := r) (env := env) (by simpa using h)
    simpa [backToKw, keywordEach] using ih
  | ⟨none, v, p⟩ :: r, env, h => by simp at h
def notStar : Expr → Bool
  | .Starred _ _ => false
  | _ => true
theorem star1 {e : Expr} {es : List Expr} {env : Env} (h : notStar e = true) : starEach (e :: es) env = (false, eval e env) :: starEach es env := by
  cases e <;> first | rfl | cases h
theorem starAny : ∀ {es : List Expr} {env : Env}, es.all notStar = true → (backTo pos (starEach es env)).any (·.1) = false
  | [], _, _ => rfl
  | e :: es, env, h => by
    rw [List.all_cons, Bool.and_eq_true] at h
    have ih := starAny (es := es) (env := env) h.2
    rw [star1 h.1]
    simpa [backTo] using ih
theorem run_G {k n : Nat} {ks : List Str} {W : CT} {x : Str} {pins : List (Addr × Obj)} {σ : L2.St} {H : Hp} {s : Shared} {Q : VK} {us ws : List Value} {vs : List V} {f : Addr}
    (hrun : ∀ (A : Around) (outer : List Env) (s : Shared) (H : Hp) (us ws : List Value) (vs : List V) (Q : VK) (E : XK), Rm k A → Env0 X.prog X.w X.K X.mg X.base A outer s H → us.length = n → ws.length = ks.length → Vals vs (us ++ ws) → spD X.K W vs H Q E → codeAny (model X.prog X.w) A (.call (.ref f) ⟨us, ks.zip ws⟩) (CR (L2.CX X.prog X.w) outer X.prog X.w H s Q E) s)
    (hr : Rm k X.A) (I : Inv X pins σ H s) (l1 : us.length = n) (l2 : ws.length = ks.length) (r : Vals vs (us ++ ws)) (q : spD X.K W vs H Q (Ex0 X)) : wpAny (model X.prog X.w) X.A (call (.ref f) us (ks.zip ws)) (EP X pins σ Q) X.xe s := by
  refine wpAny_call (codeAny_mono (ret_of I (hrun X.A X.stack s H us ws vs Q (Ex0 X) hr I.env0 l1 l2 r q)) fun r s' q => ?_)
  match r, q with
  | .error er, q => exact q
  | .ok (.ret _), q => exact q
theorem ex_end {W : CT} {vs : List V} {zs : List D} {σ : L2.St} {H H1 : Hp} {μ1 : Mu} {Q : VK} (h1 : Hold X.K μ1 H1) (b1 : Sl X PE μ1 H1 σ ds) (n1 : DenAll X.K μ1 H1 vs zs) (q : W zs μ1 P PE) (s1 : Stp μ H μ1 H1)
    (kk : ∀ v H' d μ', Stp μ H μ' H' → Hold X.K μ' H' → Den X.K μ' H' v d → P d μ' → Q v H') : spD X.K W vs H1 Q (Ex0 X) :=
  ⟨μ1, zs, P, PE, h1, n1, q, fun v H' d μ' s2 h2 n2 p2 => kk v H' d μ' (s1.trans s2) h2 n2 p2, fun Ca dd H' fs vfs μ' s2 h2 e2 n2 p2 σ' => b1.x Ca dd H' fs vfs μ' σ' s2 h2 e2 n2 p2⟩
/-- a call by name -/
theorem ex_callG0 {x : Str} {k : Nat} {W : CT} {p : Pos} (c : CalG X.prog X.w X.K X.mg X.base x k 0 [] W) (hr : Rm k X.A) (hg : Gl X x) (hdb : (x == ("__debug__" : Str)) = false) (h : W [] μ P PE) : EX X PE μ ds (.Call (.Name x p) [] [] pos) P := by
  obtain ⟨f, hm, hk, hrun⟩ := c.ex
  have pe : L2.PE X (.Call (.Name x p) [] [] pos) (fun σ H Q => spD X.K W [] H Q (Ex0 X)) := ⟨fun pins s σ H Q I q => by
    refine wpAny_Call_Name_kw (ld_glob I hg hm ?_ hdb)
    exact PySem.W.callWith_K0 I.kIn hk (run_G (ks := []) (us := []) (ws := []) (x := x) hrun hr I rfl rfl .nil q)⟩
  exact ex_of pe fun σ H Q ho hs kk => ex_end ho hs .nil h (Stp.refl _ _) kk
theorem ex_callGA {x : Str} {k n : Nat} {W : CT} {p : Pos} (c : CalG X.prog X.w X.K X.mg X.base x k n [] W) (hr : Rm k X.A) (hg : Gl X x) (hdb : (x == ("__debug__" : Str)) = false) (hst : (e :: es).all notStar = true)
    (h : AX X PE μ ds (e :: es) fun xs μ1 => xs.length = n ∧ W xs μ1 P PE) : EX X PE μ ds (.Call (.Name x p) (e :: es) [] pos) P := by
  obtain ⟨f, hm, hk, hrun⟩ := c.ex
  rw [List.all_cons, Bool.and_eq_true] at hst
  have pe : L2.PE X (.Call (.Name x p) (e :: es) [] pos) (fun σ H Q => tUA X (e :: es) σ H fun vs H0 => vs.length = n ∧ spD X.K W vs H0 Q (Ex0 X)) := ⟨fun pins s σ H Q I q => by
    refine wpAny_Call_Name_kw (ld_glob I hg hm ?_ hdb)
    refine PySem.W.callWith_K (h₀ := X.base) I.ok.mod.kin hk (thn (pa_U.run pos pins s σ H _ I q) fun us s1 ⟨vs, H1, I1, r, hl, q⟩ => ⟨I1.kIn, ?_⟩) (star1 hst.1) (starAny hst.2)
    exact run_G (ks := []) (ws := []) (x := x) hrun hr I1 (by rw [List.nil_append, ← r.length]; exact hl) rfl (by rw [List.append_nil]; exact r) q⟩
  exact ex_of pe fun σ H Q ho hs kk => h.at ho hs fun vs H1 xs μ1 s1 h1 b1 n1 ⟨hl, q⟩ => ⟨by rw [n1.length]; exact hl, ex_end h1 b1 n1 q s1 kk⟩
theorem ex_callGK {x : Str} {k : Nat} {ks : List Str} {W : CT} {p : Pos} (c : CalG X.prog X.w X.K X.mg X.base x k 0 ks W) (hr : Rm k X.A) (hg : Gl X x) (hdb : (x == ("__debug__" : Str)) = false) (h2 : kws.all (·.arg.isSome) = true) (h3 : kws.filterMap (·.arg) = ks)
    (h : KX X PE μ ds kws fun zs μ2 => zs.length = ks.length ∧ W zs μ2 P PE) : EX X PE μ ds (.Call (.Name x p) [] kws pos) P := by
  obtain ⟨f, hm, hk, hrun⟩ := c.ex
  have pe : L2.PE X (.Call (.Name x p) [] kws pos) (fun σ H Q => tUK X kws σ H fun zs H1 => zs.length = ks.length ∧ spD X.K W zs H1 Q (Ex0 X)) := ⟨fun pins s σ H Q I q => by
    refine wpAny_Call_Name_kw (ld_glob I hg hm ?_ hdb)
    refine PySem.W.callWith_KW0 (h₀ := X.base) I.ok.mod.kin hk (kwAll h2) (thn (pk_U.run pos pins s σ H _ I q) fun ws s1 ⟨zs, H1, I1, rz, hl, q⟩ => ⟨I1.kIn, ?_⟩) (by rw [kwNone h2]; rfl)
    rw [kwNames, h3]
    exact run_G (us := []) (x := x) hrun hr I1 rfl (by rw [← rz.length]; exact hl) rz q⟩
  exact ex_of pe fun σ H Q ho hs kk => h.at ho hs fun vs H1 xs μ1 s1 h1 b1 n1 ⟨hl, q⟩ => ⟨by rw [n1.length]; exact hl, ex_end h1 b1 n1 q s1 kk⟩
theorem ex_callGM {x : Str} {k n : Nat} {ks : List Str} {W : CT} {p : Pos} (c : CalG X.prog X.w X.K X.mg X.base x k n ks W) (hr : Rm k X.A) (hg : Gl X x) (hdb : (x == ("__debug__" : Str)) = false) (hst : (e :: es).all notStar = true) (h2 : kws.all (·.arg.isSome) = true) (h3 : kws.filterMap (·.arg) = ks)
    (h : AX X PE μ ds (e :: es) fun xs μ1 => xs.length = n ∧ KX X PE μ1 ds kws fun zs μ2 => zs.length = ks.length ∧ W (xs ++ zs) μ2 P PE) : EX X PE μ ds (.Call (.Name x p) (e :: es) kws pos) P := by
  obtain ⟨f, hm, hk, hrun⟩ := c.ex
  have hst2 := hst
  rw [List.all_cons, Bool.and_eq_true] at hst
  have pe : L2.PE X (.Call (.Name x p) (e :: es) kws pos) (fun σ H Q => tUA X (e :: es) σ H fun vs H0 => vs.length = n ∧ tUK X kws σ H0 fun zs H1 => zs.length = ks.length ∧ spD X.K W (vs ++ zs) H1 Q (Ex0 X)) := ⟨fun pins s σ H Q I q => by
    refine wpAny_Call_Name_kw (ld_glob I hg hm ?_ hdb)
    refine PySem.W.callWith_KW (h₀ := X.base) I.ok.mod.kin hk (kwAll h2) (thn (pa_U.run pos pins s σ H _ I q) fun us s0 ⟨vs, H0, I0, r0, hl0, q⟩ => thn (pk_U.run pos pins s0 σ H0 _ I0 q) fun ws s1 ⟨zs, H1, I1, rz, hl, q⟩ => ⟨I1.kIn, ?_⟩) (by rw [kwNone h2, starAny hst2]; rfl) (star1 hst.1)
    rw [kwNames, h3]
    exact run_G (x := x) hrun hr I1 (by rw [List.nil_append, ← r0.length]; exact hl0) (by rw [← rz.length]; exact hl) (r0.append rz) q⟩
  refine ex_of pe fun σ H Q ho hs kk => h.at ho hs fun us H0 ys μ0 s0 h0 b0 n0 ⟨hl0, q⟩ => ⟨by rw [n0.length]; exact hl0, q.at h0 b0 fun vs H1 xs μ1 s1 h1 b1 n1 ⟨hl, q⟩ => ⟨by rw [n1.length]; exact hl, ?_⟩⟩
  exact ex_end h1 b1 ((n0.mono s1).append n1) q (s0.trans s1) kk
end
end Hw
set_option Elab.async false
set_option linter.all false
set_option maxRecDepth 100000
set_option maxHeartbeats 2000000
namespace Hw
open PySem L2 PyProof.Rows
/-! ### what is told no more -/
def mdel (μ : Mu) (a : Addr) : Mu := fun b => if b = a then none else μ b
theorem mdel_same {μ : Mu} {a : Addr} : mdel μ a a = none := if_pos rfl
theorem mdel_ne {μ : Mu} {a b : Addr} (h : b ≠ a) : mdel μ a b = μ b := if_neg h
theorem mdel_mset {μ : Mu} {a : Addr} {c : MD} : mdel (mset μ a c) a = mdel μ a := by
  funext b; unfold mset mdel; by_cases h : b = a <;> simp [h]
theorem mdel_id {μ : Mu} {a : Addr} (h : μ a = none) : mdel μ a = μ := by
  funext b; unfold mdel; by_cases e : b = a
  · rw [if_pos e, e, h]
  · rw [if_neg e]
theorem Stp.del {μ : Mu} {H : Hp} {a : Addr} : Stp μ H (mdel μ a) H := fun b o h e _ => ⟨e, by
  unfold mdel; split
  · rfl
  · exact h⟩
theorem Hold.del {K : PySem.W.Frag} {μ : Mu} {H : Hp} {a : Addr} (h : Hold K μ H) : Hold K (mdel μ a) H := fun b c e => by
  by_cases hb : b = a
  · subst hb; rw [mdel_same] at e; cases e
  · rw [mdel_ne hb] at e
    exact (h b c e).mono Stp.del rfl
/-! ### a callable at an address -/
structure RunA (P : Program) (w : World) (K : PySem.W.Frag) (mg : Str → Option Value) (base : Heap) (f : Addr) (k n : Nat) (ks : List Str) (W : CT) : Prop where
  kp : PySem.W.keepIn K (.ref f) = true
  run : ∀ (A : Around) (outer : List Env) (s : Shared) (H : Hp) (us ws : List Value) (vs : List V) (Q : VK) (E : XK), Rm k A → Env0 P w K mg base A outer s H → us.length = n → ws.length = ks.length → Vals vs (us ++ ws) → spD K W vs H Q E →
    codeAny (model P w) A (.call (.ref f) ⟨us, ks.zip ws⟩) (CR (L2.CX P w) outer P w H s Q E) s
section
variable {P : Program} {w : World} {K : PySem.W.Frag} {mg : Str → Option Value} {base : Heap} {f C : Addr} {k k' n : Nat} {ks : List Str} {W W' : CT} {x : Str}
theorem RunA.g (r : RunA P w K mg base f k n ks W) (hm : mg x = some (.ref f)) : CalG P w K mg base x k n ks W := ⟨f, hm, r.kp, r.run⟩
theorem CalG.r (c : CalG P w K mg base x k n ks W) : ∃ f, mg x = some (.ref f) ∧ RunA P w K mg base f k n ks W := by
  obtain ⟨f, h1, h2, h3⟩ := c.ex
  exact ⟨f, h1, h2, h3⟩
theorem RunA.mono (c : RunA P w K mg base f k n ks W) (l : k ≤ k') : RunA P w K mg base f k' n ks W := ⟨c.kp, fun A outer s H us ws vs Q E hr => c.run A outer s H us ws vs Q E (hr.mono l)⟩
theorem RunA.weak (c : RunA P w K mg base f k n ks W) (l : ∀ zs μ R RE, W' zs μ R RE → W zs μ R RE) : RunA P w K mg base f k n ks W' :=
  ⟨c.kp, fun A outer s H us ws vs Q E hr e0 h1 h2 r ⟨μ, ds, R, RE, ho, n1, c1, kR, kE⟩ => c.run A outer s H us ws vs Q E hr e0 h1 h2 r ⟨μ, ds, R, RE, ho, n1, l _ _ _ _ c1, kR, kE⟩⟩
/-- what making an instance asks: W is asked by its __init__; im: it will not change -/
def mkW (C : Addr) (im : Bool) (W : CT) : CT := fun xs μ P PE => ∀ p, μ p = none → W (.ref p :: xs) (mset μ p (.ins C [])) (fun d m => d = .non ∧ match im with
  | true => ∃ fs, m p = some (.ins C fs) ∧ P (.obj C fs) (mdel m p)
  | false => P (.ref p) m) (fun Ca fs m => PE Ca fs (mdel m p))
theorem RunA.make {im : Bool} {fi : Addr} (r : RunA P w K mg base fi k (n + 1) ks W) (M : Mk K C fi) : RunA P w K mg base C (k + 1) n ks (mkW C im W) := by
  refine ⟨M.kp, fun A outer s H us ws vs Q E hr e0 h1 h2 rv ⟨μ, ds, R, RE, ho, n1, c1, kR, kE⟩ => ?_⟩
  have hn1 : H s.heap.objs.size = none := e0.hok.fresh (Nat.le_refl _)
  have hn2 : H (s.heap.objs.size + 1) = none := e0.hok.fresh (Nat.le_succ _)
  have ne : s.heap.objs.size ≠ s.heap.objs.size + 1 := Nat.ne_of_lt (Nat.lt_succ_self _)
  have sz : (s.heap.push PySem.W.emptyDict).objs.size = s.heap.objs.size + 1 := Heap.size_push _ _
  have g1 : (s.heap.push PySem.W.emptyDict).get? s.heap.objs.size = some PySem.W.emptyDict := Heap.get?_push_size s.heap rfl
  have g2 : ((s.heap.push PySem.W.emptyDict).push (PySem.W.instObj C s.heap.objs.size)).get? (s.heap.objs.size + 1) = some (PySem.W.instObj C s.heap.objs.size) := by
    have := Heap.get?_push_size (s.heap.push PySem.W.emptyDict) (o := PySem.W.instObj C s.heap.objs.size) rfl
    rwa [Heap.size_push] at this
  have g3 : (s.heap.push PySem.W.emptyDict).Ns s.heap.objs.size (fun _ => none) := ⟨PySem.W.emptyDict, #[], _, g1, rfl, (fun e he => absurd he (by simp)), fun _ => rfl⟩
  have e1 : Env0 P w K mg base A outer { s with heap := s.heap.push PySem.W.emptyDict } (upd H s.heap.objs.size (.own (s.heap.objs.size + 1))) := StX.env0_laid e0 ⟨_, g1⟩
  have un1 := StX.un_laid (fs := frs outer) (s := s) (o := PySem.W.emptyDict) (u := .own (s.heap.objs.size + 1)) hn1
  have hn3 : (upd H s.heap.objs.size (.own (s.heap.objs.size + 1))) (s.heap.push PySem.W.emptyDict).objs.size = none := e1.hok.fresh (Nat.le_refl _)
  have new2 : ObjOk P w (upd (upd H s.heap.objs.size (.own (s.heap.objs.size + 1))) (s.heap.push PySem.W.emptyDict).objs.size (.ins C s.heap.objs.size [])) ((s.heap.push PySem.W.emptyDict).push (PySem.W.instObj C s.heap.objs.size)) (s.heap.push PySem.W.emptyDict).objs.size (.ins C s.heap.objs.size []) := by
    rw [sz]
    exact ⟨by rw [upd_ne ne, upd_same], Nat.zero_le _, ne, g2, fun _ => none, (Heap.Ns1.of_empty g3).at fun o q => Heap.get?_push_of_some _ q, fun _ => True.intro, fun y hy => absurd rfl hy⟩
  have e2 := StX.env0_laid (s := { s with heap := s.heap.push PySem.W.emptyDict }) e1 new2
  have un2 := un1.trans (StX.un_laid (fs := frs outer) (s := { s with heap := s.heap.push PySem.W.emptyDict }) (o := PySem.W.instObj C s.heap.objs.size) (u := .ins C s.heap.objs.size []) hn3)
  simp only [sz] at e2 un2
  have s1 : Stp μ H (mset μ (s.heap.objs.size + 1) (.ins C [])) (upd (upd H s.heap.objs.size (.own (s.heap.objs.size + 1))) (s.heap.objs.size + 1) (.ins C s.heap.objs.size [])) :=
    (Stp.new hn1).trans (Stp.newM (by rw [upd_ne (Ne.symm ne)]; exact hn2))
  have h2' : Hold K (mset μ (s.heap.objs.size + 1) (.ins C [])) (upd (upd H s.heap.objs.size (.own (s.heap.objs.size + 1))) (s.heap.objs.size + 1) (.ins C s.heap.objs.size [])) :=
    (ho.new hn1).newM (by rw [upd_ne (Ne.symm ne)]; exact hn2) ⟨_, _, upd_same, .nil⟩
  have k0 := c1 (s.heap.objs.size + 1) (ho.free hn2)
  refine make_map (f := fi) (e0.mod.kin.keeps fun b o e => (e0.bs b o e).1) M.makes M.init (beq_iff_eq.mp M.fn) (codeAny_mono (r.run _ outer _ _ (.ref (s.heap.objs.size + 1) :: us) ws (.ref (s.heap.objs.size + 1) :: vs) (fun v H3 => v = .non ∧ Q (.ref (s.heap.objs.size + 1)) H3) E ⟨hr.r.make C us _, hr.g⟩ (e2.make C us _) (by rw [List.length_cons, h1]) h2 (.cons rfl rv)
    ⟨_, _, _, _, h2', .cons (.ref _) (n1.mono s1), k0, fun v H' d μ' st hh nn pp => ?_, fun Ca dd H' fs vfs μ' st hh ee nn pp => ?_⟩) fun res s' hq => ?_)
  · obtain ⟨rfl, pp⟩ := pp
    refine ⟨nn.inv_non, ?_⟩
    cases im with
    | true =>
      obtain ⟨fs, m, pp⟩ := pp
      obtain ⟨dx, vfs, e, nf⟩ := hh _ _ m
      exact kR _ H' _ _ ((s1.trans st).trans Stp.del) hh.del (.obj mdel_same e (nf.mono Stp.del)) pp
    | false => exact kR _ H' _ μ' (s1.trans st) hh (.ref _) pp
  · exact kE Ca dd H' fs vfs _ ((s1.trans st).trans Stp.del) hh.del ee (nn.mono Stp.del) pp
  · have kp2 : ∀ b o, s.heap.get? b = some o → ((s.heap.push PySem.W.emptyDict).push (PySem.W.instObj C s.heap.objs.size)).get? b = some o := fun b o q => Heap.get?_push_of_some _ (Heap.get?_push_of_some _ q)
    cases res with
    | error e => exact StX.cxUp outer s H { s with heap := (s.heap.push PySem.W.emptyDict).push (PySem.W.instObj C s.heap.objs.size) } _ E e s' un2 kp2 rfl hq
    | ok fl =>
      cases fl with
      | ret u =>
        obtain ⟨v, H', os, ba, un, hk, rv', ev, q3⟩ := hq
        subst ev
        exact ⟨rv', .ref (s.heap.objs.size + 1), H', os, ba, un2.trans un, hk, rfl, q3⟩
      | next => exact False.elim hq
      | brk => exact False.elim hq
      | cont => exact False.elim hq
end
end Hw
set_option Elab.async false
set_option linter.all false
set_option maxRecDepth 100000
set_option maxHeartbeats 2000000
namespace Hw
open PySem L2 PyProof.Rows
/-! ### the arguments of a call -/
/-- the arguments by place, then those by keyword -/
def ArgX (X : Cx) (PE : XP) (μ : Mu) (ds : DS) (es : List Expr) (kws : List Keyword) (W : List D → Mu → Prop) : Prop := match es, kws with
  | [], [] => W [] μ
  | e :: es, [] => AX X PE μ ds (e :: es) fun xs m => xs.length = (e :: es).length ∧ W xs m
  | [], k :: ks => KX X PE μ ds (k :: ks) fun zs m => zs.length = (k :: ks).length ∧ W zs m
  | e :: es, k :: ks => AX X PE μ ds (e :: es) fun xs m => xs.length = (e :: es).length ∧ KX X PE m ds (k :: ks) fun zs m2 => zs.length = (k :: ks).length ∧ W (xs ++ zs) m2
section
variable {X : Cx} {PE : XP} {e o : Expr} {es : List Expr} {kws : List Keyword} {μ : Mu} {ds : DS} {P : DP} {pos apos : Pos} {W : List D → Mu → Prop}
/-- what the callee must keep -/
def CallK (X : Cx) (PE : XP) (μ : Mu) (H : Hp) (pins : List (Addr × Obj)) (σ : L2.St) (ds : DS) (f : Addr) (first : List Value) (n : Nat) (ks : List Str) (W : List D → Mu → Prop) (Q : VK) : Prop :=
  ∀ s2 H2 μ2 us ws vs xs, Inv X pins σ H2 s2 → Stp μ H μ2 H2 → Hold X.K μ2 H2 → Sl X PE μ2 H2 σ ds → Vals vs (us ++ ws) → DenAll X.K μ2 H2 vs xs → us.length = n → ws.length = ks.length → W xs μ2 →
    wpAny (model X.prog X.w) X.A (call (.ref f) (first ++ us) (ks.zip ws)) (EP X pins σ Q) X.xe s2
theorem argx {pins : List (Addr × Obj)} {σ : L2.St} {H : Hp} {s : Shared} {f : Addr} {first : List Value} {Q : VK} (h : ArgX X PE μ ds es kws W) (I : Inv X pins σ H s) (ho : Hold X.K μ H) (hs : Sl X PE μ H σ ds) (hk : PySem.W.keepIn X.K (.ref f) = true)
    (h1 : es.all notStar = true) (h2 : kws.all (·.arg.isSome) = true) (k : CallK X PE μ H pins σ ds f first es.length (kws.filterMap (·.arg)) W Q) :
    wpAny (model X.prog X.w) X.A (callWith pos (.ref f) first (backTo pos (starEach es X.env)) (backToKw pos (keywordEach kws X.env))) (EP X pins σ Q) X.xe s := by
  cases es with
  | nil =>
    cases kws with
    | nil => exact PySem.W.callWith_K0 I.kIn hk (k s H μ [] [] [] [] I (Stp.refl _ _) ho hs .nil .nil rfl rfl h)
    | cons kw kws =>
      refine PySem.W.callWith_KW0 (h₀ := X.base) I.ok.mod.kin hk (kwAll h2) (thn (pk_U.run pos pins s σ H _ I (h.at ho hs fun vs H1 xs μ1 s1 h1 b1 n1 q => (show vs.length = (kw :: kws).length ∧ ∃ μ1 xs, Stp μ H μ1 H1 ∧ Hold X.K μ1 H1 ∧ Sl X PE μ1 H1 σ ds ∧ DenAll X.K μ1 H1 vs xs ∧ W xs μ1 from ⟨by rw [n1.length]; exact q.1, μ1, xs, s1, h1, b1, n1, q.2⟩)))
        fun ws s1 ⟨zs, H1, I1, rz, hl, μ1, xs, s1', h1', b1, n1, q⟩ => ⟨I1.kIn, ?_⟩) (by rw [kwNone h2]; rfl)
      rw [kwNames]
      exact k s1 H1 μ1 [] ws zs xs I1 s1' h1' b1 rz n1 rfl (by rw [← rz.length, hl, kwLen h2]) q
  | cons e es =>
    rw [List.all_cons, Bool.and_eq_true] at h1
    cases kws with
    | nil =>
      refine PySem.W.callWith_K (h₀ := X.base) I.ok.mod.kin hk (thn (pa_U.run pos pins s σ H _ I (h.at ho hs fun vs H1 xs μ1 s1 h1 b1 n1 q => (show vs.length = (e :: es).length ∧ ∃ μ1 xs, Stp μ H μ1 H1 ∧ Hold X.K μ1 H1 ∧ Sl X PE μ1 H1 σ ds ∧ DenAll X.K μ1 H1 vs xs ∧ W xs μ1 from ⟨by rw [n1.length]; exact q.1, μ1, xs, s1, h1, b1, n1, q.2⟩)))
        fun us s1 ⟨vs, H1, I1, r, hl, μ1, xs, s1', h1', b1, n1, q⟩ => ⟨I1.kIn, ?_⟩) (star1 h1.1) (starAny h1.2)
      exact k s1 H1 μ1 us [] vs xs I1 s1' h1' b1 (by rw [List.append_nil]; exact r) n1 (by rw [← r.length]; exact hl) rfl q
    | cons kw kws =>
      refine PySem.W.callWith_KW (h₀ := X.base) I.ok.mod.kin hk (kwAll h2) (thn (pa_U.run pos pins s σ H _ I (h.at ho hs fun vs H1 xs μ1 s1 h1 b1 n1 q =>
          (show vs.length = (e :: es).length ∧ tUK X (kw :: kws) σ H1 fun zs H2 => zs.length = (kw :: kws).length ∧ ∃ μ2 xs, Stp μ H μ2 H2 ∧ Hold X.K μ2 H2 ∧ Sl X PE μ2 H2 σ ds ∧ DenAll X.K μ2 H2 (vs ++ zs) xs ∧ W xs μ2 from
            ⟨by rw [n1.length]; exact q.1, q.2.at h1 b1 fun zs H2 ys μ2 s2 h2 b2 n2 q2 => ⟨by rw [n2.length]; exact q2.1, μ2, xs ++ ys, s1.trans s2, h2, b2, (n1.mono s2).append n2, q2.2⟩⟩)))
        fun us s1 ⟨vs, H1, I1, r, hl, q⟩ => thn (pk_U.run pos pins s1 σ H1 _ I1 q) fun ws s2 ⟨zs, H2, I2, rz, hlz, μ2, xs, s2', h2', b2, n2, q2⟩ => ⟨I2.kIn, ?_⟩) (by rw [kwNone h2, starAny (by rw [List.all_cons, Bool.and_eq_true]; exact h1)]; rfl) (star1 h1.1)
      rw [kwNames]
      exact k s2 H2 μ2 us ws (vs ++ zs) xs I2 s2' h2' b2 (r.append rz) n2 (by rw [← r.length]; exact hl) (by rw [← rz.length, hlz, kwLen h2]) q2
where
  kwLen : ∀ {kws : List Keyword}, kws.all (·.arg.isSome) = true → kws.length = (kws.filterMap (·.arg)).length
    | [], _ => rfl
    | ⟨some x, v, p⟩ :: r, h => by simpa using kwLen (kws := r) (by simpa using h)
    | ⟨none, v, p⟩ :: r, h => by simp at h
/-- .. by a promise at the callee's address -/
theorem callK_run {f : Addr} {k n : Nat} {ks : List Str} {C : CT} {pins : List (Addr × Obj)} {σ : L2.St} {H : Hp} {Q : VK} {first : List Value} {fv : List V} {fd : List D} (r : RunA X.prog X.w X.K X.mg X.base f k (first.length + n) ks C) (hr : Rm k X.A) (rf : Vals fv first) (nf : DenAll X.K μ H fv fd)
    (kk : ∀ v H' d μ', Stp μ H μ' H' → Hold X.K μ' H' → Den X.K μ' H' v d → P d μ' → Q v H') : CallK X PE μ H pins σ ds f first n ks (fun xs m => C (fd ++ xs) m P PE) Q := fun s2 H2 μ2 us ws vs xs I st ho hs rv nv h1 h2 q => by
  refine wpAny_call (codeAny_mono (ret_of I (r.run X.A X.stack s2 H2 (first ++ us) ws (fv ++ vs) Q (Ex0 X) hr I.env0 (by rw [List.length_append, h1]) h2 (by rw [List.append_assoc]; exact rf.append rv) (ex_end ho hs ((nf.mono st).append nv) q st kk))) fun r s' q => ?_)
  match r, q with
  | .error er, q => exact q
  | .ok (.ret _), q => exact q
/-- a call by name -/
theorem ex_callX {x : Str} {k : Nat} {C : CT} {p : Pos} (c : CalG X.prog X.w X.K X.mg X.base x k es.length (kws.filterMap (·.arg)) C) (hr : Rm k X.A) (hg : Gl X x) (hdb : (x == ("__debug__" : Str)) = false) (h1 : es.all notStar = true) (h2 : kws.all (·.arg.isSome) = true)
    (h : ArgX X PE μ ds es kws fun xs m => C xs m P PE) : EX X PE μ ds (.Call (.Name x p) es kws pos) P := by
  obtain ⟨f, hm, r⟩ := c.r
  refine ⟨⟨fun pins s σ H Q I ⟨ho, hs, kk⟩ => ?_⟩⟩
  refine wpAny_Call_Name_kw (ld_glob I hg hm ?_ hdb)
  exact argx h I ho hs r.kp h1 h2 (callK_run (first := []) (fv := []) (fd := []) (by simpa using r) hr .nil .nil kk)
/-! ### *x among the arguments -/
theorem ax_star {P : List D → Mu → Prop} {p : Pos} (h : EX X PE μ ds e fun d μ1 => ∃ ys, (d = .tup ys ∨ d = .lst ys ∨ d = .rol ys) ∧ AX X PE μ1 ds es fun xs μ2 => P (ys ++ xs) μ2) : AX X PE μ ds (.Starred e p :: es) P :=
  ⟨pa_imp (StX.pa_star pe_U pa_U rfl) fun σ H Q ⟨ho, hs, k⟩ => h.at ho hs fun v H1 d μ1 s1 h1 b1 n1 ⟨ys, e, q⟩ => by
    have fin : ∀ a ws, v = .ref a → (SqT X.K H1 a ws ∨ SqL X.K H1 a ws) → DenAll X.K μ1 H1 ws ys → ∃ p xs, v = V.ref p ∧ (SqT X.K H1 p xs ∨ SqL X.K H1 p xs) ∧ tUA X es σ H1 fun ys H2 => Q (xs ++ ys) H2 := fun a ws ev hq dq =>
      ⟨a, ws, ev, hq, q.at h1 b1 fun vs H2 xs μ2 s2 h2 b2 n2 p2 => k _ H2 _ μ2 (s1.trans s2) h2 ((dq.mono s2).append n2) p2⟩
    rcases e with rfl | rfl | rfl
    · obtain ⟨a, ws, e1, q1, d1⟩ := n1.inv_tup
      exact fin a ws e1 (.inl q1) d1
    · obtain ⟨a, ws, e1, _, q1, d1⟩ := n1.inv_lst
      exact fin a ws e1 (.inr (SqL.of q1)) d1
    · obtain ⟨a, ws, e1, q1, d1⟩ := n1.inv_rol
      exact fin a ws e1 (.inr q1) d1⟩
/-- a call's arguments with a star: the first one is none, or the only one is one -/
def argS : List Expr → Bool
  | [.Starred _ _] => true
  | e :: r => notStar e && !(r.all notStar)
  | [] => false
theorem starAny' : ∀ {es : List Expr} {env : Env}, es.all notStar = false → (backTo pos (starEach es env)).any (·.1) = true
  | [], _, h => by cases h
  | e :: es, env, h => by
    cases he : notStar e with
    | true =>
      rw [List.all_cons, he, Bool.true_and] at h
      rw [star1 he]
      have ih := starAny' (es := es) (env := env) h
      simpa [backTo] using ih
    | false =>
      cases e with
      | Starred v p => rfl
      | _ => cases he
/-- what is behind the star -/
def seqK : D → (List D → Prop) → Prop
  | .tup ys, K => K ys
  | .lst ys, K => K ys
  | .rol ys, K => K ys
  | _, _ => False
theorem seqK_of {K : PySem.W.Frag} {H : Hp} {v : V} {d : D} {R : List D → Prop} (n : Den K μ H v d) (h : seqK d R) : ∃ a ws ys, v = .ref a ∧ (SqT K H a ws ∨ SqL K H a ws) ∧ DenAll K μ H ws ys ∧ R ys := by
  cases d with
  | tup ys =>
    obtain ⟨a, ws, e1, q1, d1⟩ := n.inv_tup
    exact ⟨a, ws, ys, e1, .inl q1, d1, h⟩
  | lst ys =>
    obtain ⟨a, ws, e1, _, q1, d1⟩ := n.inv_lst
    exact ⟨a, ws, ys, e1, .inr (SqL.of q1), d1, h⟩
  | rol ys =>
    obtain ⟨a, ws, e1, q1, d1⟩ := n.inv_rol
    exact ⟨a, ws, ys, e1, .inr q1, d1, h⟩
  | _ => exact h.elim
/-- the arguments of a call with a star -/
def ArgSX (X : Cx) (PE : XP) (μ : Mu) (ds : DS) (es : List Expr) (W : List D → Mu → Prop) : Prop := match es with
  | [.Starred e _] => EX X PE μ ds e fun d m => seqK d fun ys => W ys m
  | es => AX X PE μ ds es W
theorem argSx {pins : List (Addr × Obj)} {σ : L2.St} {H : Hp} {s : Shared} {f : Value} {first : List Value} {Q : VK} {PP : Heap → Prop} (ha : argS es = true) (hk : ∀ h, PP h → ∃ k, (k = Keeper.frame ∨ k = Keeper.machine ∨ k = Keeper.boundFrame) ∧ PySem.W.Looks (model X.prog X.w) h (keeperOf f) k)
    (h : ArgSX X PE μ ds es W) (I : Inv X pins σ H s) (ho : Hold X.K μ H) (hs : Sl X PE μ H σ ds)
    (k : ∀ s2 H2 μ2 us vs xs, Inv X pins σ H2 s2 → Stp μ H μ2 H2 → Hold X.K μ2 H2 → Sl X PE μ2 H2 σ ds → Vals vs us → DenAll X.K μ2 H2 vs xs → W xs μ2 → PP s2.heap ∧ wpAny (model X.prog X.w) X.A (call f (first ++ us)) (EP X pins σ Q) X.xe s2) :
    wpAny (model X.prog X.w) X.A (callWith pos f first (backTo pos (starEach es X.env)) []) (EP X pins σ Q) X.xe s := by
  match es, ha, h with
  | [], ha, _ => cases ha
  | e :: r, ha, h =>
    cases he : notStar e with
    | true =>
      have hr : r.all notStar = false := by
        cases e <;> first | (simpa [argS, notStar] using ha) | cases he
      have h' : AX X PE μ ds (e :: r) W := by
        cases e <;> first | exact h | cases he
      have hst : (backTo pos (starEach (e :: r) X.env)).any (·.1) = true := starAny' (by rw [List.all_cons, hr, Bool.and_false])
      have z := thn (Q' := fun vs s₁ => PP s₁.heap ∧ wpAny (model X.prog X.w) X.A (call f (first ++ vs)) (EP X pins σ Q) X.xe s₁) (pa_U.run pos pins s σ H _ I (h'.at ho hs fun vs H1 xs μ1 s1 h1 b1 n1 q => (show ∃ μ1 xs, Stp μ H μ1 H1 ∧ Hold X.K μ1 H1 ∧ Sl X PE μ1 H1 σ ds ∧ DenAll X.K μ1 H1 vs xs ∧ W xs μ1 from ⟨μ1, xs, s1, h1, b1, n1, q⟩)))
        fun us s1 ⟨vs, H1, I1, r, μ1, xs, s1', h1', b1, n1, q⟩ => k s1 H1 μ1 us vs xs I1 s1' h1' b1 r n1 q
      rw [star1 he] at z hst ⊢
      exact PySem.W.ks_call hst hk (Calls.evalArgs_plain z)
    | false =>
      cases e with
      | Starred v p =>
        have hr : r = [] := by
          cases r with
          | nil => rfl
          | cons a b => simp [argS, notStar] at ha
        subst hr
        refine PySem.W.ks_call rfl hk (PySem.W.ks_lone (thn (pe_U.run pins s σ H _ I (EX.at h ho hs fun v H1 d μ1 s1 h1 b1 n1 q => (show ∃ a ws, v = .ref a ∧ (SqT X.K H1 a ws ∨ SqL X.K H1 a ws) ∧ ∃ μ1 xs, Stp μ H μ1 H1 ∧ Hold X.K μ1 H1 ∧ Sl X PE μ1 H1 σ ds ∧ DenAll X.K μ1 H1 ws xs ∧ W xs μ1 from
          let ⟨a, ws, ys, e1, q1, d1, r1⟩ := seqK_of n1 q
          ⟨a, ws, e1, q1, μ1, ys, s1, h1, b1, d1, r1⟩))) fun u s1 ⟨x, H1, I1, rx, a, ws, ex, hq, μ1, xs, s1', h1', b1, n1, q⟩ => ?_))
        subst ex
        obtain rfl : u = Value.ref a := rx
        exact StX.star_any I1 hq fun us s2 I2 rv => k s2 H1 μ1 us ws xs I2 s1' h1' b1 rv n1 q
      | _ => cases he
theorem callS_run {f : Addr} {k : Nat} {C : CT} {pins : List (Addr × Obj)} {σ : L2.St} {H : Hp} {Q : VK} {first : List Value} {fv : List V} {fd : List D} (r : ∀ n, RunA X.prog X.w X.K X.mg X.base f k n [] C) (hr : Rm k X.A) (rf : Vals fv first) (nf : DenAll X.K μ H fv fd)
    (kk : ∀ v H' d μ', Stp μ H μ' H' → Hold X.K μ' H' → Den X.K μ' H' v d → P d μ' → Q v H') : ∀ s2 H2 μ2 us vs xs, Inv X pins σ H2 s2 → Stp μ H μ2 H2 → Hold X.K μ2 H2 → Sl X PE μ2 H2 σ ds → Vals vs us → DenAll X.K μ2 H2 vs xs → C (fd ++ xs) μ2 P PE →
      wpAny (model X.prog X.w) X.A (call (.ref f) (first ++ us)) (EP X pins σ Q) X.xe s2 := fun s2 H2 μ2 us vs xs I st ho hs rv nv q => by
  refine wpAny_call (codeAny_mono (ret_of I ((r _).run X.A X.stack s2 H2 (first ++ us) [] (fv ++ vs) Q (Ex0 X) hr I.env0 rfl rfl (by rw [List.append_nil]; exact rf.append rv) (ex_end ho hs ((nf.mono st).append nv) q st kk))) fun r s' q => ?_)
  match r, q with
  | .error er, q => exact q
  | .ok (.ret _), q => exact q
/-- x(a, .., *y) -/
theorem ex_callS {x : Str} {k : Nat} {C : CT} {p : Pos} (c : ∀ n, CalG X.prog X.w X.K X.mg X.base x k n [] C) (hr : Rm k X.A) (hg : Gl X x) (hdb : (x == ("__debug__" : Str)) = false) (ha : argS es = true) (h : ArgSX X PE μ ds es fun xs m => C xs m P PE) : EX X PE μ ds (.Call (.Name x p) es [] pos) P := by
  obtain ⟨f, hm, r⟩ := (c 0).r
  have r' : ∀ n, RunA X.prog X.w X.K X.mg X.base f k n [] C := fun n => by
    obtain ⟨f', hm', r'⟩ := (c n).r
    rw [hm] at hm'
    cases hm'
    exact r'
  refine ⟨⟨fun pins s σ H Q I ⟨ho, hs, kk⟩ => ?_⟩⟩
  refine wpAny_Call_Name_kw (ld_glob I hg hm ?_ hdb)
  exact argSx (first := []) (PP := X.K.In) ha (PySem.W.keeps_K r.kp) h I ho hs fun s2 H2 μ2 us vs xs I2 st ho2 hs2 rv nv q => ⟨I2.kIn, callS_run (first := []) (fv := []) (fd := []) r' hr .nil .nil kk s2 H2 μ2 us vs xs I2 st ho2 hs2 rv nv q⟩
end
end Hw
set_option Elab.async false
set_option linter.all false
set_option maxRecDepth 100000
set_option maxHeartbeats 2000000
namespace Hw
open PySem L2 PyProof.Rows
/-! ### instances -/
/-- an instance, one that changes or not: its class and its attributes -/
def insK (x : D) (μ : Mu) (R : Addr → List (Str × D) → Prop) : Prop := match x with
  | .obj C fs => R C fs
  | .ref p => ∃ C fs, μ p = some (.ins C fs) ∧ R C fs
  | _ => False
theorem insK_of {K : PySem.W.Frag} {μ : Mu} {H : Hp} {v : V} {x : D} {R : Addr → List (Str × D) → Prop} (ho : Hold K μ H) (n : Den K μ H v x) (h : insK x μ R) : ∃ a C dx vs fs, v = .ref a ∧ H a = some (.ins C dx vs) ∧ DenFs K μ H vs fs ∧ R C fs := by
  cases x with
  | obj C fs =>
    obtain ⟨a, dx, vs, e, _, h1, h2⟩ := n.inv_obj
    exact ⟨a, C, dx, vs, fs, e, h1, h2, h⟩
  | ref p =>
    obtain ⟨C, fs, m, r⟩ := h
    obtain ⟨dx, vs, h1, h2⟩ := ho _ _ m
    exact ⟨p, C, dx, vs, fs, n.inv_ref, h1, h2, r⟩
  | _ => exact h.elim
/-- what an attribute is: a field, a constant of the class, a property -/
inductive AE where
  | fld (Cs : List Addr)
  | con (Cs : List Addr) (d : D)
  | prop (Cs : List Addr) (W : CT)
def inC (C : Addr) : List Addr → Prop
  | [] => False
  | [a] => C = a
  | a :: r => C = a ∨ inC C r
theorem inC_mem {C : Addr} : ∀ {l : List Addr}, inC C l → C ∈ l
  | [a], h => by rw [show C = a from h]; exact List.mem_singleton.mpr rfl
  | a :: b :: r, h => by
    rcases h with h | h
    · rw [h]; exact List.mem_cons_self
    · exact List.mem_cons_of_mem _ (inC_mem h)
def aeW (f : Str) (x : D) (μ : Mu) (PE : XP) (P : DP) : AE → Prop
  | .fld Cs => insK x μ fun C fs => inC C Cs ∧ ∃ d, fs.lookup f = some d ∧ P d μ
  | .con Cs d => insK x μ fun C fs => inC C Cs ∧ fs.lookup f = none ∧ P d μ
  | .prop Cs W => (insK x μ fun C fs => inC C Cs) ∧ W [x] μ P noX
def attrW (f : Str) (x : D) (μ : Mu) (PE : XP) (P : DP) : List AE → Prop
  | [] => False
  | [a] => aeW f x μ PE P a
  | a :: r => aeW f x μ PE P a ∨ attrW f x μ PE P r
/-- x.f is such an attribute -/
def AEok (P : Program) (w : World) (K : PySem.W.Frag) (mg : Str → Option Value) (base : Heap) (k : Nat) (f : Str) : AE → Prop
  | .fld Cs => ∀ C ∈ Cs, Cls K C ∧ NoAttr K C f
  | .con Cs d => ∀ C ∈ Cs, Cls K C ∧ ∃ v u, Con K C f v u ∧ ∀ μ H, Den K μ H v d
  | .prop Cs W => ∀ C ∈ Cs, Cls K C ∧ ∃ p g, PropOf K C f p g ∧ RunA P w K mg base g k 1 [] W
section
variable {X : Cx} {PE : XP} {e o : Expr} {es : List Expr} {kws : List Keyword} {μ : Mu} {ds : DS} {P : DP} {pos apos : Pos} {Z : Po} {tg : Expr}
theorem getpropG {pins : List (Addr × Obj)} {σ : L2.St} {H : Hp} {s : Shared} {Q : VK} {b : Bool} {a C dx p g : Addr} {fs : List (Str × V)} {f : Str} {k : Nat} {W : CT} {E : Value → Shared → Prop} (I : Inv X pins σ H s) (ea : H a = some (.ins C dx fs)) (c : Cls X.K C) (hp : PropOf X.K C f p g)
    (F : RunA X.prog X.w X.K X.mg X.base g k 1 [] W) (hr : Rm (k + 1) X.A) (h : spD X.K W [.ref a] H Q (fun _ _ _ => False)) : wpAny (model X.prog X.w) X.A (getAttr (.ref a) f b) (EP X pins σ Q) E s := by
  obtain ⟨mA, O, _, _, _, _⟩ := ins_get I.hok ea
  obtain ⟨od, J, _⟩ := O.look
  obtain ⟨rest, hrec⟩ := hp.rec_
  have I1 := I.tok (s.toks + 1)
  have hc : (PySem.W.clsIn X.K C).isSome = true := by
    obtain ⟨cd, hc, _⟩ := PySem.W.any_some c.hd
    rw [hc]
    rfl
  refine PySem.W.get_bind I.kIn J (PySem.W.plainGet_of (c.get f)).1 (PySem.W.findObj_data hc hp.at_ hp.get hp.tak) (PySem.W.plainGet_of (c.get f)).2 (wpAny_call (PySem.W.prop_get (s := { s with toks := s.toks + 1 }) I.kIn hrec ?_))
  refine codeAny_mono (F.run X.A.in1 X.stack { s with toks := s.toks + 1 } H [.ref a] [] [.ref a] Q (fun _ _ _ => False) ⟨hr.r.in1, hr.g⟩ I1.env0.in1 rfl rfl (.cons rfl .nil) h) fun r s' hq => ?_
  cases r with
  | error er =>
    obtain ⟨_, _, _, _, _, _, _, _, _, _, _, _, h⟩ := hq
    exact h.elim
  | ok fl =>
    cases fl with
    | ret u =>
      obtain ⟨v, H', I3, rv, q3⟩ := I1.after hq
      show wpAny _ _ (handedOut u) _ _ _
      rw [PySem.W.handedOut_of (handed_of rv)]
      exact wpAny_pure ⟨v, H', I3, rv, q3⟩
    | next => exact False.elim hq
    | brk => exact False.elim hq
    | cont => exact False.elim hq
theorem one_of {f : Str} {x : D} {G : Prop} : ∀ (l : List AE), attrW f x μ PE P l → (∀ ae ∈ l, aeW f x μ PE P ae → G) → G
  | [a], p, one => one a List.mem_cons_self p
  | a :: b :: r, p, one => by
    rcases p with p | p
    · exact one a List.mem_cons_self p
    · exact one_of (b :: r) p fun ae h => one ae (List.mem_cons_of_mem _ h)
/-- x.f -/
theorem get_ae {pins : List (Addr × Obj)} {σ : L2.St} {H : Hp} {s : Shared} {Q : VK} {b : Bool} {f : Str} {k : Nat} {v : V} {u : Value} {x : D} {ae : AE} (I : Inv X pins σ H s) (ho : Hold X.K μ H) (r : RelV v u) (n : Den X.K μ H v x) (ok : AEok X.prog X.w X.K X.mg X.base k f ae) (hr : Rm (k + 1) X.A)
    (kk : ∀ v H' d μ', Stp μ H μ' H' → Hold X.K μ' H' → Den X.K μ' H' v d → P d μ' → Q v H') (h : aeW f x μ PE P ae) : wpAny (model X.prog X.w) X.A (getAttr u f b) (EP X pins σ Q) X.xe s := by
  cases ae with
  | fld Cs =>
    obtain ⟨a, C, dx, vs, fs, rfl, e1, n1, hC, d, hd, p⟩ := insK_of ho n h
    obtain rfl : u = Value.ref a := r
    obtain ⟨v, hv, nv⟩ := n1.look hd
    obtain ⟨c1, c2⟩ := ok C (inC_mem hC)
    exact getattr_ok I e1 c1 c2 hv fun u s' I' ru => ⟨v, H, I', ru, kk v H d μ (Stp.refl _ _) ho nv p⟩
  | con Cs d =>
    obtain ⟨a, C, dx, vs, fs, rfl, e1, n1, hC, hd, p⟩ := insK_of ho n h
    obtain rfl : u = Value.ref a := r
    obtain ⟨c1, v, w, c2, c3⟩ := ok C (inC_mem hC)
    exact getcon_ok I e1 c1 c2 (n1.lookN hd) fun s' I' => ⟨v, H, I', c2.rel, kk v H d μ (Stp.refl _ _) ho (c3 _ _) p⟩
  | prop Cs W =>
    obtain ⟨h1, h2⟩ := h
    obtain ⟨a, C, dx, vs, fs, rfl, e1, n1, hC⟩ := insK_of ho n h1
    obtain rfl : u = Value.ref a := r
    obtain ⟨c1, p, g, c2, c3⟩ := ok C (inC_mem hC)
    exact getpropG I e1 c1 c2 c3 hr ⟨μ, [x], P, noX, ho, .cons n .nil, h2, kk, fun _ _ _ _ _ _ _ _ _ _ q => q.elim⟩
theorem ex_attr {f : Str} {k : Nat} {l : List AE} (ok : ∀ ae ∈ l, AEok X.prog X.w X.K X.mg X.base k f ae) (hr : Rm (k + 1) X.A) (h : EX X PE μ ds e fun x μ1 => attrW f x μ1 PE P l) (hb : attributeBase e f X.env (eval e X.env) = eval e X.env) : EX X PE μ ds (.Attribute e f pos) P := by
  refine ⟨⟨fun pins s σ H Q I ⟨ho, hs, kk⟩ => ?_⟩⟩
  refine attr_of hb (thn (pe_U.run pins s σ H _ I (h.at ho hs fun v H1 x μ1 s1 h1 b1 n1 p => (show ∃ x μ1, Stp μ H μ1 H1 ∧ Hold X.K μ1 H1 ∧ Den X.K μ1 H1 v x ∧ attrW f x μ1 PE P l from ⟨x, μ1, s1, h1, n1, p⟩))) fun u s1 ⟨v, H1, I1, rx, x, μ1, s1', h1, n1, p⟩ => ?_)
  have one : ∀ ae ∈ l, aeW f x μ1 PE P ae → wpAny (model X.prog X.w) X.A (getAttr u f true) (EP X pins σ Q) X.xe s1 := fun ae hae q => get_ae I1 h1 rx n1 (ok ae hae) hr (fun v H' d μ' s2 => kk v H' d μ' (s1'.trans s2)) q
  exact one_of l p one
/-- what is written is not super() -/
def baseB : Expr → Bool
  | .Call (.Name id _) [] [] _ => id != ("super" : Str)
  | _ => true
theorem base_of {e : Expr} {f : Str} {env : Env} {whole : Sem Value} (h : baseB e = true) : attributeBase e f env whole = whole := by
  unfold baseB at h
  split at h
  · exact abase_call h
  · next q =>
    unfold attributeBase
    split
    · next id p pos => exact (q id p pos rfl).elim
    · rfl
/-! ### o.f = d -/
def putD (f : Str) (d : D) : List (Str × D) → List (Str × D)
  | [] => [(f, d)]
  | (g, x) :: r => if g = f then (g, d) :: r else (g, x) :: putD f d r
theorem DenFs.put {K : PySem.W.Frag} {H : Hp} {f : Str} {v : V} {d : D} (n : Den K μ H v d) : ∀ {vs : List (Str × V)} {fs : List (Str × D)}, DenFs K μ H vs fs → DenFs K μ H (putF f v vs) (putD f d fs)
  | _, _, .nil => .cons n .nil
  | _, _, .cons (f := g) a t => by
    unfold putF putD
    split
    · exact .cons n t
    · exact .cons a (DenFs.put n t)
theorem DenFs.length {K : PySem.W.Frag} {H : Hp} : ∀ {vs : List (Str × V)} {fs : List (Str × D)}, DenFs K μ H vs fs → vs.length = fs.length
  | _, _, .nil => rfl
  | _, _, .cons a t => congrArg (· + 1) (DenFs.length t)
def fldW (f : Str) (Cs : List Addr) (x d : D) (μ : Mu) (K : Mu → Prop) : Prop := match x with
  | .ref p => ∃ C fs, μ p = some (.ins C fs) ∧ inC C Cs ∧ fs.length < 1000 ∧ K (mset μ p (.ins C (putD f d fs)))
  | _ => False
theorem sx_fld {f : Str} {Cs : List Addr} {p1 : Pos} (ok : ∀ C ∈ Cs, Cls X.K C ∧ NoAttr X.K C f) (h : EX X PE μ ds e fun d μ1 => EX X PE μ1 ds o fun x μ2 => fldW f Cs x d μ2 fun μ3 => Z.nx ds μ3) (hs : swapsWith e (some (.Attribute o f p1)) pos.line X.env = pure false) : SX X PE μ ds (.Assign [.Attribute o f p1] e pos) Z :=
  sx_of (ps_fld pe_U pe_U hs) fun D σ H ho hs k => h.at ho hs fun v H1 d μ1 s1 h1 b1 n1 q => q.at h1 b1 fun w H2 x μ2 s2 h2 b2 n2 q => by
    cases x with
    | ref p =>
      obtain ⟨C, fs, m, hC, hl, q⟩ := q
      obtain ⟨dx, vs, e1, nf⟩ := h2 p _ m
      obtain ⟨c1, c2⟩ := ok C (inC_mem hC)
      have sw : Stp μ2 H2 (mset μ2 p (.ins C (putD f d fs))) (upd H2 p (.ins C dx (putF f v vs))) := Stp.write m
      exact ⟨p, C, dx, vs, n2.inv_ref, e1, c1, c2, by rw [nf.length]; exact hl, k.nx σ _ ds _ ((s1.trans s2).trans sw) (h2.write (c := .ins C (putD f d fs)) m ⟨dx, _, upd_same, (nf.put (n1.mono s2)).mono sw⟩) (b2.mono sw) q⟩
    | _ => exact q.elim
/-! ### o.m(..), a method of an own class -/
structure ME where
  Cs : List Addr
  n : Nat
  ks : List Str
  W : CT
def MEok (P : Program) (w : World) (K : PySem.W.Frag) (mg : Str → Option Value) (base : Heap) (k : Nat) (m : Str) (e : ME) : Prop := ∀ C ∈ e.Cs, Cls K C ∧ ∃ g, Meth K C m g ∧ RunA P w K mg base g k (e.n + 1) e.ks e.W
def selM (n : Nat) (ks : List Str) (l : List ME) : List ME := l.filter fun e => e.n == n && e.ks == ks
/-- the entry for the receiver's class -/
def pickM (m : Str) (x : D) (μ : Mu) : List ME → (CT → Prop) → Prop
  | [], _ => False
  | [e], R => (insK x μ fun C fs => inC C e.Cs ∧ fs.lookup m = none) ∧ R e.W
  | e :: r, R => ((insK x μ fun C fs => inC C e.Cs ∧ fs.lookup m = none) ∧ R e.W) ∨ pickM m x μ r R
theorem pickM_of {m : Str} {x : D} {μ : Mu} {R : CT → Prop} : ∀ {l : List ME}, pickM m x μ l R → ∃ e ∈ l, (insK x μ fun C fs => inC C e.Cs ∧ fs.lookup m = none) ∧ R e.W
  | [e], h => ⟨e, List.mem_singleton.mpr rfl, h⟩
  | e :: b :: r, h => by
    rcases h with h | h
    · exact ⟨e, List.mem_cons_self, h⟩
    · obtain ⟨e', h1, h2⟩ := pickM_of (l := b :: r) h
      exact ⟨e', List.mem_cons_of_mem _ h1, h2⟩
/-- the tree of a method's call -/
theorem mform {m : Str} {env : Env} (hb : attributeBase o m env (eval o env) = eval o env) (h1 : es.all notStar = true) (h2 : kws.all (·.arg.isSome) = true) (hn : es.length + kws.length + (if kws.isEmpty then 0 else 1) < 30) (hl : (apos.endLine == pos.line) = true) :
    eval (.Call (.Attribute o m apos) es kws pos) env = (do
      let ov ← eval o env
      standAt apos.atName
      let (f, first) ← holding [ov] (getMethod ov m (do return (← importBound o env).getD true))
      callWith pos f first (backTo pos (starEach es env)) (backToKw pos (keywordEach kws env))) := by
  have a1 : (backTo pos (starEach es env)).all (!·.1) = true := by
    have := starAny (pos := pos) (env := env) h1
    rw [List.any_eq_false] at this
    rw [List.all_eq_true]
    intro x hx
    have := this x hx
    simpa using this
  have a2 : (backToKw pos (keywordEach kws env)).isEmpty = kws.isEmpty := by
    cases kws with
    | nil => rfl
    | cons k r => obtain ⟨a, b, c⟩ := k; rfl
  have hf : methodCallForm (es.length + kws.length) (backTo pos (starEach es env)) (backToKw pos (keywordEach kws env)) = true := by
    unfold methodCallForm
    rw [a1, kwAll h2, a2]
    simpa using hn
  refine mcall_of hb fun ov => ?_
  unfold methodCall
  rw [hf]
  unfold calleeOf methodCallPos
  simp only [hl, Bool.not_true, Bool.false_or, if_true]
  rfl
theorem ex_meth {m : Str} {k : Nat} {l : List ME} (ok : ∀ e ∈ l, MEok X.prog X.w X.K X.mg X.base k m e) (hr : Rm k X.A) (hb : attributeBase o m X.env (eval o X.env) = eval o X.env) (h1 : es.all notStar = true) (h2 : kws.all (·.arg.isSome) = true)
    (hn : es.length + kws.length + (if kws.isEmpty then 0 else 1) < 30) (hl : (apos.endLine == pos.line) = true)
    (h : EX X PE μ ds o fun x μ1 => pickM m x μ1 (selM es.length (kws.filterMap (·.arg)) l) fun W => ArgX X PE μ1 ds es kws fun xs μ2 => W (x :: xs) μ2 P PE) : EX X PE μ ds (.Call (.Attribute o m apos) es kws pos) P := by
  refine ⟨⟨fun pins s σ H Q I ⟨ho, hs, kk⟩ => ?_⟩⟩
  refine PySem.W.methodCall_KW (thn (pe_U.run pins s σ H _ I (h.at ho hs fun v H1 x μ1 s1 h1 b1 n1 p => (show ∃ x μ1, Stp μ H μ1 H1 ∧ Hold X.K μ1 H1 ∧ Sl X PE μ1 H1 σ ds ∧ Den X.K μ1 H1 v x ∧ pickM m x μ1 (selM es.length (kws.filterMap (·.arg)) l) fun W => ArgX X PE μ1 ds es kws fun xs μ2 => W (x :: xs) μ2 P PE from ⟨x, μ1, s1, h1, b1, n1, p⟩)))
    fun u s1 ⟨v, H1, I1, rx, x, μ1, s1', h1', b1, n1, p⟩ => ?_) (mform hb h1 h2 hn hl)
  obtain ⟨e, he, hi, q⟩ := pickM_of p
  obtain ⟨a, C, dx, vs, fs, rfl, e1, nf, hC, hl⟩ := insK_of h1' n1 hi
  obtain rfl : u = Value.ref a := rx
  rw [selM, List.mem_filter, Bool.and_eq_true, beq_iff_eq, beq_iff_eq] at he
  obtain ⟨c1, g, c2, c3⟩ := ok e he.1 C (inC_mem hC)
  refine getmeth_ok I1 e1 c1 c2 (nf.lookN hl) ?_
  refine argx q I1 h1' b1 c2.kp h1 h2 (callK_run (C := e.W) (first := [.ref a]) (fv := [.ref a]) (fd := [x]) ?_ hr (.cons rfl .nil) (.cons n1 .nil) fun v H' d μ' s2 => kk v H' d μ' (s1'.trans s2))
  rw [← he.2.1, ← he.2.2, show [Value.ref a].length + e.n = e.n + 1 from Nat.add_comm _ _]
  exact c3
end
end Hw
set_option Elab.async false
set_option linter.all false
set_option maxRecDepth 100000
set_option maxHeartbeats 2000000
namespace Hw
open PySem L2 PyProof.Rows ClX
section
variable {X : Cx} {PE : XP} {e o : Expr} {es : List Expr} {kws : List Keyword} {μ : Mu} {ds : DS} {P : DP} {pos apos : Pos} {Z : Po} {tg : Expr}
/-- C.f is a constant -/
def CConst (K : PySem.W.Frag) (C : Addr) (f : Str) (d : D) : Prop := ∃ mc v u, CRead K C mc ∧ CVal K C mc f v u ∧ ∀ μ H, Den K μ H v d
theorem ex_cval {f : Str} {C : Addr} {d : D} (ok : CConst X.K C f d) (h : EX X PE μ ds e fun x μ1 => x = .ref C ∧ P d μ1) (hb : attributeBase e f X.env (eval e X.env) = eval e X.env) : EX X PE μ ds (.Attribute e f pos) P := by
  obtain ⟨mc, v, u, c1, c2, c3⟩ := ok
  exact ex_of (pe_cval pe_U hb) fun σ H Q ho hs k => h.at ho hs fun w H1 x μ1 s1 h1 b1 n1 ⟨e, p⟩ => by
    subst e
    exact ⟨C, mc, v, u, n1.inv_ref, c1, c2, k v H1 d μ1 s1 h1 (c3 _ _) p⟩
/-- C.m is a staticmethod -/
structure CSta (K : PySem.W.Frag) (C : Addr) (m : Str) (g : Addr) : Prop where
  ex : ∃ mc p, CRead K C mc ∧ PySem.W.findCls K (.ref C) mc m = some (.get (.builtin "staticmethod.__get__") (.ref p) .none (.ref C)) ∧ ∃ rest, PySem.W.recIn K p "staticmethod" = some (.ref g :: rest)
theorem ex_smeth {m : Str} {C g : Addr} {k : Nat} {W : CT} (ok : CSta X.K C m g) (R : RunA X.prog X.w X.K X.mg X.base g k es.length (kws.filterMap (·.arg)) W) (hr : Rm k X.A) (hb : attributeBase o m X.env (eval o X.env) = eval o X.env) (h1 : es.all notStar = true) (h2 : kws.all (·.arg.isSome) = true)
    (hn : es.length + kws.length + (if kws.isEmpty then 0 else 1) < 30) (hl : (apos.endLine == pos.line) = true)
    (h : EX X PE μ ds o fun x μ1 => x = .ref C ∧ ArgX X PE μ1 ds es kws fun xs μ2 => W xs μ2 P PE) : EX X PE μ ds (.Call (.Attribute o m apos) es kws pos) P := by
  obtain ⟨mc, p, c1, c2, rest, c3⟩ := ok.ex
  refine ⟨⟨fun pins s σ H Q I ⟨ho, hs, kk⟩ => ?_⟩⟩
  refine PySem.W.methodCall_KW (thn (pe_U.run pins s σ H _ I (h.at ho hs fun v H1 x μ1 s1 h1 b1 n1 p => (show v = .ref C ∧ ∃ μ1, Stp μ H μ1 H1 ∧ Hold X.K μ1 H1 ∧ Sl X PE μ1 H1 σ ds ∧ ArgX X PE μ1 ds es kws fun xs μ2 => W xs μ2 P PE from ⟨by obtain ⟨rfl, _⟩ := p; exact n1.inv_ref, μ1, s1, h1, b1, p.2⟩)))
    fun u s1 ⟨v, H1, I1, rx, ev, μ1, s1', h1', b1, q⟩ => ?_) (mform hb h1 h2 hn hl)
  subst ev
  obtain rfl : u = Value.ref C := rx
  refine PySem.W.method_cls I1.kIn c1.ga (PySem.W.cls_bind I1.kIn c1.rd c2 (wpAny_call (PySem.W.sm_get (s := { s1 with toks := s1.toks + 1 }) I1.kIn c3 (PySem.W.handed_on rfl ?_))))
  exact argx q (I1.tok _) h1' b1 R.kp h1 h2 (callK_run (C := W) (first := []) (fv := []) (fd := []) (by simpa using R) hr .nil .nil fun v H' d μ' s2 => kk v H' d μ' (s1'.trans s2))
end
end Hw
set_option Elab.async false
set_option linter.all false
set_option maxRecDepth 100000
set_option maxHeartbeats 2000000
namespace Hw
open PySem L2 PyProof.Rows
/-! ### methods of built-in types -/
/-- a reading of a method, on data -/
def rDM (K : PySem.W.Frag) (ok : D → List D → Mu → DP → Prop) : V → List V → Hp → VK → Prop := fun x xs H Q => ∃ μ dx ds P, Hold K μ H ∧ Den K μ H x dx ∧ DenAll K μ H xs ds ∧ ok dx ds μ P ∧ ∀ v H' d μ', Stp μ H μ' H' → Hold K μ' H' → Den K μ' H' v d → P d μ' → Q v H'
inductive BN where
  | append | insert | extend | lpop | lclear | join | split | partition | startswith
/-- their receivers -/
def bnR : BN → D → Mu → Prop
  | .append, .ref p, μ => ∃ l, μ p = some (.lst l)
  | .insert, .ref p, μ => ∃ l, μ p = some (.lst l)
  | .extend, .ref p, μ => ∃ l, μ p = some (.lst l)
  | .lpop, .ref p, μ => ∃ l, μ p = some (.lst l)
  | .lclear, .ref p, μ => ∃ l, μ p = some (.lst l)
  | .join, .str _, _ => True
  | .split, .str _, _ => True
  | .partition, .str _, _ => True
  | .startswith, .str _, _ => True
  | _, _, _ => False
def strsD : List D → Option (List Str)
  | [] => some []
  | .str s :: r => match strsD r with
    | some l => some (s :: l)
    | none => none
  | _ => none
def joinW (s : Str) (y : D) (K : Str → Prop) : Prop := seqK y fun l => ∃ ys : List Str, l = ys.map .str ∧ (ys.map (·.length)).sum + ys.length * s.length ≤ 16777216 ∧ K (Txt.join s ys)
/-- what they do -/
def bnW : BN → D → List D → Mu → DP → Prop
  | .append, .ref p, [d], μ, P => ∃ l, μ p = some (.lst l) ∧ l.length < sizeLine ∧ P .non (mset μ p (.lst (l ++ [d])))
  | .insert, .ref p, [.int i, d], μ, P => ∃ l, μ p = some (.lst l) ∧ l.length < sizeLine ∧ 0 ≤ i ∧ i < 2 ^ 63 ∧ P .non (mset μ p (.lst (l.take i.toNat ++ [d] ++ l.drop i.toNat)))
  | .extend, .ref p, [.lst y], μ, P => ∃ l, μ p = some (.lst l) ∧ l.length + y.length ≤ sizeLine ∧ P .non (mset μ p (.lst (l ++ y)))
  | .lpop, .ref p, [], μ, P => ∃ l d, μ p = some (.lst l) ∧ l[l.length - 1]? = some d ∧ P d (mset μ p (.lst l.dropLast))
  | .lpop, .ref p, [.int i], μ, P => ∃ l k d, μ p = some (.lst l) ∧ -(2 ^ 63) ≤ i ∧ i < 2 ^ 63 ∧ seqIndex? i l.length = some k ∧ l[k]? = some d ∧ P d (mset μ p (.lst (l.eraseIdx k)))
  | .lclear, .ref p, [], μ, P => ∃ l, μ p = some (.lst l) ∧ P .non (mset μ p (.lst []))
  | .join, .str s, [y], μ, P => joinW s y fun z => P (.str z) μ
  | .split, .str a, [.str b], μ, P => (b.length == 0) = false ∧ a.length + 2 ≤ sizeLine ∧ P (.lst ((Txt.split a b).map .str)) μ
  | .partition, .str a, [.str b], μ, P => (b.length == 0) = false ∧ a.length ≤ sizeLine ∧ P (.tup [.str (Txt.partition a b).1, .str (Txt.partition a b).2.1, .str (Txt.partition a b).2.2]) μ
  | .startswith, .str a, [.str b], μ, P => P (.bl (Txt.startswith a b)) μ
  | _, _, _, _, _ => False
def bnTy : BN → String
  | .append => "list" | .insert => "list" | .extend => "list" | .lpop => "list" | .lclear => "list"
  | .join => "str" | .split => "str" | .partition => "str" | .startswith => "str"
def bnId : BN → String
  | .append => "list.append" | .insert => "list.insert" | .extend => "list.extend" | .lpop => "list.pop" | .lclear => "list.clear"
  | .join => "str.join" | .split => "str.split" | .partition => "str.partition" | .startswith => "str.startswith"
def bnNm : BN → Str
  | .append => "append" | .insert => "insert" | .extend => "extend" | .lpop => "pop" | .lclear => "clear"
  | .join => "join" | .split => "split" | .partition => "partition" | .startswith => "startswith"
section
variable {X : Cx} {PE : XP} {e o : Expr} {es : List Expr} {kws : List Keyword} {μ : Mu} {ds : DS} {P : DP} {pos apos : Pos} {Z : Po} {tg : Expr}
theorem DenAll.two' {K : PySem.W.Frag} {H : Hp} {vs : List V} {x y : D} (h : DenAll K μ H vs [x, y]) : ∃ v w, vs = [v, w] ∧ Den K μ H v x ∧ Den K μ H w y := by
  cases h with
  | cons a t =>
    cases t with
    | cons b t =>
      cases t
      exact ⟨_, _, rfl, a, b⟩
theorem DenAll.zero' {K : PySem.W.Frag} {H : Hp} {vs : List V} (h : DenAll K μ H vs []) : vs = [] := by cases h; rfl
theorem DenAll.dropLast {K : PySem.W.Frag} {H : Hp} {vs : List V} {xs : List D} (h : DenAll K μ H vs xs) : DenAll K μ H vs.dropLast xs.dropLast := by
  rw [List.dropLast_eq_take, List.dropLast_eq_take, h.length]
  exact h.take _
theorem DenAll.eraseIdx {K : PySem.W.Frag} {H : Hp} : ∀ {vs : List V} {xs : List D} (i : Nat), DenAll K μ H vs xs → DenAll K μ H (vs.eraseIdx i) (xs.eraseIdx i)
  | _, _, _, .nil => .nil
  | _, _, 0, .cons _ t => t
  | _, _, i + 1, .cons a t => .cons a (DenAll.eraseIdx i t)
theorem DenAll.ofStrs {K : PySem.W.Frag} {H : Hp} : ∀ (l : List Str), DenAll K μ H (l.map V.str) (l.map .str)
  | [] => .nil
  | s :: r => .cons (.str s) (DenAll.ofStrs r)
/-- a list that changes, changed -/
theorem lput {K : PySem.W.Frag} {H : Hp} {p : Addr} {l l' : List D} {vs' : List V} {v : V} {d : D} {Q : VK} (ho : Hold K μ H) (m : μ p = some (.lst l)) (hv : DenAll K μ H vs' l') (nv : Den K μ H v d) (k : ∀ v H' d μ', Stp μ H μ' H' → Hold K μ' H' → Den K μ' H' v d → P d μ' → Q v H') (h : P d (mset μ p (.lst l'))) : Q v (upd H p (.lst vs')) :=
  have sw : Stp μ H (mset μ p (.lst l')) (upd H p (.lst vs')) := Stp.write m
  k v _ d _ sw (ho.write (c := .lst l') m ⟨vs', upd_same, hv.mono sw⟩) (nv.mono sw) h
theorem mt_bn (b : BN) : MtR X (bnId b) (rDM X.K (bnW b)) := by
  intro pins s σ H x vs v us Q I r rs h
  obtain ⟨μ, dx, ds, P, ho, nx, ns, ok, k⟩ := h
  unfold bnW at ok
  split at ok
  · obtain ⟨l, m, hl, p⟩ := ok
    obtain ⟨w, rfl, nw⟩ := ns.one
    obtain ⟨ws, hw, dw⟩ := ho _ _ m
    exact mt_append pins s σ H x _ v us Q I r rs ⟨_, ws, w, nx.inv_ref, rfl, hw, by rw [dw.length]; exact hl, lput ho m (dw.append (.cons nw .nil)) .non k p⟩
  · obtain ⟨l, m, hl, h0, h1, p⟩ := ok
    obtain ⟨w, u, rfl, nw, nu⟩ := ns.two'
    obtain ⟨ws, hw, dw⟩ := ho _ _ m
    exact mt_insert pins s σ H x _ v us Q I r rs ⟨_, ws, _, u, nx.inv_ref, by rw [nw.inv_int], hw, by rw [dw.length]; exact hl, h0, h1, lput ho m (((dw.take _).append (.cons nu .nil)).append (dw.drop _)) .non k p⟩
  · obtain ⟨l, m, hl, p⟩ := ok
    obtain ⟨w, rfl, nw⟩ := ns.one
    obtain ⟨ws, hw, dw⟩ := ho _ _ m
    obtain ⟨a, zs, e1, _, h1, d1⟩ := nw.inv_lst
    exact mt_extend pins s σ H x _ v us Q I r rs ⟨_, a, ws, zs, nx.inv_ref, by rw [e1], hw, h1, by rw [dw.length, d1.length]; exact hl, lput ho m (dw.append d1) .non k p⟩
  · obtain ⟨l, d, m, hl, p⟩ := ok
    obtain rfl := ns.zero'
    obtain ⟨ws, hw, dw⟩ := ho _ _ m
    obtain ⟨u, hu, nu⟩ := dw.getD hl
    exact mt_pop pins s σ H x _ v us Q I r rs ⟨_, ws, u, nx.inv_ref, rfl, hw, by rw [dw.length]; exact hu, lput ho m dw.dropLast nu k p⟩
  · obtain ⟨l, j, d, m, h1, h2, h3, hl, p⟩ := ok
    obtain ⟨w, rfl, nw⟩ := ns.one
    obtain ⟨ws, hw, dw⟩ := ho _ _ m
    obtain ⟨u, hu, nu⟩ := dw.getD hl
    exact mt_popAt pins s σ H x _ v us Q I r rs ⟨_, ws, _, j, u, nx.inv_ref, by rw [nw.inv_int], hw, h1, h2, by rw [dw.length]; exact h3, hu, lput ho m (dw.eraseIdx j) nu k p⟩
  · obtain ⟨l, m, p⟩ := ok
    obtain rfl := ns.zero'
    obtain ⟨ws, hw, dw⟩ := ho _ _ m
    exact mt_clear pins s σ H x _ v us Q I r rs ⟨_, ws, nx.inv_ref, rfl, hw, lput ho m .nil .non k p⟩
  · obtain ⟨w, rfl, nw⟩ := ns.one
    obtain ⟨a, ws, ys, e1, hq, dq, zs, ez, hz, p⟩ := seqK_of nw ok
    subst ez
    exact mt_join pins s σ H x _ v us Q I r rs ⟨_, a, zs, nx.inv_str, by rw [e1], by rw [← dq.strs]; exact hq.symm, hz, k _ H _ μ (Stp.refl _ _) ho (.str _) p⟩
  · obtain ⟨h1, h2, p⟩ := ok
    obtain ⟨w, rfl, nw⟩ := ns.one
    exact mt_split pins s σ H x _ v us Q I r rs ⟨_, _, nx.inv_str, by rw [nw.inv_str], h1, h2, fun q nq => k _ _ _ μ (Stp.new nq) (ho.new nq) (.lst (ho.free nq) upd_same (DenAll.ofStrs _)) p⟩
  · obtain ⟨h1, h2, p⟩ := ok
    obtain ⟨w, rfl, nw⟩ := ns.one
    exact mt_partition pins s σ H x _ v us Q I r rs ⟨_, _, nx.inv_str, by rw [nw.inv_str], h1, h2, fun q nq => k _ _ _ μ (Stp.new nq) (ho.new nq) (.tup (ho.free nq) upd_same (.cons (.str _) (.cons (.str _) (.cons (.str _) .nil)))) p⟩
  · obtain ⟨w, rfl, nw⟩ := ns.one
    exact mt_startswith pins s σ H x _ v us Q I r rs ⟨_, _, nx.inv_str, by rw [nw.inv_str], k _ H _ μ (Stp.refl _ _) ho (.bl _) ok⟩
  · exact ok.elim
theorem bn_ty {K : PySem.W.Frag} {H : Hp} {b : BN} {x : V} {d : D} (ho : Hold K μ H) (n : Den K μ H x d) (h : bnR b d μ) : tyV K (bnTy b) x H := by
  unfold bnR at h
  split at h
  all_goals first
    | (obtain ⟨l, m⟩ := h
       obtain ⟨ws, hw, dw⟩ := ho _ _ m
       rw [n.inv_ref]
       exact .inl ⟨rfl, ws, SqL.of hw⟩)
    | (rw [n.inv_str]; exact rfl)
    | exact h.elim
theorem bn_facts (b : BN) : PlainAttrs (bnTy b) ∧ Slot (bnTy b) (bnNm b) (bnId b) ∧ typeOf (.builtin (bnId b)) = pure (.type "method_descriptor") := by
  cases b
  · exact ⟨F.plainAttrs_list, F.slot_list_append, F.type_list_append⟩
  · exact ⟨F.plainAttrs_list, F.slot_list_insert, F.type_list_insert⟩
  · exact ⟨F.plainAttrs_list, F.slot_list_extend, F.type_list_extend⟩
  · exact ⟨F.plainAttrs_list, F.slot_list_pop, F.type_list_pop⟩
  · exact ⟨F.plainAttrs_list, F.slot_list_clear, F.type_list_clear⟩
  · exact ⟨F.plainAttrs_str, F.slot_str_join, F.type_str_join⟩
  · exact ⟨F.plainAttrs_str, F.slot_str_split, F.type_str_split⟩
  · exact ⟨F.plainAttrs_str, F.slot_str_partition, F.type_str_partition⟩
  · exact ⟨F.plainAttrs_str, F.slot_str_startswith, F.type_str_startswith⟩
/-- o.m(..) -/
theorem ex_bn0 {b : BN} (h : EX X PE μ ds o fun x μ1 => bnR b x μ1 ∧ bnW b x [] μ1 P) (hb : attributeBase o (bnNm b) X.env (eval o X.env) = eval o X.env) (hl : (apos.endLine == pos.line) = true) : EX X PE μ ds (.Call (.Attribute o (bnNm b) apos) [] [] pos) P :=
  ex_of (pe_bm0 (bn_facts b).1 (bn_facts b).2.1 (bn_facts b).2.2 (mt_bn b) pe_U hb hl) fun σ H Q ho hs k => h.at ho hs fun v H1 x μ1 s1 h1 b1 n1 ⟨p1, p2⟩ => ⟨bn_ty h1 n1 p1, μ1, x, [], P, h1, n1, .nil, p2, fun w H2 d μ2 s2 h2 n2 p => k w H2 d μ2 (s1.trans s2) h2 n2 p⟩
theorem ex_bn {b : BN} (h : EX X PE μ ds o fun x μ1 => bnR b x μ1 ∧ AX X PE μ1 ds (e :: es) fun xs μ2 => bnW b x xs μ2 P) (hb : attributeBase o (bnNm b) X.env (eval o X.env) = eval o X.env) (h1 : (e :: es).all notStar = true) (hn : (e :: es).length < 30) (hl : (apos.endLine == pos.line) = true) : EX X PE μ ds (.Call (.Attribute o (bnNm b) apos) (e :: es) [] pos) P := by
  have h1' := h1
  rw [List.all_cons, Bool.and_eq_true] at h1'
  have a1 : (backTo pos (starEach (e :: es) X.env)).all (!·.1) = true := by
    have := starAny (pos := pos) (env := X.env) h1
    rw [List.any_eq_false] at this
    rw [List.all_eq_true]
    intro x hx
    have := this x hx
    simpa using this
  refine ex_of (pe_bm (bn_facts b).1 (bn_facts b).2.1 (bn_facts b).2.2 (mt_bn b) pe_U pa_U hb ?_ hl (star1 h1'.1) (starAny h1'.2)) fun σ H Q ho hs k => h.at ho hs fun v H1 x μ1 s1 h1 b1 n1 ⟨p1, p2⟩ => ⟨bn_ty h1 n1 p1, p2.at h1 b1 fun vs H2 xs μ2 s2 h2 b2 n2 p => ⟨μ2, x, xs, P, h2, n1.mono s2, n2, p, fun w H3 d μ3 s3 h3 n3 p => k w H3 d μ3 ((s1.trans s2).trans s3) h3 n3 p⟩⟩
  rw [a1]
  simpa [backToKw, keywordEach] using hn
end
end Hw
set_option Elab.async false
set_option linter.all false
set_option maxRecDepth 100000
set_option maxHeartbeats 2000000
namespace Hw
open PySem L2 PyProof.Rows
/-! ### a local object that changes: made, changed, told no more -/
section
variable {X : Cx} {PE : XP} {e a b c elt tg iter : Expr} {es ifs : List Expr} {μ : Mu} {ds : DS} {P : DP} {pos : Pos} {Z : Po} {p : Addr}
/-- .. once p is told no more -/
def xdel (PE : XP) (p : Addr) : XP := fun a fs m => PE a fs (mdel m p)
def zdel (Z : Po) (p : Addr) : Po := { nx := fun s m => Z.nx s (mdel m p), rt := fun d m => Z.rt d (mdel m p), bk := fun s m => Z.bk s (mdel m p), ct := fun s m => Z.ct s (mdel m p) }
theorem Exc.del {H : Hp} (x : Exc X PE μ H) : Exc X (xdel PE p) μ H := fun Ca dd H' fs vfs μ' σ s h e n q => x Ca dd H' fs vfs (mdel μ' p) σ (s.trans Stp.del) h.del e (n.mono Stp.del) q
theorem Sl.del {H : Hp} {σ : L2.St} (x : Sl X PE μ H σ ds) : Sl X (xdel PE p) μ H σ ds := ⟨x.d, x.x.del⟩
/-- the exceptions of a call that took place under the old wish are exceptions under it -/
theorem ssx_del {l : List Stmt} (h : SSX X (xdel PE p) μ ds l Z) : SSX X PE μ ds l Z := ⟨pss_imp h.pss fun D σ H ⟨ho, hs, m⟩ => ⟨ho, hs.del, fun σ' H' ds' μ' s h n q => m.nx σ' H' ds' μ' s h ⟨n.d, fun Ca dd H2 fs vfs μ2 σ s2 => hs.x Ca dd H2 fs vfs μ2 σ (s.trans s2)⟩ q, m.rt,
  fun σ' H' ds' μ' s h n q => m.bk σ' H' ds' μ' s h ⟨n.d, fun Ca dd H2 fs vfs μ2 σ s2 => hs.x Ca dd H2 fs vfs μ2 σ (s.trans s2)⟩ q, fun σ' H' ds' μ' s h n q => m.ct σ' H' ds' μ' s h ⟨n.d, fun Ca dd H2 fs vfs μ2 σ s2 => hs.x Ca dd H2 fs vfs μ2 σ (s.trans s2)⟩ q⟩⟩
theorem ssx_zdel {l : List Stmt} (h : SSX X PE μ ds l (zdel Z p)) : SSX X PE μ ds l Z := ⟨pss_imp h.pss fun D σ H ⟨ho, hs, m⟩ => ⟨ho, hs, fun σ' H' ds' μ' s h n q => m.nx σ' H' ds' _ (s.trans Stp.del) h.del (n.mono Stp.del) q, fun v H' d μ' s h n q => m.rt v H' d _ (s.trans Stp.del) h.del (n.mono Stp.del) q,
  fun σ' H' ds' μ' s h n q => m.bk σ' H' ds' _ (s.trans Stp.del) h.del (n.mono Stp.del) q, fun σ' H' ds' μ' s h n q => m.ct σ' H' ds' _ (s.trans Stp.del) h.del (n.mono Stp.del) q⟩⟩
/-- what it is from now on -/
def frzD : MD → Option D
  | .lst xs => some (.lst xs)
  | .dic kvs => some (.dic kvs)
  | .ins C fs => some (.obj C fs)
  | .tbl _ => none
theorem Hold.frz {K : PySem.W.Frag} {H : Hp} {c : MD} {d : D} (ho : Hold K μ H) (m : μ p = some c) (hd : frzD c = some d) : Den K (mdel μ p) H (.ref p) d := by
  have h := ho _ _ m
  cases c with
  | lst xs => cases hd; obtain ⟨vs, e, n⟩ := h; exact .lst mdel_same e (n.mono Stp.del)
  | dic kvs => cases hd; obtain ⟨vs, e, n⟩ := h; exact .dic mdel_same e (n.mono Stp.del)
  | ins C fs => cases hd; obtain ⟨dx, vs, e, n⟩ := h; exact .obj mdel_same e (n.mono Stp.del)
  | tbl q => cases hd
/-- at the slot i -/
def frzW (i : Nat) (p : Addr) (ds : DS) (μ : Mu) (K : DS → Mu → Prop) : Prop := ∃ c d, ds[i]? = some (some (.ref p)) ∧ μ p = some c ∧ frzD c = some d ∧ K (ds.set i (some d)) (mdel μ p)
theorem ssx_frz {l : List Stmt} {i : Nat} (h : frzW i p ds μ fun ds1 μ1 => SSX X PE μ1 ds1 l Z) : SSX X PE μ ds l Z := by
  obtain ⟨c, d, hi, m, hd, q⟩ := h
  refine ⟨⟨fun pins s σ H D I ⟨ho, hs, mm⟩ => q.pss.run pins s σ H D I ⟨ho.del, ?_, mm.later Stp.del⟩⟩⟩
  obtain ⟨v, e, n⟩ := hs.d.2 i _ hi
  have ev := n.inv_ref
  subst ev
  have s2 := (hs.mono (Stp.del (a := p))).set (j := i) (ho.frz m hd)
  have hl : i < σ.length := (List.getElem?_eq_some_iff.mp e).1
  have es : σ.set i (some (V.ref p)) = σ := by
    apply List.ext_getElem?
    intro k
    by_cases hk : i = k
    · subst hk; rw [List.getElem?_set_self hl, e]
    · rw [List.getElem?_set_ne hk]
  rw [es] at s2
  exact s2
/-- one block behind another -/
theorem execs_app {M : Model} {Γ : Ctx} {env : Env} {Q : Flow → Pos → Shared → Prop} {E : Value → Pos → Shared → Prop} : ∀ {l1 l2 : List Stmt} {p s}, Sem.wp M Γ (execs l1 env) (fun f p' s' => match f with | .next => Sem.wp M Γ (execs l2 env) Q E p' s' | f => Q f p' s') E p s → Sem.wp M Γ (execs (l1 ++ l2) env) Q E p s
  | [], l2, p, s, h => h
  | st :: l1, l2, p, s, h => by
    rw [List.cons_append, execs_cons, Sem.wp_bind']
    rw [execs_cons, Sem.wp_bind'] at h
    refine Sem.wp_mono M Γ _ (fun f p' s' h' => ?_) (fun _ _ _ h' => h') _ _ h
    cases f with
    | next => exact execs_app h'
    | _ => exact h'
theorem execs_append {M : Model} {A : Around} {E : Value → Shared → Prop} {env : Env} {Q : Flow → Shared → Prop} {l1 l2 : List Stmt} {s : Shared} (h : wpAny M A (execs l1 env) (fun f s' => match f with | .next => wpAny M A (execs l2 env) Q E s' | f => Q f s') E s) : wpAny M A (execs (l1 ++ l2) env) Q E s := fun Γ q hΓ => by
  refine execs_app (Sem.wp_mono M Γ _ (fun f p' s' h' => ?_) (fun _ _ _ h' => h') _ _ (h Γ q hΓ))
  cases f with
  | next => exact h' Γ p' hΓ
  | _ => exact h'
theorem ssx_app {l1 l2 : List Stmt} (h : SSX X PE μ ds l1 { Z with nx := fun ds1 μ1 => SSX X PE μ1 ds1 l2 Z }) : SSX X PE μ ds (l1 ++ l2) Z := by
  refine ⟨⟨fun pins s σ H D I ⟨ho, hs, m⟩ => execs_append (wpAny_mono (h.pss.run pins s σ H { D with nx := fun σ' H' => ∃ ds' μ', Stp μ H μ' H' ∧ Hold X.K μ' H' ∧ Sl X PE μ' H' σ' ds' ∧ SSX X PE μ' ds' l2 Z } I ⟨ho, hs, ⟨fun σ' H' ds' μ' s1 h1 n1 p => ⟨ds', μ', s1, h1, n1, p⟩, m.rt, m.bk, m.ct⟩⟩) (fun f s' q => ?_) fun _ _ q => q)⟩⟩
  cases f with
  | next =>
    obtain ⟨σ', H', I', ds', μ', s1, h1, n1, p⟩ := q
    exact p.pss.run pins s' σ' H' D I' ⟨h1, n1, m.later s1⟩
  | ret v => exact q
  | brk => exact q
  | cont => exact q
end
section
variable {X : Cx} {PE : XP} {e a b c elt tg iter : Expr} {es ifs : List Expr} {μ : Mu} {ds : DS} {P : DP} {pos : Pos} {Z : Po}
theorem lc_readM {scope : Scope} {own : List Nat} {σ : L2.St} {H : Hp} {Q : VK} (ho : Hold X.K μ H) (hs : Sl X PE μ H σ ds)
    (h : IX X PE μ ds tg iter fun xs μ1 => xs.length ≤ sizeLine ∧ ∀ L, μ1 L = none → ∃ I : Nat → List D → Mu → Prop, I 0 [] μ1 ∧
      (∀ i x acc μi, xs[i]? = some x → I i acc μi → acc.length ≤ i → μi L = none → Turn1 X scope ds own tg ifs elt x (mset μi L (.lst acc)) fun o μ3 => ∃ μ3', μ3 = mset μ3' L (.lst acc) ∧ μ3' L = none ∧ I (i + 1) (addO acc o) μ3') ∧
      ∀ acc μn, I xs.length acc μn → P (.ref L) (mset μn L (.lst acc)))
    (k : ∀ v H' d μ', Stp μ H μ' H' → Hold X.K μ' H' → Den X.K μ' H' v d → P d μ' → Q v H') :
    tLc (tUI X tg iter) (tgB X scope tg) (ttB X scope ifs) (teB X scope elt) own σ H Q :=
  h.at ho hs fun J H1 xs μ1 s1 h1 b1 it ⟨hz, hI⟩ => fun L nL => by
    obtain ⟨I, i0, step, fin⟩ := hI L (h1.free nL)
    exact
    ⟨fun i mm H2 => i + mm = xs.length ∧ ∃ acc μi, I i acc μi ∧ acc.length ≤ i ∧ μi L = none ∧ Hold X.K (mset μi L (.lst acc)) H2 ∧ Stp μ1 H1 (mset μi L (.lst acc)) H2,
      ⟨xs.length, Nat.zero_add _, [], μ1, i0, Nat.le_refl _, h1.free nL, h1.newM (c := .lst []) nL ⟨[], upd_same, .nil⟩, Stp.newM nL⟩, fun i mm H2 ⟨hm, acc, μi, hi, hl, nl, h2, s2⟩ => by
      by_cases hx : i < xs.length
      · refine .inr ?_
        obtain ⟨x, ex⟩ : ∃ x, xs[i]? = some x := ⟨xs[i], List.getElem?_eq_getElem hx⟩
        obtain ⟨g1, g2⟩ := (it i H2 _ s2 h2).2 x ex
        refine ⟨g1, fun H' => ∃ acc μi, I (i + 1) acc μi ∧ acc.length ≤ i + 1 ∧ μi L = none ∧ Hold X.K (mset μi L (.lst acc)) H' ∧ Stp μ1 H1 (mset μi L (.lst acc)) H', fun H' q => ⟨mm - 1, by omega, by omega, q⟩, fun v H3 hy => ?_⟩
        obtain ⟨s3, h3, n3⟩ := g2 v H3 hy
        have T := step i x acc μi ex hi hl nl
        have bs : DenS X.K (mset μi L (.lst acc)) H3 (wipe σ own) (wipeD ds own) := (DenS.wipe b1.d own).mono (s2.trans s3)
        refine ⟨fun v σ H Q => Hold X.K (mset μi L (.lst acc)) H ∧ DenS X.K (mset μi L (.lst acc)) H σ (wipeD ds own) ∧ Den X.K (mset μi L (.lst acc)) H v x ∧ ∀ σ' ds', wipe σ' own = wipe σ own → DenS X.K (mset μi L (.lst acc)) H σ' ds' →
          (∀ X', Blk X scope X' → TsX X' noX (mset μi L (.lst acc)) ds' ifs fun z μ1 => (z = true → ∀ X', Blk X scope X' → EX X' noX μ1 ds' elt fun d μ2 => (fun o μ3 => ∃ μ3', μ3 = mset μ3' L (.lst acc) ∧ μ3' L = none ∧ I (i + 1) (addO acc o) μ3') (some d) μ2) ∧ (z = false → (fun o μ3 => ∃ μ3', μ3 = mset μ3' L (.lst acc) ∧ μ3' L = none ∧ I (i + 1) (addO acc o) μ3') none μ1)) → Q σ' H, fun X' hb => ?_, h3, bs, n3, fun σ4 ds4 w4 b4 ts => ?_⟩
        · have := (T X' hb).pg
          rw [blk_K hb] at this
          exact this
        · refine ⟨w4.trans (wipe_wipe fun i h => h), ?_⟩
          refine ⟨fun σ H Q => Hold X.K (mset μi L (.lst acc)) H ∧ DenS X.K (mset μi L (.lst acc)) H σ ds4 ∧ ∀ b H' μ', Stp (mset μi L (.lst acc)) H μ' H' → Hold X.K μ' H' →
            ((b = true → ∀ X', Blk X scope X' → EX X' noX μ' ds4 elt fun d μ2 => ∃ μ3', μ2 = mset μ3' L (.lst acc) ∧ μ3' L = none ∧ I (i + 1) (addO acc (some d)) μ3') ∧ (b = false → ∃ μ3', μ' = mset μ3' L (.lst acc) ∧ μ3' L = none ∧ I (i + 1) (addO acc none) μ3')) → Q b H', fun X' hb => ?_, h3, b4, fun z H5 μ5 s5 h5 p5 => ?_⟩
          · refine ⟨fun pins s σ H Q J ⟨q1, q2, q3⟩ => (ts X' hb).pts.run pins s σ H Q J ⟨by rw [blk_K hb]; exact q1, ⟨by rw [blk_K hb]; exact q2, Exc.no⟩, fun b H' μ' s h p => q3 b H' μ' s (by rw [blk_K hb] at h; exact h) p⟩⟩
          · cases z with
            | true =>
              refine iteT ⟨fun σ H Q => Hold X.K μ5 H ∧ DenS X.K μ5 H σ ds4 ∧ ∀ v H' d μ', Stp μ5 H μ' H' → Hold X.K μ' H' → Den X.K μ' H' v d → (∃ μ3', μ' = mset μ3' L (.lst acc) ∧ μ3' L = none ∧ I (i + 1) (addO acc (some d)) μ3') → Q v H', fun X' hb => ?_, h5, b4.mono s5, fun v H6 d μ6 s6 h6 n6 ⟨μ7, e7, nl7, p7⟩ => ?_⟩
              · refine ⟨fun pins s σ H Q J ⟨q1, q2, q3⟩ => (p5.1 rfl X' hb).pe.run pins s σ H Q J ⟨by rw [blk_K hb]; exact q1, ⟨by rw [blk_K hb]; exact q2, Exc.no⟩, fun v H' d μ' s h n p => q3 v H' d μ' s (by rw [blk_K hb] at h; exact h) (by rw [blk_K hb] at n; exact n) p⟩⟩
              · subst e7
                obtain ⟨vs, ev, dv⟩ := h6 L _ mset_same
                have sw : Stp (mset μ7 L (.lst acc)) H6 (mset (mset μ7 L (.lst acc)) L (.lst (acc ++ [d]))) (upd H6 L (.lst (vs ++ [v]))) := Stp.write mset_same
                refine ⟨vs, ev, by rw [dv.length]; omega, acc ++ [d], μ7, p7, by simp; omega, nl7, ?_, ?_⟩
                · have := h6.write (c := .lst (acc ++ [d])) (o := .lst (vs ++ [v])) mset_same ⟨_, upd_same, (dv.append (.cons n6 .nil)).mono sw⟩
                  rw [mset_mset] at this
                  exact this
                · rw [mset_mset] at sw
                  exact (((s2.trans s3).trans s5).trans s6).trans sw
            | false =>
              obtain ⟨μ7, e7, nl7, p7⟩ := p5.2 rfl
              subst e7
              exact iteF ⟨acc, μ7, p7, by omega, nl7, h5, (s2.trans s3).trans s5⟩
      · have e : i = xs.length := by omega
        subst e
        refine .inl ⟨(it _ H2 _ s2 h2).1 (Nat.le_refl _), ?_⟩
        exact k _ H2 (.ref L) (mset μi L (.lst acc)) (s1.trans s2) h2 (.ref L) (fin acc μi hi)⟩
def lcWM (turn : D → Mu → (Option D → Mu → Prop) → Prop) (xs : List D) (μ : Mu) (K : D → Mu → Prop) : Prop := xs.length ≤ sizeLine ∧ ∀ L, μ L = none → lcL turn L (fun acc m => K (.ref L) (mset m L (.lst acc))) xs [] μ
theorem lcWM_I {scope : Scope} {own : List Nat} {turn : D → Mu → (Option D → Mu → Prop) → Prop} {xs : List D} {μ1 : Mu} {K : D → Mu → Prop} (ht : ∀ x μ Q, turn x μ Q → Turn1 X scope ds own tg ifs elt x μ Q) (h : lcWM turn xs μ1 K) :
    xs.length ≤ sizeLine ∧ ∀ L, μ1 L = none → ∃ I : Nat → List D → Mu → Prop, I 0 [] μ1 ∧
      (∀ i x acc μi, xs[i]? = some x → I i acc μi → acc.length ≤ i → μi L = none → Turn1 X scope ds own tg ifs elt x (mset μi L (.lst acc)) fun o μ3 => ∃ μ3', μ3 = mset μ3' L (.lst acc) ∧ μ3' L = none ∧ I (i + 1) (addO acc o) μ3') ∧
      ∀ acc μn, I xs.length acc μn → K (.ref L) (mset μn L (.lst acc)) := by
  refine ⟨h.1, fun L nL => ⟨fun i acc μi => lcL turn L _ (xs.drop i) acc μi, h.2 L nL, fun i x acc μi ex hi hl nl => ?_, fun acc μn hn => ?_⟩⟩
  · have e : xs.drop i = x :: xs.drop (i + 1) := by
      obtain ⟨hi, e⟩ := List.getElem?_eq_some_iff.mp ex
      rw [List.drop_eq_getElem_cons hi, e]
    have hi : lcL turn L _ (xs.drop i) acc μi := hi
    rw [e] at hi
    exact ht _ _ _ hi
  · have hn : lcL turn L _ (xs.drop xs.length) acc μn := hn
    rw [List.drop_length] at hn
    exact hn
theorem sx_setLcM {scope : Scope} (own : List (Str × Nat)) (i : Nat) {y : Str} {py spos : Pos} (turn : D → Mu → (Option D → Mu → Prop) → Prop) (ht : ∀ x μ Q, turn x μ Q → Turn1 X scope ds (own.map (·.2)) tg ifs elt x μ Q)
    (h : IX X PE μ ds tg iter fun xs μ1 => lcWM turn xs μ1 P) (hP : ∀ d m, P d m → Z.nx (ds.set i (some d)) m) (hc : X.calm = true) (hN : X.N.Nodup) (ok : BlkOk X.N X.env.scope scope own) (hy : X.N[i]? = some y) (hyl : X.env.scope.names.lookup y = some .local)
    (hsw : swapsWith (.ListComp elt [⟨tg, iter, ifs, 0⟩] scope pos) (some (.Name y py)) spos.line X.env = pure true) (hs : ∀ x, foldedSetIterable iter X.env x = pure x) : SX X PE μ ds (.Assign [.Name y py] (.ListComp elt [⟨tg, iter, ifs, 0⟩] scope pos) spos) Z :=
  sx_of (ps_setLc hc hN hy hyl hsw pi_U ok (fun s H C cl fp => pg_B ⟨s, H, C, cl, fp, rfl⟩) (fun s H C cl fp => pt_B ⟨s, H, C, cl, fp, rfl⟩) (fun s H C cl fp => pe_B ⟨s, H, C, cl, fp, rfl⟩) hs) fun D σ H ho hs m =>
    lc_readM (P := P) ho hs (ex_lcF.ix_imp h fun xs m q => lcWM_I ht q) fun v H' d μ' s h n p => m.nx _ H' _ μ' s h ((hs.mono s).set n) (hP d μ' p)
theorem ex_lcM {scope : Scope} (own : List (Str × Nat)) (turn : D → Mu → (Option D → Mu → Prop) → Prop) (ht : ∀ x μ Q, turn x μ Q → Turn1 X scope ds (own.map (·.2)) tg ifs elt x μ Q)
    (h : IX X PE μ ds tg iter fun xs μ1 => lcWM turn xs μ1 P) (hc : X.calm = true) (hN : X.N.Nodup) (ok : BlkOk X.N X.env.scope scope own) (hs : ∀ x, foldedSetIterable iter X.env x = pure x) : EX X PE μ ds (.ListComp elt [⟨tg, iter, ifs, 0⟩] scope pos) P :=
  ex_of (pe_lc hc hN pi_U ok (fun s H C cl fp => pg_B ⟨s, H, C, cl, fp, rfl⟩) (fun s H C cl fp => pt_B ⟨s, H, C, cl, fp, rfl⟩) (fun s H C cl fp => pe_B ⟨s, H, C, cl, fp, rfl⟩) hs) fun σ H Q ho hs k => lc_readM ho hs (ex_lcF.ix_imp h fun xs m q => lcWM_I ht q) k
end
end Hw
set_option Elab.async false
set_option linter.all false
set_option maxRecDepth 100000
set_option maxHeartbeats 2000000
namespace Hw
open PySem L2 PyProof.Rows
/-! ### special methods of own classes -/
/-- an entry: the classes that have it, what it asks -/
structure SE where
  Cs : List Addr
  W : CT
def SEok (P : Program) (w : World) (K : PySem.W.Frag) (mg : Str → Option Value) (base : Heap) (k n : Nat) (m : Str) (e : SE) : Prop := ∀ C ∈ e.Cs, ∃ g, PySem.W.findIn K (.ref C) m = some (some (.ref g)) ∧ PySem.W.isFn K (.ref g) = true ∧ RunA P w K mg base g k n [] e.W
def isIns : D → Bool
  | .obj _ _ => true
  | .ref _ => true
  | _ => false
/-- the entry for the receiver's class -/
def seK (x : D) (μ : Mu) : List SE → (CT → Prop) → Prop
  | [], _ => False
  | [e], R => (insK x μ fun C _ => inC C e.Cs) ∧ R e.W
  | e :: r, R => ((insK x μ fun C _ => inC C e.Cs) ∧ R e.W) ∨ seK x μ r R
theorem seK_of {x : D} {μ : Mu} {R : CT → Prop} : ∀ {l : List SE}, seK x μ l R → ∃ e ∈ l, (insK x μ fun C _ => inC C e.Cs) ∧ R e.W
  | [e], h => ⟨e, List.mem_singleton.mpr rfl, h⟩
  | e :: b :: r, h => by
    rcases h with h | h
    · exact ⟨e, List.mem_cons_self, h⟩
    · obtain ⟨e', h1, h2⟩ := seK_of (l := b :: r) h
      exact ⟨e', List.mem_cons_of_mem _ h1, h2⟩
section
variable {X : Cx} {PE : XP} {e o : Expr} {es : List Expr} {kws : List Keyword} {μ : Mu} {ds : DS} {P : DP} {pos apos : Pos} {Z : Po} {tg : Expr} {pins : List (Addr × Obj)} {σ : L2.St} {H : Hp} {s : Shared} {Q : VK} {k n : Nat} {W : CT}
theorem run_spec {A' : Around} {E : Value → Shared → Prop} {g : Addr} {us : List Value} {vs : List V} (R : RunA X.prog X.w X.K X.mg X.base g k us.length [] W) (hr : Rm k A') (e0 : Env0 X.prog X.w X.K X.mg X.base A' X.stack s H) (I : Inv X pins σ H s) (r : Vals vs us) (h : spD X.K W vs H Q (fun _ _ _ => False)) :
    wpAny (model X.prog X.w) A' (call (.ref g) us) (EP X pins σ Q) E s := by
  refine wpAny_call (codeAny_mono (R.run A' X.stack s H us [] vs Q (fun _ _ _ => False) hr e0 rfl rfl (by rw [List.append_nil]; exact r) h) fun r s' hq => ?_)
  cases r with
  | error er =>
    obtain ⟨_, _, _, _, _, _, _, _, _, _, _, _, h⟩ := hq
    exact h.elim
  | ok fl =>
    cases fl with
    | ret u => exact I.after hq
    | next => exact False.elim hq
    | brk => exact False.elim hq
    | cont => exact False.elim hq
theorem insK_inst {x : D} {v : V} {u : Value} {R : Addr → List (Str × D) → Prop} (I : Inv X pins σ H s) (ho : Hold X.K μ H) (n : Den X.K μ H v x) (r : RelV v u) (h : insK x μ R) : ∃ a C ox od fs, v = .ref a ∧ u = .ref a ∧ PySem.W.InstAt s.heap a ox C od ∧ R C fs := by
  obtain ⟨a, C, dx, vs, fs, rfl, e1, nf, hR⟩ := insK_of ho n h
  obtain ⟨mA, O, _⟩ := ins_get I.hok e1
  obtain ⟨od, J, _⟩ := O.look
  exact ⟨a, C, _, _, fs, rfl, r, J, hR⟩
/-! len -/
def lenG (l : List SE) : List D → Mu → DP → Prop := fun xs μ P => match xs with
  | [x] => match isIns x with
    | true => seK x μ l fun W => W [x] μ (fun d m => ∃ i, d = .int i ∧ 0 ≤ i ∧ i < 2 ^ 63 ∧ P (.int i) m) noX
    | false => lenOk [x] μ P
  | _ => False
theorem cr_lenG {l : List SE} (ok : ∀ e ∈ l, SEok X.prog X.w X.K X.mg X.base k 1 "__len__" e) (hr : Rm (k + 1) X.A) : CallR X (.builtin "len") (rDB X.K (lenG l)) := by
  intro pins s σ H vs us Q I r h
  obtain ⟨μ, xs, P, ho, n, ok2, kk⟩ := h
  match xs, n, ok2 with
  | [x], n, ok2 =>
    unfold lenG at ok2
    dsimp only at ok2
    cases hi : isIns x with
    | false =>
      rw [hi] at ok2
      exact cr_len pins s σ H vs us Q I r ⟨μ, [x], P, ho, n, ok2, kk⟩
    | true =>
      rw [hi] at ok2
      obtain ⟨v, rfl, n1⟩ := n.one
      obtain ⟨u, rfl, r1⟩ := vals1 r
      obtain ⟨e, he, h1, h2⟩ := seK_of ok2
      obtain ⟨a, C, ox, od, fs, rfl, rfl, J, hC⟩ := insK_inst I ho n1 r1 h1
      obtain ⟨g, g1, g2, g3⟩ := ok e he C (inC_mem hC)
      obtain ⟨mF, hF⟩ := I.fr
      refine PySem.W.len_K hF I.ok.mod.kin J g1 g2 (wpAny_mono (run_spec (Q := fun v H' => ∃ i, v = .int i ∧ 0 ≤ i ∧ i < 2 ^ 63 ∧ Q (.int i) H') g3 ⟨hr.r.in1, hr.g⟩ I.env0.in1 I r ⟨μ, [x], _, noX, ho, n, h2, fun v H' d μ' s2 h3 n3 ⟨i, ed, i0, i1, p⟩ => ?_, fun _ _ _ _ _ _ _ _ _ _ q => q.elim⟩) (fun u s' hq => ?_) fun _ _ q => q)
      · subst ed
        exact ⟨i, n3.inv_int, i0, i1, kk _ H' _ μ' s2 h3 (.int i) p⟩
      · obtain ⟨v, H', I', rv, i, ev, i0, i1, q⟩ := hq
        subst ev
        obtain ⟨t, rfl⟩ := rv
        exact ⟨⟨i0, i1⟩, .int i, H', I'.tok _, ⟨_, rfl⟩, q⟩
/-! repr -/
def reprG (l : List SE) : List D → Mu → DP → Prop := fun xs μ P => match xs with
  | [x] => match isIns x with
    | true => seK x μ l fun W => W [x] μ (fun d m => ∃ t, d = .str t ∧ P (.str t) m) noX
    | false => reprOk [x] μ P
  | _ => False
theorem cr_reprG {l : List SE} (ok : ∀ e ∈ l, SEok X.prog X.w X.K X.mg X.base k 1 "__repr__" e) (hr : Rm (k + 1) X.A) : CallR X (.builtin "repr") (rDB X.K (reprG l)) := by
  intro pins s σ H vs us Q I r h
  obtain ⟨μ, xs, P, ho, n, ok2, kk⟩ := h
  match xs, n, ok2 with
  | [x], n, ok2 =>
    unfold reprG at ok2
    dsimp only at ok2
    cases hi : isIns x with
    | false =>
      rw [hi] at ok2
      exact cr_repr hr pins s σ H vs us Q I r ⟨μ, [x], P, ho, n, ok2, kk⟩
    | true =>
      rw [hi] at ok2
      obtain ⟨v, rfl, n1⟩ := n.one
      obtain ⟨u, rfl, r1⟩ := vals1 r
      obtain ⟨e, he, h1, h2⟩ := seK_of ok2
      obtain ⟨a, C, ox, od, fs, rfl, rfl, J, hC⟩ := insK_inst I ho n1 r1 h1
      obtain ⟨g, g1, g2, g3⟩ := ok e he C (inC_mem hC)
      obtain ⟨mF, hF⟩ := I.fr
      refine PySem.W.repr_K (hr.r.in1.units0) hF I.ok.mod.kin J g1 g2 (wpAny_mono (run_spec (Q := fun v H' => ∃ t, v = .str t ∧ Q (.str t) H') g3 ⟨hr.r.in1, hr.g⟩ I.env0.in1 I r ⟨μ, [x], _, noX, ho, n, h2, fun v H' d μ' s2 h3 n3 ⟨t, ed, p⟩ => ?_, fun _ _ _ _ _ _ _ _ _ _ q => q.elim⟩) (fun u s' hq => ?_) fun _ _ q => q)
      · subst ed
        exact ⟨t, n3.inv_str, kk _ H' _ μ' s2 h3 (.str t) p⟩
      · obtain ⟨v, H', I', rv, t, ev, q⟩ := hq
        subst ev
        obtain ⟨tk, rfl⟩ := rv
        exact ⟨.str t, H', I', ⟨_, rfl⟩, q⟩
end
end Hw
set_option Elab.async false
set_option linter.all false
set_option maxRecDepth 100000
set_option maxHeartbeats 2000000
namespace Hw
open PySem L2 PyProof.Rows
/-! ### == and != by an own __eq__ -/
section
variable {prog : Program} {w : World} {A : Around} {E : Value → Shared → Prop} {s : Shared} {K : PySem.W.Frag} {x y C C2 f : Addr} {ox oy : Obj} {od od2 : Option Obj} {b tb : Value} {M : Model}
theorem ifBound_B {args : List Value} {Q : Option Value → Shared → Prop} (X : K.In s.heap) (I : PySem.W.InstAt s.heap x ox C od) (hs : PySem.W.findIn K (.ref C) "__ne__" = some (some (.builtin "object.__ne__")))
    (h : wpAny M A (call (.builtin "object.__ne__") (.ref x :: args)) (fun v => Q (some v)) E s) : wpAny M A (callSpecialIfBound? (.ref x) "__ne__" args) Q E s := by
  simp only [callSpecialIfBound?, bindSpecialIfBound?]
  refine wpAny_holding (wpAny_bind (wpAny_bind (wpAny_bind (I.type.here ((PySem.W.looks_findIn X hs).here ?_)))))
  refine wpAny_bind (wpAny_askSetting (wpAny_ite ?_))
  have fin : wpAny M A (call (.builtin "object.__ne__") ([.ref x] ++ args) >>= fun v => pure (some v)) Q E s := wpAny_bind (wpAny_mono h (fun v s' h' => wpAny_pure h') fun _ _ h' => h')
  have hb := PySem.F.slot_enumerate_ne.bind (.ref x)
  split
  · exact wpAny_bind (wpAny_of_eq hb (wpAny_pure (by exact fin)))
  · exact wpAny_tryCatch (wpAny_bind (wpAny_of_eq hb (wpAny_pure (by exact fin))))
/-- object.__ne__ asks __eq__ -/
theorem objNe_K {Q : Fin → Shared → Prop} (X : K.In s.heap) (I : PySem.W.InstAt s.heap x ox C od) (hs : PySem.W.findIn K (.ref C) "__eq__" = some (some (.ref f))) (hf : PySem.W.isFn K (.ref f) = true) (hu : A.units < cLine)
    (h : wpAny (model prog w) A (call (.ref f) [.ref x, b]) (fun v s' => ∃ r, v = .bool r ∧ Q (.done (.ret (.bool (!r)))) s') E s) : wpAny (model prog w) A (Builtin.«object.__ne__» ⟨[.ref x, b], []⟩) Q E s := by
  unfold Builtin.«object.__ne__»
  refine wpAny_bind (m := slotArgs "__ne__" 1 _) (wpAny_of_eq (a := (Value.ref x, [b])) (by first | rfl | kernel_rfl) ?_)
  refine wpAny_bind (wpAny_cRoomFor hu ?_)
  refine wpAny_bind (PySem.W.ifBound_K X I hs hf (wpAny_mono h (fun v s' hv => ?_) fun _ _ e => e))
  obtain ⟨r, rfl, hq⟩ := hv
  show wpAny _ _ (truthy (.bool r) >>= _) _ _ _
  exact wpAny_bind (wpAny_truthy_bool (wpAny_pure hq))
theorem tryNe_K {Q : Option Value → Shared → Prop} (X : K.In s.heap) (I : PySem.W.InstAt s.heap x ox C od) (hs : PySem.W.findIn K (.ref C) "__eq__" = some (some (.ref f))) (hf : PySem.W.isFn K (.ref f) = true) (hn : PySem.W.findIn K (.ref C) "__ne__" = some (some (.builtin "object.__ne__")))
    (top : PySem.W.mroIn K C (.type "object") = some true) (hu : A.in1.units < cLine)
    (h : wpAny (model prog w) A.in1 (call (.ref f) [.ref x, b]) (fun v s' => ∃ r, v = .bool r ∧ Q (some (.bool (!r))) s') E s) : wpAny (model prog w) A (tryCompare (.ref x) "__ne__" b) Q E s := by
  unfold tryCompare
  refine wpAny_bind (ifBound_B X I hn (wpAny_call (codeAny_call_builtin (PySem.F.slot_enumerate_ne.plain) PySem.F.cmpEntry_ne (PySem.W.check_slot PySem.F.cmpKind_ne PySem.F.cmpSplit_ne (I.type.andThen (PySem.W.looks_mroIn X top)) (PySem.F.cmpArgs_ne _ _) ?_))))
  refine objNe_K X I hs hf hu (wpAny_mono h (fun v s' hv => ?_) fun _ _ e => e)
  obtain ⟨r, rfl, hq⟩ := hv
  exact ⟨_, rfl, wpAny_pure hq⟩
end
section
variable {prog : Program} {w : World} {A : Around} {E : Value → Shared → Prop} {s : Shared} {K : PySem.W.Frag} {x y C C2 f : Addr} {ox oy : Obj} {od od2 : Option Obj} {b tb : Value}
/-- the right one's class is under the left one's: it is asked first -/
theorem rich_R {op : CmpOp} {Q : Value → Shared → Prop} (hu : A.units < cLine) (X : K.In s.heap) (I : PySem.W.InstAt s.heap x ox C od) (J : PySem.W.InstAt s.heap y oy C2 od2) (hne : C2 ≠ C) (hsub : PySem.W.subIn K (.ref C2) (.ref C) = some true)
    (h : wpAny (model prog w) A (tryCompare (.ref y) (cmpInfo op).2.2 (.ref x)) (fun r s' => ∃ v, r = some v ∧ Q v s') E s) : wpAny (model prog w) A (richCompare op (.ref x) (.ref y)) Q E s := by
  unfold richCompare
  simp only [oneThing_ref]
  refine wpAny_holding (wpAny_bind (wpAny_cRoomFor hu ?_))
  refine wpAny_bind (I.type.here (wpAny_bind (J.type.here ?_)))
  rw [if_pos (by simp [Ne.symm hne])]
  refine wpAny_bind ((PySem.W.looks_subIn X hsub).here ?_)
  rw [if_pos rfl]
  refine wpAny_bind (wpAny_mono h (fun r s' z => ?_) fun _ _ e => e)
  obtain ⟨v, rfl, hq⟩ := z
  first
    | exact wpAny_pure hq
    | exact wpAny_bind (wpAny_rule (wpAny_pure hq))
/-- .. the left one first -/
theorem rich_L {op : CmpOp} {Q : Value → Shared → Prop} (hu : A.units < cLine) (X : K.In s.heap) (I : PySem.W.InstAt s.heap x ox C od) (hb : PySem.W.Looks (model prog w) s.heap (typeOf b) tb) (hn : PySem.W.notFirst K C tb = true)
    (h : wpAny (model prog w) A (tryCompare (.ref x) (cmpInfo op).2.1 b) (fun r s' => ∃ v, r = some v ∧ Q v s') E s) : wpAny (model prog w) A (richCompare op (.ref x) b) Q E s := by
  unfold richCompare
  simp only [oneThing_ref]
  refine wpAny_holding (wpAny_bind (wpAny_cRoomFor hu ?_))
  refine wpAny_bind (I.type.here (wpAny_bind (hb.here ?_)))
  split
  · rename_i q
    have e : PySem.W.subIn K tb (.ref C) = some false := by
      rcases Bool.or_eq_true_iff.mp hn with e | e
      · rw [beq_iff_eq.mp e] at q; simp at q
      · exact beq_iff_eq.mp e
    refine wpAny_bind ((PySem.W.looks_subIn X e).here ?_)
    simp only [Bool.false_eq_true, if_false]
    refine wpAny_bind (wpAny_mono h (fun r s' z => ?_) fun _ _ e => e)
    obtain ⟨v, rfl, hq⟩ := z
    exact wpAny_pure hq
  · refine wpAny_bind (wpAny_pure ?_)
    simp only [Bool.false_eq_true, if_false]
    refine wpAny_bind (wpAny_mono h (fun r s' z => ?_) fun _ _ e => e)
    obtain ⟨v, rfl, hq⟩ := z
    exact wpAny_pure hq
theorem tryEq_K {Q : Option Value → Shared → Prop} (X : K.In s.heap) (I : PySem.W.InstAt s.heap x ox C od) (hs : PySem.W.findIn K (.ref C) "__eq__" = some (some (.ref f))) (hf : PySem.W.isFn K (.ref f) = true)
    (h : wpAny (model prog w) A (call (.ref f) [.ref x, b]) (fun v s' => ∃ r, v = .bool r ∧ Q (some (.bool r)) s') E s) : wpAny (model prog w) A (tryCompare (.ref x) "__eq__" b) Q E s := by
  unfold tryCompare
  refine wpAny_bind (PySem.W.ifBound_K X I hs hf (wpAny_mono h (fun v s' hv => ?_) fun _ _ e => e))
  obtain ⟨r, rfl, hq⟩ := hv
  exact wpAny_pure hq
end
/-- the classes that have one and the same __eq__, what it asks -/
structure EqE where
  Cs : List Addr
  W : CT
def baseT : List String := ["NoneType", "bool", "int", "str", "tuple", "list", "dict"]
structure EqOk (P : Program) (w : World) (K : PySem.W.Frag) (mg : Str → Option Value) (base : Heap) (k : Nat) (e : EqE) (C : Addr) : Prop where
  ex : ∃ g, PySem.W.findIn K (.ref C) "__eq__" = some (some (.ref g)) ∧ PySem.W.isFn K (.ref g) = true ∧ RunA P w K mg base g k 2 [] e.W
  ne : PySem.W.findIn K (.ref C) "__ne__" = some (some (.builtin "object.__ne__"))
  top : PySem.W.mroIn K C (.type "object") = some true
  bs : (baseT.all fun n => PySem.W.subIn K (.type n) (.ref C) == some false) = true
  own : ∀ C2 ∈ e.Cs, ∃ b, PySem.W.subIn K (.ref C2) (.ref C) = some b
def tyB : D → Option String
  | .non => some "NoneType"
  | .bl _ => some "bool"
  | .int _ => some "int"
  | .str _ => some "str"
  | .tup _ => some "tuple"
  | .lst _ => some "list"
  | .dic _ => some "dict"
  | _ => none
def blK (R : Bool → Mu → Prop) : DP := fun d m => match d with
  | .bl b => R b m
  | _ => False
def eqI (x y : D) (μ : Mu) (R : Bool → Mu → Prop) : List EqE → Prop
  | [] => False
  | [e] => (insK x μ fun C _ => inC C e.Cs) ∧ match isIns y with
    | true => (insK y μ fun C _ => inC C e.Cs) ∧ e.W [x, y] μ (blK R) noX ∧ e.W [y, x] μ (blK R) noX
    | false => (tyB y).isSome = true ∧ e.W [x, y] μ (blK R) noX
  | e :: r => ((insK x μ fun C _ => inC C e.Cs) ∧ match isIns y with
    | true => (insK y μ fun C _ => inC C e.Cs) ∧ e.W [x, y] μ (blK R) noX ∧ e.W [y, x] μ (blK R) noX
    | false => (tyB y).isSome = true ∧ e.W [x, y] μ (blK R) noX) ∨ eqI x y μ R r
theorem eqI_of {x y : D} {μ : Mu} {R : Bool → Mu → Prop} : ∀ {l : List EqE}, eqI x y μ R l → ∃ e ∈ l, (insK x μ fun C _ => inC C e.Cs) ∧ match isIns y with
    | true => (insK y μ fun C _ => inC C e.Cs) ∧ e.W [x, y] μ (blK R) noX ∧ e.W [y, x] μ (blK R) noX
    | false => (tyB y).isSome = true ∧ e.W [x, y] μ (blK R) noX
  | [e], h => ⟨e, List.mem_singleton.mpr rfl, h⟩
  | e :: b :: r, h => by
    rcases h with h | h
    · exact ⟨e, List.mem_cons_self, h⟩
    · obtain ⟨e', h1, h2⟩ := eqI_of (l := b :: r) h
      exact ⟨e', List.mem_cons_of_mem _ h1, h2⟩
section
variable {X : Cx} {PE : XP} {e o a b : Expr} {es : List Expr} {kws : List Keyword} {μ : Mu} {ds : DS} {P : DP} {pos apos : Pos} {Z : Po} {tg : Expr} {k n : Nat} {l : List EqE}
theorem looks_ty {M : Model} {s : Shared} {u : Value} {T : String} (h : s.TypeIs u T) : PySem.W.Looks M s.heap (typeOf u) (.type T) := fun A Q E s' k q => wpAny_typeOf (by
  cases u <;> first | exact h | (obtain ⟨o, e, c⟩ := h; exact ⟨o, k _ _ e, c⟩)) q
theorem tyB_looks {pins : List (Addr × Obj)} {σ : L2.St} {H : Hp} {s : Shared} {M : Model} {v : V} {u : Value} {d : D} (I : Inv X pins σ H s) (n : Den X.K μ H v d) (r : RelV v u) (h : (tyB d).isSome = true) : ∃ t, t ∈ baseT ∧ PySem.W.Looks M s.heap (typeOf u) (.type t) := by
  cases d with
  | non =>
    rw [n.inv_non] at r
    obtain rfl : u = Value.none := r
    exact ⟨"NoneType", by decide, looks_ty (s := s) (by show typeOf .none = _; rfl)⟩
  | bl b =>
    rw [n.inv_bl] at r
    obtain rfl : u = Value.bool b := r
    exact ⟨"bool", by decide, looks_ty (s := s) (by show typeOf (.bool b) = _; rfl)⟩
  | int i =>
    rw [n.inv_int] at r
    obtain ⟨t, rfl⟩ := r
    exact ⟨"int", by decide, looks_ty (typeIs_int s i t)⟩
  | str z =>
    rw [n.inv_str] at r
    obtain ⟨t, rfl⟩ := r
    exact ⟨"str", by decide, looks_ty (typeIs_str s z t)⟩
  | tup xs =>
    obtain ⟨a, ws, rfl, hq, _⟩ := n.inv_tup
    obtain rfl : u = Value.ref a := r
    obtain ⟨its, _, pl, _⟩ := I.tuple hq
    exact ⟨"tuple", by decide, looks_ty pl.typeIs⟩
  | lst xs =>
    obtain ⟨a, ws, rfl, _, hq, _⟩ := n.inv_lst
    obtain rfl : u = Value.ref a := r
    obtain ⟨its, _, pl, _⟩ := I.list (SqL.of hq)
    exact ⟨"list", by decide, looks_ty pl.isList.typeIs⟩
  | dic kvs =>
    obtain ⟨a, ws, rfl, _, hq, _⟩ := n.inv_dic
    obtain rfl : u = Value.ref a := r
    obtain ⟨_, _, _, _, o, _, _, e, ex, _⟩ := I.hok a _ hq
    exact ⟨"dict", by decide, looks_ty ⟨o, e, ex.1⟩⟩
  | _ => cases h
/-- == (neg: !=), the left one an instance -/
def rEqI (X : Cx) (l : List EqE) (neg : Bool) : R2 := fun x y H Q => ∃ μ dx dy R, Hold X.K μ H ∧ Den X.K μ H x dx ∧ Den X.K μ H y dy ∧ eqI dx dy μ R l ∧ ∀ b H' μ', Stp μ H μ' H' → Hold X.K μ' H' → R b μ' → Q (.bl (b != neg)) H'
theorem op_eqI (ok : ∀ e ∈ l, ∀ C ∈ e.Cs, EqOk X.prog X.w X.K X.mg X.base k e C) (hr : Rm (k + 1) X.A) : OpR X (compareOp .Eq) (rEqI X l false) := by
  intro pins s σ H x y v u Q I rx ry h
  obtain ⟨μ, dx, dy, R, ho, nx, ny, hq, kk⟩ := h
  obtain ⟨e, he, hx, hy⟩ := eqI_of hq
  obtain ⟨ax, Cx', ox, od, fs, rfl, rfl, J, hC⟩ := insK_inst I ho nx rx hx
  obtain ⟨⟨g, g1, g2, g3⟩, o1, o2, o3, o4⟩ := ok e he Cx' (inC_mem hC)
  show wpAny (model X.prog X.w) X.A (richCompare .Eq (.ref ax) u) (EP X pins σ Q) X.xe s
  have run : ∀ (A' : Around) (g : Addr) (p q : V) (pu qu : Value) (dp dq : D), RunA X.prog X.w X.K X.mg X.base g k 2 [] e.W → Rm k A' → Env0 X.prog X.w X.K X.mg X.base A' X.stack s H → RelV p pu → RelV q qu → Den X.K μ H p dp → Den X.K μ H q dq → e.W [dp, dq] μ (blK R) noX →
      wpAny (model X.prog X.w) A' (call (.ref g) [pu, qu]) (fun v s' => ∃ r, v = .bool r ∧ EP X pins σ Q (.bool r) s') X.xe s := fun A' g p q pu qu dp dq R2 hr' e0 rp rq np nq hw => by
    refine wpAny_mono (run_spec (Q := fun v H' => ∃ r, v = .bl r ∧ Q (.bl r) H') R2 hr' e0 I (.cons rp (.cons rq .nil)) ⟨μ, [dp, dq], blK R, noX, ho, .cons np (.cons nq .nil), hw, fun v H' d μ' s2 h3 n3 hb => ?_, fun _ _ _ _ _ _ _ _ _ _ q => q.elim⟩) (fun u s' hq => ?_) fun _ _ q => q
    · cases d with
      | bl b => exact ⟨b, n3.inv_bl, by have := kk b H' μ' s2 h3 hb; simpa using this⟩
      | _ => exact hb.elim
    · obtain ⟨v, H', I', rv, r, ev, q⟩ := hq
      subst ev
      obtain rfl : u = Value.bool r := rv
      exact ⟨r, rfl, .bl r, H', I', rfl, q⟩
  have fin : ∀ {r : Value} {s' : Shared}, (∃ b, r = .bool b ∧ EP X pins σ Q (.bool b) s') → EP X pins σ Q r s' := fun {r s'} ⟨b, eb, q⟩ => by rw [eb]; exact q
  cases hi : isIns dy with
  | false =>
    rw [hi] at hy
    obtain ⟨t, ht, L⟩ := tyB_looks (M := model X.prog X.w) I ny ry hy.1
    have hb := List.all_eq_true.mp o3 t ht
    refine rich_L hr.r.units0 I.kIn J L (by rw [PySem.W.notFirst, Bool.or_eq_true]; exact .inr hb) (tryEq_K I.kIn J g1 g2 (wpAny_mono (run X.A g _ _ _ _ _ _ g3 ⟨hr.r.mono (Nat.le_succ _), hr.g⟩ I.env0 (show RelV (V.ref ax) (Value.ref ax) from rfl) ry nx ny hy.2) (fun v s' hv => ?_) fun _ _ q => q))
    obtain ⟨r, rfl, q⟩ := hv
    exact ⟨r, rfl, _, rfl, q⟩
  | true =>
    rw [hi] at hy
    obtain ⟨h1, h2, h3⟩ := hy
    obtain ⟨ay, Cy, oy, ody, fsy, rfl, rfl, J2, hC2⟩ := insK_inst I ho ny ry h1
    obtain ⟨bb, hsub⟩ := o4 Cy (inC_mem hC2)
    by_cases hcc : Cy = Cx'
    · subst hcc
      refine rich_L hr.r.units0 I.kIn J J2.type (by simp [PySem.W.notFirst]) (tryEq_K I.kIn J g1 g2 (wpAny_mono (run X.A g _ _ _ _ _ _ g3 ⟨hr.r.mono (Nat.le_succ _), hr.g⟩ I.env0 (show RelV (V.ref ax) (Value.ref ax) from rfl) ry nx ny h2) (fun v s' hv => ?_) fun _ _ q => q))
      obtain ⟨r, rfl, q⟩ := hv
      exact ⟨r, rfl, _, rfl, q⟩
    · cases bb with
      | false =>
        refine rich_L hr.r.units0 I.kIn J J2.type (by rw [PySem.W.notFirst, hsub]; simp) (tryEq_K I.kIn J g1 g2 (wpAny_mono (run X.A g _ _ _ _ _ _ g3 ⟨hr.r.mono (Nat.le_succ _), hr.g⟩ I.env0 (show RelV (V.ref ax) (Value.ref ax) from rfl) ry nx ny h2) (fun v s' hv => ?_) fun _ _ q => q))
        obtain ⟨r, rfl, q⟩ := hv
        exact ⟨r, rfl, _, rfl, q⟩
      | true =>
        obtain ⟨⟨g', g1', g2', g3'⟩, _, _, _, _⟩ := ok e he Cy (inC_mem hC2)
        refine rich_R hr.r.units0 I.kIn J J2 hcc hsub (tryEq_K I.kIn J2 g1' g2' (wpAny_mono (run X.A g' _ _ _ _ _ _ g3' ⟨hr.r.mono (Nat.le_succ _), hr.g⟩ I.env0 ry (show RelV (V.ref ax) (Value.ref ax) from rfl) ny nx h3) (fun v s' hv => ?_) fun _ _ q => q))
        obtain ⟨r, rfl, q⟩ := hv
        exact ⟨r, rfl, _, rfl, q⟩
theorem op_neI (ok : ∀ e ∈ l, ∀ C ∈ e.Cs, EqOk X.prog X.w X.K X.mg X.base k e C) (hr : Rm (k + 1) X.A) : OpR X (compareOp .NotEq) (rEqI X l true) := by
  intro pins s σ H x y v u Q I rx ry h
  obtain ⟨μ, dx, dy, R, ho, nx, ny, hq, kk⟩ := h
  obtain ⟨e, he, hx, hy⟩ := eqI_of hq
  obtain ⟨ax, Cx', ox, od, fs, rfl, rfl, J, hC⟩ := insK_inst I ho nx rx hx
  obtain ⟨⟨g, g1, g2, g3⟩, o1, o2, o3, o4⟩ := ok e he Cx' (inC_mem hC)
  show wpAny (model X.prog X.w) X.A (richCompare .NotEq (.ref ax) u) (EP X pins σ Q) X.xe s
  have run : ∀ (A' : Around) (g : Addr) (p q : V) (pu qu : Value) (dp dq : D), RunA X.prog X.w X.K X.mg X.base g k 2 [] e.W → Rm k A' → Env0 X.prog X.w X.K X.mg X.base A' X.stack s H → RelV p pu → RelV q qu → Den X.K μ H p dp → Den X.K μ H q dq → e.W [dp, dq] μ (blK R) noX →
      wpAny (model X.prog X.w) A' (call (.ref g) [pu, qu]) (fun v s' => ∃ r, v = .bool r ∧ EP X pins σ Q (.bool (!r)) s') X.xe s := fun A' g p q pu qu dp dq R2 hr' e0 rp rq np nq hw => by
    refine wpAny_mono (run_spec (Q := fun v H' => ∃ r, v = .bl r ∧ Q (.bl (!r)) H') R2 hr' e0 I (.cons rp (.cons rq .nil)) ⟨μ, [dp, dq], blK R, noX, ho, .cons np (.cons nq .nil), hw, fun v H' d μ' s2 h3 n3 hb => ?_, fun _ _ _ _ _ _ _ _ _ _ q => q.elim⟩) (fun u s' hq => ?_) fun _ _ q => q
    · cases d with
      | bl b => exact ⟨b, n3.inv_bl, by have := kk b H' μ' s2 h3 hb; simpa using this⟩
      | _ => exact hb.elim
    · obtain ⟨v, H', I', rv, r, ev, q⟩ := hq
      subst ev
      obtain rfl : u = Value.bool r := rv
      exact ⟨r, rfl, .bl (!r), H', I', rfl, q⟩
  have fin : ∀ {r : Value} {s' : Shared}, (∃ b, r = .bool b ∧ EP X pins σ Q (.bool b) s') → EP X pins σ Q r s' := fun {r s'} ⟨b, eb, q⟩ => by rw [eb]; exact q
  cases hi : isIns dy with
  | false =>
    rw [hi] at hy
    obtain ⟨t, ht, L⟩ := tyB_looks (M := model X.prog X.w) I ny ry hy.1
    have hb := List.all_eq_true.mp o3 t ht
    refine rich_L hr.r.units0 I.kIn J L (by rw [PySem.W.notFirst, Bool.or_eq_true]; exact .inr hb) (tryNe_K I.kIn J g1 g2 o1 o2 hr.r.in1.units0 (wpAny_mono (run X.A.in1 g _ _ _ _ _ _ g3 ⟨hr.r.in1, hr.g⟩ I.env0.in1 (show RelV (V.ref ax) (Value.ref ax) from rfl) ry nx ny hy.2) (fun v s' hv => ?_) fun _ _ q => q))
    obtain ⟨r, rfl, q⟩ := hv
    exact ⟨r, rfl, _, rfl, q⟩
  | true =>
    rw [hi] at hy
    obtain ⟨h1, h2, h3⟩ := hy
    obtain ⟨ay, Cy, oy, ody, fsy, rfl, rfl, J2, hC2⟩ := insK_inst I ho ny ry h1
    obtain ⟨bb, hsub⟩ := o4 Cy (inC_mem hC2)
    by_cases hcc : Cy = Cx'
    · subst hcc
      refine rich_L hr.r.units0 I.kIn J J2.type (by simp [PySem.W.notFirst]) (tryNe_K I.kIn J g1 g2 o1 o2 hr.r.in1.units0 (wpAny_mono (run X.A.in1 g _ _ _ _ _ _ g3 ⟨hr.r.in1, hr.g⟩ I.env0.in1 (show RelV (V.ref ax) (Value.ref ax) from rfl) ry nx ny h2) (fun v s' hv => ?_) fun _ _ q => q))
      obtain ⟨r, rfl, q⟩ := hv
      exact ⟨r, rfl, _, rfl, q⟩
    · cases bb with
      | false =>
        refine rich_L hr.r.units0 I.kIn J J2.type (by rw [PySem.W.notFirst, hsub]; simp) (tryNe_K I.kIn J g1 g2 o1 o2 hr.r.in1.units0 (wpAny_mono (run X.A.in1 g _ _ _ _ _ _ g3 ⟨hr.r.in1, hr.g⟩ I.env0.in1 (show RelV (V.ref ax) (Value.ref ax) from rfl) ry nx ny h2) (fun v s' hv => ?_) fun _ _ q => q))
        obtain ⟨r, rfl, q⟩ := hv
        exact ⟨r, rfl, _, rfl, q⟩
      | true =>
        obtain ⟨⟨g', g1', g2', g3'⟩, o1', o2', _, _⟩ := ok e he Cy (inC_mem hC2)
        refine rich_R hr.r.units0 I.kIn J J2 hcc hsub (tryNe_K I.kIn J2 g1' g2' o1' o2' hr.r.in1.units0 (wpAny_mono (run X.A.in1 g' _ _ _ _ _ _ g3' ⟨hr.r.in1, hr.g⟩ I.env0.in1 ry (show RelV (V.ref ax) (Value.ref ax) from rfl) ny nx h3) (fun v s' hv => ?_) fun _ _ q => q))
        obtain ⟨r, rfl, q⟩ := hv
        exact ⟨r, rfl, _, rfl, q⟩
/-- a comparison, the left one perhaps an instance -/
def cmpG (l : List EqE) (op : CmpOp) (x y : D) (μ : Mu) (R : Bool → Mu → Prop) : Prop := match l with
  | [] => cmpW op x y fun z => R z μ
  | l => match isIns x, op with
    | true, .Eq => eqI x y μ R l
    | true, .NotEq => eqI x y μ (fun b m => R (!b) m) l
    | _, _ => cmpW op x y fun z => R z μ
def rCG (X : Cx) (l : List EqE) (op : CmpOp) : R2 := fun x y H Q => ∃ μ dx dy R, Hold X.K μ H ∧ Den X.K μ H x dx ∧ Den X.K μ H y dy ∧ cmpG l op dx dy μ R ∧ ∀ b H' μ', Stp μ H μ' H' → Hold X.K μ' H' → R b μ' → Q (.bl b) H'
theorem op_cmpG {op : CmpOp} (hu : X.A.units + 64 < cLine) (ok : ∀ e ∈ l, ∀ C ∈ e.Cs, EqOk X.prog X.w X.K X.mg X.base k e C) (hr : Rm (k + 1) X.A) : OpR X (compareOp op) (rCG X l op) := by
  intro pins s σ H x y v u Q I rx ry h
  obtain ⟨μ, dx, dy, R, ho, nx, ny, hq, kk⟩ := h
  have old : cmpW op dx dy (fun z => R z μ) → wpAny (model X.prog X.w) X.A (compareOp op v u) (EP X pins σ Q) X.xe s := fun hq =>
    op_cmpW hu pins s σ H x y v u Q I rx ry ⟨μ, dx, dy, _, ho, nx, ny, hq, fun b r => kk b H μ (Stp.refl _ _) ho r⟩
  unfold cmpG at hq
  split at hq
  · exact old hq
  · next l hl =>
    split at hq
    · exact op_eqI ok hr pins s σ H x y v u Q I rx ry ⟨μ, dx, dy, R, ho, nx, ny, hq, fun b H' μ' s2 h2 r => by simpa using kk b H' μ' s2 h2 r⟩
    · exact op_neI ok hr pins s σ H x y v u Q I rx ry ⟨μ, dx, dy, _, ho, nx, ny, hq, fun b H' μ' s2 h2 r => by simpa using kk (!b) H' μ' s2 h2 r⟩
    · exact old hq
theorem ex_cmpG {op : CmpOp} (hu : X.A.units + 64 < cLine) (ok : ∀ e ∈ l, ∀ C ∈ e.Cs, EqOk X.prog X.w X.K X.mg X.base k e C) (hr : Rm (k + 1) X.A) (h : EX X PE μ ds a fun x μ1 => EX X PE μ1 ds b fun y μ2 => cmpG l op x y μ2 fun z m => P (.bl z) m) (hm : behindInMarks op b = false) : EX X PE μ ds (.Compare a [op] [b] pos) P :=
  ex_of (pe_cmpR (op_cmpG hu ok hr) pe_U pe_U hm) fun σ H Q ho hs k => h.at ho hs fun v H1 x μ1 s1 h1 b1 n1 p => p.at h1 b1 fun u H2 y μ2 s2 h2 b2 n2 q =>
    ⟨μ2, x, y, _, h2, n1.mono s2, n2, q, fun w H3 μ3 s3 h3 r => k _ H3 _ μ3 ((s1.trans s2).trans s3) h3 (.bl _) r⟩
theorem tx_cmpG {op : CmpOp} {PT : Bool → Mu → Prop} (hu : X.A.units + 64 < cLine) (ok : ∀ e ∈ l, ∀ C ∈ e.Cs, EqOk X.prog X.w X.K X.mg X.base k e C) (hr : Rm (k + 1) X.A) (h : EX X PE μ ds a fun x μ1 => EX X PE μ1 ds b fun y μ2 => cmpG l op x y μ2 PT) (hm : behindInMarks op b = false) : TX X PE μ ds (.Compare a [op] [b] pos) PT :=
  tx_of (pt_cmpR (op_cmpG hu ok hr) pe_U pe_U hm) fun σ H Q ho hs k => h.at ho hs fun v H1 x μ1 s1 h1 b1 n1 p => p.at h1 b1 fun u H2 y μ2 s2 h2 b2 n2 q =>
    ⟨μ2, x, y, _, h2, n1.mono s2, n2, q, fun w H3 μ3 s3 h3 r => ⟨w, rfl, k _ H3 μ3 ((s1.trans s2).trans s3) h3 r⟩⟩
end
end Hw
set_option Elab.async false
set_option linter.all false
set_option maxRecDepth 100000
set_option maxHeartbeats 2000000
namespace Hw
open PySem L2 PyProof.Rows
/-! ### enumerate, zip of lists and tuples -/
/-- a tuple (true) or a list -/
def SqB (K : PySem.W.Frag) (b : Bool) (H : Hp) (a : Addr) (xs : List V) : Prop := match b with
  | true => SqT K H a xs
  | false => SqL K H a xs
def IsB (b : Bool) (h : Heap) (a : Addr) (items : Array Value) : Prop := match b with
  | true => h.IsTuple a items
  | false => h.IsList a items
def ItB (b : Bool) (h : Heap) (it a : Addr) (i : Nat) : Prop := match b with
  | true => h.IsTupleIter it a i
  | false => h.IsListIter it a i
def itO (b : Bool) (a : Addr) : Obj := match b with
  | true => { cls := .type "tuple_iterator", data := .fields #[.ref a, .int 0 0] }
  | false => { cls := .type "list_iterator", data := .fields #[.ref a, .int 0 0] }
theorem beginsB (b : Bool) (a : Addr) (items : Array Value) : Begins (.ref a) (itO b a) fun h => IsB b h a items := by
  cases b
  · exact begins_list a items
  · exact begins_tuple a items
theorem drawsB (b : Bool) {prog : Program} {w : World} {A : Around} (hh : A.handled = none) (it a : Addr) (hne : a ≠ it) (items : Array Value) :
    Draws prog w A it [it, a] items.size (fun i v => items[i]? = some v) (fun i h => ItB b h it a i ∧ IsB b h a items) := by
  cases b
  · exact .list hh it a hne items
  · exact .tuple hh it a hne items
theorem endB (b : Bool) {prog : Program} {w : World} {A : Around} (hh : A.handled = none) (it a : Addr) (items : Array Value) {i : Nat} (hx : items[i]? = none) :
    Draws prog w A it [it, a] i (fun _ _ => True) (fun j h => j = i ∧ ItB b h it a i ∧ IsB b h a items) where
  live := fun j h st => by
    cases b
    · obtain ⟨_, ⟨o, e, _⟩, _⟩ := st; exact ⟨o, e⟩
    · obtain ⟨_, ⟨o, e, _⟩, _⟩ := st; exact ⟨o, e⟩
  frame := fun j h h' st hk => by
    obtain ⟨e, h1, h2⟩ := st
    cases b
    · exact ⟨e, Heap.IsListIter.at h1 fun o e => hk it (by simp) o e, Heap.IsList.at h2 fun o e => hk a (by simp) o e⟩
    · exact ⟨e, Heap.IsTupleIter.at h1 fun o e => hk it (by simp) o e, Heap.IsTuple.at h2 fun o e => hk a (by simp) o e⟩
  item := fun j s Q E hi st hQ => absurd st.1 (Nat.ne_of_lt hi)
  done := fun s Q E st hE => by
    obtain ⟨_, h1, h2⟩ := st
    cases b
    · exact wpAny_nextOf_list_end hh h1 h2 hx hE
    · exact wpAny_nextOf_tuple_end hh h1 h2 hx hE
theorem itB_new {b : Bool} {h : Heap} {it a : Addr} (e : h.get? it = some (itO b a)) : ItB b h it a 0 := by
  cases b
  · exact ⟨_, e, rfl, rfl⟩
  · exact ⟨_, e, rfl, rfl⟩
theorem ItB.obj {b : Bool} {h : Heap} {it a : Addr} {i : Nat} (x : ItB b h it a i) : ∃ o, h.get? it = some o ∧ (o.cls = .type "tuple_iterator" ∨ o.cls = .type "list_iterator") ∧ ∀ v, o.data ≠ .cell v := by
  cases b
  · obtain ⟨o, e, c, d⟩ := x; exact ⟨o, e, .inr c, fun v q => by rw [d] at q; cases q⟩
  · obtain ⟨o, e, c, d⟩ := x; exact ⟨o, e, .inl c, fun v q => by rw [d] at q; cases q⟩
theorem ItB.at {b : Bool} {h h' : Heap} {it a : Addr} {i : Nat} (x : ItB b h it a i) (k : ∀ o, h.get? it = some o → h'.get? it = some o) : ItB b h' it a i := by
  cases b
  · exact Heap.IsListIter.at x k
  · exact Heap.IsTupleIter.at x k
theorem IsB.obj {b : Bool} {h : Heap} {a : Addr} {items : Array Value} (x : IsB b h a items) : ∃ o, h.get? a = some o ∧ (o.cls = .type "tuple" ∨ o.cls = .type "list") := by
  cases b
  · obtain ⟨o, e, c, d⟩ := x; exact ⟨o, e, .inr c⟩
  · obtain ⟨o, e, c, d⟩ := x; exact ⟨o, e, .inl c⟩
section
variable {X : Cx} {pins : List (Addr × Obj)} {σ : L2.St} {H : Hp} {s : Shared}
theorem sqB_is {b : Bool} {a : Addr} {xs : List V} (I : Inv X pins σ H s) (h : SqB X.K b H a xs) : ∃ its, Vals xs its ∧ IsB b s.heap a its.toArray := by
  cases b
  · obtain ⟨its, r, p, z⟩ := I.list h
    exact ⟨its, r, p.isList⟩
  · obtain ⟨its, r, p, z⟩ := I.tuple h
    exact ⟨its, r, p⟩
theorem sqB_inj {b : Bool} {a : Addr} {xs ys : List V} (I : Inv X pins σ H s) (h1 : SqB X.K b H a xs) (h2 : SqB X.K b H a ys) : xs = ys := by
  cases b
  · exact I.list_inj h1 h2
  · exact I.tuple_inj h1 h2
end
set_option maxHeartbeats 1000000 in
theorem meets_enum1 {v : Value} {o : Obj} {H : Heap → Prop} (B : Begins v o H) :
    _root_.PySem.Meets (Builtin.«enumerate.__new__» ⟨[.type "enumerate", v], []⟩) (fun _ R s => H s.heap ∧
      R (.ok (.ret (.ref (s.heap.push o).objs.size))) { s with heap := (s.heap.push o).push { cls := .type "enumerate", data := .fields #[.none, .bool false, .ref s.heap.objs.size, rawInt 0, .none, .none] } }) :=
  .of_wp fun prog w A R s h => by
    obtain ⟨hp, g, d, tk, os⟩ := s; obtain ⟨h1, h⟩ := h
    have hsub := sub_enumerate
    have q1 : ∀ {A' : Around} {E : Value → Shared → Prop} {Q : Value → Shared → Prop}, Q (.ref hp.objs.size) ⟨hp.push o, g, d, tk, os⟩ → wpAny (model prog w) A' (pyIter v) Q E ⟨hp, g, d, tk, os⟩ :=
      fun q => B.iter prog w _ _ ⟨hp, g, d, tk, os⟩ _ h1 q
    wp_walk using q1
    refine wpAny_stack_any fun st => wpAny_pure ?_
    split
    · rename_i c _ _ _ _ _
      cases (c == Value.type "enumerate")
      · wp_walk using q1
        exact ⟨_, rfl, h⟩
      · wp_walk using q1
        exact ⟨_, rfl, h⟩
    · wp_walk using q1
      exact ⟨_, rfl, h⟩
theorem enum_new {prog : Program} {w : World} {A : Around} {E : Value → Shared → Prop} {s : Shared} {v : Value} {o : Obj} {H : Heap → Prop} {Q : Value → Shared → Prop} (B : Begins v o H) (h1 : H s.heap)
    (h : ∀ h', IsEnum h' (s.heap.objs.size + 1) s.heap.objs.size 0 .none → h'.get? s.heap.objs.size = some o → h'.objs.size = s.heap.objs.size + 2 →
      (∀ b o, s.heap.get? b = some o → h'.get? b = some o) → Q (.ref (s.heap.objs.size + 1)) { s with heap := h' }) :
    wpAny (model prog w) A (call (.type "enumerate") [v]) Q E s := by
  refine callType_new F.called_enumerate (by decide) (F.typeCall_enumerate_1 _) (F.newCall_enumerate_1 _) (fun obj => F.args_object_init_2 obj _) F.entry_enumerate_new
    (meets_enum1 B) ⟨h1, ?_⟩
  have hz : (s.heap.push o).objs.size = s.heap.objs.size + 1 := Heap.size_push ..
  show _ ∧ _
  rw [hz]
  have he : IsEnum ((s.heap.push o).push { cls := .type "enumerate", data := .fields #[.none, .bool false, .ref s.heap.objs.size, rawInt 0, .none, .none] }) (s.heap.objs.size + 1) s.heap.objs.size 0 .none := by
    have := Heap.get?_push_size (s.heap.push o) (o := { cls := .type "enumerate", data := .fields #[.none, .bool false, .ref s.heap.objs.size, rawInt 0, .none, .none] }) rfl
    rw [hz] at this; exact this
  refine ⟨⟨_, he, rfl⟩, h _ he (Heap.get?_push_of_some _ (Heap.get?_push_size _ B.free)) (by rw [Heap.size_push, hz]) fun b o x => Heap.get?_push_of_some _ (Heap.get?_push_of_some _ x)⟩
/-- the items at a, each in a new pair -/
def IteB (K : PySem.W.Frag) (b : Bool) (a : Addr) : It :=
  ⟨fun i H => ∃ (xs : List V) (x : V), SqB K b H a xs ∧ xs[i]? = some x, fun i H v H' => ∃ T x, v = .ref T ∧ H T = none ∧ H' = upd H T (.tup [.int (i : Nat), x]) ∧ ∀ xs, SqB K b H a xs → xs[i]? = some x, fun i H => ∃ xs : List V, SqB K b H a xs ∧ xs.length ≤ i⟩
theorem turn_enumB {P : Program} {w : World} {K : PySem.W.Frag} {elts : List Expr} {kk : Nat} {tpos : Pos} (b : Bool) (a e it : Addr) :
    Turn P w K (.Tuple elts kk tpos) (IteB K b a) [e, it] e (fun i h => (∃ old, IsEnum h e it ((i : Nat) : Int) old) ∧ ItB b h it a i ∧ e ≠ it) where
  mem := by simp
  obj := fun i h st c hb => by
    obtain ⟨⟨old, he⟩, hi, _⟩ := st
    obtain ⟨o, ho, _, hd⟩ := hi.obj
    have e' : c = e ∨ c = it := by simpa using hb
    rcases e' with z | z
    · rw [z]; exact ⟨_, he, fun v q => nomatch q⟩
    · rw [z]; exact ⟨o, ho, hd⟩
  keep := fun i h h' st k => let ⟨⟨old, he⟩, hi, hne⟩ := st; ⟨⟨old, k e (by simp) _ he⟩, hi.at fun o q => k it (by simp) o q, hne⟩
  item := by
    intro X hP hw hK hc i pins s σ H E I hf st hg
    subst hP hw hK
    obtain ⟨⟨old, he⟩, hit, hne⟩ := st
    obtain ⟨xs, x, hq, hx⟩ := hg
    obtain ⟨its, rv, p⟩ := sqB_is I hq
    obtain ⟨u, hu, ru⟩ := rv.get hx
    have hel : e < s.heap.objs.size := Heap.lt_size he
    obtain ⟨oi, hio, hic, _⟩ := hit.obj
    obtain ⟨oa, hao, hac⟩ := p.obj
    have hil : it < s.heap.objs.size := Heap.lt_size hio
    have hai : a ≠ it := by
      rintro rfl
      rw [hio] at hao
      cases hao
      rcases hic with z | z <;> rw [z] at hac <;> simp at hac
    have hae : a ≠ e := by
      rintro rfl
      rw [show s.heap.get? a = some _ from he] at hao
      cases hao
      simp at hac
    have hlt : i < its.toArray.size := by
      have := (List.getElem?_eq_some_iff.mp hu).1
      simpa using this
    refine wpAny_pyNext_enum_itemD (drawsB b (A := X.A.in1) (I.ok.hd hc) it a hai its.toArray) he ⟨hit, p⟩ hlt hne (by simp [hne, Ne.symm hae]) fun y h' tk hy ho hit' hT hsz hk => ?_
    obtain rfl : u = y := by
      have : its.toArray[i]? = some u := by simpa using hu
      rw [this] at hy
      exact Option.some.inj hy
    refine ⟨_, rfl, wpAny_letOwnedTupleGo_enum (s := { s with heap := h', toks := tk + 1 }) ho fun h'' he' sb => ?_⟩
    have hT2 : h''.get? s.heap.objs.size = some { cls := .type "tuple", data := .seq #[.int i tk, u] } := (sb.2 _ (Nat.ne_of_gt hel)).trans hT
    have new : ObjOk X.prog X.w (upd H s.heap.objs.size (.tup [.int (i : Nat), x])) h'' s.heap.objs.size (.tup [.int (i : Nat), x]) :=
      ⟨by show 2 ≤ sizeLine; decide, [.int i tk, u], .cons ⟨_, rfl⟩ (.cons ru .nil), ⟨_, hT2, rfl, _, rfl⟩⟩
    have I1 : Inv X pins σ (upd H s.heap.objs.size (.tup [.int (i : Nat), x])) { s with heap := h'', toks := tk + 1 } :=
      I.turnedNew (ch := [e, it]) (fun b ob hb q => (sb.2 b (fun z => hb (by simp [z]))).trans (hk b ob (fun z => hb (by simp [z])) (fun z => hb (by simp [z])) q)) hf (Nat.le_refl _) new
    refine ⟨.ref s.heap.objs.size, _, I1, rfl, ⟨_, x, rfl, I.hok.fresh (Nat.le_refl _), rfl, fun ys hy => by rw [sqB_inj I hy hq]; exact hx⟩, ⟨⟨u, ?_⟩, hit'.1.at fun o q => (sb.2 it (Ne.symm hne)).trans q, hne⟩, fun b hb => ?_⟩
    · have e1 : ((i + 1 : Nat) : Int) = (i : Int) + 1 := by omega
      rw [e1]; exact he'
    · have hb' : b < s.heap.objs.size := by
        have e' : b = e ∨ b = it := by simpa using hb
        rcases e' with z | z
        · rw [z]; exact hel
        · rw [z]; exact hil
      rw [upd_ne (Nat.ne_of_lt hb')]
      exact (hf b hb).1
  done := by
    intro X hP hw hK hc i pins s σ H E I hf st hg
    subst hP hw hK
    obtain ⟨⟨old, he⟩, hit, hne⟩ := st
    obtain ⟨xs, hq, hx⟩ := hg
    obtain ⟨its, rv, p⟩ := sqB_is I hq
    obtain ⟨f0, f1, f2, f3, f4, f5⟩ := hf it (by simp)
    have hl := rv.length
    obtain ⟨oi, hio, hic, _⟩ := hit.obj
    have hai : a ≠ it := by
      obtain ⟨oa, hao, hac⟩ := p.obj
      rintro rfl
      rw [hio] at hao
      cases hao
      rcases hic with z | z <;> rw [z] at hac <;> simp at hac
    have hx' : its.toArray[i]? = none := by simp; omega
    exact wpAny_pyNext_enum_endD (endB b (A := X.A.in1) (I.ok.hd hc) it a its.toArray hx') he ⟨rfl, hit, p⟩ fun h' eb => ⟨rfl, I.turned (t' := s.toks) (fun b o hb q => eb b o hb q) f0 f1 f3 f4 f5⟩
  self := fun A i s Q E st h => let ⟨⟨_, he⟩, _⟩ := st; wpAny_pyIter_enum he h
end Hw
set_option Elab.async false
set_option linter.all false
set_option maxRecDepth 100000
set_option maxHeartbeats 2000000
namespace Hw
open PySem L2 PyProof.Rows
/-- the items at a and c, in new pairs -/
def ItzB (K : PySem.W.Frag) (b1 b2 : Bool) (a c : Addr) : It :=
  ⟨fun i H => ∃ (xs ys : List V) (x y : V), SqB K b1 H a xs ∧ SqB K b2 H c ys ∧ xs[i]? = some x ∧ ys[i]? = some y,
    fun i H v H' => ∃ T x y, v = .ref T ∧ H T = none ∧ H' = upd H T (.tup [x, y]) ∧ (∀ xs, SqB K b1 H a xs → xs[i]? = some x) ∧ ∀ ys, SqB K b2 H c ys → ys[i]? = some y,
    fun i H => ∃ xs ys : List V, SqB K b1 H a xs ∧ SqB K b2 H c ys ∧ (xs.length ≤ i ∨ ys.length ≤ i)⟩
/-- the zip's cells lie apart from each other -/
structure Zap (z TI TO i1 i2 : Addr) : Prop where
  TIz : TI ≠ z
  TOz : TO ≠ z
  TITO : TI ≠ TO
  TIi1 : TI ≠ i1
  TIi2 : TI ≠ i2
  zi1 : z ≠ i1
  zi2 : z ≠ i2
  TOi1 : TO ≠ i1
  TOi2 : TO ≠ i2
  i12 : i1 ≠ i2
theorem Zap.sep {z TI TO i1 i2 a c : Addr} (Z : Zap z TI TO i1 i2) (ha : a ≠ z ∧ a ≠ TO ∧ a ≠ i2) (hc : c ≠ z ∧ c ≠ TO ∧ c ≠ i1) : ZipSep2 z TI TO i1 i2 [i1, a] [i2, c] :=
  { TIz := Z.TIz, TOz := Z.TOz, TITO := Z.TITO, TIi1 := Z.TIi1, mem1 := by simp, zf1 := by simp [Z.zi1, Ne.symm ha.1], Tf1 := by simp [Z.TOi1, Ne.symm ha.2.1], TIi2 := Z.TIi2, mem2 := by simp, zf2 := by simp [Z.zi2, Ne.symm hc.1],
    Tf2 := by simp [Z.TOi2, Ne.symm hc.2.1], sep1_2 := by simp [Z.i12, Ne.symm hc.2.2], sep2_1 := by simp [Ne.symm Z.i12, Ne.symm ha.2.2] }
theorem turn_zipB {P : Program} {w : World} {K : PySem.W.Frag} {elts : List Expr} {kk : Nat} {tpos : Pos} {b1 b2 : Bool} {a c z TI TO i1 i2 : Addr} (Z : Zap z TI TO i1 i2) (ha : a ≠ z ∧ a ≠ TO ∧ a ≠ i2 ∧ a ≠ i1) (hc0 : c ≠ z ∧ c ≠ TO ∧ c ≠ i1 ∧ c ≠ i2) :
    Turn P w K (.Tuple elts kk tpos) (ItzB K b1 b2 a c) [z, TI, TO, i1, i2] z (fun i h => IsZip h z TI TO .none ∧ IsTupOf2 h TI (.ref i1) (.ref i2) ∧ (∃ x y, IsTupOf2 h TO x y) ∧ ItB b1 h i1 a i ∧ ItB b2 h i2 c i) where
  mem := by simp
  obj := fun i h st q hq => by
    obtain ⟨hz, hTI, ⟨x, y, hTO⟩, h1, h2⟩ := st
    obtain ⟨o1, e1, _, d1⟩ := h1.obj
    obtain ⟨o2, e2, _, d2⟩ := h2.obj
    have e' : q = z ∨ q = TI ∨ q = TO ∨ q = i1 ∨ q = i2 := by simpa using hq
    rcases e' with q | q | q | q | q
    · rw [q]; exact ⟨_, hz, fun v q => nomatch q⟩
    · rw [q]; exact ⟨_, hTI, fun v q => nomatch q⟩
    · rw [q]; exact ⟨_, hTO, fun v q => nomatch q⟩
    · rw [q]; exact ⟨o1, e1, d1⟩
    · rw [q]; exact ⟨o2, e2, d2⟩
  keep := fun i h h' st k => by
    obtain ⟨hz, hTI, ⟨x, y, hTO⟩, h1, h2⟩ := st
    exact ⟨k z (by simp) _ hz, k TI (by simp) _ hTI, ⟨x, y, k TO (by simp) _ hTO⟩, h1.at fun o q => k i1 (by simp) o q, h2.at fun o q => k i2 (by simp) o q⟩
  item := by
    intro X hP hw hK hc i pins s σ H E I hf st hg
    subst hP hw hK
    obtain ⟨hz, hTI, ⟨x0, y0, hTO⟩, h1, h2⟩ := st
    obtain ⟨xs, ys, x, y, hqx, hqy, hx, hy⟩ := hg
    obtain ⟨its, rv, p⟩ := sqB_is I hqx
    obtain ⟨its2, rv2, p2⟩ := sqB_is I hqy
    obtain ⟨u, hu, ru⟩ := rv.get hx
    obtain ⟨u2, hu2, ru2⟩ := rv2.get hy
    have hzl : z < s.heap.objs.size := Heap.lt_size hz
    have hlt1 : i < its.toArray.size := by simpa using (List.getElem?_eq_some_iff.mp hu).1
    have hlt2 : i < its2.toArray.size := by simpa using (List.getElem?_eq_some_iff.mp hu2).1
    refine wpAny_pyNext_zipD2_item (Z.sep ⟨ha.1, ha.2.1, ha.2.2.1⟩ ⟨hc0.1, hc0.2.1, hc0.2.2.1⟩) (drawsB b1 (A := X.A.in1) (I.ok.hd hc) i1 a ha.2.2.2 its.toArray) (drawsB b2 (A := X.A.in1) (I.ok.hd hc) i2 c hc0.2.2.2 its2.toArray) hz hTI hTO ⟨h1, p⟩ ⟨h2, p2⟩ hlt1 hlt2 fun w1 w2 h' tk hw1 hw2 z' TO' h1' h2' hT hsz hk => ?_
    obtain rfl : u = w1 := by
      have : its.toArray[i]? = some u := by simpa using hu
      rw [this] at hw1
      exact Option.some.inj hw1
    obtain rfl : u2 = w2 := by
      have : its2.toArray[i]? = some u2 := by simpa using hu2
      rw [this] at hw2
      exact Option.some.inj hw2
    refine ⟨_, rfl, wpAny_letOwnedTupleGo_zip (s := { s with heap := h', toks := tk }) z' fun h'' z'' sb => ?_⟩
    have hT2 : h''.get? s.heap.objs.size = some { cls := .type "tuple", data := .seq #[u, u2] } := (sb.2 _ (Nat.ne_of_gt hzl)).trans hT
    have new : ObjOk X.prog X.w (upd H s.heap.objs.size (.tup [x, y])) h'' s.heap.objs.size (.tup [x, y]) :=
      ⟨by show 2 ≤ sizeLine; decide, [u, u2], .cons ru (.cons ru2 .nil), ⟨_, hT2, rfl, _, rfl⟩⟩
    have I1 : Inv X pins σ (upd H s.heap.objs.size (.tup [x, y])) { s with heap := h'', toks := tk } :=
      I.turnedNew (t' := tk) (ch := [z, TI, TO, i1, i2]) (fun c o hb q => (sb.2 c (fun q' => hb (by simp [q']))).trans (hk c o (fun q' => hb (by simp [q'])) (fun q' => hb (by simp [q'])) (fun q' => hb (by simp [q'])) (fun q' => hb (by simp [q'])) q)) hf (Nat.le_refl _) new
    refine ⟨.ref s.heap.objs.size, _, I1, rfl, ⟨_, x, y, rfl, I.hok.fresh (Nat.le_refl _), rfl, fun l hl => by rw [sqB_inj I hl hqx]; exact hx, fun l hl => by rw [sqB_inj I hl hqy]; exact hy⟩, ⟨z'', ?_, ⟨u, u2, ?_⟩, ?_, ?_⟩, fun c hcm => ?_⟩
    · exact (sb.2 _ Z.TIz).trans (hk _ _ Z.TIz Z.TITO Z.TIi1 Z.TIi2 hTI)
    · exact (sb.2 _ Z.TOz).trans TO'
    · exact h1'.1.at fun o q => (sb.2 _ (Ne.symm Z.zi1)).trans q
    · exact h2'.1.at fun o q => (sb.2 _ (Ne.symm Z.zi2)).trans q
    · have hlt : c < s.heap.objs.size := by
        have e' : c = z ∨ c = TI ∨ c = TO ∨ c = i1 ∨ c = i2 := by simpa using hcm
        rcases e' with q | q | q | q | q
        · rw [q]; exact hzl
        · rw [q]; exact Heap.lt_size hTI
        · rw [q]; exact Heap.lt_size hTO
        · rw [q]; obtain ⟨_, e1, _⟩ := h1.obj; exact Heap.lt_size e1
        · rw [q]; obtain ⟨_, e2, _⟩ := h2.obj; exact Heap.lt_size e2
      rw [upd_ne (Nat.ne_of_lt hlt)]
      exact (hf c hcm).1
  done := by
    intro X hP hw hK hc i pins s σ H E I hf st hg
    subst hP hw hK
    obtain ⟨hz, hTI, ⟨x0, y0, hTO⟩, h1, h2⟩ := st
    obtain ⟨xs, ys, hqx, hqy, hend⟩ := hg
    obtain ⟨its, rv, p⟩ := sqB_is I hqx
    obtain ⟨its2, rv2, p2⟩ := sqB_is I hqy
    have l1 := rv.length
    have l2 := rv2.length
    have S := Z.sep (a := a) (c := c) ⟨ha.1, ha.2.1, ha.2.2.1⟩ ⟨hc0.1, hc0.2.1, hc0.2.2.1⟩
    have fin : ∀ (h' : Heap) (tk : Tok), (∀ q o, q ≠ z → q ≠ TO → q ≠ i1 → q ≠ i2 → s.heap.get? q = some o → h'.get? q = some o) → (none : Option Value) = none ∧ Inv X pins σ H { s with heap := h', toks := tk } := fun h' tk hk =>
      ⟨rfl, I.turnedL (t' := tk) (ch := [z, TI, TO, i1, i2]) (fun c o hb q => hk c o (fun q' => hb (by simp [q'])) (fun q' => hb (by simp [q'])) (fun q' => hb (by simp [q'])) (fun q' => hb (by simp [q'])) q) hf⟩
    have hd : X.A.in1.handled = none := I.ok.hd hc
    by_cases e1 : its.length ≤ i
    · have x1 : its.toArray[i]? = none := by simp; omega
      by_cases e2 : its2.length ≤ i
      · have x2 : its2.toArray[i]? = none := by simp; omega
        exact wpAny_pyNext_zipD2_end S (endB b1 hd i1 a its.toArray x1) (endB b2 hd i2 c its2.toArray x2) hz hTI hTO ⟨rfl, h1, p⟩ ⟨rfl, h2, p2⟩ (Nat.le_refl _) (Nat.le_refl _) (.inl rfl) fin
      · exact wpAny_pyNext_zipD2_end S (endB b1 hd i1 a its.toArray x1) (drawsB b2 hd i2 c hc0.2.2.2 its2.toArray) hz hTI hTO ⟨rfl, h1, p⟩ ⟨h2, p2⟩ (Nat.le_refl _) (by simp; omega) (.inl rfl) fin
    · have e2 : its2.length ≤ i := by omega
      have x2 : its2.toArray[i]? = none := by simp; omega
      exact wpAny_pyNext_zipD2_end S (drawsB b1 hd i1 a ha.2.2.2 its.toArray) (endB b2 hd i2 c its2.toArray x2) hz hTI hTO ⟨h1, p⟩ ⟨rfl, h2, p2⟩ (by simp; omega) (Nat.le_refl _) (.inr rfl) fin
  self := fun A i s Q E st h => wpAny_pyIter_zip st.1 h
section
variable {X : Cx} {PE : XP} {e e2 o : Expr} {es : List Expr} {μ : Mu} {ds : DS} {P : DP} {pos tpos p : Pos} {te te2 : TE} {elts : List Expr} {kk : Nat}
theorem zap_new (n : Nat) : Zap (n + 4) (n + 2) (n + 3) n (n + 1) := by
  constructor <;> (show @Ne Nat _ _; omega)
theorem ne_new {a n : Nat} (h : a < n) : (a : Addr) ≠ n + 4 ∧ (a : Addr) ≠ n + 3 ∧ (a : Addr) ≠ n + 1 ∧ (a : Addr) ≠ n := by
  refine ⟨?_, ?_, ?_, ?_⟩ <;> (show @Ne Nat _ _; omega)
theorem ne_new' {a n : Nat} (h : a < n) : (a : Addr) ≠ n + 4 ∧ (a : Addr) ≠ n + 3 ∧ (a : Addr) ≠ n ∧ (a : Addr) ≠ n + 1 := by
  refine ⟨?_, ?_, ?_, ?_⟩ <;> (show @Ne Nat _ _; omega)
theorem pi_enumB (hg : Gl X "enumerate") (hm : X.mg "enumerate" = none) (he : L2.PE X e te) (hs : notStar e = true) :
    PI X (.Tuple elts kk tpos) (.Call (.Name "enumerate" p) [e] [] pos) (fun σ H R => te σ H fun x H1 => ∃ a b xs, x = .ref a ∧ SqB X.K b H1 a xs ∧ R (IteB X.K b a) H1) := by
  refine ⟨fun pins s σ H R I h => ?_⟩
  refine Call_ (ld_blt I hg hm PyProof.Rows.boot_enumerate (PyProof.Rows.callWith_type1 (thn ((pa_cons he pa_nil (star1 hs)).run pos pins s σ H (fun vs H1 => match vs with | [x] => ∃ a b xs, x = .ref a ∧ SqB X.K b H1 a xs ∧ R (IteB X.K b a) H1 | _ => False) I h) fun us s1 ⟨vs, H1, I1, r1, q1⟩ => ?_) (star1 hs) rfl))
  match vs, r1, q1 with
  | [x], r1, q1 =>
    obtain ⟨a, b, xs, rfl, hq, q⟩ := q1
    cases r1 with
    | cons r rr =>
      cases rr
      cases r
      obtain ⟨its, rv, p'⟩ := sqB_is I1 hq
      refine enum_new (beginsB b a its.toArray) p' fun h' he hit hsz hk => wpAny_pyIter_enum he ?_
      have I2 : Inv X pins σ H1 { s1 with heap := h' } := I1.kept (t' := s1.toks) hk
      refine ⟨s1.heap.objs.size + 1, [s1.heap.objs.size + 1, s1.heap.objs.size], _, _, H1, rfl, I2, turn_enumB b a (s1.heap.objs.size + 1) s1.heap.objs.size, ⟨⟨.none, he⟩, itB_new hit, Nat.succ_ne_self _⟩, fun b hb => ?_, q⟩
      have e' : b = s1.heap.objs.size + 1 ∨ b = s1.heap.objs.size := by simpa using hb
      have hle : s1.heap.objs.size ≤ b := by
        rcases e' with z | z
        · rw [z]; exact Nat.le_add_right _ _
        · rw [z]; exact Nat.le_refl _
      exact I1.fpOk hle (I1.hok.fresh hle)
theorem pi_zipB (hg : Gl X "zip") (hm : X.mg "zip" = none) (he : L2.PE X e te) (he2 : L2.PE X e2 te2) (hs : notStar e = true) (hs2 : notStar e2 = true) :
    PI X (.Tuple elts kk tpos) (.Call (.Name "zip" p) [e, e2] [] pos) (fun σ H R => te σ H fun x H1 => te2 σ H1 fun y H2 => ∃ a b1 xs c b2 ys, x = .ref a ∧ y = .ref c ∧ SqB X.K b1 H2 a xs ∧ SqB X.K b2 H2 c ys ∧ R (ItzB X.K b1 b2 a c) H2) := by
  refine ⟨fun pins s σ H R I h => ?_⟩
  refine Call_ (ld_blt I hg hm PyProof.Rows.boot_zip (PyProof.Rows.callWith_type1 (thn ((pa_cons he (pa_cons he2 pa_nil (star1 hs2)) (star1 hs)).run pos pins s σ H (fun vs H2 => match vs with | [x, y] => ∃ a b1 xs c b2 ys, x = .ref a ∧ y = .ref c ∧ SqB X.K b1 H2 a xs ∧ SqB X.K b2 H2 c ys ∧ R (ItzB X.K b1 b2 a c) H2 | _ => False) I h) fun us s1 ⟨vs, H1, I1, r1, q1⟩ => ?_) (star1 hs) (starAny (es := [e2]) (by simp [hs2]))))
  match vs, r1, q1 with
  | [x, y], r1, q1 =>
    obtain ⟨a, b1, xs, c, b2, ys, rfl, rfl, hqx, hqy, q⟩ := q1
    cases r1 with
    | cons r rr =>
      cases rr with
      | cons r' rr =>
        cases rr
        cases r
        cases r'
        obtain ⟨its, rv, p1⟩ := sqB_is I1 hqx
        obtain ⟨its2, rv2, p2⟩ := sqB_is I1 hqy
        have la : a < s1.heap.objs.size := by obtain ⟨_, e, _⟩ := p1.obj; exact Heap.lt_size e
        have lb : c < s1.heap.objs.size := by obtain ⟨_, e, _⟩ := p2.obj; exact Heap.lt_size e
        refine zip_begins2 (beginsB b1 a its.toArray) (beginsB b2 c its2.toArray) p1 p2 fun h' hz hTI hTO h1 h2 hsz hk => wpAny_pyIter_zip hz ?_
        have I2 : Inv X pins σ H1 { s1 with heap := h' } := I1.kept (t' := s1.toks) hk
        refine ⟨s1.heap.objs.size + 4, [s1.heap.objs.size + 4, s1.heap.objs.size + 2, s1.heap.objs.size + 3, s1.heap.objs.size, s1.heap.objs.size + 1], _, _, H1, rfl, I2, turn_zipB (zap_new s1.heap.objs.size) (ne_new la) (ne_new' lb), ⟨hz, hTI, ⟨_, _, hTO⟩, itB_new h1, itB_new h2⟩, fun c hcm => ?_, q⟩
        have e' : c = s1.heap.objs.size + 4 ∨ c = s1.heap.objs.size + 2 ∨ c = s1.heap.objs.size + 3 ∨ c = s1.heap.objs.size ∨ c = s1.heap.objs.size + 1 := by simpa using hcm
        have hle : s1.heap.objs.size ≤ c := by
          rcases e' with z | z | z | z | z <;> (rw [z]; first | exact Nat.le_refl _ | exact Nat.le_add_right _ _)
        exact I1.fpOk hle (I1.hok.fresh hle)
/-- the pairs that enumerate gives -/
def enumD (xs : List D) : List D := (List.range xs.length).zipWith (fun i x => .tup [.int (i : Nat), x]) xs
def zipD (xs ys : List D) : List D := xs.zipWith (fun x y => .tup [x, y]) ys
theorem enumD_get {xs : List D} {i : Nat} {x : D} (h : (enumD xs)[i]? = some x) : ∃ d, xs[i]? = some d ∧ x = .tup [.int (i : Nat), d] := by
  unfold enumD at h
  rw [List.getElem?_zipWith] at h
  cases e : xs[i]? with
  | none => rw [e] at h; simp at h
  | some d =>
    have hl : i < xs.length := (List.getElem?_eq_some_iff.mp e).1
    rw [e, List.getElem?_range hl] at h
    exact ⟨d, rfl, (Option.some.inj h).symm⟩
theorem zipD_get {xs ys : List D} {i : Nat} {x : D} (h : (zipD xs ys)[i]? = some x) : ∃ d e, xs[i]? = some d ∧ ys[i]? = some e ∧ x = .tup [d, e] := by
  unfold zipD at h
  rw [List.getElem?_zipWith] at h
  cases e : xs[i]? with
  | none => rw [e] at h; simp at h
  | some d =>
    cases e2 : ys[i]? with
    | none => rw [e, e2] at h; simp at h
    | some d2 =>
      rw [e, e2] at h
      exact ⟨d, d2, rfl, rfl, (Option.some.inj h).symm⟩
theorem enumD_len {xs : List D} : (enumD xs).length = xs.length := by simp [enumD]
theorem zipD_len {xs ys : List D} : (zipD xs ys).length = min xs.length ys.length := by simp [zipD]
/-- data that is walked: it stays -/
theorem seqK_sq {K : PySem.W.Frag} {H : Hp} {v : V} {d : D} {R : List D → Prop} (n : Den K μ H v d) (h : seqK d R) : ∃ a b ws ys, v = .ref a ∧ (∀ H1 μ1, Stp μ H μ1 H1 → SqB K b H1 a ws) ∧ DenAll K μ H ws ys ∧ R ys := by
  cases n with
  | tup q r t => exact ⟨_, true, _, _, rfl, fun H1 μ1 s => .inl (.inl (s _ _ q r nofun).1), t, h⟩
  | tupK r t => exact ⟨_, true, _, _, rfl, fun H1 μ1 s => r H1, t, h⟩
  | lst q r t => exact ⟨_, false, _, _, rfl, fun H1 μ1 s => SqL.of (s _ _ q r nofun).1, t, h⟩
  | rol q r t => exact ⟨_, false, _, _, rfl, fun H1 μ1 s => .inl (Rd.stp s q r).1, t, h⟩
  | rolK r t => exact ⟨_, false, _, _, rfl, fun H1 μ1 s => r H1, t, h⟩
  | _ => exact h.elim
theorem itd_enum {K : PySem.W.Frag} {H : Hp} {b : Bool} {a : Addr} {vs : List V} {xs : List D} (h0 : ∀ H1 μ1, Stp μ H μ1 H1 → SqB K b H1 a vs) (n : DenAll K μ H vs xs) : ItD K (IteB K b a) μ H (enumD xs) := fun i H1 μ1 s h => by
  have hl := n.length
  refine ⟨fun q => ⟨vs, h0 H1 μ1 s, by rw [hl, ← enumD_len]; exact q⟩, fun x hx => ?_⟩
  obtain ⟨d, hd, rfl⟩ := enumD_get hx
  obtain ⟨v, hv, nv⟩ := n.getD hd
  refine ⟨⟨vs, v, h0 H1 μ1 s, hv⟩, fun w H2 ⟨T, y, ew, hT, eH, q⟩ => ?_⟩
  subst ew eH
  have e := q vs (h0 H1 μ1 s)
  rw [hv] at e
  cases e
  exact ⟨Stp.new hT, h.new hT, .tup (h.free hT) upd_same (.cons (.int _) (.cons ((nv.mono s).mono (Stp.new hT)) .nil))⟩
theorem itd_zip {K : PySem.W.Frag} {H : Hp} {b1 b2 : Bool} {a c : Addr} {vs ws : List V} {xs ys : List D} (h0 : ∀ H1 μ1, Stp μ H μ1 H1 → SqB K b1 H1 a vs) (n : DenAll K μ H vs xs) (h1 : ∀ H1 μ1, Stp μ H μ1 H1 → SqB K b2 H1 c ws) (n1 : DenAll K μ H ws ys) : ItD K (ItzB K b1 b2 a c) μ H (zipD xs ys) := fun i H1 μ1 s h => by
  have hl := n.length
  have hl1 := n1.length
  refine ⟨fun q => ⟨vs, ws, h0 H1 μ1 s, h1 H1 μ1 s, by rw [zipD_len] at q; omega⟩, fun x hx => ?_⟩
  obtain ⟨d, d2, hd, hd2, rfl⟩ := zipD_get hx
  obtain ⟨v, hv, nv⟩ := n.getD hd
  obtain ⟨u, hu, nu⟩ := n1.getD hd2
  refine ⟨⟨vs, ws, v, u, h0 H1 μ1 s, h1 H1 μ1 s, hv, hu⟩, fun w H2 ⟨T, y, z, ew, hT, eH, q1, q2⟩ => ?_⟩
  subst ew eH
  have e := q1 vs (h0 H1 μ1 s)
  rw [hv] at e
  cases e
  have e := q2 ws (h1 H1 μ1 s)
  rw [hu] at e
  cases e
  exact ⟨Stp.new hT, h.new hT, .tup (h.free hT) upd_same (.cons ((nv.mono s).mono (Stp.new hT)) (.cons ((nu.mono s).mono (Stp.new hT)) .nil))⟩
theorem ix_enum {PL : List D → Mu → Prop} (hg : Gl X "enumerate") (hm : X.mg "enumerate" = none) (hs : notStar e = true) (h : EX X PE μ ds e fun d μ1 => seqK d fun xs => PL (enumD xs) μ1) : IX X PE μ ds (.Tuple elts kk tpos) (.Call (.Name "enumerate" p) [e] [] pos) PL :=
  ix_of (pi_enumB hg hm pe_U hs) fun σ H R ho hs k => h.at ho hs fun v H1 d μ1 s1 h1 b1 n1 q => by
    obtain ⟨a, b, ws, ys, rfl, hq, nq, q⟩ := seqK_sq n1 q
    exact ⟨a, b, ws, rfl, hq H1 μ1 (Stp.refl _ _), k _ H1 _ μ1 s1 h1 (itd_enum hq nq) q⟩
theorem ix_zip {PL : List D → Mu → Prop} (hg : Gl X "zip") (hm : X.mg "zip" = none) (hs : notStar e = true) (hs2 : notStar e2 = true) (h : EX X PE μ ds e fun d μ1 => EX X PE μ1 ds e2 fun d2 μ2 => seqK d fun xs => seqK d2 fun ys => PL (zipD xs ys) μ2) : IX X PE μ ds (.Tuple elts kk tpos) (.Call (.Name "zip" p) [e, e2] [] pos) PL :=
  ix_of (pi_zipB hg hm pe_U pe_U hs hs2) fun σ H R ho hs k => h.at ho hs fun v H1 d μ1 s1 h1 b1 n1 q => q.at h1 b1 fun w H2 d2 μ2 s2 h2 b2 n2 q => by
    obtain ⟨a, b, ws, ys, rfl, hq, nq, q⟩ := seqK_sq (n1.mono s2) q
    obtain ⟨c, b', ws', ys', rfl, hq', nq', q⟩ := seqK_sq n2 q
    exact ⟨a, b, ws, c, b', ws', rfl, rfl, hq H2 μ2 (Stp.refl _ _), hq' H2 μ2 (Stp.refl _ _), k _ H2 _ μ2 (s1.trans s2) h2 (itd_zip hq nq hq' nq') q⟩
end
end Hw
set_option Elab.async false
set_option linter.all false
set_option maxRecDepth 100000
set_option maxHeartbeats 2000000
namespace Hw
open PySem L2 PyProof.Rows
/-! ### f-strings -/
def fmtK : D → (Str → Prop) → Prop
  | .str y, K => y.length ≤ sizeLine ∧ K y
  | .int i, K => i.natAbs.log2 < 1920 ∧ K (toString i)
  | _, _ => False
def strK : D → (Str → Prop) → Prop
  | .str y, K => K y
  | _, _ => False
section
variable {X : Cx} {PE : XP} {e e2 o : Expr} {es : List Expr} {μ : Mu} {ds : DS} {P : DP} {pos tpos p : Pos}
theorem ex_fmt (h : EX X PE μ ds e fun d m => fmtK d fun s => P (.str s) m) : EX X PE μ ds (.FormattedValue e (-1) none pos) P :=
  ex_of (pe_fmt pe_U) fun σ H Q ho hs k => h.at ho hs fun v H1 d μ1 s1 h1 b1 n1 q => by
    cases d with
    | str y => exact .inl ⟨y, n1.inv_str, q.1, k _ H1 _ μ1 s1 h1 (.str _) q.2⟩
    | int i => exact .inr ⟨i, n1.inv_int, q.1, k _ H1 _ μ1 s1 h1 (.str _) q.2⟩
    | _ => exact q.elim
/-- the parts of one, from acc on -/
def JX (X : Cx) (PE : XP) (μ : Mu) (ds : DS) (es : List Expr) (acc : Str) (K : Str → Mu → Prop) : Prop := ∀ σ H (Q : Str → Hp → Prop), Hold X.K μ H → Sl X PE μ H σ ds → (∀ out H' μ', Stp μ H μ' H' → Hold X.K μ' H' → K out μ' → Q out H') → tJs (es.map (tU X)) acc σ H Q
theorem jx_nil {acc : Str} {K : Str → Mu → Prop} (h : K acc μ) : JX X PE μ ds [] acc K := fun σ H Q ho hs k => k acc H μ (Stp.refl _ _) ho h
theorem jx_cons {acc : Str} {K : Str → Mu → Prop} (h : EX X PE μ ds e fun d m => strK d fun y => (acc ++ y).length ≤ sizeLine ∧ JX X PE m ds es (acc ++ y) K) : JX X PE μ ds (e :: es) acc K := fun σ H Q ho hs k =>
  h.at ho hs fun v H1 d μ1 s1 h1 b1 n1 q => by
    cases d with
    | str y => exact ⟨y, n1.inv_str, q.1, q.2 σ H1 Q h1 b1 fun out H' μ' s2 => k out H' μ' (s1.trans s2)⟩
    | _ => exact q.elim
theorem pj_U : ∀ es : List Expr, PJ X es (es.map (tU X))
  | [] => .nil
  | e :: es => .cons pe_U (pj_U es)
theorem ex_joined (h : JX X PE μ ds (e :: e2 :: es) Str.empty fun out m => P (.str out) m) : EX X PE μ ds (.JoinedStr (e :: e2 :: es) pos) P :=
  ex_of (pe_joined (pj_U _)) fun σ H Q ho hs k => h σ H _ ho hs fun out H' μ' s1 h1 p => k _ H' _ μ' s1 h1 (.str _) p
theorem ex_joined1 (h : EX X PE μ ds e P) : EX X PE μ ds (.JoinedStr [e] pos) P := ex_of (pe_joined1 pe_U) fun σ H Q ho hs k => h.at ho hs fun v H1 d μ1 s1 h1 b1 n1 q => k v H1 d μ1 s1 h1 n1 q
end
/-! ### bool -/
section
variable {X : Cx} {μ : Mu} {k : Nat}
def boolG (l : List SE) : List D → Mu → DP → Prop := fun xs μ P => match xs with
  | [.int i] => P (.bl (i != 0)) μ
  | [.bl b] => P (.bl b) μ
  | _ => False
theorem cr_boolG : CallR X (.type "bool") (rDB X.K (boolG [])) := by
  intro pins s σ H vs us Q I r h
  obtain ⟨μ, xs, P, ho, n, ok, kk⟩ := h
  unfold boolG at ok
  split at ok
  · obtain ⟨v, rfl, n1⟩ := n.one
    exact call_bool1 pins s σ H _ us Q I r (.inl ⟨_, by rw [n1.inv_int], kk _ H _ μ (Stp.refl _ _) ho (.bl _) ok⟩)
  · obtain ⟨v, rfl, n1⟩ := n.one
    exact call_bool1 pins s σ H _ us Q I r (.inr ⟨_, by rw [n1.inv_bl], kk _ H _ μ (Stp.refl _ _) ho (.bl _) ok⟩)
  · exact ok.elim
end
end Hw
set_option Elab.async false
set_option linter.all false
set_option maxRecDepth 100000
set_option maxHeartbeats 2000000
namespace Hw
open PySem L2 PyProof.Rows
/-! ### isinstance of an own class -/
def isoL (C : Addr) (K : Bool → Prop) : List (Addr × Bool) → Prop
  | [] => False
  | [p] => C = p.1 ∧ K p.2
  | p :: r => (C = p.1 ∧ K p.2) ∨ isoL C K r
theorem isoL_of {C : Addr} {K : Bool → Prop} : ∀ {l : List (Addr × Bool)}, isoL C K l → ∃ p ∈ l, C = p.1 ∧ K p.2
  | [p], h => ⟨p, List.mem_singleton.mpr rfl, h⟩
  | p :: q :: r, h => by
    rcases h with h | h
    · exact ⟨p, List.mem_cons_self, h⟩
    · obtain ⟨p', h1, h2⟩ := isoL_of (l := q :: r) h
      exact ⟨p', List.mem_cons_of_mem _ h1, h2⟩
def isoW (l : List (Addr × Bool)) (x : D) (μ : Mu) (K : Bool → Prop) : Prop := match isIns x with
  | true => insK x μ fun C _ => isoL C K l
  | false => (tyB x).isSome = true ∧ K false
structure IsoOk (K : PySem.W.Frag) (C : Addr) (l : List (Addr × Bool)) : Prop where
  own : ∀ p ∈ l, IsC K p.1 ∧ PySem.W.kitOne K (.ref p.1) (.ref C) = some p.2
  bs : (baseT.all fun n => PySem.W.kitOne K (.type n) (.ref C) == some false) = true
def isiC (C : Addr) (l : List (Addr × Bool)) : List D → Mu → DP → Prop := fun xs μ P => ∃ x, xs = [x, .ref C] ∧ isoW l x μ fun b => P (.bl b) μ
section
variable {X : Cx} {μ : Mu} {k : Nat} {PE : XP} {e : Expr} {ds : DS} {P : DP} {pos p p2 : Pos}
theorem cr_isiC {C : Addr} {l : List (Addr × Bool)} (ok : IsoOk X.K C l) : CallR X (.builtin "isinstance") (rDB X.K (isiC C l)) := by
  intro pins s σ H vs us Q I r h
  obtain ⟨μ, xs, P, ho, n, ⟨x, rfl, hw⟩, kk⟩ := h
  obtain ⟨v, w, rfl, n1, n2⟩ := n.two
  have fin : ∀ b, P (.bl b) μ → Q (.bl b) H := fun b p => kk _ H _ μ (Stp.refl _ _) ho (.bl b) p
  unfold isoW at hw
  cases hi : isIns x with
  | true =>
    rw [hi] at hw
    obtain ⟨a, C', dx, ws, fs, rfl, e1, nf, hR⟩ := insK_of ho n1 hw
    obtain ⟨q, hq, rfl, hp⟩ := isoL_of hR
    obtain ⟨i1, i2⟩ := ok.own q hq
    exact call_isi pins s σ H _ us Q I r ⟨.ref a, w, .ref q.1, .ref C, q.2, rfl, by rw [n2.inv_ref]; exact .own _, .base (.ins e1 i1.cl i1.ha i1.hn i1.ht i1.hm), i2, fin _ hp⟩
  | false =>
    rw [hi] at hw
    obtain ⟨t, ht⟩ := Option.isSome_iff_exists.mp hw.1
    have hb : t ∈ baseT ∧ tyD x = some (.type t) ∧ ∀ C fs, x ≠ .obj C fs := by
      cases x <;> simp only [tyB, Option.some.injEq, reduceCtorEq] at ht <;> first | (subst ht; exact ⟨by decide, rfl, fun _ _ => by simp⟩) | skip
    have hk := List.all_eq_true.mp ok.bs t hb.1
    exact call_isi pins s σ H _ us Q I r ⟨v, w, .type t, .ref C, false, rfl, by rw [n2.inv_ref]; exact .own _, n1.tyx hb.2.1 (fun C fs e => (hb.2.2 C fs e).elim), beq_iff_eq.mp hk, fin _ hw.2⟩
/-! ### list(x), to be changed -/
def seqM (d : D) (μ : Mu) (K : List D → Prop) : Prop := match d with
  | .tup l => K l
  | .lst l => K l
  | .rol l => K l
  | .ref a => ∃ l, μ a = some (.lst l) ∧ K l
  | _ => False
def listM : List D → Mu → DP → Prop := fun xs μ P => match xs with
  | [d] => seqM d μ fun l => ∀ p, μ p = none → P (.ref p) (mset μ p (.lst l))
  | _ => False
theorem cr_listM : CallR X (.type "list") (rDB X.K listM) := by
  intro pins s σ H vs us Q I r h
  obtain ⟨μ, xs, P, ho, n, ok, k⟩ := h
  have fin : ∀ (ws : List V) (l : List D), DenAll X.K μ H ws l → (∀ p, μ p = none → P (.ref p) (mset μ p (.lst l))) → ∀ p, H p = none → Q (.ref p) (upd H p (.lst ws)) := fun ws l d p q nq => k _ _ _ _ (Stp.newM nq) (ho.newM (c := .lst l) nq ⟨ws, upd_same, d.mono (Stp.newM nq)⟩) (.ref q) (p q (ho.free nq))
  match xs, n, ok with
  | [d], n, ok =>
    obtain ⟨v, rfl, n1⟩ := n.one
    cases d with
    | tup l =>
      obtain ⟨a, ws, e1, s1, d1⟩ := n1.inv_tup
      exact call_list_of pins s σ H _ us Q I r ⟨a, ws, by rw [e1], .inr s1, fin ws _ d1 ok⟩
    | lst l =>
      obtain ⟨a, ws, e1, _, s1, d1⟩ := n1.inv_lst
      exact call_list_of pins s σ H _ us Q I r ⟨a, ws, by rw [e1], .inl (SqL.of s1), fin ws _ d1 ok⟩
    | rol l =>
      obtain ⟨a, ws, e1, s1, d1⟩ := n1.inv_rol
      exact call_list_of pins s σ H _ us Q I r ⟨a, ws, by rw [e1], .inl s1, fin ws _ d1 ok⟩
    | ref a =>
      obtain ⟨l, m, p⟩ := ok
      obtain ⟨ws, hv, dv⟩ := ho _ _ m
      exact call_list_of pins s σ H _ us Q I r ⟨_, ws, by rw [n1.inv_ref], .inl (SqL.of hv), fin ws _ dv p⟩
    | _ => exact ok.elim
end
end Hw
set_option Elab.async false
set_option linter.all false
set_option maxRecDepth 100000
set_option maxHeartbeats 2000000
namespace Hw
open PySem L2 PyProof.Rows
/-! ### list of a text -/
section
variable {X : Cx} {μ : Mu}
theorem vals_of {vs : List V} {us : List Value} (hl : vs.length = us.length) (h : ∀ (i : Nat) (v : V), vs[i]? = some v → ∃ u, us[i]? = some u ∧ L2.RelV v u) : Vals vs us := by
  induction vs generalizing us with
  | nil =>
    cases us with
    | nil => exact .nil
    | cons a b => cases hl
  | cons v vs ih =>
    cases us with
    | nil => cases hl
    | cons u us =>
      refine .cons ?_ (ih (by simpa using hl) fun i w e => ?_)
      · obtain ⟨u', e, r⟩ := h 0 v rfl
        cases e; exact r
      · obtain ⟨u', e', r⟩ := h (i + 1) w (by simpa using e)
        exact ⟨u', by simpa using e', r⟩
/-- list(x), of a text, too -/
def listG : List D → Mu → DP → Prop := fun xs μ P => match xs with
  | [.str s] => s.length ≤ sizeLine ∧ P (.lst (signs s)) μ
  | xs => listOk xs μ P
theorem DenAll.signs {K : PySem.W.Frag} {H : Hp} (s : Str) : DenAll K μ H (s.cps.toList.map fun c => V.str ⟨#[c]⟩) (signs s) := by
  unfold Hw.signs
  generalize s.cps.toList = l
  induction l with
  | nil => exact .nil
  | cons c l ih => exact .cons (.str _) ih
theorem cr_listG (hc : X.calm = true) : CallR X (.type "list") (rDB X.K listG) := by
  intro pins s σ H vs us Q I r h
  obtain ⟨μ, xs, P, ho, n, ok, k⟩ := h
  unfold listG at ok
  split at ok
  · next z =>
    obtain ⟨v, rfl, n1⟩ := n.one
    obtain ⟨u, rfl, r1⟩ := vals1 r
    rw [n1.inv_str] at r1
    obtain ⟨t, rfl⟩ := r1
    have hn := I.hok.fresh (Nat.le_refl s.heap.objs.size)
    refine call_list_str (I.ok.hd hc) z t (hn := ok.1) fun h' tk acc' c' hk hS hacc => ?_
    have rv : Vals (z.cps.toList.map fun c => V.str ⟨#[c]⟩) acc'.toList := by
      obtain ⟨h1, h2⟩ := hacc
      refine vals_of (by simp [h1]) fun i v e => ?_
      rw [List.getElem?_map] at e
      cases q : z.cps.toList[i]? with
      | none => rw [q] at e; cases e
      | some cc =>
        rw [q] at e
        cases e
        have hi : i < z.cps.toList.length := (List.getElem?_eq_some_iff.mp q).1
        have hi2 : i < acc'.toList.length := by simpa [h1] using hi
        obtain ⟨c2, u2, e2, e3⟩ := h2 i acc'[i] (by simp)
        have e4 : z.cps[i]? = some cc := by rw [← Array.getElem?_toList]; exact q
        rw [e4] at e2
        cases e2
        exact ⟨acc'[i], by simp, ⟨u2, e3⟩⟩
    have I2 : Inv X pins σ (upd H s.heap.objs.size (.lst (z.cps.toList.map fun c => V.str ⟨#[c]⟩))) { s with heap := h', toks := tk } :=
      I.laid hk (Nat.le_refl _) ⟨by simpa [Str.length] using ok.1, acc'.toList, c', rv, by simpa using hS⟩
    exact ⟨.ref s.heap.objs.size, _, I2, rfl, k _ _ _ μ (Stp.new hn) (ho.new hn) (.lst (ho.free hn) upd_same (DenAll.signs z)) ok.2⟩
  · exact cr_list pins s σ H vs us Q I r ⟨μ, xs, P, ho, n, ok, k⟩
end
end Hw
set_option Elab.async false
set_option linter.all false
set_option maxRecDepth 100000
set_option maxHeartbeats 2000000
namespace Hw
open PySem L2 PyProof.Rows
/-! ### int of a text -/
section
variable {X : Cx} {μ : Mu}
def intG : List D → Mu → DP → Prop := fun xs μ P => match xs with
  | [.str s] => ∃ n, PySem.intText? s = some n ∧ s.length ≤ 640 ∧ P (.int n) μ
  | xs => intOk xs μ P
theorem cr_intG : CallR X (.type "int") (rDB X.K intG) := by
  intro pins s σ H vs us Q I r h
  obtain ⟨μ, xs, P, ho, n, ok, k⟩ := h
  unfold intG at ok
  split at ok
  · next z =>
    obtain ⟨v, rfl, n1⟩ := n.one
    obtain ⟨i, h1, h2, h3⟩ := ok
    exact call_int_str pins s σ H _ us Q I r ⟨z, i, by rw [n1.inv_str], h1, h2, k _ H _ μ (Stp.refl _ _) ho (.int _) h3⟩
  · exact cr_int pins s σ H vs us Q I r ⟨μ, xs, P, ho, n, ok, k⟩
end
end Hw
set_option Elab.async false
set_option linter.all false
set_option maxRecDepth 100000
set_option maxHeartbeats 2000000
namespace Hw
open PySem L2 PyProof.Rows
/-! ### def f(a, .., *v) -/
/-- m places, then the rest as a tuple -/
def starW (m : Nat) (C : CT) : CT := fun xs μ R PE => m ≤ xs.length ∧ xs.length ≤ m + sizeLine ∧ C (xs.take m ++ [.tup (xs.drop m)]) μ R PE
/-- how the arguments bind -/
def StarBind (x qual : Str) (st : Stmt) (ps : List Str) (pv : Str) : Prop := ∀ (kV doc pm : Value) (an : Option Addr) (cdv ct : Value) (us rest : List Value), us.length = ps.length →
  bindArgs (PySem.W.fnOf x qual (defArgs st) (defBody st) (defScope st) .none kV doc pm an cdv ct) ⟨us ++ rest, []⟩ = (newTuple rest >>= fun t => pure (ps.zip us ++ [(pv, t)]))
section
variable {P : Program} {w : World} {K : PySem.W.Frag} {mg : Str → Option Value} {base : Heap}
theorem fn_okStar {x qual pv : Str} {st : Stmt} {f : Addr} {fd : FuncData} {N ps : List Str} {k : Nat} {C : CT} (F : Fun K x qual st f fd) (S : FnScope N (ps ++ [pv]) (defScope st)) (hb : StarBind x qual st ps pv)
    (hbody : ∀ (xs : List D) (μ : Mu) (R : DP) (PE : XP) (cdv : Value) (A : Around) (outer : List Env) (s : Shared) (H : Hp) (E : XK), Rm k (bodyCx P w K mg base N qual st f cdv A outer s H E).A → C xs μ R PE →
      SSX (bodyCx P w K mg base N qual st f cdv A outer s H E) PE μ (xs.map some ++ List.replicate (N.length - xs.length) none) (defBody st) { nx := fun _ μ' => R .non μ', rt := R }) (n : Nat) :
    RunA P w K mg base f (k + 1) n [] (starW ps.length C) := by
  obtain ⟨oc, od, kV, doc, pm, an, cdv, ct, osl, rfl, lk, hcd⟩ := F.ex
  refine ⟨F.kp, fun A outer s H us ws vs Q E hr e0 h1 h2 r h => ?_⟩
  obtain rfl : ws = [] := by cases ws <;> first | rfl | cases h2
  rw [List.append_nil] at r
  obtain ⟨μ, xs, R, PE, ho, n1, ⟨hm, hz, c⟩, kR, kE⟩ := h
  have l1 : us.length = xs.length := by rw [← n1.length, r.length]
  have l2 : vs.length = xs.length := n1.length
  have eu : us = us.take ps.length ++ us.drop ps.length := (List.take_append_drop _ _).symm
  have lt : (us.take ps.length).length = ps.length := by rw [List.length_take, l1]; omega
  have lz : (us.drop ps.length).length ≤ sizeLine := by rw [List.length_drop, l1]; omega
  have hn : H s.heap.objs.size = Option.none := e0.hok.fresh (Nat.le_refl _)
  have r1 : Vals (vs.take ps.length) (us.take ps.length) := r.take _
  have r2 : Vals (vs.drop ps.length) (us.drop ps.length) := r.drop _
  show codeAny (model P w) A (.call (.ref f) ⟨us, []⟩) (CR (L2.CX P w) outer P w H s Q E) s
  rw [eu]
  refine StX.run_bnd (CX := L2.CX P w) lk hcd S hr.r e0 (G := fun ys H2 => ∃ p, H p = Option.none ∧ ys = vs.take ps.length ++ [V.ref p] ∧ H2 = upd H p (.tup (vs.drop ps.length))) (fun A' Ex Q' h => ?_) fun s2 H2 ys ⟨p, hp, ex, eH⟩ hr' => ?_
  · rw [hb kV doc pm an cdv ct (us.take ps.length) (us.drop ps.length) lt]
    refine wpAny_bind (wpAny_newTuple (wpAny_pure ?_) lz)
    have new : ObjOk P w (upd H s.heap.objs.size (.tup (vs.drop ps.length))) (s.heap.push ({ cls := .type "tuple", data := .seq (us.drop ps.length).toArray } : Obj)) s.heap.objs.size (.tup (vs.drop ps.length)) := ⟨by rw [r2.length]; exact lz, _, r2, ⟨_, Heap.get?_push_size _ rfl, rfl, _, rfl⟩⟩
    have un := StX.un_laid (fs := frs outer) (s := s) (o := ({ cls := .type "tuple", data := .seq (us.drop ps.length).toArray } : Obj)) (u := .tup (vs.drop ps.length)) hn
    have z := h _ _ (vs.take ps.length ++ [V.ref s.heap.objs.size]) (us.take ps.length ++ [Value.ref s.heap.objs.size]) (StX.env0_laid e0 new) un rfl (fun e s' => StX.cxUp outer s H _ _ E e s' un (fun b o q => Heap.get?_push_of_some _ q) rfl) (r1.append (.cons rfl .nil))
      (by rw [List.length_append, List.length_append, r1.length, lt] <;> rfl) ⟨_, hn, rfl, rfl⟩
    rw [List.zip_append lt.symm] at z
    exact z
  · subst ex eH
    have s1 : Stp μ H μ (upd H p (.tup (vs.drop ps.length))) := Stp.new hp
    have nn : DenAll K μ (upd H p (.tup (vs.drop ps.length))) (vs.take ps.length ++ [V.ref p]) (xs.take ps.length ++ [.tup (xs.drop ps.length)]) := ((n1.mono s1).take _).append (.cons (.tup (ho.free hp) upd_same ((n1.mono s1).drop _)) .nil)
    have q := hbody _ μ R PE cdv A outer s2 (upd H p (.tup (vs.drop ps.length))) E ⟨hr', hr.g⟩ c
    refine ⟨_, q.pss, ho.new hp, ⟨DenS.start nn, fun Ca dd H' fs vfs μ' σ s2 h2 e2 n2 p2 => wx_leave (takes_of rfl rfl rfl rfl) (kE Ca dd H' fs vfs μ' (s1.trans s2) h2 e2 n2 p2)⟩, ?_⟩
    exact ⟨fun σ' H' ds' μ' st h1 n1 p => kR _ H' _ μ' (s1.trans st) h1 .non p, fun v H' d μ' st h1 n1 p => kR v H' d μ' (s1.trans st) h1 n1 p, fun _ _ _ _ _ _ _ p => p.elim, fun _ _ _ _ _ _ _ p => p.elim⟩
end
end Hw
set_option Elab.async false
set_option linter.all false
set_option maxRecDepth 100000
set_option maxHeartbeats 4000000
namespace Hw
open PySem L2 PyProof.Rows ClX
/-! ### an own class's __init__ that begins with super().__init__(.., *v) -/
/-- the class at D; above it the def at f2 -/
structure SupO (K : PySem.W.Frag) (D f2 : Addr) : Prop where
  cls : ∃ cd, PySem.W.clsIn K D = some cd
  mro : PySem.W.mroIn K D (.ref D) = some true
  sup : PySem.W.ks_superIn K D D "__init__" = some (some (.ref f2))
  any : PySem.W.nsIn K cStatics "thirdparty.any" = some none
  blt : PySem.W.nsIn K mainGlobals "super" = some none
  ty : PySem.W.typeIn K (.ref f2) = some (.type "function")
  fi : PySem.W.fnIn K f2 = true
section
variable {prog : Program} {w : World} {A : Around} {E : Value → Shared → Prop} {h : Heap} {g : Array GenState} {d : Drawn} {t : Nat} {os : OsState}
theorem getAttr_super {so D x C f : Addr} {of : Obj} {l₀ l : List Value} {K : PySem.W.Frag} {name : Str} {Q : Value → Shared → Prop}
    (hso : h.get? so = some { cls := .type "super", dict := none, data := .fields #[.ref D, .ref x, .ref C], slots := #[] }) (hno : PySem.W.Looks (model prog w) h (opaqueClassAbove (.ref C)) none)
    (hC : PySem.W.Looks (model prog w) h (mroOf (.ref C)) l₀) (hl : (l₀.dropWhile (· != .ref D)).drop 1 = l) (X : K.In h)
    (hf : PySem.W.alongIn K name l = some (some (.ref f))) (hfo : h.get? f = some of) (hfc : of.cls = .type "function") (hxC : x ≠ C) (hn : (name == ("__class__" : Str)) = false)
    (hq : Q (.ref h.objs.size) ⟨h.push { cls := .type "method", data := .fields #[.ref f, .ref x] }, g, d, t + 1, os⟩) :
    wpAny (model prog w) A (getAttr (.ref so) name true) Q E ⟨h, g, d, t, os⟩ := by
  have hlk := F.ks_slot_super_ga.lookup
  have hT : ∀ t', (⟨h, g, d, t', os⟩ : Shared).TypeIs (.ref so) "super" := fun _ => ⟨_, hso, rfl⟩
  unfold getAttr getAttrBy
  refine wpAny_bind (wpAny_mkText (wpAny_holding (wpAny_bind (wpAny_typeOf (hT _) (wpAny_bind (wpAny_of_eq hlk ?_))))))
  show wpAny _ _ (getAttrByItsOwn (.ref so) (.str name t) (.type "super") (.builtin "super.__getattribute__") true true) _ _ _
  unfold getAttrByItsOwn hookBefore callGetattribute boundAndCalled
  refine wpAny_bind (wpAny_of_eq (show (if onTheHeap (.type "super") then typeLookup (.type "super") "__getattr__" else pure none) = pure none from rfl) ?_)
  refine wpAny_bind (wpAny_attempt (wpAny_holding ?_))
  show wpAny _ _ (bindSpecial (.builtin "super.__getattribute__") (.ref so) >>= _) _ _ _
  refine wpAny_bind (wpAny_of_eq (F.ks_slot_super_ga.bind _) ?_)
  refine wpAny_mono (Q := fun v s' => v = .ref h.objs.size ∧ s' = ⟨h.push { cls := .type "method", data := .fields #[.ref f, .ref x] }, g, d, t + 1, os⟩) (E := fun _ _ => False)
    (wpAny_call_entry F.ks_slot_super_ga (hT _) F.ks_entry_super_ga (ks_wpAny_super_ga hso hno hC hl X hf hfo hfc hxC hn ⟨_, rfl, rfl, rfl⟩) (F.ks_gaArgs_super _ _)) (fun v s' hv => ?_) fun _ _ z => z.elim
  obtain ⟨rfl, rfl⟩ := hv
  exact wpAny_pure hq
theorem wpAt_supCallS {c : Code} {s : Shared} {env : Env} {o : Expr} {m : Str} {apos pos : Pos} {es : List Expr} {Q : Value → Shared → Prop} (hs : es.all notStar = false)
    (h : _root_.PySem.wpAt (model prog w) A c (attributeBase o m env (eval o env)) (fun ov s₁ => wpAny (model prog w) A (getAttr ov m true) (fun f s₂ => wpAny (model prog w) A (callWith pos f [] (backTo pos (starEach es env)) []) Q E s₂) E s₁) E s) :
    _root_.PySem.wpAt (model prog w) A c (eval (.Call (.Attribute o m apos) es [] pos) env) Q E s := by
  have hke : backToKw pos (keywordEach [] env) = [] := rfl
  have hany : (backTo pos (starEach es env)).all (!·.1) = false := by
    have := starAny' (pos := pos) (env := env) hs
    rw [List.any_eq_true] at this
    obtain ⟨x, hx, e⟩ := this
    rw [List.all_eq_false]
    exact ⟨x, hx, by simp [e]⟩
  have hform : methodCallForm (es.length + ([] : List Keyword).length) (backTo pos (starEach es env)) [] = false := by
    unfold methodCallForm
    rw [hany]
    rfl
  have hpos : methodCallPos false o env apos pos = pure pos := rfl
  have hcal : ∀ ov, calleeOf false o env ov m = (getAttr ov m true >>= fun v => pure (v, [])) := fun _ => rfl
  rw [arm_eval_Call, hke]
  refine _root_.PySem.wpAt_bind (ks_wpAt_mono h (fun ov s₁ h₁ => ?_) fun _ _ x => x)
  refine _root_.PySem.wpAt_of_wpAny (wpAny_bind (wpAny_standAt ?_))
  unfold methodCall
  rw [hform, hpos, hcal]
  refine wpAny_bind (wpAny_holding (wpAny_bind (wpAny_mono h₁ (fun f s₂ h₂ => wpAny_pure ?_) fun _ _ x => x)))
  exact wpAny_bind (wpAny_pure h₂)
end
section
variable {P : Program} {w : World} {K : PySem.W.Frag} {mg : Str → Option Value} {base : Heap} {N ps : List Str} {qual pv : Str} {f f2 cda cc Dc : Addr} {fd : FuncData} {st : Stmt} {k : Nat}
theorem fn_supO {es : List Expr} {rest : List Stmt} {p0 p1 p2 p4 p5 : Pos} {C W2 : CT} (pf : PF P) (O : SupO K Dc f2) (F : SupFn P K qual st Dc f fd cda cc) (kp : PySem.W.keepIn K (.ref f) = true) (S : SupScope N (ps ++ [pv]) (defScope st)) (hp0 : ps.head? = some ("self" : Str)) (har : ∃ ar : Arg, ((defArgs st).posonlyargs ++ (defArgs st).args).head? = some ar ∧ ar.arg = "self")
    (hbody : defBody st = .Expr (.Call (.Attribute (.Call (.Name "super" p0) [] [] p1) "__init__" p2) es [] p4) p5 :: rest) (hes : argS es = true)
    (hb : ∀ (kV doc pm : Value) (an : Option Addr) (ct : Value) (us rest : List Value), us.length = ps.length → bindArgs (PySem.W.ksFn "__init__" qual (defArgs st) (defBody st) (defScope st) .none kV doc pm an (.ref cda) ct cc) ⟨us ++ rest, []⟩ = (newTuple rest >>= fun t => pure (ps.zip us ++ [(pv, t)])))
    (R2 : ∀ n, RunA P w K mg base f2 k n [] W2)
    (hh : ∀ (xs : List D) (μ : Mu) (R : DP) (PE : XP) (A : Around) (outer : List Env) (s : Shared) (H : Hp) (E : XK), Rm k (supCx P w K mg base N qual (defScope st) f cda cc A outer s H E).A → C xs μ R PE →
      ∃ a fs ys, ∃ Md : Mu → Prop, xs = .ref a :: ys ∧ μ a = some (.ins Dc fs) ∧ (ArgSX (supCx P w K mg base N qual (defScope st) f cda cc A outer s H E) PE μ (xs.map some ++ List.replicate (N.length - xs.length) none) es fun zs m => W2 (.ref a :: zs) m (fun _ m2 => Md m2) PE) ∧
        ∀ m2, Md m2 → SSX (supCx P w K mg base N qual (defScope st) f cda cc A outer s H E) PE m2 (xs.map some ++ List.replicate (N.length - xs.length) none) rest { nx := fun _ μ' => R .non μ', rt := R }) (n : Nat) :
    RunA P w K mg base f (k + 1) n [] (starW ps.length C) := by
  obtain ⟨oc, ccl, cl, kV, doc, pm, ct, od, cdd, cld, an, osl, ccs, csl, cvs, file, tf, rfl, lk, hcd, hco, hv2, hfile, hcell⟩ := F.ex
  refine ⟨kp, fun A outer s H us ws vs Q E hr e0 h1 h2 r h => ?_⟩
  obtain rfl : ws = [] := by cases ws <;> first | rfl | cases h2
  rw [List.append_nil] at r
  obtain ⟨μ, xs, R, PE, ho, n1, ⟨hm, hz, c⟩, kR, kE⟩ := h
  have l1 : us.length = xs.length := by rw [← n1.length, r.length]
  have eu : us = us.take ps.length ++ us.drop ps.length := (List.take_append_drop _ _).symm
  have lt : (us.take ps.length).length = ps.length := by rw [List.length_take, l1]; omega
  have lz : (us.drop ps.length).length ≤ sizeLine := by rw [List.length_drop, l1]; omega
  have hn : H s.heap.objs.size = Option.none := e0.hok.fresh (Nat.le_refl _)
  have r1 : Vals (vs.take ps.length) (us.take ps.length) := r.take _
  have r2 : Vals (vs.drop ps.length) (us.drop ps.length) := r.drop _
  show codeAny (model P w) A (.call (.ref f) ⟨us, []⟩) (CR (L2.CX P w) outer P w H s Q E) s
  rw [eu]
  have KX : K.In s.heap := e0.mod.kin.keeps fun b o e => (e0.bs b o e).1
  refine codeAny_call_function hr.r.depth (KX _ _ lk) rfl S.co S.gen rfl (PySem.W.codeRec_of KX hcd) ?_
  show wpAny _ _ (bindArgs (PySem.W.ksFn "__init__" qual (defArgs st) (defBody st) (defScope st) .none kV doc pm an (.ref cda) ct cc) ⟨us.take ps.length ++ us.drop ps.length, []⟩) _ _ _
  rw [hb kV doc pm an ct (us.take ps.length) (us.drop ps.length) lt]
  refine wpAny_bind (wpAny_newTuple (wpAny_pure ?_) lz)
  obtain ⟨s2, es2⟩ : ∃ s2 : Shared, s2 = { s with heap := s.heap.push ({ cls := .type "tuple", data := .seq (us.drop ps.length).toArray } : Obj) } := ⟨_, rfl⟩
  obtain ⟨H2, eH2⟩ : ∃ H2 : Hp, H2 = upd H s.heap.objs.size (.tup (vs.drop ps.length)) := ⟨_, rfl⟩
  have new : ObjOk P w (upd H s.heap.objs.size (.tup (vs.drop ps.length))) (s.heap.push ({ cls := .type "tuple", data := .seq (us.drop ps.length).toArray } : Obj)) s.heap.objs.size (.tup (vs.drop ps.length)) := ⟨by rw [r2.length]; exact lz, _, r2, ⟨_, Heap.get?_push_size _ rfl, rfl, _, rfl⟩⟩
  have un : Un (frs outer) [] H H2 s.heap s2.heap := by subst es2 eH2; exact StX.un_laid hn
  have e2 : Env0 P w K mg base A outer s2 H2 := by subst es2 eH2; exact StX.env0_laid e0 new
  have kp2 : ∀ b o, s.heap.get? b = some o → s2.heap.get? b = some o := fun b o q => by subst es2; exact Heap.get?_push_of_some _ q
  have os2 : s2.os = s.os := by rw [es2]
  have lim : s2.heap.NoLimit := e2.mod.nolimit.keeps fun b o e => (e2.bs b o e).1
  have rr : Vals (vs.take ps.length ++ [V.ref s.heap.objs.size]) (us.take ps.length ++ [Value.ref s.heap.objs.size]) := r1.append (.cons rfl .nil)
  have s1 : Stp μ H μ H2 := by subst eH2; exact Stp.new hn
  have ho2 : Hold K μ H2 := by subst eH2; exact ho.new hn
  have nn : DenAll K μ H2 (vs.take ps.length ++ [V.ref s.heap.objs.size]) (xs.take ps.length ++ [.tup (xs.drop ps.length)]) := ((n1.mono s1).take _).append (.cons (by subst eH2; exact .tup (ho.free hn) upd_same ((n1.mono s1).drop _)) .nil)
  have hl : (vs.take ps.length ++ [V.ref s.heap.objs.size]).length = (ps ++ [pv]).length := by rw [rr.length, List.length_append, List.length_append, lt]; rfl
  have eb : ps.zip (us.take ps.length) ++ [(pv, Value.ref s.heap.objs.size)] = (ps ++ [pv]).zip (us.take ps.length ++ [Value.ref s.heap.objs.size]) := by rw [List.zip_append lt.symm]; rfl
  rw [eb]
  rw [← es2]
  clear new hn eb
  refine wpAny_newFunctionEnv S.only (fun y hy => S.par y.1 (List.of_mem_zip hy).1) (fun h₁ hns hsb => ⟨lim.fresh _ hsb, codeAny_mono (R := CR (L2.CX P w) outer P w H2 s2 Q E) (ks_codeAny_funcAt ?_) fun res s' hq => ?_⟩) S.kind
  · have hk₁ : ∀ b o, s2.heap.get? b = some o → h₁.get? b = some o := fun b o e => hsb.extBut b o (Nat.ne_of_lt (Heap.lt_size e)) (Heap.get?_push_of_some _ e)
    obtain ⟨X, eX⟩ : ∃ X : Cx, X = supCx P w K mg base N qual (defScope st) f cda cc A outer s2 H2 E := ⟨_, rfl⟩
    obtain ⟨zs0, ez⟩ : ∃ zs0, zs0 = xs.take ps.length ++ [D.tup (xs.drop ps.length)] := ⟨_, rfl⟩
    obtain ⟨ws0, ew⟩ : ∃ ws0, ws0 = vs.take ps.length ++ [V.ref s.heap.objs.size] := ⟨_, rfl⟩
    obtain ⟨a, fs, ys, Md, exs, hma, hargs, hMd⟩ := hh _ μ R PE A outer s2 H2 E ⟨hr.r.deeper _, hr.g⟩ c
    rw [← ez] at exs hargs nn hMd
    rw [← ew] at nn rr hl
    have I : Inv X [] (L2.start N ws0) H2 { s2 with heap := h₁, toks := s2.toks + ((ps ++ [pv]).zip (us.take ps.length ++ [Value.ref s.heap.objs.size])).length } := by
      subst eX
      exact sup_start S hr.r.hd e2 hl rr hcell hns hk₁
    have fin : ∀ {s' : Shared}, wpAny (model P w) X.A (execs rest X.env) (SP X [] { nx := fun _ H' => Q .non H', rt := Q }) X.xe s' →
        _root_.PySem.wpAt (model P w) (A.deeper (supEnv qual (defScope st) s2.heap.objs.size f cda cc)) (.func (defBody st) (supEnv qual (defScope st) s2.heap.objs.size f cda cc)) (execs rest (supEnv qual (defScope st) s2.heap.objs.size f cda cc)) (fun fl s' => (CR (L2.CX P w) outer P w H2 s2 Q E) (.ok (.ret (match fl with | .ret v => v | _ => .none))) s')
          (fun e s' => wpAny (model P w) (A.deeper (supEnv qual (defScope st) s2.heap.objs.size f cda cc)) (leaving (supEnv qual (defScope st) s2.heap.objs.size f cda cc) e) (fun _ s'' => (CR (L2.CX P w) outer P w H2 s2 Q E) (.error e) s'') (fun e' s'' => (CR (L2.CX P w) outer P w H2 s2 Q E) (.error e') s'') s') s' := fun {s'} h => by
      subst eX
      refine _root_.PySem.wpAt_of_wpAny (wpAny_mono h (fun fl s' hs => ?_) fun e s' hs => hs)
      have fin : ∀ {σ' : L2.St} {H' : Hp} {v : V} {u : Value}, Inv (supCx P w K mg base N qual (defScope st) f cda cc A outer s2 H2 E) [] σ' H' s' → L2.RelV v u → Q v H' → CE outer P w H2 s2 Q u s' :=
        fun {σ' H' v u} J rv q => ⟨v, H', J.os, J.bare, J.base, J.hok, rv, q⟩
      cases fl with
      | ret u =>
        obtain ⟨v, σ', H', J, rv, q⟩ := hs
        exact fin J rv q
      | next =>
        obtain ⟨σ', H', J, q⟩ := hs
        exact fin (v := V.non) (u := Value.none) J rfl q
      | brk =>
        obtain ⟨_, _, _, q⟩ := hs
        exact False.elim q
      | cont =>
        obtain ⟨_, _, _, q⟩ := hs
        exact False.elim q
    rw [hbody] at fin ⊢
    obtain ⟨dx, vfs, ea, nfs⟩ := ho2 _ _ hma
    obtain ⟨mA, OM, _, _, _, _⟩ := ins_get I.hok ea
    obtain ⟨odx, J, _⟩ := OM.look
    have hx := OM.obj
    have X1 : K.In h₁ := by have := I.kIn; subst eX; exact this
    obtain ⟨cd, hcd2⟩ := O.cls
    obtain ⟨oD, hD1, hD2⟩ : ∃ oD, h₁.get? Dc = some oD ∧ oD.data = .cls cd := by
      have hcd3 := hcd2
      unfold PySem.W.clsIn at hcd3
      split at hcd3
      · rename_i c d cd' sl ho
        cases hcd3
        exact ⟨_, X1 _ _ ho, rfl⟩
      · cases hcd3
    obtain ⟨ar, har1, har2⟩ := har
    have hself : N[0]? = some ("self" : Str) := by
      have e : (N.take (ps ++ [pv]).length)[0]? = some ("self" : Str) := by
        rw [S.pre]
        cases ps with
        | nil => cases hp0
        | cons p0' ps' => simpa using hp0
      cases N with
      | nil => simp at e
      | cons n0 N' => simpa using e
    have hps : ("self" : Str) ∈ ps ++ [pv] := by
      cases ps with
      | nil => cases hp0
      | cons p0' ps' =>
        simp only [List.head?_cons, Option.some.injEq] at hp0
        rw [hp0]
        exact List.mem_cons_self
    obtain ⟨wt, ewt⟩ : ∃ wt, ws0 = .ref a :: wt := by
      rw [exs] at nn
      cases nn with
      | cons x1 x2 => exact ⟨_, by rw [x1.inv_ref]⟩
    have hmL : ∃ mL, h₁.Ns s2.heap.objs.size mL ∧ mL "self" = some (.ref a) := by
      obtain ⟨mL, hnL, hlL⟩ := I.loc
      obtain ⟨uself, ruself, hlook⟩ := hlL 0 "self" (.ref a) (by subst eX; exact hself) (by rw [ewt]; rfl) (.inl (by subst eX; exact S.par _ hps))
      obtain rfl : uself = Value.ref a := ruself
      refine ⟨mL, by subst eX; exact hnL, ?_⟩
      rcases hlook with ⟨_, e⟩ | ⟨e, _⟩
      · exact e
      · have e0 : (defScope st).names.lookup ("self" : Str) = some .local := S.par _ hps
        subst eX
        rcases e with e | e <;> (have e : (defScope st).names.lookup ("self" : Str) = _ := e; rw [e0] at e; cases e)
    obtain ⟨mL, hnL, hmL⟩ := hmL
    refine PySem.ks_wpAt_execs_cons (PySem.ks_wpAt_Expr_any (wpAt_supCallS ?hns (PySem.ks_wpAt_super_base (env := supEnv qual (defScope st) s2.heap.objs.size f cda cc) S.sup S.cls (by decide) rfl (X1 _ _ lk) rfl har1 rfl (X1 _ _ hco) rfl hv2 hfile pf.top ?_)) (by show interactive (supEnv qual (defScope st) s2.heap.objs.size f cda cc) = false; unfold interactive; rw [show (supEnv qual (defScope st) s2.heap.objs.size f cda cc).scope.kind = .function from S.kind]; rfl))
    case hns =>
      match es, hes with
      | [.Starred _ _], _ => rfl
      | e :: r, h =>
        cases he : notStar e with
        | true =>
          have : r.all notStar = false := by cases e <;> first | (simpa [argS, notStar] using h) | cases he
          rw [List.all_cons, this, Bool.and_false]
        | false => rw [List.all_cons, he, Bool.false_and]
    obtain ⟨mb, hb1, hb2⟩ := e2.mod.blt
    have bk : ∀ b o, base.get? b = some o → h₁.get? b = some o := fun b o e => hk₁ b o (e2.bs b o e).1
    refine PySem.W.ks_loadName_global S.kind S.sup (Calls.loadGlobal_builtin (e2.mod.glob.keeps bk) (PySem.W.mg_none_of e2.mod.kin e2.mod.glob O.blt) (hb1.keeps bk) ((hb2 "super" (by decide)).trans (by first | rfl | kernel_rfl)) ⟨rfl, ?_⟩)
    refine wpAny_loadName_free S.kind S.cls rfl ⟨_, X1 _ _ hcell, rfl⟩ ?_
    rw [har2]
    refine wpAny_loadName_local S.kind (S.par _ hps) hnL hmL ?_
    refine ks_wpAny_isType_cls hD1 hD2 ⟨rfl, ?_⟩
    refine ks_wpAny_call_super hD1 hD2 hx rfl (fun c e => by cases e) (PySem.W.looks_mroIn X1 O.mro) (fun h2 e3 k2 => ?_)
    have X2 : K.In h2 := X1.keeps k2
    have hne : a ≠ Dc := PySem.W.ks_ne X1 J hcd2
    have hal : PySem.W.alongIn K "__init__" ((cd.mro.dropWhile (· != .ref Dc)).drop 1) = some (some (.ref f2)) := by
      have q := O.sup
      unfold PySem.W.ks_superIn at q
      rw [hcd2] at q
      exact q
    obtain ⟨of, hof, hofc⟩ : ∃ of, h2.get? f2 = some of ∧ of.cls = .type "function" := by
      have ht' : (K.lookup f2).map (·.cls) = some (.type "function") := O.ty
      cases z : K.lookup f2 with
      | none => rw [z] at ht'; cases ht'
      | some of => rw [z] at ht'; exact ⟨of, X2 _ _ z, Option.some.inj ht'⟩
    refine getAttr_super e3 (PySem.W.looks_opaque X2 O.any) (l₀ := cd.mro) (fun A Q E s k q => wpAny_bind ((PySem.W.looks_clsIn X2 hcd2) A _ E s k (wpAny_pure q))) rfl X2 hal hof hofc hne (by decide) ?_
    have hu3 : (h2.push (PySem.W.methodObj (.ref f2) (.ref a))).get? h2.objs.size = some (PySem.W.methodObj (.ref f2) (.ref a)) := Heap.get?_push_at rfl rfl
    have k3 : ∀ b o, h₁.get? b = some o → (h2.push (PySem.W.methodObj (.ref f2) (.ref a))).get? b = some o := fun b o e => Heap.get?_push_of_some _ (k2 b o e)
    have hsz : h₁.objs.size ≤ h2.objs.size := Nat.le_of_lt (Heap.lt_size e3)
    have I3 := pin_new (t' := s2.toks + ((ps ++ [pv]).zip (us.take ps.length ++ [Value.ref s.heap.objs.size])).length + 1) I k3 hsz hu3 (fun v z => by cases z)
    have hsl : Sl X PE μ H2 (L2.start N ws0) (zs0.map some ++ List.replicate (N.length - zs0.length) none) := by
      subst eX
      exact ⟨DenS.start nn, fun Ca dd H' fs vfs μ' σ s3 h2 e2 n2 p2 => wx_leave (takes_of rfl rfl rfl rfl) (kE Ca dd H' fs vfs μ' (s1.trans s3) h2 e2 n2 p2)⟩
    have hargs' : ArgSX X PE μ (zs0.map some ++ List.replicate (N.length - zs0.length) none) es fun zs m => W2 (.ref a :: zs) m (fun _ m2 => Md m2) PE := by
      subst eX
      exact hargs
    have hMd' : ∀ m2, Md m2 → SSX X PE m2 (zs0.map some ++ List.replicate (N.length - zs0.length) none) rest { nx := fun _ μ' => R .non μ', rt := R } := by
      subst eX
      exact hMd
    have hX : X.A = A.deeper (supEnv qual (defScope st) s2.heap.objs.size f cda cc) ∧ X.env = supEnv qual (defScope st) s2.heap.objs.size f cda cc ∧ X.prog = P ∧ X.w = w ∧ X.K = K ∧ X.mg = mg ∧ X.base = base ∧ Rm k X.A ∧
        X.xe = fun e s' => wpAny (model P w) (A.deeper (supEnv qual (defScope st) s2.heap.objs.size f cda cc)) (leaving (supEnv qual (defScope st) s2.heap.objs.size f cda cc) e) (fun _ s'' => L2.CX P w outer H2 s2 E e s'') (fun e' s'' => L2.CX P w outer H2 s2 E e' s'') s' := by
      subst eX
      exact ⟨rfl, rfl, rfl, rfl, rfl, rfl, rfl, ⟨hr.r.deeper _, hr.g⟩, rfl⟩
    clear hh hargs hMd eX
    obtain ⟨x1, x2, x3, x4, x5, x6, x7, x8, x9⟩ := hX
    subst x3 x4 x5 x6 x7
    have fin2 : ∀ u s', EP X ((h2.objs.size, PySem.W.methodObj (.ref f2) (.ref a)) :: []) (L2.start N ws0) (fun v H' => ∃ μ', Stp μ H2 μ' H' ∧ Hold X.K μ' H' ∧ Md μ') u s' → wpAny (model X.prog X.w) X.A (execs rest X.env) (SP X [] { nx := fun _ H' => Q .non H', rt := Q }) X.xe s' := fun u s' hq => by
      obtain ⟨v, H', I', rv, μ', st', hh', q⟩ := hq
      refine (hMd' _ q).pss.run [] s' (L2.start N ws0) H' _ (unpin I') (show tDS X PE μ' (zs0.map some ++ List.replicate (N.length - zs0.length) none) { nx := fun _ μ' => R .non μ', rt := R } { nx := fun _ H' => Q .non H', rt := Q } (L2.start N ws0) H' from ⟨hh', hsl.mono st', ⟨fun σ' H'' ds' μ'' s3 h3 n3 p => kR _ H'' _ μ'' ((s1.trans st').trans s3) h3 .non p, fun v H'' d μ'' s3 h3 n3 p => kR v H'' d μ'' ((s1.trans st').trans s3) h3 n3 p, fun _ _ _ _ _ _ _ p => p.elim, fun _ _ _ _ _ _ _ p => p.elim⟩⟩)
    have z := argSx (X := X) (pos := p4) (first := []) (f := .ref h2.objs.size) (PP := PySem.W.MethP X.K h2.objs.size f2 (.ref a)) (Q := fun v H' => ∃ μ', Stp μ H2 μ' H' ∧ Hold X.K μ' H' ∧ Md μ') hes (PySem.W.keeps_M O.fi) hargs' I3 ho2 hsl fun s4 H4 μ4 us4 vs4 xs4 I4 st4 ho4 hs4 rv4 nv4 q4 =>
      ⟨⟨pin_at I4, I4.kIn⟩, wpAny_call (PySem.W.method_call (pin_at I4) (codeAny_mono (ret_of I4 ((R2 _).run X.A X.stack s4 H4 (.ref a :: us4) [] (.ref a :: vs4) (fun v H' => ∃ μ', Stp μ H2 μ' H' ∧ Hold X.K μ' H' ∧ Md μ') (Ex0 X) x8 I4.env0 rfl rfl (by rw [List.append_nil]; exact .cons rfl rv4)
        ⟨μ4, _, _, _, ho4, .cons (.ref a) nv4, q4, fun v H' d μ' s5 h5 n5 p5 => ⟨μ', st4.trans s5, h5, p5⟩, fun Ca dd H' fs vfs μ' s5 h5 e5 n5 p5 σ' => hs4.x Ca dd H' fs vfs μ' σ' s5 h5 e5 n5 p5⟩)) fun r s' q => by
        match r, q with
        | .error er, q => exact q
        | .ok (.ret _), q => exact q))⟩
    rw [x1, x2, x9] at z
    refine wpAny_mono z (fun u s' hq => ?_) fun e s' hq => hq
    have q2 := fin2 u s' hq
    exact fin q2
  · cases res with
    | error e => exact StX.cxUp outer s H s2 H2 E e s' un kp2 os2 hq
    | ok fl =>
      cases fl with
      | ret u =>
        obtain ⟨v, H', os, ba, un3, hk, rv', q3⟩ := hq
        exact ⟨v, H', os.trans os2, ba, un.trans un3, hk, rv', q3⟩
      | next => exact False.elim hq
      | brk => exact False.elim hq
      | cont => exact False.elim hq
end
end Hw
set_option Elab.async false
set_option linter.all false
set_option maxRecDepth 100000
set_option maxHeartbeats 2000000
/-! ### exceptions out of a comprehension -/
namespace PySem.HandSPX
section
variable {M : Model} {A : Around} {E : Value → Shared → Prop} {s : Shared} {Z : Obj → Prop} {base : Heap} {env : Env} {outer l : List Env} {L e : Addr}
/-- noted by another frame last -/
theorem looks_otherZ {C : Addr} {Q : Unit → Shared → Prop} (hZ : Steady Z) (hfr : A.frames = some (env :: outer)) (hf : env.frame = some L) (hCL : C ≠ L) (hfl : HeldZ base (env :: outer) e Z C s.heap)
    (hQ : ∀ h', HeldZ base (env :: outer) e Z L h' → s.heap.UpToSlots h' → Q () { s with heap := h' }) : wpAny M A (noteFrame (.ref e) env) Q E s := by
  obtain ⟨hkb, hen, hl, oe, vs, T, oT, ts, he, hz, hd, h1, hnT, hTe, hT, hdT, h3⟩ := hfl
  unfold noteFrame
  simp only [hf]
  refine wpAny_bind (wpAny_field he hd h1 ?_)
  rw [if_pos (show (Value.ref T != Value.none) = true from by simp)]
  refine wpAny_bind (wpAny_field hT hdT h3 ?_)
  rw [if_neg (show ¬ ((rawInt C == rawInt L) = true) from by simp only [rawInt, beq_iff_eq, Value.int.injEq, Int.ofNat_inj]; exact fun h => hCL h.1)]
  refine wpAny_bind (wpAny_setField hT hdT (Array.getElem?_eq_some_iff.mp h3).1 ?_)
  have other : ∀ b, b ≠ T → (s.heap.update T (Obj.mapFields (·.setIfInBounds 3 Value.none))).get? b = s.heap.get? b := fun b hb => Heap.get?_update_other _ _ (Ne.symm hb)
  have noRecord : ∀ b o, s.heap.get? b = some o → (∀ vs, o.data ≠ .fields vs) → b ≠ T := fun b o hb hnf q => by
    rw [q, hT] at hb; injection hb with hb; subst hb; exact hnf ts hdT
  refine wpAny_entryZ hZ hfr (hl.of_keeps fun b o hb hnf => ⟨o, (other b (noRecord b o hb hnf)).trans hb, rfl⟩) hf ((other e (Ne.symm hTe)).trans he)
    (fun b o hbo => (other b fun q => by rw [q, hnT] at hbo; cases hbo).trans (hkb b o hbo)) hen hd (Array.getElem?_eq_some_iff.mp h1).1 hz fun h' hN => ?_
  obtain ⟨x1, x2, x3, x4⟩ := hN
  exact hQ h' ⟨x1, hen, x2, x3⟩ fun b o hb hnf => x4 b o ((other b (noRecord b o hb hnf)).trans hb) hnf
theorem funFrames_base {h base base' : Heap} (k : ∀ b, base.get? b = none → base'.get? b = none) {l : List Env} (hl : h.FunFrames base l) : h.FunFrames base' l := by
  induction l with
  | nil => trivial
  | cons env rest ih =>
    obtain ⟨hk, ⟨L, o, hf, hn, ho, hd⟩, hr⟩ := hl
    exact ⟨hk, ⟨L, o, hf, k L hn, ho, hd⟩, ih hr⟩
end
end PySem.HandSPX
namespace L2
open PySem PySem.Spec PyProof.Rows
/-- an exception in the air of a comprehension's block, in the air of the def -/
theorem XE.of_block {X : Cx} {pins : List (Addr × Obj)} {σ : St} {H3 : Hp} {s3 s' : Shared} {scope : Scope} {ce : Env} {fp : List Addr} {W W' : WX} {E₁ : Value → Shared → Prop} {xe : Value → Shared → Prop} {u : Value}
    (I3 : Inv X pins σ H3 s3) (hs : X.stack = X.env :: X.outer) (hf : X.env.frame = some X.env.locals) (hcf : ce.frame = X.env.frame) (hC : s3.heap.objs.size ≤ ce.locals)
    (f3 : ∀ b ∈ fp, FpOk X pins H3 b) (hW : ∀ cls d σ' H', W cls d σ' H' → W' cls d σ H') (tk : ∀ u s', XE X W' u s' → X.xe u s')
    (x : XE { X.blk s3 H3 scope ce fp with xe := xe } W u s') : wpAny (model X.prog X.w) X.A (noteFrame u ce) (fun _ s'' => CompFails (model X.prog X.w) X.A X.xe ce u s'') E₁ s' := by
  obtain ⟨a, B, sI, pins', σ', H', cls, d, rfl, I, nb, up, sky, na, os, ag, w⟩ := x
  have hfr : X.A.frames = some (X.env :: X.outer) := by rw [I3.ok.frames, hs]
  have nb : ∀ b o, sI.heap.get? b = some o → b ∉ frs X.stack → B.get? b = some o := nb
  have sky : Sky B X.stack a (Zc cls d) ce.locals s'.heap := sky
  rw [noteFrame_env _ hcf]
  have hLC : ce.locals ≠ X.env.locals := Nat.ne_of_gt (Nat.lt_of_lt_of_le I3.lt hC)
  have hCf : ce.locals ∉ frs X.stack := fun hm => by
    obtain ⟨_, o, e, _⟩ := I.ok.funs.mem hm
    exact absurd (Nat.lt_of_lt_of_le (Heap.lt_size e) hC) (Nat.lt_irrefl _)
  obtain ⟨m, hn, _⟩ := I.loc
  have hn : sI.heap.Ns ce.locals m := hn
  have hnC : H' ce.locals = none := I.free
  have I7 : Inv X pins σ H' sI := I3.call' (ch := fp) I.os I.base I.hok I.bare fun b hb => ⟨(f3 b hb).2.2.2.1, (f3 b hb).2.1, (f3 b hb).2.2.2.2.1, (f3 b hb).2.2.2.2.2⟩
  have fC : FpOk X pins H' ce.locals := I3.fpOk hC hnC
  -- noted by the def's frame
  have go : ∀ h1, HandSPX.HeldZ B X.stack a (Zc cls d) X.env.locals h1 → s'.heap.UpToSlots h1 → CompFails (model X.prog X.w) X.A X.xe ce (.ref a) { s' with heap := h1 } := fun h1 held up1 => by
    have n1 : h1.Ns ce.locals m := (hn.upToSlots up).upToSlots up1
    refine ⟨m, n1, fun h2 m2 n2 sb => ?_⟩
    obtain ⟨b1, b0, f1, t1⟩ := held
    obtain ⟨oC, es, ep, eC, dC, _⟩ := id hn
    obtain ⟨o2, es2, ep2, e2, d2, _⟩ := id n2
    have nf2 : o2.isFreed = false := by obtain ⟨c, dd, dt, sl⟩ := o2; have d2 : dt = .dict es2 ep2 := d2; subst d2; rfl
    have BC : B.get? ce.locals = some oC := nb _ _ eC hCf
    have B2C : (B.update ce.locals fun _ => o2).get? ce.locals = some o2 := Heap.get?_update_self (fun _ => o2) BC nf2
    have B2o : ∀ b, b ≠ ce.locals → (B.update ce.locals fun _ => o2).get? b = B.get? b := fun b hb => Heap.get?_update_other _ _ (Ne.symm hb)
    have G2C : (sI.heap.update ce.locals fun _ => o2).get? ce.locals = some o2 := Heap.get?_update_self (fun _ => o2) eC nf2
    have G2o : ∀ b, b ≠ ce.locals → (sI.heap.update ce.locals fun _ => o2).get? b = sI.heap.get? b := fun b hb => Heap.get?_update_other _ _ (Ne.symm hb)
    have Bn : ∀ b, B.get? b = none → (B.update ce.locals fun _ => o2).get? b = none := fun b e => by
      rw [B2o b fun q => by rw [q, BC] at e; cases e]; exact e
    have haC : a ≠ ce.locals := fun q => by rw [q, BC] at b0; cases b0
    obtain ⟨oe, vs, T, oT, ts, he, hz, hd, h1', hnT, hTe, hT, hdT, h3⟩ := t1
    have hTC : T ≠ ce.locals := fun q => by rw [q, BC] at hnT; cases hnT
    have he2 : h2.get? a = some oe := (sb.2 a haC).trans he
    have hT2 : h2.get? T = some oT := (sb.2 T hTC).trans hT
    have held2 : HandSPX.HeldZ (B.update ce.locals fun _ => o2) X.stack a (Zc cls d) X.env.locals h2 := by
      refine ⟨fun b o e => ?_, Bn a b0, HandSPX.funFrames_base Bn (Heap.FunFrames.sameBut sb n2 f1), oe, vs, T, oT, ts, he2, hz, hd, h1', Bn T hnT, hTe, hT2, hdT, h3⟩
      · by_cases hb : b = ce.locals
        · subst hb; rw [B2C] at e; cases e; exact e2
        · rw [B2o b hb] at e; exact (sb.2 b hb).trans (b1 b o e)
    unfold PySem.passOn
    refine wpAny_bind (wpAny_field he2 hd h1' ?_)
    rw [if_neg (show ¬ ((Value.ref T == Value.none) = true) from by simp), hcf, hf]
    refine wpAny_bind (HandSPX.setFlight_onZ held2 fun h3 held3 up3 => wpAny_throw ?_)
    refine tk _ _ ⟨a, B.update ce.locals fun _ => o2, { sI with heap := sI.heap.update ce.locals fun _ => o2 }, pins, σ, H', cls, d, rfl, I7.turned (t' := sI.toks) (fun b o hb e => (G2o b hb).trans e) fC.1 fC.2.1 fC.2.2.2.1 fC.2.2.2.2.1 fC.2.2.2.2.2, fun b o e hb => ?_, fun b o e nf => ?_, .inr (.inr held3), na, os, ag, hW _ _ _ _ w⟩
    · have e : (sI.heap.update ce.locals fun _ => o2).get? b = some o := e
      by_cases hbC : b = ce.locals
      · subst hbC; rw [G2C] at e; cases e; exact B2C
      · rw [G2o b hbC] at e; rw [B2o b hbC]; exact nb b o e hb
    · have e : (sI.heap.update ce.locals fun _ => o2).get? b = some o := e
      by_cases hbC : b = ce.locals
      · subst hbC; rw [G2C] at e; cases e; exact up3 _ _ e2 nf
      · rw [G2o b hbC] at e
        obtain ⟨sl1, e1⟩ := up b o e nf
        obtain ⟨sl2, e2'⟩ := up1 b _ e1 nf
        obtain ⟨sl3, e3⟩ := up3 b _ ((sb.2 b hbC).trans e2') nf
        exact ⟨sl3, e3⟩
  rw [hs] at sky go
  rcases sky with ⟨hB, hn0, hl, oe, vs, he, hz, hd, h1⟩ | fl | hh
  · exact HandSPX.look_newZ Zc.steady hfr hl hf he hB hn0 hd h1 hz go
  · exact HandSPX.looks_onZ Zc.steady hfr hf fl go
  · exact HandSPX.looks_otherZ Zc.steady hfr hf hLC hh go
/-- the context of a block whose exceptions go on -/
abbrev Cx.blkx (X : Cx) (s : Shared) (H : Hp) (scope : Scope) (cenv : Env) (fp : List Addr) (xe : Value → Shared → Prop) : Cx := { X.blk s H scope cenv fp with xe := xe }
/-- what the def takes, its block takes -/
def TakesB (X X' : Cx) : Prop := ∀ W W' : WX, (∀ cls d σ' H', W cls d σ' H' → ∀ σ, W' cls d σ H') → Takes X W' → Takes X' W
theorem Inv.toX {X : Cx} {pins : List (Addr × Obj)} {σ : St} {H : Hp} {s : Shared} (xe : Value → Shared → Prop) (I : Inv X pins σ H s) : Inv { X with xe := xe } pins σ H s :=
  ⟨I.ok.toTry X.pn xe, I.os, I.bare, I.base, I.loc, I.cell, I.free, I.freeC, I.pin, I.hok, I.len⟩
theorem Inv.ofX {X : Cx} {pins : List (Addr × Obj)} {σ : St} {H : Hp} {s : Shared} {xe : Value → Shared → Prop} (I : Inv { X with xe := xe } pins σ H s) (ok : X.Ok) : Inv X pins σ H s :=
  ⟨ok, I.os, I.bare, I.base, I.loc, I.cell, I.free, I.freeC, I.pin, I.hok, I.len⟩
section
variable {X : Cx}
/-- a list comprehension whose element may raise -/
theorem lc_coreX {pins : List (Addr × Obj)} {s : Shared} {σ : St} {H : Hp} {Q : VK} {elt tg iter : Expr} {ifs : List Expr} {scope : Scope} {own : List (Str × Nat)} {pos pos' : Pos} {wi : TI} {g : TG} {tt : TT} {te : TE} {use : Option (Value → Sem Unit)} {Qf : Value → Shared → Prop}
    (hstk : X.stack = X.env :: X.outer) (hfrm : X.env.frame = some X.env.locals) (hc : X.calm = true) (hN : X.N.Nodup) (I : Inv X pins σ H s) (hi : PI X tg iter wi) (ok : BlkOk X.N X.env.scope scope own)
    (hg : ∀ (s : Shared) (H : Hp) (C : Addr) (cl : List (Str × Addr)) (fp : List Addr), PG (X.blk s H scope (compEnvC scope cl C X.env) fp) tg g) (ht : ∀ (s : Shared) (H : Hp) (C : Addr) (cl : List (Str × Addr)) (fp : List Addr), PTs (X.blk s H scope (compEnvC scope cl C X.env) fp) ifs tt)
    (he : ∀ (s : Shared) (H : Hp) (C : Addr) (cl : List (Str × Addr)) (fp : List Addr) (xe : Value → Shared → Prop), TakesB X (X.blkx s H scope (compEnvC scope cl C X.env) fp xe) → PE (X.blkx s H scope (compEnvC scope cl C X.env) fp xe) elt te) (hs : ∀ x, foldedSetIterable iter X.env x = pure x)
    (h : tLc wi g tt te (own.map (·.2)) σ H Q)
    (fin : ∀ D ce s' m H', Inv X pins σ H' s' → Q (.ref D) H' → s'.heap.Ns ce.locals m → FpOk X pins H' ce.locals → compEnds (model X.prog X.w) X.A X.xe use Qf (.ref D) ce (.ok .next) s') :
    wpAny (model X.prog X.w) X.A (comprehension (.ListComp elt [⟨tg, iter, ifs, 0⟩] scope pos) scope X.env pos' (newList []) false (eval iter X.env) use) Qf X.xe s := by
  have free : ∀ y ∈ scope.names, y.2 = .free → ∃ c, X.env.cells.lookup y.1 = some c := fun y hy e => by
    rcases ok.free y hy e with k | k
    · exact I.ok.has _ (.inl k)
    · exact I.ok.has _ (.inr k)
  refine comprehension_at (use := use) rfl hs (closure_ok free) ok.kind (fun y hy e => by rw [ok.uniq y hy, e]) (thn (hi.run pins s σ H _ I h) fun xv s1 hx => thn hx fun itv s2 h2 => ?_)
  obtain ⟨it, fp, tn, J, H2, rfl, I2, T, st2, f2, q⟩ := h2
  refine wpAny_newObj_type (newEnv_comp ?_) (by show 0 ≤ sizeLine; decide)
  obtain ⟨D, hD⟩ : ∃ D, D = s2.heap.objs.size := ⟨_, rfl⟩
  rw [← hD]
  obtain ⟨W, ⟨m0, w0⟩, turn⟩ := q D (by rw [hD]; exact I2.hok.fresh (Nat.le_refl _))
  obtain ⟨s3, hs3⟩ : ∃ s3 : Shared, s3 = { s2 with heap := s2.heap.push { cls := .type "list", data := .seq ([] : List Value).toArray } } := ⟨_, rfl⟩
  rw [← hs3]
  have k23 : ∀ b o, s2.heap.get? b = some o → s3.heap.get? b = some o := fun b o e => by rw [hs3]; exact Heap.get?_push_of_some _ e
  have z23 : s3.heap.objs.size = s2.heap.objs.size + 1 := by rw [hs3]; exact Heap.size_push _ _
  obtain ⟨H3, hH3⟩ : ∃ H3, H3 = upd H2 D (.lst []) := ⟨_, rfl⟩
  rw [← hH3] at w0
  have I3 : Inv X pins σ H3 s3 := by
    rw [hH3, hs3]
    refine I2.laid (t' := s2.toks) (fun b o e => Heap.get?_push_of_some _ e) (Nat.le_of_eq hD.symm) ⟨Nat.zero_le _, [], 0, .nil, ?_⟩
    rw [hD]; exact Heap.get?_push_size _ rfl
  have f3 : ∀ b ∈ fp, FpOk X pins H3 b ∧ b < s3.heap.objs.size := fun b hb => by
    obtain ⟨o, e, _⟩ := T.obj _ _ st2 b hb
    have lt := Heap.lt_size e
    refine ⟨⟨?_, (f2 b hb).2⟩, by rw [z23]; exact Nat.lt_succ_of_lt lt⟩
    rw [hH3, upd_ne (by rw [hD]; exact Nat.ne_of_lt lt)]
    exact (f2 b hb).1
  have I4 := block_start I3 ok hN f3
  obtain ⟨cl, hcl⟩ : ∃ cl, cl = cellsFrom (s3.heap.objs.size + 1) scope.names (cloFrom X.env.cells scope.names []) := ⟨_, rfl⟩
  rw [← hcl] at I4
  have pg := hg s3 H3 s3.heap.objs.size cl fp
  have pt := ht s3 H3 s3.heap.objs.size cl fp
  have pe := he s3 H3 s3.heap.objs.size cl fp
  show codeAny _ _ (.compStart (.ListComp elt [⟨tg, iter, ifs, 0⟩] scope pos) 0 (.ref it) (.ref D) (compEnvC scope (cellsFrom (s3.heap.objs.size + 1) scope.names (cloFrom X.env.cells scope.names [])) s3.heap.objs.size X.env)) (compEnds (model X.prog X.w) X.A X.xe use Qf (.ref D) (compEnvC scope (cellsFrom (s3.heap.objs.size + 1) scope.names (cloFrom X.env.cells scope.names [])) s3.heap.objs.size X.env)) { s3 with heap := pushCells (s3.heap.push { cls := .type "dict", data := .dict #[] }) scope.names }
  rw [← hcl]
  obtain ⟨ce, hce⟩ : ∃ ce, ce = compEnvC scope cl s3.heap.objs.size X.env := ⟨_, rfl⟩
  rw [← hce] at I4 pg pt pe ⊢
  have eL : ce.locals = s3.heap.objs.size := by rw [hce]; rfl
  have eF : ce.frame = X.env.frame := by rw [hce]; rfl
  obtain ⟨s4, hs4⟩ : ∃ s4 : Shared, s4 = { s3 with heap := pushCells (s3.heap.push { cls := .type "dict", data := .dict #[] }) scope.names } := ⟨_, rfl⟩
  rw [← hs4] at I4 ⊢
  have st4 : tn 0 s4.heap := T.keep _ _ _ st2 fun b _ o e => by rw [hs4]; exact pushCells_keeps _ _ _ _ (Heap.get?_push_of_some _ (k23 b o e))
  -- the exceptions of the element
  have pe := pe (notedBy (model X.prog X.w) X.A ce fun e s' => CompFails (model X.prog X.w) X.A X.xe ce e s') (fun W W' hW tk u s' x => XE.of_block (W' := W') I3 hstk hfrm eF (Nat.le_of_eq eL.symm) (fun b hb => (f3 b hb).1) (fun cls d σ' H' w => hW cls d σ' H' w σ) tk x)
  have fpB : ∀ {σ' : St} {H' : Hp} {s' : Shared}, Inv (X.blk s3 H3 scope ce fp) [] σ' H' s' → (∀ b ∈ fp, H' b = none) → ∀ b ∈ fp, FpOk (X.blk s3 H3 scope ce fp) [] H' b := fun {σ' H' s'} I' hn b hb =>
    ⟨hn b hb, (I'.ok.exf b hb).1, I'.ok.exfs b hb, .inl hb, fun x c e => (I'.ok.exf b hb).2 x c e, fun p hp => absurd (show p ∈ ([] : List (Addr × Obj)) ++ [] from hp) (by simp)⟩
  have loop : codeAny (model X.prog X.w) X.A (.compLoop (.ListComp elt [⟨tg, iter, ifs, 0⟩] scope pos) 0 (.ref it) (.ref D) ce) (compEnds (model X.prog X.w) X.A X.xe use Qf (.ref D) ce) s4 := by
    refine compLoop_any (fun n s' => ∃ i H', Inv (X.blk s3 H3 scope ce fp) [] (wipe σ (own.map (·.2))) H' s' ∧ tn i s'.heap ∧ (∀ b ∈ fp, H' b = none) ∧ W i n H') ?_ m0 ⟨0, H3, I4, st4, fun b hb => (f3 b hb).1.1, w0⟩
    rintro n s5 ⟨i, H5, I5, st5, n5, w5⟩
    rcases turn i n H5 w5 with ⟨stop, qq⟩ | ⟨go, Nx, hNx, step⟩
    · refine thnF (T.done (X.blk s3 H3 scope ce fp) rfl rfl rfl hc i [] s5 _ H5 (fun _ _ => False) I5 (fpB I5 n5) st5 stop) fun r s6 ⟨hr, I6⟩ => ?_
      subst hr
      obtain ⟨m, hn, _⟩ := I6.loc
      have nC : H5 ce.locals = none := I6.free
      exact fin D ce s6 m H5 (I3.call' (ch := fp) I6.os I6.base I6.hok I6.bare fun b hb => ⟨(f3 b hb).1.2.2.2.1, (f3 b hb).1.2.1, (f3 b hb).1.2.2.2.2.1, (f3 b hb).1.2.2.2.2.2⟩) qq hn (I3.fpOk (Nat.le_of_eq eL.symm) nC)
    · refine thnF (T.item (X.blk s3 H3 scope ce fp) rfl rfl rfl hc i [] s5 _ H5 (fun _ _ => False) I5 (fpB I5 n5) st5 go) fun r s6 ⟨u, hr, h6⟩ => ?_
      subst hr
      refine thnF h6 fun _ s7 ⟨x, H7, I7, r7, y7, st7, n7⟩ => ?_
      refine thnF (pg.run _ s7 _ H7 x u _ (I7.pinned (fpB I7 n7) (T.obj _ _ st7)) r7 (step x H7 y7)) fun _ s8 ⟨σ8, H8, I8, hw8, q8⟩ => ?_
      refine thnF (pt.run _ s8 σ8 H8 _ I8 q8) fun b s9 ⟨H9, I9, q9⟩ => ?_
      have next : ∀ {s' : Shared} {H' : Hp}, Inv (X.blk s3 H3 scope ce fp) ([] ++ pinsAt fp s7.heap) σ8 H' s' → Nx H' → ∃ m, m < n ∧ ∃ i H', Inv (X.blk s3 H3 scope ce fp) [] (wipe σ (own.map (·.2))) H' s' ∧ tn i s'.heap ∧ (∀ b ∈ fp, H' b = none) ∧ W i m H' := fun {s' H'} I' nx => by
        obtain ⟨m', hm, w'⟩ := hNx H' nx
        have pin : ∀ b ∈ fp, ∀ o, s7.heap.get? b = some o → s'.heap.get? b = some o ∧ H' b = none := fun b hb o e =>
          ⟨(I'.pin (b, o) (List.mem_append_right _ (List.mem_append_right _ (mem_pinsAt hb e)))).1, (I'.pin (b, o) (List.mem_append_right _ (List.mem_append_right _ (mem_pinsAt hb e)))).2.1⟩
        refine ⟨m', hm, i + 1, H', (I'.unpinned (pins := [])).weak (by rw [← hw8, wipe_length]) (fun j v e => by rw [← hw8] at e; exact (wipe_some e).1), T.keep _ _ _ st7 fun b hb o e => (pin b hb o e).1, fun b hb => ?_, w'⟩
        obtain ⟨o, e, _⟩ := T.obj _ _ st7 b hb
        exact (pin b hb o e).2
      cases b with
      | false => simp only [Bool.false_eq_true, if_false] at q9 ⊢; exact next I9 q9
      | true =>
        simp only [if_true] at q9 ⊢
        refine wpAny_mono (pe.run _ s9 σ8 H9 _ (I9.toX _) q9) (fun z s10 ⟨yv, H10, I10, r10, acc, hD10, hz10, nx⟩ => ?_) fun e s' x => ?_
        · exact app_ok (X := X.blk s3 H3 scope ce fp) (I10.ofX I9.ok) hD10 hz10 r10 fun s11 I11 => next I11 nx
        · have e : (fun e s' => compEnds (model X.prog X.w) X.A X.xe use Qf (.ref D) ce (.error e) s') = fun e s' => CompFails (model X.prog X.w) X.A X.xe ce e s' := by cases use <;> rfl
          rw [e]; exact x
  exact codeAny_compStart_list loop (T.self X.A 0 _ _ _ st4 loop)
/-- as a value -/
theorem pe_lcX {elt tg iter : Expr} {ifs : List Expr} {scope : Scope} {own : List (Str × Nat)} {pos : Pos} {wi : TI} {g : TG} {tt : TT} {te : TE} (hstk : X.stack = X.env :: X.outer) (hfrm : X.env.frame = some X.env.locals) (hc : X.calm = true) (hN : X.N.Nodup) (hi : PI X tg iter wi) (ok : BlkOk X.N X.env.scope scope own)
    (hg : ∀ (s : Shared) (H : Hp) (C : Addr) (cl : List (Str × Addr)) (fp : List Addr), PG (X.blk s H scope (compEnvC scope cl C X.env) fp) tg g) (ht : ∀ (s : Shared) (H : Hp) (C : Addr) (cl : List (Str × Addr)) (fp : List Addr), PTs (X.blk s H scope (compEnvC scope cl C X.env) fp) ifs tt)
    (he : ∀ (s : Shared) (H : Hp) (C : Addr) (cl : List (Str × Addr)) (fp : List Addr) (xe : Value → Shared → Prop), TakesB X (X.blkx s H scope (compEnvC scope cl C X.env) fp xe) → PE (X.blkx s H scope (compEnvC scope cl C X.env) fp xe) elt te) (hs : ∀ x, foldedSetIterable iter X.env x = pure x) :
    PE X (.ListComp elt [⟨tg, iter, ifs, 0⟩] scope pos) (tLc wi g tt te (own.map (·.2))) := ⟨fun pins s σ H Q I h => by
  rw [eval_ListComp]
  refine lc_coreX hstk hfrm hc hN I hi ok hg ht he hs h fun D ce s' m H' I' q hn f => ⟨m, hn, fun h'' sb => ⟨.ref D, H', ?_, rfl, q⟩⟩
  exact I'.turned (t' := s'.toks) (fun b o hb e => (sb.2 b hb).trans e) f.1 f.2.1 f.2.2.2.1 f.2.2.2.2.1 f.2.2.2.2.2⟩
/-- name = [..], the name a local -/
theorem ps_setLcX {i : Nat} {y : Str} {py : Pos} {elt tg iter : Expr} {ifs : List Expr} {scope : Scope} {own : List (Str × Nat)} {pos spos : Pos} {wi : TI} {g : TG} {tt : TT} {te : TE} (hstk : X.stack = X.env :: X.outer) (hfrm : X.env.frame = some X.env.locals) (hc : X.calm = true) (hN : X.N.Nodup) (hy : X.N[i]? = some y) (hyl : X.env.scope.names.lookup y = some .local)
    (hsw : swapsWith (.ListComp elt [⟨tg, iter, ifs, 0⟩] scope pos) (some (.Name y py)) spos.line X.env = pure true) (hi : PI X tg iter wi) (ok : BlkOk X.N X.env.scope scope own)
    (hg : ∀ (s : Shared) (H : Hp) (C : Addr) (cl : List (Str × Addr)) (fp : List Addr), PG (X.blk s H scope (compEnvC scope cl C X.env) fp) tg g) (ht : ∀ (s : Shared) (H : Hp) (C : Addr) (cl : List (Str × Addr)) (fp : List Addr), PTs (X.blk s H scope (compEnvC scope cl C X.env) fp) ifs tt)
    (he : ∀ (s : Shared) (H : Hp) (C : Addr) (cl : List (Str × Addr)) (fp : List Addr) (xe : Value → Shared → Prop), TakesB X (X.blkx s H scope (compEnvC scope cl C X.env) fp xe) → PE (X.blkx s H scope (compEnvC scope cl C X.env) fp xe) elt te) (hs : ∀ x, foldedSetIterable iter X.env x = pure x) :
    PS X (.Assign [.Name y py] (.ListComp elt [⟨tg, iter, ifs, 0⟩] scope pos) spos) (tAsg (tLc wi g tt te (own.map (·.2))) (gName i)) := ⟨fun pins s σ H D I h => by
  rw [exec_Assign_Name_used _ _ _ _ hsw]
  refine wpAny_bind (wpAny_standAt (wpAny_bind ?_))
  show wpAny _ X.A (do let _ ← comprehension (.ListComp elt [⟨tg, iter, ifs, 0⟩] scope pos) scope X.env (firstIterPos [⟨tg, iter, ifs, 0⟩] pos) (newList []) false (eval iter X.env) (some (assign (.Name y py) X.env))) _ _ s
  have h : tLc wi g tt te (own.map (·.2)) σ H (fun x H1 => gName i x σ H1 D.nx) := h
  refine wpAny_bind (thn (lc_coreX (Qf := fun _ s' => SP X pins D .next s') hstk hfrm hc hN I hi ok hg ht he hs h fun L ce s' m H' I' q hn f => ?_) fun _ s' hq => wpAny_pure (wpAny_pure hq))
  show wpAny _ _ (assign (.Name y py) X.env (.ref L)) _ _ _
  refine wpAny_assign_Name (store_ok2 (v := V.ref L) I' hN hy (.inl hyl) rfl (fun s2 I2 ⟨a, sb, ha⟩ => ?_) (.inr hyl))
  have ne : ce.locals ≠ a := by
    rcases ha with z | z
    · rw [z]; exact f.2.1
    · exact fun e => f.2.2.2.2.1 y a z e.symm
  exact ⟨m, hn.sameBut sb ne, fun h3 sb3 => ⟨_, H', I2.turned (t' := s2.toks) (fun b o hb e => (sb3.2 b hb).trans e) f.1 f.2.1 f.2.2.2.1 f.2.2.2.2.1 f.2.2.2.2.2, q⟩⟩⟩
end
end L2
set_option Elab.async false
set_option linter.all false
set_option maxRecDepth 100000
set_option maxHeartbeats 2000000
namespace Hw
open PySem L2 PyProof.Rows
/-! ### comprehensions whose element may raise -/
/-- a block whose exceptions go on -/
def BlkX (X : Cx) (scope : Scope) (X' : Cx) : Prop := ∃ (s : Shared) (H : Hp) (C : Addr) (cl : List (Str × Addr)) (fp : List Addr) (xe : Value → Shared → Prop), X' = X.blkx s H scope (compEnvC scope cl C X.env) fp xe ∧ TakesB X X'
theorem blkX_K {X X' : Cx} {scope : Scope} (hb : BlkX X scope X') : X'.K = X.K := by obtain ⟨s, H, C, cl, fp, xe, rfl, _⟩ := hb; rfl
theorem BlkX.exc {X X' : Cx} {scope : Scope} (hb : BlkX X scope X') {PE : XP} {μ : Mu} {H : Hp} (x : Exc X PE μ H) : Exc X' PE μ H := fun Ca dd H' fs vfs μ' σ s h e n q => by
  rw [blkX_K hb] at h n
  have w := fun σ => x Ca dd H' fs vfs μ' σ s h e n q
  obtain ⟨s0, H0, C, cl, fp, xe, _, tb⟩ := hb
  refine tb (fun c d' σ' H'' => c = .ref Ca ∧ d' = some dd ∧ σ' = σ ∧ H'' = H') (fun c d' _ H'' => c = .ref Ca ∧ d' = some dd ∧ H'' = H') (fun cls d σ' H2 ⟨e1, e2, _, e4⟩ _ => ⟨e1, e2, e4⟩) fun u s' ⟨a, B, sI, pins, σ0, H1, cls, d, h1, h2, h3, h4, h5, h6, h7, h8, w1, w2, w3⟩ => ?_
  exact w σ0 u s' ⟨a, B, sI, pins, σ0, H1, cls, d, h1, h2, h3, h4, h5, h6, h7, h8, w1, w2, rfl, w3⟩
section
variable {X : Cx} {PE PEb : XP} {e a b c elt tg iter : Expr} {es ifs : List Expr} {μ : Mu} {ds : DS} {P : DP} {pos : Pos} {Z : Po}
/-- a turn whose element may raise -/
def TurnX (X : Cx) (scope : Scope) (ds : DS) (own : List Nat) (tg : Expr) (ifs : List Expr) (elt : Expr) (PEb : XP) (x : D) (μ : Mu) (Q : Option D → Mu → Prop) : Prop :=
  ∀ X', Blk X scope X' → GCX X' μ (wipeD ds own) own tg x fun ds2 => ∀ X', Blk X scope X' → TsX X' noX μ ds2 ifs fun z μ1 => (z = true → ∀ X', BlkX X scope X' → EX X' PEb μ1 ds2 elt fun d μ2 => Q (some d) μ2) ∧ (z = false → Q none μ1)
def teX (X : Cx) (scope : Scope) (elt : Expr) : TE := fun σ H Q => ∃ t, (∀ X', BlkX X scope X' → L2.PE X' elt t) ∧ t σ H Q
theorem pe_BX {scope : Scope} {X' : Cx} (hb : BlkX X scope X') : L2.PE X' elt (teX X scope elt) := ⟨fun pins s σ H Q I h => by obtain ⟨t, p, h⟩ := h; exact (p X' hb).run pins s σ H Q I h⟩
theorem lc_readX {scope : Scope} {own : List Nat} {σ : L2.St} {H : Hp} {Q : VK} (ho : Hold X.K μ H) (hs : Sl X PE μ H σ ds)
    (h : IX X PE μ ds tg iter fun xs μ1 => xs.length ≤ sizeLine ∧ ∀ L, μ1 L = none → ∃ I : Nat → List D → Mu → Prop, I 0 [] μ1 ∧
      (∀ i x acc μi, xs[i]? = some x → I i acc μi → acc.length ≤ i → μi L = none → TurnX X scope ds own tg ifs elt (xdel PE L) x (mset μi L (.lst acc)) fun o μ3 => ∃ μ3', μ3 = mset μ3' L (.lst acc) ∧ μ3' L = none ∧ I (i + 1) (addO acc o) μ3') ∧
      ∀ acc μn, I xs.length acc μn → P (.lst acc) μn)
    (k : ∀ v H' d μ', Stp μ H μ' H' → Hold X.K μ' H' → Den X.K μ' H' v d → P d μ' → Q v H') :
    tLc (tUI X tg iter) (tgB X scope tg) (ttB X scope ifs) (teX X scope elt) own σ H Q :=
  h.at ho hs fun J H1 xs μ1 s1 h1 b1 it ⟨hz, hI⟩ => fun L nL => by
    obtain ⟨I, i0, step, fin⟩ := hI L (h1.free nL)
    exact
    ⟨fun i mm H2 => i + mm = xs.length ∧ ∃ acc μi, I i acc μi ∧ acc.length ≤ i ∧ μi L = none ∧ Hold X.K (mset μi L (.lst acc)) H2 ∧ Stp μ1 H1 (mset μi L (.lst acc)) H2,
      ⟨xs.length, Nat.zero_add _, [], μ1, i0, Nat.le_refl _, h1.free nL, h1.newM (c := .lst []) nL ⟨[], upd_same, .nil⟩, Stp.newM nL⟩, fun i mm H2 ⟨hm, acc, μi, hi, hl, nl, h2, s2⟩ => by
      by_cases hx : i < xs.length
      · refine .inr ?_
        obtain ⟨x, ex⟩ : ∃ x, xs[i]? = some x := ⟨xs[i], List.getElem?_eq_getElem hx⟩
        obtain ⟨g1, g2⟩ := (it i H2 _ s2 h2).2 x ex
        refine ⟨g1, fun H' => ∃ acc μi, I (i + 1) acc μi ∧ acc.length ≤ i + 1 ∧ μi L = none ∧ Hold X.K (mset μi L (.lst acc)) H' ∧ Stp μ1 H1 (mset μi L (.lst acc)) H', fun H' q => ⟨mm - 1, by omega, by omega, q⟩, fun v H3 hy => ?_⟩
        obtain ⟨s3, h3, n3⟩ := g2 v H3 hy
        have T := step i x acc μi ex hi hl nl
        have bs : DenS X.K (mset μi L (.lst acc)) H3 (wipe σ own) (wipeD ds own) := (DenS.wipe b1.d own).mono (s2.trans s3)
        refine ⟨fun v σ H Q => Hold X.K (mset μi L (.lst acc)) H ∧ DenS X.K (mset μi L (.lst acc)) H σ (wipeD ds own) ∧ Den X.K (mset μi L (.lst acc)) H v x ∧ ∀ σ' ds', wipe σ' own = wipe σ own → DenS X.K (mset μi L (.lst acc)) H σ' ds' →
          (∀ X', Blk X scope X' → TsX X' noX (mset μi L (.lst acc)) ds' ifs fun z μ1 => (z = true → ∀ X', BlkX X scope X' → EX X' (xdel PE L) μ1 ds' elt fun d μ2 => (fun o μ3 => ∃ μ3', μ3 = mset μ3' L (.lst acc) ∧ μ3' L = none ∧ I (i + 1) (addO acc o) μ3') (some d) μ2) ∧ (z = false → (fun o μ3 => ∃ μ3', μ3 = mset μ3' L (.lst acc) ∧ μ3' L = none ∧ I (i + 1) (addO acc o) μ3') none μ1)) → Q σ' H, fun X' hb => ?_, h3, bs, n3, fun σ4 ds4 w4 b4 ts => ?_⟩
        · have := (T X' hb).pg
          rw [blk_K hb] at this
          exact this
        · refine ⟨w4.trans (wipe_wipe fun i h => h), ?_⟩
          refine ⟨fun σ H Q => Hold X.K (mset μi L (.lst acc)) H ∧ DenS X.K (mset μi L (.lst acc)) H σ ds4 ∧ ∀ b H' μ', Stp (mset μi L (.lst acc)) H μ' H' → Hold X.K μ' H' →
            ((b = true → ∀ X', BlkX X scope X' → EX X' (xdel PE L) μ' ds4 elt fun d μ2 => ∃ μ3', μ2 = mset μ3' L (.lst acc) ∧ μ3' L = none ∧ I (i + 1) (addO acc (some d)) μ3') ∧ (b = false → ∃ μ3', μ' = mset μ3' L (.lst acc) ∧ μ3' L = none ∧ I (i + 1) (addO acc none) μ3')) → Q b H', fun X' hb => ?_, h3, b4, fun z H5 μ5 s5 h5 p5 => ?_⟩
          · refine ⟨fun pins s σ H Q J ⟨q1, q2, q3⟩ => (ts X' hb).pts.run pins s σ H Q J ⟨by rw [blk_K hb]; exact q1, ⟨by rw [blk_K hb]; exact q2, Exc.no⟩, fun b H' μ' s h p => q3 b H' μ' s (by rw [blk_K hb] at h; exact h) p⟩⟩
          · cases z with
            | true =>
              refine iteT ⟨fun σ H Q => Hold X.K μ5 H ∧ DenS X.K μ5 H σ ds4 ∧ Exc X (xdel PE L) μ5 H ∧ ∀ v H' d μ', Stp μ5 H μ' H' → Hold X.K μ' H' → Den X.K μ' H' v d → (∃ μ3', μ' = mset μ3' L (.lst acc) ∧ μ3' L = none ∧ I (i + 1) (addO acc (some d)) μ3') → Q v H', fun X' hb => ?_, h5, b4.mono s5, (b1.x.mono (s2.trans (s3.trans s5))).del, fun v H6 d μ6 s6 h6 n6 ⟨μ7, e7, nl7, p7⟩ => ?_⟩
              · refine ⟨fun pins s σ H Q J ⟨q1, q2, q0, q3⟩ => (p5.1 rfl X' hb).pe.run pins s σ H Q J ⟨by rw [blkX_K hb]; exact q1, ⟨by rw [blkX_K hb]; exact q2, hb.exc q0⟩, fun v H' d μ' s h n p => q3 v H' d μ' s (by rw [blkX_K hb] at h; exact h) (by rw [blkX_K hb] at n; exact n) p⟩⟩
              · subst e7
                obtain ⟨vs, ev, dv⟩ := h6 L _ mset_same
                have sw : Stp (mset μ7 L (.lst acc)) H6 (mset (mset μ7 L (.lst acc)) L (.lst (acc ++ [d]))) (upd H6 L (.lst (vs ++ [v]))) := Stp.write mset_same
                refine ⟨vs, ev, by rw [dv.length]; omega, acc ++ [d], μ7, p7, by simp; omega, nl7, ?_, ?_⟩
                · have := h6.write (c := .lst (acc ++ [d])) (o := .lst (vs ++ [v])) mset_same ⟨_, upd_same, (dv.append (.cons n6 .nil)).mono sw⟩
                  rw [mset_mset] at this
                  exact this
                · rw [mset_mset] at sw
                  exact (((s2.trans s3).trans s5).trans s6).trans sw
            | false =>
              obtain ⟨μ7, e7, nl7, p7⟩ := p5.2 rfl
              subst e7
              exact iteF ⟨acc, μ7, p7, by omega, nl7, h5, (s2.trans s3).trans s5⟩
      · have e : i = xs.length := by omega
        subst e
        refine .inl ⟨(it _ H2 _ s2 h2).1 (Nat.le_refl _), ?_⟩
        obtain ⟨vs, ev, dv⟩ := h2 L _ mset_same
        exact k _ H2 (.lst acc) μi ((s1.trans s2).trans Stp.freeze) (h2.freeze nl) (.lst nl ev (dv.mono Stp.freeze)) (fin acc μi hi)⟩


/-- the turns, the place of the list told to each -/
def lcX (turn : Addr → D → Mu → (Option D → Mu → Prop) → Prop) (xs : List D) (μ : Mu) (K : List D → Mu → Prop) : Prop := xs.length ≤ sizeLine ∧ ∀ L, μ L = none → lcL (turn L) L K xs [] μ
theorem lcX_I {scope : Scope} {own : List Nat} {turn : Addr → D → Mu → (Option D → Mu → Prop) → Prop} {xs : List D} {μ1 : Mu} {K : List D → Mu → Prop} (ht : ∀ L x μ Q, turn L x μ Q → TurnX X scope ds own tg ifs elt (xdel PE L) x μ Q) (h : lcX turn xs μ1 K) :
    xs.length ≤ sizeLine ∧ ∀ L, μ1 L = none → ∃ I : Nat → List D → Mu → Prop, I 0 [] μ1 ∧
      (∀ i x acc μi, xs[i]? = some x → I i acc μi → acc.length ≤ i → μi L = none → TurnX X scope ds own tg ifs elt (xdel PE L) x (mset μi L (.lst acc)) fun o μ3 => ∃ μ3', μ3 = mset μ3' L (.lst acc) ∧ μ3' L = none ∧ I (i + 1) (addO acc o) μ3') ∧
      ∀ acc μn, I xs.length acc μn → K acc μn := by
  refine ⟨h.1, fun L nL => ⟨fun i acc μi => lcL (turn L) L K (xs.drop i) acc μi, h.2 L nL, fun i x acc μi ex hi hl nl => ?_, fun acc μn hn => ?_⟩⟩
  · have e : xs.drop i = x :: xs.drop (i + 1) := by
      obtain ⟨hi, e⟩ := List.getElem?_eq_some_iff.mp ex
      rw [List.drop_eq_getElem_cons hi, e]
    have hi : lcL (turn L) L K (xs.drop i) acc μi := hi
    rw [e] at hi
    exact ht _ _ _ _ hi
  · have hn : lcL (turn L) L K (xs.drop xs.length) acc μn := hn
    rw [List.drop_length] at hn
    exact hn
theorem ex_lcX (hst : X.stack = X.env :: X.outer) (hfm : X.env.frame = some X.env.locals) {scope : Scope} (own : List (Str × Nat)) (turn : Addr → D → Mu → (Option D → Mu → Prop) → Prop) (ht : ∀ L x μ Q, turn L x μ Q → TurnX X scope ds (own.map (·.2)) tg ifs elt (xdel PE L) x μ Q)
    (h : IX X PE μ ds tg iter fun xs μ1 => lcX turn xs μ1 fun ys μ2 => P (.lst ys) μ2) (hc : X.calm = true) (hN : X.N.Nodup) (ok : BlkOk X.N X.env.scope scope own) (hs : ∀ x, foldedSetIterable iter X.env x = pure x) : EX X PE μ ds (.ListComp elt [⟨tg, iter, ifs, 0⟩] scope pos) P :=
  ex_of (pe_lcX hst hfm hc hN pi_U ok (fun s H C cl fp => pg_B ⟨s, H, C, cl, fp, rfl⟩) (fun s H C cl fp => pt_B ⟨s, H, C, cl, fp, rfl⟩) (fun s H C cl fp xe tb => pe_BX ⟨s, H, C, cl, fp, xe, rfl, tb⟩) hs) fun σ H Q ho hs k => lc_readX ho hs (ex_lcF.ix_imp h fun xs m q => lcX_I ht q) k
theorem sx_setLcX (hst : X.stack = X.env :: X.outer) (hfm : X.env.frame = some X.env.locals) {scope : Scope} (own : List (Str × Nat)) (i : Nat) {y : Str} {py spos : Pos} (turn : Addr → D → Mu → (Option D → Mu → Prop) → Prop) (ht : ∀ L x μ Q, turn L x μ Q → TurnX X scope ds (own.map (·.2)) tg ifs elt (xdel PE L) x μ Q)
    (h : IX X PE μ ds tg iter fun xs μ1 => lcX turn xs μ1 fun ys μ2 => Z.nx (ds.set i (some (.lst ys))) μ2) (hc : X.calm = true) (hN : X.N.Nodup) (ok : BlkOk X.N X.env.scope scope own) (hy : X.N[i]? = some y) (hyl : X.env.scope.names.lookup y = some .local)
    (hsw : swapsWith (.ListComp elt [⟨tg, iter, ifs, 0⟩] scope pos) (some (.Name y py)) spos.line X.env = pure true) (hs : ∀ x, foldedSetIterable iter X.env x = pure x) : SX X PE μ ds (.Assign [.Name y py] (.ListComp elt [⟨tg, iter, ifs, 0⟩] scope pos) spos) Z :=
  sx_of (ps_setLcX hst hfm hc hN hy hyl hsw pi_U ok (fun s H C cl fp => pg_B ⟨s, H, C, cl, fp, rfl⟩) (fun s H C cl fp => pt_B ⟨s, H, C, cl, fp, rfl⟩) (fun s H C cl fp xe tb => pe_BX ⟨s, H, C, cl, fp, xe, rfl, tb⟩) hs) fun D σ H ho hs m =>
    lc_readX (P := fun d μ' => Z.nx (ds.set i (some d)) μ') ho hs (ex_lcF.ix_imp h fun xs m q => lcX_I ht q) fun v H' d μ' s h n p => m.nx _ H' _ μ' s h ((hs.mono s).set n) p
end
end Hw
set_option Elab.async false
set_option linter.all false
set_option maxRecDepth 100000
set_option maxHeartbeats 1000000
/-! ### bool of an instance -/
namespace PySem
theorem meets_bool_truthy {prog : Program} {w : World} (u : Value) : MeetsIn prog w (Builtin.«bool.__new__» ⟨[.type "bool", u], []⟩) (fun A R s => wpAny (model prog w) A.in1 (truthy u) (fun b s' => R (.ok (.ret (.bool b))) s') (fun e s' => R (.error e) s') s) := by
  intro A R s hs
  obtain ⟨hp, g, d, tk, os⟩ := s
  have f1 := F.conv_sub_bool
  repeat (any_goals (first | assumption | with_reducible refine wpAny_bind (wpAny_mono hs (fun b s' hb => ?_) fun _ _ x => x) | wp_step))
  all_goals first | exact hb | exact ⟨_, rfl, hb⟩ | skip
end PySem
namespace Hw
open PySem L2 PyProof.Rows
end Hw
namespace Hw
open PySem L2 PyProof.Rows
def boolG2 (l : List SE) : List D → Mu → DP → Prop := fun xs μ P => match xs with
  | [x] => match isIns x with
    | true => seK x μ l fun W => W [x] μ (fun d m => ∃ b, d = .bl b ∧ P (.bl b) m) noX
    | false => boolG [] [x] μ P
  | _ => False
section
variable {X : Cx} {μ : Mu} {k : Nat}
theorem call_bool_own {prog : Program} {w : World} {A : Around} {E : Value → Shared → Prop} {s : Shared} {u : Value} {Q : Value → Shared → Prop} (h : wpAny (model prog w) A.in1.in1 (truthy u) (fun b s' => Q (.bool b) s') E s) : wpAny (model prog w) A (call (.type "bool") [u]) Q E s :=
  callType_newIn F.called_bool F.newNe_bool (F.typeCall_bool_1 u) (F.newCall_bool_1 u) (fun obj => F.args_object_init_2 obj u) F.entry_bool_new (meets_bool_truthy u) (wpAny_mono h (fun b s' hq => ⟨rfl, hq⟩) fun _ _ x => x)
theorem cr_boolG2 {l : List SE} (ok : ∀ e ∈ l, ∃ j, j + 1 ≤ k ∧ SEok X.prog X.w X.K X.mg X.base j 1 "__bool__" e) (hr : Rm (k + 1) X.A) : CallR X (.type "bool") (rDB X.K (boolG2 l)) := by
  intro pins s σ H vs us Q I r h
  obtain ⟨μ, xs, P, ho, n, ok2, kk⟩ := h
  match xs, n, ok2 with
  | [x], n, ok2 =>
    unfold boolG2 at ok2
    dsimp only at ok2
    cases hi : isIns x with
    | false =>
      rw [hi] at ok2
      exact cr_boolG pins s σ H vs us Q I r ⟨μ, [x], P, ho, n, ok2, kk⟩
    | true =>
      rw [hi] at ok2
      obtain ⟨v, rfl, n1⟩ := n.one
      obtain ⟨u, rfl, r1⟩ := vals1 r
      obtain ⟨e, he, h1, h2⟩ := seK_of ok2
      obtain ⟨a, C, ox, od, fs, rfl, rfl, J, hC⟩ := insK_inst I ho n1 r1 h1
      obtain ⟨j, hj, okj⟩ := ok e he
      obtain ⟨g, g1, g2, g3⟩ := okj C (inC_mem hC)
      obtain ⟨mF, hF⟩ := I.fr
      have hr2 : Rm (j + 2) X.A := hr.mono (by omega)
      refine call_bool_own ?_
      refine PySem.W.truthy_K hF I.ok.mod.kin J g1 g2 (wpAny_mono (run_spec (Q := fun v H' => ∃ b, v = .bl b ∧ Q (.bl b) H') g3 ⟨hr2.r.in1.in1, hr2.g⟩ I.env0.in1.in1 I r ⟨μ, [x], _, noX, ho, n, h2, fun v H' d μ' s2 h3 n3 ⟨b, ed, p⟩ => ?_, fun _ _ _ _ _ _ _ _ _ _ q => q.elim⟩) (fun u s' hq => ?_) fun _ _ q => q)
      · subst ed
        exact ⟨b, n3.inv_bl, kk _ H' _ μ' s2 h3 (.bl b) p⟩
      · obtain ⟨v, H', I', rv, b, ev, q⟩ := hq
        subst ev
        cases rv
        exact ⟨.bl b, H', I', rfl, q⟩
end
end Hw
set_option Elab.async false
set_option linter.all false
set_option maxRecDepth 100000
set_option maxHeartbeats 2000000
namespace Hw
open PySem L2 PyProof.Rows
/-! ### what an expression asks, reckoned from its tree -/
/-- what a global name stands for -/
inductive GI where
  /-- a callable: its ways of being called; with any number of places -/
  | fn (sh : List (Nat × List Str × CT)) (any : Option CT)
  /-- a class at C: its making, its constants, its staticmethods, what is under it -/
  | cls (C : Addr) (sh : List (Nat × List Str × CT)) (any : Option CT) (con : List (Str × D)) (sta : List (Str × Nat × List Str × CT)) (iso : List (Addr × Bool))
  | cst (d : D)
  | bt
  /-- an exception class of one field -/
  | exc (a : Addr) (fld text : Str)
  /-- a def that calls a lambda and tells its value or its error: the table of code objects, its name, the classes of errors -/
  | ask (tT : Addr) (q : Str) (tab : List (Str × Str × Addr))
/-- what is known of instances -/
structure OT where
  a : Str → List AE := fun _ => []
  fs : Str → List Addr := fun _ => []
  m : Str → List ME := fun _ => []
  eqs : List EqE := []
  lens : List SE := []
  reps : List SE := []
  bools : List SE := []
structure Cfg where
  N : List Str
  sc : Scope
  g : Str → Option GI
  o : OT := {}
  /-- the row of a statement that makes a local object, and how many statements change it -/
  cell : Nat → Option Nat := fun _ => none
  /-- the fields whose values change -/
  mf : List Str := []
/-- its comprehensions may raise -/
def xlB (c : Cfg) : Bool := c.mf.contains "*"
def noAsk (g : Str → Option GI) (x : Str) : Option GI := match g x with
  | some (.ask _ _ _) => none
  | r => r
def askT (tT : Addr) (q : Str) (μ : Mu) : Prop := μ tT = some (.tbl q) ∧ ∀ b q', μ b = some (.tbl q') → b = tT
def askX (tab : List (Str × Str × Addr)) (Ca : Addr) (fs : List (Str × D)) (K : D → Prop) : Prop := ∃ text fld a x, (text, fld, a) ∈ tab ∧ Ca = a ∧ fs = [(fld, x), (("code" : Str), .str text)] ∧ K (.tup [.str text, x])
def lamOk (N : List Str) (sc : Scope) (params : Arguments) (scope : Scope) : Bool := match params with
  | ⟨[], [], none, [], [], none, []⟩ => LamX.lamSB sc scope
  | ⟨[], [a], none, [], [], none, [.Constant (.int _) _ _]⟩ => lamDB N sc scope a.arg
  | _ => false
def ixOf (x : Str) : List Str → Option Nat
  | [] => none
  | y :: ys => match decide (y = x) with
    | true => some 0
    | false => match ixOf x ys with
      | some i => some (i + 1)
      | none => none
def visB (sc : Scope) (x : Str) : Bool := match sc.names.lookup x with
  | some .local => true
  | some .cell => true
  | some .free => true
  | _ => false
def locB (sc : Scope) (x : Str) : Bool := match sc.names.lookup x with
  | some .local => true
  | some .cell => true
  | _ => false
def gloB (sc : Scope) (x : Str) : Bool := match sc.names.lookup x with
  | some .globalImplicit => true
  | _ => false
def okB (x : Str) : Bool := !(x == ("__debug__" : Str)) && !(x == ("__classdict__" : Str)) && !(x == ("__name__" : Str))
/-- a name of a class -/
def clsOf (c : Cfg) : Expr → Option (Addr × List (Str × D) × List (Str × Nat × List Str × CT))
  | .Name x _ => match okB x && gloB c.sc x && (ixOf x c.N).isNone with
    | true => match c.g x with
      | some (.cls C _ _ con sta _) => some (C, con, sta)
      | _ => none
    | false => none
  | _ => none
def ifB (b : Bool) (A : Prop) : Prop := match b with
  | true => A
  | false => False
theorem ifB_iff {b : Bool} {A : Prop} : ifB b A ↔ b = true ∧ A := by cases b <;> simp [ifB]
def dsGet (ds : DS) (i : Nat) (K : D → Prop) : Prop := match ds[i]? with
  | some (some d) => K d
  | _ => False
def intK : D → (Int → Prop) → Prop
  | .int i, K => K i
  | _, _ => False
def tupK : D → (List D → Prop) → Prop
  | .tup xs, K => K xs
  | _, _ => False
def consK : List D → (D → List D → Prop) → Prop
  | x :: xs, K => K x xs
  | _, _ => False
def nilK : List D → Prop → Prop
  | [], K => K
  | _, _ => False
/-- x[y] = d, x a list that changes -/
def setW (x y d : D) (μ : Mu) (K : Mu → Prop) : Prop := ∃ p xs k j, x = .ref p ∧ y = .int k ∧ μ p = some (.lst xs) ∧ ixN xs.length k = some j ∧ K (mset μ p (.lst (xs.set j d)))
/-- the built-ins -/
inductive Blt where
  | len | int | abs | str | list | tuple | all | any | repr | isi | bool
def bltTab : List (Str × Blt) := [("len", .len), ("int", .int), ("abs", .abs), ("str", .str), ("list", .list), ("tuple", .tuple), ("all", .all), ("any", .any), ("repr", .repr), ("isinstance", .isi), ("bool", .bool)]
def bltW (o : OT) : Blt → List D → Mu → DP → Prop
  | .len, xs, μ, P => match o.lens with
    | [] => lenOk xs μ P
    | l => lenG l xs μ P
  | .int, xs, μ, P => intG xs μ P
  | .abs, xs, μ, P => absOk xs μ P
  | .str, xs, μ, P => strOk xs μ P
  | .list, xs, μ, P => listG xs μ P
  | .tuple, xs, μ, P => tupleOk xs μ P
  | .all, xs, μ, P => allOk xs μ P
  | .any, xs, μ, P => anyOk xs μ P
  | .repr, xs, μ, P => match o.reps with
    | [] => reprOk xs μ P
    | l => reprG l xs μ P
  | .bool, xs, μ, P => match o.bools with
    | [] => boolG [] xs μ P
    | l => boolG2 l xs μ P
  | .isi, _, _, _ => False
def bnTab : List (Str × BN) := [("append", .append), ("insert", .insert), ("extend", .extend), ("pop", .lpop), ("clear", .lclear), ("join", .join), ("split", .split), ("partition", .partition), ("startswith", .startswith)]
/-- the classes that isinstance is asked about -/
def kitTab : List (Str × String) := [("int", "int"), ("str", "str"), ("bool", "bool"), ("tuple", "tuple"), ("list", "list"), ("dict", "dict")]
def plainIx : Expr → Bool
  | .Slice _ _ _ _ => false
  | _ => true
def ownOf (N : List Str) (scope : Scope) : List (Str × Nat) := scope.names.filterMap fun y => match y.2 with
  | .local => match ixOf y.1 N with
    | some i => some (y.1, i)
    | none => none
  | .cell => match ixOf y.1 N with
    | some i => some (y.1, i)
    | none => none
  | _ => none
inductive It3 where
  | range | enum | zip
def itTab : List (Str × It3) := [("range", .range), ("enumerate", .enum), ("zip", .zip)]
def isTup : Expr → Bool
  | .Tuple _ _ _ => true
  | _ => false
/-! targets of a loop, a comprehension -/
mutual
def wpG (N : List Str) (sc : Scope) (own : List Nat) : Nat → Expr → D → DS → (DS → Prop) → Prop
  | 0, _, _, _, _ => False
  | n + 1, .Name x _, d, ds, K => match ixOf x N with
    | some i => ifB (locB sc x && own.contains i) (K (ds.set i (some d)))
    | none => False
  | n + 1, .Tuple ts _ _, d, ds, K => tupK d fun xs => ifB (ts.all notStar) (wpGs N sc own n ts xs ds K)
  | _, _, _, _, _ => False
def wpGs (N : List Str) (sc : Scope) (own : List Nat) : Nat → List Expr → List D → DS → (DS → Prop) → Prop
  | 0, _, _, _, _ => False
  | n + 1, [], xs, ds, K => nilK xs (K ds)
  | n + 1, t :: ts, xs, ds, K => consK xs fun x xs => wpG N sc own n t x ds fun ds1 => wpGs N sc own n ts xs ds1 K
end
mutual
def wpE (c : Cfg) (PE : XP) : Nat → Expr → DS → Mu → DP → Prop
  | 0, _, _, _, _ => False
  | n + 1, e, ds, μ, P => match e with
    | .Constant .none _ _ => P .non μ
    | .Constant (.bool b) _ _ => P (.bl b) μ
    | .Constant (.int i) _ _ => P (.int i) μ
    | .Constant (.str s) _ _ => P (.str s) μ
    | .Name x _ => ifB (okB x) (match ixOf x c.N with
      | some i => ifB (visB c.sc x) (dsGet ds i fun d => P d μ)
      | none => ifB (gloB c.sc x) (match c.g x with
        | some (.cst d) => P d μ
        | _ => False))
    | .Tuple es _ _ => ifB (decide (es.length ≤ 4096)) (wpA c PE n es ds μ fun xs μ1 => P (.tup xs) μ1)
    | .List es _ => ifB (decide (es.length ≤ 4096)) (wpA c PE n es ds μ fun xs μ1 => P (.lst xs) μ1)
    | .BinOp a op b _ => wpE c PE n a ds μ fun x μ1 => wpE c PE n b ds μ1 fun y μ2 => binOk op x y fun z => P z μ2
    | .UnaryOp .Not a _ => wpE c PE n a ds μ fun x μ1 => truK x fun z => P (.bl (!z)) μ1
    | .UnaryOp .USub a _ => wpE c PE n a ds μ fun x μ1 => intK x fun i => P (.int (-i)) μ1
    | .BoolOp op vs _ => wpB c PE n op vs ds μ P
    | .Compare a [op] [b] _ => ifB (!(behindInMarks op b)) (wpE c PE n a ds μ fun x μ1 => wpE c PE n b ds μ1 fun y μ2 => cmpG c.o.eqs op x y μ2 fun z m => P (.bl z) m)
    | .Compare a [op, op'] [b, d] _ => ifB (!(lastMarks [op, op'] [b, d])) (wpE c PE n a ds μ fun x μ1 => wpE c PE n b ds μ1 fun y μ2 => cmpW op x y fun z => wIf z (wpE c PE n d ds μ2 fun w μ3 => cmpW op' y w fun z2 => P (.bl z2) μ3) (P (.bl false) μ2))
    | .IfExp t a b _ => wpT c PE n t ds μ fun z μ1 => wIf z (wpE c PE n a ds μ1 P) (wpE c PE n b ds μ1 P)
    | .Subscript a (.Slice lo hi none _) _ => wpE c PE n a ds μ fun x μ1 => wpO c PE n lo ds μ1 fun l μ2 => wpO c PE n hi ds μ2 fun u μ3 => slOk x l u fun z => P z μ3
    | .Subscript a b _ => ifB (plainIx b) (wpE c PE n a ds μ fun x μ1 => wpE c PE n b ds μ1 fun y μ2 => ixA μ2 x y fun z => P z μ2)
    | .JoinedStr [e] _ => wpE c PE n e ds μ P
    | .JoinedStr (e1 :: e2 :: es) _ => wpJ c PE n (e1 :: e2 :: es) ds μ Str.empty fun s m => P (.str s) m
    | .FormattedValue e cv none _ => ifB (decide (cv = -1)) (wpE c PE n e ds μ fun d m => fmtK d fun s => P (.str s) m)
    | .Attribute o f _ => match clsOf c o with
      | some (_, con, _) => match con.lookup f with
        | some d => P d μ
        | none => False
      | none => ifB (baseB o) (wpE c PE n o ds μ fun x μ1 => attrW f x μ1 PE P (c.o.a f))
    | .Call (.Attribute o m apos) es kws pos => ifB (es.all notStar && kws.all (·.arg.isSome) && decide (es.length + kws.length + (if kws.isEmpty then 0 else 1) < 30) && apos.endLine == pos.line) (match clsOf c o with
      | some (_, _, sta) => match sta.find? fun s => s.1 == m && s.2.1 == es.length && s.2.2.1 == kws.filterMap (·.arg) with
        | some s => wpA c PE n es ds μ fun xs μ1 => wpK c PE n kws ds μ1 fun zs μ2 => s.2.2.2 (xs ++ zs) μ2 P PE
        | none => False
      | none => ifB (baseB o) (match c.o.m m with
        | [] => match bnTab.lookup m, kws with
          | some b, [] => wpE c PE n o ds μ fun x μ1 => bnR b x μ1 ∧ wpA c PE n es ds μ1 fun xs μ2 => bnW b x xs μ2 P
          | _, _ => False
        | l => wpE c PE n o ds μ fun x μ1 => pickM m x μ1 (selM es.length (kws.filterMap (·.arg)) l) fun W => wpA c PE n es ds μ1 fun xs μ2 => wpK c PE n kws ds μ2 fun zs μ3 => W (x :: (xs ++ zs)) μ3 P PE))
    | .Call (.Name x _) es kws _ => ifB (okB x && gloB c.sc x && kws.all (·.arg.isSome)) (match c.g x with
      | some (.fn sh any) => match es.all notStar with
        | true => match sh.find? fun s => s.1 == es.length && s.2.1 == kws.filterMap (·.arg) with
          | some s => wpA c PE n es ds μ fun xs μ1 => wpK c PE n kws ds μ1 fun zs μ2 => s.2.2 (xs ++ zs) μ2 P PE
          | none => match any, kws with
            | some W, [] => wpA c PE n es ds μ fun xs μ1 => W xs μ1 P PE
            | _, _ => False
        | false => match any, kws with
          | some W, [] => ifB (argS es) (wpAS c PE n es ds μ fun xs μ1 => W xs μ1 P PE)
          | _, _ => False
      | some (.cls _ sh any _ _ _) => match es.all notStar with
        | true => match sh.find? fun s => s.1 == es.length && s.2.1 == kws.filterMap (·.arg) with
          | some s => wpA c PE n es ds μ fun xs μ1 => wpK c PE n kws ds μ1 fun zs μ2 => s.2.2 (xs ++ zs) μ2 P PE
          | none => match any, kws with
            | some W, [] => wpA c PE n es ds μ fun xs μ1 => W xs μ1 P PE
            | _, _ => False
        | false => match any, kws with
          | some W, [] => ifB (argS es) (wpAS c PE n es ds μ fun xs μ1 => W xs μ1 P PE)
          | _, _ => False
      | some (.ask tT q tab) => match es, kws with
        | [.Lambda params body scope _], [] => ifB (lamOk c.N c.sc params scope) (askT tT q μ ∧ wpE { c with sc := scope, g := noAsk c.g, mf := [] } (fun Ca fs m => askX tab Ca fs fun V => P V m) n body ds μ fun d m => P (.tup [.str "", d]) m)
        | _, _ => False
      | some .bt => ifB (kws.isEmpty && es.all notStar) (match bltTab.lookup x, es with
        | some .isi, [e, .Name t _] => ifB (okB t && gloB c.sc t && (ixOf t c.N).isNone) (match c.g t with
          | some .bt => match kitTab.lookup t with
            | some k => wpE c PE n e ds μ fun d μ1 => plainD d = true ∧ P (.bl (isB k d)) μ1
            | none => False
          | some (.cls _ _ _ _ _ iso) => wpE c PE n e ds μ fun d μ1 => isoW iso d μ1 fun b => P (.bl b) μ1
          | _ => False)
        | some .isi, [e, .Tuple [.Name t _, .Name t2 _] _ _] => ifB (okB t && gloB c.sc t && okB t2 && gloB c.sc t2) (match kitTab.lookup t, c.g t, kitTab.lookup t2, c.g t2 with
          | some k, some .bt, some k2, some .bt => wpE c PE n e ds μ fun d μ1 => plainD d = true ∧ P (.bl (isB k d || isB k2 d)) μ1
          | _, _, _, _ => False)
        | some b, e :: es => wpA c PE n (e :: es) ds μ fun xs μ1 => bltW c.o b xs μ1 P
        | _, _ => False)
      | _ => False)
    | .ListComp elt [⟨tg, iter, ifs, 0⟩] scope _ => ifB (blkC c.N c.sc scope (ownOf c.N scope)) (match xlB c with
      | false => wpI c PE (isTup tg) n iter ds μ fun xs μ1 =>
        lcW (fun x μ2 Q => wpG c.N scope ((ownOf c.N scope).map (·.2)) n tg x (wipeD ds ((ownOf c.N scope).map (·.2))) fun ds2 =>
          wpFs { c with sc := relS scope c.sc, g := noAsk c.g, mf := [] } noX n ifs ds2 μ2 (fun μ3 => wpE { c with sc := relS scope c.sc, g := noAsk c.g, mf := [] } noX n elt ds2 μ3 fun d μ4 => Q (some d) μ4) (fun μ3 => Q none μ3)) xs μ1 fun ys μ2 => P (.lst ys) μ2
      | true => wpI c PE (isTup tg) n iter ds μ fun xs μ1 =>
        lcX (fun L x μ2 Q => wpG c.N scope ((ownOf c.N scope).map (·.2)) n tg x (wipeD ds ((ownOf c.N scope).map (·.2))) fun ds2 =>
          wpFs { c with sc := relS scope c.sc, g := noAsk c.g, mf := [] } noX n ifs ds2 μ2 (fun μ3 => wpE { c with sc := relS scope c.sc, g := noAsk c.g, mf := [] } (xdel PE L) n elt ds2 μ3 fun d μ4 => Q (some d) μ4) (fun μ3 => Q none μ3)) xs μ1 fun ys μ2 => P (.lst ys) μ2)
    | _ => False
def wpA (c : Cfg) (PE : XP) : Nat → List Expr → DS → Mu → (List D → Mu → Prop) → Prop
  | 0, _, _, _, _ => False
  | n + 1, es, ds, μ, P => match es with
    | [] => P [] μ
    | e :: es => ifB (notStar e) (wpE c PE n e ds μ fun d μ1 => wpA c PE n es ds μ1 fun xs μ2 => P (d :: xs) μ2)
def wpAS (c : Cfg) (PE : XP) : Nat → List Expr → DS → Mu → (List D → Mu → Prop) → Prop
  | 0, _, _, _, _ => False
  | n + 1, es, ds, μ, P => match es with
    | [] => P [] μ
    | .Starred e _ :: es => wpE c PE n e ds μ fun d μ1 => seqK d fun ys => wpAS c PE n es ds μ1 fun xs μ2 => P (ys ++ xs) μ2
    | e :: es => wpE c PE n e ds μ fun d μ1 => wpAS c PE n es ds μ1 fun xs μ2 => P (d :: xs) μ2
def wpJ (c : Cfg) (PE : XP) : Nat → List Expr → DS → Mu → Str → (Str → Mu → Prop) → Prop
  | 0, _, _, _, _, _ => False
  | n + 1, es, ds, μ, acc, P => match es with
    | [] => P acc μ
    | e :: es => wpE c PE n e ds μ fun d μ1 => strK d fun y => (acc ++ y).length ≤ sizeLine ∧ wpJ c PE n es ds μ1 (acc ++ y) P
def wpK (c : Cfg) (PE : XP) : Nat → List Keyword → DS → Mu → (List D → Mu → Prop) → Prop
  | 0, _, _, _, _ => False
  | n + 1, es, ds, μ, P => match es with
    | [] => P [] μ
    | ⟨_, e, _⟩ :: es => wpE c PE n e ds μ fun d μ1 => wpK c PE n es ds μ1 fun xs μ2 => P (d :: xs) μ2
def wpO (c : Cfg) (PE : XP) : Nat → Option Expr → DS → Mu → (Option Int → Mu → Prop) → Prop
  | 0, _, _, _, _ => False
  | n + 1, e, ds, μ, P => match e with
    | none => P none μ
    | some e => wpE c PE n e ds μ fun d μ1 => intK d fun i => P (some i) μ1
def wpB (c : Cfg) (PE : XP) : Nat → BoolOp → List Expr → DS → Mu → DP → Prop
  | 0, _, _, _, _, _ => False
  | n + 1, op, vs, ds, μ, P => match op, vs with
    | _, [a] => wpE c PE n a ds μ P
    | .And, a :: b :: l => wpE c PE n a ds μ fun x μ1 => truK x fun z => wIf z (wpB c PE n .And (b :: l) ds μ1 P) (P x μ1)
    | .Or, a :: b :: l => wpE c PE n a ds μ fun x μ1 => truK x fun z => wIf z (P x μ1) (wpB c PE n .Or (b :: l) ds μ1 P)
    | _, _ => False
def wpT (c : Cfg) (PE : XP) : Nat → Expr → DS → Mu → (Bool → Mu → Prop) → Prop
  | 0, _, _, _, _ => False
  | n + 1, e, ds, μ, P => match e with
    | .UnaryOp .Not a _ => wpT c PE n a ds μ fun z μ1 => P (!z) μ1
    | .BoolOp op vs _ => wpBT c PE n op vs ds μ P
    | .Compare a [op] [b] _ => ifB (!(behindInMarks op b)) (wpE c PE n a ds μ fun x μ1 => wpE c PE n b ds μ1 fun y μ2 => cmpG c.o.eqs op x y μ2 P)
    | .Compare a [op, op'] [b, d] _ => ifB (!(lastMarks [op, op'] [b, d])) (wpE c PE n a ds μ fun x μ1 => wpE c PE n b ds μ1 fun y μ2 => cmpW op x y fun z => wIf z (wpE c PE n d ds μ2 fun w μ3 => cmpW op' y w fun z2 => P z2 μ3) (P false μ2))
    | .Compare _ _ _ _ => False
    | .IfExp _ _ _ _ => False
    | .UnaryOp _ _ _ => False
    | e => wpE c PE n e ds μ fun x μ1 => truK x fun z => P z μ1
def wpBT (c : Cfg) (PE : XP) : Nat → BoolOp → List Expr → DS → Mu → (Bool → Mu → Prop) → Prop
  | 0, _, _, _, _, _ => False
  | n + 1, op, vs, ds, μ, P => match op, vs with
    | _, [a] => wpT c PE n a ds μ P
    | .And, a :: b :: l => wpT c PE n a ds μ fun z μ1 => wIf z (wpBT c PE n .And (b :: l) ds μ1 P) (P false μ1)
    | .Or, a :: b :: l => wpT c PE n a ds μ fun z μ1 => wIf z (P true μ1) (wpBT c PE n .Or (b :: l) ds μ1 P)
    | _, _ => False
def wpFs (c : Cfg) (PE : XP) : Nat → List Expr → DS → Mu → (Mu → Prop) → (Mu → Prop) → Prop
  | 0, _, _, _, _, _ => False
  | n + 1, es, ds, μ, A, B => match es with
    | [] => A μ
    | [e] => wpT c PE n e ds μ fun z μ1 => wIf z (A μ1) (B μ1)
    | _ => False
def wpI (c : Cfg) (PE : XP) (tt : Bool) : Nat → Expr → DS → Mu → (List D → Mu → Prop) → Prop
  | 0, _, _, _, _ => False
  | n + 1, e, ds, μ, P => match e with
    | .Call (.Name x p) es kws pos => match itTab.lookup x, es, kws with
      | some .range, [a], [] => ifB (gloB c.sc x && notStar a) (match c.g x with
        | some .bt => wpE c PE n a ds μ fun d μ1 => intK d fun j => (-(2 ^ 62) ≤ j ∧ j < 2 ^ 62) ∧ P (rngD 0 j.toNat) μ1
        | _ => False)
      | some .range, [a, b], [] => ifB (gloB c.sc x && notStar a && notStar b) (match c.g x with
        | some .bt => wpE c PE n a ds μ fun d μ1 => wpE c PE n b ds μ1 fun d2 μ2 => intK d fun i => intK d2 fun j => (-(2 ^ 62) ≤ i ∧ i < 2 ^ 62 ∧ -(2 ^ 62) ≤ j ∧ j < 2 ^ 62) ∧ P (rngD i (j - i).toNat) μ2
        | _ => False)
      | some .enum, [a], [] => ifB (gloB c.sc x && notStar a && tt) (match c.g x with
        | some .bt => wpE c PE n a ds μ fun d μ1 => seqK d fun xs => P (enumD xs) μ1
        | _ => False)
      | some .zip, [a, b], [] => ifB (gloB c.sc x && notStar a && notStar b && tt) (match c.g x with
        | some .bt => wpE c PE n a ds μ fun d μ1 => wpE c PE n b ds μ1 fun d2 μ2 => seqK d fun xs => seqK d2 fun ys => P (zipD xs ys) μ2
        | _ => False)
      | _, _, _ => wpE c PE n (.Call (.Name x p) es kws pos) ds μ fun d μ1 => itemsK d fun xs => P xs μ1
    | .Set _ _ _ => False
    | e => wpE c PE n e ds μ fun d μ1 => itemsK d fun xs => P xs μ1
end
end Hw
set_option Elab.async false
set_option linter.all false
set_option maxRecDepth 100000
set_option maxHeartbeats 4000000
namespace Hw
open PySem L2 PyProof.Rows
/-- what is known of instances is so -/
structure OTok (P : Program) (w : World) (K : PySem.W.Frag) (mg : Str → Option Value) (base : Heap) (k : Nat) (o : OT) : Prop where
  a : ∀ f, ∀ ae ∈ o.a f, AEok P w K mg base k f ae
  fs : ∀ f, ∀ C ∈ o.fs f, Cls K C ∧ NoAttr K C f
  m : ∀ m, ∀ e ∈ o.m m, MEok P w K mg base k m e
  eqs : ∀ e ∈ o.eqs, ∀ C ∈ e.Cs, EqOk P w K mg base k e C
  lens : ∀ e ∈ o.lens, SEok P w K mg base k 1 "__len__" e
  reps : ∀ e ∈ o.reps, SEok P w K mg base k 1 "__repr__" e
  bools : ∀ e ∈ o.bools, ∃ j, j + 1 ≤ k ∧ SEok P w K mg base j 1 "__bool__" e
theorem OTok.none {P : Program} {w : World} {K : PySem.W.Frag} {mg : Str → Option Value} {base : Heap} {k : Nat} : OTok P w K mg base k {} := ⟨fun _ _ h => (by cases h), fun _ _ h => (by cases h), fun _ _ h => (by cases h), fun _ h => (by cases h), fun _ h => (by cases h), fun _ h => (by cases h), fun _ h => (by cases h)⟩
/-- the ways of calling x -/
structure CallOk (X : Cx) (x : Str) (sh : List (Nat × List Str × CT)) (any : Option CT) : Prop where
  sh : ∀ s ∈ sh, ∃ k, Rm k X.A ∧ CalG X.prog X.w X.K X.mg X.base x k s.1 s.2.1 s.2.2
  any : ∀ W, any = some W → ∃ k, Rm k X.A ∧ ∀ n, CalG X.prog X.w X.K X.mg X.base x k n [] W
structure ClsOk (X : Cx) (x : Str) (C : Addr) (con : List (Str × D)) (sta : List (Str × Nat × List Str × CT)) (iso : List (Addr × Bool)) : Prop where
  at_ : X.mg x = some (.ref C)
  con : ∀ f d, con.lookup f = some d → CConst X.K C f d
  sta : ∀ s ∈ sta, ∃ g k, CSta X.K C s.1 g ∧ Rm k X.A ∧ RunA X.prog X.w X.K X.mg X.base g k s.2.1 s.2.2.1 s.2.2.2
  iso : IsoOk X.K C iso
/-- the context is the one that c tells -/
structure CxOk0 (c : Cfg) (X : Cx) : Prop where
  N : X.N = c.N
  nd : X.N.Nodup
  sc : X.env.scope = c.sc
  calm : X.calm = true
  rm : ∃ k, Rm k X.A
  gfn : ∀ x sh any, c.g x = some (.fn sh any) → CallOk X x sh any
  gcl : ∀ x C sh any con sta iso, c.g x = some (.cls C sh any con sta iso) → CallOk X x sh any ∧ ClsOk X x C con sta iso
  ot : ∃ k, Rm (k + 1) X.A ∧ OTok X.prog X.w X.K X.mg X.base k c.o
  gbt : ∀ x, c.g x = some .bt → X.mg x = none
  gcs : ∀ x d, c.g x = some (.cst d) → ∃ v u, X.mg x = some u ∧ RelV v u ∧ ∀ μ H, Den X.K μ H v d
  kit : ∀ t k, kitTab.lookup t = some k → c.g t = some .bt → SubTab X.K k
  fr : xlB c = true → X.stack = X.env :: X.outer ∧ X.env.frame = some X.env.locals
structure CxOk (c : Cfg) (X : Cx) : Prop extends CxOk0 c X where
  ask : ∀ x tT q tab, c.g x = some (.ask tT q tab) → gloB c.sc x = true → ∀ {PE PEb : XP} {μ : Mu} {ds : DS} {P Pb : DP} {params : Arguments} {body : Expr} {scope : Scope} {p lpos pos : Pos}, lamOk c.N c.sc params scope = true → askT tT q μ →
    (∀ X', CxOk0 { c with sc := scope, g := noAsk c.g, mf := [] } X' → EX X' PEb μ ds body Pb) → (∀ d m, Pb d m → P (.tup [.str "", d]) m) → (∀ Ca fs m, PEb Ca fs m → askX tab Ca fs fun V => P V m) → EX X PE μ ds (.Call (.Name x p) [.Lambda params body scope lpos] [] pos) P
theorem noAsk_some {g : Str → Option GI} {x : Str} {i : GI} (h : noAsk g x = some i) : g x = some i := by
  unfold noAsk at h
  split at h
  · cases h
  · exact h
theorem noAsk_ask {g : Str → Option GI} {x : Str} {tT : Addr} {q : Str} {tab : List (Str × Str × Addr)} (h : noAsk g x = some (.ask tT q tab)) : False := by
  unfold noAsk at h
  split at h
  · cases h
  · next q => exact q _ _ _ h
theorem CxOk0.ok {c : Cfg} {X : Cx} (h : CxOk0 { c with g := noAsk c.g, mf := [] } X) : CxOk { c with g := noAsk c.g, mf := [] } X := ⟨h, fun x tT q tab h _ => (noAsk_ask h).elim⟩
theorem CxOk.units {c : Cfg} {X : Cx} (h : CxOk c X) : X.A.units + 64 < cLine := by
  obtain ⟨k, r⟩ := h.rm
  exact r.r.units
theorem CxOk.blk {c : Cfg} {X X' : Cx} {scope : Scope} (h : CxOk c X) (hb : Blk X scope X') : CxOk { c with sc := relS scope c.sc, g := noAsk c.g, mf := [] } X' := by
  obtain ⟨s, H, C, cl, fp, rfl⟩ := hb
  refine CxOk0.ok (c := { c with sc := relS scope c.sc }) ⟨h.N, h.nd, ?_, h.calm, h.rm, fun x sh any q => ⟨(h.gfn x sh any (noAsk_some q)).sh, (h.gfn x sh any (noAsk_some q)).any⟩, fun x C sh any con sta iso q => ⟨⟨(h.gcl x C sh any con sta iso (noAsk_some q)).1.sh, (h.gcl x C sh any con sta iso (noAsk_some q)).1.any⟩, ⟨(h.gcl x C sh any con sta iso (noAsk_some q)).2.at_, (h.gcl x C sh any con sta iso (noAsk_some q)).2.con, (h.gcl x C sh any con sta iso (noAsk_some q)).2.sta, (h.gcl x C sh any con sta iso (noAsk_some q)).2.iso⟩⟩, h.ot, fun x q => h.gbt x (noAsk_some q), fun x d q => h.gcs x d (noAsk_some q), fun t k q q2 => h.kit t k q (noAsk_some q2), fun q => by cases q⟩
  show relS scope X.env.scope = relS scope c.sc
  rw [h.sc]
theorem CxOk.blkX {c : Cfg} {X X' : Cx} {scope : Scope} (h : CxOk c X) (hb : BlkX X scope X') : CxOk { c with sc := relS scope c.sc, g := noAsk c.g, mf := [] } X' := by
  obtain ⟨s, H, C, cl, fp, xe, rfl, _⟩ := hb
  have b : CxOk { c with sc := relS scope c.sc, g := noAsk c.g, mf := [] } (X.blk s H scope (compEnvC scope cl C X.env) fp) := h.blk ⟨s, H, C, cl, fp, rfl⟩
  exact CxOk0.ok (c := { c with sc := relS scope c.sc }) ⟨b.N, b.nd, b.sc, b.calm, b.rm, fun x sh any q => ⟨(b.gfn x sh any q).sh, (b.gfn x sh any q).any⟩, fun x C sh any con sta iso q => ⟨⟨(b.gcl x C sh any con sta iso q).1.sh, (b.gcl x C sh any con sta iso q).1.any⟩, ⟨(b.gcl x C sh any con sta iso q).2.at_, (b.gcl x C sh any con sta iso q).2.con, (b.gcl x C sh any con sta iso q).2.sta, (b.gcl x C sh any con sta iso q).2.iso⟩⟩, b.ot, b.gbt, b.gcs, b.kit, fun q => by cases q⟩
theorem ixOf_some {x : Str} : ∀ {N : List Str} {i : Nat}, ixOf x N = some i → N[i]? = some x
  | [], _, h => by cases h
  | y :: ys, i, h => by
    unfold ixOf at h
    split at h
    · next e =>
      cases h
      rw [of_decide_eq_true e]; rfl
    · split at h
      · next j e =>
        cases h
        have ih := ixOf_some e
        simpa using ih
      · cases h
theorem visB_iff {sc : Scope} {x : Str} (h : visB sc x = true) : Vis sc x := by
  unfold visB at h
  unfold Vis
  split at h
  · next e => exact .inl e
  · next e => exact .inr (.inl e)
  · next e => exact .inr (.inr e)
  · cases h
theorem locB_iff {sc : Scope} {x : Str} (h : locB sc x = true) : L2.Loc sc x := by
  unfold locB at h
  unfold L2.Loc
  split at h
  · next e => exact .inl e
  · next e => exact .inr e
  · cases h
theorem gloB_iff {sc : Scope} {x : Str} (h : gloB sc x = true) : sc.names.lookup x = some .globalImplicit := by
  unfold gloB at h
  split at h
  · assumption
  · cases h
theorem ifB_elim {b : Bool} {A : Prop} (h : ifB b A) : b = true ∧ A := ifB_iff.mp h
theorem okB_elim {x : Str} (h : okB x = true) : (x == ("__debug__" : Str)) = false ∧ (x == ("__classdict__" : Str)) = false ∧ x ≠ "__name__" := by
  unfold okB at h
  simp only [Bool.and_eq_true, Bool.not_eq_true'] at h
  exact ⟨h.1.1, h.1.2, fun e => by rw [e] at h; simp at h⟩
theorem dsGet_elim {ds : DS} {i : Nat} {K : D → Prop} (h : dsGet ds i K) : ∃ d, ds[i]? = some (some d) ∧ K d := by
  unfold dsGet at h
  split at h
  · exact ⟨_, by assumption, h⟩
  · exact h.elim
theorem plainIx_ok {b : Expr} (h : plainIx b = true) : PlainIx b := by
  cases b <;> first | (intro _ _; rfl) | cases h
theorem CxOk.gl {c : Cfg} {X : Cx} {x : Str} (h : CxOk c X) (g : gloB c.sc x = true) : Gl X x := by
  show X.env.scope.names.lookup x = _
  rw [h.sc]
  exact gloB_iff g
/-! ### targets in a block -/
theorem ownIn {own : List Nat} {i : Nat} (h : own.contains i = true) : i ∈ own := by simpa using h
theorem assignLen : ∀ {ts : List Expr} {env : Env}, ts.all notStar = true → (assignEach ts env).length = ts.length ∧ (assignEach ts env).findIdx? (·.1) = none ∧ (assignEach ts env).map (·.2) = ts.map fun t => assign t env := by
  intro ts env h
  induction ts with
  | nil => exact ⟨rfl, rfl, rfl⟩
  | cons t ts ih =>
    rw [List.all_cons, Bool.and_eq_true] at h
    obtain ⟨h1, h2, h3⟩ := ih h.2
    have e : assignEach (t :: ts) env = (false, assign t env) :: assignEach ts env := by
      cases t <;> first | rfl | cases h.1
    rw [e]
    refine ⟨by simp [h1], ?_, by simp [h3]⟩
    simpa [List.findIdx?_cons] using h2
theorem lookup_mapV {f : Str → NameKind → NameKind} {x : Str} : ∀ {l : List (Str × NameKind)}, (l.map fun p => (p.1, f p.1 p.2)).lookup x = (l.lookup x).map (f x)
  | [] => rfl
  | (n, k) :: l => by
    have ih := lookup_mapV (f := f) (x := x) (l := l)
    rw [List.map_cons, List.lookup_cons, List.lookup_cons]
    cases hb : x == n with
    | true =>
      have e : x = n := by simpa using hb
      subst e
      rfl
    | false => exact ih
theorem relS_look {scope sc : Scope} {x : Str} : (relS scope sc).names.lookup x = (scope.names.lookup x).map fun k => if (k == .free && sc.kind == .function && sc.names.lookup x == some .cell) then NameKind.cell else k := by
  rw [← lookup_mapV (f := fun x k => if (k == .free && sc.kind == .function && sc.names.lookup x == some .cell) then NameKind.cell else k)]
  show List.lookup x (List.map _ scope.names) = _
  congr 1
  refine List.map_congr_left fun p hp => ?_
  obtain ⟨n, k⟩ := p
  show (if _ then _ else _) = _
  split
  · rfl
  · rfl
theorem relS_loc {scope sc : Scope} {x : Str} (h : L2.Loc scope x) : L2.Loc (relS scope sc) x ∧ ((scope.names.lookup x == some .cell) = true ∨ (relS scope sc).names.lookup x = some .local) := by
  have e := relS_look (scope := scope) (sc := sc) (x := x)
  rcases h with h | h
  · rw [h] at e
    exact ⟨.inl e, .inr e⟩
  · rw [h] at e
    exact ⟨.inr e, .inl (by rw [h]; rfl)⟩
theorem intK_elim {d : D} {K : Int → Prop} (h : intK d K) : ∃ i, d = .int i ∧ K i := by
  cases d <;> first | exact ⟨_, rfl, h⟩ | exact h.elim
theorem tupK_elim {d : D} {K : List D → Prop} (h : tupK d K) : ∃ i, d = .tup i ∧ K i := by
  cases d <;> first | exact ⟨_, rfl, h⟩ | exact h.elim
theorem nilK_elim {d : List D} {K : Prop} (h : nilK d K) : d = [] ∧ K := by
  cases d <;> first | exact ⟨rfl, h⟩ | exact h.elim
theorem wpG_has {N : List Str} {sc : Scope} {own : List Nat} : ∀ n, (∀ {tg : Expr} {d : D} {ds : DS} {R : DS → Prop}, wpG N sc own n tg d ds R → ∃ s, R s) ∧ (∀ {ts : List Expr} {xs : List D} {ds : DS} {R : DS → Prop}, wpGs N sc own n ts xs ds R → (∃ s, R s) ∧ xs.length = ts.length)
  | 0 => ⟨fun h => by simp [wpG] at h, fun h => by simp [wpGs] at h⟩
  | n + 1 => by
    obtain ⟨ih, ihs⟩ := wpG_has (N := N) (sc := sc) (own := own) n
    refine ⟨fun {tg d ds R} h => ?_, fun {ts xs ds R} h => ?_⟩
    · cases tg with
      | Name x p =>
        simp only [wpG] at h
        split at h
        · exact ⟨_, (ifB_elim h).2⟩
        · exact h.elim
      | Tuple ts k p =>
        simp only [wpG] at h
        obtain ⟨xs, rfl, h⟩ := tupK_elim h
        exact (ihs (ifB_elim h).2).1
      | _ => simp [wpG] at h
    · cases ts with
      | nil =>
        simp only [wpGs] at h
        obtain ⟨rfl, h⟩ := nilK_elim h
        exact ⟨⟨_, h⟩, rfl⟩
      | cons t ts =>
        cases xs with
        | nil => simp [wpGs, consK] at h
        | cons x xs =>
          simp only [wpGs, consK] at h
          obtain ⟨s, h2⟩ := ih h
          obtain ⟨h3, h4⟩ := ihs h2
          exact ⟨h3, congrArg (· + 1) h4⟩
/-- stored names of a block -/
def wpGsnd (n : Nat) : Prop := ∀ {c : Cfg} {X X' : Cx} {scope : Scope} {own : List Nat} {tg : Expr} {d : D} {ds : DS} {μ : Mu} {R : DS → Prop}, CxOk c X → Blk X scope X' → wpG c.N scope own n tg d ds R → GCX X' μ ds own tg d R
theorem GCX.imp {X : Cx} {own : List Nat} {tg : Expr} {d : D} {ds : DS} {μ : Mu} {R R' : DS → Prop} (x : GCX X μ ds own tg d R) (h : ∀ s, R s → R' s) : GCX X μ ds own tg d R' := ⟨⟨fun pins s σ H v u Q I r ⟨a, b, c, k⟩ => x.pg.run pins s σ H v u Q I r ⟨a, b, c, fun σ' ds' w d r => k σ' ds' w d (h _ r)⟩⟩⟩
def wpGssnd (n : Nat) : Prop := ∀ {c : Cfg} {X X' : Cx} {scope : Scope} {own : List Nat} {ts : List Expr} {xs : List D} {ds : DS} {μ : Mu} {R : DS → Prop}, CxOk c X → Blk X scope X' → ts.all notStar = true → wpGs c.N scope own n ts xs ds R → GCSX X' μ ds own ts xs R
theorem wpG_ok : ∀ n, wpGsnd n ∧ wpGssnd n
  | 0 => ⟨fun {_ _ _ _ _ _ _ _ _ _} _ _ h => by simp [wpG] at h, fun {_ _ _ _ _ _ _ _ _ _} _ _ _ h => by simp [wpGs] at h⟩
  | n + 1 => by
    obtain ⟨ih, ihs⟩ := wpG_ok n
    refine ⟨fun {c X X' scope own tg d ds μ R} hx hb h => ?_, fun {c X X' scope own ts xs ds μ R} hx hb hst h => ?_⟩
    · have hx' := hx.blk hb
      cases tg with
      | Name x p =>
        simp only [wpG] at h
        split at h
        · next i hi =>
          obtain ⟨h1, h2⟩ := ifB_elim h
          rw [Bool.and_eq_true] at h1
          have hl := relS_loc (sc := c.sc) (locB_iff h1.1)
          have hsc : X'.env.scope = relS scope c.sc := hx'.sc
          refine gc_nm i h2 (ownIn h1.2) hx'.nd (by rw [hx'.N]; exact ixOf_some hi) (by rw [hsc]; exact hl.1) (by
            rw [hsc]
            refine hl.2.imp_left fun q => ?_
            obtain ⟨s, H, C, cl, fp, rfl⟩ := hb
            exact q)
        · exact h.elim
      | Tuple ts k p =>
        simp only [wpG] at h
        obtain ⟨xs, rfl, h⟩ := tupK_elim h
        obtain ⟨h1, h2⟩ := ifB_elim h
        have ha := assignLen (env := X'.env) h1
        exact gc_tup (ihs hx hb h1 h2) hx'.calm ((wpG_has n).2 h2).2 ha.1 ha.2.1
      | _ => simp [wpG] at h
    · cases ts with
      | nil =>
        simp only [wpGs] at h
        obtain ⟨rfl, h⟩ := nilK_elim h
        exact gcs_nil h
      | cons t ts =>
        cases xs with
        | nil => simp [wpGs, consK] at h
        | cons x xs =>
          simp only [wpGs, consK] at h
          have hst2 := hst
          rw [List.all_cons, Bool.and_eq_true] at hst
          refine gcs_cons ((ih hx hb h).imp fun ds1 h1 => ihs hx hb hst.2 h1) ?_
          rw [(assignLen hst2).2.2, (assignLen hst.2).2.2]
          rfl
end Hw
set_option Elab.async false
set_option linter.all false
set_option maxRecDepth 100000
set_option maxHeartbeats 8000000
namespace Hw
open PySem L2 PyProof.Rows
theorem AX.imp {X : Cx} {PE : XP} {es : List Expr} {μ : Mu} {ds : DS} {P P' : List D → Mu → Prop} (x : AX X PE μ ds es P) (h : ∀ d m, P d m → P' d m) : AX X PE μ ds es P' := ⟨pa_imp x.pa fun σ H Q ⟨a, b, c⟩ => ⟨a, b, fun v H' xs μ' s h1 n p => c v H' xs μ' s h1 n (h xs μ' p)⟩⟩
theorem KX.imp {X : Cx} {PE : XP} {es : List Keyword} {μ : Mu} {ds : DS} {P P' : List D → Mu → Prop} (x : KX X PE μ ds es P) (h : ∀ d m, P d m → P' d m) : KX X PE μ ds es P' :=
  ⟨⟨fun po pins s σ H Q I ⟨a, b, c⟩ => x.pk.run po pins s σ H Q I ⟨a, b, fun v H' xs μ' s h1 n p => c v H' xs μ' s h1 n (h xs μ' p)⟩⟩⟩
theorem OX.imp {X : Cx} {PE : XP} {e : Option Expr} {μ : Mu} {ds : DS} {P P' : Option Int → Mu → Prop} (x : OX X PE μ ds e P) (h : ∀ d m, P d m → P' d m) : OX X PE μ ds e P' :=
  ⟨⟨fun pins s σ H Q I ⟨a, b, c⟩ => x.po.run pins s σ H Q I ⟨a, b, fun v H' μ' s h1 p => c v H' μ' s h1 (h v μ' p)⟩⟩⟩
theorem TW.imp {X : Cx} {PE : XP} {e : Expr} {μ : Mu} {ds : DS} {P P' : Bool → Mu → Prop} (x : TW X PE μ ds e P) (h : ∀ d m, P d m → P' d m) : TW X PE μ ds e P' :=
  ⟨pw_imp x.pw fun σ H Q ⟨a, b, c⟩ => ⟨a, b, fun v H' μ' s h1 p => c v H' μ' s h1 (h v μ' p)⟩⟩
theorem TsX.imp {X : Cx} {PE : XP} {e : List Expr} {μ : Mu} {ds : DS} {P P' : Bool → Mu → Prop} (x : TsX X PE μ ds e P) (h : ∀ d m, P d m → P' d m) : TsX X PE μ ds e P' :=
  ⟨⟨fun pins s σ H Q I ⟨a, b, c⟩ => x.pts.run pins s σ H Q I ⟨a, b, fun v H' μ' s h1 p => c v H' μ' s h1 (h v μ' p)⟩⟩⟩
theorem IX.imp {X : Cx} {PE : XP} {tg iter : Expr} {μ : Mu} {ds : DS} {P P' : List D → Mu → Prop} (x : IX X PE μ ds tg iter P) (h : ∀ d m, P d m → P' d m) : IX X PE μ ds tg iter P' := ex_lcF.ix_imp x h
theorem wIf_imp {z : Bool} {A A' B B' : Prop} (h : wIf z A B) (f : A → A') (g : B → B') : wIf z A' B' := ⟨fun e => f (h.1 e), fun e => g (h.2 e)⟩
theorem truK_imp {d : D} {P P' : Bool → Prop} (h : truK d P) (f : ∀ z, P z → P' z) : truK d P' := by
  cases d <;> first | exact f _ h | exact h
theorem cmpOk_imp {op : CmpOp} {x y : D} {P P' : Bool → Prop} (h : cmpOk op x y P) (f : ∀ z, P z → P' z) : cmpOk op x y P' := by
  unfold cmpOk at h ⊢
  split at h <;> first | exact f _ h | exact ⟨h.1, h.2.1, h.2.2.1, f _ h.2.2.2⟩ | exact ⟨h.1, h.2.1, f _ h.2.2⟩ | (obtain ⟨c, e, p⟩ := h; exact ⟨c, e, f _ p⟩) | exact h.elim
theorem cmpW_imp {op : CmpOp} {x y : D} {P P' : Bool → Prop} (h : cmpW op x y P) (f : ∀ z, P z → P' z) : cmpW op x y P' := by
  cases op with
  | Eq =>
    simp only [cmpW] at h ⊢
    cases e : scal2 x y
    · simp only [e] at h ⊢; exact ⟨h.1, f _ h.2⟩
    · simp only [e] at h ⊢; exact f _ h
  | NotEq =>
    simp only [cmpW] at h ⊢
    cases e : scal2 x y
    · simp only [e] at h ⊢; exact ⟨h.1, f _ h.2⟩
    · simp only [e] at h ⊢; exact f _ h
  | _ => exact cmpOk_imp (by exact h) f
theorem itemsK_imp {d : D} {P P' : List D → Prop} (h : itemsK d P) (f : ∀ z, P z → P' z) : itemsK d P' := by
  cases d <;> first | exact f _ h | exact h
/-- what the reckoning promises -/
structure Snd (n : Nat) : Prop where
  E : ∀ {c : Cfg} {X : Cx} {PE : XP} {e : Expr} {ds : DS} {μ : Mu} {P : DP}, CxOk c X → wpE c PE n e ds μ P → EX X PE μ ds e P
  A : ∀ {c : Cfg} {X : Cx} {PE : XP} {es : List Expr} {ds : DS} {μ : Mu} {P : List D → Mu → Prop}, CxOk c X → wpA c PE n es ds μ P → AX X PE μ ds es fun xs m => xs.length = es.length ∧ P xs m
  K : ∀ {c : Cfg} {X : Cx} {PE : XP} {es : List Keyword} {ds : DS} {μ : Mu} {P : List D → Mu → Prop}, CxOk c X → wpK c PE n es ds μ P → KX X PE μ ds es fun xs m => xs.length = es.length ∧ P xs m
  O : ∀ {c : Cfg} {X : Cx} {PE : XP} {e : Option Expr} {ds : DS} {μ : Mu} {P : Option Int → Mu → Prop}, CxOk c X → wpO c PE n e ds μ P → OX X PE μ ds e P
  B : ∀ {c : Cfg} {X : Cx} {PE : XP} {op : BoolOp} {vs : List Expr} {pos : Pos} {ds : DS} {μ : Mu} {P : DP}, CxOk c X → wpB c PE n op vs ds μ P → EX X PE μ ds (.BoolOp op vs pos) P
  T : ∀ {c : Cfg} {X : Cx} {PE : XP} {e : Expr} {ds : DS} {μ : Mu} {P : Bool → Mu → Prop}, CxOk c X → wpT c PE n e ds μ P → TX X PE μ ds e P
  BT : ∀ {c : Cfg} {X : Cx} {PE : XP} {op : BoolOp} {vs : List Expr} {pos : Pos} {ds : DS} {μ : Mu} {P : Bool → Mu → Prop}, CxOk c X → wpBT c PE n op vs ds μ P → TW X PE μ ds (.BoolOp op vs pos) P
  Fs : ∀ {c : Cfg} {X : Cx} {PE : XP} {es : List Expr} {ds : DS} {μ : Mu} {A B : Mu → Prop}, CxOk c X → wpFs c PE n es ds μ A B → TsX X PE μ ds es fun z m => wIf z (A m) (B m)
  I : ∀ {c : Cfg} {X : Cx} {PE : XP} {tg e : Expr} {ds : DS} {μ : Mu} {P : List D → Mu → Prop}, CxOk c X → wpI c PE (isTup tg) n e ds μ P → IX X PE μ ds tg e P
  AS : ∀ {c : Cfg} {X : Cx} {PE : XP} {es : List Expr} {ds : DS} {μ : Mu} {P : List D → Mu → Prop}, CxOk c X → wpAS c PE n es ds μ P → AX X PE μ ds es P ∧ (argS es = true → ArgSX X PE μ ds es P)
  J : ∀ {c : Cfg} {X : Cx} {PE : XP} {es : List Expr} {ds : DS} {μ : Mu} {acc : Str} {P : Str → Mu → Prop}, CxOk c X → wpJ c PE n es ds μ acc P → JX X PE μ ds es acc P
section
variable {n : Nat} (S : Snd n) {c : Cfg} {X : Cx} {PE : XP} {e : Expr} {es : List Expr} {ds : DS} {μ : Mu} (hx : CxOk c X)
include S hx
theorem Snd.sA {P : List D → Mu → Prop} (h : wpA c PE (n + 1) es ds μ P) : AX X PE μ ds es fun xs m => xs.length = es.length ∧ P xs m := by
  cases es with
  | nil => simp only [wpA] at h; exact ax_nil ⟨rfl, h⟩
  | cons e es =>
    simp only [wpA] at h
    obtain ⟨h1, h2⟩ := ifB_elim h
    exact ax_cons ((S.E hx h2).imp fun d m h3 => (S.A hx h3).imp fun xs m2 q => ⟨congrArg (· + 1) q.1, q.2⟩) (star1 h1)
theorem Snd.sAS {P : List D → Mu → Prop} (h : wpAS c PE (n + 1) es ds μ P) : AX X PE μ ds es P ∧ (argS es = true → ArgSX X PE μ ds es P) := by
  cases es with
  | nil => simp only [wpAS] at h; exact ⟨ax_nil h, fun q => by cases q⟩
  | cons e es =>
    cases he : notStar e with
    | true =>
      have h' : wpE c PE n e ds μ fun d μ1 => wpAS c PE n es ds μ1 fun xs μ2 => P (d :: xs) μ2 := by cases e <;> first | (cases he; done) | (simpa only [wpAS] using h)
      have z : AX X PE μ ds (e :: es) P := ax_cons ((S.E hx h').imp fun d m h3 => (S.AS hx h3).1) (star1 he)
      exact ⟨z, fun q => by cases e <;> first | (cases he; done) | exact z⟩
    | false =>
      cases e with
      | Starred e p =>
        simp only [wpAS] at h
        have hE := S.E hx h
        have e1 : ∀ {d : D} {R : List D → Prop}, seqK d R → ∃ ys, (d = .tup ys ∨ d = .lst ys ∨ d = .rol ys) ∧ R ys := fun {d R} q => by cases d <;> first | exact ⟨_, .inl rfl, q⟩ | exact ⟨_, .inr (.inl rfl), q⟩ | exact ⟨_, .inr (.inr rfl), q⟩ | exact q.elim
        refine ⟨ax_star (hE.imp fun d m q => ?_), fun q => ?_⟩
        · obtain ⟨ys, h1, h2⟩ := e1 q
          exact ⟨ys, h1, (S.AS hx h2).1⟩
        · have : es = [] := by
            cases es with
            | nil => rfl
            | cons a b => simp [argS, notStar] at q
          subst this
          refine EX.imp hE fun d m q => ?_
          cases d <;> first | exact q.elim | skip
          all_goals
            cases n with
            | zero => simp [seqK, wpAS] at q
            | succ n => simpa [seqK, wpAS] using q
      | _ => cases he
theorem Snd.sJ {acc : Str} {P : Str → Mu → Prop} (h : wpJ c PE (n + 1) es ds μ acc P) : JX X PE μ ds es acc P := by
  cases es with
  | nil => simp only [wpJ] at h; exact jx_nil h
  | cons e es =>
    simp only [wpJ] at h
    refine jx_cons ((S.E hx h).imp fun d m q => ?_)
    cases d <;> first | exact ⟨q.1, S.J hx q.2⟩ | exact q.elim
theorem Snd.sK {es : List Keyword} {P : List D → Mu → Prop} (h : wpK c PE (n + 1) es ds μ P) : KX X PE μ ds es fun xs m => xs.length = es.length ∧ P xs m := by
  cases es with
  | nil => simp only [wpK] at h; exact kx_nil ⟨rfl, h⟩
  | cons e es =>
    obtain ⟨nm, e, p⟩ := e
    simp only [wpK] at h
    exact kx_cons ((S.E hx h).imp fun d m h3 => (S.K hx h3).imp fun xs m2 q => ⟨congrArg (· + 1) q.1, q.2⟩)
theorem Snd.sO {e : Option Expr} {P : Option Int → Mu → Prop} (h : wpO c PE (n + 1) e ds μ P) : OX X PE μ ds e P := by
  cases e with
  | none => simp only [wpO] at h; exact ox_none h
  | some e => simp only [wpO] at h; exact ox_some ((S.E hx h).imp fun d m q => intK_elim q)
theorem Snd.sB {op : BoolOp} {vs : List Expr} {pos : Pos} {P : DP} (h : wpB c PE (n + 1) op vs ds μ P) : EX X PE μ ds (.BoolOp op vs pos) P := by
  match op, vs, h with
  | op, [a], h => simp only [wpB] at h; exact ex_one (S.E hx h)
  | .And, a :: b :: l, h => simp only [wpB] at h; exact ex_andK ((S.E hx h).imp fun d m q => truK_imp q fun z q => wIf_imp q (fun q => S.B hx q) fun q => q)
  | .Or, a :: b :: l, h => simp only [wpB] at h; exact ex_orK ((S.E hx h).imp fun d m q => truK_imp q fun z q => wIf_imp q (fun q => q) fun q => S.B hx q)
  | .And, [], h => simp [wpB] at h
  | .Or, [], h => simp [wpB] at h
theorem Snd.sBT {op : BoolOp} {vs : List Expr} {pos : Pos} {P : Bool → Mu → Prop} (h : wpBT c PE (n + 1) op vs ds μ P) : TW X PE μ ds (.BoolOp op vs pos) P := by
  match op, vs, h with
  | .And, [a], h => simp only [wpBT] at h; exact tw_and1 (S.T hx h)
  | .Or, [a], h => simp only [wpBT] at h; exact tw_or1 (S.T hx h)
  | .And, a :: b :: l, h => simp only [wpBT] at h; exact tw_and ((S.T hx h).imp fun d m q => wIf_imp q (fun q => S.BT hx q) fun q => q)
  | .Or, a :: b :: l, h => simp only [wpBT] at h; exact tw_or ((S.T hx h).imp fun d m q => wIf_imp q (fun q => q) fun q => S.BT hx q)
  | .And, [], h => simp [wpBT] at h
  | .Or, [], h => simp [wpBT] at h
theorem Snd.sFs {A B : Mu → Prop} (h : wpFs c PE (n + 1) es ds μ A B) : TsX X PE μ ds es fun z m => wIf z (A m) (B m) := by
  match es, h with
  | [], h => simp only [wpFs] at h; exact ts_nil (wIf_t.mpr h)
  | [e], h => simp only [wpFs] at h; exact ts_one (S.T hx h)
  | _ :: _ :: _, h => simp [wpFs] at h
theorem Snd.val {P : Bool → Mu → Prop} (h : wpE c PE n e ds μ fun x μ1 => truK x fun z => P z μ1) (he : ∀ whole, isTrue e X.env whole = (do let v ← whole; standAt e.pos; holding [v] (truthy v))) : TX X PE μ ds e P := tx_valK (S.E hx h) he
theorem Snd.sT {P : Bool → Mu → Prop} (h : wpT c PE (n + 1) e ds μ P) : TX X PE μ ds e P := by
  cases e with
  | UnaryOp op a p =>
    cases op <;> simp only [wpT] at h
    exact tx_not (S.T hx h)
  | BoolOp op vs p => simp only [wpT] at h; exact tx_w (S.BT hx h)
  | Compare a ops bs p =>
    match ops, bs, h with
    | [op], [b], h =>
      simp only [wpT] at h
      obtain ⟨h1, h2⟩ := ifB_elim h
      obtain ⟨k, hr, ok⟩ := hx.ot
      exact tx_cmpG hx.units ok.eqs hr ((S.E hx h2).imp fun d m q => S.E hx q) (by simpa using h1)
    | [op, op'], [b, d], h =>
      simp only [wpT] at h
      obtain ⟨h1, h2⟩ := ifB_elim h
      exact tx_chainW hx.units ((S.E hx h2).imp fun d m q => (S.E hx q).imp fun d2 m2 q => cmpW_imp q fun z q => wIf_imp q (fun q => S.E hx q) fun q => q) (by simpa using h1)
    | [], _, h => simp [wpT] at h
    | [_], [], h => simp [wpT] at h
    | [_], _ :: _ :: _, h => simp [wpT] at h
    | [_, _], [], h => simp [wpT] at h
    | [_, _], [_], h => simp [wpT] at h
    | [_, _], _ :: _ :: _ :: _, h => simp [wpT] at h
    | _ :: _ :: _ :: _, _, h => simp [wpT] at h
  | IfExp t a b p => simp [wpT] at h
  | _ => simp only [wpT] at h; exact S.val hx h fun _ => rfl
theorem Snd.items {tg : Expr} {P : List D → Mu → Prop} (h : wpE c PE n e ds μ fun d μ1 => itemsK d fun xs => P xs μ1) : IX X PE μ ds tg e P := ix_any (S.E hx h)
omit S hx in
theorem it_mem {x : Str} {b : It3} (h : itTab.lookup x = some b) : (x = "range" ∧ b = .range) ∨ (x = "enumerate" ∧ b = .enum) ∨ (x = "zip" ∧ b = .zip) := by
  have := PySem.mem_of_lookup h
  simp only [itTab, List.mem_cons, Prod.mk.injEq, List.not_mem_nil, or_false] at this
  exact this
theorem Snd.sI {tg : Expr} {P : List D → Mu → Prop} (h : wpI c PE (isTup tg) (n + 1) e ds μ P) : IX X PE μ ds tg e P := by
  cases e with
  | Call f es kws pos =>
    cases f with
    | Name x p =>
      simp only [wpI] at h
      split at h
      · next a e1 =>
        obtain ⟨h1, h2⟩ := ifB_elim h
        rw [Bool.and_eq_true] at h1
        obtain ⟨rfl, _⟩ | ⟨_, q⟩ | ⟨_, q⟩ := it_mem e1 <;> first | (cases q; done) | skip
        split at h2
        · next e2 =>
          exact ix_range1 ((S.E hx h2).imp fun d m q => by
            obtain ⟨j, a, b, q⟩ := intK_elim q
            exact ⟨j, a, b.1, b.2, q⟩) (hx.gl h1.1) (hx.gbt _ e2) (star1 h1.2)
        · exact h2.elim
      · next a b e1 =>
        obtain ⟨h1, h2⟩ := ifB_elim h
        rw [Bool.and_eq_true, Bool.and_eq_true] at h1
        obtain ⟨rfl, _⟩ | ⟨_, q⟩ | ⟨_, q⟩ := it_mem e1 <;> first | (cases q; done) | skip
        split at h2
        · next e2 =>
          exact ix_range2 ((S.E hx h2).imp fun d m q => (S.E hx q).imp fun d2 m2 q => by
            obtain ⟨i, a, q⟩ := intK_elim q
            obtain ⟨j, b, q⟩ := intK_elim q
            exact ⟨i, j, a, b, q⟩) (hx.gl h1.1.1) (hx.gbt _ e2) (by rw [star1 h1.1.2, star1 h1.2]; rfl) (star1 h1.1.2) (star1 h1.2) (star1 h1.2)
        · exact h2.elim
      · next a e1 =>
        obtain ⟨h1, h2⟩ := ifB_elim h
        rw [Bool.and_eq_true, Bool.and_eq_true] at h1
        obtain ⟨_, q⟩ | ⟨rfl, _⟩ | ⟨_, q⟩ := it_mem e1 <;> first | (cases q; done) | skip
        split at h2
        · next e2 =>
          cases tg <;> first | (cases h1.2; done) | skip
          exact ix_enum (hx.gl h1.1.1) (hx.gbt _ e2) h1.1.2 (S.E hx h2)
        · exact h2.elim
      · next a b e1 =>
        obtain ⟨h1, h2⟩ := ifB_elim h
        rw [Bool.and_eq_true, Bool.and_eq_true, Bool.and_eq_true] at h1
        obtain ⟨_, q⟩ | ⟨_, q⟩ | ⟨rfl, _⟩ := it_mem e1 <;> first | (cases q; done) | skip
        split at h2
        · next e2 =>
          cases tg <;> first | (cases h1.2; done) | skip
          exact ix_zip (hx.gl h1.1.1.1) (hx.gbt _ e2) h1.1.1.2 h1.1.2 ((S.E hx h2).imp fun d m q => S.E hx q)
        · exact h2.elim
      · exact S.items hx h
    | _ => simp only [wpI] at h; exact S.items hx h
  | Set a b p => simp [wpI] at h
  | _ => simp only [wpI] at h; exact S.items hx h
end
end Hw
set_option Elab.async false
set_option linter.all false
set_option maxRecDepth 100000
set_option maxHeartbeats 8000000
namespace Hw
open PySem L2 PyProof.Rows
theorem blt_mem {x : Str} {b : Blt} (h : bltTab.lookup x = some b) : (x, b) ∈ bltTab := PySem.mem_of_lookup h
theorem wpI_fold {c : Cfg} {PE : XP} {n : Nat} {e : Expr} {ds : DS} {μ : Mu} {P : List D → Mu → Prop} {env : Env} {tt : Bool} (h : wpI c PE tt n e ds μ P) : ∀ x, foldedSetIterable e env x = pure x := by
  cases n with
  | zero => simp [wpI] at h
  | succ n => cases e <;> first | (intro _; rfl) | (simp [wpI] at h)
section
variable {n : Nat} (S : Snd n) {c : Cfg} {X : Cx} {PE : XP} {e : Expr} {es : List Expr} {ds : DS} {μ : Mu} (hx : CxOk c X)
include S hx
theorem Snd.sFn {x : Str} {kws : List Keyword} {p pos : Pos} {sh : List (Nat × List Str × CT)} {any : Option CT} {P : DP} {s : Nat × List Str × CT} (co : CallOk X x sh any) (ho : okB x = true) (hgl : gloB c.sc x = true) (hes : es.all notStar = true) (hkw : kws.all (·.arg.isSome) = true)
    (hs : (sh.find? fun s => s.1 == es.length && s.2.1 == kws.filterMap (·.arg)) = some s) (h : wpA c PE n es ds μ fun xs μ1 => wpK c PE n kws ds μ1 fun zs μ2 => s.2.2 (xs ++ zs) μ2 P PE) : EX X PE μ ds (.Call (.Name x p) es kws pos) P := by
  have hp := List.find?_some hs
  have hm := List.mem_of_find?_eq_some hs
  obtain ⟨k, r, cal⟩ := co.sh s hm
  obtain ⟨o1, o2, o3⟩ := okB_elim ho
  have hG := hx.gl hgl
  simp only [Bool.and_eq_true, beq_iff_eq] at hp
  obtain ⟨p1, p2⟩ := hp
  rw [p1, p2] at cal
  have hlen : ∀ {kws : List Keyword}, kws.all (·.arg.isSome) = true → (kws.filterMap (·.arg)).length = kws.length := by
    intro kws h
    induction kws with
    | nil => rfl
    | cons a l ih =>
      obtain ⟨nm, v, p⟩ := a
      cases nm with
      | none => simp at h
      | some y => simp at h; simpa using ih (by simpa using h)
  have hlk := hlen hkw
  cases es with
  | nil =>
    have h0 : wpK c PE n kws ds μ fun zs μ2 => s.2.2 ([] ++ zs) μ2 P PE := by
      cases n with
      | zero => simp [wpA] at h
      | succ n => simpa only [wpA] using h
    cases kws with
    | nil =>
      have h1 : s.2.2 ([] ++ []) μ P PE := by
        cases n with
        | zero => simp [wpK] at h0
        | succ n => simpa only [wpK] using h0
      exact ex_callG0 cal r hG o1 h1
    | cons kw kws => exact ex_callGK cal r hG o1 hkw rfl ((S.K hx h0).imp fun zs m q => ⟨by rw [hlk]; exact q.1, q.2⟩)
  | cons e es =>
    cases kws with
    | nil => exact ex_callGA cal r hG o1 hes ((S.A hx h).imp fun xs m q => ⟨q.1, by
        have q2 := q.2
        cases n with
        | zero => simp [wpK] at q2
        | succ n => simpa only [wpK, List.append_nil] using q2⟩)
    | cons kw kws => exact ex_callGM cal r hG o1 hes hkw rfl ((S.A hx h).imp fun xs m q => ⟨q.1, (S.K hx q.2).imp fun zs m2 q => ⟨by rw [hlk]; exact q.1, q.2⟩⟩)
theorem Snd.sAny {x : Str} {p pos : Pos} {sh : List (Nat × List Str × CT)} {W : CT} {P : DP} (co : CallOk X x sh (some W)) (ho : okB x = true) (hgl : gloB c.sc x = true) (hes : es.all notStar = true) (h : wpA c PE n es ds μ fun xs μ1 => W xs μ1 P PE) : EX X PE μ ds (.Call (.Name x p) es [] pos) P := by
  obtain ⟨k, r, cal⟩ := co.any W rfl
  obtain ⟨o1, o2, o3⟩ := okB_elim ho
  cases es with
  | nil =>
    refine ex_callG0 (cal 0) r (hx.gl hgl) o1 ?_
    cases n with
    | zero => simp [wpA] at h
    | succ n => simpa only [wpA] using h
  | cons e es => exact ex_callGA (cal (e :: es).length) r (hx.gl hgl) o1 hes (S.A hx h)
theorem Snd.sAnyS {x : Str} {p pos : Pos} {sh : List (Nat × List Str × CT)} {W : CT} {P : DP} (co : CallOk X x sh (some W)) (ho : okB x = true) (hgl : gloB c.sc x = true) (hes : argS es = true) (h : wpAS c PE n es ds μ fun xs μ1 => W xs μ1 P PE) : EX X PE μ ds (.Call (.Name x p) es [] pos) P := by
  obtain ⟨k, r, cal⟩ := co.any W rfl
  obtain ⟨o1, o2, o3⟩ := okB_elim ho
  exact ex_callS cal r (hx.gl hgl) o1 hes ((S.AS hx h).2 hes)
theorem Snd.arg {kws : List Keyword} {R : List D → Mu → Prop} (h : wpA c PE n es ds μ fun xs μ1 => wpK c PE n kws ds μ1 fun zs μ2 => R (xs ++ zs) μ2) : ArgX X PE μ ds es kws R := by
  have hk0 : ∀ {μ : Mu} {R : List D → Mu → Prop}, wpK c PE n [] ds μ R → R [] μ := fun {μ R} h => by
    cases n with
    | zero => simp [wpK] at h
    | succ n => simpa only [wpK] using h
  cases es with
  | nil =>
    have h0 : wpK c PE n kws ds μ fun zs μ2 => R ([] ++ zs) μ2 := by
      cases n with
      | zero => simp [wpA] at h
      | succ n => simpa only [wpA] using h
    cases kws with
    | nil => exact hk0 h0
    | cons k kws => exact (S.K hx h0).imp fun zs m q => q
  | cons e es =>
    cases kws with
    | nil => exact (S.A hx h).imp fun xs m q => ⟨q.1, by simpa using hk0 q.2⟩
    | cons k kws => exact (S.A hx h).imp fun xs m q => ⟨q.1, S.K hx q.2⟩
omit S hx in
theorem clsOf_some {o : Expr} {C : Addr} {con : List (Str × D)} {sta : List (Str × Nat × List Str × CT)} (h : clsOf c o = some (C, con, sta)) : ∃ x p sh any iso, o = .Name x p ∧ okB x = true ∧ gloB c.sc x = true ∧ c.g x = some (.cls C sh any con sta iso) := by
  unfold clsOf at h
  split at h
  · next x p =>
    split at h
    · next q =>
      simp only [Bool.and_eq_true] at q
      split at h
      · next hg =>
        simp only [Option.some.injEq, Prod.mk.injEq] at h
        obtain ⟨rfl, rfl, rfl⟩ := h
        exact ⟨x, p, _, _, _, rfl, q.1.1, q.1.2, hg⟩
      · cases h
    · cases h
  · cases h
theorem Snd.clsv {o : Expr} {C : Addr} {con : List (Str × D)} {sta : List (Str × Nat × List Str × CT)} {P : DP} (h : clsOf c o = some (C, con, sta)) (k : P (.ref C) μ) : EX X PE μ ds o P ∧ baseB o = true ∧ ∃ x, ClsOk X x C con sta (match c.g x with | some (.cls _ _ _ _ _ iso) => iso | _ => []) := by
  obtain ⟨x, p, sh, any, iso, rfl, h1, h2, h3⟩ := clsOf_some h
  have co := (hx.gcl _ _ _ _ _ _ _ h3).2
  exact ⟨ex_gl (hx.gl h2) co.at_ (v := .ref C) rfl (fun _ _ => .ref C) k (okB_elim h1).1, rfl, x, by rw [h3]; exact co⟩
theorem Snd.sBl {x : Str} {p pos : Pos} {b : Blt} {P : DP} (hg : c.g x = some .bt) (hgl : gloB c.sc x = true) (hb : bltTab.lookup x = some b) (hes : (e :: es).all notStar = true)
    (h : wpA c PE n (e :: es) ds μ fun xs μ1 => bltW c.o b xs μ1 P) : EX X PE μ ds (.Call (.Name x p) (e :: es) [] pos) P := by
  have hG := hx.gl hgl
  have hM := hx.gbt _ hg
  rw [List.all_cons, Bool.and_eq_true] at hes
  have h1 := (S.A hx h).imp (P' := fun xs m => bltW c.o b xs m P) fun xs m q => q.2
  obtain ⟨k, r⟩ := hx.rm
  have he := star1 (env := X.env) hes.1 (es := es)
  have hp := starAny (pos := pos) (env := X.env) hes.2
  have hm := blt_mem hb
  simp only [bltTab, List.mem_cons, Prod.mk.injEq, List.not_mem_nil, or_false] at hm
  rcases hm with ⟨rfl, rfl⟩ | ⟨rfl, rfl⟩ | ⟨rfl, rfl⟩ | ⟨rfl, rfl⟩ | ⟨rfl, rfl⟩ | ⟨rfl, rfl⟩ | ⟨rfl, rfl⟩ | ⟨rfl, rfl⟩ | ⟨rfl, rfl⟩ | ⟨rfl, rfl⟩ | ⟨rfl, rfl⟩
  · obtain ⟨k2, r2, ok⟩ := hx.ot
    refine ex_callB (ok := bltW c.o .len) ?_ h1 hG hM PySem.boot_len (he := he) (hpl := hp)
    have : bltW c.o .len = match c.o.lens with | [] => lenOk | l => lenG l := by
      funext xs m P
      show (match c.o.lens with | [] => lenOk xs m P | l => lenG l xs m P) = _
      cases c.o.lens <;> rfl
    rw [this]
    split
    · exact cr_len
    · next l hl => exact cr_lenG ok.lens r2
  · exact ex_callT cr_intG h1 hG hM (by decide +kernel) (he := he) (hpl := hp)
  · exact ex_callB cr_abs h1 hG hM (by decide +kernel) (he := he) (hpl := hp)
  · exact ex_callT cr_str h1 hG hM (by decide +kernel) (he := he) (hpl := hp)
  · exact ex_callT (cr_listG hx.calm) h1 hG hM (by decide +kernel) (he := he) (hpl := hp)
  · exact ex_callT cr_tuple h1 hG hM (by decide +kernel) (he := he) (hpl := hp)
  · exact ex_callB (cr_allD hx.calm) h1 hG hM (by decide +kernel) (he := he) (hpl := hp)
  · exact ex_callB (cr_anyD hx.calm) h1 hG hM (by decide +kernel) (he := he) (hpl := hp)
  · obtain ⟨k2, r2, ok⟩ := hx.ot
    refine ex_callB (id := "repr") (ok := bltW c.o .repr) ?_ h1 hG hM (by decide +kernel) (he := he) (hpl := hp)
    have : bltW c.o .repr = match c.o.reps with | [] => reprOk | l => reprG l := by
      funext xs m P
      show (match c.o.reps with | [] => reprOk xs m P | l => reprG l xs m P) = _
      cases c.o.reps <;> rfl
    rw [this]
    split
    · exact cr_repr (r.mono (Nat.zero_le _))
    · next l hl => exact cr_reprG ok.reps r2
  · refine ex_callB (id := "isinstance") (ok := fun _ _ _ => False) ?_ h1 hG hM (by decide +kernel) (he := he) (hpl := hp)
    intro pins s σ H vs us Q I r h
    obtain ⟨μ, xs, P, ho, n, ok, k⟩ := h
    exact ok.elim
  · obtain ⟨k2, r2, ok⟩ := hx.ot
    refine ex_callT (T := "bool") (ok := bltW c.o .bool) ?_ h1 hG hM (by decide +kernel) (he := he) (hpl := hp)
    have : bltW c.o .bool = match c.o.bools with | [] => boolG [] | l => boolG2 l := by
      funext xs m P
      show (match c.o.bools with | [] => boolG [] xs m P | l => boolG2 l xs m P) = _
      cases c.o.bools <;> rfl
    rw [this]
    split
    · exact cr_boolG
    · next l hl => exact cr_boolG2 ok.bools r2
theorem Snd.sIs {x t : Str} {k : String} {p p2 pos : Pos} {P : DP} (hg : c.g x = some .bt) (hgl : gloB c.sc x = true) (hb : bltTab.lookup x = some .isi) (ho : notStar e = true) (hot : okB t = true) (hgt : gloB c.sc t = true) (ht : kitTab.lookup t = some k) (htb : c.g t = some .bt)
    (h : wpE c PE n e ds μ fun d μ1 => plainD d = true ∧ P (.bl (isB k d)) μ1) : EX X PE μ ds (.Call (.Name x p) [e, .Name t p2] [] pos) P := by
  have hm := blt_mem hb
  simp [bltTab] at hm
  subst hm
  have hk := hx.kit t k ht htb
  obtain ⟨o1, o2, o3⟩ := okB_elim hot
  have hm2 : (t, k) ∈ kitTab := PySem.mem_of_lookup ht
  refine ex_callB cr_isi (ax_cons ((S.E hx h).imp fun d m q => ?_) (star1 ho)) (hx.gl hgl) (hx.gbt _ hg) (by decide +kernel) (he := star1 ho) (hpl := rfl)
  have hv : bootBuiltins t = some (.type k) := by
    simp only [kitTab, List.mem_cons, Prod.mk.injEq, List.not_mem_nil, or_false] at hm2
    rcases hm2 with ⟨rfl, rfl⟩ | ⟨rfl, rfl⟩ | ⟨rfl, rfl⟩ | ⟨rfl, rfl⟩ | ⟨rfl, rfl⟩ | ⟨rfl, rfl⟩ <;> decide +kernel
  exact ax_cons (ex_blt (hx.gl hgt) (hx.gbt _ htb) hv (v := .ty k) rfl (fun _ _ => .ty _) (ax_nil (f_isB hk q.1 q.2)) o3 o1) rfl
omit S hx in
theorem pickM_imp {m : Str} {x : D} {μ : Mu} {R R' : CT → Prop} : ∀ {l : List ME}, pickM m x μ l R → (∀ W, R W → R' W) → pickM m x μ l R'
  | [], h, _ => h.elim
  | [e], h, f => ⟨h.1, f _ h.2⟩
  | e :: b :: r, h, f => by
    rcases h with h | h
    · exact .inl ⟨h.1, f _ h.2⟩
    · exact .inr (pickM_imp (l := b :: r) h f)
omit S hx in
theorem kit_boot {t : Str} {k : String} (ht : kitTab.lookup t = some k) : bootBuiltins t = some (.type k) := by
  have hm2 : (t, k) ∈ kitTab := PySem.mem_of_lookup ht
  simp only [kitTab, List.mem_cons, Prod.mk.injEq, List.not_mem_nil, or_false] at hm2
  rcases hm2 with ⟨rfl, rfl⟩ | ⟨rfl, rfl⟩ | ⟨rfl, rfl⟩ | ⟨rfl, rfl⟩ | ⟨rfl, rfl⟩ | ⟨rfl, rfl⟩ <;> decide +kernel
omit S hx in
theorem isi_name {x : Str} {b : Blt} (hb : bltTab.lookup x = some b) (h : b = .isi) : x = "isinstance" := by
  subst h
  have hm := blt_mem hb
  simpa [bltTab] using hm
theorem Snd.sIsC {x t : Str} {p p2 pos : Pos} {P : DP} {C : Addr} {sh any con sta iso} (hg : c.g x = some .bt) (hgl : gloB c.sc x = true) (hb : bltTab.lookup x = some .isi) (ho : notStar e = true) (hot : okB t = true) (hgt : gloB c.sc t = true) (ht : c.g t = some (.cls C sh any con sta iso))
    (h : wpE c PE n e ds μ fun d μ1 => isoW iso d μ1 fun b => P (.bl b) μ1) : EX X PE μ ds (.Call (.Name x p) [e, .Name t p2] [] pos) P := by
  obtain rfl := isi_name hb rfl
  have co := (hx.gcl _ _ _ _ _ _ _ ht).2
  refine ex_callB (cr_isiC co.iso) (ax_cons ((S.E hx h).imp fun d m q => ?_) (star1 ho)) (hx.gl hgl) (hx.gbt _ hg) (by decide +kernel) (he := star1 ho) (hpl := rfl)
  exact ax_cons (ex_gl (hx.gl hgt) co.at_ (v := .ref C) rfl (fun _ _ => .ref C) (ax_nil ⟨d, rfl, q⟩) (okB_elim hot).1) rfl
theorem Snd.sIs2 {x t t2 : Str} {k k2 : String} {p p2 p3 p4 pos : Pos} {kk : Nat} {P : DP} (hg : c.g x = some .bt) (hgl : gloB c.sc x = true) (hb : bltTab.lookup x = some .isi) (ho : notStar e = true) (hot : okB t = true) (hgt : gloB c.sc t = true) (ht : kitTab.lookup t = some k) (htb : c.g t = some .bt)
    (hot2 : okB t2 = true) (hgt2 : gloB c.sc t2 = true) (ht2 : kitTab.lookup t2 = some k2) (htb2 : c.g t2 = some .bt)
    (h : wpE c PE n e ds μ fun d μ1 => plainD d = true ∧ P (.bl (isB k d || isB k2 d)) μ1) : EX X PE μ ds (.Call (.Name x p) [e, .Tuple [.Name t p2, .Name t2 p3] kk p4] [] pos) P := by
  obtain rfl := isi_name hb rfl
  have hk := hx.kit t k ht htb
  have hk2 := hx.kit t2 k2 ht2 htb2
  obtain ⟨o1, o2, o3⟩ := okB_elim hot
  obtain ⟨o1', o2', o3'⟩ := okB_elim hot2
  refine ex_callB cr_isi (ax_cons ((S.E hx h).imp fun d m q => ?_) (star1 ho)) (hx.gl hgl) (hx.gbt _ hg) (by decide +kernel) (he := star1 ho) (hpl := rfl)
  obtain ⟨ty, h1, h2, h3⟩ := hk.kit d q.1
  obtain ⟨ty2, h1', h2', _⟩ := hk2.kit d q.1
  rw [h1] at h1'
  cases h1'
  refine ax_cons (ex_tup (ax_cons (ex_blt (hx.gl hgt) (hx.gbt _ htb) (kit_boot ht) (v := .ty k) rfl (fun _ _ => .ty _) (ax_cons (ex_blt (hx.gl hgt2) (hx.gbt _ htb2) (kit_boot ht2) (v := .ty k2) rfl (fun _ _ => .ty _) (ax_nil ⟨Nat.le_of_ble_eq_true rfl, ax_nil ?_⟩) o3' o1') rfl) o3 o1) rfl)) rfl
  refine ⟨d, _, ty, isB k d || isB k2 d, rfl, h1, (fun C fs e => (h3 C fs e).elim), .inr ⟨_, [.type k, .type k2], rfl, rfl, rfl, ?_⟩, q.2⟩
  unfold PySem.W.kitAny PySem.W.kitAny PySem.W.kitAny
  rw [h2, h2']
  cases isB k d <;> cases isB k2 d <;> rfl
theorem Snd.sCall {x : Str} {kws : List Keyword} {p pos : Pos} {sh : List (Nat × List Str × CT)} {any : Option CT} {P : DP}
    (h : match es.all notStar with
          | true => match sh.find? fun s => s.1 == es.length && s.2.1 == kws.filterMap (·.arg) with
            | some s => wpA c PE n es ds μ fun xs μ1 => wpK c PE n kws ds μ1 fun zs μ2 => s.2.2 (xs ++ zs) μ2 P PE
            | none => match any, kws with
              | some W, [] => wpA c PE n es ds μ fun xs μ1 => W xs μ1 P PE
              | _, _ => False
          | false => match any, kws with
            | some W, [] => ifB (argS es) (wpAS c PE n es ds μ fun xs μ1 => W xs μ1 P PE)
            | _, _ => False) (co : CallOk X x sh any) (ho : okB x = true) (hgl : gloB c.sc x = true) (hkw : kws.all (·.arg.isSome) = true) : EX X PE μ ds (.Call (.Name x p) es kws pos) P := by
  split at h
  · next hes =>
    split at h
    · next s hs => exact S.sFn hx co ho hgl hes hkw hs h
    · split at h
      · exact S.sAny hx co ho hgl hes h
      · exact h.elim
  · split at h
    · obtain ⟨h3, h4⟩ := ifB_elim h
      exact S.sAnyS hx co ho hgl h3 h4
    · exact h.elim
theorem Snd.sE {P : DP} (h : wpE c PE (n + 1) e ds μ P) : EX X PE μ ds e P := by
  cases e with
  | Constant v k p => cases v <;> simp only [wpE] at h <;> first | exact ex_non h | exact ex_bl h | exact ex_int h | exact ex_str h
  | Name x p =>
    simp only [wpE] at h
    obtain ⟨h1, h2⟩ := ifB_elim h
    obtain ⟨o1, o2, o3⟩ := okB_elim h1
    split at h2
    · next i hi =>
      obtain ⟨h3, h4⟩ := ifB_elim h2
      obtain ⟨d, hd, h5⟩ := dsGet_elim h4
      exact ex_nm hd h5 (by rw [hx.N]; exact ixOf_some hi) (by rw [hx.sc]; exact visB_iff h3) o1 o2
    · obtain ⟨h3, h4⟩ := ifB_elim h2
      split at h4
      · next d hd =>
        obtain ⟨v, u, g1, g2, g3⟩ := hx.gcs _ _ hd
        exact ex_gl (hx.gl h3) g1 g2 g3 h4 o1
      · exact h4.elim
  | Tuple es k p =>
    simp only [wpE] at h
    obtain ⟨h1, h2⟩ := ifB_elim h
    exact ex_tup ((S.A hx h2).imp fun xs m q => ⟨by rw [q.1]; exact Nat.le_trans (of_decide_eq_true h1) (by decide), q.2⟩)
  | List es p =>
    simp only [wpE] at h
    obtain ⟨h1, h2⟩ := ifB_elim h
    exact ex_lst ((S.A hx h2).imp fun xs m q => ⟨by rw [q.1]; exact Nat.le_trans (of_decide_eq_true h1) (by decide), q.2⟩)
  | BinOp a op b p => simp only [wpE] at h; exact ex_bin ((S.E hx h).imp fun d m q => S.E hx q)
  | UnaryOp op a p =>
    cases op <;> simp only [wpE] at h
    · exact ex_notK (S.E hx h)
    · exact ex_neg ((S.E hx h).imp fun d m q => intK_elim q)
  | BoolOp op vs p => simp only [wpE] at h; exact S.B hx h
  | Compare a ops bs p =>
    match ops, bs, h with
    | [op], [b], h =>
      simp only [wpE] at h
      obtain ⟨h1, h2⟩ := ifB_elim h
      obtain ⟨k, hr, ok⟩ := hx.ot
      exact ex_cmpG hx.units ok.eqs hr ((S.E hx h2).imp fun d m q => S.E hx q) (by simpa using h1)
    | [op, op'], [b, d], h =>
      simp only [wpE] at h
      obtain ⟨h1, h2⟩ := ifB_elim h
      exact ex_chainW hx.units ((S.E hx h2).imp fun d m q => (S.E hx q).imp fun d2 m2 q => cmpW_imp q fun z q => wIf_imp q (fun q => S.E hx q) fun q => q) (by simpa using h1)
    | [], _, h => simp [wpE] at h
    | [_], [], h => simp [wpE] at h
    | [_], _ :: _ :: _, h => simp [wpE] at h
    | [_, _], [], h => simp [wpE] at h
    | [_, _], [_], h => simp [wpE] at h
    | [_, _], _ :: _ :: _ :: _, h => simp [wpE] at h
    | _ :: _ :: _ :: _, _, h => simp [wpE] at h
  | IfExp t a b p => simp only [wpE] at h; exact ex_if ((S.T hx h).imp fun z m q => ⟨fun e => S.E hx (q.1 e), fun e => S.E hx (q.2 e)⟩)
  | Subscript a b p =>
    have gen : ifB (plainIx b) (wpE c PE n a ds μ fun x μ1 => wpE c PE n b ds μ1 fun y μ2 => ixA μ2 x y fun z => P z μ2) → EX X PE μ ds (.Subscript a b p) P := fun h => by
      obtain ⟨h1, h2⟩ := ifB_elim h
      exact ex_ix ((S.E hx h2).imp fun d m q => S.E hx q) (plainIx_ok h1)
    cases b with
    | Slice lo hi step p2 =>
      cases step with
      | none => simp only [wpE] at h; exact ex_slice ((S.E hx h).imp fun d m q => (S.O hx q).imp fun l m2 q => S.O hx q)
      | some st => simp only [wpE] at h; exact gen h
    | _ => simp only [wpE] at h; exact gen h
  | JoinedStr vs p =>
    match vs, h with
    | [], h => simp [wpE] at h
    | [e], h => simp only [wpE] at h; exact ex_joined1 (S.E hx h)
    | e1 :: e2 :: es, h => simp only [wpE] at h; exact ex_joined (S.J hx h)
  | FormattedValue e cv spec p =>
    cases spec with
    | none =>
      simp only [wpE] at h
      obtain ⟨h1, h2⟩ := ifB_elim h
      have := of_decide_eq_true h1
      subst this
      exact ex_fmt (S.E hx h2)
    | some _ => simp [wpE] at h
  | Attribute o f p =>
    simp only [wpE] at h
    split at h
    · next hc =>
      split at h
      · next d hd =>
        obtain ⟨h1, h2, x, co⟩ := S.clsv hx (P := fun x m => x = .ref _ ∧ P d m) hc ⟨rfl, h⟩
        exact ex_cval (co.con f d hd) h1 (base_of h2)
      · exact h.elim
    · obtain ⟨h1, h2⟩ := ifB_elim h
      obtain ⟨k, hr, ok⟩ := hx.ot
      exact ex_attr (ok.a f) hr (S.E hx h2) (base_of h1)
  | Call f es kws pos =>
    cases f with
    | Attribute o m ap =>
      simp only [wpE] at h
      obtain ⟨h1, h2⟩ := ifB_elim h
      simp only [Bool.and_eq_true, decide_eq_true_eq] at h1
      obtain ⟨⟨⟨hes, hkw⟩, hn⟩, hl⟩ := h1
      split at h2
      · next hc =>
        split at h2
        · next s hs =>
          have hp := List.find?_some hs
          have hm := List.mem_of_find?_eq_some hs
          simp only [Bool.and_eq_true, beq_iff_eq] at hp
          obtain ⟨⟨p1, p2⟩, p3⟩ := hp
          obtain ⟨q1, q2, x, co⟩ := S.clsv hx (P := fun x m => x = .ref _ ∧ ArgX X PE m ds es kws fun xs μ2 => s.2.2.2 xs μ2 P PE) hc ⟨rfl, S.arg hx h2⟩
          obtain ⟨g, k, c1, c2, c3⟩ := co.sta s hm
          rw [p1] at c1
          rw [p2, p3] at c3
          exact ex_smeth c1 c3 c2 (base_of q2) hes hkw hn hl q1
        · exact h2.elim
      · obtain ⟨hb, h3⟩ := ifB_elim h2
        obtain ⟨k, hr, ok⟩ := hx.ot
        split at h3
        · split at h3
          · next b hbn =>
            have hm := PySem.mem_of_lookup hbn
            have hnm : m = bnNm b := by
              simp only [bnTab, List.mem_cons, Prod.mk.injEq, List.not_mem_nil, or_false] at hm
              rcases hm with ⟨rfl, rfl⟩ | ⟨rfl, rfl⟩ | ⟨rfl, rfl⟩ | ⟨rfl, rfl⟩ | ⟨rfl, rfl⟩ | ⟨rfl, rfl⟩ | ⟨rfl, rfl⟩ | ⟨rfl, rfl⟩ | ⟨rfl, rfl⟩ <;> rfl
            subst hnm
            cases es with
            | nil =>
              refine ex_bn0 ((S.E hx h3).imp fun d m q => ⟨q.1, ?_⟩) (base_of hb) hl
              have q2 := q.2
              cases n with
              | zero => simp [wpA] at q2
              | succ n => simpa only [wpA] using q2
            | cons e es => exact ex_bn ((S.E hx h3).imp fun d m q => ⟨q.1, (S.A hx q.2).imp fun xs m2 q => q.2⟩) (base_of hb) hes (by simpa using hn) hl
          · exact h3.elim
        · next l hm => exact ex_meth (ok.m m) (hr.mono (Nat.le_succ _)) (base_of hb) hes hkw hn hl ((S.E hx h3).imp fun d m2 q => pickM_imp q fun W q => S.arg hx (R := fun xs μ2 => W (d :: xs) μ2 P PE) q)
    | Name x p =>
      simp only [wpE] at h
      obtain ⟨h1, h2⟩ := ifB_elim h
      simp only [Bool.and_eq_true] at h1
      obtain ⟨⟨ho, hgl⟩, hkw⟩ := h1
      split at h2
      · next sh any hg => exact S.sCall hx h2 (hx.gfn x sh any hg) ho hgl hkw
      · next C sh any con sta iso hg => exact S.sCall hx h2 (hx.gcl x C sh any con sta iso hg).1 ho hgl hkw
      · next tT q tab hg =>
        split at h2
        · next params body scope lpos =>
          obtain ⟨h3, h4, h5⟩ := ifB_elim h2
          exact hx.ask x tT q tab hg hgl h3 h4 (Pb := fun d m => P (.tup [.str "", d]) m) (fun X' hx' => S.E (CxOk0.ok (c := { c with sc := scope }) hx') h5) (fun d m q => q) fun Ca fs m q => q
        · exact h2.elim
      · next hg =>
        obtain ⟨h3, h4⟩ := ifB_elim h2
        rw [Bool.and_eq_true] at h3
        obtain ⟨h3, hes⟩ := h3
        have hk : kws = [] := by simpa using h3
        subst hk
        split at h4
        · next e t p2 hb =>
          obtain ⟨h5, h6⟩ := ifB_elim h4
          simp only [Bool.and_eq_true] at h5
          rw [List.all_cons, Bool.and_eq_true] at hes
          split at h6
          · next htb =>
            split at h6
            · next k hk => exact S.sIs hx hg hgl hb hes.1 h5.1.1 h5.1.2 hk htb h6
            · exact h6.elim
          · next ht => exact S.sIsC hx hg hgl hb hes.1 h5.1.1 h5.1.2 ht h6
          · exact h6.elim
        · next e t p2 t2 p3 kk p4 hb =>
          obtain ⟨h5, h6⟩ := ifB_elim h4
          simp only [Bool.and_eq_true] at h5
          rw [List.all_cons, Bool.and_eq_true] at hes
          split at h6
          · next k k2 e1 e2 e3 e4 => exact S.sIs2 hx hg hgl hb hes.1 h5.1.1.1 h5.1.1.2 e1 e2 h5.1.2 h5.2 e3 e4 h6
          · exact h6.elim
        · next b e es _ hb => exact S.sBl hx hg hgl hb hes h4
        · exact h4.elim
      · exact h2.elim
    | _ => simp [wpE] at h
  | ListComp elt gens scope p =>
    match gens, h with
    | [⟨tg, iter, ifs, 0⟩], h =>
      simp only [wpE] at h
      obtain ⟨h1, h2⟩ := ifB_elim h
      have ok : BlkOk X.N X.env.scope scope (ownOf c.N scope) := by rw [hx.N, hx.sc]; exact blkOk_by h1
      cases hxl : xlB c with
      | false =>
        rw [hxl] at h2
        refine ex_lcW (ownOf c.N scope) _ (fun x m Q q X' hb => ?_) (S.I hx h2) hx.calm hx.nd ok (wpI_fold h2)
        exact ((wpG_ok n).1 hx hb q).imp fun ds2 h3 X' hb => (S.Fs (hx.blk hb) h3).imp fun z m q => ⟨fun e X' hb => S.E (hx.blk hb) (q.1 e), q.2⟩
      | true =>
        rw [hxl] at h2
        refine ex_lcX (hx.fr hxl).1 (hx.fr hxl).2 (ownOf c.N scope) _ (fun L x m Q q X' hb => ?_) (S.I hx h2) hx.calm hx.nd ok (wpI_fold h2)
        exact ((wpG_ok n).1 hx hb q).imp fun ds2 h3 X' hb => (S.Fs (hx.blk hb) h3).imp fun z m q => ⟨fun e X' hb => S.E (hx.blkX hb) (q.1 e), q.2⟩
    | [], h => simp [wpE] at h
    | _ :: _ :: _, h => simp [wpE] at h
    | [⟨tg, iter, ifs, .ofNat (k + 1)⟩], h => exact (show False from h).elim
    | [⟨tg, iter, ifs, .negSucc k⟩], h => simp [wpE] at h
  | _ => simp [wpE] at h
end
theorem snd : ∀ n, Snd n
  | 0 => ⟨fun _ h => by simp [wpE] at h, fun _ h => by simp [wpA] at h, fun _ h => by simp [wpK] at h, fun _ h => by simp [wpO] at h, fun _ h => by simp [wpB] at h, fun _ h => by simp [wpT] at h, fun _ h => by simp [wpBT] at h, fun _ h => by simp [wpFs] at h, fun _ h => by simp [wpI] at h, fun _ h => by simp [wpAS] at h, fun _ h => by simp [wpJ] at h⟩
  | n + 1 => ⟨fun hx h => (snd n).sE hx h, fun hx h => (snd n).sA hx h, fun hx h => (snd n).sK hx h, fun hx h => (snd n).sO hx h, fun hx h => (snd n).sB hx h, fun hx h => (snd n).sT hx h, fun hx h => (snd n).sBT hx h, fun hx h => (snd n).sFs hx h, fun hx h => (snd n).sI hx h, fun hx h => (snd n).sAS hx h, fun hx h => (snd n).sJ hx h⟩
end Hw
set_option Elab.async false
set_option linter.all false
set_option maxRecDepth 100000
set_option maxHeartbeats 8000000
namespace Hw
open PySem L2 PyProof.Rows
def blkK (sc : Scope) : ScopeKind := if sc.kind.isAnnotationScope then .function else sc.kind
def isStar : Expr → Bool
  | .Starred .. => true
  | _ => false
def swNames (sc : Scope) (ts : List Expr) : List Str :=
  let line := (ts.head?.map (·.pos.line)).getD 0
  ts.filterMap fun
    | .Name id pos => if sc.names.lookup id == some .local && pos.line == line then some id else none
    | _ => none
def swSt (sc : Scope) (ts vs : List Expr) : Option (Option (List Str)) :=
  if !(ts.length == 2 || ts.length == 3) || vs.length != ts.length || blkK sc != .function then some none
  else if vs.any fun | .Starred .. => true | _ => false then some none
  else if (swNames sc ts).length != ts.length || (swNames sc ts).eraseDups.length != (swNames sc ts).length then some none
  else if vs.all (foldedForSure 8) then some none
  else if vs.all (constantsAlone 8) then none
  else some (some (swNames sc ts))
theorem swSt_key {env : Env} {ts vs : List Expr} {k1 k2 : Nat} {p1 p2 : Pos} : swappedStores [.Tuple ts k1 p1] (.Tuple vs k2 p2) env =
    (if !(ts.length == 2 || ts.length == 3) || vs.length != ts.length || blkK env.scope != .function then pure none
    else if vs.any fun | .Starred .. => true | _ => false then pure none
    else if (swNames env.scope ts).length != ts.length || (swNames env.scope ts).eraseDups.length != (swNames env.scope ts).length then pure none
    else if vs.all (foldedForSure 8) then pure none
    else if vs.all (constantsAlone 8) then (do let _ ← unsupported (α := Unit) "assign.tuple-of-constant-expressions:order-of-the-stores"; pure (some (swNames env.scope ts)))
    else pure (some (swNames env.scope ts))) := by
  unfold swappedStores
  rfl
theorem swSt_ok {env : Env} {sc : Scope} {ts vs : List Expr} {k1 k2 : Nat} {p1 p2 : Pos} {r : Option (List Str)} (he : env.scope = sc) (h : swSt sc ts vs = some r) : swappedStores [.Tuple ts k1 p1] (.Tuple vs k2 p2) env = pure r := by
  subst he
  rw [swSt_key]
  unfold swSt at h
  split at h
  · next q => cases h; rw [if_pos q]
  · next q =>
    rw [if_neg q]
    split at h
    · next q2 => cases h; rw [if_pos q2]
    · next q2 =>
      rw [if_neg q2]
      split at h
      · next q3 => cases h; rw [if_pos q3]
      · next q3 =>
        rw [if_neg q3]
        split at h
        · next q4 => cases h; rw [if_pos q4]
        · next q4 =>
          rw [if_neg q4]
          split at h
          · cases h
          · next q5 => cases h; rw [if_neg q5]
theorem swSt_no {env : Env} {ts : List Expr} {k1 : Nat} {p1 : Pos} {e : Expr} (h : ∀ vs k p, e ≠ .Tuple vs k p) : swappedStores [.Tuple ts k1 p1] e env = pure none := by
  unfold swappedStores
  cases e <;> first | rfl | exact absurd rfl (h _ _ _)

/-! ### what a statement asks -/
def isComp : Expr → Bool
  | .ListComp _ _ _ _ => true
  | .SetComp _ _ _ _ => true
  | .DictComp _ _ _ _ _ => true
  | _ => false
theorem swaps_no {e : Expr} {t : Option Expr} {l : Nat} {env : Env} (h : isComp e = false) : swapsWith e t l env = pure false := by
  cases e <;> first | rfl | cases h
/-- a comprehension given to a name: does the name stand by itself -/
def swName (sc : Scope) (x : Str) (px pe : Pos) (scope : Scope) : Bool := blkK sc == .function && sc.names.lookup x == some .local && px.line == pe.line && !(scope.names.any fun (n, k) => n == x && (k == .local || k == .cell))
/-- what makes a new object that will change -/
def refK (K : Addr → Mu → Prop) : DP := fun d m => match d with
  | .ref p => K p m
  | _ => False
def wpF (c : Cfg) (PE : XP) (n : Nat) (e : Expr) (ds : DS) (μ : Mu) (K : Addr → Mu → Prop) : Prop := match e with
  | .List es _ => ifB (decide (es.length ≤ 4096)) (wpA c PE n es ds μ fun xs μ1 => ∀ p, μ1 p = none → K p (mset μ1 p (.lst xs)))
  | .Call (.Name x _) [a] [] _ => ifB (decide (x = ("list" : Str)) && gloB c.sc x && notStar a) (match c.g x with
    | some .bt => wpE c PE n a ds μ fun d μ1 => seqM d μ1 fun l => ∀ p, μ1 p = none → K p (mset μ1 p (.lst l))
    | _ => False)
  | .ListComp elt [⟨tg, iter, ifs, 0⟩] scope _ => ifB (blkC c.N c.sc scope (ownOf c.N scope)) (wpI c PE (isTup tg) n iter ds μ fun xs μ1 =>
        lcWM (fun x μ2 Q => wpG c.N scope ((ownOf c.N scope).map (·.2)) n tg x (wipeD ds ((ownOf c.N scope).map (·.2))) fun ds2 =>
          wpFs { c with sc := relS scope c.sc, g := noAsk c.g, mf := [] } noX n ifs ds2 μ2 (fun μ3 => wpE { c with sc := relS scope c.sc, g := noAsk c.g, mf := [] } noX n elt ds2 μ3 fun d μ4 => Q (some d) μ4) (fun μ3 => Q none μ3)) xs μ1 (refK K))
  | .Call (.Attribute o m apos) es kws pos => wpE c PE n (.Call (.Attribute o m apos) es kws pos) ds μ (refK K)
  | _ => False
/-- the row of a name's = -/
def asgRow : Stmt → Option (Nat × Str × Pos × Expr × Pos)
  | .Assign [.Name x px] e ps => some (ps.line, x, px, e, ps)
  | _ => none
mutual
def wpS (c : Cfg) (PE : XP) : Nat → Stmt → DS → Mu → Po → Prop
  | 0, _, _, _, _ => False
  | n + 1, st, ds, μ, Z => match st with
    | .Expr e _ => ifB (!(isComp e)) (wpE c PE n e ds μ fun _ μ1 => Z.nx ds μ1)
    | .Pass _ => Z.nx ds μ
    | .Break _ => Z.bk ds μ
    | .Continue _ => Z.ct ds μ
    | .Return none _ => Z.rt .non μ
    | .Return (some e) _ => match c.mf.contains "^" with
      | false => wpE c PE n e ds μ Z.rt
      | true => wpF c PE n e ds μ fun p m => Z.rt (.ref p) m
    | .If t l1 l2 _ => wpT c PE n t ds μ fun z μ1 => wIf z (wpSS c PE n l1 ds μ1 Z) (wpSS c PE n l2 ds μ1 Z)
    | .For tg iter body [] _ => wpI c PE (isTup tg) n iter ds μ fun xs μ1 => forW (fun x ds2 μ2 Z2 => wpG c.N c.sc (List.range c.N.length) n tg x ds2 fun ds3 => wpSS c PE n body ds3 μ2 Z2) Z xs ds μ1
    | .While t body [] _ => whW (fun ds2 μ2 K => wpT c PE n t ds2 μ2 K) (fun ds2 μ2 Z2 => wpSS c PE n body ds2 μ2 Z2) ds μ Z
    | .Raise (some (.Call (.Name x _) [e] [] _)) none _ => ifB (notStar e && gloB c.sc x) (match c.g x with
      | some (.exc a fld text) => wpE c PE n e ds μ fun d μ1 => PE a [(fld, d), (("code" : Str), .str text)] μ1
      | _ => False)
    | .Assign [.Name x px] (.ListComp elt gens scope p) ps => match swName c.sc x px p scope with
      | true => match gens with
        | [⟨tg, iter, ifs, 0⟩] => match ixOf x c.N with
          | some i => ifB (blkC c.N c.sc scope (ownOf c.N scope)) (match xlB c with
            | false => wpI c PE (isTup tg) n iter ds μ fun xs μ1 =>
              lcW (fun x μ2 Q => wpG c.N scope ((ownOf c.N scope).map (·.2)) n tg x (wipeD ds ((ownOf c.N scope).map (·.2))) fun ds2 =>
                wpFs { c with sc := relS scope c.sc, g := noAsk c.g, mf := [] } noX n ifs ds2 μ2 (fun μ3 => wpE { c with sc := relS scope c.sc, g := noAsk c.g, mf := [] } noX n elt ds2 μ3 fun d μ4 => Q (some d) μ4) (fun μ3 => Q none μ3)) xs μ1 fun ys μ2 => Z.nx (ds.set i (some (.lst ys))) μ2
            | true => wpI c PE (isTup tg) n iter ds μ fun xs μ1 =>
              lcX (fun L x μ2 Q => wpG c.N scope ((ownOf c.N scope).map (·.2)) n tg x (wipeD ds ((ownOf c.N scope).map (·.2))) fun ds2 =>
                wpFs { c with sc := relS scope c.sc, g := noAsk c.g, mf := [] } noX n ifs ds2 μ2 (fun μ3 => wpE { c with sc := relS scope c.sc, g := noAsk c.g, mf := [] } (xdel PE L) n elt ds2 μ3 fun d μ4 => Q (some d) μ4) (fun μ3 => Q none μ3)) xs μ1 fun ys μ2 => Z.nx (ds.set i (some (.lst ys))) μ2)
          | none => False
        | _ => False
      | false => wpE c PE n (.ListComp elt gens scope p) ds μ fun d μ1 => wpG c.N c.sc (List.range c.N.length) n (.Name x px) d ds fun ds1 => Z.nx ds1 μ1
    | .Assign [.Name x px] e _ => ifB (!(isComp e)) (wpE c PE n e ds μ fun d μ1 => wpG c.N c.sc (List.range c.N.length) n (.Name x px) d ds fun ds1 => Z.nx ds1 μ1)
    | .Assign [.Tuple ts kt pt] (.Tuple vs kv pv) _ => match swSt c.sc ts vs with
      | some none => wpE c PE n (.Tuple vs kv pv) ds μ fun d μ1 => wpG c.N c.sc (List.range c.N.length) n (.Tuple ts kt pt) d ds fun ds1 => Z.nx ds1 μ1
      | some (some _) => match ts, vs with
        | [.Name x px, .Name y py], [a, b] => match ixOf x c.N, ixOf y c.N with
          | some i, some j => ifB (c.sc.names.lookup x == some .local && c.sc.names.lookup y == some .local && !(i == j)) (wpA c PE n [a, b] ds μ fun xs μ1 => match xs with
            | [v, w] => Z.nx ((ds.set i (some v)).set j (some w)) μ1
            | _ => False)
          | _, _ => False
        | _, _ => False
      | none => False
    | .Assign [.Tuple ts kt pt] e _ => ifB (!(isComp e)) (wpE c PE n e ds μ fun d μ1 => wpG c.N c.sc (List.range c.N.length) n (.Tuple ts kt pt) d ds fun ds1 => Z.nx ds1 μ1)
    | .Assign [.Subscript o i p] e _ => ifB (!(isComp e) && plainIx i) (wpE c PE n e ds μ fun d μ1 => wpE c PE n o ds μ1 fun x μ2 => wpE c PE n i ds μ2 fun y μ3 => setW x y d μ3 fun μ4 => Z.nx ds μ4)
    | .Assign [.Attribute o f p] e _ => ifB (!(isComp e) && baseB o) (match c.mf.contains f with
      | true => wpF c PE n e ds μ fun q μ1 => wpE c PE n o ds μ1 fun x μ2 => fldW f (c.o.fs f) x (.ref q) μ2 fun μ3 => Z.nx ds μ3
      | false => wpE c PE n e ds μ fun d μ1 => wpE c PE n o ds μ1 fun x μ2 => fldW f (c.o.fs f) x d μ2 fun μ3 => Z.nx ds μ3)
    | _ => False
def wpSS (c : Cfg) (PE : XP) : Nat → List Stmt → DS → Mu → Po → Prop
  | 0, _, _, _, _ => False
  | n + 1, l, ds, μ, Z => match l with
    | [] => Z.nx ds μ
    | st :: l => match asgRow st with
      | some (row, x, px, e, ps) => match c.cell row with
        | some k => match ixOf x c.N with
          | some i => ifB (locB c.sc x) (wpF c PE n e ds μ fun p μ1 => wpSS c (xdel PE p) n (l.take k) (ds.set i (some (.ref p))) μ1 { zdel Z p with nx := fun ds2 μ2 => frzW i p ds2 μ2 fun ds3 μ3 => wpSS c PE n (l.drop k) ds3 μ3 Z })
          | none => False
        | none => wpS c PE n st ds μ { Z with nx := fun ds1 μ1 => wpSS c PE n l ds1 μ1 Z }
      | none => wpS c PE n st ds μ { Z with nx := fun ds1 μ1 => wpSS c PE n l ds1 μ1 Z }
end
/-- .. of a def's body -/
structure CxS (c : Cfg) (X : Cx) : Prop extends CxOk c X where
  po : PassesOwn (model X.prog X.w) X.A X.env X.xe
  fn : ∀ x, locB c.sc x = true → X.fn x = true ∨ X.env.scope.names.lookup x = some .local
  exc : ∀ x a fld text, c.g x = some (.exc a fld text) → gloB c.sc x = true → ∀ {PE : XP} {e : Expr} {μ : Mu} {ds : DS} {p pos : Pos} {Q : XP}, notStar e = true → EX X PE μ ds e (fun d μ1 => Q a [(fld, d), (("code" : Str), .str text)] μ1) → MX X PE μ ds (.Call (.Name x p) [e] [] pos) Q
end Hw
set_option Elab.async false
set_option linter.all false
set_option maxRecDepth 100000
set_option maxHeartbeats 8000000
namespace Hw
open PySem L2 PyProof.Rows
theorem GX.imp {X : Cx} {PE : XP} {tg : Expr} {d : D} {ds : DS} {μ : Mu} {R R' : DS → Mu → Prop} (x : GX X PE μ ds tg d R) (h : ∀ s m, R s m → R' s m) : GX X PE μ ds tg d R' :=
  ⟨⟨fun pins s σ H v u Q I r ⟨a, b, c, k⟩ => x.pg.run pins s σ H v u Q I r ⟨a, b, c, fun σ' H' ds' μ' s1 h1 n1 q => k σ' H' ds' μ' s1 h1 n1 (h _ _ q)⟩⟩⟩
theorem wpG_gx {c : Cfg} {X : Cx} {PE : XP} (hx : CxS c X) : ∀ n, (∀ {own : List Nat} {tg : Expr} {d : D} {ds : DS} {μ : Mu} {K : DS → Prop}, wpG c.N c.sc own n tg d ds K → GX X PE μ ds tg d fun ds1 μ1 => μ1 = μ ∧ K ds1) ∧
    (∀ {own : List Nat} {ts : List Expr} {xs : List D} {ds : DS} {μ : Mu} {K : DS → Prop}, ts.all notStar = true → wpGs c.N c.sc own n ts xs ds K → GSX X PE μ ds ts xs fun ds1 μ1 => μ1 = μ ∧ K ds1)
  | 0 => ⟨fun h => by simp [wpG] at h, fun _ h => by simp [wpGs] at h⟩
  | n + 1 => by
    obtain ⟨ih, ihs⟩ := wpG_gx (PE := PE) hx n
    refine ⟨fun {own tg d ds μ K} h => ?_, fun {own ts xs ds μ K} hst h => ?_⟩
    · cases tg with
      | Name x p =>
        simp only [wpG] at h
        split at h
        · next i hi =>
          obtain ⟨h1, h2⟩ := ifB_elim h
          rw [Bool.and_eq_true] at h1
          exact gx_nm i ⟨rfl, h2⟩ hx.nd (by rw [hx.N]; exact ixOf_some hi) (by rw [hx.sc]; exact locB_iff h1.1) (hx.fn x h1.1)
        · exact h.elim
      | Tuple ts k p =>
        simp only [wpG] at h
        obtain ⟨xs, rfl, h⟩ := tupK_elim h
        obtain ⟨h1, h2⟩ := ifB_elim h
        have ha := assignLen (env := X.env) h1
        exact gx_tup (ihs h1 h2) hx.calm ((wpG_has n).2 h2).2 ha.1 ha.2.1
      | _ => simp [wpG] at h
    · cases ts with
      | nil =>
        simp only [wpGs] at h
        obtain ⟨rfl, h⟩ := nilK_elim h
        exact gs_nil ⟨rfl, h⟩
      | cons t ts =>
        cases xs with
        | nil => simp [wpGs, consK] at h
        | cons x xs =>
          simp only [wpGs, consK] at h
          have hst2 := hst
          rw [List.all_cons, Bool.and_eq_true] at hst
          refine gs_cons ((ih h).imp fun ds1 μ1 ⟨e, h1⟩ => by subst e; exact ihs hst.2 h1) ?_
          rw [(assignLen hst2).2.2, (assignLen hst.2).2.2]
          rfl
theorem sw_name {x : Str} {px : Pos} {e : Expr} {env : Env} : swappedStores [.Name x px] e env = pure none := by
  unfold swappedStores
  cases e <;> rfl
theorem sw_sub {o i : Expr} {px : Pos} {e : Expr} {env : Env} : swappedStores [.Subscript o i px] e env = pure none := by
  unfold swappedStores
  cases e <;> rfl
theorem swSt_two {sc : Scope} {x y : Str} {px py : Pos} {vs : List Expr} {names : List Str} (h : swSt sc [.Name x px, .Name y py] vs = some (some names)) : names = [x, y] := by
  unfold swSt at h
  split at h
  · cases h
  · split at h
    · cases h
    · split at h
      · cases h
      · next q =>
        split at h
        · cases h
        · split at h
          · cases h
          · cases h
            simp only [Bool.or_eq_true, bne_iff_ne, not_or, Decidable.not_not] at q
            have q1 := q.1
            unfold swNames at q1 ⊢
            simp only [List.filterMap_cons, List.filterMap_nil] at q1 ⊢
            split at q1 <;> split at q1 <;> simp_all
theorem ssx_zdel' {X : Cx} {PE : XP} {ds : DS} {μ : Mu} {Z : Po} {p : Addr} {N : DS → Mu → Prop} {l : List Stmt} (h : SSX X PE μ ds l { zdel Z p with nx := N }) : SSX X PE μ ds l { Z with nx := N } := ⟨pss_imp h.pss fun D σ H ⟨ho, hs, m⟩ => ⟨ho, hs, m.nx, fun v H' d μ' s h n q => m.rt v H' d _ (s.trans Stp.del) h.del (n.mono Stp.del) q,
  fun σ' H' ds' μ' s h n q => m.bk σ' H' ds' _ (s.trans Stp.del) h.del (n.mono Stp.del) q, fun σ' H' ds' μ' s h n q => m.ct σ' H' ds' _ (s.trans Stp.del) h.del (n.mono Stp.del) q⟩⟩
theorem refK_elim {K : Addr → Mu → Prop} {d : D} {m : Mu} (h : refK K d m) : ∃ p, d = .ref p ∧ K p m := by
  cases d <;> first | exact ⟨_, rfl, h⟩ | exact h.elim
theorem wpF_ex {c : Cfg} {X : Cx} {PE : XP} {n : Nat} {e : Expr} {ds : DS} {μ : Mu} {K : Addr → Mu → Prop} (hx : CxOk c X) (h : wpF c PE n e ds μ K) : EX X PE μ ds e (refK K) := by
  unfold wpF at h
  split at h
  · obtain ⟨h1, h2⟩ := ifB_elim h
    exact ex_lstM (((snd n).A hx h2).imp fun xs m q => ⟨by rw [q.1]; exact Nat.le_trans (of_decide_eq_true h1) (by decide), q.2⟩)
  · obtain ⟨h1, h2⟩ := ifB_elim h
    rw [Bool.and_eq_true, Bool.and_eq_true] at h1
    have := of_decide_eq_true h1.1.1
    subst this
    split at h2
    · next hg => exact ex_callT cr_listM (ax_cons (((snd n).E hx h2).imp fun d m q => ax_nil q) (star1 h1.2)) (hx.gl h1.1.2) (hx.gbt _ hg) (by decide +kernel) (he := star1 h1.2) (hpl := rfl)
    · exact h2.elim
  · obtain ⟨h1, h2⟩ := ifB_elim h
    rename_i elt tg iter ifs scope pp
    have ok : BlkOk X.N X.env.scope scope (ownOf c.N scope) := by rw [hx.N, hx.sc]; exact blkOk_by h1
    refine ex_lcM (ownOf c.N scope) _ (fun x m Q q X' hb => ?_) ((snd n).I hx h2) hx.calm hx.nd ok (wpI_fold h2)
    exact ((wpG_ok n).1 hx hb q).imp fun ds2 h3 X' hb => ((snd n).Fs (hx.blk hb) h3).imp fun z m q => ⟨fun e X' hb => (snd n).E (hx.blk hb) (q.1 e), q.2⟩
  · exact (snd n).E hx h
  · exact h.elim
theorem wpF_noComp {c : Cfg} {PE : XP} {n : Nat} {e : Expr} {ds : DS} {μ : Mu} {K : Addr → Mu → Prop} (h : wpF c PE n e ds μ K) : isComp e = false ∨ ∃ elt tg iter ifs scope p, e = .ListComp elt [⟨tg, iter, ifs, 0⟩] scope p := by
  unfold wpF at h
  split at h
  · exact .inl rfl
  · exact .inl rfl
  · exact .inr ⟨_, _, _, _, _, _, rfl⟩
  · exact .inl rfl
  · exact h.elim
theorem lcL_imp {turn : D → Mu → (Option D → Mu → Prop) → Prop} (ht : ∀ x μ Q Q', turn x μ Q → (∀ o m, Q o m → Q' o m) → turn x μ Q') {L : Addr} {K K' : List D → Mu → Prop} : ∀ {xs acc : List D} {μ : Mu}, lcL turn L K xs acc μ → (∀ a m, K a m → K' a m) → lcL turn L K' xs acc μ
  | [], acc, μ, h, f => f _ _ h
  | x :: xs, acc, μ, h, f => ht _ _ _ _ h fun o m ⟨μ2, e, nl, q⟩ => ⟨μ2, e, nl, lcL_imp ht q f⟩
theorem frzW_imp {i : Nat} {p : Addr} {ds : DS} {μ : Mu} {K K' : DS → Mu → Prop} (h : frzW i p ds μ K) (f : ∀ s m, K s m → K' s m) : frzW i p ds μ K' := by
  obtain ⟨c, d, h1, h2, h3, q⟩ := h
  exact ⟨c, d, h1, h2, h3, f _ _ q⟩
theorem cell_asg {c : Cfg} {X : Cx} {PE : XP} {n i : Nat} {e : Expr} {ds : DS} {μ : Mu} {K : Addr → Mu → Prop} {x : Str} {px ps : Pos} {Z : Po} (hx : CxS c X) (hi : ixOf x c.N = some i) (hl : locB c.sc x = true) (h : wpF c PE n e ds μ K) (hk : ∀ p μ1, K p μ1 → Z.nx (ds.set i (some (.ref p))) μ1) : SX X PE μ ds (.Assign [.Name x px] e ps) Z := by
  have gx : ∀ d m, refK K d m → GX X PE m ds (.Name x px) d Z.nx := fun d m q => by
    obtain ⟨p, rfl, q⟩ := refK_elim q
    exact gx_nm i (hk p m q) hx.nd (by rw [hx.N]; exact ixOf_some hi) (by rw [hx.sc]; exact locB_iff hl) (hx.fn x hl)
  have gen : swapsWith e (some (.Name x px)) ps.line X.env = pure false → SX X PE μ ds (.Assign [.Name x px] e ps) Z := fun hs => sx_asg ((wpF_ex hx.toCxOk h).imp gx) hs sw_name rfl
  rcases wpF_noComp h with hc | ⟨elt, tg, iter, ifs, scope, p, rfl⟩
  · exact gen (swaps_no hc)
  · have hsw0 : swapsWith (.ListComp elt [⟨tg, iter, ifs, 0⟩] scope p) (some (.Name x px)) ps.line X.env = pure (swName X.env.scope x px p scope) := rfl
    cases hsw : swName X.env.scope x px p scope with
    | false => rw [hsw] at hsw0; exact gen hsw0
    | true =>
      rw [hsw] at hsw0
      simp only [wpF] at h
      obtain ⟨h1, h2⟩ := ifB_elim h
      have ok : BlkOk X.N X.env.scope scope (ownOf c.N scope) := by rw [hx.N, hx.sc]; exact blkOk_by h1
      refine sx_setLcM (ownOf c.N scope) i _ (fun x m Q q X' hb => ?_) ((snd n).I hx.toCxOk h2) (fun d m q => ?_) hx.calm hx.nd ok (by rw [hx.N]; exact ixOf_some hi) (by
        simp only [swName, Bool.and_eq_true, beq_iff_eq] at hsw
        exact hsw.1.1.2) hsw0 (wpI_fold h2)
      · exact ((wpG_ok n).1 hx.toCxOk hb q).imp fun ds2 h3 X' hb => ((snd n).Fs (hx.toCxOk.blk hb) h3).imp fun z m q => ⟨fun e X' hb => (snd n).E (hx.toCxOk.blk hb) (q.1 e), q.2⟩
      · obtain ⟨p, rfl, q⟩ := refK_elim q
        exact hk p m q
structure SndS (n : Nat) : Prop where
  S : ∀ {c : Cfg} {X : Cx} {PE : XP} {st : Stmt} {ds : DS} {μ : Mu} {Z : Po}, CxS c X → wpS c PE n st ds μ Z → SX X PE μ ds st Z
  SS : ∀ {c : Cfg} {X : Cx} {PE : XP} {st : List Stmt} {ds : DS} {μ : Mu} {Z : Po}, CxS c X → wpSS c PE n st ds μ Z → SSX X PE μ ds st Z
section
variable {n : Nat} (S : SndS n) {c : Cfg} {X : Cx} {PE : XP} {ds : DS} {μ : Mu} {Z : Po} (hx : CxS c X)
include S hx
theorem SndS.sSS {l : List Stmt} (h : wpSS c PE (n + 1) l ds μ Z) : SSX X PE μ ds l Z := by
  cases l with
  | nil => simp only [wpSS] at h; exact sx_nil h
  | cons st l =>
    have old : (wpS c PE n st ds μ { Z with nx := fun ds1 μ1 => wpSS c PE n l ds1 μ1 Z }) → SSX X PE μ ds (st :: l) Z := fun h => sx_cons ((S.S hx h).imp (fun s m q => S.SS hx q) (fun _ _ q => q) (fun _ _ q => q) fun _ _ q => q)
    simp only [wpSS] at h
    split at h
    · next row x px e ps hr =>
      split at h
      · next k hc =>
        split at h
        · next i hi =>
          obtain ⟨h1, h2⟩ := ifB_elim h
          have est : st = .Assign [.Name x px] e ps := by
            unfold asgRow at hr
            split at hr
            · simp only [Option.some.injEq, Prod.mk.injEq] at hr
              obtain ⟨_, rfl, rfl, rfl, rfl⟩ := hr
              rfl
            · cases hr
          subst est
          refine sx_cons (cell_asg hx hi h1 h2 fun p μ1 q => ?_)
          have mid := ssx_zdel' (ssx_del (S.SS hx q))
          rw [← List.take_append_drop k l]
          exact ssx_app (mid.imp (fun s m q => ssx_frz (frzW_imp q fun s m q => S.SS hx q)) (fun _ _ q => q) (fun _ _ q => q) fun _ _ q => q)
        · exact h.elim
      · exact old h
    · exact old h
theorem SndS.asg {tg e : Expr} {pos : Pos} (hw : swappedStores [tg] e X.env = pure none) (hs : swapsWith e (some tg) pos.line X.env = pure false) (h1 : (assignEach [tg] X.env).map (·.2) = [assign tg X.env])
    (h : wpE c PE n e ds μ fun d μ1 => wpG c.N c.sc (List.range c.N.length) n tg d ds fun ds1 => Z.nx ds1 μ1) : SX X PE μ ds (.Assign [tg] e pos) Z :=
  sx_asg (((snd n).E hx.toCxOk h).imp fun d m q => ((wpG_gx hx n).1 q).imp fun s m2 ⟨e1, q⟩ => by subst e1; exact q) hs hw h1
theorem SndS.sS {st : Stmt} (h : wpS c PE (n + 1) st ds μ Z) : SX X PE μ ds st Z := by
  have hE := fun {e : Expr} {ds : DS} {μ : Mu} {P : DP} (h : wpE c PE n e ds μ P) => (snd n).E hx.toCxOk h
  cases st with
  | Expr e p =>
    simp only [wpS] at h
    obtain ⟨h1, h2⟩ := ifB_elim h
    exact sx_expr (hE h2) (swaps_no (by simpa using h1))
  | Pass p => simp only [wpS] at h; exact sx_pass h
  | Break p => simp only [wpS] at h; exact sx_brk h
  | Continue p => simp only [wpS] at h; exact sx_cnt h
  | Return v p =>
    cases v with
    | none => simp only [wpS] at h; exact sx_retN h
    | some e =>
      simp only [wpS] at h
      split at h
      · exact sx_ret (hE h)
      · exact sx_ret ((wpF_ex hx.toCxOk h).imp fun d m q => by obtain ⟨p, rfl, q⟩ := refK_elim q; exact q)
  | If t l1 l2 p => simp only [wpS] at h; exact sx_if (((snd n).T hx.toCxOk h).imp fun z m q => ⟨fun e => S.SS hx (q.1 e), fun e => S.SS hx (q.2 e)⟩)
  | For tg iter body els p =>
    cases els with
    | nil =>
      simp only [wpS] at h
      exact sx_forW _ (fun x ds2 μ2 Z2 q => ((wpG_gx hx n).1 q).imp fun s m2 ⟨e1, q⟩ => by subst e1; exact S.SS hx q) ((snd n).I hx.toCxOk h) hx.po hx.calm (wpI_fold h)
    | cons a l => simp [wpS] at h
  | While t body els p =>
    cases els with
    | nil =>
      simp only [wpS] at h
      exact sx_whW _ _ (fun ds2 μ2 K q => (snd n).T hx.toCxOk q) (fun ds2 μ2 Z2 q => S.SS hx q) h hx.po
    | cons a l => simp [wpS] at h
  | Raise v cause p =>
    unfold wpS at h
    split at h <;> first | (exact h.elim) | skip
    all_goals first | (rename_i heq; cases heq; done) | skip
    rename_i x p1 e p2 p3 heq
    cases heq
    obtain ⟨h1, h2⟩ := ifB_elim h
    rw [Bool.and_eq_true] at h1
    split at h2
    · next a fld text hg => exact sx_raise (hx.exc x a fld text hg h1.2 h1.1 (hE h2)) hx.calm
    · exact h2.elim
  | Assign ts e p =>
    unfold wpS at h
    split at h <;> first | (exact h.elim) | skip
    all_goals first | (rename_i heq; cases heq; done) | skip
    · rename_i st x px elt gens scope p' ps heq
      cases heq
      have hsw0 : swapsWith (.ListComp elt gens scope p') (some (.Name x px)) p.line X.env = pure (swName X.env.scope x px p' scope) := rfl
      cases hsw : swName c.sc x px p' scope with
      | true =>
        rw [hx.sc, hsw] at hsw0
        simp only [hsw] at h
        split at h
        · next tg iter ifs =>
          split at h
          · next i hi =>
            obtain ⟨h1, h2⟩ := ifB_elim h
            have ok : BlkOk X.N X.env.scope scope (ownOf c.N scope) := by rw [hx.N, hx.sc]; exact blkOk_by h1
            have lc : X.env.scope.names.lookup x = some .local := by
              rw [hx.sc]
              simp only [swName, Bool.and_eq_true, beq_iff_eq] at hsw
              exact hsw.1.1.2
            cases hxl : xlB c with
            | false =>
              rw [hxl] at h2
              refine sx_setLcW (ownOf c.N scope) i _ (fun x m Q q X' hb => ?_) ((snd n).I hx.toCxOk h2) hx.calm hx.nd ok (by rw [hx.N]; exact ixOf_some hi) lc hsw0 (wpI_fold h2)
              exact ((wpG_ok n).1 hx.toCxOk hb q).imp fun ds2 h3 X' hb => ((snd n).Fs (hx.toCxOk.blk hb) h3).imp fun z m q => ⟨fun e X' hb => (snd n).E (hx.toCxOk.blk hb) (q.1 e), q.2⟩
            | true =>
              rw [hxl] at h2
              refine sx_setLcX (hx.fr hxl).1 (hx.fr hxl).2 (ownOf c.N scope) i _ (fun L x m Q q X' hb => ?_) ((snd n).I hx.toCxOk h2) hx.calm hx.nd ok (by rw [hx.N]; exact ixOf_some hi) lc hsw0 (wpI_fold h2)
              exact ((wpG_ok n).1 hx.toCxOk hb q).imp fun ds2 h3 X' hb => ((snd n).Fs (hx.toCxOk.blk hb) h3).imp fun z m q => ⟨fun e X' hb => (snd n).E (hx.toCxOk.blkX hb) (q.1 e), q.2⟩
          · exact h.elim
        · exact h.elim
      | false =>
        rw [hx.sc, hsw] at hsw0
        simp only [hsw] at h
        exact S.asg hx rfl hsw0 rfl h
    · rename_i st x px e2 ps _ heq
      cases heq
      obtain ⟨h1, h2⟩ := ifB_elim h
      exact S.asg hx (sw_name) (swaps_no (by simpa using h1)) rfl h2
    · rename_i st ts2 kt pt vs kv pv ps heq
      cases heq
      cases hsw : swSt c.sc ts2 vs with
      | none => simp only [hsw] at h
      | some r =>
        have hw := fun k1 k2 p1 p2 => swSt_ok (k1 := k1) (k2 := k2) (p1 := p1) (p2 := p2) hx.sc hsw
        cases r with
        | none =>
          simp only [hsw] at h
          exact S.asg hx (hw _ _ _ _) rfl rfl h
        | some names =>
          simp only [hsw] at h
          split at h
          · next x px y py a b =>
            split at h
            · next i j hi hj =>
              obtain ⟨h1, h2⟩ := ifB_elim h
              simp only [Bool.and_eq_true, beq_iff_eq, Bool.not_eq_true', beq_eq_false_iff_ne] at h1
              have e1 := swSt_two hsw
              subst e1
              exact sx_par i j (((snd n).A hx.toCxOk h2).imp fun xs m q => by
                have q2 := q.2
                split at q2
                · exact ⟨_, _, rfl, q2⟩
                · exact q2.elim) hx.calm hx.nd (by rw [hx.N]; exact ixOf_some hi) (by rw [hx.N]; exact ixOf_some hj) h1.2 (by rw [hx.sc]; exact h1.1.1) (by rw [hx.sc]; exact h1.1.2) (hw _ _ _ _) rfl
            · exact h.elim
          · exact h.elim
    · rename_i st ts2 kt pt e2 ps hne heq
      cases heq
      obtain ⟨h1, h2⟩ := ifB_elim h
      exact S.asg hx (swSt_no fun vs k q e => hne _ _ _ e) (swaps_no (by simpa using h1)) rfl h2
    · rename_i st o i p2 e2 ps heq
      cases heq
      obtain ⟨h1, h2⟩ := ifB_elim h
      rw [Bool.and_eq_true] at h1
      have hs : swapsWithSole [.Subscript o i p2] e p.line X.env = pure false := by
        unfold swapsWithSole
        exact swaps_no (by simpa using h1.1)
      exact sx_asg ((hE h2).imp fun d m q => gx_sub ((hE q).imp fun x m2 q => hE q) (fun v => by cases i <;> first | rfl | cases h1.2)) hs sw_sub rfl
    · rename_i st o f p2 e2 ps heq
      cases heq
      obtain ⟨h1, h2⟩ := ifB_elim h
      rw [Bool.and_eq_true] at h1
      obtain ⟨k, hr, ok⟩ := hx.ot
      have hs : swapsWith e (some (.Attribute o f p2)) p.line X.env = pure false := swaps_no (by simpa using h1.1)
      split at h2
      · exact sx_fld (ok.fs f) ((wpF_ex hx.toCxOk h2).imp fun d m q => by
          obtain ⟨a, rfl, q⟩ := refK_elim q
          exact hE q) hs
      · exact sx_fld (ok.fs f) ((hE h2).imp fun d m q => hE q) hs
  | _ => simp [wpS] at h
end
theorem sndS : ∀ n, SndS n
  | 0 => ⟨fun _ h => by simp [wpS] at h, fun _ h => by simp [wpSS] at h⟩
  | n + 1 => ⟨fun hx h => (sndS n).sS hx h, fun hx h => (sndS n).sSS hx h⟩
end Hw
set_option Elab.async false
set_option linter.all false
set_option maxRecDepth 100000
set_option maxHeartbeats 4000000
namespace Hw
open PySem L2 PyProof.Rows
/-! ### what stands behind a letter -/
def letK (F : DP → Prop) (k : DP) : Prop := F k
def letB (F : (Bool → Mu → Prop) → Prop) (k : Bool → Mu → Prop) : Prop := F k
def letS (F : (DS → Mu → Prop) → Prop) (k : DS → Mu → Prop) : Prop := F k
theorem letK_i {F : DP → Prop} {k : DP} (M : DP) (h2 : ∀ d m, M d m → k d m) (h1 : ∀ k, (∀ d m, M d m → k d m) → F k) : letK F k := h1 k h2
theorem letB_i {F : (Bool → Mu → Prop) → Prop} {k : Bool → Mu → Prop} (M : Bool → Mu → Prop) (h2 : ∀ d m, M d m → k d m) (h1 : ∀ k, (∀ d m, M d m → k d m) → F k) : letB F k := h1 k h2
theorem letS_i {F : (DS → Mu → Prop) → Prop} {k : DS → Mu → Prop} (M : DS → Mu → Prop) (h2 : ∀ d m, M d m → k d m) (h1 : ∀ k, (∀ d m, M d m → k d m) → F k) : letS F k := h1 k h2
/-! ### the table of a def's globals -/
section
variable (P : Program) (w : World) (K : PySem.W.Frag) (mg : Str → Option Value) (base : Heap)
/-- a class of exceptions is made by its name -/
def ExcOk (x : Str) (a : Addr) (fld text : Str) : Prop := ∀ X : Cx, X.prog = P → X.K = K → X.mg = mg → X.base = base → Room 3 X.A → Gl X x → ∀ {PE : XP} {e : Expr} {μ : Mu} {ds : DS} {p pos : Pos} {Q : XP}, notStar e = true → EX X PE μ ds e (fun d μ1 => Q a [(fld, d), (("code" : Str), .str text)] μ1) → MX X PE μ ds (.Call (.Name x p) [e] [] pos) Q
def GOk (k : Nat) (x : Str) : GI → Prop
  | .fn sh any => (∀ s ∈ sh, CalG P w K mg base x k s.1 s.2.1 s.2.2) ∧ ∀ W, any = some W → ∀ n, CalG P w K mg base x k n [] W
  | .cls C sh any con sta iso => ((∀ s ∈ sh, CalG P w K mg base x k s.1 s.2.1 s.2.2) ∧ ∀ W, any = some W → ∀ n, CalG P w K mg base x k n [] W) ∧ mg x = some (.ref C) ∧ (∀ f d, con.lookup f = some d → CConst K C f d) ∧
      (∀ s ∈ sta, ∃ g, CSta K C s.1 g ∧ RunA P w K mg base g k s.2.1 s.2.2.1 s.2.2.2) ∧ IsoOk K C iso
  | .bt => mg x = none ∧ ∀ c, kitTab.lookup x = some c → SubTab K c
  | .cst d => ∃ v u, mg x = some u ∧ RelV v u ∧ ∀ μ H, Den K μ H v d
  | .exc a fld text => 3 ≤ k ∧ ExcOk P K mg base x a fld text
  | .ask _ _ _ => False
def GAll (k : Nat) (gt : List (Str × GI)) : Prop := ∀ p ∈ gt, GOk P w K mg base k p.1 p.2
end
section
variable {P : Program} {w : World} {K : PySem.W.Frag} {mg : Str → Option Value} {base : Heap}
theorem GAll.nil {k : Nat} : GAll P w K mg base k [] := fun _ h => by cases h
theorem GAll.cons {k : Nat} {x : Str} {i : GI} {gt : List (Str × GI)} (h : GOk P w K mg base k x i) (t : GAll P w K mg base k gt) : GAll P w K mg base k ((x, i) :: gt) := fun p hp => by
  rcases List.mem_cons.mp hp with e | e
  · subst e; exact h
  · exact t p e
/-- the ways of calling -/
def ShAll (P : Program) (w : World) (K : PySem.W.Frag) (mg : Str → Option Value) (base : Heap) (x : Str) (k : Nat) (sh : List (Nat × List Str × CT)) : Prop := ∀ s ∈ sh, CalG P w K mg base x k s.1 s.2.1 s.2.2
theorem ShAll.nil {x : Str} {k : Nat} : ShAll P w K mg base x k [] := fun _ h => by cases h
theorem ShAll.cons {x : Str} {k j n : Nat} {ks : List Str} {W : CT} {sh : List (Nat × List Str × CT)} (h : CalG P w K mg base x j n ks W) (l : j ≤ k) (t : ShAll P w K mg base x k sh) : ShAll P w K mg base x k ((n, ks, W) :: sh) := fun p hp => by
  rcases List.mem_cons.mp hp with e | e
  · subst e; exact h.mono l
  · exact t p e
/-- the configuration of a def -/
def cfgOf (N : List Str) (st : Stmt) (gt : List (Str × GI)) (o : OT := {}) (cl : List (Nat × Nat) := []) (mf : List Str := []) : Cfg := { N := N, sc := defScope st, g := fun x => gt.lookup x, o := o, cell := fun r => cl.lookup r, mf := mf }
theorem cx0_of {st : Stmt} {N : List Str} {k : Nat} {gt : List (Str × GI)} {X : Cx} {c : Cfg} (hc : ∀ x i, c.g x = some i → gt.lookup x = some i) (ga : GAll P w K mg base k gt) (h1 : X.prog = P) (h2 : X.w = w) (h3 : X.K = K) (h4 : X.mg = mg) (h5 : X.base = base) {j : Nat} (ot : OTok P w K mg base j c.o) (hj : j + 1 ≤ k) (hN : X.N = c.N) (nd : X.N.Nodup) (hs : X.env.scope = c.sc) (hcalm : X.calm = true) (hr : Rm k X.A) (hfr : xlB c = true → X.stack = X.env :: X.outer ∧ X.env.frame = some X.env.locals) : CxOk0 c X := by
  subst h1 h2 h3 h4 h5
  have look : ∀ {x : Str} {i : GI}, c.g x = some i → GOk X.prog X.w X.K X.mg X.base k x i := fun h => ga _ (PySem.mem_of_lookup (hc _ _ h))
  exact ⟨hN, nd, hs, hcalm, ⟨k, hr⟩, fun x sh any h => ⟨fun s hs => ⟨k, hr, (look h).1 s hs⟩, fun W e => ⟨k, hr, (look h).2 W e⟩⟩, fun x C sh any con sta iso h => ⟨⟨fun s hs => ⟨k, hr, (look h).1.1 s hs⟩, fun W e => ⟨k, hr, (look h).1.2 W e⟩⟩, ⟨(look h).2.1, (look h).2.2.1, fun s hs => let ⟨g, c1, c2⟩ := (look h).2.2.2.1 s hs; ⟨g, k, c1, hr, c2⟩, (look h).2.2.2.2⟩⟩, ⟨j, hr.mono hj, ot⟩, fun x h => (look h).1, fun x d h => look h, fun t c h1 h2 => (look h2).2 c h1, hfr⟩
theorem cxs_of {qual : Str} {st : Stmt} {f : Addr} {N ps : List Str} {k : Nat} {gt : List (Str × GI)} {o : OT} {cl : List (Nat × Nat)} {mf : List Str} {j : Nat} (S : FnScope N ps (defScope st)) (ga : GAll P w K mg base k gt) (ot : OTok P w K mg base j o) (hj : j + 1 ≤ k) {cdv : Value} {A : Around} {outer : List Env} {s : Shared} {H : Hp} {E : XK}
    (hr : Rm k (bodyCx P w K mg base N qual st f cdv A outer s H E).A) : CxS (cfgOf N st gt o cl mf) (bodyCx P w K mg base N qual st f cdv A outer s H E) := by
  have look : ∀ {x : Str} {i : GI}, gt.lookup x = some i → GOk P w K mg base k x i := fun h => ga _ (PySem.mem_of_lookup h)
  have h0 : CxOk0 (cfgOf N st gt o cl mf) (bodyCx P w K mg base N qual st f cdv A outer s H E) := cx0_of (st := st) (N := N) (gt := gt) (fun _ _ h => h) ga rfl rfl rfl rfl rfl ot hj rfl S.nd rfl rfl hr fun _ => ⟨rfl, rfl⟩
  exact { toCxOk0 := h0, ask := fun x tT q tab h => (look h).elim, po := passes_of rfl, fn := fun _ _ => .inl rfl,
          exc := fun x a fld text h hg {PE e μ ds p pos Q} h1 h2 => (look h).2 _ rfl rfl rfl rfl (hr.r.mono (look h).1) (by show List.lookup x (defScope st).names = _; exact gloB_iff hg) h1 h2 }
/-- what is reckoned of a def's body -/
abbrev bodyW (c : Cfg) (n : Nat) (st : Stmt) (xs : List D) (μ : Mu) (R : DP) (PE : XP) : Prop := wpSS c PE n (defBody st) (xs.map some ++ List.replicate (c.N.length - xs.length) none) μ { nx := fun _ μ' => R .non μ', rt := R }
/-- a def keeps what is reckoned of its body -/
theorem fn_okW {x qual : Str} {st : Stmt} {f : Addr} {fd : FuncData} {N ps : List Str} {k : Nat} {gt : List (Str × GI)} {o : OT} {cl : List (Nat × Nat)} {mf : List Str} {j : Nat} {C : CT} (n : Nat) (F : Fun K x qual st f fd) (S : FnScope N ps (defScope st)) (ga : GAll P w K mg base k gt) (ot : OTok P w K mg base j o) (hj : j + 1 ≤ k) (len : ∀ xs μ R RE, C xs μ R RE → xs.length = ps.length)
    (hb : ∀ xs μ R PE, C xs μ R PE → bodyW (cfgOf N st gt o cl mf) n st xs μ R PE) : FnG P w K mg base (k + 1) f fd ps C :=
  fn_ok F S len fun xs μ R PE cdv A outer s H E hr h => (sndS n).SS (cxs_of S ga ot hj hr) (hb xs μ R PE h)
/-- .. with *v -/
theorem fn_okWS {x qual pv : Str} {st : Stmt} {f : Addr} {fd : FuncData} {N ps : List Str} {k : Nat} {gt : List (Str × GI)} {o : OT} {cl : List (Nat × Nat)} {mf : List Str} {j : Nat} {C : CT} (n : Nat) (F : Fun K x qual st f fd) (S : FnScope N (ps ++ [pv]) (defScope st)) (sb : StarBind x qual st ps pv) (ga : GAll P w K mg base k gt) (ot : OTok P w K mg base j o) (hj : j + 1 ≤ k)
    (hb : ∀ xs μ R PE, C xs μ R PE → bodyW (cfgOf N st gt o cl mf) n st xs μ R PE) (m : Nat) : RunA P w K mg base f (k + 1) m [] (starW ps.length C) :=
  fn_okStar F S sb (fun xs μ R PE cdv A outer s H E hr h => (sndS n).SS (cxs_of S ga ot hj hr) (hb xs μ R PE h)) m
/-- a promise at the def's address -/
theorem FnG.run0 {x qual : Str} {st : Stmt} {f : Addr} {fd : FuncData} {ps : List Str} {k n : Nat} {C : CT} (F : FnG P w K mg base k f fd ps C) (hF : Fun K x qual st f fd) (hb : Binds K fd ps []) (hn : ps.length = n) : RunA P w K mg base f k n [] C := by
  refine ⟨hF.kp, fun A outer s H us ws vs Q E hr e0 h1 h2 r sp => ?_⟩
  obtain rfl : ws = [] := by cases ws <;> first | rfl | cases h2
  rw [List.append_nil] at r
  have b := hb s us (fun b o e => (e0.bs b o (e0.mod.kin b o e)).1) (by rw [List.append_nil, h1, hn])
  rw [List.append_nil] at b
  exact F.run A outer s H ⟨us, []⟩ us vs Q E hr e0 b r sp
theorem FnG.runK {x qual : Str} {st : Stmt} {f : Addr} {fd : FuncData} {ps ks : List Str} {k n : Nat} {idx : List Nat} {C : CT} (F : FnG P w K mg base k f fd ps C) (hF : Fun K x qual st f fd) (hb : KwOk x qual st ps ks n idx) : RunA P w K mg base f k n ks fun zs μ P PE => zs.length = n + ks.length ∧ C (pick idx zs) μ P PE := by
  refine ⟨hF.kp, fun A outer s H us ws vs Q E hr e0 h1 h2 r ⟨μ, ds, R, RE, ho, n1, ⟨hl, c1⟩, kR, kE⟩ => ?_⟩
  obtain ⟨oc, od, kV, doc, pm, an, cdv, ct, osl, e, _, _⟩ := hF.ex
  subst e
  exact F.run A outer s H ⟨us, ks.zip ws⟩ _ (pick idx vs) Q E hr e0 (.of_eq (hb kV doc pm an cdv ct us ws h1 h2)) (Vals.pick r idx) ⟨μ, _, R, RE, ho, n1.pick idx, c1, kR, kE⟩
/-- called with any number of places: it must fit -/
theorem RunA.any {f : Addr} {k m : Nat} {C : CT} (r : RunA P w K mg base f k m [] C) (hl : ∀ xs μ R RE, C xs μ R RE → xs.length = m) (n : Nat) : RunA P w K mg base f k n [] C := by
  refine ⟨r.kp, fun A outer s H us ws vs Q E hr e0 h1 h2 rv sp => ?_⟩
  have e : us.length = m := by
    obtain ⟨μ, ds, R, RE, ho, n1, c1, _⟩ := sp
    have e1 := hl _ _ _ _ c1
    have e2 := rv.length
    rw [n1.length] at e2
    have e3 : ws.length = 0 := h2
    rw [List.length_append, e3] at e2
    omega
  exact r.run A outer s H us ws vs Q E hr e0 e h2 rv sp
/-- a call by places alone -/
theorem Cal.g {x qual : Str} {st : Stmt} {ps : List Str} {k n : Nat} {C : CT} (c : Cal P w K mg base x qual st ps k C) (hn : ps.length = n) : CalG P w K mg base x k n [] C := by
  obtain ⟨f, fd, F, hm, hF, hb⟩ := c.ex
  refine ⟨f, hm, hF.kp, fun A outer s H us ws vs Q E hr e0 h1 h2 r sp => ?_⟩
  obtain rfl : ws = [] := by cases ws <;> first | rfl | cases h2
  rw [List.append_nil] at r
  have b := hb s us (fun b o e => (e0.bs b o (e0.mod.kin b o e)).1) (by rw [List.append_nil, h1, hn])
  rw [List.append_nil] at b
  exact F.run A outer s H ⟨us, []⟩ us vs Q E hr e0 b r sp
/-- .. with keywords -/
theorem Cal.gk {x qual : Str} {st : Stmt} {ps ks : List Str} {k n : Nat} {idx : List Nat} {C : CT} (c : Cal P w K mg base x qual st ps k C) (hb : KwOk x qual st ps ks n idx) : CalG P w K mg base x k n ks fun zs μ P PE => zs.length = n + ks.length ∧ C (pick idx zs) μ P PE := by
  obtain ⟨f, fd, F, hm, hF, _⟩ := c.ex
  refine ⟨f, hm, hF.kp, fun A outer s H us ws vs Q E hr e0 h1 h2 r ⟨μ, ds, R, RE, ho, n1, ⟨hl, c1⟩, kR, kE⟩ => ?_⟩
  obtain ⟨oc, od, kV, doc, pm, an, cdv, ct, osl, e, _, _⟩ := hF.ex
  subst e
  exact F.run A outer s H ⟨us, ks.zip ws⟩ _ (pick idx vs) Q E hr e0 (.of_eq (hb kV doc pm an cdv ct us ws h1 h2)) (Vals.pick r idx) ⟨μ, _, R, RE, ho, n1.pick idx, c1, kR, kE⟩
end
end Hw
set_option Elab.async false
set_option linter.all false
set_option maxRecDepth 100000
set_option maxHeartbeats 4000000
namespace Hw
open PySem L2 PyProof.Rows
section
variable {P : Program} {w : World} {K : PySem.W.Frag} {mg : Str → Option Value} {base : Heap}
/-- an __init__ that says super().__init__(.., *v) alone -/
theorem fn_supW {qual pv : Str} {st : Stmt} {f f2 cda cc Dc : Addr} {fd : FuncData} {N ps : List Str} {k : Nat} {gt : List (Str × GI)} {o : OT} {cl : List (Nat × Nat)} {mf : List Str} {j : Nat} {C W2 : CT} {es : List Expr} {p0 p1 p2 p4 p5 : Pos} (n : Nat)
    (pf : PF P) (O : SupO K Dc f2) (F : SupFn P K qual st Dc f fd cda cc) (kp : PySem.W.keepIn K (.ref f) = true) (S : SupScope N (ps ++ [pv]) (defScope st)) (hp0 : ps.head? = some ("self" : Str)) (har : ∃ ar : Arg, ((defArgs st).posonlyargs ++ (defArgs st).args).head? = some ar ∧ ar.arg = "self")
    (hbody : defBody st = [.Expr (.Call (.Attribute (.Call (.Name "super" p0) [] [] p1) "__init__" p2) es [] p4) p5]) (hes : argS es = true)
    (sb : ∀ (kV doc pm : Value) (an : Option Addr) (ct : Value) (us rest : List Value), us.length = ps.length → bindArgs (PySem.W.ksFn "__init__" qual (defArgs st) (defBody st) (defScope st) .none kV doc pm an (.ref cda) ct cc) ⟨us ++ rest, []⟩ = (newTuple rest >>= fun t => pure (ps.zip us ++ [(pv, t)])))
    (R2 : ∀ n, RunA P w K mg base f2 k n [] W2) (ga : GAll P w K mg base k gt) (ot : OTok P w K mg base j o) (hj : j + 1 ≤ k)
    (hb : ∀ xs μ R PE, C xs μ R PE → ∃ a fs ys, xs = .ref a :: ys ∧ μ a = some (.ins Dc fs) ∧ wpAS (cfgOf N st gt o cl mf) PE n es (xs.map some ++ List.replicate (N.length - xs.length) none) μ fun zs m => W2 (.ref a :: zs) m (fun _ m2 => R .non m2) PE) (m : Nat) :
    RunA P w K mg base f (k + 1) m [] (starW ps.length C) := by
  refine fn_supO (rest := []) pf O F kp S hp0 har hbody hes sb R2 (fun xs μ R PE A outer s H E hr c => ?_) m
  obtain ⟨a, fs, ys, e1, e2, h⟩ := hb xs μ R PE c
  refine ⟨a, fs, ys, fun m2 => R .non m2, e1, e2, ?_, fun m2 q => sx_nil q⟩
  have look : ∀ {x : Str} {i : GI}, gt.lookup x = some i → GOk P w K mg base k x i := fun h => ga _ (PySem.mem_of_lookup h)
  have h0 : CxOk0 (cfgOf N st gt o cl mf) (supCx P w K mg base N qual (defScope st) f cda cc A outer s H E) := cx0_of (st := st) (N := N) (gt := gt) (fun _ _ h => h) ga rfl rfl rfl rfl rfl ot hj rfl S.nd rfl rfl hr fun _ => ⟨rfl, rfl⟩
  have hx : CxOk (cfgOf N st gt o cl mf) (supCx P w K mg base N qual (defScope st) f cda cc A outer s H E) := ⟨h0, fun x tT q tab h => (look h).elim⟩
  exact ((snd n).AS hx h).2 hes
end
end Hw
set_option Elab.async false
set_option linter.all false
set_option maxRecDepth 100000
set_option maxHeartbeats 1000000
namespace Hw
open PySem L2 PyProof.Rows
/-! ### what is reckoned, simplified -/
section
variable {i j : Int} {s t : Str} {b c : Bool} {x y : D} {xs ys : List D} {μ : Mu} {P : Bool → Prop} {R : D → Prop} {DPk : DP}
theorem q_lt : cmpW .Lt (.int i) (.int j) P = P (decide (i < j)) := rfl
theorem q_le : cmpW .LtE (.int i) (.int j) P = P (decide (i ≤ j)) := rfl
theorem q_gt : cmpW .Gt (.int i) (.int j) P = P (decide (j < i)) := rfl
theorem q_ge : cmpW .GtE (.int i) (.int j) P = P (decide (j ≤ i)) := rfl
theorem data_int : dataD (.int i) = true := rfl
theorem data_bl : dataD (.bl b) = true := rfl
theorem data_non : dataD .non = true := rfl
theorem eqv_int : eqvD (.int i) (.int j) = decide (i = j) := by
  simp only [eqvD, toPy, PyData.eqv]; rfl
theorem q_eqI : cmpW .Eq (.int i) (.int j) P = P (decide (i = j)) := by
  show P (decide (V.int i = V.int j)) = _
  congr 1; rw [Bool.eq_iff_iff]; simp
theorem q_neI : cmpW .NotEq (.int i) (.int j) P = P (!decide (i = j)) := by
  show P (!decide (V.int i = V.int j)) = _
  congr 2; rw [Bool.eq_iff_iff]; simp
theorem q_add : binOk .Add (.int i) (.int j) R = R (.int (i + j)) := rfl
theorem q_sub : binOk .Sub (.int i) (.int j) R = R (.int (i - j)) := rfl
theorem q_mul : binOk .Mult (.int i) (.int j) R = ((CMul i j ∨ CMulW i j) ∧ R (.int (i * j))) := rfl
theorem q_div : binOk .FloorDiv (.int i) (.int j) R = ((j ≠ 0 ∧ j.natAbs.log2 < 9000) ∧ R (.int (i.fdiv j))) := rfl
theorem q_mod : binOk .Mod (.int i) (.int j) R = (j ≠ 0 ∧ R (.int (i.fmod j))) := rfl
theorem q_ixT {k : Nat} : ixA μ (.tup xs) (.int (k : Int)) R = ∃ d, L2.atI xs (k : Int) = some d ∧ R d := rfl
theorem q_ix0 : ixA μ (.tup (x :: xs)) (.int 0) R = R x := by
  show (∃ d, L2.atI (x :: xs) 0 = some d ∧ R d) = R x
  have e : L2.atI (x :: xs) 0 = some x := by simp [L2.atI, ixN]
  simp [e]
theorem q_ix1 : ixA μ (.tup (x :: y :: xs)) (.int 1) R = R y := by
  show (∃ d, L2.atI (x :: y :: xs) 1 = some d ∧ R d) = R y
  have e : L2.atI (x :: y :: xs) 1 = some y := by
    have h : (1 : Int) < (xs.length : Int) + 1 + 1 := by omega
    simp [L2.atI, ixN, h]
  simp [e]
theorem q_intK {K : Int → Prop} : intK (.int i) K = K i := rfl
theorem q_truB : truK (.bl b) P = P b := rfl
theorem q_truI : truK (.int i) P = P (i != 0) := rfl
theorem q_wIf {A B : Prop} : wIf b A B = ((b = true → A) ∧ (b = false → B)) := rfl
theorem q_abs : absOk [.int i] μ DPk = DPk (.int (if i < 0 then -i else i)) μ := rfl
theorem q_lenT : lenOk [.tup xs] μ DPk = DPk (.int xs.length) μ := rfl
theorem q_lenL : lenOk [.lst xs] μ DPk = DPk (.int xs.length) μ := rfl
end
section
variable {d : D} {l : DS} {x : Option D} {n : Nat} {K : D → Prop}
theorem get_0 : dsGet (some d :: l) 0 K = K d := rfl
theorem get_s : dsGet (x :: l) (n + 1) K = dsGet l n K := rfl
theorem set_0 {y : Option D} : (x :: l).set 0 y = y :: l := rfl
theorem set_s {y : Option D} : (x :: l).set (n + 1) y = x :: l.set n y := rfl
end
section
variable {d x : D} {xs : List D} {K : Prop} {KK : List D → Prop} {KX : D → List D → Prop}
theorem q_tupK : tupK (.tup xs) KK = KK xs := rfl
theorem q_consK : consK (x :: xs) KX = KX x xs := rfl
theorem q_nilK : nilK [] K = K := rfl
theorem q_itL : itemsK (.lst xs) KK = KK xs := rfl
theorem q_itT : itemsK (.tup xs) KK = KK xs := rfl
theorem q_itR : itemsK (.rol xs) KK = KK xs := rfl
end
end Hw
set_option Elab.async false
set_option linter.all false
set_option maxRecDepth 100000
set_option maxHeartbeats 1000000
namespace Hw
open PySem L2 PyProof.Rows
/-! ### what the printed links lean on -/
/-- a def at an address -/
structure FunM (K : PySem.W.Frag) (x qual : Str) (st : Stmt) (f : Addr) : Prop where
  ex : ∃ fd, Fun K x qual st f fd
theorem FunM.mk' {K : PySem.W.Frag} {x qual : Str} {st : Stmt} {f : Addr} {oc : Value} {od an : Option Addr} {osl : Array (Option Value)} {kV doc pm cdv ct : Value}
    (l : K.lookup f = some ⟨oc, od, .func (PySem.W.fnOf x qual (defArgs st) (defBody st) (defScope st) .none kV doc pm an cdv ct), osl⟩) (c : PySem.W.codeIn K cdv qual = true) (k : PySem.W.keepIn K (.ref f) = true) : FunM K x qual st f :=
  ⟨_, fun_mk l c k⟩
/-- an __init__ with super().__init__, its def, the class, the def above -/
structure SupI (P : Program) (K : PySem.W.Frag) (qual : Str) (st : Stmt) (D f f2 : Addr) : Prop where
  o : SupO K D f2
  kp : PySem.W.keepIn K (.ref f) = true
  ex : ∃ fd cda cc, SupFn P K qual st D f fd cda cc
theorem SupI.mk' {P : Program} {K : PySem.W.Frag} {qual : Str} {st : Stmt} {D f f2 cda cc : Addr} {cd : ClassData} {oc ccl cl kV doc pm ct : Value} {od cdd cld an : Option Addr} {osl ccs csl : Array (Option Value)} {vs : Array Value} {file : Str} {tf : Tok}
    (cls : PySem.W.clsIn K D = some cd) (mro : PySem.W.mroIn K D (.ref D) = some true) (sup : PySem.W.ks_superIn K D D "__init__" = some (some (.ref f2))) (any : PySem.W.nsIn K cStatics "thirdparty.any" = some none) (blt : PySem.W.nsIn K mainGlobals "super" = some none)
    (ty : PySem.W.typeIn K (.ref f2) = some (.type "function")) (fi : PySem.W.fnIn K f2 = true) (kp : PySem.W.keepIn K (.ref f) = true)
    (lf : K.lookup f = some ⟨oc, od, .func (PySem.W.ksFn "__init__" qual (defArgs st) (defBody st) (defScope st) .none kV doc pm an (.ref cda) ct cc), osl⟩) (cI : PySem.W.codeIn K (.ref cda) qual = true) (lc : K.lookup cda = some ⟨ccl, cdd, .fields vs, ccs⟩) (hv : vs[2]? = some (.str file tf)) (hfile : ((P.main.file : Str) == file) = true)
    (lcc : K.lookup cc = some ⟨cl, cld, .cell (some (.ref D)), csl⟩) : SupI P K qual st D f f2 :=
  ⟨⟨⟨cd, cls⟩, mro, sup, any, blt, ty, fi⟩, kp, _, cda, cc, ⟨oc, ccl, cl, kV, doc, pm, ct, od, cdd, cld, an, osl, ccs, csl, vs, file, tf, rfl, lf, cI, lc, hv, hfile, lcc⟩⟩
/-- called with keywords -/
def kwW (m : Nat) (idx : List Nat) (C : CT) : CT := fun zs μ P PE => zs.length = m ∧ C (pick idx zs) μ P PE
abbrev w__law_source (cl : Str → Addr) : CT := sourceC
abbrev w__law_draw (cl : Str → Addr) : CT := drawC
abbrev w__law_of (cl : Str → Addr) : CT := ofC
abbrev w__law_same (cl : Str → Addr) : CT := sameC
/-- addresses by texts -/
def clF (l : List (Str × Addr)) (x : Str) : Addr := match l.lookup x with
  | some a => a
  | none => 0
theorem all_nil {α : Type} {p : α → Prop} : ∀ e ∈ ([] : List α), p e := fun _ h => by cases h
theorem all_cons {α : Type} {p : α → Prop} {a : α} {l : List α} (h : p a) (t : ∀ e ∈ l, p e) : ∀ e ∈ a :: l, p e := fun e he => by
  rcases List.mem_cons.mp he with q | q
  · rw [q]; exact h
  · exact t e q
def tab {α : Type} (l : List (Str × List α)) (f : Str) : List α := match l.lookup f with
  | some r => r
  | none => []
theorem tab_ok {α : Type} {p : Str → α → Prop} {l : List (Str × List α)} (h : ∀ x ∈ l, ∀ e ∈ x.2, p x.1 e) : ∀ f, ∀ e ∈ tab l f, p f e := fun f e he => by
  unfold tab at he
  split at he
  · next r q => exact h _ (PySem.mem_of_lookup q) e he
  · cases he
section
variable {P : Program} {w : World} {K : PySem.W.Frag} {mg : Str → Option Value} {base : Heap}
theorem RunA.calg {x : Str} {f : Addr} {k n : Nat} {ks : List Str} {W : CT} (r : RunA P w K mg base f k n ks W) (hm : mg x = some (.ref f)) : CalG P w K mg base x k n ks W := ⟨f, hm, r.kp, fun A outer s H us ws vs Q E hr e0 h1 h2 rv sp => r.run A outer s H us ws vs Q E hr e0 h1 h2 rv sp⟩
theorem calS_of {x : Str} {st : Stmt} {k : Nat} {W : CT} (T : Tb K mg base) (F : FunAt K x st) (h : ∀ f fd, Fun K x x st f fd → ∀ m, RunA P w K mg base f k m [] W) (n : Nat) : CalG P w K mg base x k n [] W := by
  obtain ⟨f, fd, a, F⟩ := F.ex
  exact (h f fd F n).calg (T.som a)
theorem anyNo {x : Str} {k : Nat} : ∀ W, (none : Option CT) = some W → ∀ n, CalG P w K mg base x k n [] W := fun _ h => by cases h
theorem anyYes {x : Str} {k j : Nat} {W : CT} (c : ∀ n, CalG P w K mg base x j n [] W) (l : j ≤ k) : ∀ W', some W = some W' → ∀ n, CalG P w K mg base x k n [] W' := fun _ h n => by cases h; exact (c n).mono l
/-- a constant of a flat kind -/
theorem cst_int {x : Str} {i : Int} (T : Tb K mg base) (h : ∃ t, PySem.W.nsIn K mainGlobals x = some (some (.int i t))) : ∃ v u, mg x = some u ∧ RelV v u ∧ ∀ μ H, Den K μ H v (.int i) := by
  obtain ⟨t, h⟩ := h
  exact ⟨.int i, _, T.som h, ⟨_, rfl⟩, fun _ _ => .int _⟩
theorem cst_str {x : Str} {i : Str} (T : Tb K mg base) (h : ∃ t, PySem.W.nsIn K mainGlobals x = some (some (.str i t))) : ∃ v u, mg x = some u ∧ RelV v u ∧ ∀ μ H, Den K μ H v (.str i) := by
  obtain ⟨t, h⟩ := h
  exact ⟨.str i, _, T.som h, ⟨_, rfl⟩, fun _ _ => .str _⟩
theorem AEok.mono {k k' : Nat} {f : Str} {e : AE} (h : AEok P w K mg base k f e) (l : k ≤ k') : AEok P w K mg base k' f e := by
  cases e with
  | fld Cs => exact h
  | con Cs d => exact h
  | prop Cs W => exact fun C hC => let ⟨c, p, g, a, r⟩ := h C hC; ⟨c, p, g, a, r.mono l⟩
theorem AEok.all {k k' : Nat} {f : Str} {l : List AE} (h : ∀ e ∈ l, AEok P w K mg base k f e) (q : k ≤ k') : ∀ e ∈ l, AEok P w K mg base k' f e := fun e he => (h e he).mono q
theorem con_str {C : Addr} {f s : Str} (h : ∃ u, Con K C f (.str s) u) : ∃ v u, Con K C f v u ∧ ∀ μ H, Den K μ H v (.str s) := h.elim fun u h => ⟨_, u, h, fun _ _ => .str s⟩
theorem con_bl {C : Addr} {f : Str} {b : Bool} (h : ∃ u, Con K C f (.bl b) u) : ∃ v u, Con K C f v u ∧ ∀ μ H, Den K μ H v (.bl b) := h.elim fun u h => ⟨_, u, h, fun _ _ => .bl b⟩
theorem con_int {C : Addr} {f : Str} {i : Int} (h : ∃ u, Con K C f (.int i) u) : ∃ v u, Con K C f v u ∧ ∀ μ H, Den K μ H v (.int i) := h.elim fun u h => ⟨_, u, h, fun _ _ => .int i⟩
/-- what == of a class leans on -/
structure EqF (K : PySem.W.Frag) (C g : Addr) : Prop where
  at_ : PySem.W.findIn K (.ref C) "__eq__" = some (some (.ref g))
  fn : PySem.W.isFn K (.ref g) = true
  ne : PySem.W.findIn K (.ref C) "__ne__" = some (some (.builtin "object.__ne__"))
  top : PySem.W.mroIn K C (.type "object") = some true
  bs : (baseT.all fun n => PySem.W.subIn K (.type n) (.ref C) == some false) = true
theorem EqF.ok {k j : Nat} {e : EqE} {C g : Addr} (h : EqF K C g) (r : RunA P w K mg base g j 2 [] e.W) (l : j ≤ k) (own : ∀ C2 ∈ e.Cs, ∃ b, PySem.W.subIn K (.ref C2) (.ref C) = some b) : EqOk P w K mg base k e C := ⟨⟨g, h.at_, h.fn, r.mono l⟩, h.ne, h.top, h.bs, own⟩
structure SeF (K : PySem.W.Frag) (C g : Addr) (m : Str) : Prop where
  at_ : PySem.W.findIn K (.ref C) m = some (some (.ref g))
  fn : PySem.W.isFn K (.ref g) = true
theorem SeF.ok {k j n : Nat} {W : CT} {C g : Addr} {m : Str} (h : SeF K C g m) (r : RunA P w K mg base g j n [] W) (l : j ≤ k) : ∃ g, PySem.W.findIn K (.ref C) m = some (some (.ref g)) ∧ PySem.W.isFn K (.ref g) = true ∧ RunA P w K mg base g k n [] W := ⟨g, h.at_, h.fn, r.mono l⟩
structure IsoF (K : PySem.W.Frag) (C : Addr) : Prop where
  bs : (baseT.all fun n => PySem.W.kitOne K (.type n) (.ref C) == some false) = true
end
end Hw
set_option Elab.async false
set_option linter.all false
set_option maxRecDepth 100000
set_option maxHeartbeats 4000000
namespace Hw
open PySem L2 PyProof.Rows
theorem bindD (q : Str) (a : Arg) (i : Int) (k : Nat) (p0 : Pos) (body : Expr) (scope : Scope) (cl : List (Str × Addr)) (T0 : Addr) (doc pm cv ctv : Value) : ∃ kk, bindArgs (PySem.W.kdv_fn "<lambda>" q ⟨[], [a], none, [], [], none, [.Constant (.int i) k p0]⟩ (.expr body) scope cl (.ref T0) doc pm cv ctv) ⟨[], []⟩ = seqItems? (.ref T0) >>= kk ∧ ∀ v, kk (some #[v]) = pure [(a.arg, v)] := by
  refine ⟨_, rfl, fun v => ?_⟩
  simp [PySem.W.kdv_fn, List.lookup]
section
variable {P : Program} {w : World} {K : PySem.W.Frag} {mg : Str → Option Value} {base : Heap}
/-! ### the law's own def, where it makes lambdas -/
/-- the globals of a law that asks lambdas -/
def askG (tT : Addr) (tab : List (Str × Str × Addr)) (gt : List (Str × GI)) : List (Str × GI) := ("_law_ask", .ask tT "law.<locals>.<lambda>" tab) :: gt
theorem cx0_of2 {k : Nat} {gt : List (Str × GI)} {X : Cx} {c : Cfg} (hc : ∀ x i, c.g x = some i → (∀ a b t, i ≠ .ask a b t) → gt.lookup x = some i) (ga : GAll P w K mg base k gt) (h1 : X.prog = P) (h2 : X.w = w) (h3 : X.K = K) (h4 : X.mg = mg) (h5 : X.base = base) {j : Nat} (ot : OTok P w K mg base j c.o) (hj : j + 1 ≤ k) (hN : X.N = c.N) (nd : X.N.Nodup) (hs : X.env.scope = c.sc) (hcalm : X.calm = true) (hr : Rm k X.A) (hfr : xlB c = true → X.stack = X.env :: X.outer ∧ X.env.frame = some X.env.locals) : CxOk0 c X := by
  subst h1 h2 h3 h4 h5
  have look : ∀ {x : Str} {i : GI}, c.g x = some i → (∀ a b t, i ≠ .ask a b t) → GOk X.prog X.w X.K X.mg X.base k x i := fun h q => ga _ (PySem.mem_of_lookup (hc _ _ h q))
  exact ⟨hN, nd, hs, hcalm, ⟨k, hr⟩, fun x sh any h => ⟨fun s hs => ⟨k, hr, (look h nofun).1 s hs⟩, fun W e => ⟨k, hr, (look h nofun).2 W e⟩⟩, fun x C sh any con sta iso h => ⟨⟨fun s hs => ⟨k, hr, (look h nofun).1.1 s hs⟩, fun W e => ⟨k, hr, (look h nofun).1.2 W e⟩⟩, ⟨(look h nofun).2.1, (look h nofun).2.2.1, fun s hs => let ⟨g, c1, c2⟩ := (look h nofun).2.2.2.1 s hs; ⟨g, k, c1, hr, c2⟩, (look h nofun).2.2.2.2⟩⟩, ⟨j, hr.mono hj, ot⟩, fun x h => (look h nofun).1, fun x d h => look h nofun, fun t c h1 h2 => (look h2 nofun).2 c h1, hfr⟩
/-- the configuration of a law that asks lambdas -/
def cfgA (N : List Str) (st : Stmt) (tT : Addr) (tab : List (Str × Str × Addr)) (gt : List (Str × GI)) (o : OT := {}) (cl : List (Nat × Nat) := []) (mf : List Str := []) : Cfg := cfgOf N st (askG tT tab gt) o cl mf
theorem askG_some {tT : Addr} {tab : List (Str × Str × Addr)} {gt : List (Str × GI)} {x : Str} {i : GI} (h : (askG tT tab gt).lookup x = some i) : (x = "_law_ask" ∧ i = .ask tT "law.<locals>.<lambda>" tab) ∨ gt.lookup x = some i := by
  unfold askG at h
  rw [List.lookup_cons] at h
  split at h
  · next e => cases h; exact .inl ⟨by simpa using e, rfl⟩
  · exact .inr h
/-- where a lambda is asked -/
def AskR (tT : Addr) (tab : List (Str × Str × Addr)) (k : Nat) (N : List Str) (sc : Scope) (X : Cx) : Prop := ∀ {PE PEb : XP} {μ : Mu} {ds : DS} {P Pb : DP} {params : Arguments} {body : Expr} {scope : Scope} {p lpos pos : Pos}, Gl X "_law_ask" → lamOk N sc params scope = true → askT tT "law.<locals>.<lambda>" μ →
    (∀ (A : Around) (outer : List Env) (s2 : Shared) (H2 : Hp) (E2 : XK) (f c' : Addr), Rm k (LamX.lamCx X A outer s2 H2 E2 scope f c').A → EX (LamX.lamCx X A outer s2 H2 E2 scope f c') PEb μ ds body Pb) →
    (∀ d m, Pb d m → P (.tup [.str "", d]) m) → (∀ Ca fs m, PEb Ca fs m → askX tab Ca fs fun V => P V m) → EX X PE μ ds (.Call (.Name "_law_ask" p) [.Lambda params body scope lpos] [] pos) P
theorem cxs_ask {st : Stmt} {f cd tT : Addr} {tab : List (Str × Str × Addr)} {N ps : List Str} {k : Nat} {gt : List (Str × GI)} {o : OT} {cl : List (Nat × Nat)} {mf : List Str} {j : Nat} (S : FnScope N ps (defScope st)) (ga : GAll P w K mg base k gt) (ot : OTok P w K mg base j o) (hj : j + 1 ≤ k) {A : Around} {outer : List Env} {s : Shared} {H : Hp} {E : XK}
    (hr : Rm (k + 2) (bodyCx P w K mg base N "law" st f (.ref cd) A outer s H E).A) (ask : AskR tT tab k N (defScope st) (bodyCx P w K mg base N "law" st f (.ref cd) A outer s H E)) : CxS (cfgA N st tT tab gt o cl mf) (bodyCx P w K mg base N "law" st f (.ref cd) A outer s H E) := by
  have look : ∀ {x : Str} {i : GI}, (askG tT tab gt).lookup x = some i → (∀ a b t, i ≠ .ask a b t) → GOk P w K mg base k x i := fun h q => by
    rcases askG_some h with ⟨_, rfl⟩ | h
    · exact (q _ _ _ rfl).elim
    · exact ga _ (PySem.mem_of_lookup h)
  have hc : ∀ x i, (cfgA N st tT tab gt o cl mf).g x = some i → (∀ a b t, i ≠ .ask a b t) → gt.lookup x = some i := fun x i h q => by
    rcases askG_some h with ⟨_, rfl⟩ | h
    · exact (q _ _ _ rfl).elim
    · exact h
  have h0 : CxOk0 (cfgA N st tT tab gt o cl mf) (bodyCx P w K mg base N "law" st f (.ref cd) A outer s H E) := cx0_of2 hc ga rfl rfl rfl rfl rfl ot hj rfl S.nd rfl rfl (hr.mono (by omega)) fun _ => ⟨rfl, rfl⟩
  refine { toCxOk0 := h0, ask := fun x t q tb hx hg PE PEb μ ds P2 Pb params body scope p lpos pos hl ht hb hR hX => ?_, po := passes_of rfl, fn := fun _ _ => .inl rfl,
           exc := fun x a fld text h hg {PE e μ ds p pos Q} h1 h2 => (look h nofun).2 _ rfl rfl rfl rfl (hr.r.mono (Nat.le_trans (look h nofun).1 (by omega))) (by show List.lookup x (defScope st).names = _; exact gloB_iff hg) h1 h2 }
  rcases askG_some hx with ⟨rfl, e⟩ | h
  · cases e
    refine ask (by show List.lookup _ (defScope st).names = _; exact gloB_iff hg) hl ht (fun A2 outer2 s2 H2 E2 f2 c2 hr2 => hb _ (cx0_of2 (gt := gt) (fun x i h q => ?_) ga rfl rfl rfl rfl rfl ot hj rfl S.nd rfl rfl hr2 fun q => by cases q)) hR hX
    rcases askG_some (noAsk_some h) with ⟨_, rfl⟩ | h
    · exact (q _ _ _ rfl).elim
    · exact h
  · exact (ga _ (PySem.mem_of_lookup h)).elim
theorem fn_okA {st : Stmt} {f cd tT : Addr} {fd : FuncData} {tab : List (Str × Str × Addr)} {N ps : List Str} {k : Nat} {gt : List (Str × GI)} {o : OT} {cl : List (Nat × Nat)} {mf : List Str} {j : Nat} {C : CT} (n : Nat) (F : FunC K "law" st f cd fd) (S : FnScope N ps (defScope st)) (ga : GAll P w K mg base k gt) (ot : OTok P w K mg base j o) (hj : j + 1 ≤ k) (len : ∀ xs μ R RE, C xs μ R RE → xs.length = ps.length)
    (ask : ∀ (A : Around) (outer : List Env) (s : Shared) (H : Hp) (E : XK), Rm (k + 2) (bodyCx P w K mg base N "law" st f (.ref cd) A outer s H E).A → AskR tT tab k N (defScope st) (bodyCx P w K mg base N "law" st f (.ref cd) A outer s H E))
    (hb : ∀ xs μ R PE, C xs μ R PE → bodyW (cfgA N st tT tab gt o cl mf) n st xs μ R PE) : FnG P w K mg base (k + 3) f fd ps C :=
  fn_okC F S len fun xs μ R PE A outer s H E hr h => (sndS n).SS (cxs_ask S ga ot hj hr (ask A outer s H E hr)) (hb xs μ R PE h)
/-- a def with defaults -/
theorem fn_okWV {x : Str} {st : Stmt} {f T0 : Addr} {dvs : List Value} {fd : FuncData} {N ps : List Str} {k : Nat} {gt : List (Str × GI)} {o : OT} {cl : List (Nat × Nat)} {mf : List Str} {j : Nat} {C : CT} (n : Nat) (F : FunV K x st f T0 dvs fd) (S : FnScope N ps (defScope st)) (ga : GAll P w K mg base k gt) (ot : OTok P w K mg base j o) (hj : j + 1 ≤ k) (len : ∀ xs μ R RE, C xs μ R RE → xs.length = ps.length)
    (hb : ∀ xs μ R PE, C xs μ R PE → bodyW (cfgOf N st gt o cl mf) n st xs μ R PE) : FnG P w K mg base (k + 1) f fd ps C :=
  fn_okV F S len fun xs μ R PE cdv A outer s H E hr h => (sndS n).SS (cxs_of S ga ot hj hr) (hb xs μ R PE h)
/-! ### table entries -/
theorem gok_fn {x : Str} {k : Nat} {sh : List (Nat × List Str × CT)} (h : ShAll P w K mg base x k sh) : GOk P w K mg base k x (.fn sh none) := ⟨h, anyNo⟩
theorem gok_bt {x : Str} {k : Nat} (h : mg x = none) (n : kitTab.lookup x = none) : GOk P w K mg base k x .bt := ⟨h, fun c e => by rw [n] at e; cases e⟩
theorem gok_kit {x : Str} {k : Nat} {c : String} (h : mg x = none) (n : kitTab.lookup x = some c) (t : SubTab K c) : GOk P w K mg base k x .bt := ⟨h, fun c2 e => by rw [n] at e; cases e; exact t⟩
theorem Cal.gw {x qual : Str} {st : Stmt} {ps ks : List Str} {k n : Nat} {idx : List Nat} {C W : CT} (c : Cal P w K mg base x qual st ps k C) (hb : KwOk x qual st ps ks n idx) (l : ∀ zs μ R RE, W zs μ R RE → zs.length = n + ks.length ∧ C (pick idx zs) μ R RE) : CalG P w K mg base x k n ks W := (c.gk hb).weak l
theorem CalV.gw {x : Str} {ps : List Str} {k n : Nat} {C W : CT} {ks : List Str} {idx : List Nat} {dd : List D} (c : CalV P w K mg base x ps k C n ks idx dd) (hf : dd.all flatD = true) (l : ∀ zs μ R RE, W zs μ R RE → zs.length = n + ks.length ∧ C (pick idx zs ++ dd) μ R RE) : CalG P w K mg base x k n ks W := (c.g hf).weak l
end
end Hw
set_option Elab.async false
set_option linter.all false
set_option maxRecDepth 100000
set_option maxHeartbeats 4000000
namespace Hw
open PySem L2 PyProof.Rows
theorem cconst_of {K : PySem.W.Frag} {C : Addr} {f : Str} {d : D} {mc : Value} {v : V} {u : Value} (a : PySem.W.readsIn K C mc = true) (b : PySem.W.specialIn K (.ref C) "__getattribute__" = some (some (.builtin "type.__getattribute__"))) (c : PySem.W.findCls K (.ref C) mc f = some (.val u)) (r : RelV v u) (n : ∀ μ H, Den K μ H v d) : CConst K C f d := ⟨mc, v, u, ⟨a, b⟩, ⟨c, r⟩, n⟩
section
variable {P : Program} {w : World} {K : PySem.W.Frag} {mg : Str → Option Value} {base : Heap}
/-- a method by places -/
theorem FunM.run {x qual : Str} {st : Stmt} {f : Addr} {ps : List Str} {k n : Nat} {C : CT} (F : FunM K x qual st f) (h : ∀ fd, Fun K x qual st f fd → FnG P w K mg base k f fd ps C) (hb : ∀ fd, Fun K x qual st f fd → Binds K fd ps []) (hn : ps.length = n) : RunA P w K mg base f k n [] C := by
  obtain ⟨fd, hF⟩ := F.ex
  exact (h fd hF).run0 hF (hb fd hF) hn
/-- .. with keywords -/
theorem FunM.runW {x qual : Str} {st : Stmt} {f : Addr} {ps ks : List Str} {k n : Nat} {idx : List Nat} {C W : CT} (F : FunM K x qual st f) (h : ∀ fd, Fun K x qual st f fd → FnG P w K mg base k f fd ps C) (hb : KwOk x qual st ps ks n idx) (l : ∀ zs μ R RE, W zs μ R RE → zs.length = n + ks.length ∧ C (pick idx zs) μ R RE) : RunA P w K mg base f k n ks W := by
  obtain ⟨fd, hF⟩ := F.ex
  exact ((h fd hF).runK hF hb).weak l
/-- a def with *v at an address -/
theorem FunM.runS {x qual : Str} {st : Stmt} {f : Addr} {k n : Nat} {W : CT} (F : FunM K x qual st f) (h : ∀ fd, Fun K x qual st f fd → ∀ m, RunA P w K mg base f k m [] W) : RunA P w K mg base f k n [] W := by
  obtain ⟨fd, hF⟩ := F.ex
  exact h fd hF n
theorem SupI.run {qual : Str} {st : Stmt} {D f f2 : Addr} {k n : Nat} {W : CT} (S : SupI P K qual st D f f2) (h : ∀ fd cda cc, SupFn P K qual st D f fd cda cc → ∀ m, RunA P w K mg base f k m [] W) : RunA P w K mg base f k n [] W := by
  obtain ⟨fd, cda, cc, F⟩ := S.ex
  exact h fd cda cc F n
theorem gok_any {x : Str} {k j : Nat} {W : CT} (h : ∀ n, CalG P w K mg base x j n [] W) (l : j ≤ k) : GOk P w K mg base k x (.fn [] (some W)) := ⟨ShAll.nil, anyYes h l⟩
theorem con_nil {K : PySem.W.Frag} {C : Addr} : ∀ f d, ([] : List (Str × D)).lookup f = some d → CConst K C f d := fun _ _ h => by cases h
theorem con_cons {K : PySem.W.Frag} {C : Addr} {f0 : Str} {d0 : D} {l : List (Str × D)} (h : CConst K C f0 d0) (t : ∀ f d, l.lookup f = some d → CConst K C f d) : ∀ f d, ((f0, d0) :: l).lookup f = some d → CConst K C f d := fun f d e => by
  rw [List.lookup_cons] at e
  split at e
  · next q => cases e; rw [show f = f0 by simpa using q]; exact h
  · exact t f d e
theorem iso_nil {K : PySem.W.Frag} {C : Addr} (h : IsoF K C) : IsoOk K C [] := ⟨all_nil, h.bs⟩
theorem iso_ok {K : PySem.W.Frag} {C : Addr} {l : List (Addr × Bool)} (h : IsoF K C) (o : ∀ p ∈ l, IsC K p.1 ∧ PySem.W.kitOne K (.ref p.1) (.ref C) = some p.2) : IsoOk K C l := ⟨o, h.bs⟩
theorem OTok.mono {j k : Nat} {o : OT} (h : OTok P w K mg base j o) (l : j ≤ k) : OTok P w K mg base k o :=
  ⟨fun f e he => (h.a f e he).mono l, h.fs, fun m e he C hC => let ⟨c, g, me, r⟩ := h.m m e he C hC; ⟨c, g, me, r.mono l⟩, fun e he C hC => let q := h.eqs e he C hC; ⟨let ⟨g, a, b, r⟩ := q.ex; ⟨g, a, b, r.mono l⟩, q.ne, q.top, q.bs, q.own⟩,
   fun e he C hC => let ⟨g, a, b, r⟩ := h.lens e he C hC; ⟨g, a, b, r.mono l⟩, fun e he C hC => let ⟨g, a, b, r⟩ := h.reps e he C hC; ⟨g, a, b, r.mono l⟩, fun e he => let ⟨i, hi, q⟩ := h.bools e he; ⟨i, Nat.le_trans hi l, q⟩⟩
/-- a constant tuple of flat data -/
theorem cst_tup {x : Str} {ds : List Hw.D} (T : Tb K mg base) (h : ds.all flatD = true ∧ ∃ a, PySem.W.nsIn K mainGlobals x = some (some (.ref a)) ∧ ∀ H, SqT K H a (ds.map fv)) : ∃ v u, mg x = some u ∧ RelV v u ∧ ∀ μ H, Den K μ H v (.tup ds) := by
  obtain ⟨hf, a, e, hs⟩ := h
  exact ⟨.ref a, _, T.som e, rfl, fun μ H => .tupK hs (DenAll.fvs hf)⟩
/-- a method entry -/
theorem me_ok {k j n : Nat} {m : Str} {ks : List Str} {Cs : List Addr} {W : CT} {g : Addr} (r : RunA P w K mg base g j (n + 1) ks W) (l : j ≤ k) (h : ∀ C ∈ Cs, Cls K C ∧ Meth K C m g) : MEok P w K mg base k m ⟨Cs, n, ks, W⟩ := fun C hC => ⟨(h C hC).1, g, (h C hC).2, r.mono l⟩
end
end Hw
set_option Elab.async false
set_option linter.all false
set_option maxRecDepth 100000
set_option maxHeartbeats 4000000
set_option exponentiation.threshold 2000
namespace Hw
open PySem L2 PyProof.Rows

def topS (i : Nat) : Stmt := PySem.Challenge.pw_heardways_k09_lines_told.main.body.getD i (.Pass ⟨0, 0, 0, 0⟩)
abbrev s_is_integer : Stmt := topS 7
abbrev s_common_divisor : Stmt := topS 8
abbrev s_is_ratio : Stmt := topS 9
abbrev s_is_valued : Stmt := topS 10
abbrev s_ratio_of : Stmt := topS 11
abbrev s_is_name : Stmt := topS 16
abbrev s_made : Stmt := topS 21
abbrev s__law_source : Stmt := topS 23
abbrev s__law_draw : Stmt := topS 24
abbrev s__law_of : Stmt := topS 25
abbrev s__law_mixed : Stmt := topS 26
abbrev s__law_same : Stmt := topS 27
abbrev s__law_low : Stmt := topS 28
abbrev s__law_plus : Stmt := topS 29
abbrev s__law_names : Stmt := topS 30
abbrev s__law_gain : Stmt := topS 31
abbrev s__law_gains : Stmt := topS 32
abbrev s__law_line : Stmt := topS 33
abbrev s__law_class_so : Stmt := topS 34
abbrev s_law : Stmt := topS 35
abbrev s_InvalidRatio_init : Stmt := methS (topS 2) 0
abbrev s_InvalidName_init : Stmt := methS (topS 3) 0
abbrev s_InvalidKind_init : Stmt := methS (topS 4) 0
abbrev s_InvalidGain_init : Stmt := methS (topS 5) 0
abbrev s_Line___init__ : Stmt := methS (topS 17) 2
abbrev s_Line_gains : Stmt := methS (topS 17) 3
abbrev s_Line_renamed : Stmt := methS (topS 17) 4
abbrev s_Line___eq__ : Stmt := methS (topS 17) 5
abbrev s_Line___len__ : Stmt := methS (topS 17) 6
abbrev s_Line___bool__ : Stmt := methS (topS 17) 7
abbrev s_Line___repr__ : Stmt := methS (topS 17) 8
abbrev s_Steady___init__ : Stmt := methS (topS 18) 2
abbrev s_Read___init__ : Stmt := methS (topS 19) 2
abbrev s_Send___init__ : Stmt := methS (topS 20) 2
structure TK (P : Program) (K : PySem.W.Frag) (cl : Str → Addr) (cd tT : Addr) : Prop where
  pf : PF P
  n_NetError : PySem.W.nsIn K mainGlobals "NetError" = some (some (.ref (cl "NetError")))
  n_InvalidRatio : PySem.W.nsIn K mainGlobals "InvalidRatio" = some (some (.ref (cl "InvalidRatio")))
  n_InvalidName : PySem.W.nsIn K mainGlobals "InvalidName" = some (some (.ref (cl "InvalidName")))
  n_InvalidKind : PySem.W.nsIn K mainGlobals "InvalidKind" = some (some (.ref (cl "InvalidKind")))
  n_InvalidGain : PySem.W.nsIn K mainGlobals "InvalidGain" = some (some (.ref (cl "InvalidGain")))
  e_InvalidRatio : Exc1 P K "InvalidRatio" "InvalidRatio.__init__" "given" "given" "InvalidRatio" s_InvalidRatio_init (cl "InvalidRatio")
  x_InvalidRatio : XfC K (cl "InvalidRatio")
  e_InvalidName : Exc1 P K "InvalidName" "InvalidName.__init__" "given" "given" "InvalidName" s_InvalidName_init (cl "InvalidName")
  x_InvalidName : XfC K (cl "InvalidName")
  e_InvalidKind : Exc1 P K "InvalidKind" "InvalidKind.__init__" "given" "given" "InvalidKind" s_InvalidKind_init (cl "InvalidKind")
  x_InvalidKind : XfC K (cl "InvalidKind")
  e_InvalidGain : Exc1 P K "InvalidGain" "InvalidGain.__init__" "at" "at" "InvalidGain" s_InvalidGain_init (cl "InvalidGain")
  x_InvalidGain : XfC K (cl "InvalidGain")
  f_is_integer : FunAt K "is_integer" s_is_integer
  f_common_divisor : FunAt K "common_divisor" s_common_divisor
  f_is_ratio : FunAt K "is_ratio" s_is_ratio
  f_is_valued : FunAt K "is_valued" s_is_valued
  f_ratio_of : FunAt K "ratio_of" s_ratio_of
  f_is_name : FunAt K "is_name" s_is_name
  f_made : FunAt K "made" s_made
  f__law_source : FunAt K "_law_source" s__law_source
  f__law_draw : FunAt K "_law_draw" s__law_draw
  f__law_of : FunAt K "_law_of" s__law_of
  f__law_mixed : FunAt K "_law_mixed" s__law_mixed
  f__law_same : FunAt K "_law_same" s__law_same
  f__law_low : FunAt K "_law_low" s__law_low
  f__law_plus : FunAt K "_law_plus" s__law_plus
  f__law_names : FunAt K "_law_names" s__law_names
  f__law_gain : FunAt K "_law_gain" s__law_gain
  f__law_gains : FunAt K "_law_gains" s__law_gains
  f__law_line : FunAt K "_law_line" s__law_line
  f__law_class_so : FunAt K "_law_class_so" s__law_class_so
  f_law : FunAt K "law" s_law
  nC_Line : PySem.W.nsIn K mainGlobals "Line" = some (some (.ref (cl "Line")))
  nC_Steady : PySem.W.nsIn K mainGlobals "Steady" = some (some (.ref (cl "Steady")))
  nC_Read : PySem.W.nsIn K mainGlobals "Read" = some (some (.ref (cl "Read")))
  nC_Send : PySem.W.nsIn K mainGlobals "Send" = some (some (.ref (cl "Send")))
  cl_Line : Cls K (cl "Line")
  io_Line : IsoF K (cl "Line")
  cl_Steady : Cls K (cl "Steady")
  io_Steady : IsoF K (cl "Steady")
  cl_Read : Cls K (cl "Read")
  io_Read : IsoF K (cl "Read")
  cl_Send : Cls K (cl "Send")
  io_Send : IsoF K (cl "Send")
  mk_Line : Mk K (cl "Line") (cl "Line.__init__")
  mk_Steady : Mk K (cl "Steady") (cl "Steady.__init__")
  mk_Read : Mk K (cl "Read") (cl "Read.__init__")
  mk_Send : Mk K (cl "Send") (cl "Send.__init__")
  me_Line_gains : Meth K (cl "Line") "gains" (cl "Line.gains")
  me_Steady_gains : Meth K (cl "Steady") "gains" (cl "Line.gains")
  me_Read_gains : Meth K (cl "Read") "gains" (cl "Line.gains")
  me_Send_gains : Meth K (cl "Send") "gains" (cl "Line.gains")
  me_Line___len__ : Meth K (cl "Line") "__len__" (cl "Line.__len__")
  me_Steady___len__ : Meth K (cl "Steady") "__len__" (cl "Line.__len__")
  me_Read___len__ : Meth K (cl "Read") "__len__" (cl "Line.__len__")
  me_Send___len__ : Meth K (cl "Send") "__len__" (cl "Line.__len__")
  me_Line___repr__ : Meth K (cl "Line") "__repr__" (cl "Line.__repr__")
  me_Steady___repr__ : Meth K (cl "Steady") "__repr__" (cl "Line.__repr__")
  me_Read___repr__ : Meth K (cl "Read") "__repr__" (cl "Line.__repr__")
  me_Send___repr__ : Meth K (cl "Send") "__repr__" (cl "Line.__repr__")
  me_Line___bool__ : Meth K (cl "Line") "__bool__" (cl "Line.__bool__")
  me_Steady___bool__ : Meth K (cl "Steady") "__bool__" (cl "Line.__bool__")
  me_Read___bool__ : Meth K (cl "Read") "__bool__" (cl "Line.__bool__")
  me_Send___bool__ : Meth K (cl "Send") "__bool__" (cl "Line.__bool__")
  me_Line_renamed : Meth K (cl "Line") "renamed" (cl "Line.renamed")
  me_Steady_renamed : Meth K (cl "Steady") "renamed" (cl "Line.renamed")
  me_Read_renamed : Meth K (cl "Read") "renamed" (cl "Line.renamed")
  me_Send_renamed : Meth K (cl "Send") "renamed" (cl "Line.renamed")
  me_Line___eq__ : Meth K (cl "Line") "__eq__" (cl "Line.__eq__")
  me_Steady___eq__ : Meth K (cl "Steady") "__eq__" (cl "Line.__eq__")
  me_Read___eq__ : Meth K (cl "Read") "__eq__" (cl "Line.__eq__")
  me_Send___eq__ : Meth K (cl "Send") "__eq__" (cl "Line.__eq__")
  fm_Line___init__ : FunM K "__init__" "Line.__init__" s_Line___init__ (cl "Line.__init__")
  si_Send___init__ : SupI P K "Send.__init__" s_Send___init__ (cl "Send") (cl "Send.__init__") (cl "Line.__init__")
  si_Read___init__ : SupI P K "Read.__init__" s_Read___init__ (cl "Read") (cl "Read.__init__") (cl "Line.__init__")
  si_Steady___init__ : SupI P K "Steady.__init__" s_Steady___init__ (cl "Steady") (cl "Steady.__init__") (cl "Line.__init__")
  fm_Line_gains : FunM K "gains" "Line.gains" s_Line_gains (cl "Line.gains")
  fm_Line___len__ : FunM K "__len__" "Line.__len__" s_Line___len__ (cl "Line.__len__")
  fm_Line___repr__ : FunM K "__repr__" "Line.__repr__" s_Line___repr__ (cl "Line.__repr__")
  fm_Line___bool__ : FunM K "__bool__" "Line.__bool__" s_Line___bool__ (cl "Line.__bool__")
  fm_Line_renamed : FunM K "renamed" "Line.renamed" s_Line_renamed (cl "Line.renamed")
  fm_Line___eq__ : FunM K "__eq__" "Line.__eq__" s_Line___eq__ (cl "Line.__eq__")
  co_Line_KIND : ∃ u, Con K (cl "Line") "KIND" (.str "line") u
  co_Steady_KIND : ∃ u, Con K (cl "Steady") "KIND" (.str "steady") u
  co_Read_KIND : ∃ u, Con K (cl "Read") "KIND" (.str "read") u
  co_Send_KIND : ∃ u, Con K (cl "Send") "KIND" (.str "send") u
  co_Line_MOVED : ∃ u, Con K (cl "Line") "MOVED" (.bl false) u
  co_Steady_MOVED : ∃ u, Con K (cl "Steady") "MOVED" (.bl false) u
  co_Read_MOVED : ∃ u, Con K (cl "Read") "MOVED" (.bl true) u
  co_Send_MOVED : ∃ u, Con K (cl "Send") "MOVED" (.bl true) u
  na_Line_name : PySem.W.findIn K (.ref (cl "Line")) "name" = some none
  na_Steady_name : PySem.W.findIn K (.ref (cl "Steady")) "name" = some none
  na_Read_name : PySem.W.findIn K (.ref (cl "Read")) "name" = some none
  na_Send_name : PySem.W.findIn K (.ref (cl "Send")) "name" = some none
  na_Line_own_gains : PySem.W.findIn K (.ref (cl "Line")) "own_gains" = some none
  na_Steady_own_gains : PySem.W.findIn K (.ref (cl "Steady")) "own_gains" = some none
  na_Read_own_gains : PySem.W.findIn K (.ref (cl "Read")) "own_gains" = some none
  na_Send_own_gains : PySem.W.findIn K (.ref (cl "Send")) "own_gains" = some none
  se_Line___bool__ : SeF K (cl "Line") (cl "Line.__bool__") "__bool__"
  se_Steady___bool__ : SeF K (cl "Steady") (cl "Line.__bool__") "__bool__"
  se_Read___bool__ : SeF K (cl "Read") (cl "Line.__bool__") "__bool__"
  se_Send___bool__ : SeF K (cl "Send") (cl "Line.__bool__") "__bool__"
  eq_Line : EqF K (cl "Line") (cl "Line.__eq__")
  eq_Steady : EqF K (cl "Steady") (cl "Line.__eq__")
  eq_Read : EqF K (cl "Read") (cl "Line.__eq__")
  eq_Send : EqF K (cl "Send") (cl "Line.__eq__")
  su_Line_Line : ∃ b, PySem.W.subIn K (.ref (cl "Line")) (.ref (cl "Line")) = some b
  su_Steady_Line : ∃ b, PySem.W.subIn K (.ref (cl "Steady")) (.ref (cl "Line")) = some b
  su_Read_Line : ∃ b, PySem.W.subIn K (.ref (cl "Read")) (.ref (cl "Line")) = some b
  su_Send_Line : ∃ b, PySem.W.subIn K (.ref (cl "Send")) (.ref (cl "Line")) = some b
  su_Line_Steady : ∃ b, PySem.W.subIn K (.ref (cl "Line")) (.ref (cl "Steady")) = some b
  su_Steady_Steady : ∃ b, PySem.W.subIn K (.ref (cl "Steady")) (.ref (cl "Steady")) = some b
  su_Read_Steady : ∃ b, PySem.W.subIn K (.ref (cl "Read")) (.ref (cl "Steady")) = some b
  su_Send_Steady : ∃ b, PySem.W.subIn K (.ref (cl "Send")) (.ref (cl "Steady")) = some b
  su_Line_Read : ∃ b, PySem.W.subIn K (.ref (cl "Line")) (.ref (cl "Read")) = some b
  su_Steady_Read : ∃ b, PySem.W.subIn K (.ref (cl "Steady")) (.ref (cl "Read")) = some b
  su_Read_Read : ∃ b, PySem.W.subIn K (.ref (cl "Read")) (.ref (cl "Read")) = some b
  su_Send_Read : ∃ b, PySem.W.subIn K (.ref (cl "Send")) (.ref (cl "Read")) = some b
  su_Line_Send : ∃ b, PySem.W.subIn K (.ref (cl "Line")) (.ref (cl "Send")) = some b
  su_Steady_Send : ∃ b, PySem.W.subIn K (.ref (cl "Steady")) (.ref (cl "Send")) = some b
  su_Read_Send : ∃ b, PySem.W.subIn K (.ref (cl "Read")) (.ref (cl "Send")) = some b
  su_Send_Send : ∃ b, PySem.W.subIn K (.ref (cl "Send")) (.ref (cl "Send")) = some b
  ic_Line : IsC K (cl "Line")
  ko_Line_Line : PySem.W.kitOne K (.ref (cl "Line")) (.ref (cl "Line")) = some true
  ic_Steady : IsC K (cl "Steady")
  ko_Steady_Line : PySem.W.kitOne K (.ref (cl "Steady")) (.ref (cl "Line")) = some true
  ic_Read : IsC K (cl "Read")
  ko_Read_Line : PySem.W.kitOne K (.ref (cl "Read")) (.ref (cl "Line")) = some true
  ic_Send : IsC K (cl "Send")
  ko_Send_Line : PySem.W.kitOne K (.ref (cl "Send")) (.ref (cl "Line")) = some true
  se_Line___len__ : SeF K (cl "Line") (cl "Line.__len__") "__len__"
  se_Steady___len__ : SeF K (cl "Steady") (cl "Line.__len__") "__len__"
  se_Read___len__ : SeF K (cl "Read") (cl "Line.__len__") "__len__"
  se_Send___len__ : SeF K (cl "Send") (cl "Line.__len__") "__len__"
  se_Line___repr__ : SeF K (cl "Line") (cl "Line.__repr__") "__repr__"
  se_Steady___repr__ : SeF K (cl "Steady") (cl "Line.__repr__") "__repr__"
  se_Read___repr__ : SeF K (cl "Read") (cl "Line.__repr__") "__repr__"
  se_Send___repr__ : SeF K (cl "Send") (cl "Line.__repr__") "__repr__"
  cc_Line_KIND : CConst K (cl "Line") "KIND" (.str "line")
  cc_Send_KIND : CConst K (cl "Send") "KIND" (.str "send")
  cc_Line_MOVED : CConst K (cl "Line") "MOVED" (.bl false)
  cc_Read_MOVED : CConst K (cl "Read") "MOVED" (.bl true)
  z_isinstance : PySem.W.nsIn K mainGlobals "isinstance" = some none
  z_int : PySem.W.nsIn K mainGlobals "int" = some none
  k_int : SubTab K "int"
  z_bool : PySem.W.nsIn K mainGlobals "bool" = some none
  k_bool : SubTab K "bool"
  z_abs : PySem.W.nsIn K mainGlobals "abs" = some none
  z_tuple : PySem.W.nsIn K mainGlobals "tuple" = some none
  k_tuple : SubTab K "tuple"
  z_len : PySem.W.nsIn K mainGlobals "len" = some none
  z_all : PySem.W.nsIn K mainGlobals "all" = some none
  z_str : PySem.W.nsIn K mainGlobals "str" = some none
  k_str : SubTab K "str"
  g_MOST_LETTERS : ∃ t, PySem.W.nsIn K mainGlobals "MOST_LETTERS" = some (some (.int 8 t))
  g_LETTERS : ∃ t, PySem.W.nsIn K mainGlobals "LETTERS" = some (some (.str "abcdefghijklmnopqrstuvwxyz" t))
  g_KINDS : [.str "steady", .str "read", .str "send"].all flatD = true ∧ ∃ a, PySem.W.nsIn K mainGlobals "KINDS" = some (some (.ref a)) ∧ ∀ H, SqT K H a (([.str "steady", .str "read", .str "send"] : List Hw.D).map fv)
  z_list : PySem.W.nsIn K mainGlobals "list" = some none
  k_list : SubTab K "list"
  z_repr : PySem.W.nsIn K mainGlobals "repr" = some none
  z_range : PySem.W.nsIn K mainGlobals "range" = some none
  z_enumerate : PySem.W.nsIn K mainGlobals "enumerate" = some none
  z_super : PySem.W.nsIn K mainGlobals "super" = some none
theorem TK.of {P : Program} {K : PySem.W.Frag} {aa_NetError : Addr} {aa_InvalidRatio : Addr} {aa_InvalidName : Addr} {aa_InvalidKind : Addr} {aa_InvalidGain : Addr} {aa_Line : Addr} {aa_Steady : Addr} {aa_Read : Addr} {aa_Send : Addr} {aa_Line___init__ : Addr} {aa_Send___init__ : Addr} {aa_Read___init__ : Addr} {aa_Steady___init__ : Addr} {aa_Line_gains : Addr} {aa_Line___len__ : Addr} {aa_Line___repr__ : Addr} {aa_Line___bool__ : Addr} {aa_Line_renamed : Addr} {aa_Line___eq__ : Addr} {cd tT : Addr}
  (pf : PF P)
  (n_NetError : PySem.W.nsIn K mainGlobals "NetError" = some (some (.ref aa_NetError)))
  (n_InvalidRatio : PySem.W.nsIn K mainGlobals "InvalidRatio" = some (some (.ref aa_InvalidRatio)))
  (n_InvalidName : PySem.W.nsIn K mainGlobals "InvalidName" = some (some (.ref aa_InvalidName)))
  (n_InvalidKind : PySem.W.nsIn K mainGlobals "InvalidKind" = some (some (.ref aa_InvalidKind)))
  (n_InvalidGain : PySem.W.nsIn K mainGlobals "InvalidGain" = some (some (.ref aa_InvalidGain)))
  (e_InvalidRatio : Exc1 P K "InvalidRatio" "InvalidRatio.__init__" "given" "given" "InvalidRatio" s_InvalidRatio_init aa_InvalidRatio)
  (x_InvalidRatio : XfC K aa_InvalidRatio)
  (e_InvalidName : Exc1 P K "InvalidName" "InvalidName.__init__" "given" "given" "InvalidName" s_InvalidName_init aa_InvalidName)
  (x_InvalidName : XfC K aa_InvalidName)
  (e_InvalidKind : Exc1 P K "InvalidKind" "InvalidKind.__init__" "given" "given" "InvalidKind" s_InvalidKind_init aa_InvalidKind)
  (x_InvalidKind : XfC K aa_InvalidKind)
  (e_InvalidGain : Exc1 P K "InvalidGain" "InvalidGain.__init__" "at" "at" "InvalidGain" s_InvalidGain_init aa_InvalidGain)
  (x_InvalidGain : XfC K aa_InvalidGain)
  (f_is_integer : FunAt K "is_integer" s_is_integer)
  (f_common_divisor : FunAt K "common_divisor" s_common_divisor)
  (f_is_ratio : FunAt K "is_ratio" s_is_ratio)
  (f_is_valued : FunAt K "is_valued" s_is_valued)
  (f_ratio_of : FunAt K "ratio_of" s_ratio_of)
  (f_is_name : FunAt K "is_name" s_is_name)
  (f_made : FunAt K "made" s_made)
  (f__law_source : FunAt K "_law_source" s__law_source)
  (f__law_draw : FunAt K "_law_draw" s__law_draw)
  (f__law_of : FunAt K "_law_of" s__law_of)
  (f__law_mixed : FunAt K "_law_mixed" s__law_mixed)
  (f__law_same : FunAt K "_law_same" s__law_same)
  (f__law_low : FunAt K "_law_low" s__law_low)
  (f__law_plus : FunAt K "_law_plus" s__law_plus)
  (f__law_names : FunAt K "_law_names" s__law_names)
  (f__law_gain : FunAt K "_law_gain" s__law_gain)
  (f__law_gains : FunAt K "_law_gains" s__law_gains)
  (f__law_line : FunAt K "_law_line" s__law_line)
  (f__law_class_so : FunAt K "_law_class_so" s__law_class_so)
  (f_law : FunAt K "law" s_law)
  (nC_Line : PySem.W.nsIn K mainGlobals "Line" = some (some (.ref aa_Line)))
  (nC_Steady : PySem.W.nsIn K mainGlobals "Steady" = some (some (.ref aa_Steady)))
  (nC_Read : PySem.W.nsIn K mainGlobals "Read" = some (some (.ref aa_Read)))
  (nC_Send : PySem.W.nsIn K mainGlobals "Send" = some (some (.ref aa_Send)))
  (cl_Line : Cls K aa_Line)
  (io_Line : IsoF K aa_Line)
  (cl_Steady : Cls K aa_Steady)
  (io_Steady : IsoF K aa_Steady)
  (cl_Read : Cls K aa_Read)
  (io_Read : IsoF K aa_Read)
  (cl_Send : Cls K aa_Send)
  (io_Send : IsoF K aa_Send)
  (mk_Line : Mk K aa_Line aa_Line___init__)
  (mk_Steady : Mk K aa_Steady aa_Steady___init__)
  (mk_Read : Mk K aa_Read aa_Read___init__)
  (mk_Send : Mk K aa_Send aa_Send___init__)
  (me_Line_gains : Meth K aa_Line "gains" aa_Line_gains)
  (me_Steady_gains : Meth K aa_Steady "gains" aa_Line_gains)
  (me_Read_gains : Meth K aa_Read "gains" aa_Line_gains)
  (me_Send_gains : Meth K aa_Send "gains" aa_Line_gains)
  (me_Line___len__ : Meth K aa_Line "__len__" aa_Line___len__)
  (me_Steady___len__ : Meth K aa_Steady "__len__" aa_Line___len__)
  (me_Read___len__ : Meth K aa_Read "__len__" aa_Line___len__)
  (me_Send___len__ : Meth K aa_Send "__len__" aa_Line___len__)
  (me_Line___repr__ : Meth K aa_Line "__repr__" aa_Line___repr__)
  (me_Steady___repr__ : Meth K aa_Steady "__repr__" aa_Line___repr__)
  (me_Read___repr__ : Meth K aa_Read "__repr__" aa_Line___repr__)
  (me_Send___repr__ : Meth K aa_Send "__repr__" aa_Line___repr__)
  (me_Line___bool__ : Meth K aa_Line "__bool__" aa_Line___bool__)
  (me_Steady___bool__ : Meth K aa_Steady "__bool__" aa_Line___bool__)
  (me_Read___bool__ : Meth K aa_Read "__bool__" aa_Line___bool__)
  (me_Send___bool__ : Meth K aa_Send "__bool__" aa_Line___bool__)
  (me_Line_renamed : Meth K aa_Line "renamed" aa_Line_renamed)
  (me_Steady_renamed : Meth K aa_Steady "renamed" aa_Line_renamed)
  (me_Read_renamed : Meth K aa_Read "renamed" aa_Line_renamed)
  (me_Send_renamed : Meth K aa_Send "renamed" aa_Line_renamed)
  (me_Line___eq__ : Meth K aa_Line "__eq__" aa_Line___eq__)
  (me_Steady___eq__ : Meth K aa_Steady "__eq__" aa_Line___eq__)
  (me_Read___eq__ : Meth K aa_Read "__eq__" aa_Line___eq__)
  (me_Send___eq__ : Meth K aa_Send "__eq__" aa_Line___eq__)
  (fm_Line___init__ : FunM K "__init__" "Line.__init__" s_Line___init__ aa_Line___init__)
  (si_Send___init__ : SupI P K "Send.__init__" s_Send___init__ aa_Send aa_Send___init__ aa_Line___init__)
  (si_Read___init__ : SupI P K "Read.__init__" s_Read___init__ aa_Read aa_Read___init__ aa_Line___init__)
  (si_Steady___init__ : SupI P K "Steady.__init__" s_Steady___init__ aa_Steady aa_Steady___init__ aa_Line___init__)
  (fm_Line_gains : FunM K "gains" "Line.gains" s_Line_gains aa_Line_gains)
  (fm_Line___len__ : FunM K "__len__" "Line.__len__" s_Line___len__ aa_Line___len__)
  (fm_Line___repr__ : FunM K "__repr__" "Line.__repr__" s_Line___repr__ aa_Line___repr__)
  (fm_Line___bool__ : FunM K "__bool__" "Line.__bool__" s_Line___bool__ aa_Line___bool__)
  (fm_Line_renamed : FunM K "renamed" "Line.renamed" s_Line_renamed aa_Line_renamed)
  (fm_Line___eq__ : FunM K "__eq__" "Line.__eq__" s_Line___eq__ aa_Line___eq__)
  (co_Line_KIND : ∃ u, Con K aa_Line "KIND" (.str "line") u)
  (co_Steady_KIND : ∃ u, Con K aa_Steady "KIND" (.str "steady") u)
  (co_Read_KIND : ∃ u, Con K aa_Read "KIND" (.str "read") u)
  (co_Send_KIND : ∃ u, Con K aa_Send "KIND" (.str "send") u)
  (co_Line_MOVED : ∃ u, Con K aa_Line "MOVED" (.bl false) u)
  (co_Steady_MOVED : ∃ u, Con K aa_Steady "MOVED" (.bl false) u)
  (co_Read_MOVED : ∃ u, Con K aa_Read "MOVED" (.bl true) u)
  (co_Send_MOVED : ∃ u, Con K aa_Send "MOVED" (.bl true) u)
  (na_Line_name : PySem.W.findIn K (.ref aa_Line) "name" = some none)
  (na_Steady_name : PySem.W.findIn K (.ref aa_Steady) "name" = some none)
  (na_Read_name : PySem.W.findIn K (.ref aa_Read) "name" = some none)
  (na_Send_name : PySem.W.findIn K (.ref aa_Send) "name" = some none)
  (na_Line_own_gains : PySem.W.findIn K (.ref aa_Line) "own_gains" = some none)
  (na_Steady_own_gains : PySem.W.findIn K (.ref aa_Steady) "own_gains" = some none)
  (na_Read_own_gains : PySem.W.findIn K (.ref aa_Read) "own_gains" = some none)
  (na_Send_own_gains : PySem.W.findIn K (.ref aa_Send) "own_gains" = some none)
  (se_Line___bool__ : SeF K aa_Line aa_Line___bool__ "__bool__")
  (se_Steady___bool__ : SeF K aa_Steady aa_Line___bool__ "__bool__")
  (se_Read___bool__ : SeF K aa_Read aa_Line___bool__ "__bool__")
  (se_Send___bool__ : SeF K aa_Send aa_Line___bool__ "__bool__")
  (eq_Line : EqF K aa_Line aa_Line___eq__)
  (eq_Steady : EqF K aa_Steady aa_Line___eq__)
  (eq_Read : EqF K aa_Read aa_Line___eq__)
  (eq_Send : EqF K aa_Send aa_Line___eq__)
  (su_Line_Line : ∃ b, PySem.W.subIn K (.ref aa_Line) (.ref aa_Line) = some b)
  (su_Steady_Line : ∃ b, PySem.W.subIn K (.ref aa_Steady) (.ref aa_Line) = some b)
  (su_Read_Line : ∃ b, PySem.W.subIn K (.ref aa_Read) (.ref aa_Line) = some b)
  (su_Send_Line : ∃ b, PySem.W.subIn K (.ref aa_Send) (.ref aa_Line) = some b)
  (su_Line_Steady : ∃ b, PySem.W.subIn K (.ref aa_Line) (.ref aa_Steady) = some b)
  (su_Steady_Steady : ∃ b, PySem.W.subIn K (.ref aa_Steady) (.ref aa_Steady) = some b)
  (su_Read_Steady : ∃ b, PySem.W.subIn K (.ref aa_Read) (.ref aa_Steady) = some b)
  (su_Send_Steady : ∃ b, PySem.W.subIn K (.ref aa_Send) (.ref aa_Steady) = some b)
  (su_Line_Read : ∃ b, PySem.W.subIn K (.ref aa_Line) (.ref aa_Read) = some b)
  (su_Steady_Read : ∃ b, PySem.W.subIn K (.ref aa_Steady) (.ref aa_Read) = some b)
  (su_Read_Read : ∃ b, PySem.W.subIn K (.ref aa_Read) (.ref aa_Read) = some b)
  (su_Send_Read : ∃ b, PySem.W.subIn K (.ref aa_Send) (.ref aa_Read) = some b)
  (su_Line_Send : ∃ b, PySem.W.subIn K (.ref aa_Line) (.ref aa_Send) = some b)
  (su_Steady_Send : ∃ b, PySem.W.subIn K (.ref aa_Steady) (.ref aa_Send) = some b)
  (su_Read_Send : ∃ b, PySem.W.subIn K (.ref aa_Read) (.ref aa_Send) = some b)
  (su_Send_Send : ∃ b, PySem.W.subIn K (.ref aa_Send) (.ref aa_Send) = some b)
  (ic_Line : IsC K aa_Line)
  (ko_Line_Line : PySem.W.kitOne K (.ref aa_Line) (.ref aa_Line) = some true)
  (ic_Steady : IsC K aa_Steady)
  (ko_Steady_Line : PySem.W.kitOne K (.ref aa_Steady) (.ref aa_Line) = some true)
  (ic_Read : IsC K aa_Read)
  (ko_Read_Line : PySem.W.kitOne K (.ref aa_Read) (.ref aa_Line) = some true)
  (ic_Send : IsC K aa_Send)
  (ko_Send_Line : PySem.W.kitOne K (.ref aa_Send) (.ref aa_Line) = some true)
  (se_Line___len__ : SeF K aa_Line aa_Line___len__ "__len__")
  (se_Steady___len__ : SeF K aa_Steady aa_Line___len__ "__len__")
  (se_Read___len__ : SeF K aa_Read aa_Line___len__ "__len__")
  (se_Send___len__ : SeF K aa_Send aa_Line___len__ "__len__")
  (se_Line___repr__ : SeF K aa_Line aa_Line___repr__ "__repr__")
  (se_Steady___repr__ : SeF K aa_Steady aa_Line___repr__ "__repr__")
  (se_Read___repr__ : SeF K aa_Read aa_Line___repr__ "__repr__")
  (se_Send___repr__ : SeF K aa_Send aa_Line___repr__ "__repr__")
  (cc_Line_KIND : CConst K aa_Line "KIND" (.str "line"))
  (cc_Send_KIND : CConst K aa_Send "KIND" (.str "send"))
  (cc_Line_MOVED : CConst K aa_Line "MOVED" (.bl false))
  (cc_Read_MOVED : CConst K aa_Read "MOVED" (.bl true))
  (z_isinstance : PySem.W.nsIn K mainGlobals "isinstance" = some none)
  (z_int : PySem.W.nsIn K mainGlobals "int" = some none)
  (k_int : SubTab K "int")
  (z_bool : PySem.W.nsIn K mainGlobals "bool" = some none)
  (k_bool : SubTab K "bool")
  (z_abs : PySem.W.nsIn K mainGlobals "abs" = some none)
  (z_tuple : PySem.W.nsIn K mainGlobals "tuple" = some none)
  (k_tuple : SubTab K "tuple")
  (z_len : PySem.W.nsIn K mainGlobals "len" = some none)
  (z_all : PySem.W.nsIn K mainGlobals "all" = some none)
  (z_str : PySem.W.nsIn K mainGlobals "str" = some none)
  (k_str : SubTab K "str")
  (g_MOST_LETTERS : ∃ t, PySem.W.nsIn K mainGlobals "MOST_LETTERS" = some (some (.int 8 t)))
  (g_LETTERS : ∃ t, PySem.W.nsIn K mainGlobals "LETTERS" = some (some (.str "abcdefghijklmnopqrstuvwxyz" t)))
  (g_KINDS : [.str "steady", .str "read", .str "send"].all flatD = true ∧ ∃ a, PySem.W.nsIn K mainGlobals "KINDS" = some (some (.ref a)) ∧ ∀ H, SqT K H a (([.str "steady", .str "read", .str "send"] : List Hw.D).map fv))
  (z_list : PySem.W.nsIn K mainGlobals "list" = some none)
  (k_list : SubTab K "list")
  (z_repr : PySem.W.nsIn K mainGlobals "repr" = some none)
  (z_range : PySem.W.nsIn K mainGlobals "range" = some none)
  (z_enumerate : PySem.W.nsIn K mainGlobals "enumerate" = some none)
  (z_super : PySem.W.nsIn K mainGlobals "super" = some none)
  : TK P K (clF [("NetError", aa_NetError), ("InvalidRatio", aa_InvalidRatio), ("InvalidName", aa_InvalidName), ("InvalidKind", aa_InvalidKind), ("InvalidGain", aa_InvalidGain), ("Line", aa_Line), ("Steady", aa_Steady), ("Read", aa_Read), ("Send", aa_Send), ("Line.__init__", aa_Line___init__), ("Send.__init__", aa_Send___init__), ("Read.__init__", aa_Read___init__), ("Steady.__init__", aa_Steady___init__), ("Line.gains", aa_Line_gains), ("Line.__len__", aa_Line___len__), ("Line.__repr__", aa_Line___repr__), ("Line.__bool__", aa_Line___bool__), ("Line.renamed", aa_Line_renamed), ("Line.__eq__", aa_Line___eq__)]) cd tT := ⟨pf, Eq.mp (by kernel_rfl) n_NetError, Eq.mp (by kernel_rfl) n_InvalidRatio, Eq.mp (by kernel_rfl) n_InvalidName, Eq.mp (by kernel_rfl) n_InvalidKind, Eq.mp (by kernel_rfl) n_InvalidGain, Eq.mp (by kernel_rfl) e_InvalidRatio, Eq.mp (by kernel_rfl) x_InvalidRatio, Eq.mp (by kernel_rfl) e_InvalidName, Eq.mp (by kernel_rfl) x_InvalidName, Eq.mp (by kernel_rfl) e_InvalidKind, Eq.mp (by kernel_rfl) x_InvalidKind, Eq.mp (by kernel_rfl) e_InvalidGain, Eq.mp (by kernel_rfl) x_InvalidGain, f_is_integer, f_common_divisor, f_is_ratio, f_is_valued, f_ratio_of, f_is_name, f_made, f__law_source, f__law_draw, f__law_of, f__law_mixed, f__law_same, f__law_low, f__law_plus, f__law_names, f__law_gain, f__law_gains, f__law_line, f__law_class_so, f_law, Eq.mp (by kernel_rfl) nC_Line, Eq.mp (by kernel_rfl) nC_Steady, Eq.mp (by kernel_rfl) nC_Read, Eq.mp (by kernel_rfl) nC_Send, Eq.mp (by kernel_rfl) cl_Line, Eq.mp (by kernel_rfl) io_Line, Eq.mp (by kernel_rfl) cl_Steady, Eq.mp (by kernel_rfl) io_Steady, Eq.mp (by kernel_rfl) cl_Read, Eq.mp (by kernel_rfl) io_Read, Eq.mp (by kernel_rfl) cl_Send, Eq.mp (by kernel_rfl) io_Send, Eq.mp (by kernel_rfl) mk_Line, Eq.mp (by kernel_rfl) mk_Steady, Eq.mp (by kernel_rfl) mk_Read, Eq.mp (by kernel_rfl) mk_Send, Eq.mp (by kernel_rfl) me_Line_gains, Eq.mp (by kernel_rfl) me_Steady_gains, Eq.mp (by kernel_rfl) me_Read_gains, Eq.mp (by kernel_rfl) me_Send_gains, Eq.mp (by kernel_rfl) me_Line___len__, Eq.mp (by kernel_rfl) me_Steady___len__, Eq.mp (by kernel_rfl) me_Read___len__, Eq.mp (by kernel_rfl) me_Send___len__, Eq.mp (by kernel_rfl) me_Line___repr__, Eq.mp (by kernel_rfl) me_Steady___repr__, Eq.mp (by kernel_rfl) me_Read___repr__, Eq.mp (by kernel_rfl) me_Send___repr__, Eq.mp (by kernel_rfl) me_Line___bool__, Eq.mp (by kernel_rfl) me_Steady___bool__, Eq.mp (by kernel_rfl) me_Read___bool__, Eq.mp (by kernel_rfl) me_Send___bool__, Eq.mp (by kernel_rfl) me_Line_renamed, Eq.mp (by kernel_rfl) me_Steady_renamed, Eq.mp (by kernel_rfl) me_Read_renamed, Eq.mp (by kernel_rfl) me_Send_renamed, Eq.mp (by kernel_rfl) me_Line___eq__, Eq.mp (by kernel_rfl) me_Steady___eq__, Eq.mp (by kernel_rfl) me_Read___eq__, Eq.mp (by kernel_rfl) me_Send___eq__, Eq.mp (by kernel_rfl) fm_Line___init__, Eq.mp (by kernel_rfl) si_Send___init__, Eq.mp (by kernel_rfl) si_Read___init__, Eq.mp (by kernel_rfl) si_Steady___init__, Eq.mp (by kernel_rfl) fm_Line_gains, Eq.mp (by kernel_rfl) fm_Line___len__, Eq.mp (by kernel_rfl) fm_Line___repr__, Eq.mp (by kernel_rfl) fm_Line___bool__, Eq.mp (by kernel_rfl) fm_Line_renamed, Eq.mp (by kernel_rfl) fm_Line___eq__, Eq.mp (by kernel_rfl) co_Line_KIND, Eq.mp (by kernel_rfl) co_Steady_KIND, Eq.mp (by kernel_rfl) co_Read_KIND, Eq.mp (by kernel_rfl) co_Send_KIND, Eq.mp (by kernel_rfl) co_Line_MOVED, Eq.mp (by kernel_rfl) co_Steady_MOVED, Eq.mp (by kernel_rfl) co_Read_MOVED, Eq.mp (by kernel_rfl) co_Send_MOVED, Eq.mp (by kernel_rfl) na_Line_name, Eq.mp (by kernel_rfl) na_Steady_name, Eq.mp (by kernel_rfl) na_Read_name, Eq.mp (by kernel_rfl) na_Send_name, Eq.mp (by kernel_rfl) na_Line_own_gains, Eq.mp (by kernel_rfl) na_Steady_own_gains, Eq.mp (by kernel_rfl) na_Read_own_gains, Eq.mp (by kernel_rfl) na_Send_own_gains, Eq.mp (by kernel_rfl) se_Line___bool__, Eq.mp (by kernel_rfl) se_Steady___bool__, Eq.mp (by kernel_rfl) se_Read___bool__, Eq.mp (by kernel_rfl) se_Send___bool__, Eq.mp (by kernel_rfl) eq_Line, Eq.mp (by kernel_rfl) eq_Steady, Eq.mp (by kernel_rfl) eq_Read, Eq.mp (by kernel_rfl) eq_Send, Eq.mp (by kernel_rfl) su_Line_Line, Eq.mp (by kernel_rfl) su_Steady_Line, Eq.mp (by kernel_rfl) su_Read_Line, Eq.mp (by kernel_rfl) su_Send_Line, Eq.mp (by kernel_rfl) su_Line_Steady, Eq.mp (by kernel_rfl) su_Steady_Steady, Eq.mp (by kernel_rfl) su_Read_Steady, Eq.mp (by kernel_rfl) su_Send_Steady, Eq.mp (by kernel_rfl) su_Line_Read, Eq.mp (by kernel_rfl) su_Steady_Read, Eq.mp (by kernel_rfl) su_Read_Read, Eq.mp (by kernel_rfl) su_Send_Read, Eq.mp (by kernel_rfl) su_Line_Send, Eq.mp (by kernel_rfl) su_Steady_Send, Eq.mp (by kernel_rfl) su_Read_Send, Eq.mp (by kernel_rfl) su_Send_Send, Eq.mp (by kernel_rfl) ic_Line, Eq.mp (by kernel_rfl) ko_Line_Line, Eq.mp (by kernel_rfl) ic_Steady, Eq.mp (by kernel_rfl) ko_Steady_Line, Eq.mp (by kernel_rfl) ic_Read, Eq.mp (by kernel_rfl) ko_Read_Line, Eq.mp (by kernel_rfl) ic_Send, Eq.mp (by kernel_rfl) ko_Send_Line, Eq.mp (by kernel_rfl) se_Line___len__, Eq.mp (by kernel_rfl) se_Steady___len__, Eq.mp (by kernel_rfl) se_Read___len__, Eq.mp (by kernel_rfl) se_Send___len__, Eq.mp (by kernel_rfl) se_Line___repr__, Eq.mp (by kernel_rfl) se_Steady___repr__, Eq.mp (by kernel_rfl) se_Read___repr__, Eq.mp (by kernel_rfl) se_Send___repr__, Eq.mp (by kernel_rfl) cc_Line_KIND, Eq.mp (by kernel_rfl) cc_Send_KIND, Eq.mp (by kernel_rfl) cc_Line_MOVED, Eq.mp (by kernel_rfl) cc_Read_MOVED, z_isinstance, z_int, k_int, z_bool, k_bool, z_abs, z_tuple, k_tuple, z_len, z_all, z_str, k_str, g_MOST_LETTERS, g_LETTERS, g_KINDS, z_list, k_list, z_repr, z_range, z_enumerate, z_super⟩
structure Tx (P : Program) (K : PySem.W.Frag) (mg : Str → Option Value) (base : Heap) (cl : Str → Addr) (cd tT : Addr) : Prop where
  t : TK P K cl cd tT
  tb : Tb K mg base
theorem sS_InvalidRatio : SupScope ["self", "given"] ["self", "given"] (defScope s_InvalidRatio_init) := ⟨rfl, rfl, rfl, by decide +kernel, rfl, by decide +kernel, by decide +kernel, by decide +kernel, by decide +kernel, by decide +kernel⟩
theorem mk_InvalidRatio {X : Cx} {cl : Str → Addr} {cd tT : Addr} (T : Tx X.prog X.K X.mg X.base cl cd tT) {PE : XP} {e : Expr} {μ : Mu} {ds : DS} {p pos : Pos} {Q : XP} {k : Nat} (hr : Room (k + 3) X.A) (h : EX X PE μ ds e fun d μ1 => Q (cl "InvalidRatio") [("given", d), (("code" : Str), .str "InvalidRatio")] μ1) (hg : Gl X "InvalidRatio") (he : starEach [e] X.env = (false, eval e X.env) :: starEach [] X.env := by rfl) : MX X PE μ ds (.Call (.Name "InvalidRatio" p) [e] [] pos) Q :=
  mx_call1 T.t.pf T.t.e_InvalidRatio (T.tb.som T.t.n_InvalidRatio) hr sS_InvalidRatio h hg rfl rfl rfl (fun _ _ _ _ _ _ _ _ _ => rfl) (fun _ _ _ _ => rfl) (fun _ => rfl) (fun _ => rfl) (by decide) (by decide) (by decide +kernel) (by decide) he rfl
theorem sS_InvalidName : SupScope ["self", "given"] ["self", "given"] (defScope s_InvalidName_init) := ⟨rfl, rfl, rfl, by decide +kernel, rfl, by decide +kernel, by decide +kernel, by decide +kernel, by decide +kernel, by decide +kernel⟩
theorem mk_InvalidName {X : Cx} {cl : Str → Addr} {cd tT : Addr} (T : Tx X.prog X.K X.mg X.base cl cd tT) {PE : XP} {e : Expr} {μ : Mu} {ds : DS} {p pos : Pos} {Q : XP} {k : Nat} (hr : Room (k + 3) X.A) (h : EX X PE μ ds e fun d μ1 => Q (cl "InvalidName") [("given", d), (("code" : Str), .str "InvalidName")] μ1) (hg : Gl X "InvalidName") (he : starEach [e] X.env = (false, eval e X.env) :: starEach [] X.env := by rfl) : MX X PE μ ds (.Call (.Name "InvalidName" p) [e] [] pos) Q :=
  mx_call1 T.t.pf T.t.e_InvalidName (T.tb.som T.t.n_InvalidName) hr sS_InvalidName h hg rfl rfl rfl (fun _ _ _ _ _ _ _ _ _ => rfl) (fun _ _ _ _ => rfl) (fun _ => rfl) (fun _ => rfl) (by decide) (by decide) (by decide +kernel) (by decide) he rfl
theorem sS_InvalidKind : SupScope ["self", "given"] ["self", "given"] (defScope s_InvalidKind_init) := ⟨rfl, rfl, rfl, by decide +kernel, rfl, by decide +kernel, by decide +kernel, by decide +kernel, by decide +kernel, by decide +kernel⟩
theorem mk_InvalidKind {X : Cx} {cl : Str → Addr} {cd tT : Addr} (T : Tx X.prog X.K X.mg X.base cl cd tT) {PE : XP} {e : Expr} {μ : Mu} {ds : DS} {p pos : Pos} {Q : XP} {k : Nat} (hr : Room (k + 3) X.A) (h : EX X PE μ ds e fun d μ1 => Q (cl "InvalidKind") [("given", d), (("code" : Str), .str "InvalidKind")] μ1) (hg : Gl X "InvalidKind") (he : starEach [e] X.env = (false, eval e X.env) :: starEach [] X.env := by rfl) : MX X PE μ ds (.Call (.Name "InvalidKind" p) [e] [] pos) Q :=
  mx_call1 T.t.pf T.t.e_InvalidKind (T.tb.som T.t.n_InvalidKind) hr sS_InvalidKind h hg rfl rfl rfl (fun _ _ _ _ _ _ _ _ _ => rfl) (fun _ _ _ _ => rfl) (fun _ => rfl) (fun _ => rfl) (by decide) (by decide) (by decide +kernel) (by decide) he rfl
theorem sS_InvalidGain : SupScope ["self", "at"] ["self", "at"] (defScope s_InvalidGain_init) := ⟨rfl, rfl, rfl, by decide +kernel, rfl, by decide +kernel, by decide +kernel, by decide +kernel, by decide +kernel, by decide +kernel⟩
theorem mk_InvalidGain {X : Cx} {cl : Str → Addr} {cd tT : Addr} (T : Tx X.prog X.K X.mg X.base cl cd tT) {PE : XP} {e : Expr} {μ : Mu} {ds : DS} {p pos : Pos} {Q : XP} {k : Nat} (hr : Room (k + 3) X.A) (h : EX X PE μ ds e fun d μ1 => Q (cl "InvalidGain") [("at", d), (("code" : Str), .str "InvalidGain")] μ1) (hg : Gl X "InvalidGain") (he : starEach [e] X.env = (false, eval e X.env) :: starEach [] X.env := by rfl) : MX X PE μ ds (.Call (.Name "InvalidGain" p) [e] [] pos) Q :=
  mx_call1 T.t.pf T.t.e_InvalidGain (T.tb.som T.t.n_InvalidGain) hr sS_InvalidGain h hg rfl rfl rfl (fun _ _ _ _ _ _ _ _ _ => rfl) (fun _ _ _ _ => rfl) (fun _ => rfl) (fun _ => rfl) (by decide) (by decide) (by decide +kernel) (by decide) he rfl
end Hw
set_option Elab.async false
set_option linter.all false
set_option maxRecDepth 100000
set_option maxHeartbeats 4000000

namespace Hw
open PySem L2 PyProof.Rows
-- my own steps
local macro_rules | `(tactic| fail "size") => `(tactic| first | decide | exact Nat.le_of_ble_eq_true rfl | omega | assumption | (simp only [signs_len, rngD_len]; first | assumption | omega | (show _ ≤ 16777216; omega) | (simp only [Str.length_append]; show _ ≤ 16777216; omega)) | (show _ ≤ 16777216; omega) | (simp only [Str.length_append]; show _ ≤ 16777216; omega))
local macro_rules | `(tactic| fail "mul") => `(tactic| first | exact Or.inl (Or.inl ⟨by omega, by omega⟩) | exact Or.inl (Or.inr ⟨by omega, by omega⟩) | exact Or.inl (Or.inr ⟨by decide, by decide⟩))
local macro_rules | `(tactic| fail "pos") => `(tactic| first | decide | omega)
local macro_rules | `(tactic| fail "div") => `(tactic| first | decide | exact ⟨by omega, by decide⟩ | assumption)
local macro_rules | `(tactic| fail "mark") => `(tactic| with_unfolding_all rfl)
local macro_rules | `(tactic| fail "len") => `(tactic| exact Nat.le_of_ble_eq_true rfl)
local macro_rules | `(tactic| fail "wid") => `(tactic| first | exact Nat.le_of_ble_eq_true rfl | (simp only [shL, shLs, shN, shNs]; omega) | (simp [shL, shLs, shN, shNs, List.replicate]; omega))
local macro_rules | `(tactic| fail "loc") => `(tactic| first | exact Or.inl rfl | exact Or.inr rfl)
local macro_rules | `(tactic| fail "pl") => `(tactic| first | rfl | assumption)
local macro_rules | `(tactic| fail "rng") => `(tactic| first | decide | omega)
local macro_rules | `(tactic| fail "sh") => `(tactic| repeat (first | assumption | with_reducible exact sh_non | with_reducible exact sh_bl | with_reducible exact sh_nil | with_reducible refine sh_cons ?_ ?_ | with_reducible refine sh_tup ?_ | with_reducible refine sh_lst ?_ | (with_reducible refine sh_int ?_; omega) | (with_reducible refine sh_lit ?_; decide +kernel)))
local macro_rules | `(tactic| fail "rep") => `(tactic| exact ⟨by decide, by decide, Nat.le_of_ble_eq_true rfl⟩)
local macro_rules | `(tactic| fail "w") => `(tactic| simp only [get_0, get_s, set_0, set_s, q_lt, q_le, q_gt, q_ge, q_eqI, q_neI, q_add, q_sub, q_mul, q_div, q_mod, q_ix0, q_ix1, q_intK, q_truB, q_truI, q_wIf, q_abs, q_lenT, q_lenL, q_tupK, q_consK, q_nilK, q_itL, q_itT, q_itR, letK, letB, letS])
variable {P : Program} {w : World} {K : PySem.W.Frag} {mg : Str → Option Value} {base : Heap}

theorem sc__law_source : FnScope ["_law_script", "_law_seed", "_law_cell"] ["_law_script"] (defScope s__law_source) := ⟨rfl, rfl, rfl, by decide +kernel, rfl, by decide +kernel, by decide +kernel⟩
variable {cl : Str → Addr} {cd tT : Addr}
theorem fg__law_source (T : Tx P K mg base cl cd tT) {f : Addr} {fd : FuncData} (F : Fun K "_law_source" "_law_source" s__law_source f fd) : FnG P w K mg base 1 f fd ["_law_script"] sourceC := by
  have m_list := T.tb.non T.t.z_list
  have m_int := T.tb.non T.t.z_int
  refine fn_ok F sc__law_source (fun xs μ R RE h => by first | (obtain ⟨rfl, _⟩ := h; rfl) | (obtain ⟨_, rfl, _⟩ := h; rfl) | (obtain ⟨_, _, rfl, _⟩ := h; rfl) | (obtain ⟨_, _, _, rfl, _⟩ := h; rfl) | (obtain ⟨_, _, _, _, rfl, _⟩ := h; rfl) | (obtain ⟨_, _, _, _, _, rfl, _⟩ := h; rfl) | (obtain ⟨_, _, _, _, _, _, rfl, _⟩ := h; rfl)) fun xs μ R PE cdv A outer s H E hr h => ?_
  obtain ⟨ns, rfl, k⟩ := h
  refine sx_cons (sx_set 1 (ex_int (?_)) sc__law_source.nd rfl (by fail "loc"))
  refine sx_cut (fun s μ1 => μ1 = μ ∧ ∃ (z : Int) (d : Option D), s = [some (.rol (ns.map .int)), some (.int z), d]) ?_ fun s μ1 q => ?_
  · refine sx_for (ix_list (ex_slice (ex_nm (i := 0) rfl (ox_none (ox_some (ex_int (⟨_, rfl, s_rol (⟨_, .inl rfl, fun i s μ1 => μ1 = μ ∧ ∃ (z : Int) (d : Option D), s = [some (.rol (ns.map .int)), some (.int z), d], ⟨rfl, _, _, rfl⟩, fun i x dsi μi hx hi => ?_, fun dsn μn h => h⟩)⟩)))) rfl (.inl rfl) rfl rfl))) (passes_of rfl) rfl
    obtain ⟨rfl, z, d, rfl⟩ := hi
    rw [cutL_map, List.getElem?_map] at hx
    obtain ⟨y, _, rfl⟩ := Option.map_eq_some_iff.mp hx
    refine gx_nm 2 ?_ sc__law_source.nd rfl (by fail "loc")
    refine sx_cons (sx_set 1 (ex_bin (ex_callT cr_int (ax_cons (ex_bin (ex_bin (ex_bin (ex_nm (i := 1) rfl (ex_int (b_mulI (by fail "mul") (ex_bin (ex_callT cr_int (ax_cons (ex_nm (i := 2) rfl (ax_nil (f_int (ex_int (b_modI (by fail "pos") (b_addI (ex_int (b_addI (ax_nil (f_int (ex_int (b_modI (by fail "pos") (?_)))))))))))) rfl (.inl rfl) rfl rfl)) rfl (by assumption) (by decide +kernel))))) rfl (.inl rfl) rfl rfl))))) rfl (by assumption) (by decide +kernel))) sc__law_source.nd rfl (by fail "loc"))
    exact sx_nil ⟨rfl, _, _, rfl⟩
  · obtain ⟨rfl, z, d, rfl⟩ := q
    refine sx_cons (sx_ret (ex_lstM (ax_cons (ex_callT cr_list (ax_cons (ex_slice (ex_nm (i := 0) rfl (ox_none (ox_some (ex_int (⟨_, rfl, s_rol (ax_nil (f_listL (ax_cons (ex_int (ax_cons (ex_int (ax_cons (ex_nm (i := 1) rfl (ax_cons (ex_int (ax_nil (⟨by fail "len", fun p hp => ?_⟩)))) rfl (.inl rfl) rfl rfl))))))))⟩)))) rfl (.inl rfl) rfl rfl))) rfl (by assumption) (by decide +kernel)))))
    rw [cutL_map]
    exact k p _ hp ⟨_, _, _, _, _, rfl, Int.le_refl _⟩
theorem ok__law_source (T : Tx P K mg base cl cd tT) : Cal P w K mg base "_law_source" "_law_source" s__law_source ["_law_script"] 1 sourceC := cal_of T.tb T.t.f__law_source (fun _ _ _ _ _ _ us hl => match us, hl with | [_], _ => rfl) fun f fd F => fg__law_source T F
end Hw
set_option Elab.async false
set_option linter.all false
set_option maxRecDepth 100000
set_option maxHeartbeats 4000000

namespace Hw
open PySem L2 PyProof.Rows
-- my own steps
local macro_rules | `(tactic| fail "size") => `(tactic| first | decide | exact Nat.le_of_ble_eq_true rfl | omega | assumption | (simp only [signs_len, rngD_len]; first | assumption | omega | (show _ ≤ 16777216; omega) | (simp only [Str.length_append]; show _ ≤ 16777216; omega)) | (show _ ≤ 16777216; omega) | (simp only [Str.length_append]; show _ ≤ 16777216; omega))
local macro_rules | `(tactic| fail "mul") => `(tactic| first | exact Or.inl (Or.inl ⟨by omega, by omega⟩) | exact Or.inl (Or.inr ⟨by omega, by omega⟩) | exact Or.inl (Or.inr ⟨by decide, by decide⟩))
local macro_rules | `(tactic| fail "pos") => `(tactic| first | decide | omega)
local macro_rules | `(tactic| fail "div") => `(tactic| first | decide | exact ⟨by omega, by decide⟩ | assumption)
local macro_rules | `(tactic| fail "mark") => `(tactic| with_unfolding_all rfl)
local macro_rules | `(tactic| fail "len") => `(tactic| exact Nat.le_of_ble_eq_true rfl)
local macro_rules | `(tactic| fail "wid") => `(tactic| first | exact Nat.le_of_ble_eq_true rfl | (simp only [shL, shLs, shN, shNs]; omega) | (simp [shL, shLs, shN, shNs, List.replicate]; omega))
local macro_rules | `(tactic| fail "loc") => `(tactic| first | exact Or.inl rfl | exact Or.inr rfl)
local macro_rules | `(tactic| fail "pl") => `(tactic| first | rfl | assumption)
local macro_rules | `(tactic| fail "rng") => `(tactic| first | decide | omega)
local macro_rules | `(tactic| fail "sh") => `(tactic| repeat (first | assumption | with_reducible exact sh_non | with_reducible exact sh_bl | with_reducible exact sh_nil | with_reducible refine sh_cons ?_ ?_ | with_reducible refine sh_tup ?_ | with_reducible refine sh_lst ?_ | (with_reducible refine sh_int ?_; omega) | (with_reducible refine sh_lit ?_; decide +kernel)))
local macro_rules | `(tactic| fail "rep") => `(tactic| exact ⟨by decide, by decide, Nat.le_of_ble_eq_true rfl⟩)
local macro_rules | `(tactic| fail "w") => `(tactic| simp only [get_0, get_s, set_0, set_s, q_lt, q_le, q_gt, q_ge, q_eqI, q_neI, q_add, q_sub, q_mul, q_div, q_mod, q_ix0, q_ix1, q_intK, q_truB, q_truI, q_wIf, q_abs, q_lenT, q_lenL, q_tupK, q_consK, q_nilK, q_itL, q_itT, q_itR, letK, letB, letS])
variable {P : Program} {w : World} {K : PySem.W.Frag} {mg : Str → Option Value} {base : Heap}

theorem sc__law_draw : FnScope ["_law_src", "_law_many", "_law_cell", "_law_digit", "_law_root", "_law_grown"] ["_law_src", "_law_many"] (defScope s__law_draw) := ⟨rfl, rfl, rfl, by decide +kernel, rfl, by decide +kernel, by decide +kernel⟩
variable {cl : Str → Addr} {cd tT : Addr}
theorem fg__law_draw (T : Tx P K mg base cl cd tT) {f : Addr} {fd : FuncData} (F : Fun K "_law_draw" "_law_draw" s__law_draw f fd) : FnG P w K mg base 1 f fd ["_law_src", "_law_many"] drawC := by
  have m_int := T.tb.non T.t.z_int
  have m_len := T.tb.non T.t.z_len
  refine fn_ok F sc__law_draw (fun xs μ R RE h => by first | (obtain ⟨rfl, _⟩ := h; rfl) | (obtain ⟨_, rfl, _⟩ := h; rfl) | (obtain ⟨_, _, rfl, _⟩ := h; rfl) | (obtain ⟨_, _, _, rfl, _⟩ := h; rfl) | (obtain ⟨_, _, _, _, rfl, _⟩ := h; rfl) | (obtain ⟨_, _, _, _, _, rfl, _⟩ := h; rfl) | (obtain ⟨_, _, _, _, _, _, rfl, _⟩ := h; rfl)) fun xs μ R PE cdv A outer s H E hr h => ?_
  obtain ⟨a, m, rfl, ⟨c0, e0, ns, i, cc, seed, n, rfl, hi⟩, hm, k⟩ := h
  have hm9 := hm.2
  have hm0 := hm.1
  -- behind the first if the store is a source's again, the two arguments stand
  have old : ∃ (ns2 : List Int) (i2 cc2 seed2 n2 : Int), μ = mset μ a (.lst [.lst (ns2.map .int), .int i2, .int cc2, .int seed2, .int n2]) ∧ 0 ≤ i2 := ⟨ns, i, cc, seed, n, (mset_id e0).symm, hi⟩
  refine sx_cut (fun s μ1 => ∃ d2, s = [some (.ref a), some (.int m), d2, none, none, none] ∧ ∃ (ns2 : List Int) (i2 cc2 seed2 n2 : Int), μ1 = mset μ a (.lst [.lst (ns2.map .int), .int i2, .int cc2, .int seed2, .int n2]) ∧ 0 ≤ i2) ?_ fun s μ1 q => ?_
  · refine sx_if (tx_w (tw_and (tx_cmp (ex_ix (ex_nm (i := 0) rfl (ex_int (i_ref e0 rfl (ex_nm (i := 1) rfl (c_lt (two (fun ha => tw_and1 (tx_cmp (ex_ix (ex_nm (i := 0) rfl (ex_int (i_ref e0 rfl (ex_callB cr_len (ax_cons (ex_ix (ex_nm (i := 0) rfl (ex_int (i_ref e0 rfl (ax_nil (f_lenL (c_lt (two (fun h1 => ?_) (fun h2 => sx_nil ⟨none, rfl, old⟩))))))) rfl (.inl rfl) rfl rfl))) rfl (by assumption) PySem.boot_len))) rfl (.inl rfl) rfl rfl)) (by fail "mark"))) (fun ha => two (fun h1 => ?_) (fun h2 => sx_nil ⟨none, rfl, old⟩)))) rfl (.inl rfl) rfl rfl))) rfl (.inl rfl) rfl rfl)) (by fail "mark"))))
    · have h1' : i < (ns.map D.int).length := of_decide_eq_true h1
      rw [List.length_map] at h1'
      obtain ⟨x, hx⟩ : ∃ x, ns[i.toNat]? = some x := ⟨ns[i.toNat], List.getElem?_eq_getElem (by omega)⟩
      have hat : atI (ns.map D.int) i = some (.int x) := atI_map (j := i.toNat) (by omega) hx
      refine sx_cons (sx_set 2 (ex_ix (ex_ix (ex_nm (i := 0) rfl (ex_int (i_ref e0 rfl (ex_ix (ex_nm (i := 0) rfl (ex_int (i_ref e0 rfl (i_lst hat (?_)))) rfl (.inl rfl) rfl rfl)))) rfl (.inl rfl) rfl rfl))) sc__law_draw.nd rfl (by fail "loc"))
      refine sx_cons (sx_asg (ex_bin (ex_ix (ex_nm (i := 0) rfl (ex_int (i_ref e0 rfl (ex_int (b_addI (gx_sub (ex_nm (i := 0) rfl (ex_int (⟨_, _, _, _, rfl, rfl, e0, rfl, ?_⟩)) rfl (.inl rfl) rfl rfl)))))) rfl (.inl rfl) rfl rfl))))
      refine sx_cons (sx_asg (ex_bin (ex_callT cr_int (ax_cons (ex_bin (ex_bin (ex_bin (ex_ix (ex_nm (i := 0) rfl (ex_int (i_refS rfl (ex_int (b_mulI (by fail "mul") (ex_bin (ex_callT cr_int (ax_cons (ex_nm (i := 2) rfl (ax_nil (f_int (ex_int (b_modI (by fail "pos") (b_addI (ex_int (b_addI (ax_nil (f_int (ex_int (b_modI (by fail "pos") (gx_sub (ex_nm (i := 0) rfl (ex_int (⟨_, _, _, _, rfl, rfl, mset_same, rfl, ?_⟩)) rfl (.inl rfl) rfl rfl))))))))))))) rfl (.inl rfl) rfl rfl)) rfl (by assumption) (by decide +kernel))))))) rfl (.inl rfl) rfl rfl)))))) rfl (by assumption) (by decide +kernel))))
      refine sx_cons (sx_asg (ex_if (tx_cmp (ex_nm (i := 2) rfl (ex_bin (ex_int (ex_int (b_powI ⟨by decide, by decide, by decide⟩ (c_ge (two (fun hi => ex_nm (i := 2) rfl (gx_sub (ex_nm (i := 0) rfl (ex_int (⟨_, _, _, _, rfl, rfl, mset_same, rfl, ?_⟩)) rfl (.inl rfl) rfl rfl)) rfl (.inl rfl) rfl rfl) (fun hi => ex_int (gx_sub (ex_nm (i := 0) rfl (ex_int (⟨_, _, _, _, rfl, rfl, mset_same, rfl, ?_⟩)) rfl (.inl rfl) rfl rfl))))))))) rfl (.inl rfl) rfl rfl) (by fail "mark"))))
      · exact sx_nil ⟨_, rfl, ns, i + 1, x, (seed * 46399 + x % 2147483399 + 29) % 2147483563, n, by simp only [mset_mset]; rfl, by omega⟩
      · exact sx_nil ⟨_, rfl, ns, i + 1, 0, (seed * 46399 + x % 2147483399 + 29) % 2147483563, n, by simp only [mset_mset]; rfl, by omega⟩
    · cases h1
  · obtain ⟨d2, rfl, ns2, i2, cc2, seed2, n2, rfl, hi2⟩ := q
    refine sx_cons (sx_if (tx_cmp (ex_ix (ex_nm (i := 0) rfl (ex_int (i_refS rfl (ex_nm (i := 1) rfl (c_ge (two (fun h1 => ?_) (fun h2 => sx_nil ?_))) rfl (.inl rfl) rfl rfl))) rfl (.inl rfl) rfl rfl)) (by fail "mark")))
    · refine sx_cons (sx_set 3 (ex_bin (ex_callT cr_int (ax_cons (ex_ix (ex_nm (i := 0) rfl (ex_int (i_refS rfl (ax_nil (f_int (ex_nm (i := 1) rfl (b_modI (by fail "pos") (?_)) rfl (.inl rfl) rfl rfl))))) rfl (.inl rfl) rfl rfl))) rfl (by assumption) (by decide +kernel))) sc__law_draw.nd rfl (by fail "loc"))
      refine sx_cons (sx_asg (ex_bin (ex_ix (ex_nm (i := 0) rfl (ex_int (i_refS rfl (ex_nm (i := 1) rfl (b_divI (by fail "div") (gx_sub (ex_nm (i := 0) rfl (ex_int (⟨_, _, _, _, rfl, rfl, mset_same, rfl, ?_⟩)) rfl (.inl rfl) rfl rfl))) rfl (.inl rfl) rfl rfl))) rfl (.inl rfl) rfl rfl))))
      refine sx_cons (sx_ret (ex_nm (i := 3) rfl (?_) rfl (.inl rfl) rfl rfl))
      rw [mset_mset]
      exact k _ _ (Int.emod_nonneg _ (by omega)) (Int.emod_lt_of_pos _ hm0) ⟨_, _, _, _, _, rfl, hi2⟩
    · refine sx_cons (sx_asg (ex_bin (ex_ix (ex_nm (i := 0) rfl (ex_int (i_refS rfl (ex_int (b_addI (gx_sub (ex_nm (i := 0) rfl (ex_int (⟨_, _, _, _, rfl, rfl, mset_same, rfl, ?_⟩)) rfl (.inl rfl) rfl rfl)))))) rfl (.inl rfl) rfl rfl))))
      refine sx_cons (sx_set 4 (ex_bin (ex_callT cr_int (ax_cons (ex_bin (ex_ix (ex_nm (i := 0) rfl (ex_int (i_refS rfl (ex_bin (ex_ix (ex_nm (i := 0) rfl (ex_int (i_refS rfl (ex_int (b_mulI (by fail "mul") (b_addI (ax_nil (f_int (ex_int (b_modI (by fail "pos") (?_)))))))))) rfl (.inl rfl) rfl rfl))))) rfl (.inl rfl) rfl rfl)))) rfl (by assumption) (by decide +kernel))) sc__law_draw.nd rfl (by fail "loc"))
      refine sx_cons (sx_set 5 (ex_bin (ex_bin (ex_callT cr_int (ax_cons (ex_bin (ex_nm (i := 4) rfl (ex_nm (i := 4) rfl (b_mulI (by fail "mul") (ax_nil (f_int (ex_int (b_modI (by fail "pos") (ex_bin (ex_bin (ex_callT cr_int (ax_cons (ex_nm (i := 4) rfl (ax_nil (f_int (ex_int (b_modI (by fail "pos") (ex_int (b_addI (b_mulI (by fail "mul") (?_)))))))) rfl (.inl rfl) rfl rfl)) rfl (by assumption) (by decide +kernel))))))))) rfl (.inl rfl) rfl rfl) rfl (.inl rfl) rfl rfl))) rfl (by assumption) (by decide +kernel)))) sc__law_draw.nd rfl (by fail "loc"))
      refine sx_cons (sx_asg (ex_bin (ex_callT cr_int (ax_cons (ex_bin (ex_bin (ex_nm (i := 5) rfl (ex_bin (ex_int (ex_nm (i := 4) rfl (b_mulI (by fail "mul") (b_addI (ex_int (b_addI (ax_nil (f_int (ex_int (b_modI (by fail "pos") (gx_sub (ex_nm (i := 0) rfl (ex_int (⟨_, _, _, _, rfl, rfl, mset_same, rfl, ?_⟩)) rfl (.inl rfl) rfl rfl)))))))))) rfl (.inl rfl) rfl rfl))) rfl (.inl rfl) rfl rfl)))) rfl (by assumption) (by decide +kernel))))
      refine sx_cons (sx_ret (ex_bin (ex_callT cr_int (ax_cons (ex_bin (ex_bin (ex_ix (ex_nm (i := 0) rfl (ex_int (i_refS rfl (ex_int (b_divI (by fail "div") (ex_bin (ex_bin (ex_callT cr_int (ax_cons (ex_ix (ex_nm (i := 0) rfl (ex_int (i_refS rfl (ax_nil (f_int (ex_int (b_modI (by fail "pos") (ex_int (b_mulI (by fail "mul") (b_addI (ax_nil (f_int (ex_nm (i := 1) rfl (b_modI (by fail "pos") (?_)) rfl (.inl rfl) rfl rfl)))))))))))) rfl (.inl rfl) rfl rfl))) rfl (by assumption) (by decide +kernel)))))))) rfl (.inl rfl) rfl rfl))))) rfl (by assumption) (by decide +kernel))))
      simp only [mset_mset]
      exact k _ _ (Int.emod_nonneg _ (by omega)) (Int.emod_lt_of_pos _ hm0) ⟨_, _, _, _, _, rfl, hi2⟩
theorem ok__law_draw (T : Tx P K mg base cl cd tT) : Cal P w K mg base "_law_draw" "_law_draw" s__law_draw ["_law_src", "_law_many"] 1 drawC := cal_of T.tb T.t.f__law_draw (fun _ _ _ _ _ _ us hl => match us, hl with | [_, _], _ => rfl) fun f fd F => fg__law_draw T F
end Hw
set_option Elab.async false
set_option linter.all false
set_option maxRecDepth 100000
set_option maxHeartbeats 4000000

namespace Hw
open PySem L2 PyProof.Rows
-- my own steps
local macro_rules | `(tactic| fail "size") => `(tactic| first | decide | exact Nat.le_of_ble_eq_true rfl | omega | assumption | (simp only [signs_len, rngD_len]; first | assumption | omega | (show _ ≤ 16777216; omega) | (simp only [Str.length_append]; show _ ≤ 16777216; omega)) | (show _ ≤ 16777216; omega) | (simp only [Str.length_append]; show _ ≤ 16777216; omega))
local macro_rules | `(tactic| fail "mul") => `(tactic| first | exact Or.inl (Or.inl ⟨by omega, by omega⟩) | exact Or.inl (Or.inr ⟨by omega, by omega⟩) | exact Or.inl (Or.inr ⟨by decide, by decide⟩))
local macro_rules | `(tactic| fail "pos") => `(tactic| first | decide | omega)
local macro_rules | `(tactic| fail "div") => `(tactic| first | decide | exact ⟨by omega, by decide⟩ | assumption)
local macro_rules | `(tactic| fail "mark") => `(tactic| with_unfolding_all rfl)
local macro_rules | `(tactic| fail "len") => `(tactic| exact Nat.le_of_ble_eq_true rfl)
local macro_rules | `(tactic| fail "wid") => `(tactic| first | exact Nat.le_of_ble_eq_true rfl | (simp only [shL, shLs, shN, shNs]; omega) | (simp [shL, shLs, shN, shNs, List.replicate]; omega))
local macro_rules | `(tactic| fail "loc") => `(tactic| first | exact Or.inl rfl | exact Or.inr rfl)
local macro_rules | `(tactic| fail "pl") => `(tactic| first | rfl | assumption)
local macro_rules | `(tactic| fail "rng") => `(tactic| first | decide | omega)
local macro_rules | `(tactic| fail "sh") => `(tactic| repeat (first | assumption | with_reducible exact sh_non | with_reducible exact sh_bl | with_reducible exact sh_nil | with_reducible refine sh_cons ?_ ?_ | with_reducible refine sh_tup ?_ | with_reducible refine sh_lst ?_ | (with_reducible refine sh_int ?_; omega) | (with_reducible refine sh_lit ?_; decide +kernel)))
local macro_rules | `(tactic| fail "rep") => `(tactic| exact ⟨by decide, by decide, Nat.le_of_ble_eq_true rfl⟩)
local macro_rules | `(tactic| fail "w") => `(tactic| simp only [get_0, get_s, set_0, set_s, q_lt, q_le, q_gt, q_ge, q_eqI, q_neI, q_add, q_sub, q_mul, q_div, q_mod, q_ix0, q_ix1, q_intK, q_truB, q_truI, q_wIf, q_abs, q_lenT, q_lenL, q_tupK, q_consK, q_nilK, q_itL, q_itT, q_itR, letK, letB, letS])
variable {P : Program} {w : World} {K : PySem.W.Frag} {mg : Str → Option Value} {base : Heap}

theorem sc__law_of : FnScope ["_law_src", "_law_some"] ["_law_src", "_law_some"] (defScope s__law_of) := ⟨rfl, rfl, rfl, by decide +kernel, rfl, by decide +kernel, by decide +kernel⟩
variable {cl : Str → Addr} {cd tT : Addr}
theorem fg__law_of (T : Tx P K mg base cl cd tT) {f : Addr} {fd : FuncData} (F : Fun K "_law_of" "_law_of" s__law_of f fd) : FnG P w K mg base 2 f fd ["_law_src", "_law_some"] ofC := by
  have c__law_draw := ok__law_draw (P := P) (w := w) T
  have m_len := T.tb.non T.t.z_len
  refine fn_ok F sc__law_of (fun xs μ R RE h => by first | (obtain ⟨rfl, _⟩ := h; rfl) | (obtain ⟨_, rfl, _⟩ := h; rfl) | (obtain ⟨_, _, rfl, _⟩ := h; rfl) | (obtain ⟨_, _, _, rfl, _⟩ := h; rfl) | (obtain ⟨_, _, _, _, rfl, _⟩ := h; rfl) | (obtain ⟨_, _, _, _, _, rfl, _⟩ := h; rfl) | (obtain ⟨_, _, _, _, _, _, rfl, _⟩ := h; rfl)) fun xs μ R PE cdv A outer s H E hr h => ?_
  obtain ⟨a, d, rfl, sa, hm, k⟩ := h
  refine sx_cons (sx_ret (ex_ix (ex_nm (i := 1) rfl (ex_call c__law_draw (hr.mono (by decide)) (ax_cons (ex_nm (i := 0) rfl (ax_cons (ex_callB cr_len (ax_cons (ex_nm (i := 1) rfl (ax_nil (len_menu hm fun n hn hix => (ax_nil (draw_i sa ⟨by omega, by simpa using lt_sz hn.2⟩ fun z c h0 h1 hc => ((hix _ _ _ h0 h1 fun x hx => k x c hx hc)))))) rfl (.inl rfl) rfl rfl)) rfl (by assumption) PySem.boot_len)) rfl (.inl rfl) rfl rfl)) rfl) rfl (.inl rfl) rfl rfl)))
theorem ok__law_of (T : Tx P K mg base cl cd tT) : Cal P w K mg base "_law_of" "_law_of" s__law_of ["_law_src", "_law_some"] 2 ofC := cal_of T.tb T.t.f__law_of (fun _ _ _ _ _ _ us hl => match us, hl with | [_, _], _ => rfl) fun f fd F => fg__law_of T F
end Hw
set_option Elab.async false
set_option linter.all false
set_option maxRecDepth 100000
set_option maxHeartbeats 4000000

namespace Hw
open PySem L2 PyProof.Rows
-- my own steps
local macro_rules | `(tactic| fail "size") => `(tactic| first | decide | exact Nat.le_of_ble_eq_true rfl | omega | assumption | (simp only [signs_len, rngD_len]; first | assumption | omega | (show _ ≤ 16777216; omega) | (simp only [Str.length_append]; show _ ≤ 16777216; omega)) | (show _ ≤ 16777216; omega) | (simp only [Str.length_append]; show _ ≤ 16777216; omega))
local macro_rules | `(tactic| fail "mul") => `(tactic| first | exact Or.inl (Or.inl ⟨by omega, by omega⟩) | exact Or.inl (Or.inr ⟨by omega, by omega⟩) | exact Or.inl (Or.inr ⟨by decide, by decide⟩))
local macro_rules | `(tactic| fail "pos") => `(tactic| first | decide | omega)
local macro_rules | `(tactic| fail "div") => `(tactic| first | decide | exact ⟨by omega, by decide⟩ | assumption)
local macro_rules | `(tactic| fail "mark") => `(tactic| with_unfolding_all rfl)
local macro_rules | `(tactic| fail "len") => `(tactic| exact Nat.le_of_ble_eq_true rfl)
local macro_rules | `(tactic| fail "wid") => `(tactic| first | exact Nat.le_of_ble_eq_true rfl | (simp only [shL, shLs, shN, shNs]; omega) | (simp [shL, shLs, shN, shNs, List.replicate]; omega))
local macro_rules | `(tactic| fail "loc") => `(tactic| first | exact Or.inl rfl | exact Or.inr rfl)
local macro_rules | `(tactic| fail "pl") => `(tactic| first | rfl | assumption)
local macro_rules | `(tactic| fail "rng") => `(tactic| first | decide | omega)
local macro_rules | `(tactic| fail "sh") => `(tactic| repeat (first | assumption | with_reducible exact sh_non | with_reducible exact sh_bl | with_reducible exact sh_nil | with_reducible refine sh_cons ?_ ?_ | with_reducible refine sh_tup ?_ | with_reducible refine sh_lst ?_ | (with_reducible refine sh_int ?_; omega) | (with_reducible refine sh_lit ?_; decide +kernel)))
local macro_rules | `(tactic| fail "rep") => `(tactic| exact ⟨by decide, by decide, Nat.le_of_ble_eq_true rfl⟩)
local macro_rules | `(tactic| fail "w") => `(tactic| simp only [get_0, get_s, set_0, set_s, q_lt, q_le, q_gt, q_ge, q_eqI, q_neI, q_add, q_sub, q_mul, q_div, q_mod, q_ix0, q_ix1, q_intK, q_truB, q_truI, q_wIf, q_abs, q_lenT, q_lenL, q_tupK, q_consK, q_nilK, q_itL, q_itT, q_itR, letK, letB, letS])
variable {P : Program} {w : World} {K : PySem.W.Frag} {mg : Str → Option Value} {base : Heap}

theorem sc__law_same : FnScope ["_law_found", "_law_due"] ["_law_found", "_law_due"] (defScope s__law_same) := ⟨rfl, rfl, rfl, by decide +kernel, rfl, by decide +kernel, by decide +kernel⟩
variable {cl : Str → Addr} {cd tT : Addr}
theorem fg__law_same (T : Tx P K mg base cl cd tT) {f : Addr} {fd : FuncData} (F : Fun K "_law_same" "_law_same" s__law_same f fd) : FnG P w K mg base 1 f fd ["_law_found", "_law_due"] sameC := by
  have m_repr := T.tb.non T.t.z_repr
  refine fn_ok F sc__law_same (fun xs μ R RE h => by first | (obtain ⟨rfl, _⟩ := h; rfl) | (obtain ⟨_, rfl, _⟩ := h; rfl) | (obtain ⟨_, _, rfl, _⟩ := h; rfl) | (obtain ⟨_, _, _, rfl, _⟩ := h; rfl) | (obtain ⟨_, _, _, _, rfl, _⟩ := h; rfl) | (obtain ⟨_, _, _, _, _, rfl, _⟩ := h; rfl) | (obtain ⟨_, _, _, _, _, _, rfl, _⟩ := h; rfl)) fun xs μ R PE cdv A outer s H E hr h => ?_
  obtain ⟨x, y, p, rfl, e1, e2, h1, h2, h3, k⟩ := h
  refine sx_cons (sx_ret (ex_cmp (ex_callB (cr_repr (hr.mono (Nat.zero_le _))) (ax_cons (ex_nm (i := 0) rfl (ax_nil (f_repr e1 h1 h2 h3 (ex_callB (cr_repr (hr.mono (Nat.zero_le _))) (ax_cons (ex_nm (i := 1) rfl (ax_nil (f_repr e2 h1 h2 h3 (c_eqS (?_)))) rfl (.inl rfl) rfl rfl)) rfl (by assumption) (by decide +kernel)))) rfl (.inl rfl) rfl rfl)) rfl (by assumption) (by decide +kernel)) (by fail "mark")))
  simpa using k
theorem ok__law_same (T : Tx P K mg base cl cd tT) : Cal P w K mg base "_law_same" "_law_same" s__law_same ["_law_found", "_law_due"] 1 sameC := cal_of T.tb T.t.f__law_same (fun _ _ _ _ _ _ us hl => match us, hl with | [_, _], _ => rfl) fun f fd F => fg__law_same T F
end Hw
set_option Elab.async false
set_option linter.all false
set_option maxRecDepth 100000
set_option maxHeartbeats 4000000
namespace Hw
open PySem L2 PyProof.Rows
def w__law_low (cl : Str → Addr) : CT := fun xs μ R PE => match xs with
  | [a__law_top, a__law_bottom] => absOk [a__law_top] μ fun d1 m2 => whW (fun ds3 m4 K5 => dsGet ds3 3 fun v10 => cmpW .Gt v10 (.int 0) fun z9 => K5 z9 m4) (fun ds6 m7 Z8 => dsGet ds6 3 fun v11 => dsGet ds6 2 fun v14 => intG [v14] m7 fun d12 m13 => dsGet ds6 3 fun v15 => binOk .Mod d12 v15 fun v16 => Z8.nx ((ds6.set 2 (some v11)).set 3 (some v16)) m13) [some a__law_top, some a__law_bottom, some d1, some a__law_bottom] m2 { nx := fun ds17 m18 => dsGet ds17 0 fun v19 => dsGet ds17 2 fun v20 => binOk .FloorDiv v19 v20 fun v21 => dsGet ds17 1 fun v22 => dsGet ds17 2 fun v23 => binOk .FloorDiv v22 v23 fun v24 => R (.tup [v21, v24]) m18, rt := fun d25 m26 => R d25 m26, bk := fun ds27 m28 => False, ct := fun ds29 m30 => False }
  | _ => False
def w__law_gain (cl : Str → Addr) : CT := fun xs μ R PE => match xs with
  | [a__law_src] => w__law_draw cl [a__law_src, .int 12] μ (fun d1 m2 => cmpW .Lt d1 (.int 5) fun z3 => wIf z3 (R (.tup [.int 0, .int 1]) m2) (cmpW .Lt d1 (.int 8) fun z4 => wIf z4 (w__law_draw cl [a__law_src, .int 5] m2 (fun d5 m6 => binOk .Sub d5 (.int 2) fun v7 => R (.tup [v7, .int 1]) m6) PE) (cmpW .Lt d1 (.int 11) fun z8 => wIf z8 (w__law_draw cl [a__law_src, .int 13] m2 (fun d9 m10 => binOk .Sub d9 (.int 6) fun v11 => w__law_draw cl [a__law_src, .int 6] m10 (fun d12 m13 => binOk .Add (.int 1) d12 fun v14 => w__law_low cl [v11, v14] m13 (fun d15 m16 => R d15 m16) PE) PE) PE) (binOk .Pow (.int 10) (.int 9) fun v17 => w__law_draw cl [a__law_src, v17] m2 (fun d18 m19 => binOk .Pow (.int 10) (.int 8) fun v20 => binOk .Sub d18 v20 fun v21 => R (.tup [v21, .int 1]) m19) PE)))) PE
  | _ => False
def w__law_gains (cl : Str → Addr) : CT := fun xs μ R PE => match xs with
  | [a__law_src, a__law_many] => intK a__law_many fun j2 => (-(2 ^ 62) ≤ j2 ∧ j2 < 2 ^ 62) ∧ lcW (fun x3 m4 Q5 => w__law_gain cl [a__law_src] m4 (fun d8 m9 => Q5 (some d8) m9) noX) (rngD 0 j2.toNat) μ fun ys6 m7 => R (.lst ys6) m7
  | _ => False
def fs_name (cl : Str → Addr) : List Addr := [cl "Line", cl "Steady", cl "Read", cl "Send"]
def fs_own_gains (cl : Str → Addr) : List Addr := [cl "Line", cl "Steady", cl "Read", cl "Send"]
def w_is_name (cl : Str → Addr) : CT := fun xs μ R PE => match xs with
  | [a_value] => letB (fun k3 => plainD a_value = true ∧ truK (.bl (isB "str" a_value)) fun z13 => wIf (!z13) (k3 true μ) (letB (fun k16 => lenOk [a_value] μ fun d19 m20 => cmpW .LtE (.int 1) d19 fun z17 => wIf z17 (cmpW .LtE d19 (.int 8) fun z18 => k16 z18 m20) (k16 false m20)) fun z14 m15 => k3 (!z14) m15)) fun z1 m2 => wIf z1 (R (.bl false) m2) (itemsK a_value fun xs6 => lcW (fun x7 m8 Q9 => cmpW .In x7 (.str "abcdefghijklmnopqrstuvwxyz") fun z12 => Q9 (some (.bl z12)) m8) xs6 m2 fun ys10 m11 => allOk [.lst ys10] m11 fun d4 m5 => R d4 m5)
  | _ => False
def w_is_integer (cl : Str → Addr) : CT := fun xs μ R PE => match xs with
  | [a_value] => letK (fun k3 => plainD a_value = true ∧ truK (.bl (isB "int" a_value)) fun z4 => wIf z4 (plainD a_value = true ∧ truK (.bl (isB "bool" a_value)) fun v5 => k3 (.bl (!v5)) μ) (k3 (.bl (isB "int" a_value)) μ)) fun d1 m2 => R d1 m2
  | _ => False
def w_common_divisor (cl : Str → Addr) : CT := fun xs μ R PE => match xs with
  | [a_one, a_other] => absOk [a_one] μ fun d1 m2 => absOk [a_other] m2 fun d3 m4 => whW (fun ds5 m6 K7 => dsGet ds5 1 fun v12 => cmpW .Gt v12 (.int 0) fun z11 => K7 z11 m6) (fun ds8 m9 Z10 => dsGet ds8 1 fun v13 => dsGet ds8 0 fun v14 => dsGet ds8 1 fun v15 => binOk .Mod v14 v15 fun v16 => Z10.nx ((ds8.set 0 (some v13)).set 1 (some v16)) m9) [some d1, some d3] m4 { nx := fun ds17 m18 => dsGet ds17 0 fun v19 => R v19 m18, rt := fun d20 m21 => R d20 m21, bk := fun ds22 m23 => False, ct := fun ds24 m25 => False }
  | _ => False
def w_is_ratio (cl : Str → Addr) : CT := fun xs μ R PE => match xs with
  | [a_value] => letB (fun k3 => plainD a_value = true ∧ truK (.bl (isB "tuple" a_value)) fun z15 => wIf (!z15) (k3 true μ) (lenOk [a_value] μ fun d17 m18 => cmpW .NotEq d17 (.int 2) fun z16 => wIf z16 (k3 true m18) (ixA m18 a_value (.int 0) fun v20 => w_is_integer cl [v20] m18 (fun d21 m22 => truK d21 fun z19 => wIf (!z19) (k3 true m22) (ixA m22 a_value (.int 1) fun v24 => w_is_integer cl [v24] m22 (fun d25 m26 => truK d25 fun z23 => k3 (!z23) m26) PE)) PE))) fun z1 m2 => wIf z1 (R (.bl false) m2) (letK (fun k6 => ixA m2 a_value (.int 1) fun v9 => cmpW .GtE v9 (.int 1) fun z8 => truK (.bl z8) fun z7 => wIf z7 (ixA m2 a_value (.int 0) fun v11 => ixA m2 a_value (.int 1) fun v12 => w_common_divisor cl [v11, v12] m2 (fun d13 m14 => cmpW .Eq d13 (.int 1) fun z10 => k6 (.bl z10) m14) PE) (k6 (.bl z8) m2)) fun d4 m5 => R d4 m5)
  | _ => False
def w_is_valued (cl : Str → Addr) : CT := fun xs μ R PE => match xs with
  | [a_value] => letK (fun k3 => w_is_integer cl [a_value] μ (fun d5 m6 => truK d5 fun z4 => wIf z4 (k3 d5 m6) (w_is_ratio cl [a_value] m6 (fun d7 m8 => k3 d7 m8) PE)) PE) fun d1 m2 => R d1 m2
  | _ => False
def w_ratio_of (cl : Str → Addr) : CT := fun xs μ R PE => match xs with
  | [a_value] => w_is_integer cl [a_value] μ (fun d2 m3 => truK d2 fun z1 => wIf z1 (R (.tup [a_value, .int 1]) m3) (w_is_ratio cl [a_value] m3 (fun d5 m6 => truK d5 fun z4 => wIf (!z4) (PE (cl "InvalidRatio") [(("given" : Str), a_value), (("code" : Str), .str "InvalidRatio")] m6) (R a_value m6)) PE)) PE
  | _ => False
def w_Line___init__ (cl : Str → Addr) : CT := fun xs μ R PE => match xs with
  | [a_self, a_name, a_gains] => w_is_name cl [a_name] μ (fun d2 m3 => truK d2 fun z1 => wIf (!z1) (PE (cl "InvalidName") [(("given" : Str), a_name), (("code" : Str), .str "InvalidName")] m3) (seqK a_gains fun xs18 => forW (fun x4 ds5 m6 Z7 => tupK x4 fun t8 => consK t8 fun a9 t10 => consK t10 fun a11 t12 => nilK t12 (dsGet ((ds5.set 3 (some a9)).set 4 (some a11)) 4 fun v14 => w_is_valued cl [v14] m6 (fun d15 m16 => truK d15 fun z13 => wIf (!z13) (dsGet ((ds5.set 3 (some a9)).set 4 (some a11)) 3 fun v17 => PE (cl "InvalidGain") [(("at" : Str), v17), (("code" : Str), .str "InvalidGain")] m16) (Z7.nx ((ds5.set 3 (some a9)).set 4 (some a11)) m16)) PE)) { nx := fun ds19 m20 => dsGet ds19 1 fun v22 => dsGet ds19 0 fun v23 => fldW "name" (fs_name cl) v23 v22 m20 fun m21 => dsGet ds19 2 fun v28 => itemsK v28 fun xs27 => lcW (fun x29 m30 Q31 => dsGet ((wipeD ds19 [4]).set 4 (some x29)) 4 fun v34 => w_ratio_of cl [v34] m30 (fun d35 m36 => Q31 (some d35) m36) noX) xs27 m21 fun ys32 m33 => tupleOk [.lst ys32] m33 fun d25 m26 => dsGet ds19 0 fun v37 => fldW "own_gains" (fs_own_gains cl) v37 d25 m26 fun m24 => R .non m24, rt := fun d38 m39 => R d38 m39, bk := fun ds40 m41 => False, ct := fun ds42 m43 => False } (enumD xs18) [some a_self, some a_name, some a_gains, none, none] m3)) PE
  | _ => False
def w_Line___init___any (cl : Str → Addr) : CT := starW 2 (w_Line___init__ cl)
def w_Send___init__ (cl : Str → Addr) : CT := fun xs μ R PE => match xs with
  | [a_self, a_name, a_gains] => ∃ a fs, a_self = .ref a ∧ μ a = some (.ins (cl "Send") fs) ∧ seqK a_gains fun ys1 => w_Line___init___any cl (.ref a :: (a_name :: (ys1 ++ []))) μ (fun _ m2 => R .non m2) PE
  | _ => False
def w_Send___init___any (cl : Str → Addr) : CT := starW 2 (w_Send___init__ cl)
def w_Read___init__ (cl : Str → Addr) : CT := fun xs μ R PE => match xs with
  | [a_self, a_name, a_gains] => ∃ a fs, a_self = .ref a ∧ μ a = some (.ins (cl "Read") fs) ∧ seqK a_gains fun ys1 => w_Line___init___any cl (.ref a :: (a_name :: (ys1 ++ []))) μ (fun _ m2 => R .non m2) PE
  | _ => False
def w_Read___init___any (cl : Str → Addr) : CT := starW 2 (w_Read___init__ cl)
def w_Steady___init__ (cl : Str → Addr) : CT := fun xs μ R PE => match xs with
  | [a_self, a_name, a_gains] => ∃ a fs, a_self = .ref a ∧ μ a = some (.ins (cl "Steady") fs) ∧ seqK a_gains fun ys1 => w_Line___init___any cl (.ref a :: (a_name :: (ys1 ++ []))) μ (fun _ m2 => R .non m2) PE
  | _ => False
def w_Steady___init___any (cl : Str → Addr) : CT := starW 2 (w_Steady___init__ cl)
def w_Steady_new (cl : Str → Addr) : CT := mkW (cl "Steady") true (w_Steady___init___any cl)
def w_Read_new (cl : Str → Addr) : CT := mkW (cl "Read") true (w_Read___init___any cl)
def w_Send_new (cl : Str → Addr) : CT := mkW (cl "Send") true (w_Send___init___any cl)
def w_made (cl : Str → Addr) : CT := fun xs μ R PE => match xs with
  | [a_kind, a_name, a_gains] => letB (fun k3 => plainD a_kind = true ∧ truK (.bl (isB "str" a_kind)) fun z18 => wIf (!z18) (k3 true μ) (cmpW .NotIn a_kind (.tup [.str "steady", .str "read", .str "send"]) fun z19 => k3 z19 μ)) fun z1 m2 => wIf z1 (PE (cl "InvalidKind") [(("given" : Str), a_kind), (("code" : Str), .str "InvalidKind")] m2) (cmpW .Eq a_kind (.str "steady") fun z4 => wIf z4 (seqK a_gains fun ys5 => w_Steady_new cl (a_name :: (ys5 ++ [])) m2 (fun d6 m7 => R d6 m7) PE) (letK (fun k10 => cmpW .Eq a_kind (.str "read") fun z11 => wIf z11 (seqK a_gains fun ys12 => w_Read_new cl (a_name :: (ys12 ++ [])) m2 (fun d13 m14 => k10 d13 m14) PE) (seqK a_gains fun ys15 => w_Send_new cl (a_name :: (ys15 ++ [])) m2 (fun d16 m17 => k10 d16 m17) PE)) fun d8 m9 => R d8 m9))
  | _ => False
def w_made_any (cl : Str → Addr) : CT := starW 2 (w_made cl)
def w__law_line (cl : Str → Addr) : CT := fun xs μ R PE => match xs with
  | [a__law_kind, a__law_name_z, a__law_g] => lenOk [a__law_g] μ fun d2 m3 => cmpW .Lt d2 (.int 4) fun z1 => wIf z1 (lenOk [a__law_g] m3 fun d5 m6 => cmpW .Eq d5 (.int 0) fun z4 => wIf z4 (w_made_any cl [a__law_kind, a__law_name_z] m6 (fun d7 m8 => R d7 m8) PE) (lenOk [a__law_g] m6 fun d10 m11 => cmpW .Eq d10 (.int 1) fun z9 => wIf z9 (ixA m11 a__law_g (.int 0) fun v12 => w_made_any cl [a__law_kind, a__law_name_z, v12] m11 (fun d13 m14 => R d13 m14) PE) (letK (fun k17 => lenOk [a__law_g] m11 fun d19 m20 => cmpW .Eq d19 (.int 2) fun z18 => wIf z18 (ixA m20 a__law_g (.int 0) fun v21 => ixA m20 a__law_g (.int 1) fun v22 => w_made_any cl [a__law_kind, a__law_name_z, v21, v22] m20 (fun d23 m24 => k17 d23 m24) PE) (ixA m20 a__law_g (.int 0) fun v25 => ixA m20 a__law_g (.int 1) fun v26 => ixA m20 a__law_g (.int 2) fun v27 => w_made_any cl [a__law_kind, a__law_name_z, v25, v26, v27] m20 (fun d28 m29 => k17 d28 m29) PE)) fun d15 m16 => R d15 m16))) (lenOk [a__law_g] m3 fun d31 m32 => cmpW .Lt d31 (.int 7) fun z30 => wIf z30 (lenOk [a__law_g] m32 fun d34 m35 => cmpW .Eq d34 (.int 4) fun z33 => wIf z33 (ixA m35 a__law_g (.int 0) fun v36 => ixA m35 a__law_g (.int 1) fun v37 => ixA m35 a__law_g (.int 2) fun v38 => ixA m35 a__law_g (.int 3) fun v39 => w_made_any cl [a__law_kind, a__law_name_z, v36, v37, v38, v39] m35 (fun d40 m41 => R d40 m41) PE) (lenOk [a__law_g] m35 fun d43 m44 => cmpW .Eq d43 (.int 5) fun z42 => wIf z42 (ixA m44 a__law_g (.int 0) fun v45 => ixA m44 a__law_g (.int 1) fun v46 => ixA m44 a__law_g (.int 2) fun v47 => ixA m44 a__law_g (.int 3) fun v48 => ixA m44 a__law_g (.int 4) fun v49 => w_made_any cl [a__law_kind, a__law_name_z, v45, v46, v47, v48, v49] m44 (fun d50 m51 => R d50 m51) PE) (ixA m44 a__law_g (.int 0) fun v52 => ixA m44 a__law_g (.int 1) fun v53 => ixA m44 a__law_g (.int 2) fun v54 => ixA m44 a__law_g (.int 3) fun v55 => ixA m44 a__law_g (.int 4) fun v56 => ixA m44 a__law_g (.int 5) fun v57 => w_made_any cl [a__law_kind, a__law_name_z, v52, v53, v54, v55, v56, v57] m44 (fun d58 m59 => R d58 m59) PE))) (lenOk [a__law_g] m32 fun d61 m62 => cmpW .Eq d61 (.int 7) fun z60 => wIf z60 (ixA m62 a__law_g (.int 0) fun v63 => ixA m62 a__law_g (.int 1) fun v64 => ixA m62 a__law_g (.int 2) fun v65 => ixA m62 a__law_g (.int 3) fun v66 => ixA m62 a__law_g (.int 4) fun v67 => ixA m62 a__law_g (.int 5) fun v68 => ixA m62 a__law_g (.int 6) fun v69 => w_made_any cl [a__law_kind, a__law_name_z, v63, v64, v65, v66, v67, v68, v69] m62 (fun d70 m71 => R d70 m71) PE) (lenOk [a__law_g] m62 fun d73 m74 => cmpW .Eq d73 (.int 8) fun z72 => wIf z72 (ixA m74 a__law_g (.int 0) fun v75 => ixA m74 a__law_g (.int 1) fun v76 => ixA m74 a__law_g (.int 2) fun v77 => ixA m74 a__law_g (.int 3) fun v78 => ixA m74 a__law_g (.int 4) fun v79 => ixA m74 a__law_g (.int 5) fun v80 => ixA m74 a__law_g (.int 6) fun v81 => ixA m74 a__law_g (.int 7) fun v82 => w_made_any cl [a__law_kind, a__law_name_z, v75, v76, v77, v78, v79, v80, v81, v82] m74 (fun d83 m84 => R d83 m84) PE) (lenOk [a__law_g] m74 fun d86 m87 => cmpW .Eq d86 (.int 9) fun z85 => wIf z85 (ixA m87 a__law_g (.int 0) fun v88 => ixA m87 a__law_g (.int 1) fun v89 => ixA m87 a__law_g (.int 2) fun v90 => ixA m87 a__law_g (.int 3) fun v91 => ixA m87 a__law_g (.int 4) fun v92 => ixA m87 a__law_g (.int 5) fun v93 => ixA m87 a__law_g (.int 6) fun v94 => ixA m87 a__law_g (.int 7) fun v95 => ixA m87 a__law_g (.int 8) fun v96 => w_made_any cl [a__law_kind, a__law_name_z, v88, v89, v90, v91, v92, v93, v94, v95, v96] m87 (fun d97 m98 => R d97 m98) PE) (lenOk [a__law_g] m87 fun d100 m101 => cmpW .Eq d100 (.int 10) fun z99 => wIf z99 (ixA m101 a__law_g (.int 0) fun v102 => ixA m101 a__law_g (.int 1) fun v103 => ixA m101 a__law_g (.int 2) fun v104 => ixA m101 a__law_g (.int 3) fun v105 => ixA m101 a__law_g (.int 4) fun v106 => ixA m101 a__law_g (.int 5) fun v107 => ixA m101 a__law_g (.int 6) fun v108 => ixA m101 a__law_g (.int 7) fun v109 => ixA m101 a__law_g (.int 8) fun v110 => ixA m101 a__law_g (.int 9) fun v111 => w_made_any cl [a__law_kind, a__law_name_z, v102, v103, v104, v105, v106, v107, v108, v109, v110, v111] m101 (fun d112 m113 => R d112 m113) PE) (ixA m101 a__law_g (.int 0) fun v114 => ixA m101 a__law_g (.int 1) fun v115 => ixA m101 a__law_g (.int 2) fun v116 => ixA m101 a__law_g (.int 3) fun v117 => ixA m101 a__law_g (.int 4) fun v118 => ixA m101 a__law_g (.int 5) fun v119 => ixA m101 a__law_g (.int 6) fun v120 => ixA m101 a__law_g (.int 7) fun v121 => ixA m101 a__law_g (.int 8) fun v122 => ixA m101 a__law_g (.int 9) fun v123 => ixA m101 a__law_g (.int 10) fun v124 => w_made_any cl [a__law_kind, a__law_name_z, v114, v115, v116, v117, v118, v119, v120, v121, v122, v123, v124] m101 (fun d125 m126 => R d125 m126) PE))))))
  | _ => False
def w__law_mixed (cl : Str → Addr) : CT := fun xs μ R PE => match xs with
  | [a__law_src, a__law_things] => ∀ p1, μ p1 = none → itemsK a__law_things fun xs17 => forW (fun x2 ds3 m4 Z5 => dsGet (ds3.set 3 (some x2)) 2 fun v8 => bnR .insert v8 m4 ∧ dsGet (ds3.set 3 (some x2)) 0 fun v9 => dsGet (ds3.set 3 (some x2)) 2 fun v12 => lenOk [v12] m4 fun d10 m11 => binOk .Add d10 (.int 1) fun v13 => w__law_draw cl [v9, v13] m11 (fun d14 m15 => dsGet (ds3.set 3 (some x2)) 3 fun v16 => bnW .insert v8 [d14, v16] m15 fun d6 m7 => Z5.nx (ds3.set 3 (some x2)) m7) (xdel PE p1)) { nx := fun ds18 m19 => frzW 2 p1 ds18 m19 fun ds20 m21 => dsGet ds20 2 fun v22 => R v22 m21, rt := fun d23 m24 => R d23 (mdel m24 p1), bk := fun ds25 m26 => False, ct := fun ds27 m28 => False } xs17 [some a__law_src, some a__law_things, some (.ref p1), none] (mset μ p1 (.lst []))
  | _ => False
def w__law_names (cl : Str → Addr) : CT := fun xs μ R PE => match xs with
  | [a__law_src, a__law_many] => listG [.str "abcdefghijklmnopqrstuvwxyz"] μ fun d1 m2 => w__law_mixed cl [a__law_src, d1] m2 (fun d3 m4 => bnR .join (.str "") m4 ∧ w__law_draw cl [a__law_src, .int 8] m4 (fun d9 m10 => intK d9 fun j8 => (-(2 ^ 62) ≤ j8 ∧ j8 < 2 ^ 62) ∧ lcW (fun x11 m12 Q13 => w__law_of cl [a__law_src, .str "abcdefghijklmnopqrstuvwxyz"] m12 (fun d16 m17 => Q13 (some d16) m17) noX) (rngD 0 j8.toNat) m10 fun ys14 m15 => bnW .join (.str "") [.lst ys14] m15 fun d5 m6 => lenOk [d5] m6 fun d18 m19 => binOk .Add d18 (.int 1) fun v20 => w__law_draw cl [a__law_src, v20] m19 (fun d21 m22 => intK a__law_many fun i25 => slOk d3 none (some i25) fun v24 => itemsK v24 fun xs23 => lcW (fun x26 m27 Q28 => intK d21 fun i32 => slOk d5 none (some i32) fun v31 => binOk .Add v31 x26 fun v33 => intK d21 fun i35 => slOk d5 (some i35) none fun v34 => binOk .Add v33 v34 fun v36 => Q28 (some v36) m27) xs23 m22 fun ys29 m30 => R (.lst ys29) m30) PE) PE) PE
  | _ => False
def ae_own_gains (cl : Str → Addr) : List AE := [.fld [cl "Line", cl "Steady", cl "Read", cl "Send"]]
def w_Line_gains (cl : Str → Addr) : CT := fun xs μ R PE => match xs with
  | [a_self] => attrW "own_gains" a_self μ PE (fun d3 m4 => seqM d3 m4 fun l2 => ∀ p1, m4 p1 = none → R (.ref p1) (mset m4 p1 (.lst l2))) (ae_own_gains cl)
  | _ => False
def ae_KIND (cl : Str → Addr) : List AE := [.con [cl "Line"] (.str "line"), .con [cl "Steady"] (.str "steady"), .con [cl "Read"] (.str "read"), .con [cl "Send"] (.str "send")]
def ae_MOVED (cl : Str → Addr) : List AE := [.con [cl "Line"] (.bl false), .con [cl "Steady"] (.bl false), .con [cl "Read"] (.bl true), .con [cl "Send"] (.bl true)]
def ae_name (cl : Str → Addr) : List AE := [.fld [cl "Line", cl "Steady", cl "Read", cl "Send"]]
def w_Line___len__ (cl : Str → Addr) : CT := fun xs μ R PE => match xs with
  | [a_self] => attrW "own_gains" a_self μ PE (fun d3 m4 => lenOk [d3] m4 fun d1 m2 => R d1 m2) (ae_own_gains cl)
  | _ => False
def len_tab (cl : Str → Addr) : List SE := [⟨[cl "Line", cl "Steady", cl "Read", cl "Send"], w_Line___len__ cl⟩]
def w_Line___repr__ (cl : Str → Addr) : CT := fun xs μ R PE => match xs with
  | [a_self] => ((Str.empty ++ "Line(").length ≤ sizeLine ∧ attrW "KIND" a_self μ PE (fun d1 m2 => fmtK d1 fun s3 => (((Str.empty ++ "Line(") ++ s3).length ≤ sizeLine ∧ ((((Str.empty ++ "Line(") ++ s3) ++ " ").length ≤ sizeLine ∧ attrW "name" a_self m2 PE (fun d4 m5 => fmtK d4 fun s6 => (((((Str.empty ++ "Line(") ++ s3) ++ " ") ++ s6).length ≤ sizeLine ∧ ((((((Str.empty ++ "Line(") ++ s3) ++ " ") ++ s6) ++ ", ").length ≤ sizeLine ∧ attrW "own_gains" a_self m5 PE (fun d9 m10 => lenOk [d9] m10 fun d7 m8 => fmtK d7 fun s11 => (((((((Str.empty ++ "Line(") ++ s3) ++ " ") ++ s6) ++ ", ") ++ s11).length ≤ sizeLine ∧ ((((((((Str.empty ++ "Line(") ++ s3) ++ " ") ++ s6) ++ ", ") ++ s11) ++ " gains)").length ≤ sizeLine ∧ R (.str (((((((Str.empty ++ "Line(") ++ s3) ++ " ") ++ s6) ++ ", ") ++ s11) ++ " gains)")) m8))) (ae_own_gains cl)))) (ae_name cl)))) (ae_KIND cl))
  | _ => False
def rep_tab (cl : Str → Addr) : List SE := [⟨[cl "Line", cl "Steady", cl "Read", cl "Send"], w_Line___repr__ cl⟩]
def w_Line___bool__ (cl : Str → Addr) : CT := fun xs μ R PE => match xs with
  | [a_self] => R (.bl true) μ
  | _ => False
def bool_tab (cl : Str → Addr) : List SE := [⟨[cl "Line", cl "Steady", cl "Read", cl "Send"], w_Line___bool__ cl⟩]
def w__law_class_so (cl : Str → Addr) : CT := fun xs μ R PE => match xs with
  | [a__law_line_here, a__law_kind, a__law_name_z, a__law_due] => cmpW .In a__law_kind (.lst [.str "read", .str "send"]) fun z1 => intK (.int 2) fun j61 => (-(2 ^ 62) ≤ j61 ∧ j61 < 2 ^ 62) ∧ forW (fun x2 ds3 m4 Z5 => dsGet (ds3.set 5 (some x2)) 0 fun v8 => (insK v8 m4 fun C fs => inC C [cl "Line", cl "Steady", cl "Read", cl "Send"] ∧ fs.lookup ("gains" : Str) = none) ∧ w_Line_gains cl [v8] m4 (fun d9 m10 => refK (fun p6 m7 => dsGet ((ds3.set 5 (some x2)).set 6 (some (.ref p6))) 0 fun v11 => attrW "KIND" v11 m7 (xdel PE p6) (fun d12 m13 => dsGet ((ds3.set 5 (some x2)).set 6 (some (.ref p6))) 0 fun v14 => attrW "MOVED" v14 m13 (xdel PE p6) (fun d15 m16 => dsGet ((ds3.set 5 (some x2)).set 6 (some (.ref p6))) 0 fun v17 => attrW "name" v17 m16 (xdel PE p6) (fun d18 m19 => dsGet ((ds3.set 5 (some x2)).set 6 (some (.ref p6))) 6 fun v20 => dsGet ((ds3.set 5 (some x2)).set 6 (some (.ref p6))) 0 fun v23 => lenG (len_tab cl) [v23] m19 fun d21 m22 => dsGet ((ds3.set 5 (some x2)).set 6 (some (.ref p6))) 0 fun v26 => boolG2 (bool_tab cl) [v26] m22 fun d24 m25 => dsGet ((ds3.set 5 (some x2)).set 6 (some (.ref p6))) 0 fun v29 => reprG (rep_tab cl) [v29] m25 fun d27 m28 => dsGet (((ds3.set 5 (some x2)).set 6 (some (.ref p6))).set 7 (some (.lst [d12, d15, d18, v20, d21, d24, d27]))) 1 fun v30 => binOk .Add (.str "Line(") v30 fun v31 => binOk .Add v31 (.str " ") fun v32 => dsGet (((ds3.set 5 (some x2)).set 6 (some (.ref p6))).set 7 (some (.lst [d12, d15, d18, v20, d21, d24, d27]))) 2 fun v33 => binOk .Add v32 v33 fun v34 => binOk .Add v34 (.str ", ") fun v35 => dsGet (((ds3.set 5 (some x2)).set 6 (some (.ref p6))).set 7 (some (.lst [d12, d15, d18, v20, d21, d24, d27]))) 3 fun v40 => lenG (len_tab cl) [v40] m28 fun d38 m39 => strOk [d38] m39 fun d36 m37 => binOk .Add v35 d36 fun v41 => binOk .Add v41 (.str " gains)") fun v42 => dsGet ((((ds3.set 5 (some x2)).set 6 (some (.ref p6))).set 7 (some (.lst [d12, d15, d18, v20, d21, d24, d27]))).set 8 (some v42)) 7 fun v44 => dsGet ((((ds3.set 5 (some x2)).set 6 (some (.ref p6))).set 7 (some (.lst [d12, d15, d18, v20, d21, d24, d27]))).set 8 (some v42)) 1 fun v45 => dsGet ((((ds3.set 5 (some x2)).set 6 (some (.ref p6))).set 7 (some (.lst [d12, d15, d18, v20, d21, d24, d27]))).set 8 (some v42)) 4 fun v46 => dsGet ((((ds3.set 5 (some x2)).set 6 (some (.ref p6))).set 7 (some (.lst [d12, d15, d18, v20, d21, d24, d27]))).set 8 (some v42)) 2 fun v47 => dsGet ((((ds3.set 5 (some x2)).set 6 (some (.ref p6))).set 7 (some (.lst [d12, d15, d18, v20, d21, d24, d27]))).set 8 (some v42)) 3 fun v48 => dsGet ((((ds3.set 5 (some x2)).set 6 (some (.ref p6))).set 7 (some (.lst [d12, d15, d18, v20, d21, d24, d27]))).set 8 (some v42)) 3 fun v51 => lenG (len_tab cl) [v51] m37 fun d49 m50 => dsGet ((((ds3.set 5 (some x2)).set 6 (some (.ref p6))).set 7 (some (.lst [d12, d15, d18, v20, d21, d24, d27]))).set 8 (some v42)) 8 fun v52 => w__law_same cl [v44, .lst [v45, v46, v47, v48, d49, .bl true, v52]] m50 (fun d53 m54 => truK d53 fun z43 => wIf (!z43) (Z5.rt (.bl false) (mdel m54 p6)) (dsGet ((((ds3.set 5 (some x2)).set 6 (some (.ref p6))).set 7 (some (.lst [d12, d15, d18, v20, d21, d24, d27]))).set 8 (some v42)) 6 fun v57 => bnR .append v57 m54 ∧ bnW .append v57 [.str "zz"] m54 fun d55 m56 => frzW 6 p6 ((((ds3.set 5 (some x2)).set 6 (some (.ref p6))).set 7 (some (.lst [d12, d15, d18, v20, d21, d24, d27]))).set 8 (some v42)) m56 fun ds58 m59 => Z5.nx ds58 m59)) (xdel PE p6)) (ae_name cl)) (ae_MOVED cl)) (ae_KIND cl)) d9 m10) PE) { nx := fun ds62 m63 => R (.bl true) m63, rt := fun d64 m65 => R d64 m65, bk := fun ds66 m67 => False, ct := fun ds68 m69 => False } (rngD 0 j61.toNat) [some a__law_line_here, some a__law_kind, some a__law_name_z, some a__law_due, some (.bl z1), none, none, none, none] μ
  | _ => False
def w_Line_new (cl : Str → Addr) : CT := mkW (cl "Line") true (w_Line___init___any cl)
def w_Line_renamed (cl : Str → Addr) : CT := fun xs μ R PE => match xs with
  | [a_self, a_name] => letK (fun k3 => attrW "KIND" a_self μ PE (fun d5 m6 => cmpW .Eq d5 (.str "line") fun z4 => wIf z4 (attrW "own_gains" a_self m6 PE (fun d8 m9 => seqK d8 fun ys7 => w_Line_new cl (a_name :: (ys7 ++ [])) m9 (fun d10 m11 => k3 d10 m11) PE) (ae_own_gains cl)) (attrW "KIND" a_self m6 PE (fun d12 m13 => attrW "own_gains" a_self m13 PE (fun d15 m16 => seqK d15 fun ys14 => w_made_any cl (d12 :: (a_name :: (ys14 ++ []))) m16 (fun d17 m18 => k3 d17 m18) PE) (ae_own_gains cl)) (ae_KIND cl))) (ae_KIND cl)) fun d1 m2 => R d1 m2
  | _ => False
def iso_Line (cl : Str → Addr) : List (Addr × Bool) := [(cl "Line", true), (cl "Steady", true), (cl "Read", true), (cl "Send", true)]
def w__law_plus (cl : Str → Addr) : CT := fun xs μ R PE => match xs with
  | [a__law_one, a__law_other] => ixA μ a__law_one (.int 0) fun v1 => ixA μ a__law_other (.int 1) fun v2 => binOk .Mult v1 v2 fun v3 => ixA μ a__law_other (.int 0) fun v4 => ixA μ a__law_one (.int 1) fun v5 => binOk .Mult v4 v5 fun v6 => binOk .Add v3 v6 fun v7 => ixA μ a__law_one (.int 1) fun v8 => ixA μ a__law_other (.int 1) fun v9 => binOk .Mult v8 v9 fun v10 => w__law_low cl [v7, v10] μ (fun d11 m12 => R d11 m12) PE
  | _ => False
def w_Line___eq__ (cl : Str → Addr) : CT := fun xs μ R PE => match xs with
  | [a_self, a_other] => letB (fun k3 => isoW (iso_Line cl) a_other μ fun b19 => truK (.bl b19) fun z18 => wIf (!z18) (k3 true μ) (attrW "KIND" a_self μ PE (fun d21 m22 => attrW "KIND" a_other m22 PE (fun d23 m24 => cmpW .NotEq d21 d23 fun z20 => k3 z20 m24) (ae_KIND cl)) (ae_KIND cl))) fun z1 m2 => wIf z1 (R (.bl false) m2) (letK (fun k6 => attrW "name" a_self m2 PE (fun d9 m10 => attrW "name" a_other m10 PE (fun d11 m12 => cmpW .Eq d9 d11 fun z8 => truK (.bl z8) fun z7 => wIf z7 (attrW "own_gains" a_self m12 PE (fun d14 m15 => attrW "own_gains" a_other m15 PE (fun d16 m17 => cmpW .Eq d14 d16 fun z13 => k6 (.bl z13) m17) (ae_own_gains cl)) (ae_own_gains cl)) (k6 (.bl z8) m12)) (ae_name cl)) (ae_name cl)) fun d4 m5 => R d4 m5)
  | _ => False
def eq_tab (cl : Str → Addr) : List EqE := [⟨[cl "Line", cl "Steady", cl "Read", cl "Send"], w_Line___eq__ cl⟩]
def w_law (cl : Str → Addr) : CT := fun xs μ R PE => match xs with
  | [a__law_script] => w__law_source cl [a__law_script] μ (fun d1 m2 => intK (.int 5) fun j190 => (-(2 ^ 62) ≤ j190 ∧ j190 < 2 ^ 62) ∧ forW (fun x3 ds4 m5 Z6 => dsGet (ds4.set 2 (some x3)) 1 fun v7 => w__law_of cl [v7, .lst [.str "steady", .str "read", .str "send"]] m5 (fun d8 m9 => dsGet (ds4.set 2 (some x3)) 1 fun v10 => w__law_names cl [v10, .int 2] m9 (fun d11 m12 => dsGet (((ds4.set 2 (some x3)).set 3 (some d8)).set 4 (some d11)) 1 fun v13 => dsGet (((ds4.set 2 (some x3)).set 3 (some d8)).set 4 (some d11)) 1 fun v14 => w__law_draw cl [v14, .int 12] m12 (fun d15 m16 => w__law_gains cl [v13, d15] m16 (fun d17 m18 => dsGet ((((ds4.set 2 (some x3)).set 3 (some d8)).set 4 (some d11)).set 5 (some d17)) 5 fun v20 => itemsK v20 fun xs19 => lcW (fun x21 m22 Q23 => letK (fun k28 => letB (fun k31 => dsGet ((wipeD ((((ds4.set 2 (some x3)).set 3 (some d8)).set 4 (some d11)).set 5 (some d17)) [15]).set 15 (some x21)) 15 fun v38 => ixA m22 v38 (.int 1) fun v37 => cmpG (eq_tab cl) .Eq v37 (.int 1) m22 fun z35 m36 => wIf z35 (dsGet ((wipeD ((((ds4.set 2 (some x3)).set 3 (some d8)).set 4 (some d11)).set 5 (some d17)) [15]).set 15 (some x21)) 1 fun v41 => w__law_draw cl [v41, .int 2] m36 (fun d42 m43 => cmpG (eq_tab cl) .Eq d42 (.int 0) m43 fun z39 m40 => k31 z39 m40) noX) (k31 false m36)) fun z29 m30 => wIf z29 (dsGet ((wipeD ((((ds4.set 2 (some x3)).set 3 (some d8)).set 4 (some d11)).set 5 (some d17)) [15]).set 15 (some x21)) 15 fun v33 => ixA m30 v33 (.int 0) fun v32 => k28 v32 m30) (dsGet ((wipeD ((((ds4.set 2 (some x3)).set 3 (some d8)).set 4 (some d11)).set 5 (some d17)) [15]).set 15 (some x21)) 15 fun v34 => k28 v34 m30)) fun d26 m27 => Q23 (some d26) m27) xs19 m18 fun ys24 m25 => dsGet (((((ds4.set 2 (some x3)).set 3 (some d8)).set 4 (some d11)).set 5 (some d17)).set 6 (some (.lst ys24))) 3 fun v44 => dsGet (((((ds4.set 2 (some x3)).set 3 (some d8)).set 4 (some d11)).set 5 (some d17)).set 6 (some (.lst ys24))) 4 fun v46 => ixA m25 v46 (.int 0) fun v45 => dsGet (((((ds4.set 2 (some x3)).set 3 (some d8)).set 4 (some d11)).set 5 (some d17)).set 6 (some (.lst ys24))) 6 fun v47 => w__law_line cl [v44, v45, v47] m25 (fun d48 m49 => dsGet ((((((ds4.set 2 (some x3)).set 3 (some d8)).set 4 (some d11)).set 5 (some d17)).set 6 (some (.lst ys24))).set 7 (some d48)) 7 fun v51 => dsGet ((((((ds4.set 2 (some x3)).set 3 (some d8)).set 4 (some d11)).set 5 (some d17)).set 6 (some (.lst ys24))).set 7 (some d48)) 3 fun v52 => dsGet ((((((ds4.set 2 (some x3)).set 3 (some d8)).set 4 (some d11)).set 5 (some d17)).set 6 (some (.lst ys24))).set 7 (some d48)) 4 fun v54 => ixA m49 v54 (.int 0) fun v53 => dsGet ((((((ds4.set 2 (some x3)).set 3 (some d8)).set 4 (some d11)).set 5 (some d17)).set 6 (some (.lst ys24))).set 7 (some d48)) 5 fun v55 => w__law_class_so cl [v51, v52, v53, v55] m49 (fun d56 m57 => truK d56 fun z50 => wIf (!z50) (Z6.rt (.bl false) m57) (dsGet ((((((ds4.set 2 (some x3)).set 3 (some d8)).set 4 (some d11)).set 5 (some d17)).set 6 (some (.lst ys24))).set 7 (some d48)) 7 fun v58 => (insK v58 m57 fun C fs => inC C [cl "Line", cl "Steady", cl "Read", cl "Send"] ∧ fs.lookup ("renamed" : Str) = none) ∧ dsGet ((((((ds4.set 2 (some x3)).set 3 (some d8)).set 4 (some d11)).set 5 (some d17)).set 6 (some (.lst ys24))).set 7 (some d48)) 4 fun v60 => ixA m57 v60 (.int 1) fun v59 => w_Line_renamed cl [v58, v59] m57 (fun d61 m62 => dsGet ((((((ds4.set 2 (some x3)).set 3 (some d8)).set 4 (some d11)).set 5 (some d17)).set 6 (some (.lst ys24))).set 7 (some d48)) 3 fun v63 => dsGet ((((((ds4.set 2 (some x3)).set 3 (some d8)).set 4 (some d11)).set 5 (some d17)).set 6 (some (.lst ys24))).set 7 (some d48)) 4 fun v65 => ixA m62 v65 (.int 0) fun v64 => dsGet ((((((ds4.set 2 (some x3)).set 3 (some d8)).set 4 (some d11)).set 5 (some d17)).set 6 (some (.lst ys24))).set 7 (some d48)) 5 fun v66 => w__law_line cl [v63, v64, v66] m62 (fun d67 m68 => letB (fun k71 => dsGet ((((((((ds4.set 2 (some x3)).set 3 (some d8)).set 4 (some d11)).set 5 (some d17)).set 6 (some (.lst ys24))).set 7 (some d48)).set 8 (some d61)).set 9 (some d67)) 8 fun v170 => dsGet ((((((((ds4.set 2 (some x3)).set 3 (some d8)).set 4 (some d11)).set 5 (some d17)).set 6 (some (.lst ys24))).set 7 (some d48)).set 8 (some d61)).set 9 (some d67)) 3 fun v171 => dsGet ((((((((ds4.set 2 (some x3)).set 3 (some d8)).set 4 (some d11)).set 5 (some d17)).set 6 (some (.lst ys24))).set 7 (some d48)).set 8 (some d61)).set 9 (some d67)) 4 fun v173 => ixA m68 v173 (.int 1) fun v172 => dsGet ((((((((ds4.set 2 (some x3)).set 3 (some d8)).set 4 (some d11)).set 5 (some d17)).set 6 (some (.lst ys24))).set 7 (some d48)).set 8 (some d61)).set 9 (some d67)) 5 fun v174 => w__law_class_so cl [v170, v171, v172, v174] m68 (fun d175 m176 => truK d175 fun z169 => wIf (!z169) (k71 true m176) (dsGet ((((((((ds4.set 2 (some x3)).set 3 (some d8)).set 4 (some d11)).set 5 (some d17)).set 6 (some (.lst ys24))).set 7 (some d48)).set 8 (some d61)).set 9 (some d67)) 8 fun v179 => dsGet ((((((((ds4.set 2 (some x3)).set 3 (some d8)).set 4 (some d11)).set 5 (some d17)).set 6 (some (.lst ys24))).set 7 (some d48)).set 8 (some d61)).set 9 (some d67)) 7 fun v180 => cmpG (eq_tab cl) .Eq v179 v180 m176 fun z177 m178 => wIf z177 (k71 true m178) (dsGet ((((((((ds4.set 2 (some x3)).set 3 (some d8)).set 4 (some d11)).set 5 (some d17)).set 6 (some (.lst ys24))).set 7 (some d48)).set 8 (some d61)).set 9 (some d67)) 9 fun v183 => dsGet ((((((((ds4.set 2 (some x3)).set 3 (some d8)).set 4 (some d11)).set 5 (some d17)).set 6 (some (.lst ys24))).set 7 (some d48)).set 8 (some d61)).set 9 (some d67)) 7 fun v184 => cmpG (eq_tab cl) .Eq v183 v184 m178 fun z181 m182 => wIf (!z181) (k71 true m182) (dsGet ((((((((ds4.set 2 (some x3)).set 3 (some d8)).set 4 (some d11)).set 5 (some d17)).set 6 (some (.lst ys24))).set 7 (some d48)).set 8 (some d61)).set 9 (some d67)) 9 fun v187 => dsGet ((((((((ds4.set 2 (some x3)).set 3 (some d8)).set 4 (some d11)).set 5 (some d17)).set 6 (some (.lst ys24))).set 7 (some d48)).set 8 (some d61)).set 9 (some d67)) 7 fun v188 => cmpG (eq_tab cl) .NotEq v187 v188 m182 fun z185 m186 => k71 z185 m186)))) PE) fun z69 m70 => wIf z69 (Z6.rt (.bl false) m70) (dsGet ((((((((ds4.set 2 (some x3)).set 3 (some d8)).set 4 (some d11)).set 5 (some d17)).set 6 (some (.lst ys24))).set 7 (some d48)).set 8 (some d61)).set 9 (some d67)) 1 fun v72 => w__law_of cl [v72, .lst [.str "steady", .str "read", .str "send"]] m70 (fun d73 m74 => dsGet ((((((((ds4.set 2 (some x3)).set 3 (some d8)).set 4 (some d11)).set 5 (some d17)).set 6 (some (.lst ys24))).set 7 (some d48)).set 8 (some d61)).set 9 (some d67)) 4 fun v76 => ixA m74 v76 (.int 0) fun v75 => dsGet ((((((((ds4.set 2 (some x3)).set 3 (some d8)).set 4 (some d11)).set 5 (some d17)).set 6 (some (.lst ys24))).set 7 (some d48)).set 8 (some d61)).set 9 (some d67)) 5 fun v77 => w__law_line cl [d73, v75, v77] m74 (fun d78 m79 => letK (fun k82 => dsGet (((((((((ds4.set 2 (some x3)).set 3 (some d8)).set 4 (some d11)).set 5 (some d17)).set 6 (some (.lst ys24))).set 7 (some d48)).set 8 (some d61)).set 9 (some d67)).set 10 (some d78)) 5 fun v160 => cmpG (eq_tab cl) .NotEq v160 (.lst []) m79 fun z158 m159 => wIf z158 (dsGet (((((((((ds4.set 2 (some x3)).set 3 (some d8)).set 4 (some d11)).set 5 (some d17)).set 6 (some (.lst ys24))).set 7 (some d48)).set 8 (some d61)).set 9 (some d67)).set 10 (some d78)) 5 fun v162 => ixA m159 v162 (.int 0) fun v161 => w__law_plus cl [v161, .tup [.int 1, .int 1]] m159 (fun d163 m164 => dsGet (((((((((ds4.set 2 (some x3)).set 3 (some d8)).set 4 (some d11)).set 5 (some d17)).set 6 (some (.lst ys24))).set 7 (some d48)).set 8 (some d61)).set 9 (some d67)).set 10 (some d78)) 5 fun v166 => intK (.int 1) fun i167 => slOk v166 (some i167) none fun v165 => binOk .Add (.lst [d163]) v165 fun v168 => k82 v168 m164) PE) (k82 (.lst [.tup [.int 1, .int 1]]) m159)) fun d80 m81 => letB (fun k85 => dsGet ((((((((((ds4.set 2 (some x3)).set 3 (some d8)).set 4 (some d11)).set 5 (some d17)).set 6 (some (.lst ys24))).set 7 (some d48)).set 8 (some d61)).set 9 (some d67)).set 10 (some d78)).set 11 (some d80)) 10 fun v139 => dsGet ((((((((((ds4.set 2 (some x3)).set 3 (some d8)).set 4 (some d11)).set 5 (some d17)).set 6 (some (.lst ys24))).set 7 (some d48)).set 8 (some d61)).set 9 (some d67)).set 10 (some d78)).set 11 (some d80)) 7 fun v140 => cmpG (eq_tab cl) .Eq v139 v140 m81 fun z137 m138 => dsGet ((((((((((ds4.set 2 (some x3)).set 3 (some d8)).set 4 (some d11)).set 5 (some d17)).set 6 (some (.lst ys24))).set 7 (some d48)).set 8 (some d61)).set 9 (some d67)).set 10 (some d78)).set 11 (some d80)) 10 fun v143 => attrW "KIND" v143 m138 PE (fun d144 m145 => dsGet ((((((((((ds4.set 2 (some x3)).set 3 (some d8)).set 4 (some d11)).set 5 (some d17)).set 6 (some (.lst ys24))).set 7 (some d48)).set 8 (some d61)).set 9 (some d67)).set 10 (some d78)).set 11 (some d80)) 3 fun v146 => cmpG (eq_tab cl) .Eq d144 v146 m145 fun z141 m142 => w__law_same cl [.bl z137, .bl z141] m142 (fun d147 m148 => truK d147 fun z136 => wIf (!z136) (k85 true m148) (dsGet ((((((((((ds4.set 2 (some x3)).set 3 (some d8)).set 4 (some d11)).set 5 (some d17)).set 6 (some (.lst ys24))).set 7 (some d48)).set 8 (some d61)).set 9 (some d67)).set 10 (some d78)).set 11 (some d80)) 7 fun v151 => dsGet ((((((((((ds4.set 2 (some x3)).set 3 (some d8)).set 4 (some d11)).set 5 (some d17)).set 6 (some (.lst ys24))).set 7 (some d48)).set 8 (some d61)).set 9 (some d67)).set 10 (some d78)).set 11 (some d80)) 3 fun v152 => dsGet ((((((((((ds4.set 2 (some x3)).set 3 (some d8)).set 4 (some d11)).set 5 (some d17)).set 6 (some (.lst ys24))).set 7 (some d48)).set 8 (some d61)).set 9 (some d67)).set 10 (some d78)).set 11 (some d80)) 4 fun v154 => ixA m148 v154 (.int 0) fun v153 => dsGet ((((((((((ds4.set 2 (some x3)).set 3 (some d8)).set 4 (some d11)).set 5 (some d17)).set 6 (some (.lst ys24))).set 7 (some d48)).set 8 (some d61)).set 9 (some d67)).set 10 (some d78)).set 11 (some d80)) 11 fun v155 => w__law_line cl [v152, v153, v155] m148 (fun d156 m157 => cmpG (eq_tab cl) .Eq v151 d156 m157 fun z149 m150 => k85 z149 m150) PE)) PE) (ae_KIND cl)) fun z83 m84 => wIf z83 (Z6.rt (.bl false) m84) (dsGet ((((((((((ds4.set 2 (some x3)).set 3 (some d8)).set 4 (some d11)).set 5 (some d17)).set 6 (some (.lst ys24))).set 7 (some d48)).set 8 (some d61)).set 9 (some d67)).set 10 (some d78)).set 11 (some d80)) 4 fun v87 => ixA m84 v87 (.int 0) fun v86 => w_Line_new cl [v86, .int 2, .tup [.int 1, .int 3]] m84 (fun d88 m89 => dsGet ((((((((((ds4.set 2 (some x3)).set 3 (some d8)).set 4 (some d11)).set 5 (some d17)).set 6 (some (.lst ys24))).set 7 (some d48)).set 8 (some d61)).set 9 (some d67)).set 10 (some d78)).set 11 (some d80)) 4 fun v91 => ixA m89 v91 (.int 0) fun v90 => w_Line_new cl [v90, .int 2, .tup [.int 1, .int 3]] m89 (fun d92 m93 => (insK d92 m93 fun C fs => inC C [cl "Line", cl "Steady", cl "Read", cl "Send"] ∧ fs.lookup ("renamed" : Str) = none) ∧ dsGet ((((((((((ds4.set 2 (some x3)).set 3 (some d8)).set 4 (some d11)).set 5 (some d17)).set 6 (some (.lst ys24))).set 7 (some d48)).set 8 (some d61)).set 9 (some d67)).set 10 (some d78)).set 11 (some d80)) 4 fun v95 => ixA m93 v95 (.int 1) fun v94 => w_Line_renamed cl [d92, v94] m93 (fun d96 m97 => letB (fun k100 => dsGet (((((((((((ds4.set 2 (some x3)).set 3 (some d8)).set 4 (some d11)).set 5 (some d17)).set 6 (some (.lst ys24))).set 7 (some d48)).set 8 (some d61)).set 9 (some d67)).set 10 (some d78)).set 11 (some d80)).set 12 (some (.lst [d88, d96]))) 12 fun v123 => ixA m97 v123 (.int 0) fun v122 => dsGet (((((((((((ds4.set 2 (some x3)).set 3 (some d8)).set 4 (some d11)).set 5 (some d17)).set 6 (some (.lst ys24))).set 7 (some d48)).set 8 (some d61)).set 9 (some d67)).set 10 (some d78)).set 11 (some d80)).set 12 (some (.lst [d88, d96]))) 4 fun v125 => ixA m97 v125 (.int 0) fun v124 => w__law_class_so cl [v122, .str "line", v124, .lst [.tup [.int 2, .int 1], .tup [.int 1, .int 3]]] m97 (fun d126 m127 => truK d126 fun z121 => wIf (!z121) (k100 true m127) (dsGet (((((((((((ds4.set 2 (some x3)).set 3 (some d8)).set 4 (some d11)).set 5 (some d17)).set 6 (some (.lst ys24))).set 7 (some d48)).set 8 (some d61)).set 9 (some d67)).set 10 (some d78)).set 11 (some d80)).set 12 (some (.lst [d88, d96]))) 12 fun v131 => ixA m127 v131 (.int 1) fun v130 => dsGet (((((((((((ds4.set 2 (some x3)).set 3 (some d8)).set 4 (some d11)).set 5 (some d17)).set 6 (some (.lst ys24))).set 7 (some d48)).set 8 (some d61)).set 9 (some d67)).set 10 (some d78)).set 11 (some d80)).set 12 (some (.lst [d88, d96]))) 4 fun v133 => ixA m127 v133 (.int 1) fun v132 => w_Line_new cl [v132, .int 2, .tup [.int 1, .int 3]] m127 (fun d134 m135 => cmpG (eq_tab cl) .NotEq v130 d134 m135 fun z128 m129 => k100 z128 m129) PE)) PE) fun z98 m99 => wIf z98 (Z6.rt (.bl false) m99) (letB (fun k103 => dsGet (((((((((((ds4.set 2 (some x3)).set 3 (some d8)).set 4 (some d11)).set 5 (some d17)).set 6 (some (.lst ys24))).set 7 (some d48)).set 8 (some d61)).set 9 (some d67)).set 10 (some d78)).set 11 (some d80)).set 12 (some (.lst [d88, d96]))) 12 fun v107 => ixA m99 v107 (.int 0) fun v106 => dsGet (((((((((((ds4.set 2 (some x3)).set 3 (some d8)).set 4 (some d11)).set 5 (some d17)).set 6 (some (.lst ys24))).set 7 (some d48)).set 8 (some d61)).set 9 (some d67)).set 10 (some d78)).set 11 (some d80)).set 12 (some (.lst [d88, d96]))) 4 fun v109 => ixA m99 v109 (.int 0) fun v108 => w_Read_new cl [v108, .int 2, .tup [.int 1, .int 3]] m99 (fun d110 m111 => cmpG (eq_tab cl) .Eq v106 d110 m111 fun z104 m105 => wIf z104 (k103 true m105) (dsGet (((((((((((ds4.set 2 (some x3)).set 3 (some d8)).set 4 (some d11)).set 5 (some d17)).set 6 (some (.lst ys24))).set 7 (some d48)).set 8 (some d61)).set 9 (some d67)).set 10 (some d78)).set 11 (some d80)).set 12 (some (.lst [d88, d96]))) 12 fun v115 => ixA m105 v115 (.int 0) fun v114 => dsGet (((((((((((ds4.set 2 (some x3)).set 3 (some d8)).set 4 (some d11)).set 5 (some d17)).set 6 (some (.lst ys24))).set 7 (some d48)).set 8 (some d61)).set 9 (some d67)).set 10 (some d78)).set 11 (some d80)).set 12 (some (.lst [d88, d96]))) 4 fun v117 => ixA m105 v117 (.int 0) fun v116 => cmpG (eq_tab cl) .Eq v114 v116 m105 fun z112 m113 => wIf z112 (k103 true m113) (dsGet (((((((((((ds4.set 2 (some x3)).set 3 (some d8)).set 4 (some d11)).set 5 (some d17)).set 6 (some (.lst ys24))).set 7 (some d48)).set 8 (some d61)).set 9 (some d67)).set 10 (some d78)).set 11 (some d80)).set 12 (some (.lst [d88, d96]))) 7 fun v120 => cmpG (eq_tab cl) .Eq v120 (.int 3) m113 fun z118 m119 => k103 z118 m119))) PE) fun z101 m102 => wIf z101 (Z6.rt (.bl false) m102) (Z6.nx (((((((((((ds4.set 2 (some x3)).set 3 (some d8)).set 4 (some d11)).set 5 (some d17)).set 6 (some (.lst ys24))).set 7 (some d48)).set 8 (some d61)).set 9 (some d67)).set 10 (some d78)).set 11 (some d80)).set 12 (some (.lst [d88, d96]))) m102))) PE) PE) PE)) PE) PE)) PE) PE)) PE) PE) PE) PE) PE) PE) { nx := fun ds191 m192 => dsGet ds191 4 fun v194 => ixA m192 v194 (.int 0) fun v193 => w_Steady_new cl [v193] m192 (fun d195 m196 => dsGet ds191 4 fun v198 => ixA m196 v198 (.int 0) fun v197 => w_Read_new cl [v197, .int 1] m196 (fun d199 m200 => dsGet ds191 4 fun v202 => ixA m200 v202 (.int 0) fun v201 => w_Send_new cl [v201, .int 1, .int 2] m200 (fun d203 m204 => dsGet (ds191.set 13 (some (.lst [d195, d199, d203]))) 13 fun v206 => itemsK v206 fun xs205 => lcW (fun x207 m208 Q209 => dsGet ((wipeD (ds191.set 13 (some (.lst [d195, d199, d203]))) [16]).set 16 (some x207)) 16 fun v213 => isoW (iso_Line cl) v213 m208 fun b212 => dsGet ((wipeD (ds191.set 13 (some (.lst [d195, d199, d203]))) [16]).set 16 (some x207)) 16 fun v214 => attrW "KIND" v214 m208 noX (fun d215 m216 => dsGet ((wipeD (ds191.set 13 (some (.lst [d195, d199, d203]))) [16]).set 16 (some x207)) 16 fun v217 => attrW "MOVED" v217 m216 noX (fun d218 m219 => dsGet ((wipeD (ds191.set 13 (some (.lst [d195, d199, d203]))) [16]).set 16 (some x207)) 16 fun v222 => lenG (len_tab cl) [v222] m219 fun d220 m221 => Q209 (some (.lst [.bl b212, d215, d218, d220])) m221) (ae_MOVED cl)) (ae_KIND cl)) xs205 m204 fun ys210 m211 => letK (fun k225 => dsGet (((ds191.set 13 (some (.lst [d195, d199, d203]))).set 14 (some (.lst ys210))).set 5 (some (.lst [.lst [.bl true, .str "steady", .bl false, .int 0], .lst [.bl true, .str "read", .bl true, .int 1], .lst [.bl true, .str "send", .bl true, .int 2]]))) 14 fun v227 => dsGet (((ds191.set 13 (some (.lst [d195, d199, d203]))).set 14 (some (.lst ys210))).set 5 (some (.lst [.lst [.bl true, .str "steady", .bl false, .int 0], .lst [.bl true, .str "read", .bl true, .int 1], .lst [.bl true, .str "send", .bl true, .int 2]]))) 5 fun v228 => w__law_same cl [v227, v228] m211 (fun d229 m230 => truK d229 fun z226 => wIf z226 (cmpG (eq_tab cl) .Eq (.lst [.str "line", .str "send", .bl false, .bl true]) (.lst [.str "line", .str "send", .bl false, .bl true]) m230 fun z231 m232 => k225 (.bl z231) m232) (k225 d229 m230)) PE) fun d223 m224 => R d223 m224) PE) PE) PE, rt := fun d233 m234 => R d233 m234, bk := fun ds235 m236 => False, ct := fun ds237 m238 => False } (rngD 0 j190.toNat) [some a__law_script, some d1, none, none, none, none, none, none, none, none, none, none, none, none, none, none, none] m2) PE
  | _ => False
end Hw
set_option Elab.async false
set_option linter.all false
set_option maxRecDepth 100000
set_option maxHeartbeats 4000000
set_option exponentiation.threshold 2000
namespace Hw
open PySem L2 PyProof.Rows

variable {P : Program} {w : World} {K : PySem.W.Frag} {mg : Str → Option Value} {base : Heap} {cl : Str → Addr} {cd tT : Addr}
theorem sc__law_low : FnScope ["_law_top", "_law_bottom", "_law_one", "_law_other"] ["_law_top", "_law_bottom"] (defScope s__law_low) := ⟨rfl, rfl, rfl, by decide +kernel, rfl, by decide +kernel, by decide +kernel⟩
def g__law_low (cl : Str → Addr) : List (Str × GI) := [("abs", .bt), ("int", .bt)]
theorem ga__law_low (T : Tx P K mg base cl cd tT) : GAll P w K mg base 1 (g__law_low cl) :=
  (GAll.cons (gok_bt (T.tb.non T.t.z_abs) (by decide +kernel))
    (GAll.cons (gok_kit (T.tb.non T.t.z_int) (by decide +kernel) T.t.k_int)
    GAll.nil))
theorem fg__law_low (T : Tx P K mg base cl cd tT) {f : Addr} {fd : FuncData} (F : Fun K "_law_low" "_law_low" s__law_low f fd) : FnG P w K mg base 2 f fd ["_law_top", "_law_bottom"] (w__law_low cl) :=
  fn_okW (o := {}) (cl := []) (mf := []) 80 F sc__law_low (ga__law_low T) (OTok.none : OTok P w K mg base 0 _) (by decide) (fun xs μ R RE h => by match xs, h with | [a__law_top, a__law_bottom], h => rfl) (fun xs μ R PE h => by match xs, h with | [a__law_top, a__law_bottom], h => exact Eq.mp (by kernel_rfl) h)
theorem ok__law_low (T : Tx P K mg base cl cd tT) : Cal P w K mg base "_law_low" "_law_low" s__law_low ["_law_top", "_law_bottom"] 2 (w__law_low cl) := cal_of T.tb T.t.f__law_low (fun _ _ _ _ _ _ us hl => match us, hl with | [_, _], _ => rfl) fun f fd F => fg__law_low T F
theorem sc__law_gain : FnScope ["_law_src", "_law_way"] ["_law_src"] (defScope s__law_gain) := ⟨rfl, rfl, rfl, by decide +kernel, rfl, by decide +kernel, by decide +kernel⟩
def g__law_gain (cl : Str → Addr) : List (Str × GI) := [("_law_draw", .fn [(2, [], w__law_draw cl)] none), ("_law_low", .fn [(2, [], w__law_low cl)] none)]
theorem ga__law_gain (T : Tx P K mg base cl cd tT) : GAll P w K mg base 2 (g__law_gain cl) :=
  (GAll.cons (gok_fn (ShAll.cons ((ok__law_draw T).g rfl) (by decide) ShAll.nil))
    (GAll.cons (gok_fn (ShAll.cons ((ok__law_low T).g rfl) (by decide) ShAll.nil))
    GAll.nil))
theorem fg__law_gain (T : Tx P K mg base cl cd tT) {f : Addr} {fd : FuncData} (F : Fun K "_law_gain" "_law_gain" s__law_gain f fd) : FnG P w K mg base 3 f fd ["_law_src"] (w__law_gain cl) :=
  fn_okW (o := {}) (cl := []) (mf := []) 80 F sc__law_gain (ga__law_gain T) (OTok.none : OTok P w K mg base 0 _) (by decide) (fun xs μ R RE h => by match xs, h with | [a__law_src], h => rfl) (fun xs μ R PE h => by match xs, h with | [a__law_src], h => exact Eq.mp (by kernel_rfl) h)
theorem ok__law_gain (T : Tx P K mg base cl cd tT) : Cal P w K mg base "_law_gain" "_law_gain" s__law_gain ["_law_src"] 3 (w__law_gain cl) := cal_of T.tb T.t.f__law_gain (fun _ _ _ _ _ _ us hl => match us, hl with | [_], _ => rfl) fun f fd F => fg__law_gain T F
theorem sc__law_gains : FnScope ["_law_src", "_law_many", "_law_k"] ["_law_src", "_law_many"] (defScope s__law_gains) := ⟨rfl, rfl, rfl, by decide +kernel, rfl, by decide +kernel, by decide +kernel⟩
def g__law_gains (cl : Str → Addr) : List (Str × GI) := [("_law_gain", .fn [(1, [], w__law_gain cl)] none), ("range", .bt)]
theorem ga__law_gains (T : Tx P K mg base cl cd tT) : GAll P w K mg base 3 (g__law_gains cl) :=
  (GAll.cons (gok_fn (ShAll.cons ((ok__law_gain T).g rfl) (by decide) ShAll.nil))
    (GAll.cons (gok_bt (T.tb.non T.t.z_range) (by decide +kernel))
    GAll.nil))
theorem fg__law_gains (T : Tx P K mg base cl cd tT) {f : Addr} {fd : FuncData} (F : Fun K "_law_gains" "_law_gains" s__law_gains f fd) : FnG P w K mg base 4 f fd ["_law_src", "_law_many"] (w__law_gains cl) :=
  fn_okW (o := {}) (cl := []) (mf := []) 80 F sc__law_gains (ga__law_gains T) (OTok.none : OTok P w K mg base 0 _) (by decide) (fun xs μ R RE h => by match xs, h with | [a__law_src, a__law_many], h => rfl) (fun xs μ R PE h => by match xs, h with | [a__law_src, a__law_many], h => exact Eq.mp (by kernel_rfl) h)
theorem ok__law_gains (T : Tx P K mg base cl cd tT) : Cal P w K mg base "_law_gains" "_law_gains" s__law_gains ["_law_src", "_law_many"] 4 (w__law_gains cl) := cal_of T.tb T.t.f__law_gains (fun _ _ _ _ _ _ us hl => match us, hl with | [_, _], _ => rfl) fun f fd F => fg__law_gains T F
theorem sc_is_name : FnScope ["value", "letter"] ["value"] (defScope s_is_name) := ⟨rfl, rfl, rfl, by decide +kernel, rfl, by decide +kernel, by decide +kernel⟩
def g_is_name (cl : Str → Addr) : List (Str × GI) := [("all", .bt), ("isinstance", .bt), ("str", .bt), ("MOST_LETTERS", .cst (.int 8)), ("LETTERS", .cst (.str "abcdefghijklmnopqrstuvwxyz")), ("len", .bt)]
theorem ga_is_name (T : Tx P K mg base cl cd tT) : GAll P w K mg base 1 (g_is_name cl) :=
  (GAll.cons (gok_bt (T.tb.non T.t.z_all) (by decide +kernel))
    (GAll.cons (gok_bt (T.tb.non T.t.z_isinstance) (by decide +kernel))
    (GAll.cons (gok_kit (T.tb.non T.t.z_str) (by decide +kernel) T.t.k_str)
    (GAll.cons (cst_int T.tb T.t.g_MOST_LETTERS)
    (GAll.cons (cst_str T.tb T.t.g_LETTERS)
    (GAll.cons (gok_bt (T.tb.non T.t.z_len) (by decide +kernel))
    GAll.nil))))))
theorem fg_is_name (T : Tx P K mg base cl cd tT) {f : Addr} {fd : FuncData} (F : Fun K "is_name" "is_name" s_is_name f fd) : FnG P w K mg base 2 f fd ["value"] (w_is_name cl) :=
  fn_okW (o := {}) (cl := []) (mf := []) 80 F sc_is_name (ga_is_name T) (OTok.none : OTok P w K mg base 0 _) (by decide) (fun xs μ R RE h => by match xs, h with | [a_value], h => rfl) (fun xs μ R PE h => by match xs, h with | [a_value], h => exact Eq.mp (by kernel_rfl) h)
theorem ok_is_name (T : Tx P K mg base cl cd tT) : Cal P w K mg base "is_name" "is_name" s_is_name ["value"] 2 (w_is_name cl) := cal_of T.tb T.t.f_is_name (fun _ _ _ _ _ _ us hl => match us, hl with | [_], _ => rfl) fun f fd F => fg_is_name T F
theorem sc_is_integer : FnScope ["value"] ["value"] (defScope s_is_integer) := ⟨rfl, rfl, rfl, by decide +kernel, rfl, by decide +kernel, by decide +kernel⟩
def g_is_integer (cl : Str → Addr) : List (Str × GI) := [("isinstance", .bt), ("int", .bt), ("bool", .bt)]
theorem ga_is_integer (T : Tx P K mg base cl cd tT) : GAll P w K mg base 1 (g_is_integer cl) :=
  (GAll.cons (gok_bt (T.tb.non T.t.z_isinstance) (by decide +kernel))
    (GAll.cons (gok_kit (T.tb.non T.t.z_int) (by decide +kernel) T.t.k_int)
    (GAll.cons (gok_kit (T.tb.non T.t.z_bool) (by decide +kernel) T.t.k_bool)
    GAll.nil)))
theorem fg_is_integer (T : Tx P K mg base cl cd tT) {f : Addr} {fd : FuncData} (F : Fun K "is_integer" "is_integer" s_is_integer f fd) : FnG P w K mg base 2 f fd ["value"] (w_is_integer cl) :=
  fn_okW (o := {}) (cl := []) (mf := []) 80 F sc_is_integer (ga_is_integer T) (OTok.none : OTok P w K mg base 0 _) (by decide) (fun xs μ R RE h => by match xs, h with | [a_value], h => rfl) (fun xs μ R PE h => by match xs, h with | [a_value], h => exact Eq.mp (by kernel_rfl) h)
theorem ok_is_integer (T : Tx P K mg base cl cd tT) : Cal P w K mg base "is_integer" "is_integer" s_is_integer ["value"] 2 (w_is_integer cl) := cal_of T.tb T.t.f_is_integer (fun _ _ _ _ _ _ us hl => match us, hl with | [_], _ => rfl) fun f fd F => fg_is_integer T F
theorem sc_common_divisor : FnScope ["one", "other"] ["one", "other"] (defScope s_common_divisor) := ⟨rfl, rfl, rfl, by decide +kernel, rfl, by decide +kernel, by decide +kernel⟩
def g_common_divisor (cl : Str → Addr) : List (Str × GI) := [("abs", .bt)]
theorem ga_common_divisor (T : Tx P K mg base cl cd tT) : GAll P w K mg base 1 (g_common_divisor cl) :=
  (GAll.cons (gok_bt (T.tb.non T.t.z_abs) (by decide +kernel))
    GAll.nil)
theorem fg_common_divisor (T : Tx P K mg base cl cd tT) {f : Addr} {fd : FuncData} (F : Fun K "common_divisor" "common_divisor" s_common_divisor f fd) : FnG P w K mg base 2 f fd ["one", "other"] (w_common_divisor cl) :=
  fn_okW (o := {}) (cl := []) (mf := []) 80 F sc_common_divisor (ga_common_divisor T) (OTok.none : OTok P w K mg base 0 _) (by decide) (fun xs μ R RE h => by match xs, h with | [a_one, a_other], h => rfl) (fun xs μ R PE h => by match xs, h with | [a_one, a_other], h => exact Eq.mp (by kernel_rfl) h)
theorem ok_common_divisor (T : Tx P K mg base cl cd tT) : Cal P w K mg base "common_divisor" "common_divisor" s_common_divisor ["one", "other"] 2 (w_common_divisor cl) := cal_of T.tb T.t.f_common_divisor (fun _ _ _ _ _ _ us hl => match us, hl with | [_, _], _ => rfl) fun f fd F => fg_common_divisor T F
theorem sc_is_ratio : FnScope ["value"] ["value"] (defScope s_is_ratio) := ⟨rfl, rfl, rfl, by decide +kernel, rfl, by decide +kernel, by decide +kernel⟩
def g_is_ratio (cl : Str → Addr) : List (Str × GI) := [("isinstance", .bt), ("tuple", .bt), ("len", .bt), ("is_integer", .fn [(1, [], w_is_integer cl)] none), ("common_divisor", .fn [(2, [], w_common_divisor cl)] none)]
theorem ga_is_ratio (T : Tx P K mg base cl cd tT) : GAll P w K mg base 2 (g_is_ratio cl) :=
  (GAll.cons (gok_bt (T.tb.non T.t.z_isinstance) (by decide +kernel))
    (GAll.cons (gok_kit (T.tb.non T.t.z_tuple) (by decide +kernel) T.t.k_tuple)
    (GAll.cons (gok_bt (T.tb.non T.t.z_len) (by decide +kernel))
    (GAll.cons (gok_fn (ShAll.cons ((ok_is_integer T).g rfl) (by decide) ShAll.nil))
    (GAll.cons (gok_fn (ShAll.cons ((ok_common_divisor T).g rfl) (by decide) ShAll.nil))
    GAll.nil)))))
theorem fg_is_ratio (T : Tx P K mg base cl cd tT) {f : Addr} {fd : FuncData} (F : Fun K "is_ratio" "is_ratio" s_is_ratio f fd) : FnG P w K mg base 3 f fd ["value"] (w_is_ratio cl) :=
  fn_okW (o := {}) (cl := []) (mf := []) 80 F sc_is_ratio (ga_is_ratio T) (OTok.none : OTok P w K mg base 0 _) (by decide) (fun xs μ R RE h => by match xs, h with | [a_value], h => rfl) (fun xs μ R PE h => by match xs, h with | [a_value], h => exact Eq.mp (by kernel_rfl) h)
theorem ok_is_ratio (T : Tx P K mg base cl cd tT) : Cal P w K mg base "is_ratio" "is_ratio" s_is_ratio ["value"] 3 (w_is_ratio cl) := cal_of T.tb T.t.f_is_ratio (fun _ _ _ _ _ _ us hl => match us, hl with | [_], _ => rfl) fun f fd F => fg_is_ratio T F
theorem sc_is_valued : FnScope ["value"] ["value"] (defScope s_is_valued) := ⟨rfl, rfl, rfl, by decide +kernel, rfl, by decide +kernel, by decide +kernel⟩
def g_is_valued (cl : Str → Addr) : List (Str × GI) := [("is_integer", .fn [(1, [], w_is_integer cl)] none), ("is_ratio", .fn [(1, [], w_is_ratio cl)] none)]
theorem ga_is_valued (T : Tx P K mg base cl cd tT) : GAll P w K mg base 3 (g_is_valued cl) :=
  (GAll.cons (gok_fn (ShAll.cons ((ok_is_integer T).g rfl) (by decide) ShAll.nil))
    (GAll.cons (gok_fn (ShAll.cons ((ok_is_ratio T).g rfl) (by decide) ShAll.nil))
    GAll.nil))
theorem fg_is_valued (T : Tx P K mg base cl cd tT) {f : Addr} {fd : FuncData} (F : Fun K "is_valued" "is_valued" s_is_valued f fd) : FnG P w K mg base 4 f fd ["value"] (w_is_valued cl) :=
  fn_okW (o := {}) (cl := []) (mf := []) 80 F sc_is_valued (ga_is_valued T) (OTok.none : OTok P w K mg base 0 _) (by decide) (fun xs μ R RE h => by match xs, h with | [a_value], h => rfl) (fun xs μ R PE h => by match xs, h with | [a_value], h => exact Eq.mp (by kernel_rfl) h)
theorem ok_is_valued (T : Tx P K mg base cl cd tT) : Cal P w K mg base "is_valued" "is_valued" s_is_valued ["value"] 4 (w_is_valued cl) := cal_of T.tb T.t.f_is_valued (fun _ _ _ _ _ _ us hl => match us, hl with | [_], _ => rfl) fun f fd F => fg_is_valued T F
theorem sc_ratio_of : FnScope ["value"] ["value"] (defScope s_ratio_of) := ⟨rfl, rfl, rfl, by decide +kernel, rfl, by decide +kernel, by decide +kernel⟩
def g_ratio_of (cl : Str → Addr) : List (Str × GI) := [("is_integer", .fn [(1, [], w_is_integer cl)] none), ("is_ratio", .fn [(1, [], w_is_ratio cl)] none), ("InvalidRatio", .exc (cl "InvalidRatio") "given" "InvalidRatio")]
theorem ga_ratio_of (T : Tx P K mg base cl cd tT) : GAll P w K mg base 3 (g_ratio_of cl) :=
  (GAll.cons (gok_fn (ShAll.cons ((ok_is_integer T).g rfl) (by decide) ShAll.nil))
    (GAll.cons (gok_fn (ShAll.cons ((ok_is_ratio T).g rfl) (by decide) ShAll.nil))
    (GAll.cons (⟨by decide, fun X e1 e2 e3 e4 hr hg PE e μ ds p pos Q h1 h2 => by subst e1 e2 e3 e4; exact mk_InvalidRatio (k := 0) T hr h2 hg (star1 h1)⟩)
    GAll.nil)))
theorem fg_ratio_of (T : Tx P K mg base cl cd tT) {f : Addr} {fd : FuncData} (F : Fun K "ratio_of" "ratio_of" s_ratio_of f fd) : FnG P w K mg base 4 f fd ["value"] (w_ratio_of cl) :=
  fn_okW (o := {}) (cl := []) (mf := []) 80 F sc_ratio_of (ga_ratio_of T) (OTok.none : OTok P w K mg base 0 _) (by decide) (fun xs μ R RE h => by match xs, h with | [a_value], h => rfl) (fun xs μ R PE h => by match xs, h with | [a_value], h => exact Eq.mp (by kernel_rfl) h)
theorem ok_ratio_of (T : Tx P K mg base cl cd tT) : Cal P w K mg base "ratio_of" "ratio_of" s_ratio_of ["value"] 4 (w_ratio_of cl) := cal_of T.tb T.t.f_ratio_of (fun _ _ _ _ _ _ us hl => match us, hl with | [_], _ => rfl) fun f fd F => fg_ratio_of T F
theorem sc_Line___init__ : FnScope ["self", "name", "gains", "at", "gain"] ["self", "name", "gains"] (defScope s_Line___init__) := ⟨rfl, rfl, rfl, by decide +kernel, rfl, by decide +kernel, by decide +kernel⟩
def g_Line___init__ (cl : Str → Addr) : List (Str × GI) := [("enumerate", .bt), ("tuple", .bt), ("is_name", .fn [(1, [], w_is_name cl)] none), ("InvalidName", .exc (cl "InvalidName") "given" "InvalidName"), ("is_valued", .fn [(1, [], w_is_valued cl)] none), ("InvalidGain", .exc (cl "InvalidGain") "at" "InvalidGain"), ("ratio_of", .fn [(1, [], w_ratio_of cl)] none)]
theorem ga_Line___init__ (T : Tx P K mg base cl cd tT) : GAll P w K mg base 4 (g_Line___init__ cl) :=
  (GAll.cons (gok_bt (T.tb.non T.t.z_enumerate) (by decide +kernel))
    (GAll.cons (gok_kit (T.tb.non T.t.z_tuple) (by decide +kernel) T.t.k_tuple)
    (GAll.cons (gok_fn (ShAll.cons ((ok_is_name T).g rfl) (by decide) ShAll.nil))
    (GAll.cons (⟨by decide, fun X e1 e2 e3 e4 hr hg PE e μ ds p pos Q h1 h2 => by subst e1 e2 e3 e4; exact mk_InvalidName (k := 0) T hr h2 hg (star1 h1)⟩)
    (GAll.cons (gok_fn (ShAll.cons ((ok_is_valued T).g rfl) (by decide) ShAll.nil))
    (GAll.cons (⟨by decide, fun X e1 e2 e3 e4 hr hg PE e μ ds p pos Q h1 h2 => by subst e1 e2 e3 e4; exact mk_InvalidGain (k := 0) T hr h2 hg (star1 h1)⟩)
    (GAll.cons (gok_fn (ShAll.cons ((ok_ratio_of T).g rfl) (by decide) ShAll.nil))
    GAll.nil)))))))
def o_Line___init__ (cl : Str → Addr) : OT := { fs := tab [("name", fs_name cl), ("own_gains", fs_own_gains cl)] }
theorem ot_Line___init__ (T : Tx P K mg base cl cd tT) : OTok P w K mg base 0 (o_Line___init__ cl) := ⟨fun _ _ h => (by cases h), tab_ok (p := fun f C => Cls K C ∧ NoAttr K C f) (all_cons (all_cons ⟨T.t.cl_Line, T.t.na_Line_name⟩ (all_cons ⟨T.t.cl_Steady, T.t.na_Steady_name⟩ (all_cons ⟨T.t.cl_Read, T.t.na_Read_name⟩ (all_cons ⟨T.t.cl_Send, T.t.na_Send_name⟩ all_nil)))) (all_cons (all_cons ⟨T.t.cl_Line, T.t.na_Line_own_gains⟩ (all_cons ⟨T.t.cl_Steady, T.t.na_Steady_own_gains⟩ (all_cons ⟨T.t.cl_Read, T.t.na_Read_own_gains⟩ (all_cons ⟨T.t.cl_Send, T.t.na_Send_own_gains⟩ all_nil)))) all_nil)), fun _ _ h => (by cases h), all_nil, all_nil, all_nil, all_nil⟩
theorem ra_Line___init__ (T : Tx P K mg base cl cd tT) (n : Nat) : RunA P w K mg base (cl "Line.__init__") 5 n [] (w_Line___init___any cl) :=
  T.t.fm_Line___init__.runS (n := n) fun fd F => fn_okWS (ps := ["self", "name"]) (C := w_Line___init__ cl) (o := o_Line___init__ cl) (cl := []) (mf := []) 80 F sc_Line___init__ (fun _ _ _ _ _ _ us rest hl => match us, rest, hl with | [_, _], [], _ => rfl | [_, _], _ :: _, _ => rfl) (ga_Line___init__ T) (ot_Line___init__ T : OTok P w K mg base 0 _) (by decide) (fun xs μ R PE h => by match xs, h with | [a_self, a_name, a_gains], h => exact Eq.mp (by kernel_rfl) h)
theorem sc_Send___init__ : SupScope ["self", "name", "gains"] ["self", "name", "gains"] (defScope s_Send___init__) := ⟨rfl, rfl, rfl, by decide +kernel, rfl, by decide +kernel, by decide +kernel, by decide +kernel, by decide +kernel, by decide +kernel⟩
def g_Send___init__ (cl : Str → Addr) : List (Str × GI) := []
theorem ga_Send___init__ (T : Tx P K mg base cl cd tT) : GAll P w K mg base 5 (g_Send___init__ cl) :=
  GAll.nil
theorem ra_Send___init__ (T : Tx P K mg base cl cd tT) (n : Nat) : RunA P w K mg base (cl "Send.__init__") 6 n [] (w_Send___init___any cl) :=
  T.t.si_Send___init__.run fun fd cda cc F m => fn_supW (ps := ["self", "name"]) (C := w_Send___init__ cl) (W2 := w_Line___init___any cl) (o := {}) (cl := []) (mf := []) 80 T.t.pf T.t.si_Send___init__.o F T.t.si_Send___init__.kp sc_Send___init__ rfl ⟨_, rfl, rfl⟩ rfl rfl (fun _ _ _ _ _ us rest hl => match us, rest, hl with | [_, _], [], _ => rfl | [_, _], _ :: _, _ => rfl) (fun n => (ra_Line___init__ T n).mono (by decide)) (ga_Send___init__ T) (OTok.none : OTok P w K mg base 0 _) (by decide) (fun xs μ R PE h => by match xs, h with | [a_self, a_name, a_gains], h => obtain ⟨a, fs, rfl, e2, h⟩ := h; exact ⟨a, fs, _, rfl, e2, Eq.mp (by kernel_rfl) h⟩) m
theorem sc_Read___init__ : SupScope ["self", "name", "gains"] ["self", "name", "gains"] (defScope s_Read___init__) := ⟨rfl, rfl, rfl, by decide +kernel, rfl, by decide +kernel, by decide +kernel, by decide +kernel, by decide +kernel, by decide +kernel⟩
def g_Read___init__ (cl : Str → Addr) : List (Str × GI) := []
theorem ga_Read___init__ (T : Tx P K mg base cl cd tT) : GAll P w K mg base 5 (g_Read___init__ cl) :=
  GAll.nil
theorem ra_Read___init__ (T : Tx P K mg base cl cd tT) (n : Nat) : RunA P w K mg base (cl "Read.__init__") 6 n [] (w_Read___init___any cl) :=
  T.t.si_Read___init__.run fun fd cda cc F m => fn_supW (ps := ["self", "name"]) (C := w_Read___init__ cl) (W2 := w_Line___init___any cl) (o := {}) (cl := []) (mf := []) 80 T.t.pf T.t.si_Read___init__.o F T.t.si_Read___init__.kp sc_Read___init__ rfl ⟨_, rfl, rfl⟩ rfl rfl (fun _ _ _ _ _ us rest hl => match us, rest, hl with | [_, _], [], _ => rfl | [_, _], _ :: _, _ => rfl) (fun n => (ra_Line___init__ T n).mono (by decide)) (ga_Read___init__ T) (OTok.none : OTok P w K mg base 0 _) (by decide) (fun xs μ R PE h => by match xs, h with | [a_self, a_name, a_gains], h => obtain ⟨a, fs, rfl, e2, h⟩ := h; exact ⟨a, fs, _, rfl, e2, Eq.mp (by kernel_rfl) h⟩) m
theorem sc_Steady___init__ : SupScope ["self", "name", "gains"] ["self", "name", "gains"] (defScope s_Steady___init__) := ⟨rfl, rfl, rfl, by decide +kernel, rfl, by decide +kernel, by decide +kernel, by decide +kernel, by decide +kernel, by decide +kernel⟩
def g_Steady___init__ (cl : Str → Addr) : List (Str × GI) := []
theorem ga_Steady___init__ (T : Tx P K mg base cl cd tT) : GAll P w K mg base 5 (g_Steady___init__ cl) :=
  GAll.nil
theorem ra_Steady___init__ (T : Tx P K mg base cl cd tT) (n : Nat) : RunA P w K mg base (cl "Steady.__init__") 6 n [] (w_Steady___init___any cl) :=
  T.t.si_Steady___init__.run fun fd cda cc F m => fn_supW (ps := ["self", "name"]) (C := w_Steady___init__ cl) (W2 := w_Line___init___any cl) (o := {}) (cl := []) (mf := []) 80 T.t.pf T.t.si_Steady___init__.o F T.t.si_Steady___init__.kp sc_Steady___init__ rfl ⟨_, rfl, rfl⟩ rfl rfl (fun _ _ _ _ _ us rest hl => match us, rest, hl with | [_, _], [], _ => rfl | [_, _], _ :: _, _ => rfl) (fun n => (ra_Line___init__ T n).mono (by decide)) (ga_Steady___init__ T) (OTok.none : OTok P w K mg base 0 _) (by decide) (fun xs μ R PE h => by match xs, h with | [a_self, a_name, a_gains], h => obtain ⟨a, fs, rfl, e2, h⟩ := h; exact ⟨a, fs, _, rfl, e2, Eq.mp (by kernel_rfl) h⟩) m
theorem ok_Steady (T : Tx P K mg base cl cd tT) (n : Nat) : CalG P w K mg base "Steady" 7 n [] (w_Steady_new cl) := ((ra_Steady___init__ T (n + 1)).make T.t.mk_Steady).calg (T.tb.som T.t.nC_Steady)
theorem ok_Read (T : Tx P K mg base cl cd tT) (n : Nat) : CalG P w K mg base "Read" 7 n [] (w_Read_new cl) := ((ra_Read___init__ T (n + 1)).make T.t.mk_Read).calg (T.tb.som T.t.nC_Read)
theorem ok_Send (T : Tx P K mg base cl cd tT) (n : Nat) : CalG P w K mg base "Send" 7 n [] (w_Send_new cl) := ((ra_Send___init__ T (n + 1)).make T.t.mk_Send).calg (T.tb.som T.t.nC_Send)
theorem sc_made : FnScope ["kind", "name", "gains"] ["kind", "name", "gains"] (defScope s_made) := ⟨rfl, rfl, rfl, by decide +kernel, rfl, by decide +kernel, by decide +kernel⟩
def g_made (cl : Str → Addr) : List (Str × GI) := [("KINDS", .cst (.tup [.str "steady", .str "read", .str "send"])), ("InvalidKind", .exc (cl "InvalidKind") "given" "InvalidKind"), ("Steady", .cls (cl "Steady") [] (some (w_Steady_new cl)) [] [] []), ("Read", .cls (cl "Read") [] (some (w_Read_new cl)) [] [] []), ("Send", .cls (cl "Send") [] (some (w_Send_new cl)) [] [] []), ("isinstance", .bt), ("str", .bt)]
theorem ga_made (T : Tx P K mg base cl cd tT) : GAll P w K mg base 7 (g_made cl) :=
  (GAll.cons (cst_tup T.tb T.t.g_KINDS)
    (GAll.cons (⟨by decide, fun X e1 e2 e3 e4 hr hg PE e μ ds p pos Q h1 h2 => by subst e1 e2 e3 e4; exact mk_InvalidKind (k := 0) T hr h2 hg (star1 h1)⟩)
    (GAll.cons (⟨⟨ShAll.nil, (anyYes (fun n => ok_Steady T n) (by decide))⟩, T.tb.som T.t.nC_Steady, con_nil, all_nil, (iso_nil T.t.io_Steady)⟩)
    (GAll.cons (⟨⟨ShAll.nil, (anyYes (fun n => ok_Read T n) (by decide))⟩, T.tb.som T.t.nC_Read, con_nil, all_nil, (iso_nil T.t.io_Read)⟩)
    (GAll.cons (⟨⟨ShAll.nil, (anyYes (fun n => ok_Send T n) (by decide))⟩, T.tb.som T.t.nC_Send, con_nil, all_nil, (iso_nil T.t.io_Send)⟩)
    (GAll.cons (gok_bt (T.tb.non T.t.z_isinstance) (by decide +kernel))
    (GAll.cons (gok_kit (T.tb.non T.t.z_str) (by decide +kernel) T.t.k_str)
    GAll.nil)))))))
theorem ok_made (T : Tx P K mg base cl cd tT) (n : Nat) : CalG P w K mg base "made" 8 n [] (w_made_any cl) :=
  calS_of T.tb T.t.f_made (fun f fd F => fn_okWS (ps := ["kind", "name"]) (C := w_made cl) (o := {}) (cl := []) (mf := []) 80 F sc_made (fun _ _ _ _ _ _ us rest hl => match us, rest, hl with | [_, _], [], _ => rfl | [_, _], _ :: _, _ => rfl) (ga_made T) (OTok.none : OTok P w K mg base 0 _) (by decide) (fun xs μ R PE h => by match xs, h with | [a_kind, a_name, a_gains], h => exact Eq.mp (by kernel_rfl) h)) n
theorem sc__law_line : FnScope ["_law_kind", "_law_name_z", "_law_g"] ["_law_kind", "_law_name_z", "_law_g"] (defScope s__law_line) := ⟨rfl, rfl, rfl, by decide +kernel, rfl, by decide +kernel, by decide +kernel⟩
def g__law_line (cl : Str → Addr) : List (Str × GI) := [("made", .fn [] (some (w_made_any cl))), ("len", .bt)]
theorem ga__law_line (T : Tx P K mg base cl cd tT) : GAll P w K mg base 8 (g__law_line cl) :=
  (GAll.cons (gok_any (fun n => ok_made T n) (by decide))
    (GAll.cons (gok_bt (T.tb.non T.t.z_len) (by decide +kernel))
    GAll.nil))
theorem fg__law_line (T : Tx P K mg base cl cd tT) {f : Addr} {fd : FuncData} (F : Fun K "_law_line" "_law_line" s__law_line f fd) : FnG P w K mg base 9 f fd ["_law_kind", "_law_name_z", "_law_g"] (w__law_line cl) :=
  fn_okW (o := {}) (cl := []) (mf := []) 80 F sc__law_line (ga__law_line T) (OTok.none : OTok P w K mg base 0 _) (by decide) (fun xs μ R RE h => by match xs, h with | [a__law_kind, a__law_name_z, a__law_g], h => rfl) (fun xs μ R PE h => by match xs, h with | [a__law_kind, a__law_name_z, a__law_g], h => exact Eq.mp (by kernel_rfl) h)
theorem ok__law_line (T : Tx P K mg base cl cd tT) : Cal P w K mg base "_law_line" "_law_line" s__law_line ["_law_kind", "_law_name_z", "_law_g"] 9 (w__law_line cl) := cal_of T.tb T.t.f__law_line (fun _ _ _ _ _ _ us hl => match us, hl with | [_, _, _], _ => rfl) fun f fd F => fg__law_line T F
theorem sc__law_mixed : FnScope ["_law_src", "_law_things", "_law_found", "_law_thing"] ["_law_src", "_law_things"] (defScope s__law_mixed) := ⟨rfl, rfl, rfl, by decide +kernel, rfl, by decide +kernel, by decide +kernel⟩
def g__law_mixed (cl : Str → Addr) : List (Str × GI) := [("_law_draw", .fn [(2, [], w__law_draw cl)] none), ("len", .bt)]
theorem ga__law_mixed (T : Tx P K mg base cl cd tT) : GAll P w K mg base 1 (g__law_mixed cl) :=
  (GAll.cons (gok_fn (ShAll.cons ((ok__law_draw T).g rfl) (by decide) ShAll.nil))
    (GAll.cons (gok_bt (T.tb.non T.t.z_len) (by decide +kernel))
    GAll.nil))
theorem fg__law_mixed (T : Tx P K mg base cl cd tT) {f : Addr} {fd : FuncData} (F : Fun K "_law_mixed" "_law_mixed" s__law_mixed f fd) : FnG P w K mg base 2 f fd ["_law_src", "_law_things"] (w__law_mixed cl) :=
  fn_okW (o := {}) (cl := [(136, 1)]) (mf := []) 80 F sc__law_mixed (ga__law_mixed T) (OTok.none : OTok P w K mg base 0 _) (by decide) (fun xs μ R RE h => by match xs, h with | [a__law_src, a__law_things], h => rfl) (fun xs μ R PE h => by match xs, h with | [a__law_src, a__law_things], h => exact Eq.mp (by kernel_rfl) h)
theorem ok__law_mixed (T : Tx P K mg base cl cd tT) : Cal P w K mg base "_law_mixed" "_law_mixed" s__law_mixed ["_law_src", "_law_things"] 2 (w__law_mixed cl) := cal_of T.tb T.t.f__law_mixed (fun _ _ _ _ _ _ us hl => match us, hl with | [_, _], _ => rfl) fun f fd F => fg__law_mixed T F
theorem sc__law_names : FnScope ["_law_src", "_law_many", "_law_letters", "_law_stem", "_law_at", "_law_k", "_law_letter"] ["_law_src", "_law_many"] (defScope s__law_names) := ⟨rfl, rfl, rfl, by decide +kernel, rfl, by decide +kernel, by decide +kernel⟩
def g__law_names (cl : Str → Addr) : List (Str × GI) := [("_law_mixed", .fn [(2, [], w__law_mixed cl)] none), ("_law_draw", .fn [(2, [], w__law_draw cl)] none), ("list", .bt), ("_law_of", .fn [(2, [], w__law_of cl)] none), ("len", .bt), ("range", .bt)]
theorem ga__law_names (T : Tx P K mg base cl cd tT) : GAll P w K mg base 2 (g__law_names cl) :=
  (GAll.cons (gok_fn (ShAll.cons ((ok__law_mixed T).g rfl) (by decide) ShAll.nil))
    (GAll.cons (gok_fn (ShAll.cons ((ok__law_draw T).g rfl) (by decide) ShAll.nil))
    (GAll.cons (gok_kit (T.tb.non T.t.z_list) (by decide +kernel) T.t.k_list)
    (GAll.cons (gok_fn (ShAll.cons ((ok__law_of T).g rfl) (by decide) ShAll.nil))
    (GAll.cons (gok_bt (T.tb.non T.t.z_len) (by decide +kernel))
    (GAll.cons (gok_bt (T.tb.non T.t.z_range) (by decide +kernel))
    GAll.nil))))))
theorem fg__law_names (T : Tx P K mg base cl cd tT) {f : Addr} {fd : FuncData} (F : Fun K "_law_names" "_law_names" s__law_names f fd) : FnG P w K mg base 3 f fd ["_law_src", "_law_many"] (w__law_names cl) :=
  fn_okW (o := {}) (cl := []) (mf := []) 80 F sc__law_names (ga__law_names T) (OTok.none : OTok P w K mg base 0 _) (by decide) (fun xs μ R RE h => by match xs, h with | [a__law_src, a__law_many], h => rfl) (fun xs μ R PE h => by match xs, h with | [a__law_src, a__law_many], h => exact Eq.mp (by kernel_rfl) h)
theorem ok__law_names (T : Tx P K mg base cl cd tT) : Cal P w K mg base "_law_names" "_law_names" s__law_names ["_law_src", "_law_many"] 3 (w__law_names cl) := cal_of T.tb T.t.f__law_names (fun _ _ _ _ _ _ us hl => match us, hl with | [_, _], _ => rfl) fun f fd F => fg__law_names T F
theorem sc_Line_gains : FnScope ["self"] ["self"] (defScope s_Line_gains) := ⟨rfl, rfl, rfl, by decide +kernel, rfl, by decide +kernel, by decide +kernel⟩
def g_Line_gains (cl : Str → Addr) : List (Str × GI) := [("list", .bt)]
theorem ga_Line_gains (T : Tx P K mg base cl cd tT) : GAll P w K mg base 1 (g_Line_gains cl) :=
  (GAll.cons (gok_kit (T.tb.non T.t.z_list) (by decide +kernel) T.t.k_list)
    GAll.nil)
def o_Line_gains (cl : Str → Addr) : OT := { a := tab [("own_gains", ae_own_gains cl)] }
theorem ot_Line_gains (T : Tx P K mg base cl cd tT) : OTok P w K mg base 0 (o_Line_gains cl) := ⟨tab_ok (p := fun f e => AEok P w K mg base 0 f e) (all_cons (all_cons (show AEok P w K mg base 0 _ (.fld _) from (all_cons ⟨T.t.cl_Line, T.t.na_Line_own_gains⟩ (all_cons ⟨T.t.cl_Steady, T.t.na_Steady_own_gains⟩ (all_cons ⟨T.t.cl_Read, T.t.na_Read_own_gains⟩ (all_cons ⟨T.t.cl_Send, T.t.na_Send_own_gains⟩ all_nil))))) all_nil) all_nil), fun _ _ h => (by cases h), fun _ _ h => (by cases h), all_nil, all_nil, all_nil, all_nil⟩
theorem fg_Line_gains (T : Tx P K mg base cl cd tT) {f : Addr} {fd : FuncData} (F : Fun K "gains" "Line.gains" s_Line_gains f fd) : FnG P w K mg base 2 f fd ["self"] (w_Line_gains cl) :=
  fn_okW (o := o_Line_gains cl) (cl := []) (mf := ["^"]) 80 F sc_Line_gains (ga_Line_gains T) (ot_Line_gains T : OTok P w K mg base 0 _) (by decide) (fun xs μ R RE h => by match xs, h with | [a_self], h => rfl) (fun xs μ R PE h => by match xs, h with | [a_self], h => exact Eq.mp (by kernel_rfl) h)
theorem ra_Line_gains (T : Tx P K mg base cl cd tT) (n : Nat) : RunA P w K mg base (cl "Line.gains") 2 1 [] (w_Line_gains cl) := T.t.fm_Line_gains.run (fun fd F => fg_Line_gains T F) (fun fd F => F.binds fun _ _ _ _ _ _ us hl => match us, hl with | [_], _ => rfl) rfl
theorem sc_Line___len__ : FnScope ["self"] ["self"] (defScope s_Line___len__) := ⟨rfl, rfl, rfl, by decide +kernel, rfl, by decide +kernel, by decide +kernel⟩
def g_Line___len__ (cl : Str → Addr) : List (Str × GI) := [("len", .bt)]
theorem ga_Line___len__ (T : Tx P K mg base cl cd tT) : GAll P w K mg base 1 (g_Line___len__ cl) :=
  (GAll.cons (gok_bt (T.tb.non T.t.z_len) (by decide +kernel))
    GAll.nil)
def o_Line___len__ (cl : Str → Addr) : OT := { a := tab [("own_gains", ae_own_gains cl)] }
theorem ot_Line___len__ (T : Tx P K mg base cl cd tT) : OTok P w K mg base 0 (o_Line___len__ cl) := ⟨tab_ok (p := fun f e => AEok P w K mg base 0 f e) (all_cons (all_cons (show AEok P w K mg base 0 _ (.fld _) from (all_cons ⟨T.t.cl_Line, T.t.na_Line_own_gains⟩ (all_cons ⟨T.t.cl_Steady, T.t.na_Steady_own_gains⟩ (all_cons ⟨T.t.cl_Read, T.t.na_Read_own_gains⟩ (all_cons ⟨T.t.cl_Send, T.t.na_Send_own_gains⟩ all_nil))))) all_nil) all_nil), fun _ _ h => (by cases h), fun _ _ h => (by cases h), all_nil, all_nil, all_nil, all_nil⟩
theorem fg_Line___len__ (T : Tx P K mg base cl cd tT) {f : Addr} {fd : FuncData} (F : Fun K "__len__" "Line.__len__" s_Line___len__ f fd) : FnG P w K mg base 2 f fd ["self"] (w_Line___len__ cl) :=
  fn_okW (o := o_Line___len__ cl) (cl := []) (mf := []) 80 F sc_Line___len__ (ga_Line___len__ T) (ot_Line___len__ T : OTok P w K mg base 0 _) (by decide) (fun xs μ R RE h => by match xs, h with | [a_self], h => rfl) (fun xs μ R PE h => by match xs, h with | [a_self], h => exact Eq.mp (by kernel_rfl) h)
theorem ra_Line___len__ (T : Tx P K mg base cl cd tT) (n : Nat) : RunA P w K mg base (cl "Line.__len__") 2 1 [] (w_Line___len__ cl) := T.t.fm_Line___len__.run (fun fd F => fg_Line___len__ T F) (fun fd F => F.binds fun _ _ _ _ _ _ us hl => match us, hl with | [_], _ => rfl) rfl
theorem sc_Line___repr__ : FnScope ["self"] ["self"] (defScope s_Line___repr__) := ⟨rfl, rfl, rfl, by decide +kernel, rfl, by decide +kernel, by decide +kernel⟩
def g_Line___repr__ (cl : Str → Addr) : List (Str × GI) := [("len", .bt)]
theorem ga_Line___repr__ (T : Tx P K mg base cl cd tT) : GAll P w K mg base 1 (g_Line___repr__ cl) :=
  (GAll.cons (gok_bt (T.tb.non T.t.z_len) (by decide +kernel))
    GAll.nil)
def o_Line___repr__ (cl : Str → Addr) : OT := { a := tab [("KIND", ae_KIND cl), ("name", ae_name cl), ("own_gains", ae_own_gains cl)] }
theorem ot_Line___repr__ (T : Tx P K mg base cl cd tT) : OTok P w K mg base 0 (o_Line___repr__ cl) := ⟨tab_ok (p := fun f e => AEok P w K mg base 0 f e) (all_cons (all_cons (show AEok P w K mg base 0 _ (.con _ _) from (all_cons ⟨T.t.cl_Line, con_str T.t.co_Line_KIND⟩ all_nil)) (all_cons (show AEok P w K mg base 0 _ (.con _ _) from (all_cons ⟨T.t.cl_Steady, con_str T.t.co_Steady_KIND⟩ all_nil)) (all_cons (show AEok P w K mg base 0 _ (.con _ _) from (all_cons ⟨T.t.cl_Read, con_str T.t.co_Read_KIND⟩ all_nil)) (all_cons (show AEok P w K mg base 0 _ (.con _ _) from (all_cons ⟨T.t.cl_Send, con_str T.t.co_Send_KIND⟩ all_nil)) all_nil)))) (all_cons (all_cons (show AEok P w K mg base 0 _ (.fld _) from (all_cons ⟨T.t.cl_Line, T.t.na_Line_name⟩ (all_cons ⟨T.t.cl_Steady, T.t.na_Steady_name⟩ (all_cons ⟨T.t.cl_Read, T.t.na_Read_name⟩ (all_cons ⟨T.t.cl_Send, T.t.na_Send_name⟩ all_nil))))) all_nil) (all_cons (all_cons (show AEok P w K mg base 0 _ (.fld _) from (all_cons ⟨T.t.cl_Line, T.t.na_Line_own_gains⟩ (all_cons ⟨T.t.cl_Steady, T.t.na_Steady_own_gains⟩ (all_cons ⟨T.t.cl_Read, T.t.na_Read_own_gains⟩ (all_cons ⟨T.t.cl_Send, T.t.na_Send_own_gains⟩ all_nil))))) all_nil) all_nil))), fun _ _ h => (by cases h), fun _ _ h => (by cases h), all_nil, all_nil, all_nil, all_nil⟩
theorem fg_Line___repr__ (T : Tx P K mg base cl cd tT) {f : Addr} {fd : FuncData} (F : Fun K "__repr__" "Line.__repr__" s_Line___repr__ f fd) : FnG P w K mg base 2 f fd ["self"] (w_Line___repr__ cl) :=
  fn_okW (o := o_Line___repr__ cl) (cl := []) (mf := []) 80 F sc_Line___repr__ (ga_Line___repr__ T) (ot_Line___repr__ T : OTok P w K mg base 0 _) (by decide) (fun xs μ R RE h => by match xs, h with | [a_self], h => rfl) (fun xs μ R PE h => by match xs, h with | [a_self], h => exact Eq.mp (by kernel_rfl) h)
theorem ra_Line___repr__ (T : Tx P K mg base cl cd tT) (n : Nat) : RunA P w K mg base (cl "Line.__repr__") 2 1 [] (w_Line___repr__ cl) := T.t.fm_Line___repr__.run (fun fd F => fg_Line___repr__ T F) (fun fd F => F.binds fun _ _ _ _ _ _ us hl => match us, hl with | [_], _ => rfl) rfl
theorem sc_Line___bool__ : FnScope ["self"] ["self"] (defScope s_Line___bool__) := ⟨rfl, rfl, rfl, by decide +kernel, rfl, by decide +kernel, by decide +kernel⟩
def g_Line___bool__ (cl : Str → Addr) : List (Str × GI) := []
theorem ga_Line___bool__ (T : Tx P K mg base cl cd tT) : GAll P w K mg base 1 (g_Line___bool__ cl) :=
  GAll.nil
theorem fg_Line___bool__ (T : Tx P K mg base cl cd tT) {f : Addr} {fd : FuncData} (F : Fun K "__bool__" "Line.__bool__" s_Line___bool__ f fd) : FnG P w K mg base 2 f fd ["self"] (w_Line___bool__ cl) :=
  fn_okW (o := {}) (cl := []) (mf := []) 80 F sc_Line___bool__ (ga_Line___bool__ T) (OTok.none : OTok P w K mg base 0 _) (by decide) (fun xs μ R RE h => by match xs, h with | [a_self], h => rfl) (fun xs μ R PE h => by match xs, h with | [a_self], h => exact Eq.mp (by kernel_rfl) h)
theorem ra_Line___bool__ (T : Tx P K mg base cl cd tT) (n : Nat) : RunA P w K mg base (cl "Line.__bool__") 2 1 [] (w_Line___bool__ cl) := T.t.fm_Line___bool__.run (fun fd F => fg_Line___bool__ T F) (fun fd F => F.binds fun _ _ _ _ _ _ us hl => match us, hl with | [_], _ => rfl) rfl
theorem sc__law_class_so : FnScope ["_law_line_here", "_law_kind", "_law_name_z", "_law_due", "_law_moved", "_law_again", "_law_shown", "_law_got", "_law_told"] ["_law_line_here", "_law_kind", "_law_name_z", "_law_due"] (defScope s__law_class_so) := ⟨rfl, rfl, rfl, by decide +kernel, rfl, by decide +kernel, by decide +kernel⟩
def g__law_class_so (cl : Str → Addr) : List (Str × GI) := [("range", .bt), ("len", .bt), ("bool", .bt), ("repr", .bt), ("_law_same", .fn [(2, [], w__law_same cl)] none), ("str", .bt)]
theorem ga__law_class_so (T : Tx P K mg base cl cd tT) : GAll P w K mg base 4 (g__law_class_so cl) :=
  (GAll.cons (gok_bt (T.tb.non T.t.z_range) (by decide +kernel))
    (GAll.cons (gok_bt (T.tb.non T.t.z_len) (by decide +kernel))
    (GAll.cons (gok_kit (T.tb.non T.t.z_bool) (by decide +kernel) T.t.k_bool)
    (GAll.cons (gok_bt (T.tb.non T.t.z_repr) (by decide +kernel))
    (GAll.cons (gok_fn (ShAll.cons ((ok__law_same T).g rfl) (by decide) ShAll.nil))
    (GAll.cons (gok_kit (T.tb.non T.t.z_str) (by decide +kernel) T.t.k_str)
    GAll.nil))))))
def o__law_class_so (cl : Str → Addr) : OT := { a := tab [("KIND", ae_KIND cl), ("MOVED", ae_MOVED cl), ("name", ae_name cl)], m := tab [("gains", [⟨[cl "Line", cl "Steady", cl "Read", cl "Send"], 0, [], (w_Line_gains cl)⟩])], lens := len_tab cl, reps := rep_tab cl, bools := bool_tab cl }
theorem ot__law_class_so (T : Tx P K mg base cl cd tT) : OTok P w K mg base 3 (o__law_class_so cl) := ⟨tab_ok (p := fun f e => AEok P w K mg base 3 f e) (all_cons (all_cons (show AEok P w K mg base 3 _ (.con _ _) from (all_cons ⟨T.t.cl_Line, con_str T.t.co_Line_KIND⟩ all_nil)) (all_cons (show AEok P w K mg base 3 _ (.con _ _) from (all_cons ⟨T.t.cl_Steady, con_str T.t.co_Steady_KIND⟩ all_nil)) (all_cons (show AEok P w K mg base 3 _ (.con _ _) from (all_cons ⟨T.t.cl_Read, con_str T.t.co_Read_KIND⟩ all_nil)) (all_cons (show AEok P w K mg base 3 _ (.con _ _) from (all_cons ⟨T.t.cl_Send, con_str T.t.co_Send_KIND⟩ all_nil)) all_nil)))) (all_cons (all_cons (show AEok P w K mg base 3 _ (.con _ _) from (all_cons ⟨T.t.cl_Line, con_bl T.t.co_Line_MOVED⟩ all_nil)) (all_cons (show AEok P w K mg base 3 _ (.con _ _) from (all_cons ⟨T.t.cl_Steady, con_bl T.t.co_Steady_MOVED⟩ all_nil)) (all_cons (show AEok P w K mg base 3 _ (.con _ _) from (all_cons ⟨T.t.cl_Read, con_bl T.t.co_Read_MOVED⟩ all_nil)) (all_cons (show AEok P w K mg base 3 _ (.con _ _) from (all_cons ⟨T.t.cl_Send, con_bl T.t.co_Send_MOVED⟩ all_nil)) all_nil)))) (all_cons (all_cons (show AEok P w K mg base 3 _ (.fld _) from (all_cons ⟨T.t.cl_Line, T.t.na_Line_name⟩ (all_cons ⟨T.t.cl_Steady, T.t.na_Steady_name⟩ (all_cons ⟨T.t.cl_Read, T.t.na_Read_name⟩ (all_cons ⟨T.t.cl_Send, T.t.na_Send_name⟩ all_nil))))) all_nil) all_nil))), fun _ _ h => (by cases h), tab_ok (p := fun m e => MEok P w K mg base 3 m e) (all_cons (all_cons (me_ok (ra_Line_gains T 1) (by decide) (all_cons ⟨T.t.cl_Line, T.t.me_Line_gains⟩ (all_cons ⟨T.t.cl_Steady, T.t.me_Steady_gains⟩ (all_cons ⟨T.t.cl_Read, T.t.me_Read_gains⟩ (all_cons ⟨T.t.cl_Send, T.t.me_Send_gains⟩ all_nil))))) all_nil) all_nil), all_nil, (all_cons (show SEok P w K mg base 3 1 "__len__" _ from (all_cons (T.t.se_Line___len__.ok (ra_Line___len__ T 1) (by decide)) (all_cons (T.t.se_Steady___len__.ok (ra_Line___len__ T 1) (by decide)) (all_cons (T.t.se_Read___len__.ok (ra_Line___len__ T 1) (by decide)) (all_cons (T.t.se_Send___len__.ok (ra_Line___len__ T 1) (by decide)) all_nil))))) all_nil), (all_cons (show SEok P w K mg base 3 1 "__repr__" _ from (all_cons (T.t.se_Line___repr__.ok (ra_Line___repr__ T 1) (by decide)) (all_cons (T.t.se_Steady___repr__.ok (ra_Line___repr__ T 1) (by decide)) (all_cons (T.t.se_Read___repr__.ok (ra_Line___repr__ T 1) (by decide)) (all_cons (T.t.se_Send___repr__.ok (ra_Line___repr__ T 1) (by decide)) all_nil))))) all_nil), (all_cons (show ∃ j, j + 1 ≤ 3 ∧ SEok P w K mg base j 1 "__bool__" _ from ⟨2, by decide, (all_cons (T.t.se_Line___bool__.ok (ra_Line___bool__ T 1) (by decide)) (all_cons (T.t.se_Steady___bool__.ok (ra_Line___bool__ T 1) (by decide)) (all_cons (T.t.se_Read___bool__.ok (ra_Line___bool__ T 1) (by decide)) (all_cons (T.t.se_Send___bool__.ok (ra_Line___bool__ T 1) (by decide)) all_nil))))⟩) all_nil)⟩
theorem fg__law_class_so (T : Tx P K mg base cl cd tT) {f : Addr} {fd : FuncData} (F : Fun K "_law_class_so" "_law_class_so" s__law_class_so f fd) : FnG P w K mg base 5 f fd ["_law_line_here", "_law_kind", "_law_name_z", "_law_due"] (w__law_class_so cl) :=
  fn_okW (o := o__law_class_so cl) (cl := [(190, 4)]) (mf := []) 80 F sc__law_class_so (ga__law_class_so T) (ot__law_class_so T : OTok P w K mg base 3 _) (by decide) (fun xs μ R RE h => by match xs, h with | [a__law_line_here, a__law_kind, a__law_name_z, a__law_due], h => rfl) (fun xs μ R PE h => by match xs, h with | [a__law_line_here, a__law_kind, a__law_name_z, a__law_due], h => exact Eq.mp (by kernel_rfl) h)
theorem ok__law_class_so (T : Tx P K mg base cl cd tT) : Cal P w K mg base "_law_class_so" "_law_class_so" s__law_class_so ["_law_line_here", "_law_kind", "_law_name_z", "_law_due"] 5 (w__law_class_so cl) := cal_of T.tb T.t.f__law_class_so (fun _ _ _ _ _ _ us hl => match us, hl with | [_, _, _, _], _ => rfl) fun f fd F => fg__law_class_so T F
theorem ok_Line (T : Tx P K mg base cl cd tT) (n : Nat) : CalG P w K mg base "Line" 6 n [] (w_Line_new cl) := ((ra_Line___init__ T (n + 1)).make T.t.mk_Line).calg (T.tb.som T.t.nC_Line)
theorem sc_Line_renamed : FnScope ["self", "name"] ["self", "name"] (defScope s_Line_renamed) := ⟨rfl, rfl, rfl, by decide +kernel, rfl, by decide +kernel, by decide +kernel⟩
def g_Line_renamed (cl : Str → Addr) : List (Str × GI) := [("Line", .cls (cl "Line") [] (some (w_Line_new cl)) [] [] []), ("made", .fn [] (some (w_made_any cl)))]
theorem ga_Line_renamed (T : Tx P K mg base cl cd tT) : GAll P w K mg base 8 (g_Line_renamed cl) :=
  (GAll.cons (⟨⟨ShAll.nil, (anyYes (fun n => ok_Line T n) (by decide))⟩, T.tb.som T.t.nC_Line, con_nil, all_nil, (iso_nil T.t.io_Line)⟩)
    (GAll.cons (gok_any (fun n => ok_made T n) (by decide))
    GAll.nil))
def o_Line_renamed (cl : Str → Addr) : OT := { a := tab [("KIND", ae_KIND cl), ("own_gains", ae_own_gains cl)] }
theorem ot_Line_renamed (T : Tx P K mg base cl cd tT) : OTok P w K mg base 0 (o_Line_renamed cl) := ⟨tab_ok (p := fun f e => AEok P w K mg base 0 f e) (all_cons (all_cons (show AEok P w K mg base 0 _ (.con _ _) from (all_cons ⟨T.t.cl_Line, con_str T.t.co_Line_KIND⟩ all_nil)) (all_cons (show AEok P w K mg base 0 _ (.con _ _) from (all_cons ⟨T.t.cl_Steady, con_str T.t.co_Steady_KIND⟩ all_nil)) (all_cons (show AEok P w K mg base 0 _ (.con _ _) from (all_cons ⟨T.t.cl_Read, con_str T.t.co_Read_KIND⟩ all_nil)) (all_cons (show AEok P w K mg base 0 _ (.con _ _) from (all_cons ⟨T.t.cl_Send, con_str T.t.co_Send_KIND⟩ all_nil)) all_nil)))) (all_cons (all_cons (show AEok P w K mg base 0 _ (.fld _) from (all_cons ⟨T.t.cl_Line, T.t.na_Line_own_gains⟩ (all_cons ⟨T.t.cl_Steady, T.t.na_Steady_own_gains⟩ (all_cons ⟨T.t.cl_Read, T.t.na_Read_own_gains⟩ (all_cons ⟨T.t.cl_Send, T.t.na_Send_own_gains⟩ all_nil))))) all_nil) all_nil)), fun _ _ h => (by cases h), fun _ _ h => (by cases h), all_nil, all_nil, all_nil, all_nil⟩
theorem fg_Line_renamed (T : Tx P K mg base cl cd tT) {f : Addr} {fd : FuncData} (F : Fun K "renamed" "Line.renamed" s_Line_renamed f fd) : FnG P w K mg base 9 f fd ["self", "name"] (w_Line_renamed cl) :=
  fn_okW (o := o_Line_renamed cl) (cl := []) (mf := []) 80 F sc_Line_renamed (ga_Line_renamed T) (ot_Line_renamed T : OTok P w K mg base 0 _) (by decide) (fun xs μ R RE h => by match xs, h with | [a_self, a_name], h => rfl) (fun xs μ R PE h => by match xs, h with | [a_self, a_name], h => exact Eq.mp (by kernel_rfl) h)
theorem ra_Line_renamed (T : Tx P K mg base cl cd tT) (n : Nat) : RunA P w K mg base (cl "Line.renamed") 9 2 [] (w_Line_renamed cl) := T.t.fm_Line_renamed.run (fun fd F => fg_Line_renamed T F) (fun fd F => F.binds fun _ _ _ _ _ _ us hl => match us, hl with | [_, _], _ => rfl) rfl
def w_Line_renamed_way0 (cl : Str → Addr) : CT := fun zs μ R PE => match zs with
  | [z0, z1] => w_Line_renamed cl [z0, z1] μ R PE
  | _ => False
theorem ra_Line_renamed_way0 (T : Tx P K mg base cl cd tT) : RunA P w K mg base (cl "Line.renamed") 9 1 ["name"] (w_Line_renamed_way0 cl) := T.t.fm_Line_renamed.runW (n := 1) (ks := ["name"]) (idx := [0, 1]) (fun fd F => fg_Line_renamed T F) (fun _ _ _ _ _ _ us ws h1 h2 => match us, ws, h1, h2 with | [_], [_], _, _ => rfl) (fun zs μ R RE h => by match zs, h with | [z0, z1], h => exact ⟨rfl, h⟩)
theorem sc__law_plus : FnScope ["_law_one", "_law_other"] ["_law_one", "_law_other"] (defScope s__law_plus) := ⟨rfl, rfl, rfl, by decide +kernel, rfl, by decide +kernel, by decide +kernel⟩
def g__law_plus (cl : Str → Addr) : List (Str × GI) := [("_law_low", .fn [(2, [], w__law_low cl)] none)]
theorem ga__law_plus (T : Tx P K mg base cl cd tT) : GAll P w K mg base 2 (g__law_plus cl) :=
  (GAll.cons (gok_fn (ShAll.cons ((ok__law_low T).g rfl) (by decide) ShAll.nil))
    GAll.nil)
theorem fg__law_plus (T : Tx P K mg base cl cd tT) {f : Addr} {fd : FuncData} (F : Fun K "_law_plus" "_law_plus" s__law_plus f fd) : FnG P w K mg base 3 f fd ["_law_one", "_law_other"] (w__law_plus cl) :=
  fn_okW (o := {}) (cl := []) (mf := []) 80 F sc__law_plus (ga__law_plus T) (OTok.none : OTok P w K mg base 0 _) (by decide) (fun xs μ R RE h => by match xs, h with | [a__law_one, a__law_other], h => rfl) (fun xs μ R PE h => by match xs, h with | [a__law_one, a__law_other], h => exact Eq.mp (by kernel_rfl) h)
theorem ok__law_plus (T : Tx P K mg base cl cd tT) : Cal P w K mg base "_law_plus" "_law_plus" s__law_plus ["_law_one", "_law_other"] 3 (w__law_plus cl) := cal_of T.tb T.t.f__law_plus (fun _ _ _ _ _ _ us hl => match us, hl with | [_, _], _ => rfl) fun f fd F => fg__law_plus T F
theorem sc_Line___eq__ : FnScope ["self", "other"] ["self", "other"] (defScope s_Line___eq__) := ⟨rfl, rfl, rfl, by decide +kernel, rfl, by decide +kernel, by decide +kernel⟩
def g_Line___eq__ (cl : Str → Addr) : List (Str × GI) := [("isinstance", .bt), ("Line", .cls (cl "Line") [] none [] [] (iso_Line cl))]
theorem ga_Line___eq__ (T : Tx P K mg base cl cd tT) : GAll P w K mg base 1 (g_Line___eq__ cl) :=
  (GAll.cons (gok_bt (T.tb.non T.t.z_isinstance) (by decide +kernel))
    (GAll.cons (⟨⟨ShAll.nil, anyNo⟩, T.tb.som T.t.nC_Line, con_nil, all_nil, (iso_ok T.t.io_Line (all_cons ⟨T.t.ic_Line, T.t.ko_Line_Line⟩ (all_cons ⟨T.t.ic_Steady, T.t.ko_Steady_Line⟩ (all_cons ⟨T.t.ic_Read, T.t.ko_Read_Line⟩ (all_cons ⟨T.t.ic_Send, T.t.ko_Send_Line⟩ all_nil)))))⟩)
    GAll.nil))
def o_Line___eq__ (cl : Str → Addr) : OT := { a := tab [("KIND", ae_KIND cl), ("name", ae_name cl), ("own_gains", ae_own_gains cl)] }
theorem ot_Line___eq__ (T : Tx P K mg base cl cd tT) : OTok P w K mg base 0 (o_Line___eq__ cl) := ⟨tab_ok (p := fun f e => AEok P w K mg base 0 f e) (all_cons (all_cons (show AEok P w K mg base 0 _ (.con _ _) from (all_cons ⟨T.t.cl_Line, con_str T.t.co_Line_KIND⟩ all_nil)) (all_cons (show AEok P w K mg base 0 _ (.con _ _) from (all_cons ⟨T.t.cl_Steady, con_str T.t.co_Steady_KIND⟩ all_nil)) (all_cons (show AEok P w K mg base 0 _ (.con _ _) from (all_cons ⟨T.t.cl_Read, con_str T.t.co_Read_KIND⟩ all_nil)) (all_cons (show AEok P w K mg base 0 _ (.con _ _) from (all_cons ⟨T.t.cl_Send, con_str T.t.co_Send_KIND⟩ all_nil)) all_nil)))) (all_cons (all_cons (show AEok P w K mg base 0 _ (.fld _) from (all_cons ⟨T.t.cl_Line, T.t.na_Line_name⟩ (all_cons ⟨T.t.cl_Steady, T.t.na_Steady_name⟩ (all_cons ⟨T.t.cl_Read, T.t.na_Read_name⟩ (all_cons ⟨T.t.cl_Send, T.t.na_Send_name⟩ all_nil))))) all_nil) (all_cons (all_cons (show AEok P w K mg base 0 _ (.fld _) from (all_cons ⟨T.t.cl_Line, T.t.na_Line_own_gains⟩ (all_cons ⟨T.t.cl_Steady, T.t.na_Steady_own_gains⟩ (all_cons ⟨T.t.cl_Read, T.t.na_Read_own_gains⟩ (all_cons ⟨T.t.cl_Send, T.t.na_Send_own_gains⟩ all_nil))))) all_nil) all_nil))), fun _ _ h => (by cases h), fun _ _ h => (by cases h), all_nil, all_nil, all_nil, all_nil⟩
theorem fg_Line___eq__ (T : Tx P K mg base cl cd tT) {f : Addr} {fd : FuncData} (F : Fun K "__eq__" "Line.__eq__" s_Line___eq__ f fd) : FnG P w K mg base 2 f fd ["self", "other"] (w_Line___eq__ cl) :=
  fn_okW (o := o_Line___eq__ cl) (cl := []) (mf := []) 80 F sc_Line___eq__ (ga_Line___eq__ T) (ot_Line___eq__ T : OTok P w K mg base 0 _) (by decide) (fun xs μ R RE h => by match xs, h with | [a_self, a_other], h => rfl) (fun xs μ R PE h => by match xs, h with | [a_self, a_other], h => exact Eq.mp (by kernel_rfl) h)
theorem ra_Line___eq__ (T : Tx P K mg base cl cd tT) (n : Nat) : RunA P w K mg base (cl "Line.__eq__") 2 2 [] (w_Line___eq__ cl) := T.t.fm_Line___eq__.run (fun fd F => fg_Line___eq__ T F) (fun fd F => F.binds fun _ _ _ _ _ _ us hl => match us, hl with | [_, _], _ => rfl) rfl
theorem sc_law : FnScope ["_law_script", "_law_src", "_law_turn", "_law_kind", "_law_names_here", "_law_due", "_law_given", "_law_line_here", "_law_late", "_law_same_here", "_law_other", "_law_bent", "_law_pair", "_law_some", "_law_told", "_law_gain_here", "_law_one"] ["_law_script"] (defScope s_law) := ⟨rfl, rfl, rfl, by decide +kernel, rfl, by decide +kernel, by decide +kernel⟩
def g_law (cl : Str → Addr) : List (Str × GI) := [("_law_source", .fn [(1, [], w__law_source cl)] none), ("range", .bt), ("_law_gains", .fn [(2, [], w__law_gains cl)] none), ("_law_line", .fn [(3, [], w__law_line cl)] none), ("Steady", .cls (cl "Steady") [] (some (w_Steady_new cl)) [] [] []), ("Read", .cls (cl "Read") [] (some (w_Read_new cl)) [("MOVED", .bl true)] [] []), ("Send", .cls (cl "Send") [] (some (w_Send_new cl)) [("KIND", .str "send")] [] []), ("_law_same", .fn [(2, [], w__law_same cl)] none), ("_law_of", .fn [(2, [], w__law_of cl)] none), ("_law_names", .fn [(2, [], w__law_names cl)] none), ("_law_draw", .fn [(2, [], w__law_draw cl)] none), ("_law_class_so", .fn [(4, [], w__law_class_so cl)] none), ("Line", .cls (cl "Line") [] (some (w_Line_new cl)) [("KIND", .str "line"), ("MOVED", .bl false)] [] (iso_Line cl)), ("isinstance", .bt), ("len", .bt), ("_law_plus", .fn [(2, [], w__law_plus cl)] none)]
theorem ga_law (T : Tx P K mg base cl cd tT) : GAll P w K mg base 10 (g_law cl) :=
  (GAll.cons (gok_fn (ShAll.cons ((ok__law_source T).g rfl) (by decide) ShAll.nil))
    (GAll.cons (gok_bt (T.tb.non T.t.z_range) (by decide +kernel))
    (GAll.cons (gok_fn (ShAll.cons ((ok__law_gains T).g rfl) (by decide) ShAll.nil))
    (GAll.cons (gok_fn (ShAll.cons ((ok__law_line T).g rfl) (by decide) ShAll.nil))
    (GAll.cons (⟨⟨ShAll.nil, (anyYes (fun n => ok_Steady T n) (by decide))⟩, T.tb.som T.t.nC_Steady, con_nil, all_nil, (iso_nil T.t.io_Steady)⟩)
    (GAll.cons (⟨⟨ShAll.nil, (anyYes (fun n => ok_Read T n) (by decide))⟩, T.tb.som T.t.nC_Read, (con_cons T.t.cc_Read_MOVED con_nil), all_nil, (iso_nil T.t.io_Read)⟩)
    (GAll.cons (⟨⟨ShAll.nil, (anyYes (fun n => ok_Send T n) (by decide))⟩, T.tb.som T.t.nC_Send, (con_cons T.t.cc_Send_KIND con_nil), all_nil, (iso_nil T.t.io_Send)⟩)
    (GAll.cons (gok_fn (ShAll.cons ((ok__law_same T).g rfl) (by decide) ShAll.nil))
    (GAll.cons (gok_fn (ShAll.cons ((ok__law_of T).g rfl) (by decide) ShAll.nil))
    (GAll.cons (gok_fn (ShAll.cons ((ok__law_names T).g rfl) (by decide) ShAll.nil))
    (GAll.cons (gok_fn (ShAll.cons ((ok__law_draw T).g rfl) (by decide) ShAll.nil))
    (GAll.cons (gok_fn (ShAll.cons ((ok__law_class_so T).g rfl) (by decide) ShAll.nil))
    (GAll.cons (⟨⟨ShAll.nil, (anyYes (fun n => ok_Line T n) (by decide))⟩, T.tb.som T.t.nC_Line, (con_cons T.t.cc_Line_KIND (con_cons T.t.cc_Line_MOVED con_nil)), all_nil, (iso_ok T.t.io_Line (all_cons ⟨T.t.ic_Line, T.t.ko_Line_Line⟩ (all_cons ⟨T.t.ic_Steady, T.t.ko_Steady_Line⟩ (all_cons ⟨T.t.ic_Read, T.t.ko_Read_Line⟩ (all_cons ⟨T.t.ic_Send, T.t.ko_Send_Line⟩ all_nil)))))⟩)
    (GAll.cons (gok_bt (T.tb.non T.t.z_isinstance) (by decide +kernel))
    (GAll.cons (gok_bt (T.tb.non T.t.z_len) (by decide +kernel))
    (GAll.cons (gok_fn (ShAll.cons ((ok__law_plus T).g rfl) (by decide) ShAll.nil))
    GAll.nil))))))))))))))))
def o_law (cl : Str → Addr) : OT := { a := tab [("KIND", ae_KIND cl), ("MOVED", ae_MOVED cl)], m := tab [("renamed", [⟨[cl "Line", cl "Steady", cl "Read", cl "Send"], 0, ["name"], (w_Line_renamed_way0 cl)⟩, ⟨[cl "Line", cl "Steady", cl "Read", cl "Send"], 1, [], (w_Line_renamed cl)⟩])], eqs := eq_tab cl, lens := len_tab cl }
theorem ot_law (T : Tx P K mg base cl cd tT) : OTok P w K mg base 9 (o_law cl) := ⟨tab_ok (p := fun f e => AEok P w K mg base 9 f e) (all_cons (all_cons (show AEok P w K mg base 9 _ (.con _ _) from (all_cons ⟨T.t.cl_Line, con_str T.t.co_Line_KIND⟩ all_nil)) (all_cons (show AEok P w K mg base 9 _ (.con _ _) from (all_cons ⟨T.t.cl_Steady, con_str T.t.co_Steady_KIND⟩ all_nil)) (all_cons (show AEok P w K mg base 9 _ (.con _ _) from (all_cons ⟨T.t.cl_Read, con_str T.t.co_Read_KIND⟩ all_nil)) (all_cons (show AEok P w K mg base 9 _ (.con _ _) from (all_cons ⟨T.t.cl_Send, con_str T.t.co_Send_KIND⟩ all_nil)) all_nil)))) (all_cons (all_cons (show AEok P w K mg base 9 _ (.con _ _) from (all_cons ⟨T.t.cl_Line, con_bl T.t.co_Line_MOVED⟩ all_nil)) (all_cons (show AEok P w K mg base 9 _ (.con _ _) from (all_cons ⟨T.t.cl_Steady, con_bl T.t.co_Steady_MOVED⟩ all_nil)) (all_cons (show AEok P w K mg base 9 _ (.con _ _) from (all_cons ⟨T.t.cl_Read, con_bl T.t.co_Read_MOVED⟩ all_nil)) (all_cons (show AEok P w K mg base 9 _ (.con _ _) from (all_cons ⟨T.t.cl_Send, con_bl T.t.co_Send_MOVED⟩ all_nil)) all_nil)))) all_nil)), fun _ _ h => (by cases h), tab_ok (p := fun m e => MEok P w K mg base 9 m e) (all_cons (all_cons (me_ok (ra_Line_renamed_way0 T) (by decide) (all_cons ⟨T.t.cl_Line, T.t.me_Line_renamed⟩ (all_cons ⟨T.t.cl_Steady, T.t.me_Steady_renamed⟩ (all_cons ⟨T.t.cl_Read, T.t.me_Read_renamed⟩ (all_cons ⟨T.t.cl_Send, T.t.me_Send_renamed⟩ all_nil))))) (all_cons (me_ok (ra_Line_renamed T 2) (by decide) (all_cons ⟨T.t.cl_Line, T.t.me_Line_renamed⟩ (all_cons ⟨T.t.cl_Steady, T.t.me_Steady_renamed⟩ (all_cons ⟨T.t.cl_Read, T.t.me_Read_renamed⟩ (all_cons ⟨T.t.cl_Send, T.t.me_Send_renamed⟩ all_nil))))) all_nil)) all_nil), (all_cons (all_cons (T.t.eq_Line.ok (ra_Line___eq__ T 2) (by decide) (all_cons T.t.su_Line_Line (all_cons T.t.su_Steady_Line (all_cons T.t.su_Read_Line (all_cons T.t.su_Send_Line all_nil))))) (all_cons (T.t.eq_Steady.ok (ra_Line___eq__ T 2) (by decide) (all_cons T.t.su_Line_Steady (all_cons T.t.su_Steady_Steady (all_cons T.t.su_Read_Steady (all_cons T.t.su_Send_Steady all_nil))))) (all_cons (T.t.eq_Read.ok (ra_Line___eq__ T 2) (by decide) (all_cons T.t.su_Line_Read (all_cons T.t.su_Steady_Read (all_cons T.t.su_Read_Read (all_cons T.t.su_Send_Read all_nil))))) (all_cons (T.t.eq_Send.ok (ra_Line___eq__ T 2) (by decide) (all_cons T.t.su_Line_Send (all_cons T.t.su_Steady_Send (all_cons T.t.su_Read_Send (all_cons T.t.su_Send_Send all_nil))))) all_nil)))) all_nil), (all_cons (show SEok P w K mg base 9 1 "__len__" _ from (all_cons (T.t.se_Line___len__.ok (ra_Line___len__ T 1) (by decide)) (all_cons (T.t.se_Steady___len__.ok (ra_Line___len__ T 1) (by decide)) (all_cons (T.t.se_Read___len__.ok (ra_Line___len__ T 1) (by decide)) (all_cons (T.t.se_Send___len__.ok (ra_Line___len__ T 1) (by decide)) all_nil))))) all_nil), all_nil, all_nil⟩
theorem fg_law0 (T : Tx P K mg base cl cd tT) {f : Addr} {fd : FuncData} (F : Fun K "law" "law" s_law f fd) : FnG P w K mg base 11 f fd ["_law_script"] (w_law cl) :=
  fn_okW (o := o_law cl) (cl := []) (mf := []) 80 F sc_law (ga_law T) (ot_law T : OTok P w K mg base 9 _) (by decide) (fun xs μ R RE h => by match xs, h with | [a__law_script], h => rfl) (fun xs μ R PE h => by match xs, h with | [a__law_script], h => exact Eq.mp (by kernel_rfl) h)
end Hw
set_option Elab.async false
set_option linter.all false
set_option maxRecDepth 100000
set_option maxHeartbeats 1000000
namespace Hw
open PySem L2 PyProof.Rows
/-! ### what the plain proofs lean on -/
section
variable {s t : Str} {b c : Bool} {x y : D} {xs ys : List D} {μ : Mu} {P : Bool → Prop} {R : D → Prop} {DPk : DP}
theorem q_eqS : cmpW .Eq (.str s) (.str t) P = P (decide (s = t)) := by
  show P (decide (V.str s = V.str t)) = _
  congr 1; rw [Bool.eq_iff_iff]; simp
theorem q_neS : cmpW .NotEq (.str s) (.str t) P = P (!decide (s = t)) := by
  show P (!decide (V.str s = V.str t)) = _
  congr 2; rw [Bool.eq_iff_iff]; simp
theorem q_isN : cmpW .Is x .non P = P (isNon x) := rfl
theorem q_isNot : cmpW .IsNot x .non P = P (!isNon x) := rfl
theorem q_inS {n : Nat} : cmpW .In (.str ⟨#[n]⟩) (.str t) P = P (decide (n ∈ t.cps.toList)) := by
  show (∃ c, (⟨#[n]⟩ : Str) = ⟨#[c]⟩ ∧ P (decide (c ∈ t.cps.toList))) = _
  refine propext ⟨fun ⟨c, e, p⟩ => ?_, fun p => ⟨n, rfl, p⟩⟩
  cases e; exact p
theorem q_itS {K : List D → Prop} : itemsK (.str s) K = K (signs s) := rfl
theorem q_truL : truK (.lst xs) P = P (!xs.isEmpty) := rfl
theorem q_truT : truK (.tup xs) P = P (!xs.isEmpty) := rfl
theorem q_truN : truK .non P = P false := rfl
theorem q_addS : binOk .Add (.str s) (.str t) R = (s.length + t.length ≤ sizeLine ∧ R (.str (s ++ t))) := rfl
theorem q_addT : binOk .Add (.tup xs) (.tup ys) R = (xs.length + ys.length ≤ sizeLine ∧ R (.tup (xs ++ ys))) := rfl
theorem q_addL : binOk .Add (.lst xs) (.lst ys) R = (xs.length + ys.length ≤ sizeLine ∧ R (.lst (xs ++ ys))) := rfl
theorem q_pow {i j : Int} : binOk .Pow (.int i) (.int j) R = (CPow i j ∧ R (.int (i ^ j.toNat))) := rfl
theorem q_repL {k : Int} : binOk .Mult (.lst xs) (.int k) R = ((-(2 ^ 63) ≤ k ∧ k < 2 ^ 63 ∧ xs.length * k.toNat ≤ sizeLine) ∧ R (.lst (List.replicate k.toNat xs).flatten)) := rfl
theorem q_intI {i : Int} : intG [.int i] μ DPk = DPk (.int i) μ := rfl
theorem q_intS : intG [.str s] μ DPk = ∃ n, PySem.intText? s = some n ∧ s.length ≤ 640 ∧ DPk (.int n) μ := rfl
theorem q_strI {i : Int} : strOk [.int i] μ DPk = (i.natAbs.log2 < 1920 ∧ DPk (.str (toString i)) μ) := rfl
theorem q_strS : strOk [.str s] μ DPk = DPk (.str s) μ := rfl
theorem q_lenS : lenOk [.str s] μ DPk = (s.length ≤ sizeLine ∧ DPk (.int s.length) μ) := rfl
theorem q_lenR : lenOk [.rol xs] μ DPk = DPk (.int xs.length) μ := rfl
theorem q_slS {lo hi : Option Int} : slOk (.str s) lo hi R = (s.length ≤ sizeLine ∧ R (.str (cutS s lo hi))) := rfl
theorem q_slT {lo hi : Option Int} : slOk (.tup xs) lo hi R = R (.tup (cutL xs lo hi)) := rfl
theorem q_slL {lo hi : Option Int} : slOk (.lst xs) lo hi R = R (.lst (cutL xs lo hi)) := rfl
theorem q_fmtI {i : Int} {K : Str → Prop} : fmtK (.int i) K = (i.natAbs.log2 < 1920 ∧ K (toString i)) := rfl
theorem q_fmtS {K : Str → Prop} : fmtK (.str s) K = (s.length ≤ sizeLine ∧ K s) := rfl
theorem q_seqT {K : List D → Prop} : seqK (.tup xs) K = K xs := rfl
theorem q_seqL {K : List D → Prop} : seqK (.lst xs) K = K xs := rfl
theorem q_tupB : tupleOk [.lst xs] μ DPk = DPk (.tup xs) μ := rfl
theorem q_all {bs : List Bool} : allOk [.lst (bs.map .bl)] μ DPk = DPk (.bl (bs.all id)) μ := by
  refine propext ⟨fun ⟨cs, e, p⟩ => ?_, fun p => ⟨bs, rfl, p⟩⟩
  have : cs.map D.bl = bs.map D.bl := by simpa using e.symm
  have : cs = bs := by
    have q := congrArg (List.map fun d => match d with | D.bl b => b | _ => false) this
    simpa [List.map_map, Function.comp_def] using q
  rw [← this]; exact p
theorem q_any {bs : List Bool} : anyOk [.lst (bs.map .bl)] μ DPk = DPk (.bl (bs.any id)) μ := by
  refine propext ⟨fun ⟨cs, e, p⟩ => ?_, fun p => ⟨bs, rfl, p⟩⟩
  have : cs.map D.bl = bs.map D.bl := by simpa using e.symm
  have : cs = bs := by
    have q := congrArg (List.map fun d => match d with | D.bl b => b | _ => false) this
    simpa [List.map_map, Function.comp_def] using q
  rw [← this]; exact p
theorem ix_lst {k : Int} {d : D} (e : L2.atI xs k = some d) (h : R d) : ixA μ (.lst xs) (.int k) R := ⟨d, e, h⟩
theorem q_ixL0 : ixA μ (.lst (x :: xs)) (.int 0) R = R x := by
  show (∃ d, L2.atI (x :: xs) 0 = some d ∧ R d) = R x
  have e : L2.atI (x :: xs) 0 = some x := by simp [L2.atI, ixN]
  simp [e]
theorem q_ixL1 : ixA μ (.lst (x :: y :: xs)) (.int 1) R = R y := by
  show (∃ d, L2.atI (x :: y :: xs) 1 = some d ∧ R d) = R y
  have e : L2.atI (x :: y :: xs) 1 = some y := by
    have h : (1 : Int) < (xs.length : Int) + 1 + 1 := by omega
    simp [L2.atI, ixN, h]
  simp [e]
end
theorem q_inB {P : Bool → Prop} {bs : List Bool} : cmpW .In (.bl true) (.lst (bs.map .bl)) P = P (bs.any id) := by
  show (flatD (.bl true) = true ∧ (bs.map D.bl).all flatD = true ∧ P (((bs.map D.bl).map fv).any fun y => eqV y (fv (.bl true)))) = _
  have e1 : (bs.map D.bl).all flatD = true := by simp [flatD]
  have e2 : (((bs.map D.bl).map fv).any fun y => eqV y (fv (.bl true))) = bs.any id := by
    rw [List.map_map, List.any_map]
    congr 1; funext b; cases b <;> rfl
  rw [e1, e2]
  simp [flatD]
theorem pair_py (a b : Int) : toPy (.tup [.int a, .int b]) = some (.tuple [.int a, .int b]) := by simp [toPy, toPyAll]
theorem pair_data (a b : Int) : dataD (.tup [.int a, .int b]) = true := by unfold dataD; rw [pair_py]; rfl
theorem pair_eqv {a b c d : Int} : eqvD (.tup [.int a, .int b]) (.tup [.int c, .int d]) = (decide (a = c) && decide (b = d)) := by
  unfold eqvD
  rw [pair_py, pair_py]
  simp only [PyData.eqv, PyData.eqvAll, Bool.and_true]
  rfl
theorem q_eqP {P : Bool → Prop} {a b c d : Int} : cmpW .Eq (.tup [.int a, .int b]) (.tup [.int c, .int d]) P = P (decide (a = c) && decide (b = d)) := by
  show ((dataD _ = true ∧ dataD _ = true) ∧ P (eqvD _ _)) = _
  rw [pair_data, pair_data, pair_eqv]; simp
theorem q_neP {P : Bool → Prop} {a b c d : Int} : cmpW .NotEq (.tup [.int a, .int b]) (.tup [.int c, .int d]) P = P (!(decide (a = c) && decide (b = d))) := by
  show ((dataD _ = true ∧ dataD _ = true) ∧ P (!eqvD _ _)) = _
  rw [pair_data, pair_data, pair_eqv]; simp
theorem q_wip0 {ds : DS} : wipeD ds [] = ds := rfl
theorem q_wipS {ds : DS} {v : Nat} {vs : List Nat} : wipeD ds (v :: vs) = (wipeD ds vs).set v none := rfl
/-- a joint with one value -/
theorem letK_e {F : DP → Prop} {k : DP} {μ : Mu} (x : D) (h2 : k x μ) (h1 : ∀ k : DP, k x μ → F k) : letK F k := h1 k h2
theorem letB_e {F : (Bool → Mu → Prop) → Prop} {k : Bool → Mu → Prop} {μ : Mu} (x : Bool) (h2 : k x μ) (h1 : ∀ k : Bool → Mu → Prop, k x μ → F k) : letB F k := h1 k h2
/-! ### comprehensions and loops -/
section
variable {turn : D → Mu → (Option D → Mu → Prop) → Prop} {xs : List D} {μ : Mu} {K : List D → Mu → Prop}
/-- a comprehension whose turns leave the store -/
theorem lcW_pure (g : D → Option D) (hl : xs.length ≤ sizeLine) (ht : ∀ x ∈ xs, ∀ m Q, Q (g x) m → turn x m Q) (k : K (xs.filterMap g) μ) : lcW turn xs μ K := by
  refine ⟨hl, fun L nL => ?_⟩
  have gen : ∀ (zs acc : List D), (∀ x ∈ zs, x ∈ xs) → K (acc ++ zs.filterMap g) μ → lcL turn L K zs acc μ := by
    intro zs
    induction zs with
    | nil => intro acc _ k; simpa [lcL] using k
    | cons z zs ih =>
      intro acc hm k
      refine ht z (hm z List.mem_cons_self) _ _ ⟨μ, rfl, nL, ih _ (fun x hx => hm x (List.mem_cons_of_mem _ hx)) ?_⟩
      rw [List.filterMap_cons] at k
      cases e : g z with
      | none => rw [e] at k; simpa [addO] using k
      | some d => rw [e] at k; simpa [addO] using k
  exact gen xs [] (fun _ h => h) (by simpa using k)
theorem lcW_map (g : D → D) (hl : xs.length ≤ sizeLine) (ht : ∀ x ∈ xs, ∀ m Q, Q (some (g x)) m → turn x m Q) (k : K (xs.map g) μ) : lcW turn xs μ K :=
  lcW_pure (fun x => some (g x)) hl ht (by rw [List.filterMap_eq_map']; exact k)
theorem lcW_mapL {α : Type} (f g : α → D) (l : List α) (hl : l.length ≤ sizeLine) (ht : ∀ a ∈ l, ∀ m Q, Q (some (g a)) m → turn (f a) m Q) (k : K (l.map g) μ) : lcW turn (l.map f) μ K := by
  refine ⟨by simpa using hl, fun L nL => ?_⟩
  have gen : ∀ (zs : List α) (acc : List D), (∀ x ∈ zs, x ∈ l) → K (acc ++ zs.map g) μ → lcL turn L K (zs.map f) acc μ := by
    intro zs
    induction zs with
    | nil => intro acc _ k; simpa [lcL] using k
    | cons z zs ih =>
      intro acc hm k
      refine ht z (hm z List.mem_cons_self) _ _ ⟨μ, rfl, nL, ih _ (fun x hx => hm x (List.mem_cons_of_mem _ hx)) ?_⟩
      simpa [addO] using k
  exact gen l [] (fun _ h => h) (by simpa using k)
/-- the store is μ0 but for the draws' cell at s -/
def SrcM (μ0 : Mu) (s : Addr) (μ : Mu) : Prop := ∃ c, SrcC c ∧ μ = mset μ0 s c
theorem SrcM.put {μ0 μ : Mu} {s L : Addr} {c : MD} (h : SrcM μ0 s μ) (n : L ≠ s) : SrcM (mset μ0 L c) s (mset μ L c) := by
  obtain ⟨d, hd, rfl⟩ := h
  exact ⟨d, hd, mset_comm (Ne.symm n)⟩
theorem SrcM.get {μ0 μ : Mu} {s L : Addr} {c : MD} (h : SrcM (mset μ0 L c) s μ) (n : L ≠ s) (n0 : μ0 L = none) : ∃ μ2, μ = mset μ2 L c ∧ μ2 L = none ∧ SrcM μ0 s μ2 := by
  obtain ⟨d, hd, rfl⟩ := h
  exact ⟨mset μ0 s d, mset_comm n, by rw [mset_ne n]; exact n0, d, hd, rfl⟩
/-- a comprehension whose turns draw -/
theorem lcW_src {μ0 : Mu} {s : Addr} (I : Nat → List D → Prop) (hs : SrcM μ0 s μ) (hl : xs.length ≤ sizeLine) (i0 : I 0 [])
    (ht : ∀ i x acc μ1 μ0' Q, xs[i]? = some x → I i acc → SrcM μ0' s μ1 → (∀ o μ2, SrcM μ0' s μ2 → I (i + 1) (addO acc o) → Q o μ2) → turn x μ1 Q) (k : ∀ acc μ', I xs.length acc → SrcM μ0 s μ' → K acc μ') : lcW turn xs μ K := by
  refine ⟨hl, fun L nL => ?_⟩
  have nLs : L ≠ s := fun e => by obtain ⟨d, _, rfl⟩ := hs; rw [e, mset_same] at nL; cases nL
  have n0 : μ0 L = none := by obtain ⟨d, _, rfl⟩ := hs; rwa [mset_ne nLs] at nL
  have gen : ∀ (zs acc : List D) (i : Nat) (m : Mu), xs.drop i = zs → i ≤ xs.length → I i acc → SrcM μ0 s m → m L = none → lcL turn L K zs acc m := by
    intro zs
    induction zs with
    | nil =>
      intro acc i m e hi h hm _
      have : i = xs.length := by
        have := List.drop_eq_nil_iff.mp e
        omega
      subst this
      exact k _ _ h hm
    | cons z zs ih =>
      intro acc i m e hi h hm nm
      have hx : xs[i]? = some z := by
        have := congrArg List.head? e
        rw [List.head?_drop] at this
        simpa using this
      refine ht i z acc _ (mset μ0 L (.lst acc)) _ hx h (hm.put nLs) fun o μ2 h2 q => ?_
      obtain ⟨μ3, e3, n3, h3⟩ := h2.get nLs n0
      refine ⟨μ3, e3, n3, ih _ (i + 1) μ3 ?_ ?_ q h3 n3⟩
      · rw [← List.drop_drop, e]; rfl
      · have := (List.getElem?_eq_some_iff.mp hx).1; omega
  exact gen xs [] 0 μ (by simp) (Nat.zero_le _) i0 hs nL
variable {step : D → DS → Mu → Po → Prop} {Z : Po} {ds : DS}
/-- a loop by what holds at its turns -/
theorem forW_I (I : Nat → DS → Mu → Prop) (h0 : I 0 ds μ) (hs : ∀ i x d m Z2, xs[i]? = some x → I i d m → (∀ d m, I (i + 1) d m → Z2.nx d m) → (∀ d m, I (i + 1) d m → Z2.ct d m) → Z2.bk = Z.nx → Z2.rt = Z.rt → step x d m Z2)
    (hn : ∀ d m, I xs.length d m → Z.nx d m) : forW step Z xs ds μ := by
  have gen : ∀ (zs : List D) (i : Nat) (d : DS) (m : Mu), xs.drop i = zs → i ≤ xs.length → I i d m → forW step Z zs d m := by
    intro zs
    induction zs with
    | nil =>
      intro i d m e hi h
      have : i = xs.length := by
        have := List.drop_eq_nil_iff.mp e
        omega
      subst this
      exact hn _ _ h
    | cons z zs ih =>
      intro i d m e hi h
      have hx : xs[i]? = some z := by
        have := congrArg List.head? e
        rw [List.head?_drop] at this
        simpa using this
      have nxt : ∀ d m, I (i + 1) d m → forW step Z zs d m := fun d m q => ih (i + 1) d m (by rw [← List.drop_drop, e]; rfl) (by have := (List.getElem?_eq_some_iff.mp hx).1; omega) q
      exact hs i z d m _ hx h nxt nxt rfl rfl
  exact gen xs 0 ds μ (by simp) (Nat.zero_le _) h0
end
theorem rngD_get {lo : Int} {n i : Nat} {x : D} (h : (rngD lo n)[i]? = some x) : x = .int (lo + i) ∧ i < n := by
  unfold rngD at h
  rw [List.getElem?_map] at h
  obtain ⟨j, hj, rfl⟩ := Option.map_eq_some_iff.mp h
  have := List.getElem?_eq_some_iff.mp hj
  obtain ⟨h1, h2⟩ := this
  simp at h1 h2
  subst h2
  exact ⟨rfl, h1⟩
/-! ### the draws -/
section
variable {cl : Str → Addr} {μ0 μ : Mu} {s : Addr} {R : DP} {PE : XP}
theorem draw_ok {m : Int} (hs : SrcM μ0 s μ) (h0 : 0 < m) (hl : m.natAbs.log2 < 9000) (k : ∀ z μ', 0 ≤ z → z < m → SrcM μ0 s μ' → R (.int z) μ') : w__law_draw cl [.ref s, .int m] μ R PE := by
  obtain ⟨c, hc, rfl⟩ := hs
  refine draw_i (SrcAt.set hc) ⟨h0, hl⟩ fun z c2 z0 z1 hc2 => ?_
  rw [mset_mset]
  exact k _ _ z0 z1 ⟨c2, hc2, rfl⟩
theorem of_ok {d : D} (hs : SrcM μ0 s μ) (hm : menuD d) (k : ∀ x μ', inD x d → SrcM μ0 s μ' → R x μ') : w__law_of cl [.ref s, d] μ R PE := by
  obtain ⟨c, hc, rfl⟩ := hs
  refine of_i (SrcAt.set hc) hm fun x c2 hx hc2 => ?_
  rw [mset_mset]
  exact k _ _ hx ⟨c2, hc2, rfl⟩
theorem source_ok {ns : List Int} (k : ∀ s μ', μ s = none → SrcM μ s μ' → R (.ref s) μ') : w__law_source cl [.rol (ns.map .int)] μ R PE := ⟨ns, rfl, fun a c n hc => k _ _ n ⟨c, hc, rfl⟩⟩
theorem askT_src {tT : Addr} {q : Str} (n : mu0 tT q s = none) (h : SrcM (mu0 tT q) s μ) : askT tT q μ := by
  obtain ⟨c, hc, rfl⟩ := h
  have : tT ≠ s := by rintro rfl; rw [mu0_at] at n; cases n
  refine ⟨by rw [mset_ne this, mu0_at], fun b q' e => ?_⟩
  by_cases h : b = s
  · subst h; rw [mset_same] at e; obtain ⟨_, _, _, _, _, rfl, _⟩ := hc; cases e
  · rw [mset_ne h] at e; unfold mu0 at e; split at e
    · assumption
    · cases e
/-- equal data that repr shows -/
theorem same_ok {x : D} (h2 : shD x) (h3 : shN x ≤ 60) (h4 : shL x ≤ 16000000) (k : R (.bl true) μ) : w__law_same cl [x, x] μ R PE := same_v rfl h2 h4 h3 k
theorem same_eq {x y : D} (e : y = x) (h2 : shD x) (h3 : shN x ≤ 60) (h4 : shL x ≤ 16000000) (k : R (.bl true) μ) : w__law_same cl [x, y] μ R PE := same_v e h2 h4 h3 k
end
theorem log_lt {m : Int} {k : Nat} (h : m.natAbs < 2 ^ k) (hk : k ≤ 9000) (h0 : m ≠ 0) : m.natAbs.log2 < 9000 := by
  have : m.natAbs.log2 < k := (Nat.log2_lt (by omega)).mpr h
  omega
end Hw
set_option Elab.async false
set_option linter.all false
set_option maxRecDepth 100000
set_option maxHeartbeats 1000000
namespace Hw
open PySem L2 PyProof.Rows
/-! ### ratios, plainly -/
theorem abs_nat' (a : Int) : (if a < 0 then -a else a) = (a.natAbs : Int) := by split <;> omega
def sgn (t b : Int) : Int := if b < 0 then -(Int.gcd t b : Int) else Int.gcd t b
def lowT (t b : Int) : Int := t.fdiv (sgn t b)
def lowB (t b : Int) : Int := b.fdiv (sgn t b)
def rD (t b : Int) : D := .tup [.int t, .int b]
def lowD (t b : Int) : D := rD (lowT t b) (lowB t b)
theorem low_one (t : Int) : lowT t 1 = t ∧ lowB t 1 = 1 := by
  have e : sgn t 1 = 1 := by simp [sgn]
  unfold lowT lowB
  rw [e]
  exact ⟨Int.fdiv_one t, by decide⟩
theorem sgn_ok {t b : Int} (h0 : b ≠ 0) (hl : b.natAbs.log2 < 9000) : sgn t b ≠ 0 ∧ (sgn t b).natAbs.log2 < 9000 := by
  have h1 : Int.gcd t b ≠ 0 := fun e => h0 (Int.gcd_eq_zero_iff.mp e).2
  have h2 : Int.gcd t b ≤ b.natAbs := Nat.le_of_dvd (by omega) (Nat.gcd_dvd_right _ _)
  have h3 : (sgn t b).natAbs = Int.gcd t b := by unfold sgn; split <;> simp
  refine ⟨fun e => h1 (by rw [← h3, e]; rfl), ?_⟩
  rw [h3]
  exact (Nat.log2_lt h1).mpr (Nat.lt_of_le_of_lt h2 ((Nat.log2_lt (by omega)).mp hl))
theorem sgn_dvd (t b : Int) : sgn t b ∣ t ∧ sgn t b ∣ b := by
  unfold sgn; split
  · exact ⟨Int.neg_dvd.mpr (Int.gcd_dvd_left ..), Int.neg_dvd.mpr (Int.gcd_dvd_right ..)⟩
  · exact ⟨Int.gcd_dvd_left .., Int.gcd_dvd_right ..⟩
theorem low_le (t b : Int) : (lowT t b).natAbs ≤ t.natAbs ∧ (lowB t b).natAbs ≤ b.natAbs := by
  have h1 := (sgn_dvd t b).1
  have h2 := (sgn_dvd t b).2
  unfold lowT lowB
  rw [Int.fdiv_eq_ediv_of_dvd h1, Int.fdiv_eq_ediv_of_dvd h2]
  exact ⟨Int.natAbs_ediv_le_natAbs _ _, Int.natAbs_ediv_le_natAbs _ _⟩
/-- is it an integer -/
def isIntD : D → Bool
  | .int _ => true
  | _ => false
def isRatioD : D → Bool
  | .tup [.int a, .int b] => decide (1 ≤ b) && decide ((Int.gcd a b : Int) = 1)
  | _ => false
/-- plain, a tuple's items plain -/
def plain2 (d : D) : Prop := plainD d = true ∧ ∀ xs, d = .tup xs → ∀ x ∈ xs, plainD x = true
theorem plain2_int (i : Int) : plain2 (.int i) := ⟨rfl, fun xs e => nomatch e⟩
theorem plain2_pair (i j : Int) : plain2 (.tup [.int i, .int j]) := ⟨rfl, fun xs e x hx => by cases e; simp at hx; rcases hx with rfl | rfl <;> rfl⟩
def ratioOfD (d : D) : Option D := match d with
  | .int i => some (.tup [.int i, .int 1])
  | d => if isRatioD d then some d else none
theorem right_eq {t b : Int} (h : 0 < b) : isRatioD (.tup [.int t, .int b]) = (decide (lowT t b = t) && decide (lowB t b = b)) := by
  have hs : sgn t b = (Int.gcd t b : Int) := by unfold sgn; rw [if_neg (by omega)]
  show (decide (1 ≤ b) && decide ((Int.gcd t b : Int) = 1)) = _
  unfold lowT lowB
  rw [hs, decide_eq_true (show (1 : Int) ≤ b by omega), Bool.true_and]
  have h2 : (Int.gcd t b : Int) ∣ b := Int.gcd_dvd_right ..
  have hg : Int.gcd t b ≠ 0 := fun e => by have := (Int.gcd_eq_zero_iff.mp e).2; omega
  by_cases e : (Int.gcd t b : Int) = 1
  · rw [e, Int.fdiv_one, Int.fdiv_one]
    simp
  · have e2 : b.fdiv (Int.gcd t b : Int) ≠ b := by
      intro q
      rw [Int.fdiv_eq_ediv_of_dvd h2] at q
      have := Int.ediv_mul_cancel h2
      rw [q] at this
      have h3 : b * ((Int.gcd t b : Int) - 1) = 0 := by rw [Int.mul_sub]; omega
      rcases Int.mul_eq_zero.mp h3 with h3 | h3 <;> omega
    simp [e, e2]
/-- a ratio in lowest terms -/
def isR (t b : Int) : Prop := 1 ≤ b ∧ Int.gcd t b = 1
theorem isR_iff {t b : Int} : isRatioD (.tup [.int t, .int b]) = true ↔ isR t b := by
  show (decide (1 ≤ b) && decide ((Int.gcd t b : Int) = 1)) = true ↔ _
  rw [Bool.and_eq_true, decide_eq_true_eq, decide_eq_true_eq]
  unfold isR
  constructor <;> rintro ⟨h1, h2⟩ <;> exact ⟨h1, by omega⟩
theorem isR_one (t : Int) : isR t 1 := ⟨by omega, by simp⟩
theorem low_isR (t : Int) {b : Int} (h : b ≠ 0) : isR (lowT t b) (lowB t b) := by
  have hg : 0 < Int.gcd t b := Nat.pos_of_ne_zero fun e => h (Int.gcd_eq_zero_iff.mp e).2
  have h1 := (sgn_dvd t b).1
  have h2 := (sgn_dvd t b).2
  unfold isR lowT lowB
  rw [Int.fdiv_eq_ediv_of_dvd h1, Int.fdiv_eq_ediv_of_dvd h2]
  have hb : (Int.gcd t b : Int) ∣ b := Int.gcd_dvd_right ..
  have hb2 := Int.ediv_mul_cancel hb
  unfold sgn
  split
  · rw [Int.ediv_neg, Int.ediv_neg, Int.gcd_neg, Int.neg_gcd]
    refine ⟨?_, Int.gcd_ediv_gcd_ediv_gcd hg⟩
    have : b / (Int.gcd t b : Int) < 0 := by
      by_cases q : 0 ≤ b / (Int.gcd t b : Int)
      · have := Int.mul_nonneg q (show (0 : Int) ≤ Int.gcd t b by omega); omega
      · omega
    omega
  · refine ⟨?_, Int.gcd_ediv_gcd_ediv_gcd hg⟩
    by_cases q : b / (Int.gcd t b : Int) ≤ 0
    · have q2 := Int.mul_nonneg (show (0 : Int) ≤ -(b / (Int.gcd t b : Int)) by omega) (show (0 : Int) ≤ Int.gcd t b by omega)
      rw [Int.neg_mul] at q2; omega
    · omega
end Hw
set_option Elab.async false
set_option linter.all false
set_option maxRecDepth 100000
set_option maxHeartbeats 1000000
set_option exponentiation.threshold 2000
namespace Hw
open PySem L2 PyProof.Rows
open _root_.SX (S)
/-! ### texts by their signs -/
theorem S_eq (s : Str) : ∃ l, s = S l := ⟨s.cps.toList, (_root_.SX.S_tl s).symm⟩
theorem signs_S (l : List Nat) : signs (S l) = l.map fun c => D.str ⟨#[c]⟩ := rfl
theorem S_list (l : List Nat) : (S l).cps.toList = l := rfl
theorem S_cut (l : List Nat) (lo hi : Option Int) : cutS (S l) lo hi = Txt.slice (S l) lo hi := _root_.C8.cutS_slice _ _ _
theorem starts_one (l : List Nat) (c : Nat) : Txt.startswith (S l) (S [c]) = (l.head? == some c) := by
  unfold Txt.startswith
  rw [StrLaws.subAt_eq]
  cases l with
  | nil => rfl
  | cons a l =>
    have : (decide (0 + (S [c]).length ≤ (S (a :: l)).length)) = true := by simp [S, Str.length]
    rw [this]
    show (true && ([a] == [c])) = (some a == some c)
    simp
def isDig (c : Nat) : Bool := decide (48 ≤ c) && decide (c ≤ 57)
theorem dig_mem (c : Nat) : decide (c ∈ ("0123456789" : Str).cps.toList) = isDig c := by
  have e : ("0123456789" : Str).cps.toList = [48, 49, 50, 51, 52, 53, 54, 55, 56, 57] := by decide +kernel
  rw [e, Bool.eq_iff_iff]
  simp [isDig]
  omega
/-- digits without leading zeros -/
def canon (l : List Nat) : Bool := !l.isEmpty && (l.all isDig && (!(l.head? == some 48) || l == [48]))
def val (l : List Nat) : Nat := NumText.digitsVal l
theorem canon_iff {l : List Nat} : canon l = true ↔ l ≠ [] ∧ (∀ c ∈ l, 48 ≤ c ∧ c ≤ 57) ∧ (l.head? = some 48 → l = [48]) := by
  unfold canon
  simp only [Bool.and_eq_true, Bool.not_eq_true', List.isEmpty_eq_false_iff, List.all_eq_true, isDig, decide_eq_true_eq, Bool.or_eq_true, beq_iff_eq, beq_eq_false_iff_ne]
  refine and_congr Iff.rfl (and_congr Iff.rfl ?_)
  constructor
  · rintro (h | h) q
    · exact absurd q h
    · exact h
  · intro h
    by_cases q : l.head? = some 48
    · exact .inr (h q)
    · exact .inl q
theorem numL_canon (n : Nat) : canon (TL.numL n) = true := by
  refine canon_iff.mpr ⟨TL.numL_ne n, fun c hc => TL.numL_digits n c hc, ?_⟩
  induction n using Nat.strongRecOn with
  | _ n ih =>
    by_cases h : n < 10
    · rw [TL.numL_lt h]; intro q; simp at q; simp [q]
    · rw [TL.numL_step (by omega)]
      intro q
      have hne := TL.numL_ne (n / 10)
      obtain ⟨c, r, e0⟩ := List.exists_cons_of_ne_nil hne
      have q : (TL.numL (n / 10)).head? = some 48 := by rw [e0] at q ⊢; simpa using q
      have e := ih (n / 10) (by omega) q
      have e2 : TL.numL (n / 10) = TL.numL 0 := by rw [e]; rfl
      have := TL.numL_inj e2
      omega
theorem canon_num {l : List Nat} (h : canon l = true) : TL.numL (val l) = l := by
  obtain ⟨h1, h2, h3⟩ := canon_iff.mp h
  obtain ⟨c, r, rfl⟩ := List.exists_cons_of_ne_nil h1
  have e := NumText.toDigits_digitsVal r.length (c :: r) (by simp) h2 (by
    by_cases hc : c = 48
    · subst hc
      have := h3 rfl
      simp at this
      subst this
      exact .inl rfl
    · exact .inr ⟨c, r, rfl, by have := h2 c (by simp); omega⟩)
  show (Nat.toDigits 10 (NumText.digitsVal (c :: r))).map Char.toNat = _
  rw [e, List.map_map]
  have : ∀ x ∈ c :: r, (Char.toNat ∘ Char.ofNat) x = x := fun x hx => by
    have := h2 x hx
    show (Char.ofNat x).toNat = x
    rw [Char.ofNat, dif_pos (show x.isValidChar by left; omega)]
    rfl
  rw [List.map_congr_left this, List.map_id']
theorem val_num (n : Nat) : val (TL.numL n) = n := TL.numL_val n
theorem canon_int {l : List Nat} (h : canon l = true) (hl : l.length ≤ 640) : intText? (S l) = some ((val l : Nat) : Int) := by
  obtain ⟨h1, h2, _⟩ := canon_iff.mp h
  exact _root_.SX.int_S (by simp only [List.all_eq_true, Bool.and_eq_true, decide_eq_true_eq]; exact h2) h1 (by omega)
/-- the text of a number -/
def intL (i : Int) : List Nat := if i < 0 then 45 :: TL.numL i.natAbs else TL.numL i.natAbs
theorem int_S (i : Int) : Str.ofString (toString i) = S (intL i) := by
  unfold intL
  split
  · next h =>
    obtain ⟨n, rfl⟩ : ∃ n : Nat, i = -((n + 1 : Nat) : Int) := ⟨i.natAbs - 1, by omega⟩
    refine TL.ext_tl ?_
    have e : (toString (-((n + 1 : Nat) : Int)) : String) = "-" ++ toString ((n + 1 : Nat) : Int) := rfl
    rw [e, TL.tl_ofString, String.toList_append, List.map_append, ← TL.tl_ofString (toString ((n + 1 : Nat) : Int)), TL.tl_num]
    simp
    rfl
  · next h =>
    obtain ⟨n, rfl⟩ := Int.eq_ofNat_of_zero_le (Int.not_lt.mp h)
    rw [_root_.SX.num_S]
    rfl
theorem intL_len {i : Int} {k : Nat} (hk : 0 < k) (h : i.natAbs < 10 ^ k) : (intL i).length ≤ k + 1 := by
  have := TL.numL_len hk h
  unfold intL; split
  · simp; omega
  · omega
/-- the text of a ratio -/
def ratL (t b : Int) : List Nat := if b = 1 then intL t else intL t ++ (47 :: intL b)
/-! ### the ratio that a text writes -/
def sg (neg : Bool) (n : Nat) : Int := if neg then -(n : Int) else n
def readS (neg : Bool) (r : List Nat) : Option (Int × Int) := match TL.par [47] [] r with
  | none => if canon r && !(neg && val r == 0) then some (sg neg (val r), 1) else none
  | some (p, q) => if canon p && (canon q && (decide (2 ≤ val q) && Nat.gcd (val p) (val q) == 1)) then some (sg neg (val p), (val q : Int)) else none
def readL : List Nat → Option (Int × Int)
  | 45 :: r => readS true r
  | r => readS false r
/-- with or without a stroke -/
theorem par_cases (r : List Nat) : (47 ∉ r ∧ TL.par [47] [] r = none) ∨ ∃ p q, 47 ∉ p ∧ r = p ++ 47 :: q ∧ TL.par [47] [] r = some (p, q) := by
  by_cases h : 47 ∈ r
  · obtain ⟨p, q, e, hp⟩ := List.eq_append_cons_of_mem h
    refine .inr ⟨p, q, hp, e, ?_⟩
    rw [e]
    simpa using TL.par_part1 (S := []) (acc := []) (rest := q) hp
  · exact .inl ⟨h, TL.par_none1 h⟩
theorem par_cons {c : Nat} (h : c ≠ 47) (r : List Nat) : TL.par [47] [] (c :: r) = (TL.par [47] [] r).map fun x => (c :: x.1, x.2) := by
  rcases par_cases r with ⟨h1, e⟩ | ⟨p, q, h1, e1, e2⟩
  · rw [e, TL.par_none1 (by simp [h1, Ne.symm h])]; rfl
  · rw [e2, e1]
    have := TL.par_part1 (s := 47) (S := []) (p := c :: p) (acc := []) (rest := q) (by simp [h1, Ne.symm h])
    simpa using this
theorem canon_no {l : List Nat} {c : Nat} (h : canon l = true) (hc : c < 48 ∨ 57 < c) : c ∉ l := fun hm => by
  have := (canon_iff.mp h).2.1 c hm; omega
theorem isR_abs {t b : Int} (h : isR t b) : 1 ≤ b ∧ Nat.gcd t.natAbs b.natAbs = 1 := h
/-- what is written is read -/
theorem read_rat {t b : Int} (h : isR t b) : readL (ratL t b) = some (t, b) := by
  obtain ⟨hb, hg⟩ := isR_abs h
  have free : ∀ n : Nat, 47 ∉ TL.numL n := fun n => TL.numL_free (by omega)
  have key : ∀ (neg : Bool) (n : Nat), sg neg n = t → n = t.natAbs → (neg = true → n ≠ 0) → readS neg (if b = 1 then TL.numL n else TL.numL n ++ 47 :: TL.numL b.natAbs) = some (t, b) := by
    intro neg n e e2 e3
    unfold readS
    by_cases hb1 : b = 1
    · rw [if_pos hb1, TL.par_none1 (free n)]
      have hz : (canon (TL.numL n) && !(neg && val (TL.numL n) == 0)) = true := by
        rw [numL_canon, val_num]
        cases neg with
        | false => rfl
        | true => simpa using e3 rfl
      show (if (canon (TL.numL n) && !(neg && val (TL.numL n) == 0)) = true then some (sg neg (val (TL.numL n)), (1 : Int)) else none) = _
      rw [if_pos hz, val_num, e, hb1]
    · rw [if_neg hb1]
      have := TL.par_part1 (s := 47) (S := []) (p := TL.numL n) (acc := []) (rest := TL.numL b.natAbs) (free n)
      simp only [List.nil_append, List.cons_append] at this
      rw [this]
      have hz : (canon (TL.numL n) && (canon (TL.numL b.natAbs) && (decide (2 ≤ val (TL.numL b.natAbs)) && Nat.gcd (val (TL.numL n)) (val (TL.numL b.natAbs)) == 1))) = true := by
        rw [numL_canon, numL_canon, val_num, val_num, e2, hg, decide_eq_true (show 2 ≤ b.natAbs by omega)]
        rfl
      show (if (canon (TL.numL n) && (canon (TL.numL b.natAbs) && (decide (2 ≤ val (TL.numL b.natAbs)) && Nat.gcd (val (TL.numL n)) (val (TL.numL b.natAbs)) == 1))) = true then some (sg neg (val (TL.numL n)), ((val (TL.numL b.natAbs) : Nat) : Int)) else none) = _
      rw [if_pos hz, val_num, val_num, e, show ((b.natAbs : Nat) : Int) = b by omega]
  have hB : intL b = TL.numL b.natAbs := by unfold intL; rw [if_neg (by omega)]
  by_cases ht : t < 0
  · have e : ratL t b = 45 :: (if b = 1 then TL.numL t.natAbs else TL.numL t.natAbs ++ 47 :: TL.numL b.natAbs) := by
      unfold ratL
      rw [hB, show intL t = 45 :: TL.numL t.natAbs by unfold intL; rw [if_pos ht]]
      split <;> rfl
    rw [e]
    exact key true t.natAbs (by simp [sg]; omega) rfl (fun _ => by omega)
  · have e : ratL t b = if b = 1 then TL.numL t.natAbs else TL.numL t.natAbs ++ 47 :: TL.numL b.natAbs := by
      unfold ratL
      rw [hB, show intL t = TL.numL t.natAbs by unfold intL; rw [if_neg ht]]
    have e2 : readL (ratL t b) = readS false (ratL t b) := by
      rw [e]
      have h45 : 45 ∉ TL.numL t.natAbs := TL.numL_free (by omega)
      have hne := TL.numL_ne t.natAbs
      cases q : TL.numL t.natAbs with
      | nil => exact absurd q hne
      | cons c r =>
        have hc : c ≠ 45 := fun e => h45 (by rw [q, e]; simp)
        split
        · unfold readL; split
          · next w => simp at w; exact absurd w.1 hc
          · rfl
        · unfold readL; split
          · next w => simp at w; exact absurd w.1 hc
          · rfl
    rw [e2, e]
    exact key false t.natAbs (by simp [sg]; omega) rfl (fun q => by cases q)
theorem val_lt : ∀ l : List Nat, (∀ c ∈ l, 48 ≤ c ∧ c ≤ 57) → val l < 10 ^ l.length := by
  intro l
  rw [← List.reverse_reverse l]
  generalize l.reverse = r
  induction r with
  | nil => intro _; exact Nat.one_pos
  | cons c r ih =>
    intro h
    rw [List.reverse_cons] at h ⊢
    have h1 := ih (fun d hd => h d (by simp only [List.mem_append]; exact .inl hd))
    have h2 := h c (by simp)
    unfold val at h1 ⊢
    rw [NumText.digitsVal_snoc, List.length_append, List.length_singleton, Nat.pow_succ]
    omega
theorem canon_lt {l : List Nat} (h : canon l = true) : val l < 10 ^ l.length := val_lt l (canon_iff.mp h).2.1
theorem part_none {l : List Nat} (h : 47 ∉ l) : Txt.partition (S l) "/" = (S l, S [], S []) := _root_.SX.partition_none (b := [47]) (by simp) (TL.par_none1 h)
theorem part_some {p q : List Nat} (h : 47 ∉ p) : Txt.partition (S (p ++ 47 :: q)) "/" = (S p, S [47], S q) := _root_.SX.partition_some (b := [47]) (by simp) (by simpa using TL.par_part1 (s := 47) (S := []) (acc := []) (rest := q) h)
theorem slice1 (l : List Nat) : cutS (S l) (some 1) none = S (l.drop 1) := by rw [S_cut, _root_.SX.slice_from (by omega)]; rfl
theorem slice01 (l : List Nat) : cutS (S l) none (some 1) = S (l.take 1) := by rw [S_cut, _root_.SX.slice_to (by omega)]; rfl
theorem S_beq' {a b : List Nat} : decide (S a = S b) = (a == b) := by
  rw [Bool.eq_iff_iff, decide_eq_true_eq, beq_iff_eq]
  exact ⟨_root_.SX.S_inj, fun h => by rw [h]⟩
theorem lit_minus : ("-" : Str) = S [45] := rfl
theorem lit_slash : ("/" : Str) = S [47] := rfl
theorem lit_nil : ("" : Str) = S [] := rfl
theorem log_570 {i : Int} (h : i.natAbs < 10 ^ 570) : i.natAbs.log2 < 1920 := log_600 h
/-- sign and digits -/
def negL (l : List Nat) : Bool := l.head? == some 45
def bodL (l : List Nat) : List Nat := if negL l then l.drop 1 else l
theorem readL_eq (l : List Nat) : readL l = readS (negL l) (bodL l) := by
  cases l with
  | nil => rfl
  | cons c r =>
    by_cases h : c = 45
    · subst h; rfl
    · have e : negL (c :: r) = false := by unfold negL; simpa using h
      unfold bodL
      rw [e]
      unfold readL
      split
      · next w => simp at w; exact absurd w.1 h
      · rfl
theorem canon_hd {l : List Nat} (h : canon l = true) : negL l = false := by
  obtain ⟨h1, h2, _⟩ := canon_iff.mp h
  obtain ⟨c, r, rfl⟩ := List.exists_cons_of_ne_nil h1
  have := h2 c (by simp)
  unfold negL; simp; omega
/-- the text of what is read, told by sign and digits -/
theorem intL_sg {neg : Bool} {l : List Nat} (h : canon l = true) (hz : (neg && val l == 0) = false) : intL (sg neg (val l)) = if neg then 45 :: l else l := by
  have hn := canon_num h
  cases neg with
  | false =>
    unfold intL sg
    simp only [Bool.false_eq_true, if_false]
    rw [if_neg (by omega), Int.natAbs_natCast, hn]
  | true =>
    have hv : val l ≠ 0 := by simpa using hz
    unfold intL sg
    simp only [if_true]
    rw [if_pos (by omega), Int.natAbs_neg, Int.natAbs_natCast, hn]
theorem intL_z : intL 0 = [48] := rfl
theorem sg_abs (neg : Bool) (n : Nat) : (sg neg n).natAbs = n := by unfold sg; split <;> omega
theorem spl_le : ∀ (n : Nat) (q acc : List Nat), q.length ≤ n → ∀ x ∈ TL.spl [47] 0 acc q, x.length ≤ acc.length + q.length := by
  intro n
  induction n with
  | zero =>
    intro q acc h x hx
    have : q = [] := by cases q <;> simp_all
    subst this
    rw [TL.spl_nil] at hx
    simp at hx; subst hx; simp
  | succ n ih =>
    intro q acc h x hx
    rcases par_cases q with ⟨w, _⟩ | ⟨p3, q3, w, rfl, _⟩
    · rw [TL.spl_last1 (S := []) w] at hx
      simp at hx; subst hx; simp
    · have := TL.spl_part1 (s := 47) (S := []) (p := p3) (acc := acc) (rest := q3) w
      simp only [List.nil_append, List.cons_append] at this
      rw [this] at hx
      rcases List.mem_cons.mp hx with rfl | hx
      · simp
      · have := ih q3 [] (by simp at h; omega) x hx
        simp at this ⊢; omega
theorem canon_take {p l : List Nat} (h : canon p = true) (hl : p.length ≤ l.length) : val p < 10 ^ l.length := Nat.lt_of_lt_of_le (canon_lt h) (Nat.pow_le_pow_right (by decide) hl)
theorem read_lt {l : List Nat} {t b : Int} (h : readL l = some (t, b)) : t.natAbs < 10 ^ l.length ∧ b.natAbs < 10 ^ l.length := by
  rw [readL_eq] at h
  have hb : (bodL l).length ≤ l.length := by unfold bodL; split <;> simp
  unfold readS at h
  rcases par_cases (bodL l) with ⟨_, e⟩ | ⟨p, q, _, e2, e⟩
  · rw [e] at h
    simp only [Bool.and_eq_true, Option.ite_none_right_eq_some, Option.some.injEq, Prod.mk.injEq] at h
    obtain ⟨⟨h1, _⟩, rfl, rfl⟩ := h
    rw [sg_abs]
    have hne := (canon_iff.mp h1).1
    have := List.length_pos_iff.mpr hne
    exact ⟨canon_take h1 hb, Nat.lt_of_lt_of_le (show (1 : Int).natAbs < 10 ^ 1 by decide) (Nat.pow_le_pow_right (by decide) (by omega))⟩
  · rw [e] at h
    simp only [Bool.and_eq_true, Option.ite_none_right_eq_some, Option.some.injEq, Prod.mk.injEq] at h
    obtain ⟨⟨h1, h2, _⟩, rfl, rfl⟩ := h
    rw [e2] at hb
    simp at hb
    rw [sg_abs, Int.natAbs_natCast]
    exact ⟨canon_take h1 (by omega), canon_take h2 (by omega)⟩
end Hw
set_option Elab.async false
set_option linter.all false
set_option maxRecDepth 100000
set_option maxHeartbeats 1000000
set_option exponentiation.threshold 2000
namespace Hw
open PySem L2 PyProof.Rows
open _root_.SX (S)
/-! ### attributes, plainly -/
section
variable {f : Str} {C : Addr} {fs : List (Str × D)} {d x : D} {μ : Mu} {PE : XP} {P : DP} {l : List AE}
theorem attrW_mem : ∀ {l : List AE} {ae : AE}, ae ∈ l → aeW f x μ PE P ae → attrW f x μ PE P l
  | [a], ae, h, q => by rw [List.mem_singleton.mp h] at q; exact q
  | a :: b :: r, ae, h, q => by
    rcases List.mem_cons.mp h with e | h
    · subst e; exact .inl q
    · exact .inr (attrW_mem h q)
theorem attr_fld {Cs : List Addr} (h : AE.fld Cs ∈ l) (hC : inC C Cs) (hl : fs.lookup f = some d) (k : P d μ) : attrW f (.obj C fs) μ PE P l := attrW_mem h ⟨hC, d, hl, k⟩
theorem attr_con (h : AE.con [C] d ∈ l) (hl : fs.lookup f = none) (k : P d μ) : attrW f (.obj C fs) μ PE P l := attrW_mem h ⟨rfl, hl, k⟩
theorem attr_fldM {p : Addr} {Cs : List Addr} (h : AE.fld Cs ∈ l) (hC : inC C Cs) (m : μ p = some (.ins C fs)) (hl : fs.lookup f = some d) (k : P d μ) : attrW f (.ref p) μ PE P l := attrW_mem h ⟨C, fs, m, hC, d, hl, k⟩
end
/-! ### names -/
def isLetter (c : Nat) : Bool := decide (97 ≤ c) && decide (c ≤ 122)
theorem letter_mem (c : Nat) : decide (c ∈ ("abcdefghijklmnopqrstuvwxyz" : Str).cps.toList) = isLetter c := by
  have e : ("abcdefghijklmnopqrstuvwxyz" : Str).cps.toList = (List.range 26).map (97 + ·) := by decide +kernel
  rw [e, Bool.eq_iff_iff]
  simp [isLetter]
  constructor
  · rintro ⟨a, h, rfl⟩; omega
  · rintro ⟨h1, h2⟩; exact ⟨c - 97, by omega, by omega⟩
def nameB (l : List Nat) : Bool := decide (1 ≤ l.length) && (decide (l.length ≤ 8) && l.all isLetter)
def isNameD : D → Bool
  | .str s => nameB s.cps.toList
  | _ => false
theorem isNameD_S (l : List Nat) : isNameD (.str (S l)) = nameB l := rfl
theorem nameB_iff {l : List Nat} : nameB l = true ↔ 1 ≤ l.length ∧ l.length ≤ 8 ∧ ∀ c ∈ l, 97 ≤ c ∧ c ≤ 122 := by
  unfold nameB
  simp only [Bool.and_eq_true, decide_eq_true_eq, List.all_eq_true, isLetter]
theorem name_sh {l : List Nat} (h : nameB l = true) : ∀ c ∈ l, c < 128 := fun c hc => by
  have := (nameB_iff.mp h).2.2 c hc; omega
theorem sh_S {l : List Nat} (h : ∀ c ∈ l, c < 128) : shD (.str (S l)) := fun c hc => Nat.lt_of_lt_of_le (h c hc) (by decide)
theorem S_size (l : List Nat) : (S l).cps.size = l.length := by simp [S]
/-! ### kinds of lines -/
inductive Kd where
  | line | steady | read | send
  deriving DecidableEq
def Kd.cls : Kd → Str
  | .line => "Line" | .steady => "Steady" | .read => "Read" | .send => "Send"
def Kd.txt : Kd → Str
  | .line => "line" | .steady => "steady" | .read => "read" | .send => "send"
def Kd.mv : Kd → Bool
  | .line => false | .steady => false | .read => true | .send => true
abbrev Rat2 := Int × Int
def ratD (g : Rat2) : D := rD g.1 g.2
/-- a line -/
def lineD (cl : Str → Addr) (k : Kd) (n : List Nat) (gs : List Rat2) : D := .obj (cl k.cls) [(("name" : Str), .str (S n)), (("own_gains" : Str), .tup (gs.map ratD))]
/-- the ratio of a value, if it is one -/
def ratOf : D → Option Rat2
  | .int i => some (i, 1)
  | .tup [.int a, .int b] => if isRatioD (.tup [.int a, .int b]) then some (a, b) else none
  | _ => none
theorem ratOf_tup (a b : Int) : ratOf (.tup [.int a, .int b]) = if isRatioD (.tup [.int a, .int b]) then some (a, b) else none := rfl
theorem ratOf_eq (d : D) : ratioOfD d = (ratOf d).map ratD := by
  cases d with
  | int i => rfl
  | tup xs =>
    show (if isRatioD (.tup xs) then some (D.tup xs) else none) = _
    match xs with
    | [] => rfl
    | [x] => cases x <;> rfl
    | [x, y] =>
      cases x <;> cases y <;> try rfl
      rw [ratOf_tup]
      cases isRatioD _ <;> rfl
    | x :: y :: z :: r => cases x <;> cases y <;> rfl
  | _ => rfl
theorem ratOf_isR {d : D} {g : Rat2} (h : ratOf d = some g) : isR g.1 g.2 := by
  unfold ratOf at h
  split at h
  · cases h; exact isR_one _
  · split at h
    · next q => cases h; exact isR_iff.mp q
    · cases h
  · cases h
theorem ratOf_rat {t b : Int} (h : isR t b) : ratOf (rD t b) = some (t, b) := by
  unfold rD; rw [ratOf_tup, isR_iff.mpr h]; rfl
theorem ratOf_int (i : Int) : ratOf (.int i) = some (i, 1) := rfl
theorem mapM_some {gs : List D} (h : ∀ g ∈ gs, (ratOf g).isSome = true) : ∃ rs, gs.mapM ratOf = some rs := by
  induction gs with
  | nil => exact ⟨[], rfl⟩
  | cons g gs ih =>
    obtain ⟨rs, e⟩ := ih fun x hx => h x (List.mem_cons_of_mem _ hx)
    obtain ⟨r, e2⟩ := Option.isSome_iff_exists.mp (h g List.mem_cons_self)
    exact ⟨r :: rs, by simp [List.mapM_cons, e, e2]⟩
theorem mapM_map {gs : List D} {rs : List Rat2} (h : gs.mapM ratOf = some rs) : gs.map (fun g => (ratioOfD g).getD .non) = rs.map ratD := by
  induction gs generalizing rs with
  | nil => simp at h; subst h; rfl
  | cons g gs ih =>
    simp only [List.mapM_cons, Option.bind_eq_bind, Option.bind_eq_some_iff, Option.pure_def, Option.some.injEq] at h
    obtain ⟨r, e1, rs', e2, rfl⟩ := h
    rw [List.map_cons, List.map_cons, ih e2, ratOf_eq g, e1]; rfl
end Hw
set_option Elab.async false
set_option linter.all false
set_option maxRecDepth 100000
set_option maxHeartbeats 1000000
set_option exponentiation.threshold 2000
namespace Hw
open PySem L2 PyProof.Rows
open _root_.SX (S)
/-! ### == of data with itself, and of ratios -/
/-- data of at most n layers that == compares -/
def datN (n : Nat) (x : D) : Prop := ∃ p, toPy x = some p ∧ p.canLay0 = true ∧ p.depth ≤ n
def datAll (n : Nat) (xs : List D) : Prop := ∃ ps, toPyAll xs = some ps ∧ PyData.canLayAll0 ps = true ∧ PyData.depthAll ps ≤ n
theorem dat_non (n : Nat) : datN n .non := ⟨.none, rfl, rfl, Nat.zero_le _⟩
theorem dat_bl (n : Nat) (b : Bool) : datN n (.bl b) := ⟨.bool b, rfl, rfl, Nat.zero_le _⟩
theorem dat_int (n : Nat) (i : Int) : datN n (.int i) := ⟨.int i, rfl, rfl, Nat.zero_le _⟩
theorem dat_str (n : Nat) {s : Str} (h : PyData.canLay0 (.str s) = true) : datN n (.str s) := ⟨.str s, rfl, h, Nat.zero_le _⟩
theorem dat_nil (n : Nat) : datAll n [] := ⟨[], rfl, rfl, Nat.zero_le _⟩
theorem dat_cons {n : Nat} {x : D} {xs : List D} (h : datN n x) (h2 : datAll n xs) : datAll n (x :: xs) := by
  obtain ⟨p, e, c, d⟩ := h
  obtain ⟨ps, e2, c2, d2⟩ := h2
  refine ⟨p :: ps, by simp [toPyAll, e, e2], by simp [PyData.canLayAll0, c, c2], ?_⟩
  simp only [PyData.depthAll]; omega
theorem dat_tup {n : Nat} {xs : List D} (h : datAll n xs) : datN (n + 1) (.tup xs) := by
  obtain ⟨ps, e2, c2, d2⟩ := h
  refine ⟨.tuple ps, by simp [toPy, e2], by simpa [PyData.canLay0] using c2, ?_⟩
  simp only [PyData.depth]; omega
theorem dat_lst {n : Nat} {xs : List D} (h : datAll n xs) : datN (n + 1) (.lst xs) := by
  obtain ⟨ps, e2, c2, d2⟩ := h
  refine ⟨.list ps, by simp [toPy, e2], by simpa [PyData.canLay0] using c2, ?_⟩
  simp only [PyData.depth]; omega
theorem dat_of {n : Nat} : ∀ {xs : List D}, (∀ x ∈ xs, datN n x) → datAll n xs
  | [], _ => dat_nil n
  | x :: xs, h => dat_cons (h x List.mem_cons_self) (dat_of fun y hy => h y (List.mem_cons_of_mem _ hy))
theorem dat_data {n : Nat} {x : D} (hn : n ≤ 64) (h : datN n x) : dataD x = true := by
  obtain ⟨p, e, c, d⟩ := h
  unfold dataD
  rw [e]
  simp only [SeqAt.shaped, Bool.and_eq_true, decide_eq_true_eq]
  exact ⟨c, by omega⟩
theorem dat_eqv {n : Nat} {x : D} (h : datN n x) : eqvD x x = true := by
  obtain ⟨p, e, c, d⟩ := h
  unfold eqvD
  rw [e]
  exact SeqAt.eqv_refl p c
theorem eq_refl {n : Nat} {x y : D} {P : Bool → Prop} (hn : n ≤ 64) (h : datN n x) (e : y = x) (k : P true) : cmpW .Eq x y P := by
  subst e
  show (match scal2 y y with | true => P (decide (fv y = fv y)) | false => (dataD y = true ∧ dataD y = true) ∧ P (eqvD y y))
  cases scal2 y y with
  | true => simpa using k
  | false => show _ ∧ _; rw [dat_eqv h]; exact ⟨⟨dat_data hn h, dat_data hn h⟩, k⟩
theorem ne_refl {n : Nat} {x y : D} {P : Bool → Prop} (hn : n ≤ 64) (h : datN n x) (e : y = x) (k : P false) : cmpW .NotEq x y P := by
  subst e
  show (match scal2 y y with | true => P (!decide (fv y = fv y)) | false => (dataD y = true ∧ dataD y = true) ∧ P (!eqvD y y))
  cases scal2 y y with
  | true => simpa using k
  | false => show _ ∧ _; rw [dat_eqv h]; exact ⟨⟨dat_data hn h, dat_data hn h⟩, k⟩
theorem rats_py (gs : List Rat2) : toPyAll (gs.map ratD) = some (gs.map fun g => .tuple [.int g.1, .int g.2]) := by
  induction gs with
  | nil => rfl
  | cons g gs ih => simp [toPyAll, ih, ratD, rD, toPy]
theorem rats_eqv : ∀ gs hs : List Rat2, PyData.eqvAll (gs.map fun g => .tuple [.int g.1, .int g.2]) (hs.map fun g => .tuple [.int g.1, .int g.2]) = decide (gs = hs)
  | [], [] => rfl
  | [], h :: hs => rfl
  | g :: gs, [] => rfl
  | (a, b) :: gs, (c, d) :: hs => by
    simp only [List.map_cons, PyData.eqvAll, PyData.eqv, rats_eqv gs hs, Bool.and_true, List.cons.injEq, Prod.mk.injEq]
    rw [Bool.eq_iff_iff]; simp
theorem dat_rat (n : Nat) (g : Rat2) : datN (n + 1) (ratD g) := dat_tup (dat_cons (dat_int _ _) (dat_cons (dat_int _ _) (dat_nil _)))
theorem dat_rats (n : Nat) (gs : List Rat2) : datAll (n + 1) (gs.map ratD) := dat_of fun x hx => by obtain ⟨g, _, rfl⟩ := List.mem_map.mp hx; exact dat_rat n g
theorem dat_S (n : Nat) {l : List Nat} (h : ∀ c ∈ l, c < 128) : datN n (.str (S l)) := dat_str n (by
  show PyData.strOk (S l) = true
  unfold PyData.strOk
  rw [Array.all_eq_true']
  intro c hc
  have := h c (by simpa [S] using hc)
  exact decide_eq_true (by omega))
theorem q_eqR {P : Bool → Prop} {gs hs : List Rat2} : cmpW .Eq (.tup (gs.map ratD)) (.tup (hs.map ratD)) P = P (decide (gs = hs)) := by
  have e0 : scal2 (.tup (gs.map ratD)) (.tup (hs.map ratD)) = false := by simp [scal2, flatD]
  have d : ∀ gs : List Rat2, dataD (.tup (gs.map ratD)) = true := fun gs => dat_data (n := 2) (by decide) (dat_tup (dat_rats 0 gs))
  have e : eqvD (.tup (gs.map ratD)) (.tup (hs.map ratD)) = decide (gs = hs) := by
    unfold eqvD
    simp only [toPy, rats_py, Option.map_some, PyData.eqv, rats_eqv]
  show (match scal2 (.tup (gs.map ratD)) (.tup (hs.map ratD)) with | true => P (decide (fv (.tup (gs.map ratD)) = fv (.tup (hs.map ratD)))) | false => (dataD (.tup (gs.map ratD)) = true ∧ dataD (.tup (hs.map ratD)) = true) ∧ P (eqvD (.tup (gs.map ratD)) (.tup (hs.map ratD)))) = _
  rw [e0]
  simp only [d, e, and_self, true_and]
theorem q_neR {P : Bool → Prop} {gs hs : List Rat2} : cmpW .NotEq (.tup (gs.map ratD)) (.tup (hs.map ratD)) P = P (!decide (gs = hs)) := by
  have e0 : scal2 (.tup (gs.map ratD)) (.tup (hs.map ratD)) = false := by simp [scal2, flatD]
  have d : ∀ gs : List Rat2, dataD (.tup (gs.map ratD)) = true := fun gs => dat_data (n := 2) (by decide) (dat_tup (dat_rats 0 gs))
  have e : eqvD (.tup (gs.map ratD)) (.tup (hs.map ratD)) = decide (gs = hs) := by
    unfold eqvD
    simp only [toPy, rats_py, Option.map_some, PyData.eqv, rats_eqv]
  show (match scal2 (.tup (gs.map ratD)) (.tup (hs.map ratD)) with | true => P (!decide (fv (.tup (gs.map ratD)) = fv (.tup (hs.map ratD)))) | false => (dataD (.tup (gs.map ratD)) = true ∧ dataD (.tup (hs.map ratD)) = true) ∧ P (!eqvD (.tup (gs.map ratD)) (.tup (hs.map ratD)))) = _
  rw [e0]
  simp only [d, e, and_self, true_and]
theorem q_ixL2 {μ : Mu} {x y z : D} {xs : List D} {R : D → Prop} : ixA μ (.lst (x :: y :: z :: xs)) (.int 2) R = R z := by
  show (∃ d, L2.atI (x :: y :: z :: xs) 2 = some d ∧ R d) = R z
  have e : L2.atI (x :: y :: z :: xs) 2 = some z := by
    have h : (2 : Int) < (xs.length : Int) + 1 + 1 + 1 := by omega
    simp [L2.atI, ixN, h]
  simp [e]
theorem q_ixL3 {μ : Mu} {x0 x1 x2 x3 : D} {xs : List D} {R : D → Prop} : ixA μ (.lst (x0 :: x1 :: x2 :: x3 :: xs)) (.int 3) R = R x3 := by
  show (∃ d, L2.atI (x0 :: x1 :: x2 :: x3 :: xs) 3 = some d ∧ R d) = R x3
  have e : L2.atI (x0 :: x1 :: x2 :: x3 :: xs) 3 = some x3 := by
    have h : (3 : Int) < (xs.length : Int) + 1 + 1 + 1 + 1 := by omega
    simp [L2.atI, ixN, h]
  simp [e]
theorem q_ixL4 {μ : Mu} {x0 x1 x2 x3 x4 : D} {xs : List D} {R : D → Prop} : ixA μ (.lst (x0 :: x1 :: x2 :: x3 :: x4 :: xs)) (.int 4) R = R x4 := by
  show (∃ d, L2.atI (x0 :: x1 :: x2 :: x3 :: x4 :: xs) 4 = some d ∧ R d) = R x4
  have e : L2.atI (x0 :: x1 :: x2 :: x3 :: x4 :: xs) 4 = some x4 := by
    have h : (4 : Int) < (xs.length : Int) + 1 + 1 + 1 + 1 + 1 := by omega
    simp [L2.atI, ixN, h]
  simp [e]
theorem q_ixL5 {μ : Mu} {x0 x1 x2 x3 x4 x5 : D} {xs : List D} {R : D → Prop} : ixA μ (.lst (x0 :: x1 :: x2 :: x3 :: x4 :: x5 :: xs)) (.int 5) R = R x5 := by
  show (∃ d, L2.atI (x0 :: x1 :: x2 :: x3 :: x4 :: x5 :: xs) 5 = some d ∧ R d) = R x5
  have e : L2.atI (x0 :: x1 :: x2 :: x3 :: x4 :: x5 :: xs) 5 = some x5 := by
    have h : (5 : Int) < (xs.length : Int) + 1 + 1 + 1 + 1 + 1 + 1 := by omega
    simp [L2.atI, ixN, h]
  simp [e]
theorem q_ixL6 {μ : Mu} {x0 x1 x2 x3 x4 x5 x6 : D} {xs : List D} {R : D → Prop} : ixA μ (.lst (x0 :: x1 :: x2 :: x3 :: x4 :: x5 :: x6 :: xs)) (.int 6) R = R x6 := by
  show (∃ d, L2.atI (x0 :: x1 :: x2 :: x3 :: x4 :: x5 :: x6 :: xs) 6 = some d ∧ R d) = R x6
  have e : L2.atI (x0 :: x1 :: x2 :: x3 :: x4 :: x5 :: x6 :: xs) 6 = some x6 := by
    have h : (6 : Int) < (xs.length : Int) + 1 + 1 + 1 + 1 + 1 + 1 + 1 := by omega
    simp [L2.atI, ixN, h]
  simp [e]
theorem q_ixL7 {μ : Mu} {x0 x1 x2 x3 x4 x5 x6 x7 : D} {xs : List D} {R : D → Prop} : ixA μ (.lst (x0 :: x1 :: x2 :: x3 :: x4 :: x5 :: x6 :: x7 :: xs)) (.int 7) R = R x7 := by
  show (∃ d, L2.atI (x0 :: x1 :: x2 :: x3 :: x4 :: x5 :: x6 :: x7 :: xs) 7 = some d ∧ R d) = R x7
  have e : L2.atI (x0 :: x1 :: x2 :: x3 :: x4 :: x5 :: x6 :: x7 :: xs) 7 = some x7 := by
    have h : (7 : Int) < (xs.length : Int) + 1 + 1 + 1 + 1 + 1 + 1 + 1 + 1 := by omega
    simp [L2.atI, ixN, h]
  simp [e]
theorem q_ixL8 {μ : Mu} {x0 x1 x2 x3 x4 x5 x6 x7 x8 : D} {xs : List D} {R : D → Prop} : ixA μ (.lst (x0 :: x1 :: x2 :: x3 :: x4 :: x5 :: x6 :: x7 :: x8 :: xs)) (.int 8) R = R x8 := by
  show (∃ d, L2.atI (x0 :: x1 :: x2 :: x3 :: x4 :: x5 :: x6 :: x7 :: x8 :: xs) 8 = some d ∧ R d) = R x8
  have e : L2.atI (x0 :: x1 :: x2 :: x3 :: x4 :: x5 :: x6 :: x7 :: x8 :: xs) 8 = some x8 := by
    have h : (8 : Int) < (xs.length : Int) + 1 + 1 + 1 + 1 + 1 + 1 + 1 + 1 + 1 := by omega
    simp [L2.atI, ixN, h]
  simp [e]
theorem q_ixL9 {μ : Mu} {x0 x1 x2 x3 x4 x5 x6 x7 x8 x9 : D} {xs : List D} {R : D → Prop} : ixA μ (.lst (x0 :: x1 :: x2 :: x3 :: x4 :: x5 :: x6 :: x7 :: x8 :: x9 :: xs)) (.int 9) R = R x9 := by
  show (∃ d, L2.atI (x0 :: x1 :: x2 :: x3 :: x4 :: x5 :: x6 :: x7 :: x8 :: x9 :: xs) 9 = some d ∧ R d) = R x9
  have e : L2.atI (x0 :: x1 :: x2 :: x3 :: x4 :: x5 :: x6 :: x7 :: x8 :: x9 :: xs) 9 = some x9 := by
    have h : (9 : Int) < (xs.length : Int) + 1 + 1 + 1 + 1 + 1 + 1 + 1 + 1 + 1 + 1 := by omega
    simp [L2.atI, ixN, h]
  simp [e]
theorem q_ixL10 {μ : Mu} {x0 x1 x2 x3 x4 x5 x6 x7 x8 x9 x10 : D} {xs : List D} {R : D → Prop} : ixA μ (.lst (x0 :: x1 :: x2 :: x3 :: x4 :: x5 :: x6 :: x7 :: x8 :: x9 :: x10 :: xs)) (.int 10) R = R x10 := by
  show (∃ d, L2.atI (x0 :: x1 :: x2 :: x3 :: x4 :: x5 :: x6 :: x7 :: x8 :: x9 :: x10 :: xs) 10 = some d ∧ R d) = R x10
  have e : L2.atI (x0 :: x1 :: x2 :: x3 :: x4 :: x5 :: x6 :: x7 :: x8 :: x9 :: x10 :: xs) 10 = some x10 := by
    have h : (10 : Int) < (xs.length : Int) + 1 + 1 + 1 + 1 + 1 + 1 + 1 + 1 + 1 + 1 + 1 := by omega
    simp [L2.atI, ixN, h]
  simp [e]
theorem wt {z : Bool} {A B : Prop} (h : z = true) (a : A) : (z = true → A) ∧ (z = false → B) := ⟨fun _ => a, fun e => (by rw [h] at e; cases e)⟩
theorem wf {z : Bool} {A B : Prop} (h : z = false) (b : B) : (z = true → A) ∧ (z = false → B) := ⟨fun e => (by rw [h] at e; cases e), fun _ => b⟩
end Hw
set_option Elab.async false
set_option linter.all false
set_option maxRecDepth 100000
set_option maxHeartbeats 1000000
set_option exponentiation.threshold 2000
namespace Hw
open PySem L2 PyProof.Rows
/-! ### sums and products of ratios -/
/-- a ratio of at most k bits above and below, its bottom above zero -/
def bnd (k : Nat) (r : Rat2) : Prop := 0 < r.2 ∧ r.1.natAbs < 2 ^ k ∧ r.2.natAbs < 2 ^ k
def mulR (a b : Rat2) : Rat2 := (lowT (a.1 * b.1) (a.2 * b.2), lowB (a.1 * b.1) (a.2 * b.2))
def addR (a b : Rat2) : Rat2 := (lowT (a.1 * b.2 + b.1 * a.2) (a.2 * b.2), lowB (a.1 * b.2 + b.1 * a.2) (a.2 * b.2))
def oppR (a : Rat2) : Rat2 := (-a.1, a.2)
def invR (a : Rat2) : Rat2 := (lowT a.2 a.1, lowB a.2 a.1)
theorem bnd.mono {j k : Nat} {r : Rat2} (h : bnd j r) (l : j ≤ k) : bnd k r :=
  ⟨h.1, Nat.lt_of_lt_of_le h.2.1 (Nat.pow_le_pow_right (by decide) l), Nat.lt_of_lt_of_le h.2.2 (Nat.pow_le_pow_right (by decide) l)⟩
theorem pow_mul {a b : Int} {j k : Nat} (ha : a.natAbs < 2 ^ j) (hb : b.natAbs < 2 ^ k) : (a * b).natAbs < 2 ^ (j + k) := by
  rw [Int.natAbs_mul, Nat.pow_add]
  exact Nat.mul_lt_mul'' ha hb
theorem pow_add {a b : Int} {j : Nat} (ha : a.natAbs < 2 ^ j) (hb : b.natAbs < 2 ^ j) : (a + b).natAbs < 2 ^ (j + 1) := by
  have := Int.natAbs_add_le a b
  rw [Nat.pow_succ]; omega
theorem log_p {m : Int} {k : Nat} (h : m.natAbs < 2 ^ k) (hk : k ≤ 9000) (h0 : 0 < m) : m.natAbs.log2 < 9000 := log_lt h hk (by omega)
theorem cmul_p {a b : Int} {j k : Nat} (ha : a.natAbs < 2 ^ j) (hb : b.natAbs < 2 ^ k) (hj : j ≤ 4000) (hk : k ≤ 4000) : CMul a b ∨ CMulW a b := by
  have l : ∀ {m : Int} {k : Nat}, m.natAbs < 2 ^ k → k ≤ 4000 → m.natAbs.log2 ≤ 4000 := fun {m k} h hk => by
    by_cases e : m.natAbs = 0
    · rw [e]; decide
    · exact Nat.le_trans (Nat.le_of_lt ((Nat.log2_lt e).mpr h)) hk
  have h1 := l ha hj
  have h2 := l hb hk
  exact .inr (by
    unfold CMulW
    omega)
theorem low_bnd {t b : Int} {k : Nat} (hb : 0 < b) (h1 : t.natAbs < 2 ^ k) (h2 : b.natAbs < 2 ^ k) : bnd k (lowT t b, lowB t b) := by
  have h := low_le t b
  have r := low_isR t (b := b) (by omega)
  exact ⟨by have := r.1; show 0 < lowB t b; omega, Nat.lt_of_le_of_lt h.1 h1, Nat.lt_of_le_of_lt h.2 h2⟩
theorem mulR_bnd {a b : Rat2} {j k : Nat} (ha : bnd j a) (hb : bnd k b) : bnd (j + k) (mulR a b) := low_bnd (Int.mul_pos ha.1 hb.1) (pow_mul ha.2.1 hb.2.1) (pow_mul ha.2.2 hb.2.2)
theorem addR_bnd {a b : Rat2} {j k : Nat} (ha : bnd j a) (hb : bnd k b) : bnd (j + k + 1) (addR a b) :=
  low_bnd (Int.mul_pos ha.1 hb.1) (pow_add (pow_mul ha.2.1 hb.2.2) (by rw [Nat.add_comm]; exact pow_mul hb.2.1 ha.2.2)) (Nat.lt_trans (pow_mul ha.2.2 hb.2.2) (Nat.pow_lt_pow_right (by decide) (by omega)))
theorem mulR_isR {a b : Rat2} (ha : 0 < a.2) (hb : 0 < b.2) : isR (mulR a b).1 (mulR a b).2 := low_isR _ (by have := Int.mul_pos ha hb; omega)
theorem addR_isR {a b : Rat2} (ha : 0 < a.2) (hb : 0 < b.2) : isR (addR a b).1 (addR a b).2 := low_isR _ (by have := Int.mul_pos ha hb; omega)
theorem mulR_one {a b : Rat2} (ha : a.2 = 1) (hb : b.2 = 1) : mulR a b = (a.1 * b.1, 1) := by
  unfold mulR; rw [ha, hb, Int.one_mul, (low_one _).1, (low_one _).2]
theorem addR_one {a b : Rat2} (ha : a.2 = 1) (hb : b.2 = 1) : addR a b = (a.1 + b.1, 1) := by
  unfold addR; rw [ha, hb, Int.mul_one, Int.mul_one, Int.one_mul, (low_one _).1, (low_one _).2]
/-- the inverse, plainly -/
theorem invR_eq {a : Rat2} (h : isR a.1 a.2) (h0 : a.1 ≠ 0) : invR a = if 0 < a.1 then (a.2, a.1) else (0 - a.2, 0 - a.1) := by
  obtain ⟨t, b⟩ := a
  have hg : Int.gcd b t = 1 := by rw [Int.gcd_comm]; exact h.2
  have h0 : t ≠ 0 := h0
  show (lowT b t, lowB b t) = if 0 < t then (b, t) else (0 - b, 0 - t)
  unfold lowT lowB sgn
  rw [hg]
  by_cases hp : t < 0
  · rw [if_pos hp, if_neg (by omega)]
    simp [Int.fdiv_neg, Int.zero_sub]
  · rw [if_neg hp, if_pos (by omega)]
    simp [Int.fdiv_one]
theorem dvd_gcd1 {b t c : Int} (g : Int.gcd t b = 1) (h : b ∣ t * c) : b ∣ c := by
  have h2 := Int.natAbs_dvd_natAbs.mpr h
  rw [Int.natAbs_mul] at h2
  exact Int.natAbs_dvd_natAbs.mp (Nat.Coprime.dvd_of_dvd_mul_left (show Nat.gcd b.natAbs t.natAbs = 1 by rw [Nat.gcd_comm]; exact g) h2)
/-- canonical ratios that are equal as fractions are equal -/
theorem isR_inj {a b : Rat2} (ha : isR a.1 a.2) (hb : isR b.1 b.2) (e : a.1 * b.2 = b.1 * a.2) : a = b := by
  obtain ⟨t1, b1⟩ := a
  obtain ⟨t2, b2⟩ := b
  obtain ⟨p1, g1⟩ := ha
  obtain ⟨p2, g2⟩ := hb
  have e : t1 * b2 = t2 * b1 := e
  have p1 : 1 ≤ b1 := p1
  have p2 : 1 ≤ b2 := p2
  have g1 : Int.gcd t1 b1 = 1 := g1
  have g2 : Int.gcd t2 b2 = 1 := g2
  have d1 : b1 ∣ b2 := by
    have : b1 ∣ t1 * b2 := e ▸ Int.dvd_mul_left _ _
    exact dvd_gcd1 g1 this
  have d2 : b2 ∣ b1 := by
    have : b2 ∣ t2 * b1 := e ▸ Int.dvd_mul_left _ _
    exact dvd_gcd1 g2 this
  have eb : b1 = b2 := Int.le_antisymm (Int.le_of_dvd (by omega) d1) (Int.le_of_dvd (by omega) d2)
  subst eb
  have : t1 = t2 := Int.eq_of_mul_eq_mul_right (by omega) e
  rw [this]
end Hw
set_option Elab.async false
set_option linter.all false
set_option maxRecDepth 100000
set_option maxHeartbeats 4000000
set_option exponentiation.threshold 2000
namespace Hw
open PySem L2 PyProof.Rows
set_option exponentiation.threshold 2000
local macro_rules | `(tactic| fail "sh") => `(tactic| repeat (first | assumption | with_reducible exact sh_non | with_reducible exact sh_bl | with_reducible exact sh_nil | with_reducible refine sh_cons ?_ ?_ | with_reducible refine sh_tup ?_ | with_reducible refine sh_lst ?_ | (with_reducible refine sh_int ?_; omega) | (with_reducible refine sh_lit ?_; decide +kernel)))
local macro_rules | `(tactic| fail "w") => `(tactic| try simp only [get_0, get_s, set_0, set_s, q_lt, q_le, q_gt, q_ge, q_eqI, q_neI, q_eqS, q_neS, q_isN, q_isNot, q_inS, q_wip0, q_wipS, q_inB, q_eqP, q_neP, q_add, q_sub, q_mul, q_div, q_mod, q_pow, q_addS, q_addT, q_addL, q_repL, q_ix0, q_ix1, q_ixL0, q_ixL1, q_intK, q_truB, q_truI, q_truL, q_truT, q_truN, q_wIf, q_abs, q_lenT, q_lenL, q_lenS, q_lenR, q_intI, q_intS, q_strI, q_strS, q_slS, q_slT, q_slL, q_fmtI, q_fmtS, q_seqT, q_seqL, q_tupB, q_tupK, q_consK, q_nilK, q_itL, q_itT, q_itR, q_itS, letK, letB, letS])
local macro_rules | `(tactic| fail "v") => `(tactic| try simp only [get_0, get_s, set_0, set_s, q_lt, q_le, q_gt, q_ge, q_eqI, q_neI, q_eqS, q_neS, q_isN, q_isNot, q_inS, q_wip0, q_wipS, q_inB, q_eqP, q_neP, q_add, q_sub, q_mul, q_div, q_mod, q_pow, q_addS, q_addT, q_addL, q_repL, q_ix0, q_ix1, q_ixL0, q_ixL1, q_intK, q_truB, q_truI, q_truL, q_truT, q_truN, q_wIf, q_abs, q_lenT, q_lenL, q_lenS, q_lenR, q_intI, q_intS, q_strI, q_strS, q_slS, q_slT, q_slL, q_fmtI, q_fmtS, q_seqT, q_seqL, q_tupB, q_tupK, q_consK, q_nilK, q_itL, q_itT, q_itR, q_itS])
variable {cl : Str → Addr} {tT : Addr} {μ μ0 : Mu} {R : DP} {PE : XP}
theorem llow_ok {t b : Int} (h0 : 0 < b) (hl : b.natAbs.log2 < 9000) (k : R (lowD t b) μ) : w__law_low cl [.int t, .int b] μ R PE := by
  simp only [w__law_low]
  fail "v"
  rw [abs_nat']
  refine ⟨fun m s μ1 => μ1 = μ ∧ ∃ x y : Nat, s = [some (.int t), some (.int b), some (.int x), some (.int y)] ∧ Nat.gcd x y = Int.gcd t b ∧ y = m, b.natAbs, ⟨rfl, t.natAbs, b.natAbs, by rw [show ((b.natAbs : Nat) : Int) = b by omega], rfl, rfl⟩, fun m s μ1 q => ?_⟩
  obtain ⟨rfl, x, y, rfl, hg, rfl⟩ := q
  fail "v"
  refine ⟨fun h1 => ?_, fun h1 => ?_⟩
  · have h1 := of_decide_eq_true h1
    refine ⟨by omega, x % y, Nat.mod_lt _ (by omega), by simp, y, x % y, ?_, ?_, rfl⟩
    · rw [Int.fmod_eq_emod_of_nonneg _ (by omega)]; rfl
    · rw [← hg, Nat.gcd_comm x y, Nat.gcd_rec y x, Nat.gcd_comm]
  · have h1 := of_decide_eq_false h1
    obtain rfl : y = 0 := by omega
    rw [Nat.gcd_zero_right] at hg
    have e : sgn t b = (x : Int) := by unfold sgn; rw [if_neg (by omega), hg]
    have hs := sgn_ok (t := t) (b := b) (by omega) hl
    rw [← e]
    exact ⟨hs, hs, k⟩
/-- a gain that is drawn: a ratio in lowest terms, not great -/
def isGain (t b : Int) : Prop := isR t b ∧ t.natAbs ≤ 10 ^ 9 ∧ b ≤ 6
theorem gain_ok {s : Addr} (hs : SrcM μ0 s μ) (k : ∀ t b μ', isGain t b → SrcM μ0 s μ' → R (rD t b) μ') : w__law_gain cl [.ref s] μ R PE := by
  simp only [w__law_gain]
  refine draw_ok hs (by decide) (by decide) fun z1 μ1 l1 u1 h1 => ?_
  fail "v"
  refine ⟨fun _ => k _ _ _ ⟨isR_one 0, by decide, by decide⟩ h1, fun _ => ⟨fun _ => draw_ok h1 (by decide) (by decide) fun z2 μ2 l2 u2 h2 => k _ _ _ ⟨isR_one _, by omega, by decide⟩ h2, fun _ => ⟨fun _ => ?_, fun _ => ?_⟩⟩⟩
  · refine draw_ok h1 (by decide) (by decide) fun z2 μ2 l2 u2 h2 => ?_
    fail "v"
    refine draw_ok h2 (by decide) (by decide) fun z3 μ3 l3 u3 h3 => ?_
    fail "v"
    have hb : (1 + z3) ≠ 0 := by omega
    have le := low_le (z2 - 6) (1 + z3)
    have ir := low_isR (z2 - 6) hb
    refine llow_ok (by omega) (log_lt (k := 10) (by omega) (by decide) hb) (k _ _ _ ⟨ir, by omega, ?_⟩ h3)
    have := ir.1; omega
  · refine ⟨⟨by decide, by decide, by decide⟩, draw_ok h1 (by decide) (by decide) fun z2 μ2 l2 u2 h2 => ?_⟩
    fail "v"
    refine ⟨⟨by decide, by decide, by decide⟩, ?_⟩
    have u2 : z2 < 1000000000 := u2
    exact k _ _ _ ⟨isR_one _, by show (z2 - 100000000).natAbs ≤ 1000000000; omega, by decide⟩ h2
theorem gains_ok {s : Addr} {m : Int} (h0 : 0 ≤ m) (h1 : m ≤ 1000) (hs : SrcM μ0 s μ) (k : ∀ (gs : List Rat2) μ', (gs.length : Int) = m → (∀ g ∈ gs, isGain g.1 g.2) → SrcM μ0 s μ' → R (.lst (gs.map ratD)) μ') : w__law_gains cl [.ref s, .int m] μ R PE := by
  simp only [w__law_gains]
  fail "v"
  refine ⟨by omega, lcW_src (fun i acc => ∃ rs : List Rat2, acc = rs.map ratD ∧ rs.length = i ∧ ∀ r ∈ rs, isGain r.1 r.2) hs (by rw [rngD_len]; exact Nat.le_trans (show m.toNat ≤ 1000 by omega) (by decide)) ⟨[], rfl, rfl, fun r h => nomatch h⟩ (fun i y acc m3 μ0' Q hy ⟨rs, ea, el, ew⟩ h3 kQ => ?_) fun acc m3 ⟨rs, ea, el, ew⟩ h3 => ?_⟩
  · fail "v"
    refine gain_ok h3 fun t b m4 hw h4 => kQ _ _ h4 ⟨rs ++ [(t, b)], by rw [ea]; simp [addO, ratD], by simp [el], fun r hr => ?_⟩
    rcases List.mem_append.mp hr with hr | hr
    · exact ew r hr
    · rw [List.mem_singleton.mp hr]; exact hw
  · subst ea
    rw [rngD_len] at el
    exact k rs _ (by omega) ew h3
theorem is_name_ok {d : D} (hp : plainD d = true) (hs : ∀ s, d = .str s → s.length ≤ sizeLine) (k : R (.bl (isNameD d)) μ) : w_is_name cl [d] μ R PE := by
  simp only [w_is_name]
  by_cases hb : ∃ l, d = .str (_root_.SX.S l)
  · obtain ⟨l, rfl⟩ := hb
    have hs := hs _ rfl
    have hz : (_root_.SX.S l).length = l.length := _root_.SX.S_len l
    fail "v"
    refine letB_e (μ := μ) (!(decide (1 ≤ l.length) && decide (l.length ≤ 8))) ⟨fun h => ?_, fun h => ?_⟩ fun kk hk => ⟨rfl, fun h => by simp [isB] at h, fun _ => ?_⟩
    · have e : isNameD (.str (_root_.SX.S l)) = false := by
        rw [isNameD_S]; unfold nameB; rw [← Bool.and_assoc, show (decide (1 ≤ l.length) && decide (l.length ≤ 8)) = false by rw [Bool.not_eq_true'] at h; exact h]; rfl
      rw [← e]; exact k
    · rw [signs_S]
      refine lcW_mapL (g := fun c => .bl (isLetter c)) _ l (by rw [← hz]; exact hs) (fun c _ m Q q => ?_) ?_
      · fail "v"
        rw [letter_mem]; exact q
      · rw [show l.map (fun c => D.bl (isLetter c)) = (l.map isLetter).map .bl by rw [List.map_map]; rfl, q_all, List.all_map]
        have e : isNameD (.str (_root_.SX.S l)) = l.all (id ∘ isLetter) := by
          rw [isNameD_S]; unfold nameB; rw [← Bool.and_assoc, show (decide (1 ≤ l.length) && decide (l.length ≤ 8)) = true by rw [Bool.not_eq_false'] at h; exact h]; rfl
        rw [← e]; exact k
    · refine letB_e (μ := μ) (decide (1 ≤ l.length) && decide (l.length ≤ 8)) hk fun kk hk => ⟨hs, fun h => ?_, fun h => ?_⟩
      · rw [hz] at h ⊢
        have h1 : decide (1 ≤ l.length) = true := by simp at h ⊢; omega
        rw [h1, Bool.true_and] at hk
        have e : decide ((l.length : Int) ≤ 8) = decide (l.length ≤ 8) := by rw [Bool.eq_iff_iff]; simp; omega
        rw [e]; exact hk
      · have h1 : decide (1 ≤ l.length) = false := by have q := of_decide_eq_false h; rw [decide_eq_false_iff_not]; omega
        rw [h1, Bool.false_and] at hk; exact hk
  · have hb2 : isB "str" d = false := by
      cases d <;> first | rfl | cases hp | skip
      next s => exact absurd ⟨s.cps.toList, by rw [_root_.SX.S_tl]⟩ hb
    have e : isNameD d = false := by
      cases d <;> first | rfl | skip
      next s => exact absurd ⟨s.cps.toList, by rw [_root_.SX.S_tl]⟩ hb
    refine letB_e (μ := μ) true ⟨fun _ => by rw [← e]; exact k, fun h => (by cases h)⟩ fun kk hk => ⟨hp, ?_⟩
    rw [hb2]
    exact ⟨fun _ => hk, fun h => by cases h⟩
theorem is_integer_ok {d : D} (h : plainD d = true) (k : R (.bl (isIntD d)) μ) : w_is_integer cl [d] μ R PE := by
  simp only [w_is_integer]
  fail "w"
  cases d <;> first | (cases h; done) | simp_all [isB, plainD, q_truB, isIntD]
theorem gcd_ok {a b : Int} (k : R (.int (Int.gcd a b)) μ) : w_common_divisor cl [.int a, .int b] μ R PE := by
  simp only [w_common_divisor]
  fail "w"
  rw [abs_nat', abs_nat']
  refine ⟨fun m s μ1 => μ1 = μ ∧ ∃ x y : Nat, s = [some (.int x), some (.int y)] ∧ Nat.gcd x y = Int.gcd a b ∧ y = m, b.natAbs, ⟨rfl, a.natAbs, b.natAbs, rfl, rfl, rfl⟩, fun m s μ1 q => ?_⟩
  obtain ⟨rfl, x, y, rfl, hg, rfl⟩ := q
  fail "w"
  refine ⟨fun h1 => ?_, fun h1 => ?_⟩
  · have h1 := of_decide_eq_true h1
    refine ⟨by omega, x % y, Nat.mod_lt _ (by omega), by simp, y, x % y, ?_, ?_, rfl⟩
    · rw [Int.fmod_eq_emod_of_nonneg _ (by omega)]; rfl
    · rw [← hg, Nat.gcd_comm x y, Nat.gcd_rec y x, Nat.gcd_comm]
  · have h1 := of_decide_eq_false h1
    obtain rfl : y = 0 := by omega
    rw [← hg, Nat.gcd_zero_right] at k
    exact k
theorem is_ratio_ok {d : D} (hp : plain2 d) (k : R (.bl (isRatioD d)) μ) : w_is_ratio cl [d] μ R PE := by
  obtain ⟨hp, ht⟩ := hp
  simp only [w_is_ratio]
  fail "w"
  by_cases hb : ∃ xs, d = .tup xs
  · obtain ⟨xs, rfl⟩ := hb
    have ht := ht xs rfl
    refine ⟨rfl, fun h => by simp [isB] at h, fun _ => ?_⟩
    fail "w"
    match xs, ht with
    | [], _ => exact ⟨fun _ => ⟨fun _ => k, fun h => by simp at h⟩, fun h => by simp at h⟩
    | [x], _ => exact ⟨fun _ => ⟨fun _ => by cases x <;> exact k, fun h => by simp at h⟩, fun h => by simp at h⟩
    | x :: y :: z :: r, _ =>
      refine ⟨fun _ => ⟨fun _ => by cases x <;> cases y <;> exact k, fun h => by simp at h⟩, fun h => ?_⟩
      simp at h; omega
    | [x, y], ht =>
      have kf : isRatioD (.tup [x, y]) = false → R (.bl false) μ := fun e => by rw [← e]; exact k
      refine ⟨fun h => by simp at h, fun _ => ?_⟩
      fail "w"
      refine is_integer_ok (ht x (by simp)) ?_
      fail "w"
      refine ⟨fun h => ⟨fun _ => ?_, fun h => by simp at h⟩, fun h => is_integer_ok (ht y (by simp)) ?_⟩
      · cases x <;> first | (cases h; done) | exact k
      · fail "w"
        obtain ⟨a, rfl⟩ : ∃ a, x = .int a := by cases x <;> first | exact ⟨_, rfl⟩ | (simp [isIntD] at h)
        refine ⟨fun h => ?_, fun h => ?_⟩
        · cases y <;> first | (cases h; done) | exact k
        · obtain ⟨b, rfl⟩ : ∃ b, y = .int b := by cases y <;> first | exact ⟨_, rfl⟩ | (simp [isIntD] at h)
          fail "w"
          refine ⟨fun h => gcd_ok ?_, fun h => ?_⟩
          · fail "w"
            simpa [isRatioD, h] using k
          · simpa [isRatioD, h] using k
  · have hb2 : isB "tuple" d = false := by cases d <;> first | rfl | (exact absurd ⟨_, rfl⟩ hb) | cases hp
    refine ⟨hp, fun _ => ⟨fun _ => ?_, fun h => by simp at h⟩, fun h => by simp [hb2] at h⟩
    cases d <;> first | exact k | (exact absurd ⟨_, rfl⟩ hb)
theorem is_valued_ok {d : D} (hp : plain2 d) (k : R (.bl (ratOf d).isSome) μ) : w_is_valued cl [d] μ R PE := by
  simp only [w_is_valued]
  refine letK_e (μ := μ) (.bl (ratOf d).isSome) k fun kk hk => is_integer_ok hp.1 ?_
  fail "v"
  refine ⟨fun h => ?_, fun h => is_ratio_ok hp ?_⟩
  · obtain ⟨i, rfl⟩ : ∃ i, d = .int i := by cases d <;> first | exact ⟨_, rfl⟩ | cases h
    exact hk
  · have e : (ratOf d).isSome = isRatioD d := by
      cases d with
      | int i => cases h
      | tup xs =>
        match xs with
        | [] => rfl
        | [x] => cases x <;> rfl
        | [x, y] =>
          cases x <;> cases y <;> try rfl
          rw [ratOf_tup]
          cases isRatioD _ <;> rfl
        | x :: y :: z :: r => cases x <;> cases y <;> rfl
      | _ => rfl
    rw [← e]; exact hk
theorem ratio_of_ok {d : D} (hp : plain2 d) (k : ∀ r, ratioOfD d = some r → R r μ) (ke : ratioOfD d = none → PE (cl "InvalidRatio") [(("given" : Str), d), (("code" : Str), .str "InvalidRatio")] μ) : w_ratio_of cl [d] μ R PE := by
  simp only [w_ratio_of]
  refine is_integer_ok hp.1 ?_
  fail "w"
  refine ⟨fun h => ?_, fun h => is_ratio_ok hp ?_⟩
  · obtain ⟨i, rfl⟩ : ∃ i, d = .int i := by cases d <;> first | exact ⟨_, rfl⟩ | cases h
    exact k _ rfl
  · have e : ratioOfD d = if isRatioD d then some d else none := by cases d <;> first | rfl | cases h
    fail "w"
    refine ⟨fun h2 => ke ?_, fun h2 => k _ ?_⟩
    · rw [e, show isRatioD d = false by simpa using h2]; rfl
    · rw [e, show isRatioD d = true by simpa using h2]; rfl
theorem ratio_of_int {i : Int} (k : R (rD i 1) μ) : w_ratio_of cl [.int i] μ R PE := ratio_of_ok (plain2_int i) (fun r e => by cases e; exact k) (fun e => nomatch e)
theorem ratio_of_rat {t b : Int} (h : isR t b) (k : R (rD t b) μ) : w_ratio_of cl [.tup [.int t, .int b]] μ R PE := by
  have e : ratioOfD (.tup [.int t, .int b]) = some (.tup [.int t, .int b]) := by
    show (if isRatioD _ then some _ else none) = _
    rw [isR_iff.mpr h]; rfl
  exact ratio_of_ok (plain2_pair t b) (fun r q => by rw [e] at q; cases q; exact k) (fun q => by rw [e] at q; cases q)
/-- the first value that is no ratio -/
def firstBad (gs : List D) : Option Nat := gs.findIdx? fun g => (ratOf g).isNone
theorem inC_name (k : Kd) : inC (cl k.cls) (fs_name cl) ∧ inC (cl k.cls) (fs_own_gains cl) := by
  cases k <;> simp [fs_name, fs_own_gains, inC, Kd.cls]
theorem putD_name (C : Addr) (x : D) : putD "name" x [] = [(("name" : Str), x)] := rfl
theorem putD_gains (x y : D) : putD "own_gains" y [(("name" : Str), x)] = [(("name" : Str), x), (("own_gains" : Str), y)] := by
  show (if ("name" : Str) = "own_gains" then _ else _) = _
  rw [if_neg (by decide)]; rfl
theorem line_init {k : Kd} {a : Addr} {x : D} {gs : List D} (hm : μ a = some (.ins (cl k.cls) [])) (hp : plainD x = true) (hs : ∀ s, x = .str s → s.length ≤ sizeLine) (hg : ∀ g ∈ gs, plain2 g) (hl : gs.length ≤ sizeLine)
    (kN : isNameD x = false → PE (cl "InvalidName") [(("given" : Str), x), (("code" : Str), .str "InvalidName")] μ)
    (kG : isNameD x = true → ∀ i, firstBad gs = some i → PE (cl "InvalidGain") [(("at" : Str), .int i), (("code" : Str), .str "InvalidGain")] μ)
    (kk : isNameD x = true → ∀ rs, gs.mapM ratOf = some rs → R .non (mset μ a (.ins (cl k.cls) [(("name" : Str), x), (("own_gains" : Str), .tup (rs.map ratD))]))) : w_Line___init__ cl [.ref a, x, .tup gs] μ R PE := by
  simp only [w_Line___init__]
  refine is_name_ok hp hs ?_
  fail "v"
  refine ⟨fun h => kN (by simpa using h), fun h => ?_⟩
  have hn : isNameD x = true := by simpa using h
  refine forW_I (fun i d m => m = μ ∧ (∀ j g, j < i → gs[j]? = some g → (ratOf g).isSome = true) ∧ ∃ o3 o4, d = [some (.ref a), some x, some (.tup gs), o3, o4]) ⟨rfl, fun j g h => by omega, _, _, rfl⟩ (fun i y d m Z2 hy ⟨em, hgood, o3, o4, ed⟩ knx kct kbk krt => ?_) fun d m ⟨em, hgood, o3, o4, ed⟩ => ?_
  · subst em ed
    obtain ⟨g, hg1, rfl⟩ := enumD_get hy
    fail "v"
    refine is_valued_ok (hg g (List.mem_of_getElem? hg1)) ?_
    fail "v"
    refine ⟨fun h => kG hn i ?_, fun h => knx _ _ ⟨rfl, fun j g2 hj e => ?_, _, _, rfl⟩⟩
    · refine List.findIdx?_eq_some_iff_getElem.mpr ⟨(List.getElem?_eq_some_iff.mp hg1).1, ?_, fun j hj => ?_⟩
      · rw [(List.getElem?_eq_some_iff.mp hg1).2]; cases e : ratOf g <;> simp_all
      · have hj2 : j < gs.length := by have := (List.getElem?_eq_some_iff.mp hg1).1; omega
        have := hgood j gs[j] hj (List.getElem?_eq_getElem hj2)
        cases e : ratOf gs[j] <;> simp_all
    · by_cases e2 : j = i
      · subst e2; rw [hg1] at e; cases e; simpa using h
      · exact hgood j g2 (by omega) e
  · subst em ed
    fail "v"
    have hall : ∀ g ∈ gs, (ratOf g).isSome = true := fun g hg => by
      obtain ⟨j, hj, e⟩ := List.mem_iff_getElem.mp hg
      exact hgood j g (by rw [enumD_len]; exact hj) (by rw [List.getElem?_eq_getElem hj, e])
    obtain ⟨rs, hrs⟩ : ∃ rs, gs.mapM ratOf = some rs := mapM_some hall
    refine ⟨_, _, hm, (inC_name k).1, by decide, ?_⟩
    rw [putD_name (cl k.cls)]
    have e : gs.map (fun g => (ratioOfD g).getD .non) = rs.map ratD := mapM_map hrs
    refine lcW_map (fun g => (ratioOfD g).getD .non) hl (fun g hg2 m Q q => ?_) ?_
    · fail "v"
      refine ratio_of_ok (hg g hg2) (fun r e => ?_) fun e => ?_
      · rw [e] at q; exact q
      · rw [ratOf_eq] at e
        have := hall g hg2
        cases e2 : ratOf g <;> simp_all
    · rw [e]
      fail "v"
      refine ⟨_, _, mset_same, (inC_name k).2, by simp, ?_⟩
      rw [putD_gains, mset_mset]
      exact kk hn rs hrs
def initW (cl : Str → Addr) : Kd → CT
  | .line => w_Line___init___any cl
  | .steady => w_Steady___init___any cl
  | .read => w_Read___init___any cl
  | .send => w_Send___init___any cl
/-- making a line of any class -/
theorem line_new {k : Kd} {x : D} {gs : List D} (hp : plainD x = true) (hs : ∀ s, x = .str s → s.length ≤ sizeLine) (hg : ∀ g ∈ gs, plain2 g) (hl : gs.length ≤ sizeLine)
    (kN : isNameD x = false → PE (cl "InvalidName") [(("given" : Str), x), (("code" : Str), .str "InvalidName")] μ)
    (kG : isNameD x = true → ∀ i, firstBad gs = some i → PE (cl "InvalidGain") [(("at" : Str), .int i), (("code" : Str), .str "InvalidGain")] μ)
    (kk : isNameD x = true → ∀ rs, gs.mapM ratOf = some rs → R (.obj (cl k.cls) [(("name" : Str), x), (("own_gains" : Str), .tup (rs.map ratD))]) μ)
    (W : CT) (hW : W = mkW (cl k.cls) true (initW cl k)) : W (x :: gs) μ R PE := by
  subst hW
  intro p hp0
  have core : ∀ (R' : DP) (PE' : XP), (isNameD x = false → PE' (cl "InvalidName") [(("given" : Str), x), (("code" : Str), .str "InvalidName")] (mset μ p (.ins (cl k.cls) []))) →
      (isNameD x = true → ∀ i, firstBad gs = some i → PE' (cl "InvalidGain") [(("at" : Str), .int i), (("code" : Str), .str "InvalidGain")] (mset μ p (.ins (cl k.cls) []))) →
      (isNameD x = true → ∀ rs, gs.mapM ratOf = some rs → R' .non (mset (mset μ p (.ins (cl k.cls) [])) p (.ins (cl k.cls) [(("name" : Str), x), (("own_gains" : Str), .tup (rs.map ratD))]))) →
      w_Line___init___any cl (.ref p :: x :: gs) (mset μ p (.ins (cl k.cls) [])) R' PE' := fun R' PE' h1 h2 h3 => ⟨by simp, by simp; omega, line_init mset_same hp hs hg hl h1 h2 h3⟩
  have dl : mdel (mset μ p (.ins (cl k.cls) [])) p = μ := by rw [mdel_mset, mdel_id hp0]
  have a1 : isNameD x = false → PE (cl "InvalidName") [(("given" : Str), x), (("code" : Str), .str "InvalidName")] (mdel (mset μ p (.ins (cl k.cls) [])) p) := fun h => by rw [dl]; exact kN h
  have a2 : isNameD x = true → ∀ i, firstBad gs = some i → PE (cl "InvalidGain") [(("at" : Str), .int i), (("code" : Str), .str "InvalidGain")] (mdel (mset μ p (.ins (cl k.cls) [])) p) := fun h i hi => by rw [dl]; exact kG h i hi
  have a3 : isNameD x = true → ∀ rs, gs.mapM ratOf = some rs → (D.non = .non ∧ ∃ fs, (mset (mset μ p (.ins (cl k.cls) [])) p (.ins (cl k.cls) [(("name" : Str), x), (("own_gains" : Str), .tup (rs.map ratD))])) p = some (.ins (cl k.cls) fs) ∧ R (.obj (cl k.cls) fs) (mdel (mset (mset μ p (.ins (cl k.cls) [])) p (.ins (cl k.cls) [(("name" : Str), x), (("own_gains" : Str), .tup (rs.map ratD))])) p)) := fun h rs hrs => ⟨rfl, _, mset_same, by rw [mset_mset, mdel_mset, mdel_id hp0]; exact kk h rs hrs⟩
  have any : ∀ (W2 : CT), (∀ R' PE', seqK (.tup gs) (fun ys1 => w_Line___init___any cl (.ref p :: (x :: (ys1 ++ []))) (mset μ p (.ins (cl k.cls) [])) (fun _ m2 => R' .non m2) PE') → W2 [.ref p, x, .tup gs] (mset μ p (.ins (cl k.cls) [])) R' PE') →
      starW 2 W2 (.ref p :: x :: gs) (mset μ p (.ins (cl k.cls) [])) (fun d m => d = .non ∧ ∃ fs, m p = some (.ins (cl k.cls) fs) ∧ R (.obj (cl k.cls) fs) (mdel m p)) (fun Ca fs m => PE Ca fs (mdel m p)) := fun W2 h => by
    refine ⟨by simp, by simp; omega, h _ _ ?_⟩
    show w_Line___init___any cl (.ref p :: (x :: (gs ++ []))) _ _ _
    rw [List.append_nil]
    exact core _ _ a1 a2 a3
  cases k with
  | line => exact core _ _ a1 a2 a3
  | steady => exact any _ fun R' PE' h => ⟨p, [], rfl, mset_same, h⟩
  | read => exact any _ fun R' PE' h => ⟨p, [], rfl, mset_same, h⟩
  | send => exact any _ fun R' PE' h => ⟨p, [], rfl, mset_same, h⟩
def kdOf : D → Option Kd
  | .str s => if s = "steady" then some .steady else if s = "read" then some .read else if s = "send" then some .send else none
  | _ => none
theorem made_ok {kd x : D} {gs : List D} (hk : plainD kd = true) (hp : plainD x = true) (hs : ∀ s, x = .str s → s.length ≤ sizeLine) (hg : ∀ g ∈ gs, plain2 g) (hl : gs.length ≤ sizeLine)
    (kK : kdOf kd = none → PE (cl "InvalidKind") [(("given" : Str), kd), (("code" : Str), .str "InvalidKind")] μ)
    (kN : ∀ k, kdOf kd = some k → isNameD x = false → PE (cl "InvalidName") [(("given" : Str), x), (("code" : Str), .str "InvalidName")] μ)
    (kG : ∀ k, kdOf kd = some k → isNameD x = true → ∀ i, firstBad gs = some i → PE (cl "InvalidGain") [(("at" : Str), .int i), (("code" : Str), .str "InvalidGain")] μ)
    (kk : ∀ k, kdOf kd = some k → isNameD x = true → ∀ rs, gs.mapM ratOf = some rs → R (.obj (cl k.cls) [(("name" : Str), x), (("own_gains" : Str), .tup (rs.map ratD))]) μ) : w_made_any cl (kd :: x :: gs) μ R PE := by
  refine ⟨by simp, by simp; omega, ?_⟩
  show w_made cl [kd, x, .tup gs] μ R PE
  simp only [w_made]
  have one : ∀ (k : Kd) (W : CT) (Q : DP), kdOf kd = some k → (W = mkW (cl k.cls) true (initW cl k)) → (∀ d, R d μ → Q d μ) → seqK (.tup gs) fun ys => W (x :: (ys ++ [])) μ Q PE := fun k W Q h hW hQ => by
    show W (x :: (gs ++ [])) μ Q PE
    rw [List.append_nil]
    exact line_new hp hs hg hl (kN k h) (kG k h) (fun h1 rs h2 => hQ _ (kk k h h1 rs h2)) W hW
  refine letB_e (μ := μ) (kdOf kd).isNone ⟨fun h => kK (by simpa using h), fun h => ?_⟩ fun kk2 hk2 => ⟨hk, ?_⟩
  · obtain ⟨k, hkd⟩ : ∃ k, kdOf kd = some k := by cases e : kdOf kd <;> simp_all
    obtain ⟨s, rfl⟩ : ∃ s, kd = .str s := by cases kd <;> first | exact ⟨_, rfl⟩ | cases hkd
    fail "v"
    by_cases e1 : s = "steady"
    · subst e1
      exact ⟨fun _ => one .steady _ _ rfl rfl fun d h => h, fun h => by simp at h⟩
    · refine ⟨fun h => absurd (of_decide_eq_true h) e1, fun _ => ?_⟩
      by_cases e2 : s = "read"
      · subst e2
        exact letK_i (fun d m => R d m) (fun d m h => h) fun kk hk => ⟨fun _ => one .read _ _ rfl rfl fun d h => hk _ _ h, fun h => by simp at h⟩
      · by_cases e3 : s = "send"
        · subst e3
          exact letK_i (fun d m => R d m) (fun d m h => h) fun kk hk => ⟨fun h => absurd (of_decide_eq_true h) (by decide), fun _ => one .send _ _ rfl rfl fun d h => hk _ _ h⟩
        · exfalso
          have hkd : (if s = "steady" then some Kd.steady else if s = "read" then some .read else if s = "send" then some .send else none) = some k := hkd
          rw [if_neg e1, if_neg e2, if_neg e3] at hkd
          cases hkd
  · fail "v"
    by_cases hb : ∃ s, kd = .str s
    · obtain ⟨s, rfl⟩ := hb
      refine ⟨fun h => by simp [isB] at h, fun _ => ⟨rfl, rfl, ?_⟩⟩
      have e : (!(([D.str "steady", D.str "read", D.str "send"] : List D).map fv).any fun y => eqV y (fv (.str s))) = (kdOf (.str s)).isNone := by
        simp only [List.map_cons, List.map_nil, List.any_cons, List.any_nil, fv, eqV, kdOf]
        by_cases h1 : s = "steady"
        · subst h1; rfl
        · by_cases h2 : s = "read"
          · subst h2; rfl
          · by_cases h3 : s = "send"
            · subst h3; rfl
            · simp [h1, h2, h3, Ne.symm h1, Ne.symm h2, Ne.symm h3]
      rw [e]; exact hk2
    · have hb2 : isB "str" kd = false := by cases kd <;> first | rfl | exact absurd ⟨_, rfl⟩ hb | cases hk
      have e : (kdOf kd).isNone = true := by cases kd <;> first | rfl | exact absurd ⟨_, rfl⟩ hb
      rw [hb2]; rw [e] at hk2
      exact ⟨fun _ => hk2, fun h => by cases h⟩
theorem law_line_ok {k : Kd} {n : List Nat} {xs : List D} {rs : List Rat2} (hk : k ≠ .line) (hn : nameB n = true) (hp : ∀ x ∈ xs, plain2 x) (hl : xs.length ≤ 11) (e : xs.mapM ratOf = some rs) (h : R (lineD cl k n rs) μ) : w__law_line cl [.str k.txt, .str (_root_.SX.S n), .lst xs] μ R PE := by
  have hnD : isNameD (.str (_root_.SX.S n)) = true := hn
  have hnl : ∀ t, (.str (_root_.SX.S n) : D) = .str t → t.length ≤ sizeLine := fun t e => by
    cases e
    rw [_root_.SX.S_len]
    exact Nat.le_trans (nameB_iff.mp hn).2.1 (by decide)
  have ek : kdOf (.str k.txt) = some k := by
    cases k with
    | line => exact absurd rfl hk
    | _ => rfl
  have no : ∀ i, firstBad xs = some i → False := fun i hi => by
    obtain ⟨x, hx, hb⟩ : ∃ x ∈ xs, ratOf x = none := by
      obtain ⟨h1, h2⟩ := List.findIdx?_eq_some_iff_getElem.mp hi
      exact ⟨_, List.getElem_mem h1, by simpa using h2.1⟩
    clear h hp hl hi
    induction xs generalizing rs with
    | nil => cases hx
    | cons y ys ih =>
      rw [List.mapM_cons] at e
      cases ey : ratOf y with
      | none => rw [ey] at e; cases e
      | some a =>
        cases e2 : ys.mapM ratOf with
        | none => rw [ey, e2] at e; cases e
        | some as =>
          rcases List.mem_cons.mp hx with rfl | hx
          · rw [hb] at ey; cases ey
          · exact ih e2 hx
  have M : w_made_any cl (.str k.txt :: .str (_root_.SX.S n) :: xs) μ R PE := made_ok rfl rfl hnl hp (Nat.le_trans hl (by decide)) (fun h => by rw [ek] at h; cases h) (fun _ _ h => by rw [hnD] at h; cases h) (fun _ _ _ i hi => (no i hi).elim) (fun k2 e2 _ rs2 hrs => by
    rw [e] at hrs; cases hrs
    rw [ek] at e2; cases e2
    exact h)
  simp only [w__law_line]
  clear e no h
  match xs, hl with
  | [], _ =>
    fail "w"
    exact wt rfl (wt rfl M)
  | [x0], _ =>
    fail "w"
    exact wt rfl (wf rfl (wt rfl M))
  | [x0, x1], _ =>
    fail "w"
    exact wt rfl (wf rfl (wf rfl (wt rfl M)))
  | [x0, x1, x2], _ =>
    fail "w"
    simp only [q_ixL2, q_ixL3, q_ixL4, q_ixL5, q_ixL6, q_ixL7, q_ixL8, q_ixL9, q_ixL10]
    exact wt rfl (wf rfl (wf rfl (wf rfl M)))
  | [x0, x1, x2, x3], _ =>
    fail "w"
    simp only [q_ixL2, q_ixL3, q_ixL4, q_ixL5, q_ixL6, q_ixL7, q_ixL8, q_ixL9, q_ixL10]
    exact wf rfl (wt rfl (wt rfl M))
  | [x0, x1, x2, x3, x4], _ =>
    fail "w"
    simp only [q_ixL2, q_ixL3, q_ixL4, q_ixL5, q_ixL6, q_ixL7, q_ixL8, q_ixL9, q_ixL10]
    exact wf rfl (wt rfl (wf rfl (wt rfl M)))
  | [x0, x1, x2, x3, x4, x5], _ =>
    fail "w"
    simp only [q_ixL2, q_ixL3, q_ixL4, q_ixL5, q_ixL6, q_ixL7, q_ixL8, q_ixL9, q_ixL10]
    exact wf rfl (wt rfl (wf rfl (wf rfl M)))
  | [x0, x1, x2, x3, x4, x5, x6], _ =>
    fail "w"
    simp only [q_ixL2, q_ixL3, q_ixL4, q_ixL5, q_ixL6, q_ixL7, q_ixL8, q_ixL9, q_ixL10]
    exact wf rfl (wf rfl (wt rfl M))
  | [x0, x1, x2, x3, x4, x5, x6, x7], _ =>
    fail "w"
    simp only [q_ixL2, q_ixL3, q_ixL4, q_ixL5, q_ixL6, q_ixL7, q_ixL8, q_ixL9, q_ixL10]
    exact wf rfl (wf rfl (wf rfl (wt rfl M)))
  | [x0, x1, x2, x3, x4, x5, x6, x7, x8], _ =>
    fail "w"
    simp only [q_ixL2, q_ixL3, q_ixL4, q_ixL5, q_ixL6, q_ixL7, q_ixL8, q_ixL9, q_ixL10]
    exact wf rfl (wf rfl (wf rfl (wf rfl (wt rfl M))))
  | [x0, x1, x2, x3, x4, x5, x6, x7, x8, x9], _ =>
    fail "w"
    simp only [q_ixL2, q_ixL3, q_ixL4, q_ixL5, q_ixL6, q_ixL7, q_ixL8, q_ixL9, q_ixL10]
    exact wf rfl (wf rfl (wf rfl (wf rfl (wf rfl (wt rfl M)))))
  | [x0, x1, x2, x3, x4, x5, x6, x7, x8, x9, x10], _ =>
    fail "w"
    simp only [q_ixL2, q_ixL3, q_ixL4, q_ixL5, q_ixL6, q_ixL7, q_ixL8, q_ixL9, q_ixL10]
    exact wf rfl (wf rfl (wf rfl (wf rfl (wf rfl (wf rfl M)))))
/-- things in a drawn order -/
theorem mixed_ok {s : Addr} {ts : List D} {x : D} (hx : ∀ K : List D → Prop, K ts → itemsK x K) (hs : SrcM μ0 s μ) (hl : ts.length ≤ 1000) (k : ∀ ys μ', ys.Perm ts → SrcM μ0 s μ' → R (.lst ys) μ') : w__law_mixed cl [.ref s, x] μ R PE := by
  simp only [w__law_mixed]
  intro p hp
  have nps : p ≠ s := fun e => by obtain ⟨c, _, rfl⟩ := hs; rw [e, mset_same] at hp; cases hp
  have n0 : μ0 p = none := by obtain ⟨c, _, rfl⟩ := hs; rwa [mset_ne nps] at hp
  refine hx _ ?_
  refine forW_I (fun i d m => ∃ ys o3, d = [some (.ref s), some x, some (.ref p), o3] ∧ ys.Perm (ts.take i) ∧ SrcM (mset μ0 p (.lst ys)) s m) ⟨[], _, rfl, by simp, hs.put nps⟩ (fun i y d m Z2 hy ⟨ys, o3, ed, hperm, hm⟩ knx kct kbk krt => ?_) fun d m ⟨ys, o3, ed, hperm, hm⟩ => ?_
  · subst ed
    have hi := (List.getElem?_eq_some_iff.mp hy).1
    have mp : ∀ {m : Mu}, SrcM (mset μ0 p (.lst ys)) s m → m p = some (.lst ys) := fun {m} h => by obtain ⟨c, _, rfl⟩ := h; rw [mset_ne nps, mset_same]
    have hlen : ys.length = i := by rw [hperm.length_eq, List.length_take]; omega
    fail "v"
    refine ⟨⟨_, mp hm⟩, f_lenM (mp hm) ?_⟩
    fail "v"
    refine draw_ok hm (by omega) (log_lt (k := 20) (by omega) (by decide) (by omega)) fun z m2 z0 z1 hm2 => ?_
    fail "v"
    refine ⟨ys, mp hm2, Nat.lt_of_le_of_lt (show ys.length ≤ 1000 by omega) (by decide), z0, by omega, ?_⟩
    refine knx _ _ ⟨ys.take z.toNat ++ [y] ++ ys.drop z.toNat, _, rfl, ?_, ?_⟩
    · rw [List.take_succ_eq_append_getElem hi]
      have : y = ts[i] := by have := (List.getElem?_eq_some_iff.mp hy).2; exact this.symm
      subst this
      have h1 : (ys.take z.toNat ++ [ts[i]] ++ ys.drop z.toNat).Perm (ys.take z.toNat ++ ys.drop z.toNat ++ [ts[i]]) := by
        rw [List.append_assoc, List.append_assoc]
        exact List.Perm.append_left _ List.perm_append_comm
      rw [List.take_append_drop] at h1
      exact h1.trans (hperm.append_right _)
    · obtain ⟨c, hc, rfl⟩ := hm2
      refine ⟨c, hc, ?_⟩
      rw [mset_comm (Ne.symm nps), mset_mset]
  · subst ed
    rw [List.take_length] at hperm
    obtain ⟨c, hc, rfl⟩ := hm
    refine ⟨.lst ys, .lst ys, rfl, by rw [mset_ne nps, mset_same], rfl, ?_⟩
    fail "v"
    refine k _ _ hperm ⟨c, hc, ?_⟩
    rw [mset_comm nps, mdel_mset]
    refine mdel_id ?_
    rw [mset_ne nps]; exact n0
theorem perm_map_inv {α : Type} [BEq α] {f : α → D} {g : D → α} (hg : ∀ a, g (f a) = a) {ys : List D} {l : List α} (h : ys.Perm (l.map f)) : ∃ l' : List α, l'.Perm l ∧ ys = l'.map f := by
  refine ⟨ys.map g, ?_, ?_⟩
  · have := h.map g
    rw [List.map_map] at this
    have e : (g ∘ f) = id := funext hg
    rwa [e, List.map_id] at this
  · rw [List.map_map]
    have : ys.map (f ∘ g) = ys.map id := List.map_congr_left fun y hy => by
      obtain ⟨a, _, rfl⟩ := List.mem_map.mp (h.mem_iff.mp hy)
      show f (g (f a)) = f a
      rw [hg]
    rw [this, List.map_id]
theorem sum_one : ∀ cs : List Nat, ((cs.map fun c => _root_.SX.S [c]).map (·.length)).sum = cs.length
  | [] => rfl
  | c :: r => by
    have ih := sum_one r
    have e1 : (_root_.SX.S [c]).length = 1 := rfl
    simp only [List.map_cons, List.sum_cons, List.length_cons, e1]
    omega
theorem joinL_one : ∀ cs : List Nat, TL.joinL [] (cs.map fun c => [c]) = cs
  | [] => rfl
  | [c] => rfl
  | c :: d :: r => by
    have := joinL_one (d :: r)
    show [c] ++ [] ++ TL.joinL [] ((d :: r).map fun c => [c]) = _
    rw [this]; rfl
theorem cutL_to {α : Type} (xs : List α) {i : Int} (h : 0 ≤ i) : cutL xs none (some i) = xs.take i.toNat := by
  unfold cutL
  have e1 : HT.sIx xs.length 0 none = 0 := rfl
  obtain ⟨n, rfl⟩ := Int.eq_ofNat_of_zero_le h
  have e2 : HT.sIx xs.length xs.length (some (n : Int)) = min n xs.length := HT.sIx_nat _ _ _
  rw [e1, e2, List.drop_zero, Nat.sub_zero, Int.toNat_natCast, List.take_eq_take_iff]
  omega
def sgD (c : Nat) : D := .str ⟨#[c]⟩
theorem names_ok {s : Addr} {m : Nat} (hm : m ≤ 26) (hs : SrcM μ0 s μ) (k : ∀ (ns : List (List Nat)) μ', ns.length = m → (∀ n ∈ ns, nameB n = true) → ns.Nodup → SrcM μ0 s μ' → R (.lst (ns.map fun n => .str (_root_.SX.S n))) μ') : w__law_names cl [.ref s, .int m] μ R PE := by
  have abc : ("abcdefghijklmnopqrstuvwxyz" : Str).cps.toList = (List.range 26).map (97 + ·) := by decide +kernel
  have abcn : ((List.range 26).map (97 + ·)).Nodup := by decide
  simp only [w__law_names]
  refine ⟨Nat.le_of_ble_eq_true rfl, ?_⟩
  refine mixed_ok (ts := signs "abcdefghijklmnopqrstuvwxyz") (fun K h => h) hs (Nat.le_of_ble_eq_true rfl) fun ys μ1 hp h1 => ?_
  have hsg : signs "abcdefghijklmnopqrstuvwxyz" = ((List.range 26).map (97 + ·)).map sgD := by unfold signs; rw [abc]; rfl
  rw [hsg] at hp
  obtain ⟨ls, hperm, rfl⟩ := perm_map_inv (g := fun d => match d with | .str t => t.cps.getD 0 0 | _ => 0) (fun a => rfl) hp
  have lsl : ∀ c ∈ ls, 97 ≤ c ∧ c ≤ 122 := fun c hc => by
    have := hperm.mem_iff.mp hc
    simp at this
    obtain ⟨a, ha, rfl⟩ := this
    omega
  have lsn : ls.Nodup := hperm.nodup_iff.mpr abcn
  have lsz : ls.length = 26 := by rw [hperm.length_eq]; rfl
  refine ⟨trivial, draw_ok h1 (by decide) (by decide) fun z μ2 z0 z1 h2 => ?_⟩
  fail "v"
  refine ⟨by omega, ?_⟩
  refine lcW_src (μ0 := μ0) (s := s) (fun i acc => ∃ cs : List Nat, acc = cs.map sgD ∧ cs.length = i ∧ ∀ c ∈ cs, 97 ≤ c ∧ c ≤ 122) h2 (by rw [rngD_len]; exact Nat.le_trans (show z.toNat ≤ 8 by omega) (by decide)) ⟨[], rfl, rfl, by simp⟩ (fun i x acc m1 m0 Q hx ⟨cs, e1, e2, e3⟩ hm1 kq => ?_) fun acc m1 ⟨cs, e1, e2, e3⟩ hm1 => ?_
  · refine of_ok hm1 ⟨by decide, Nat.le_of_ble_eq_true rfl⟩ fun d m2 hd hm2 => kq _ _ hm2 ?_
    obtain ⟨c, hc, rfl⟩ := hd
    rw [abc] at hc
    refine ⟨cs ++ [c], by rw [e1]; simp [addO, sgD], by simp [e2], fun a ha => ?_⟩
    rcases List.mem_append.mp ha with ha | ha
    · exact e3 a ha
    · simp at ha hc; obtain ⟨b, hb, rfl⟩ := hc; subst ha; omega
  · subst e1
    rw [rngD_len] at e2
    have ej : cs.map sgD = (cs.map fun c => _root_.SX.S [c]).map .str := by rw [List.map_map]; rfl
    refine ⟨cs.map fun c => _root_.SX.S [c], ej, ?_, ?_⟩
    · have := sum_one cs
      rw [this]
      have : ("" : Str).length = 0 := rfl
      simp only [this, List.length_map]; omega
    · have e5 : Txt.join "" (cs.map fun c => _root_.SX.S [c]) = _root_.SX.S cs := by
        have := _root_.SX.join_S [] (cs.map fun c => [c])
        rw [joinL_one, List.map_map] at this
        exact this
      rw [e5]
      have hcs : cs.length ≤ 7 := by omega
      have hS : (_root_.SX.S cs).length ≤ sizeLine := by rw [_root_.SX.S_len]; exact Nat.le_trans hcs (by decide)
      fail "v"
      refine ⟨hS, ?_⟩
      rw [_root_.SX.S_len]
      refine draw_ok hm1 (by omega) (log_lt (k := 10) (by omega) (by decide) (by omega)) fun a m3 a0 a1 hm3 => ?_
      fail "v"
      rw [cutL_to _ (by omega), Int.toNat_natCast, ← List.map_take]
      refine lcW_mapL sgD (fun c => .str (_root_.SX.S (cs.take a.toNat ++ [c] ++ cs.drop a.toNat))) (ls.take m) (Nat.le_trans (List.length_take_le' _ _) (by rw [lsz]; decide)) (fun c _ m4 Q q => ?_) ?_
      · unfold sgD
        fail "v"
        rw [S_cut, S_cut, _root_.SX.slice_to a0, _root_.SX.slice_from a0, show (⟨#[c]⟩ : Str) = _root_.SX.S [c] from rfl, _root_.SX.S_cat, _root_.SX.S_cat]
        refine ⟨hS, ?_, hS, ?_, q⟩
        · rw [_root_.SX.S_len, _root_.SX.S_len]
          have := List.length_take_le' a.toNat cs
          exact Nat.le_trans (m := 10) (by simp only [List.length_singleton]; omega) (by decide)
        · rw [_root_.SX.S_len, _root_.SX.S_len]
          have := List.length_take_le' a.toNat cs
          exact Nat.le_trans (m := 20) (by simp only [List.length_append, List.length_singleton, List.length_drop]; omega) (by decide)
      · have em : (ls.take m).map (fun c => D.str (_root_.SX.S (cs.take a.toNat ++ [c] ++ cs.drop a.toNat))) = ((ls.take m).map fun c => cs.take a.toNat ++ [c] ++ cs.drop a.toNat).map fun n => D.str (_root_.SX.S n) := by rw [List.map_map]; rfl
        rw [em]
        refine k _ _ (by rw [List.length_map, List.length_take, lsz]; omega) (fun n hn => ?_) ?_ hm3
        · obtain ⟨c, hc, rfl⟩ := List.mem_map.mp hn
          refine nameB_iff.mpr ⟨by simp; omega, ?_, fun b hb => ?_⟩
          · have := List.length_take_le' a.toNat cs
            simp only [List.length_append, List.length_singleton, List.length_drop, List.length_take]; omega
          · rcases List.mem_append.mp hb with hb | hb
            · rcases List.mem_append.mp hb with hb | hb
              · exact e3 b (List.mem_of_mem_take hb)
              · rw [List.mem_singleton.mp hb]; exact lsl c (List.mem_of_mem_take hc)
            · exact e3 b (List.mem_of_mem_drop hb)
        · refine List.Pairwise.map _ (fun c d hcd e => hcd ?_) (lsn.sublist (List.take_sublist _ _))
          rw [List.append_assoc, List.append_assoc] at e
          have := List.append_cancel_left e
          simpa using this
theorem kind_attr {k : Kd} {n : List Nat} {gs : List Rat2} {P : DP} (h : P (.str k.txt) μ) : attrW "KIND" (lineD cl k n gs) μ PE P (ae_KIND cl) := by
  cases k <;> exact attr_con (by simp [ae_KIND, Kd.cls, Kd.txt]) (by rfl) h
theorem moved_attr {k : Kd} {n : List Nat} {gs : List Rat2} {P : DP} (h : P (.bl k.mv) μ) : attrW "MOVED" (lineD cl k n gs) μ PE P (ae_MOVED cl) := by
  cases k <;> exact attr_con (by simp [ae_MOVED, Kd.cls, Kd.mv]) (by rfl) h
theorem gains_attr {k : Kd} {n : List Nat} {gs : List Rat2} {P : DP} (h : P (.tup (gs.map ratD)) μ) : attrW "own_gains" (lineD cl k n gs) μ PE P (ae_own_gains cl) := by
  refine attr_fld (Cs := [cl "Line", cl "Steady", cl "Read", cl "Send"]) (by simp [ae_own_gains]) ?_ (by rfl) h
  cases k <;> simp [inC, Kd.cls]
theorem name_attr {k : Kd} {n : List Nat} {gs : List Rat2} {P : DP} (h : P (.str (_root_.SX.S n)) μ) : attrW "name" (lineD cl k n gs) μ PE P (ae_name cl) := by
  refine attr_fld (Cs := [cl "Line", cl "Steady", cl "Read", cl "Send"]) (by simp [ae_name]) ?_ (by rfl) h
  cases k <;> simp [inC, Kd.cls]
theorem line_gains_ok {k : Kd} {n : List Nat} {gs : List Rat2} (h : ∀ p, μ p = none → R (.ref p) (mset μ p (.lst (gs.map ratD)))) : w_Line_gains cl [lineD cl k n gs] μ R PE := by
  simp only [w_Line_gains]
  exact gains_attr h
theorem inC_L {k : Kd} : inC (cl k.cls) [cl "Line", cl "Steady", cl "Read", cl "Send"] := by cases k <;> simp [inC, Kd.cls]
theorem refK_r {K : Addr → Mu → Prop} {p : Addr} : refK K (.ref p) μ = K p μ := rfl
theorem line_len {k : Kd} {n : List Nat} {gs : List Rat2} (h : R (.int gs.length) μ) : w_Line___len__ cl [lineD cl k n gs] μ R PE := by
  simp only [w_Line___len__]
  refine gains_attr ?_
  fail "v"
  rw [List.length_map]
  exact h
/-- what repr of a line tells -/
def tellS (k : Kd) (n : List Nat) (m : Nat) : Str := (((((("Line(" : Str) ++ k.txt) ++ " ") ++ _root_.SX.S n) ++ ", ") ++ Str.ofString (toString (m : Int))) ++ " gains)"
theorem empty_app (s : Str) : Str.empty ++ s = s := by
  have e : (Str.empty ++ s).cps = s.cps := by
    show #[] ++ s.cps = s.cps
    simp
  cases s
  exact congrArg Str.mk e
theorem txt_len (k : Kd) : k.txt.length ≤ 6 := by cases k <;> decide +kernel
theorem small_len {m : Nat} (h : m ≤ 1000) : (Str.ofString (toString (m : Int))).length ≤ 5 := by
  have e : ((m : Int)).natAbs = m := by omega
  rw [PySem.ofString_length]
  exact int_text_length_le10 (k := 4) (by decide) (by rw [e]; exact Nat.lt_of_le_of_lt h (by decide))
theorem line_repr {k : Kd} {n : List Nat} {gs : List Rat2} (hn : n.length ≤ 8) (hl : gs.length ≤ 1000) (h : R (.str (tellS k n gs.length)) μ) : w_Line___repr__ cl [lineD cl k n gs] μ R PE := by
  simp only [w_Line___repr__]
  have t := txt_len k
  have e1 : ("Line(" : Str).length = 5 := by decide +kernel
  have e2 : (" " : Str).length = 1 := by decide +kernel
  have e3 : (", " : Str).length = 2 := by decide +kernel
  have e4 : (" gains)" : Str).length = 7 := by decide +kernel
  have e5 : (_root_.SX.S n).length = n.length := _root_.SX.S_len n
  have e6 := small_len hl
  have big : ∀ {x : Nat}, x ≤ 100 → x ≤ sizeLine := fun h => Nat.le_trans h (by decide)
  rw [empty_app]
  refine ⟨big (by rw [e1]; decide), kind_attr ?_⟩
  fail "v"
  refine ⟨big (by omega), big (by simp only [Str.length_append, e1]; omega), big (by simp only [Str.length_append, e1, e2]; omega), name_attr ?_⟩
  fail "v"
  refine ⟨big (by omega), big (by simp only [Str.length_append, e1, e2, e5]; omega), big (by simp only [Str.length_append, e1, e2, e3, e5]; omega), gains_attr ?_⟩
  fail "v"
  rw [List.length_map]
  have e7 : (Str.ofString (toString ((gs.length : Nat) : Int))).length ≤ 5 := e6
  refine ⟨Nat.lt_of_le_of_lt (Nat.log2_le_self _) (by show ((gs.length : Nat) : Int).natAbs < 1920; omega), big ?_, big ?_, h⟩
  · simp only [Str.length_append, e1, e2, e3, e5]; omega
  · simp only [Str.length_append, e1, e2, e3, e4, e5]; omega
theorem line_bool {k : Kd} {n : List Nat} {gs : List Rat2} (h : R (.bl true) μ) : w_Line___bool__ cl [lineD cl k n gs] μ R PE := by
  simp only [w_Line___bool__]
  exact h
theorem p2_570 {k : Nat} {m : Nat} (h : m < 2 ^ k) (hk : k ≤ 400) : m < 10 ^ 570 := Nat.lt_of_lt_of_le h (Nat.le_trans (Nat.pow_le_pow_right (by decide) hk) (Nat.le_of_ble_eq_true rfl))
theorem sh_rat {k : Nat} {r : Rat2} (h : bnd k r) (hk : k ≤ 400) : shD (ratD r) := sh_tup (sh_cons (sh_int (p2_570 h.2.1 hk)) (sh_cons (sh_int (p2_570 h.2.2 hk)) sh_nil))
theorem sh_rats {k : Nat} (hk : k ≤ 400) : ∀ {gs : List Rat2}, (∀ g ∈ gs, bnd k g) → shAll (gs.map ratD)
  | [], _ => sh_nil
  | g :: gs, h => sh_cons (sh_rat (h g List.mem_cons_self) hk) (sh_rats hk fun x hx => h x (List.mem_cons_of_mem _ hx))
theorem shN_rats : ∀ gs : List Rat2, shNs (gs.map ratD) ≤ 1
  | [] => Nat.zero_le _
  | g :: gs => by have := shN_rats gs; simp only [List.map_cons, shNs, ratD, rD, shN]; omega
theorem shL_rats : ∀ gs : List Rat2, shLs (gs.map ratD) = 1153 * gs.length
  | [] => rfl
  | g :: gs => by have := shL_rats gs; simp only [List.map_cons, shLs, ratD, rD, shL, List.length_cons]; omega
theorem moved_in {k : Kd} {P : Bool → Prop} (h : P k.mv) : cmpW .In (.str k.txt) (.lst [.str "read", .str "send"]) P := by
  cases k <;> exact ⟨rfl, rfl, h⟩
theorem lenG_line {k : Kd} {n : List Nat} {gs : List Rat2} {P : DP} (hl : gs.length ≤ 1000) (h : P (.int gs.length) μ) : lenG (len_tab cl) [lineD cl k n gs] μ P :=
  ⟨inC_L, line_len (PE := noX) ⟨_, rfl, (by omega), (by omega), h⟩⟩
theorem lenG_lst {xs : List D} {P : DP} (h : P (.int xs.length) μ) : lenG (len_tab cl) [.lst xs] μ P := h
theorem boolG_line {k : Kd} {n : List Nat} {gs : List Rat2} {P : DP} (h : P (.bl true) μ) : boolG2 (bool_tab cl) [lineD cl k n gs] μ P :=
  ⟨inC_L, line_bool (cl := cl) (k := k) (n := n) (gs := gs) (PE := noX) (R := fun d m => ∃ b, d = .bl b ∧ P (.bl b) m) ⟨_, rfl, h⟩⟩
theorem reprG_line {k : Kd} {n : List Nat} {gs : List Rat2} {P : DP} (hn : n.length ≤ 8) (hl : gs.length ≤ 1000) (h : P (.str (tellS k n gs.length)) μ) : reprG (rep_tab cl) [lineD cl k n gs] μ P :=
  ⟨inC_L, line_repr (PE := noX) (R := fun d m => ∃ t, d = .str t ∧ P (.str t) m) hn hl ⟨_, rfl, h⟩⟩
theorem kd_sh (k : Kd) : shD (.str k.txt) := by cases k <;> exact sh_lit (by decide +kernel)
theorem kd_size (k : Kd) : k.txt.cps.size ≤ 6 := by cases k <;> decide +kernel
theorem sh_app {a b : Str} (ha : shD (.str a)) (hb : shD (.str b)) : shD (.str (a ++ b)) := fun c hc => by
  rw [PySem.Str.cps_append, Array.toList_append] at hc
  rcases List.mem_append.mp hc with h | h
  · exact ha c h
  · exact hb c h
theorem num_sh {m : Nat} : shD (.str (Str.ofString (toString (m : Int)))) := by
  rw [int_S]
  refine sh_S fun c hc => ?_
  unfold intL at hc
  split at hc
  · rcases List.mem_cons.mp hc with rfl | hc
    · decide
    · have := TL.numL_digits _ c hc; omega
  · have := TL.numL_digits _ c hc; omega
theorem tell_sh {k : Kd} {n : List Nat} {m : Nat} (hn : nameB n = true) (hm : m ≤ 11) : shD (.str (tellS k n m)) ∧ (tellS k n m).cps.size ≤ 40 := by
  refine ⟨sh_app (sh_app (sh_app (sh_app (sh_app (sh_app (sh_lit (by decide +kernel)) (kd_sh k)) (sh_lit (by decide +kernel))) (sh_S (name_sh hn))) (sh_lit (by decide +kernel))) num_sh) (sh_lit (by decide +kernel)), ?_⟩
  have n8 := (nameB_iff.mp hn).2.1
  have t := txt_len k
  have e1 : ("Line(" : Str).length = 5 := by decide +kernel
  have e2 : (" " : Str).length = 1 := by decide +kernel
  have e3 : (", " : Str).length = 2 := by decide +kernel
  have e4 : (" gains)" : Str).length = 7 := by decide +kernel
  have e5 : (_root_.SX.S n).length = n.length := _root_.SX.S_len n
  have e6 := small_len (m := m) (by omega)
  show (tellS k n m).length ≤ 40
  unfold tellS
  simp only [Str.length_append, e1, e2, e3, e4, e5]
  omega
theorem class_so_ok {k : Kd} {n : List Nat} {gs : List Rat2} (hn : nameB n = true) (hl : gs.length ≤ 11) (hb : ∀ g ∈ gs, bnd 60 g) (kk : R (.bl true) μ) : w__law_class_so cl [lineD cl k n gs, .str k.txt, .str (_root_.SX.S n), .lst (gs.map ratD)] μ R PE := by
  simp only [w__law_class_so]
  refine moved_in ?_
  fail "v"
  have n8 := (nameB_iff.mp hn).2.1
  have t := txt_len k
  have e1 : ("Line(" : Str).length = 5 := by decide +kernel
  have e2 : (" " : Str).length = 1 := by decide +kernel
  have e3 : (", " : Str).length = 2 := by decide +kernel
  have e4 : (" gains)" : Str).length = 7 := by decide +kernel
  have e5 : (_root_.SX.S n).length = n.length := _root_.SX.S_len n
  have e6 := small_len (m := gs.length) (by omega)
  have big : ∀ {x : Nat}, x ≤ 100 → x ≤ sizeLine := fun h => Nat.le_trans h (by decide)
  refine ⟨by decide, ?_⟩
  refine forW_I (fun i d m => m = μ ∧ ∃ o5 o6 o7 o8, d = [some (lineD cl k n gs), some (.str k.txt), some (.str (_root_.SX.S n)), some (.lst (gs.map ratD)), some (.bl k.mv), o5, o6, o7, o8]) ⟨rfl, _, _, _, _, rfl⟩ (fun i x d m Z2 hx ⟨hm, o5, o6, o7, o8, ed⟩ knx kct kbk krt => ?_) fun d m ⟨hm, o5, o6, o7, o8, ed⟩ => ?_
  · subst ed hm
    fail "v"
    refine ⟨⟨inC_L, by rfl⟩, line_gains_ok fun p hp => ?_⟩
    simp only [refK_r]
    fail "v"
    refine kind_attr ?_
    fail "v"
    refine moved_attr ?_
    fail "v"
    refine name_attr ?_
    fail "v"
    refine lenG_line (by omega) ?_
    fail "v"
    refine boolG_line ?_
    fail "v"
    refine reprG_line n8 (by omega) ?_
    fail "v"
    refine ⟨big (by rw [e1]; omega), big (by simp only [Str.length_append, e1, e2]; omega), big (by simp only [Str.length_append, e1, e2, e5]; omega), big (by simp only [Str.length_append, e1, e2, e3, e5]; omega), lenG_lst ?_⟩
    rw [List.length_map]
    fail "v"
    refine ⟨Nat.lt_of_le_of_lt (Nat.log2_le_self _) (by show ((gs.length : Nat) : Int).natAbs < 1920; omega), big (by simp only [Str.length_append, e1, e2, e3, e5]; omega), big (by simp only [Str.length_append, e1, e2, e3, e4, e5]; omega), lenG_lst ?_⟩
    rw [List.length_map]
    fail "v"
    have ts := tell_sh (k := k) (m := gs.length) hn hl
    have sg := sh_rats (gs := gs) (k := 60) (by decide) hb
    refine same_vM ?_ (sh_lst (sh_cons (kd_sh k) (sh_cons sh_bl (sh_cons (sh_S (name_sh hn)) (sh_cons (sh_lst sg) (sh_cons (sh_int (p2_570 (k := 10) (by show ((gs.length : Nat) : Int).natAbs < _; omega) (by decide))) (sh_cons sh_bl (sh_cons ts.1 sh_nil)))))))) ?_ ?_ ?_
    · simp only [toPyM, toPyMs, mset_same, rats_py, toPyMs_of (rats_py gs), tellS]
    · have l := shL_rats gs
      have sk := kd_size k
      have sn := S_size n
      have sn2 : n.toArray.size = n.length := by simp
      have t2 := ts.2
      simp only [shL, shLs, tellS] at t2 ⊢
      omega
    · have l := shN_rats gs
      simp only [shN, shNs]
      omega
    fail "v"
    refine ⟨fun h => (by cases h), fun _ => ⟨⟨_, mset_same⟩, _, mset_same, by rw [List.length_map]; exact Nat.lt_of_le_of_lt hl (by decide), ?_⟩⟩
    rw [mset_mset]
    refine ⟨_, _, rfl, mset_same, rfl, ?_⟩
    rw [mdel_mset, mdel_id hp]
    fail "v"
    exact knx _ _ ⟨rfl, _, _, _, _, rfl⟩
  · subst ed hm
    fail "v"
    exact kk
theorem mapM_ratD {gs : List Rat2} (h : ∀ g ∈ gs, isR g.1 g.2) : (gs.map ratD).mapM ratOf = some gs := by
  induction gs with
  | nil => rfl
  | cons g gs ih =>
    have e1 : ratOf (ratD g) = some g := ratOf_rat (h g List.mem_cons_self)
    have e2 := ih fun x hx => h x (List.mem_cons_of_mem _ hx)
    simp [List.mapM_cons, e1, e2]
theorem plain2_rat (g : Rat2) : plain2 (ratD g) := plain2_pair _ _
theorem firstBad_rats {gs : List Rat2} (h : ∀ g ∈ gs, isR g.1 g.2) : firstBad (gs.map ratD) = none := by
  refine List.findIdx?_eq_none_iff.mpr fun x hx => ?_
  obtain ⟨g, hg, rfl⟩ := List.mem_map.mp hx
  have e1 : ratOf (ratD g) = some g := ratOf_rat (h g hg)
  rw [e1]; rfl
theorem renamed_ok {k : Kd} {n : List Nat} {gs : List Rat2} {x : D} (hr : ∀ g ∈ gs, isR g.1 g.2) (hl : gs.length ≤ 1000) (hp : plainD x = true) (hs : ∀ s, x = .str s → s.length ≤ sizeLine)
    (kN : isNameD x = false → PE (cl "InvalidName") [(("given" : Str), x), (("code" : Str), .str "InvalidName")] μ)
    (kk : isNameD x = true → R (.obj (cl k.cls) [(("name" : Str), x), (("own_gains" : Str), .tup (gs.map ratD))]) μ) : w_Line_renamed cl [lineD cl k n gs, x] μ R PE := by
  have hg : ∀ g ∈ gs.map ratD, plain2 g := fun g hg => by obtain ⟨r, _, rfl⟩ := List.mem_map.mp hg; exact plain2_rat r
  have hl2 : (gs.map ratD).length ≤ sizeLine := by rw [List.length_map]; exact Nat.le_trans hl (by decide)
  have fb := firstBad_rats hr
  have mm := mapM_ratD hr
  simp only [w_Line_renamed]
  refine letK_i (fun d m => R d m) (fun d m h => h) fun k2 hk2 => kind_attr ?_
  fail "v"
  refine ⟨fun h => gains_attr ?_, fun h => kind_attr (gains_attr ?_)⟩
  · have ek : k = .line := by cases k <;> first | rfl | exact absurd (of_decide_eq_true h) (by decide)
    subst ek
    fail "v"
    rw [List.append_nil]
    exact line_new (k := .line) hp hs hg hl2 kN (fun _ i hi => by rw [fb] at hi; cases hi) (fun h1 rs hrs => by rw [mm] at hrs; cases hrs; exact hk2 _ _ (kk h1)) _ rfl
  · fail "v"
    rw [List.append_nil]
    have ek : kdOf (.str k.txt) = some k := by
      cases k with
      | line => exact absurd rfl (of_decide_eq_false h)
      | _ => rfl
    refine made_ok rfl hp hs hg hl2 (fun e => by rw [ek] at e; cases e) (fun _ _ h => kN h) (fun _ _ _ i hi => by rw [fb] at hi; cases hi) fun k3 e h1 rs hrs => ?_
    rw [ek] at e; cases e
    rw [mm] at hrs; cases hrs
    exact hk2 _ _ (kk h1)
theorem lplus_ok {a b : Rat2} {i j : Nat} (ha : bnd i a) (hb : bnd j b) (hi : i ≤ 4000) (hj : j ≤ 4000) (k : R (ratD (addR a b)) μ) : w__law_plus cl [ratD a, ratD b] μ R PE := by
  obtain ⟨t1, b1⟩ := a
  obtain ⟨t2, b2⟩ := b
  have hp : 0 < b1 * b2 := Int.mul_pos ha.1 hb.1
  simp only [w__law_plus, ratD, rD]
  fail "v"
  exact ⟨cmul_p ha.2.1 hb.2.2 hi hj, cmul_p hb.2.1 ha.2.2 hj hi, cmul_p ha.2.2 hb.2.2 hi hj, llow_ok hp (log_p (pow_mul ha.2.2 hb.2.2) (by omega) hp) k⟩
theorem iso_line {k : Kd} {n : List Nat} {gs : List Rat2} {K : Bool → Prop} (h : K true) : isoW (iso_Line cl) (lineD cl k n gs) μ K := by
  cases k
  · exact .inl ⟨rfl, h⟩
  · exact .inr (.inl ⟨rfl, h⟩)
  · exact .inr (.inr (.inl ⟨rfl, h⟩))
  · exact .inr (.inr (.inr ⟨rfl, h⟩))
theorem S_inj {a b : List Nat} (h : _root_.SX.S a = _root_.SX.S b) : a = b := by
  have e := congrArg (fun s : Str => s.cps.toList) h
  simpa [_root_.SX.S] using e
theorem kd_txt {k k2 : Kd} : decide (k.txt = k2.txt) = decide (k = k2) := by cases k <;> cases k2 <;> decide
theorem line_eq {k k2 : Kd} {n n2 : List Nat} {gs gs2 : List Rat2} (h : R (.bl (decide (k = k2) && (decide (n = n2) && decide (gs = gs2)))) μ) : w_Line___eq__ cl [lineD cl k n gs, lineD cl k2 n2 gs2] μ R PE := by
  simp only [w_Line___eq__]
  refine letB_e (μ := μ) (!decide (k = k2)) ?_ fun kk hk => iso_line ?_
  · fail "v"
    refine ⟨fun h1 => ?_, fun h1 => ?_⟩
    · have e : decide (k = k2) = false := by simpa using h1
      rw [e] at h; exact h
    · have e : decide (k = k2) = true := by simpa using h1
      rw [e, Bool.true_and] at h
      refine letK_e (μ := μ) (.bl (decide (n = n2) && decide (gs = gs2))) h fun kk hk => name_attr (name_attr ?_)
      have e2 : decide (_root_.SX.S n = _root_.SX.S n2) = decide (n = n2) := by
        rw [Bool.eq_iff_iff]; simp only [decide_eq_true_eq]
        exact ⟨S_inj, fun e => by rw [e]⟩
      fail "v"
      rw [e2]
      refine ⟨fun h2 => gains_attr (gains_attr ?_), fun h2 => ?_⟩
      · rw [q_eqR]
        rw [h2, Bool.true_and] at hk; exact hk
      · rw [h2, Bool.false_and] at hk; rw [h2]; exact hk
  · fail "v"
    refine ⟨fun h => (by cases h), fun _ => kind_attr (kind_attr ?_)⟩
    fail "v"
    rw [kd_txt]
    exact hk
theorem inC_line {k : Kd} : inC (cl k.cls) [cl "Line", cl "Steady", cl "Read", cl "Send"] := by cases k <;> simp [inC, Kd.cls]
theorem lines_eq {k k2 : Kd} {n n2 : List Nat} {gs gs2 : List Rat2} {Q : Bool → Mu → Prop} (h : Q (decide (k = k2) && (decide (n = n2) && decide (gs = gs2))) μ) : cmpG (eq_tab cl) .Eq (lineD cl k n gs) (lineD cl k2 n2 gs2) μ Q := by
  refine ⟨inC_line, inC_line, line_eq h, line_eq ?_⟩
  have e : (decide (k2 = k) && (decide (n2 = n) && decide (gs2 = gs))) = (decide (k = k2) && (decide (n = n2) && decide (gs = gs2))) := by
    rw [Bool.eq_iff_iff]; simp only [Bool.and_eq_true, decide_eq_true_eq]
    exact ⟨fun ⟨a, b, c⟩ => ⟨a.symm, b.symm, c.symm⟩, fun ⟨a, b, c⟩ => ⟨a.symm, b.symm, c.symm⟩⟩
  rw [e]; exact h
theorem lines_ne {k k2 : Kd} {n n2 : List Nat} {gs gs2 : List Rat2} {Q : Bool → Mu → Prop} (h : Q (!(decide (k = k2) && (decide (n = n2) && decide (gs = gs2)))) μ) : cmpG (eq_tab cl) .NotEq (lineD cl k n gs) (lineD cl k2 n2 gs2) μ Q := lines_eq (Q := fun b m => Q (!b) m) h
end Hw
set_option Elab.async false
set_option linter.all false
set_option maxRecDepth 100000
set_option maxHeartbeats 4000000
set_option exponentiation.threshold 2000
namespace Hw
open PySem L2 PyProof.Rows
set_option exponentiation.threshold 2000
local macro_rules | `(tactic| fail "sh") => `(tactic| repeat (first | assumption | with_reducible exact sh_non | with_reducible exact sh_bl | with_reducible exact sh_nil | with_reducible refine sh_cons ?_ ?_ | with_reducible refine sh_tup ?_ | with_reducible refine sh_lst ?_ | (with_reducible refine sh_int ?_; omega) | (with_reducible refine sh_lit ?_; decide +kernel)))
local macro_rules | `(tactic| fail "w") => `(tactic| try simp only [get_0, get_s, set_0, set_s, q_lt, q_le, q_gt, q_ge, q_eqI, q_neI, q_eqS, q_neS, q_isN, q_isNot, q_inS, q_wip0, q_wipS, q_inB, q_eqP, q_neP, q_add, q_sub, q_mul, q_div, q_mod, q_pow, q_addS, q_addT, q_addL, q_repL, q_ix0, q_ix1, q_ixL0, q_ixL1, q_intK, q_truB, q_truI, q_truL, q_truT, q_truN, q_wIf, q_abs, q_lenT, q_lenL, q_lenS, q_lenR, q_intI, q_intS, q_strI, q_strS, q_slS, q_slT, q_slL, q_fmtI, q_fmtS, q_seqT, q_seqL, q_tupB, q_tupK, q_consK, q_nilK, q_itL, q_itT, q_itR, q_itS, letK, letB, letS])
local macro_rules | `(tactic| fail "v") => `(tactic| try simp only [get_0, get_s, set_0, set_s, q_lt, q_le, q_gt, q_ge, q_eqI, q_neI, q_eqS, q_neS, q_isN, q_isNot, q_inS, q_wip0, q_wipS, q_inB, q_eqP, q_neP, q_add, q_sub, q_mul, q_div, q_mod, q_pow, q_addS, q_addT, q_addL, q_repL, q_ix0, q_ix1, q_ixL0, q_ixL1, q_intK, q_truB, q_truI, q_truL, q_truT, q_truN, q_wIf, q_abs, q_lenT, q_lenL, q_lenS, q_lenR, q_intI, q_intS, q_strI, q_strS, q_slS, q_slT, q_slL, q_fmtI, q_fmtS, q_seqT, q_seqL, q_tupB, q_tupK, q_consK, q_nilK, q_itL, q_itT, q_itR, q_itS])
variable {cl : Str → Addr} {tT : Addr} {μ μ0 : Mu} {R : DP} {PE : XP}
theorem bad_none {gs : List D} {i : Nat} (h : firstBad gs = some i) : ∀ rs, gs.mapM ratOf = some rs → False := by
  induction gs generalizing i with
  | nil => cases h
  | cons g gs ih =>
    intro rs hrs
    cases e : ratOf g with
    | none => rw [List.mapM_cons, e] at hrs; cases hrs
    | some r =>
      unfold firstBad at h ih
      rw [List.findIdx?_cons, e] at h
      cases e2 : List.findIdx? (fun g => (ratOf g).isNone) gs with
      | none => rw [e2] at h; cases h
      | some j =>
        rw [List.mapM_cons, e] at hrs
        cases e3 : gs.mapM ratOf with
        | none => rw [e3] at hrs; cases hrs
        | some rs2 => exact ih e2 rs2 e3
theorem map_get {rs : List Rat2} {i : Nat} {x : D} (h : (rs.map ratD)[i]? = some x) : ∃ r, rs[i]? = some r ∧ x = ratD r := by
  rw [List.getElem?_map] at h
  obtain ⟨r, e, rfl⟩ := Option.map_eq_some_iff.mp h
  exact ⟨r, e, rfl⟩
theorem gain_bnd {t b : Int} (h : isGain t b) : bnd 60 ((t, b) : Rat2) := by
  have h1 := h.1.1
  have h2 := h.2.1
  have h3 := h.2.2
  have p : (10 : Nat) ^ 9 < 2 ^ 60 := by decide
  exact ⟨by show 0 < b; omega, by show t.natAbs < _; omega, by show b.natAbs < _; omega⟩
theorem line_eq_no {k : Kd} {n : List Nat} {gs : List Rat2} {y : D} {Q : Bool → Mu → Prop} (h1 : isIns y = false) (h2 : (tyB y).isSome = true) (h : Q false μ) : cmpG (eq_tab cl) .Eq (lineD cl k n gs) y μ Q := by
  show (insK (lineD cl k n gs) μ fun C _ => inC C [cl "Line", cl "Steady", cl "Read", cl "Send"]) ∧ (match isIns y with
    | true => (insK y μ fun C _ => inC C [cl "Line", cl "Steady", cl "Read", cl "Send"]) ∧ w_Line___eq__ cl [lineD cl k n gs, y] μ (blK Q) noX ∧ w_Line___eq__ cl [y, lineD cl k n gs] μ (blK Q) noX
    | false => (tyB y).isSome = true ∧ w_Line___eq__ cl [lineD cl k n gs, y] μ (blK Q) noX)
  rw [h1]
  refine ⟨inC_L, h2, ?_⟩
  simp only [w_Line___eq__]
  refine letB_e (μ := μ) true ?_ fun kk hk => ?_
  · fail "v"
    exact ⟨fun _ => h, fun h => (by cases h)⟩
  · show (match isIns y with
      | true => _
      | false => (tyB y).isSome = true ∧ _)
    rw [h1]
    refine ⟨h2, ?_⟩
    fail "v"
    exact ⟨fun _ => hk, fun h => (by cases h)⟩
theorem g_eqS {s t : Str} {Q : Bool → Mu → Prop} : cmpG (eq_tab cl) .Eq (.str s) (.str t) μ Q = Q (decide (s = t)) μ := by
  show cmpW .Eq (.str s) (.str t) (fun z => Q z μ) = _
  rw [q_eqS]
theorem g_eqI {i j : Int} {Q : Bool → Mu → Prop} : cmpG (eq_tab cl) .Eq (.int i) (.int j) μ Q = Q (decide (i = j)) μ := by
  show cmpW .Eq (.int i) (.int j) (fun z => Q z μ) = _
  rw [q_eqI]
theorem g_eqL {xs : List D} {y : D} {Q : Bool → Mu → Prop} (h : cmpW .Eq (.lst xs) y fun z => Q z μ) : cmpG (eq_tab cl) .Eq (.lst xs) y μ Q := h
theorem g_neL {xs : List D} {y : D} {Q : Bool → Mu → Prop} (h : cmpW .NotEq (.lst xs) y fun z => Q z μ) : cmpG (eq_tab cl) .NotEq (.lst xs) y μ Q := h
theorem ne_nil {gs : List Rat2} {P : Bool → Prop} (h : P (!gs.isEmpty)) : cmpW .NotEq (.lst (gs.map ratD)) (.lst []) P := by
  have e0 : scal2 (.lst (gs.map ratD)) (.lst []) = false := by simp [scal2, flatD]
  have d : dataD (.lst (gs.map ratD)) = true := dat_data (n := 2) (by decide) (dat_lst (dat_rats 0 gs))
  have d0 : dataD (.lst []) = true := dat_data (n := 2) (by decide) (dat_lst (dat_nil 1))
  have e : eqvD (.lst (gs.map ratD)) (.lst []) = gs.isEmpty := by
    unfold eqvD
    simp only [toPy, rats_py, Option.map_some, toPyAll, PyData.eqv]
    cases gs <;> rfl
  show (match scal2 (.lst (gs.map ratD)) (.lst []) with | true => P (!decide (fv (.lst (gs.map ratD)) = fv (.lst []))) | false => (dataD (.lst (gs.map ratD)) = true ∧ dataD (.lst []) = true) ∧ P (!eqvD (.lst (gs.map ratD)) (.lst [])))
  rw [e0, e]
  exact ⟨⟨d, d0⟩, h⟩
/-- a gain plus one is another gain -/
theorem add_one_ne {a : Rat2} (h : isR a.1 a.2) : addR a (1, 1) ≠ a := fun e => by
  obtain ⟨t, b⟩ := a
  have hp : 1 ≤ b := h.1
  have hg : Int.gcd t b = 1 := h.2
  have e : (lowT (t * 1 + 1 * b) (b * 1), lowB (t * 1 + 1 * b) (b * 1)) = (t, b) := e
  rw [Int.mul_one, Int.mul_one, Int.one_mul] at e
  have g2 : Int.gcd (t + b) b = 1 := by
    rw [← hg]; simp
  have l : lowT (t + b) b = t + b := by
    unfold lowT sgn
    rw [if_neg (by omega), g2]
    exact Int.fdiv_one _
  have := (Prod.mk.inj e).1
  omega
/-- the gains bent -/
def bentR : List Rat2 → List Rat2
  | [] => [(1, 1)]
  | g :: gs => addR g (1, 1) :: gs
theorem bent_ne {gs : List Rat2} (h : ∀ g ∈ gs, isR g.1 g.2) : gs ≠ bentR gs := by
  cases gs with
  | nil => simp [bentR]
  | cons g gs =>
    intro e
    exact add_one_ne (h g List.mem_cons_self) (List.cons.inj e).1.symm
theorem law_ok {xs : List D} (h : lawC xs μ R PE) : w_law cl xs μ R PE := by
  obtain ⟨ns, rfl, hl, hb, k⟩ := h
  simp only [w_law]
  refine source_ok fun s μ1 n0 h1 => ?_
  fail "v"
  refine ⟨by decide, ?_⟩
  have nm : ∀ {a : List Nat}, nameB a = true → isNameD (.str (_root_.SX.S a)) = true := fun h => h
  have nl : ∀ {a : List Nat}, nameB a = true → ∀ t, (.str (_root_.SX.S a) : D) = .str t → t.length ≤ sizeLine := fun {a} hn t e => by
    cases e
    rw [_root_.SX.S_len]
    exact Nat.le_trans (nameB_iff.mp hn).2.1 (by decide)
  have mkL : ∀ {m : Mu} {PE : XP} {a : List Nat} (hn : nameB a = true) (k : Kd) (gs : List D) (rs0 : List Rat2) (Q : DP) (W : CT), W = mkW (cl k.cls) true (initW cl k) → (∀ g ∈ gs, plain2 g) → gs.length ≤ 5 → gs.mapM ratOf = some rs0 → Q (lineD cl k a rs0) m → W (.str (_root_.SX.S a) :: gs) m Q PE := fun {m PE a} hn k gs rs0 Q W hW hgs hgl e0 hq =>
    line_new (k := k) rfl (nl hn) hgs (Nat.le_trans hgl (Nat.le_of_ble_eq_true rfl)) (fun h => by rw [nm hn] at h; cases h) (fun _ i hi => (bad_none hi rs0 e0).elim) (fun _ rs hrs => by
      rw [e0] at hrs; cases hrs
      exact hq) W hW
  have p23 : ∀ g ∈ [D.int 2, .tup [.int 1, .int 3]], plain2 g := fun g hg => by
    simp only [List.mem_cons, List.not_mem_nil, or_false] at hg
    rcases hg with rfl | rfl
    · exact plain2_int 2
    · exact plain2_pair 1 3
  have m23 : [D.int 2, .tup [.int 1, .int 3]].mapM ratOf = some [(2, 1), (1, 3)] := by decide +kernel
  have r23 : ∀ g ∈ ([(2, 1), (1, 3)] : List Rat2), isR g.1 g.2 := fun g hg => by
    simp only [List.mem_cons, List.not_mem_nil, or_false] at hg
    rcases hg with rfl | rfl
    · exact isR_iff.mp (by decide +kernel)
    · exact isR_iff.mp (by decide +kernel)
  have b23 : ∀ g ∈ ([(2, 1), (1, 3)] : List Rat2), bnd 60 g := fun g hg => by
    simp only [List.mem_cons, List.not_mem_nil, or_false] at hg
    rcases hg with rfl | rfl
    · exact ⟨by decide, by decide, by decide⟩
    · exact ⟨by decide, by decide, by decide⟩
  have kds : ∀ {d : D}, inD d (.lst [.str "steady", .str "read", .str "send"]) → ∃ k : Kd, k ≠ .line ∧ d = .str k.txt := fun {d} hd => by
    simp only [Hw.inD, List.mem_cons, List.not_mem_nil, or_false] at hd
    rcases hd with rfl | rfl | rfl
    · exact ⟨.steady, by decide, rfl⟩
    · exact ⟨.read, by decide, rfl⟩
    · exact ⟨.send, by decide, rfl⟩
  refine forW_I (fun i d m => SrcM μ s m ∧ ∃ o2 o3 o4 o5 o6 o7 o8 o9 oa ob oc od oe of og, d = [some (.rol (ns.map .int)), some (.ref s), o2, o3, o4, o5, o6, o7, o8, o9, oa, ob, oc, od, oe, of, og] ∧ (0 < i → ∃ a b, o4 = some (.lst [.str (_root_.SX.S a), .str (_root_.SX.S b)]) ∧ nameB a = true)) ⟨h1, _, _, _, _, _, _, _, _, _, _, _, _, _, _, _, rfl, fun h => absurd h (by omega)⟩ (fun i x d m Z2 hx ⟨hm, o2, o3, o4, o5, o6, o7, o8, o9, oa, ob, oc, od, oe, of, og, ed, h4⟩ knx kct kbk krt => ?_) fun d m ⟨hm, o2, o3, o4, o5, o6, o7, o8, o9, oa, ob, oc, od, oe, of, og, ed, h4⟩ => ?_
  · subst ed
    fail "v"
    refine of_ok hm ⟨by simp, Nat.le_of_ble_eq_true rfl⟩ fun kd m2 hkd h2 => ?_
    obtain ⟨k1, hk1, rfl⟩ := kds hkd
    fail "v"
    refine names_ok (by decide) h2 fun nl0 m3 hl1 hnm hnd h3 => ?_
    obtain ⟨a, b, rfl⟩ : ∃ a b, nl0 = [a, b] := by
      match nl0, hl1 with
      | [a, b], _ => exact ⟨a, b, rfl⟩
    have ha : nameB a = true := hnm a (by simp)
    have hb' : nameB b = true := hnm b (by simp)
    have hab : a ≠ b := by simpa using hnd
    simp only [List.map_cons, List.map_nil]
    fail "v"
    refine draw_ok h3 (by decide) (log_lt (k := 10) (by decide) (by decide) (by decide)) fun z m4 z0 z1 h4' => ?_
    fail "v"
    refine gains_ok z0 (by omega) h4' fun gs m5 hgl hgs h5 => ?_
    have hg11 : gs.length ≤ 11 := by omega
    have hgb : ∀ g ∈ gs, bnd 60 g := fun g hg => gain_bnd (hgs g hg)
    have hgr : ∀ g ∈ gs, isR g.1 g.2 := fun g hg => (hgs g hg).1
    fail "v"
    refine lcW_src (fun i acc => acc.mapM ratOf = some (gs.take i) ∧ acc.length = i ∧ ∀ x ∈ acc, plain2 x) h5 (by rw [List.length_map]; exact Nat.le_trans hg11 (by decide)) ⟨rfl, rfl, fun x h => nomatch h⟩ (fun i y acc m6 μ0' Q hy ⟨e1, e2, e3⟩ h6 kQ => ?_) fun acc m6 ⟨e1, e2, e3⟩ h6 => ?_
    · obtain ⟨r, hr, rfl⟩ := map_get hy
      have hw := hgr r (List.mem_of_getElem? hr)
      have put : ∀ {v : D} {m5 : Mu}, SrcM μ0' s m5 → plain2 v → ratOf v = some r → Q (some v) m5 := fun {v m5} h5 pv ev => kQ _ _ h5 ⟨by
          show (acc ++ [v]).mapM ratOf = _
          rw [List.mapM_append, e1, List.take_add_one, hr]
          simp [ev], by simp [addO, e2], fun x hx => by
          rcases List.mem_append.mp hx with hx | hx
          · exact e3 x hx
          · rw [List.mem_singleton.mp hx]; exact pv⟩
      fail "v"
      refine letK_i (fun d m => SrcM μ0' s m ∧ plain2 d ∧ ratOf d = some r) (fun d m ⟨h5, p5, r5⟩ => put h5 p5 r5) fun kk hk => ?_
      refine letB_i (fun z m => SrcM μ0' s m ∧ (z = true → r.2 = 1)) (fun z m5 ⟨h5, hz⟩ => ?_) fun kb hkb => ?_
      · unfold ratD rD
        fail "v"
        exact ⟨fun e => hk _ _ ⟨h5, plain2_int _, by rw [ratOf_int, ← hz e]⟩, fun e => hk _ _ ⟨h5, plain2_pair _ _, ratOf_rat hw⟩⟩
      · unfold ratD rD
        fail "v"
        rw [g_eqI]
        refine ⟨fun e => draw_ok h6 (by decide) (log_lt (k := 10) (by decide) (by decide) (by decide)) fun z m5 z0 z1 h5 => ?_, fun e => hkb _ _ ⟨h6, fun h => (by cases h)⟩⟩
        rw [g_eqI]
        exact hkb _ _ ⟨h5, fun _ => of_decide_eq_true e⟩
    rw [List.length_map, List.take_length] at e1
    fail "v"
    refine law_line_ok hk1 ha e3 (by rw [e2, List.length_map]; exact hg11) e1 ?_
    fail "v"
    refine class_so_ok ha hg11 hgb ?_
    fail "v"
    have hga : ∀ g ∈ gs.map ratD, plain2 g := fun g hg => by obtain ⟨r, _, rfl⟩ := List.mem_map.mp hg; exact plain2_rat r
    have hgm : (gs.map ratD).mapM ratOf = some gs := mapM_ratD hgr
    refine ⟨fun h => (by cases h), fun _ => ⟨⟨inC_L, by rfl⟩, renamed_ok hgr (by omega) rfl (nl hb') (fun h => by rw [nm hb'] at h; cases h) fun _ => ?_⟩⟩
    show (fun (d : D) (m : Mu) => _) (lineD cl k1 b gs) m6
    fail "v"
    refine law_line_ok hk1 ha hga (by rw [List.length_map]; exact hg11) hgm ?_
    fail "v"
    refine letB_e (μ := m6) false ?_ fun kk hk => class_so_ok hb' hg11 hgb ?_
    rotate_left
    · fail "v"
      refine ⟨fun h => (by cases h), fun _ => lines_eq ?_⟩
      refine ⟨fun h => ?_, fun _ => lines_eq ?_⟩
      · simp [Ne.symm hab] at h
      · refine ⟨fun h => (by simp at h), fun _ => lines_ne ?_⟩
        simpa using hk
    refine ⟨fun h => (by cases h), fun _ => of_ok h6 ⟨by simp, Nat.le_of_ble_eq_true rfl⟩ fun kd2 m7 hkd2 h7 => ?_⟩
    obtain ⟨k2, hk2, rfl⟩ := kds hkd2
    fail "v"
    refine law_line_ok hk2 ha hga (by rw [List.length_map]; exact hg11) hgm ?_
    fail "v"
    have bl : (bentR gs).length ≤ 11 := by
      cases gs with
      | nil => decide
      | cons g gs => exact hg11
    refine letK_e (μ := m7) (.lst ((bentR gs).map ratD)) ?_ fun kk hk => g_neL (ne_nil ?_)
    rotate_left
    · cases gs with
      | nil => exact ⟨fun h => (by simp at h), fun _ => hk⟩
      | cons g gs =>
        refine ⟨fun _ => ?_, fun h => (by simp at h)⟩
        simp only [List.map_cons]
        fail "v"
        refine lplus_ok (b := (1, 1)) (hgb g List.mem_cons_self) (show bnd 60 (1, 1) from ⟨by decide, by decide, by decide⟩) (by decide) (by decide) ?_
        fail "v"
        have ec : cutL (ratD g :: gs.map ratD) (some 1) none = gs.map ratD := by
          unfold cutL
          have e1 : HT.sIx (ratD g :: gs.map ratD).length 0 (some 1) = 1 := by
            have := HT.sIx_nat (ratD g :: gs.map ratD).length 0 1
            rw [show ((1 : Nat) : Int) = 1 from rfl] at this
            rw [this]; simp
          have e2 : HT.sIx (ratD g :: gs.map ratD).length (ratD g :: gs.map ratD).length none = (ratD g :: gs.map ratD).length := rfl
          rw [e1, e2]
          simp
          rw [show gs.length = (gs.map ratD).length by rw [List.length_map], List.take_length]
        rw [ec]
        refine ⟨?_, hk⟩
        rw [List.length_map]
        simp only [List.length_cons, List.length_nil] at hg11 ⊢
        exact Nat.le_trans (show 0 + 1 + gs.length ≤ 100 by omega) (by decide)
    fail "v"
    refine letB_e (μ := m7) false ?_ fun kk hk => lines_eq (kind_attr ?_)
    rotate_left
    · fail "v"
      rw [g_eqS]
      have ez : (decide (k2 = k1) && (decide True && decide True)) = decide (k2.txt = k1.txt) := by rw [kd_txt]; simp
      rw [ez]
      refine same_ok sh_bl (by simp [shN]) (by simp [shL]) ?_
      fail "v"
      refine ⟨fun h => (by cases h), fun _ => ?_⟩
      have hbr : ∀ g ∈ bentR gs, isR g.1 g.2 := fun g hg => by
        cases gs with
        | nil => rw [List.mem_singleton.mp hg]; exact isR_one 1
        | cons g0 gs =>
          rcases List.mem_cons.mp hg with rfl | hg
          · exact addR_isR (hgb g0 List.mem_cons_self).1 (by decide)
          · exact hgr g (List.mem_cons_of_mem _ hg)
      have hpb : ∀ g ∈ (bentR gs).map ratD, plain2 g := fun g hg => by obtain ⟨r, _, rfl⟩ := List.mem_map.mp hg; exact plain2_rat r
      refine law_line_ok hk1 ha hpb (by rw [List.length_map]; exact bl) (mapM_ratD hbr) (lines_eq ?_)
      have ne := bent_ne hgr
      simpa [ne] using hk
    refine ⟨fun h => (by cases h), fun _ => mkL ha .line [.int 2, .tup [.int 1, .int 3]] _ _ _ rfl p23 (by decide) m23 ?_⟩
    fail "v"
    refine mkL ha .line [.int 2, .tup [.int 1, .int 3]] _ _ _ rfl p23 (by decide) m23 ⟨⟨inC_L, by rfl⟩, renamed_ok r23 (by decide) rfl (nl hb') (fun h => by rw [nm hb'] at h; cases h) fun _ => ?_⟩
    show (fun (d : D) (m : Mu) => _) (lineD cl .line b [(2, 1), (1, 3)]) m7
    fail "v"
    refine letB_e (μ := m7) false ?_ fun kk hk => class_so_ok (gs := [(2, 1), (1, 3)]) ha (by decide) b23 ?_
    rotate_left
    · fail "v"
      refine ⟨fun h => (by cases h), fun _ => mkL hb' .line [.int 2, .tup [.int 1, .int 3]] _ _ _ rfl p23 (by decide) m23 (lines_ne ?_)⟩
      simpa using hk
    refine ⟨fun h => (by cases h), fun _ => ?_⟩
    refine letB_e (μ := m7) false ?_ fun kk hk => mkL ha .read [.int 2, .tup [.int 1, .int 3]] _ _ _ rfl p23 (by decide) m23 (lines_eq ?_)
    rotate_left
    · refine ⟨fun h => (by simp at h), fun _ => line_eq_no rfl rfl ?_⟩
      exact ⟨fun h => (by cases h), fun _ => line_eq_no rfl rfl hk⟩
    fail "v"
    exact ⟨fun h => (by cases h), fun _ => knx _ _ ⟨h7, _, _, _, _, _, _, _, _, _, _, _, _, _, _, _, rfl, fun _ => ⟨a, b, rfl, ha⟩⟩⟩
  · subst ed
    obtain ⟨a, b, e4, ha⟩ := h4 (by decide)
    subst e4
    fail "v"
    refine mkL ha .steady [] [] _ _ rfl (fun g hg => nomatch hg) (by decide) rfl ?_
    fail "v"
    refine mkL ha .read [.int 1] [(1, 1)] _ _ rfl (fun g hg => by rw [List.mem_singleton.mp hg]; exact plain2_int 1) (by decide) rfl ?_
    fail "v"
    refine mkL ha .send [.int 1, .int 2] [(1, 1), (2, 1)] _ _ rfl (fun g hg => by
      simp only [List.mem_cons, List.not_mem_nil, or_false] at hg
      rcases hg with rfl | rfl
      · exact plain2_int 1
      · exact plain2_int 2) (by decide) rfl ?_
    fail "v"
    refine lcW_mapL (fun q : Kd × List Rat2 => lineD cl q.1 a q.2) (fun q => .lst [.bl true, .str q.1.txt, .bl q.1.mv, .int q.2.length]) [(.steady, []), (.read, [(1, 1)]), (.send, [(1, 1), (2, 1)])] (by decide) (fun q hq m1 Q hQ => ?_) ?_
    · fail "v"
      have hq2 : q.2.length ≤ 1000 := by
        simp only [List.mem_cons, List.not_mem_nil, or_false] at hq
        rcases hq with rfl | rfl | rfl <;> decide
      refine iso_line (kind_attr ?_)
      fail "v"
      refine moved_attr ?_
      fail "v"
      exact lenG_line hq2 hQ
    fail "v"
    refine letK_e (μ := m) (.bl true) (k _) fun kk hk => ?_
    fail "v"
    have sk := kd_sh
    refine same_eq rfl (sh_lst (sh_cons (sh_lst (sh_cons sh_bl (sh_cons (sk .steady) (sh_cons sh_bl (sh_cons (sh_int (p2_570 (k := 2) (by decide) (by decide))) sh_nil))))) (sh_cons (sh_lst (sh_cons sh_bl (sh_cons (sk .read) (sh_cons sh_bl (sh_cons (sh_int (p2_570 (k := 2) (by decide) (by decide))) sh_nil))))) (sh_cons (sh_lst (sh_cons sh_bl (sh_cons (sk .send) (sh_cons sh_bl (sh_cons (sh_int (p2_570 (k := 2) (by decide) (by decide))) sh_nil))))) sh_nil)))) (by simp [shN, shNs]) (by decide +kernel) ?_
    fail "v"
    refine ⟨fun _ => g_eqL (eq_refl (n := 2) (by decide) (dat_lst (dat_cons (dat_str _ (by decide +kernel)) (dat_cons (dat_str _ (by decide +kernel)) (dat_cons (dat_bl _ _) (dat_cons (dat_bl _ _) (dat_nil _)))))) rfl hk), fun h => (by cases h)⟩
end Hw
set_option Elab.async false
set_option linter.all false
set_option maxRecDepth 100000
set_option maxHeartbeats 2000000
namespace Hw
open PySem L2 PyProof.Rows PySem.Spec
/-! ### facts of the top, each by a Bool -/
section
variable {P : Program} {K : PySem.W.Frag} {C D f g p : Addr} {x q m : Str} {st : Stmt}
theorem b2 {a b : Bool} (h : (a && b) = true) : a = true ∧ b = true := Bool.and_eq_true_iff.mp h
def clsB (K : PySem.W.Frag) (C : Addr) : Bool := PySem.W.plainGet K C Str.empty && (PySem.W.hasDictIn K C && (PySem.W.plainOver K C && He.eqO (PySem.W.findIn K (.ref C) "__setattr__") (some (some (.builtin "object.__setattr__")))))
theorem clsB_ok (h : clsB K C = true) : Cls K C := by
  obtain ⟨h1, h⟩ := b2 h
  obtain ⟨h2, h⟩ := b2 h
  obtain ⟨h3, h4⟩ := b2 h
  exact ⟨h1, h2, h3, He.eqO_ok h4⟩
def mkB (K : PySem.W.Frag) (C f : Addr) : Bool := PySem.W.makesIn K C && (He.eqO (PySem.W.findIn K (.ref C) "__init__") (some (some (.ref f))) && (PySem.W.isFn K (.ref f) && PySem.W.keepIn K (.ref C)))
theorem mkB_ok (h : mkB K C f = true) : Mk K C f := by
  obtain ⟨h1, h⟩ := b2 h
  obtain ⟨h2, h⟩ := b2 h
  obtain ⟨h3, h4⟩ := b2 h
  exact ⟨h1, He.eqO_ok h2, h3, h4⟩
def methB (K : PySem.W.Frag) (C : Addr) (m : Str) (f : Addr) : Bool := He.eqO (PySem.W.findIn K (.ref C) m) (some (some (.ref f))) && (PySem.W.isFn K (.ref f) && PySem.W.keepIn K (.ref f))
theorem methB_ok (h : methB K C m f = true) : Meth K C m f := by
  obtain ⟨h1, h⟩ := b2 h
  obtain ⟨h2, h3⟩ := b2 h
  exact ⟨He.eqO_ok h1, h2, h3⟩
def basB (K : PySem.W.Frag) (C : Addr) : Bool := (PySem.W.clsIn K C).isSome && (decide (PySem.W.typeIn K (.ref C) = some (.type "type")) && decide (PySem.W.subIn K (.ref C) (.type "BaseException") = some true))
theorem basB_ok (h : basB K C = true) : BasC K C := by
  obtain ⟨h1, h⟩ := b2 h
  obtain ⟨h2, h3⟩ := b2 h
  exact ⟨h1, of_decide_eq_true h2, of_decide_eq_true h3⟩
theorem nsB_ok {v : Value} {a : Addr} (h : He.eqO (PySem.W.nsIn K a x) (some (some v)) = true) : PySem.W.nsIn K a x = some (some v) := He.eqO_ok h
/-! functions -/
abbrev FV : Type := Option (Str × Str × Arguments × FuncBody × Scope × Addr × Addr)
def fvO (K : PySem.W.Frag) (a : Addr) : FV := match K.lookup a with
  | some ⟨_, _, .func fd, _⟩ => some (fd.name, fd.qualname, fd.params, fd.body, fd.scope, fd.globals, fd.builtins)
  | _ => none
def fvD (x q : Str) (st : Stmt) : FV := some (x, q, defArgs st, .stmts (defBody st), defScope st, mainGlobals, builtinsNs)
theorem fvO_some (h : fvO K f = fvD x q st) : ∃ (oc : Value) (od : Option Addr) (osl : Array (Option Value)) (fd : FuncData), K.lookup f = some ⟨oc, od, .func fd, osl⟩ ∧ fd.name = x ∧ fd.qualname = q ∧ fd.params = defArgs st ∧ fd.body = .stmts (defBody st) ∧ fd.scope = defScope st ∧ fd.globals = mainGlobals ∧ fd.builtins = builtinsNs := by
  unfold fvO fvD at h
  split at h
  · next oc od fd osl e =>
    simp only [Option.some.injEq, Prod.mk.injEq] at h
    obtain ⟨h1, h2, h3, h4, h5, h6, h7⟩ := h
    exact ⟨oc, od, osl, fd, e, h1, h2, h3, h4, h5, h6, h7⟩
  · cases h
/-- a plain def: no closure, no defaults -/
def fnB (K : PySem.W.Frag) (f : Addr) (q : Str) : Bool := match K.lookup f with
  | some ⟨_, _, .func fd, _⟩ => fd.closure.isEmpty && (decide (fd.defaults = .none) && (PySem.W.codeIn K fd.code q && PySem.W.keepIn K (.ref f)))
  | _ => false
theorem fnB_ok (e : fvO K f = fvD x q st) (h : fnB K f q = true) : FunM K x q st f := by
  obtain ⟨oc, od, osl, fd, e1, h1, h2, h3, h4, h5, h6, h7⟩ := fvO_some e
  unfold fnB at h
  rw [e1] at h
  obtain ⟨n1, n2, n3, n4, n5, n6, n7, n8, n9, n10, n11, n12, n13, n14, n15⟩ := fd
  dsimp only at h h1 h2 h3 h4 h5 h6 h7
  subst h1 h2 h3 h4 h5 h6 h7
  obtain ⟨c1, h⟩ := b2 h
  obtain ⟨c2, h⟩ := b2 h
  obtain ⟨c3, c4⟩ := b2 h
  obtain rfl := List.isEmpty_iff.mp c1
  obtain rfl := of_decide_eq_true c2
  exact FunM.mk' e1 c3 c4
theorem funAt_ok (n : PySem.W.nsIn K mainGlobals x = some (some (.ref f))) (F : FunM K x x st f) : FunAt K x st := by
  obtain ⟨fd, F⟩ := F.ex
  exact ⟨f, fd, n, F⟩
/-- .. with defaults -/
def fnVB (K : PySem.W.Frag) (f : Addr) (q : Str) (dd : List Hw.D) : Bool := match K.lookup f with
  | some ⟨_, _, .func fd, _⟩ => fd.closure.isEmpty && (PySem.W.codeIn K fd.code q && (PySem.W.keepIn K (.ref f) && (!dd.isEmpty && He.dflB K fd.defaults (dd.map fv))))
  | _ => false
theorem funV_ok {dd : List Hw.D} (e : fvO K f = fvD x x st) (h : fnVB K f x dd = true) (n : PySem.W.nsIn K mainGlobals x = some (some (.ref f))) : FunAtV K x st dd := by
  obtain ⟨oc, od, osl, fd, e1, h1, h2, h3, h4, h5, h6, h7⟩ := fvO_some e
  unfold fnVB at h
  rw [e1] at h
  obtain ⟨n1, n2, n3, n4, n5, n6, n7, n8, n9, n10, n11, n12, n13, n14, n15⟩ := fd
  dsimp only at h h1 h2 h3 h4 h5 h6 h7
  subst h1 h2 h3 h4 h5 h6 h7
  obtain ⟨c1, h⟩ := b2 h
  obtain ⟨c3, h⟩ := b2 h
  obtain ⟨c4, h⟩ := b2 h
  obtain ⟨c5, c6⟩ := b2 h
  obtain rfl := List.isEmpty_iff.mp c1
  rcases He.dflB_ok c6 with ⟨z, _⟩ | ⟨_, T, o, its, k, rfl, lT, oT, rv⟩
  · have : dd = [] := by simpa using z
    subst this; cases c5
  · exact ⟨f, T, its, _, n, ⟨⟨oc, od, n9, n10, n11, n12, n13, n14, osl, rfl, e1, c3⟩, c4, o, k, lT, oT⟩, rv⟩
/-- the law's own def, its code object told -/
def fnCB (K : PySem.W.Frag) (f cd T : Addr) (q : Str) : Bool := match K.lookup f with
  | some ⟨_, _, .func fd, _⟩ => fd.closure.isEmpty && (decide (fd.defaults = .none) && (PySem.W.codeIn K fd.code q && (decide (fd.code = .ref cd) && PySem.W.codeHdIn K cd T)))
  | _ => false
theorem funC_ok {cd T : Addr} (e : fvO K f = fvD x x st) (h : fnCB K f cd T x = true) (n : PySem.W.nsIn K mainGlobals x = some (some (.ref f))) (no : K.lookup T = none) : FunAtC K x st cd T := by
  obtain ⟨oc, od, osl, fd, e1, h1, h2, h3, h4, h5, h6, h7⟩ := fvO_some e
  unfold fnCB at h
  rw [e1] at h
  obtain ⟨n1, n2, n3, n4, n5, n6, n7, n8, n9, n10, n11, n12, n13, n14, n15⟩ := fd
  dsimp only at h h1 h2 h3 h4 h5 h6 h7
  subst h1 h2 h3 h4 h5 h6 h7
  obtain ⟨c1, h⟩ := b2 h
  obtain ⟨c2, h⟩ := b2 h
  obtain ⟨c3, h⟩ := b2 h
  obtain ⟨c4, c5⟩ := b2 h
  obtain rfl := List.isEmpty_iff.mp c1
  obtain rfl := of_decide_eq_true c2
  obtain rfl := of_decide_eq_true c4
  exact ⟨⟨f, _, n, oc, od, n9, n10, n11, n12, n14, osl, rfl, e1, c3⟩, c5, no⟩
/-- an __init__ with super(): its closure holds the class -/
def ccOf (K : PySem.W.Frag) (f : Addr) : Addr × Addr := match K.lookup f with
  | some ⟨_, _, .func fd, _⟩ => (match fd.code with | .ref a => a | _ => 0, match fd.closure with | [(_, c)] => c | _ => 0)
  | _ => (0, 0)
def supB (P : Program) (K : PySem.W.Frag) (D f : Addr) (q : Str) : Bool := match K.lookup f with
  | some ⟨_, _, .func fd, _⟩ => decide (fd.closure = [(("__class__" : Str), (ccOf K f).2)]) && (decide (fd.defaults = .none) && (decide (fd.code = .ref (ccOf K f).1) && (PySem.W.codeIn K (.ref (ccOf K f).1) q && ((match K.lookup (ccOf K f).1 with
      | some ⟨_, _, .fields vs, _⟩ => (match (vs[2]? : Option Value) with
        | some (.str file _) => (P.main.file : Str) == file
        | _ => false)
      | _ => false) && (match K.lookup (ccOf K f).2 with
      | some ⟨_, _, .cell (some (.ref D')), _⟩ => decide (D' = D)
      | _ => false)))))
  | _ => false
theorem supB_ok (e : fvO K f = fvD "__init__" q st) (h : supB P K D f q = true) : ∃ fd, SupFn P K q st D f fd (ccOf K f).1 (ccOf K f).2 := by
  obtain ⟨oc, od, osl, fd, e1, h1, h2, h3, h4, h5, h6, h7⟩ := fvO_some e
  unfold supB at h
  rw [e1] at h
  generalize ha : (ccOf K f).1 = cda at h ⊢
  generalize hc : (ccOf K f).2 = cc at h ⊢
  obtain ⟨n1, n2, n3, n4, n5, n6, n7, n8, n9, n10, n11, n12, n13, n14, n15⟩ := fd
  dsimp only at h h1 h2 h3 h4 h5 h6 h7
  subst h1 h2 h3 h4 h5 h6 h7
  obtain ⟨c1, h⟩ := b2 h
  obtain ⟨c2, h⟩ := b2 h
  obtain ⟨c3, h⟩ := b2 h
  obtain ⟨c4, h⟩ := b2 h
  obtain ⟨c5, c6⟩ := b2 h
  obtain rfl := of_decide_eq_true c1
  obtain rfl := of_decide_eq_true c2
  obtain rfl := of_decide_eq_true c3
  split at c5
  · next ccl cdd vs ccs e5 =>
    split at c5
    · next file tf e6 =>
      split at c6
      · next cl cld D' csl e7 =>
        obtain rfl := of_decide_eq_true c6
        exact ⟨_, oc, ccl, cl, n9, n10, n11, n14, od, cdd, cld, n12, osl, ccs, csl, vs, file, tf, rfl, e1, c4, e5, e6, c5, e7⟩
      · cases c6
    · cases c5
  · cases c5
def supOB (K : PySem.W.Frag) (D f2 : Addr) : Bool := (PySem.W.clsIn K D).isSome && (decide (PySem.W.mroIn K D (.ref D) = some true) && (He.eqO (PySem.W.ks_superIn K D D "__init__") (some (some (.ref f2))) && (He.eqO (PySem.W.nsIn K cStatics "thirdparty.any") (some none) && (He.eqO (PySem.W.nsIn K mainGlobals "super") (some none) && (decide (PySem.W.typeIn K (.ref f2) = some (.type "function")) && PySem.W.fnIn K f2)))))
theorem supOB_ok {f2 : Addr} (h : supOB K D f2 = true) : SupO K D f2 := by
  obtain ⟨c1, h⟩ := b2 h
  obtain ⟨c2, h⟩ := b2 h
  obtain ⟨c3, h⟩ := b2 h
  obtain ⟨c4, h⟩ := b2 h
  obtain ⟨c5, h⟩ := b2 h
  obtain ⟨c6, c7⟩ := b2 h
  exact ⟨Option.isSome_iff_exists.mp c1, of_decide_eq_true c2, He.eqO_ok c3, He.eqO_ok c4, He.eqO_ok c5, of_decide_eq_true c6, c7⟩
def supIB (P : Program) (K : PySem.W.Frag) (D f f2 : Addr) (q : Str) : Bool := supOB K D f2 && (PySem.W.keepIn K (.ref f) && supB P K D f q)
theorem supIB_ok {f2 : Addr} (e : fvO K f = fvD "__init__" q st) (h : supIB P K D f f2 q = true) : SupI P K q st D f f2 := by
  obtain ⟨c1, h⟩ := b2 h
  obtain ⟨c2, c3⟩ := b2 h
  obtain ⟨fd, F⟩ := supB_ok e c3
  exact ⟨supOB_ok c1, c2, fd, _, _, F⟩
/-! exceptions -/
def oexB (K : PySem.W.Frag) (C : Addr) : Bool := match K.lookup C with
  | some ⟨.type "type", _, .cls cd, sl⟩ => (match cd.mro, sl.toList with
    | .ref C' :: bm, [_, _, _, _, some (.builtin n), _] => decide (C' = C) && (decide (n = "ValueError.__new__") && (!cd.hasDel && (cd.hasDict && PySem.HandSPX.refsVE bm)))
    | _, _ => false)
  | _ => false
theorem oexB_ok (h : oexB K C = true) : ∃ nm q N bs bm sn sub ab col dd k0 k1 k2 k3 k5, K.lookup C = some (excClassObj nm q C N bs bm true sn sub ab col dd k0 k1 k2 k3 k5 "ValueError.__new__") ∧ PySem.HandSPX.refsVE bm = true := by
  unfold oexB at h
  split at h
  · next dd cd sl ho =>
    split at h
    · next C' bm k0 k1 k2 k3 n k5 hm hs =>
      obtain ⟨c1, h⟩ := b2 h
      obtain ⟨c2, h⟩ := b2 h
      obtain ⟨c3, h⟩ := b2 h
      obtain ⟨c4, c5⟩ := b2 h
      obtain rfl := of_decide_eq_true c1
      obtain rfl := of_decide_eq_true c2
      have c3' : cd.hasDel = false := by simpa using c3
      clear c3
      obtain ⟨nm, bs, mro, ns, qn, hd, sn, sub, ab, col, del⟩ := cd
      dsimp only at hm c3' c4
      subst hm c3' c4
      have hsl : sl = #[k0, k1, k2, k3, some (.builtin "ValueError.__new__"), k5] := by
        obtain ⟨l⟩ := sl
        simp only at hs
        rw [hs]
      subst hsl
      exact ⟨nm, qn, ns, bs, bm, sn, sub, ab, col, dd, k0, k1, k2, k3, k5, ho, c5⟩
    · cases h
  · cases h
def exc1B (P : Program) (K : PySem.W.Frag) (C f : Addr) (q fld : Str) : Bool := oexB K C && (He.eqO (PySem.W.findIn K (.ref C) "__setattr__") (some (some (.builtin "object.__setattr__"))) && (decide (PySem.W.subIn K (.ref C) (.type "BaseException") = some true) && (decide (PySem.W.typeIn K (.ref C) = some (.type "type")) && (PySem.W.keepIn K (.ref C) && ((PySem.W.clsIn K C).isSome && (decide (PySem.W.mroIn K C (.ref C) = some true) &&
  (He.eqO (PySem.W.ks_superIn K C C "__init__") (some (some (.builtin "ValueError.__init__"))) && (decide (PySem.W.subIn K (.ref C) (.type "ValueError") = some true) && (He.eqO (PySem.W.nsIn K cStatics "thirdparty.any") (some none) && (He.eqO (PySem.W.nsIn K mainGlobals "super") (some none) && (He.eqO (PySem.W.findIn K (.ref C) "code") (some none) && (He.eqO (PySem.W.findIn K (.ref C) fld) (some none) &&
  (He.eqO (PySem.W.findIn K (.ref C) "__init__") (some (some (.ref f))) && (decide (PySem.W.typeIn K (.ref f) = some (.type "function")) && supB P K C f q))))))))))))))
theorem exc1B_ok {x2 fld prm text : Str} (e : fvO K f = fvD "__init__" q st) (h : exc1B P K C f q fld = true) : Exc1 P K x2 q fld prm text st C := by
  obtain ⟨c1, h⟩ := b2 h
  obtain ⟨c2, h⟩ := b2 h
  obtain ⟨c3, h⟩ := b2 h
  obtain ⟨c4, h⟩ := b2 h
  obtain ⟨c5, h⟩ := b2 h
  obtain ⟨c6, h⟩ := b2 h
  obtain ⟨c7, h⟩ := b2 h
  obtain ⟨c8, h⟩ := b2 h
  obtain ⟨c9, h⟩ := b2 h
  obtain ⟨c10, h⟩ := b2 h
  obtain ⟨c11, h⟩ := b2 h
  obtain ⟨c12, h⟩ := b2 h
  obtain ⟨c13, h⟩ := b2 h
  obtain ⟨c14, h⟩ := b2 h
  obtain ⟨c15, c16⟩ := b2 h
  obtain ⟨fd, F⟩ := supB_ok e c16
  exact ⟨⟨⟨oexB_ok c1, He.eqO_ok c2, of_decide_eq_true c3, of_decide_eq_true c4, c5⟩, Option.isSome_iff_exists.mp c6, of_decide_eq_true c7, He.eqO_ok c8, of_decide_eq_true c9, He.eqO_ok c10, He.eqO_ok c11, He.eqO_ok c12⟩, He.eqO_ok c13, f, fd, _, _, F, He.eqO_ok c14, of_decide_eq_true c15⟩
/-! built-ins, constants -/
def subTB (K : PySem.W.Frag) (c : String) : Bool := PySem.W.kitMeta c && (["NoneType", "bool", "int", "str", "tuple", "list", "dict"] : List String).all fun t => decide (PySem.W.subIn K (.type t) (.type c) = some (t == c || (t == "bool" && c == "int")))
theorem subTB_ok {c : String} (h : subTB K c = true) : SubTab K c := by
  obtain ⟨c1, c2⟩ := b2 h
  refine ⟨c1, fun t ht => of_decide_eq_true (List.all_eq_true.mp c2 t ?_)⟩
  simp only [List.mem_cons, List.not_mem_nil, or_false]
  exact ht
def intCB (K : PySem.W.Frag) (x : Str) (i : Int) : Bool := match PySem.W.nsIn K mainGlobals x with
  | some (some (.int j _)) => decide (j = i)
  | _ => false
theorem intCB_ok {i : Int} (h : intCB K x i = true) : ∃ t, PySem.W.nsIn K mainGlobals x = some (some (.int i t)) := by
  unfold intCB at h
  split at h
  · next j t e => rw [← of_decide_eq_true h]; exact ⟨t, e⟩
  · cases h
def strCB (K : PySem.W.Frag) (x z : Str) : Bool := match PySem.W.nsIn K mainGlobals x with
  | some (some (.str j _)) => decide (j = z)
  | _ => false
theorem strCB_ok {z : Str} (h : strCB K x z = true) : ∃ t, PySem.W.nsIn K mainGlobals x = some (some (.str z t)) := by
  unfold strCB at h
  split at h
  · next j t e => rw [← of_decide_eq_true h]; exact ⟨t, e⟩
  · cases h
def toDv : Hw.D → He.Dv
  | .bl b => .bl b
  | .int i => .int i
  | .str s => .str s
  | _ => .non
theorem toDv_v {d : Hw.D} (h : flatD d = true) : (toDv d).v K = fv d := by cases d <;> first | rfl | cases h
def tupCB (K : PySem.W.Frag) (x : Str) (ds : List Hw.D) : Bool := He.eqO (PySem.W.nsIn K mainGlobals x) (some (some (.ref (He.ga K x)))) && (ds.all flatD && He.tupB K x (ds.map toDv))
theorem tupCB_ok {ds : List Hw.D} (h : tupCB K x ds = true) : ds.all flatD = true ∧ ∃ a, PySem.W.nsIn K mainGlobals x = some (some (.ref a)) ∧ ∀ H, SqT K H a (ds.map fv) := by
  obtain ⟨c1, h⟩ := b2 h
  obtain ⟨c2, c3⟩ := b2 h
  refine ⟨c2, _, He.eqO_ok c1, fun H => ?_⟩
  have e : (ds.map toDv).map (He.Dv.v K) = ds.map fv := by
    rw [List.map_map]
    exact List.map_congr_left fun d hd => toDv_v (List.all_eq_true.mp c2 d hd)
  rw [← e]
  exact He.tupB_ok c3 H
def conB (K : PySem.W.Frag) (C : Addr) (f : Str) (v : V) : Bool := match PySem.W.findIn K (.ref C) f with
  | some (some u) => He.relB v u && (He.eqO (PySem.W.specialIn K u "__get__") (some none) && !PySem.W.copiedNames.contains f)
  | _ => false
theorem conB_ok {v : V} {f : Str} (h : conB K C f v = true) : ∃ u, Con K C f v u := by
  unfold conB at h
  split at h
  · next u e =>
    obtain ⟨c1, h⟩ := b2 h
    obtain ⟨c2, c3⟩ := b2 h
    exact ⟨u, e, He.relB_ok c1, He.eqO_ok c2, by simpa using c3⟩
  · cases h
def cvalB (K : PySem.W.Frag) (C : Addr) (f : Str) (v : V) : Bool := PySem.W.readsIn K C (.type "type") && (He.eqO (PySem.W.specialIn K (.ref C) "__getattribute__") (some (some (.builtin "type.__getattribute__"))) && (match PySem.W.findCls K (.ref C) (.type "type") f with
  | some (.val u) => He.relB v u
  | _ => false))
theorem cvalB_ok {v : V} {d : Hw.D} {f : Str} (n : ∀ μ H, Den K μ H v d) (h : cvalB K C f v = true) : CConst K C f d := by
  obtain ⟨c1, h⟩ := b2 h
  obtain ⟨c2, c3⟩ := b2 h
  split at c3
  · next u e => exact ⟨_, v, u, ⟨c1, He.eqO_ok c2⟩, ⟨e, He.relB_ok c3⟩, n⟩
  · cases c3
def isoB (K : PySem.W.Frag) (C : Addr) : Bool := baseT.all fun n => PySem.W.kitOne K (.type n) (.ref C) == some false
theorem isoB_ok (h : isoB K C = true) : IsoF K C := ⟨h⟩
def eqB (K : PySem.W.Frag) (C g : Addr) : Bool := He.eqO (PySem.W.findIn K (.ref C) "__eq__") (some (some (.ref g))) && (PySem.W.isFn K (.ref g) && (He.eqO (PySem.W.findIn K (.ref C) "__ne__") (some (some (.builtin "object.__ne__"))) && (decide (PySem.W.mroIn K C (.type "object") = some true) && (baseT.all fun n => PySem.W.subIn K (.type n) (.ref C) == some false))))
theorem eqB_ok (h : eqB K C g = true) : EqF K C g := by
  obtain ⟨c1, h⟩ := b2 h
  obtain ⟨c2, h⟩ := b2 h
  obtain ⟨c3, h⟩ := b2 h
  obtain ⟨c4, c5⟩ := b2 h
  exact ⟨He.eqO_ok c1, c2, He.eqO_ok c3, of_decide_eq_true c4, c5⟩
def seB (K : PySem.W.Frag) (C g : Addr) (m : Str) : Bool := He.eqO (PySem.W.findIn K (.ref C) m) (some (some (.ref g))) && PySem.W.isFn K (.ref g)
theorem seB_ok (h : seB K C g m = true) : SeF K C g m := by
  obtain ⟨c1, c2⟩ := b2 h
  exact ⟨He.eqO_ok c1, c2⟩
def iscB (K : PySem.W.Frag) (C : Addr) : Bool := clsB K C && (He.eqO (PySem.W.findIn K (.ref C) "__class__") (some (some (.builtin "object.__class__"))) && (He.eqO (PySem.W.specialIn K (.builtin "object.__class__") "__get__") (some (some (.builtin "getset_descriptor.__get__"))) && (decide (PySem.W.takesIn K (.builtin "object.__class__") = some true) && decide (PySem.W.mroIn K C (.type "object") = some true))))
theorem iscB_ok (h : iscB K C = true) : IsC K C := by
  obtain ⟨c1, h⟩ := b2 h
  obtain ⟨c2, h⟩ := b2 h
  obtain ⟨c3, h⟩ := b2 h
  obtain ⟨c4, c5⟩ := b2 h
  exact ⟨clsB_ok c1, He.eqO_ok c2, He.eqO_ok c3, of_decide_eq_true c4, of_decide_eq_true c5⟩
/-- a property of the class -/
def propB (K : PySem.W.Frag) (C : Addr) (f : Str) (g : Addr) : Bool := He.eqO (PySem.W.findIn K (.ref C) f) (some (some (.ref (He.ma K C f)))) && (He.eqO (PySem.W.specialIn K (.ref (He.ma K C f)) "__get__") (some (some (.builtin "property.__get__"))) && (decide (PySem.W.takesIn K (.ref (He.ma K C f)) = some true) && (match PySem.W.recIn K (He.ma K C f) "property" with
  | some (.ref g' :: _) => decide (g' = g)
  | _ => false)))
theorem propB_ok {f : Str} (h : propB K C f g = true) : ∃ p, PropOf K C f p g := by
  obtain ⟨c1, h⟩ := b2 h
  obtain ⟨c2, h⟩ := b2 h
  obtain ⟨c3, c4⟩ := b2 h
  split at c4
  · next g' r e => exact ⟨_, He.eqO_ok c1, He.eqO_ok c2, of_decide_eq_true c3, r, by rw [← of_decide_eq_true c4]; exact e⟩
  · cases c4
/-- a record's def: the getter of a property, the def of a static, a class method -/
def recFn (K : PySem.W.Frag) (p : Addr) : Addr := match K.lookup p with
  | some ⟨_, _, .fields vs, _⟩ => (match (vs[0]? : Option Value) with
    | some (.ref g) => g
    | _ => 0)
  | _ => 0
end
/-! ### the Hook -/
/-- what an object names -/
def refsH (o : Obj) : List Addr := match o.data with
  | .seq its _ => its.toList.flatMap He.refV
  | .dict es _ => es.toList.flatMap fun e => He.refV e.val
  | .func fd => He.refV fd.code ++ He.refV fd.defaults ++ He.refV fd.kwdefaults ++ fd.closure.map (·.2)
  | .cls cd => [cd.ns]
  | .fields vs => (match o.cls with
    | .type "property" => vs.toList.flatMap He.refV
    | .type "staticmethod" => vs.toList.flatMap He.refV
    | .type "classmethod" => vs.toList.flatMap He.refV
    | _ => [])
  | .cell (some v) => He.refV v
  | _ => []
/-- what the addresses name, not yet seen -/
def newH (g : Addr → Option Obj) (seen : List Addr) (as : List Addr) : List Addr := as.foldl (fun acc a => match g a with
  | some o => (refsH o).foldl (fun acc b => match seen.contains b || acc.contains b with
    | true => acc
    | false => b :: acc) acc
  | none => acc) []
def asH (g : Addr → Option Obj) : Nat → List Addr → List Addr → List Addr
  | 0, seen, _ => seen
  | n + 1, seen, as => asH g n (seen ++ newH g seen as) (newH g seen as)
def KH (g : Addr → Option Obj) (n : Nat) : PySem.W.Frag := He.frT g (asH g n [mainGlobals, cStatics] [mainGlobals])
structure FD where
  ad : PySem.W.Frag → Addr
  name : Str
  qual : Str
  st : Stmt
def tabTB (g : Addr → Option Obj) (lam : Bool) (K : PySem.W.Frag) : Bool := !lam || (match g (He.cT K ("law", none)).2 with
  | some o => He.emptyTab o
  | none => false)
abbrev AlH : Type := Bool × List FV
def obsH (n : Nat) (fs : List (PySem.W.Frag → Bool)) (fn : List FD) (lam : Bool) (g : Addr → Option Obj) : AlH := ((fs.all fun b => b (KH g n)) && tabTB g lam (KH g n), fn.map fun d => fvO (KH g n) (d.ad (KH g n)))
def valH (fn : List FD) : AlH := (true, fn.map fun d => fvD d.name d.qual d.st)
structure SaysH (fs : List (PySem.W.Frag → Bool)) (fn : List FD) (lam : Bool) (h : Heap) (K : PySem.W.Frag) : Prop where
  fact : ∀ b ∈ fs, b K = true
  defs : ∀ d ∈ fn, fvO K (d.ad K) = fvD d.name d.qual d.st
  out : lam = true → K.lookup (He.cT K ("law", none)).2 = none
  empty : lam = true → h.get? (He.cT K ("law", none)).2 = some (PySem.W.tabObj #[])
theorem saysH_of {n : Nat} {fs : List (PySem.W.Frag → Bool)} {fn : List FD} {lam : Bool} {h : Heap} (e : obsH n fs fn lam h.get? = valH fn) : SaysH fs fn lam h (KH h.get? n) := by
  have e1 : ((fs.all fun b => b (KH h.get? n)) && tabTB h.get? lam (KH h.get? n)) = true := congrArg (fun z : AlH => z.1) e
  have e2 : (fn.map fun d => fvO (KH h.get? n) (d.ad (KH h.get? n))) = fn.map fun d => fvD d.name d.qual d.st := congrArg (fun z : AlH => z.2) e
  obtain ⟨c1, c2⟩ := b2 e1
  have tb : lam = true → ∃ o, h.get? (He.cT (KH h.get? n) ("law", none)).2 = some o ∧ He.emptyTab o = true := fun hl => by
    unfold tabTB at c2
    rw [hl] at c2
    cases q : h.get? (He.cT (KH h.get? n) ("law", none)).2 with
    | none => rw [q] at c2; cases c2
    | some o => rw [q] at c2; exact ⟨o, rfl, c2⟩
  refine ⟨fun b hb => List.all_eq_true.mp c1 b hb, fun d hd => ?_, fun hl => ?_, fun hl => ?_⟩
  · exact List.map_inj_left.mp e2 d hd
  · obtain ⟨o, q, z⟩ := tb hl
    exact He.frT_none q z
  · obtain ⟨o, q, z⟩ := tb hl
    rw [q, He.emptyTab_eq z]
def hookH (n : Nat) (fs : List (PySem.W.Frag → Bool)) (fn : List FD) (lam : Bool) : PySem.W.Hook where
  α := AlH
  obs := fun s => obsH n fs fn lam s.heap.get?
  val := fun _ => valH fn
  says := fun _ h => ∃ K : PySem.W.Frag, K.In h ∧ SaysH fs fn lam h K
  of := fun _ _ e => ⟨_, He.frT_in, saysH_of e⟩
  keeps := fun _ _ _ ⟨K, hK, c⟩ k => ⟨K, PySem.W.Frag.In.keeps hK k, ⟨c.fact, c.defs, c.out, fun hl => k _ _ (c.empty hl)⟩⟩
theorem obsH_eq {n : Nat} {fs : List (PySem.W.Frag → Bool)} {fn : List FD} {lam : Bool} {g : Addr → Option Obj} {s : Shared} (h : ∀ a, g a = s.heap.get? a) : obsH n fs fn lam g = (hookH n fs fn lam).obs s := by
  have e : g = s.heap.get? := funext h
  rw [e] <;> rfl
theorem SaysH.b {fs : List (PySem.W.Frag → Bool)} {fn : List FD} {lam : Bool} {h : Heap} {K : PySem.W.Frag} (c : SaysH fs fn lam h K) (i : Nat) {b : PySem.W.Frag → Bool} (e : fs[i]? = some b := by rfl) : b K = true := c.fact b (List.mem_of_getElem? e)
theorem SaysH.d {fs : List (PySem.W.Frag → Bool)} {fn : List FD} {lam : Bool} {h : Heap} {K : PySem.W.Frag} (c : SaysH fs fn lam h K) (i : Nat) {d : FD} (e : fn[i]? = some d := by rfl) : fvO K (d.ad K) = fvD d.name d.qual d.st := c.defs d (List.mem_of_getElem? e)
end Hw
set_option Elab.async false
set_option linter.all false
set_option maxRecDepth 100000
set_option maxHeartbeats 2000000
namespace Hw
open PySem L2 PyProof.Rows PySem.Spec
/-- the goal that such a head leaves, for a law that makes lambdas -/
theorem walk_endTE {l : PySem.W.OpenLaw} {n k : Nat} {q : Program} {loose : List Str} {XP : (Str → Option Value) → Heap → Prop} {YP : World → Heap → Prop} {d : DefRec} {x tq : Str} {C : Addr → CT}
    (hn : l.most = some n) (hn2 : n ≤ sizeLine) (hdf : d.params.defaults = []) (hr : Rm k callerA)
    (F : ∀ (w : World) (mg : Str → Option Value) (fa : Addr) (h : Heap), YP w h → h.Ns mainGlobals mg → mg d.name = some (.ref fa) →
      ∃ (K : PySem.W.Frag) (cd T : Addr) (fd : FuncData), K.In h ∧ h.get? T = some (PySem.W.tabObj #[]) ∧ List.lookup T K = none ∧ PySem.W.CodeHd h cd T ∧ (∀ (s : Shared) (u : Value), BindsTo s fd ⟨[u], []⟩ [(x, u)]) ∧
        ∀ base : Heap, K.In base → base.Ns mainGlobals mg → LamX.TabB base mg cd T → FnG l.prog w K mg base k fa fd [x] (C T))
    (hC : ∀ (T : Addr) (ns : List Int), ns.length ≤ n → (∀ z ∈ ns, Builtin.Int.intBits z ≤ 1048576) → C T [.rol (ns.map .int)] (mu0 T tq) (fun d _ => d = .bl true) noX) :
    PySem.W.WalkO q loose XP YP l.row.toRowW d [] (fun f vs => PySem.call f vs) := by
  refine Att.attach_callB hn hdf fun w s0 s1 mg mb fa o pm cd doc a vs ns G Y ho hd hcd hmg hobj hints hlen hbits hg => ?_
  obtain ⟨K, cd, T, fd, KX, h1, h2, h3, hb, hF⟩ := F w mg fa _ Y G.T.g hmg
  exact law_endT KX G.T.g G.T.b G.T.builtins G.T.nolimit hg G.T.bmain h1 h2 h3 hobj hints (Nat.le_trans hlen hn2) hr hF hb (hC T ns hlen hbits)
/-- .. for one that makes none -/
theorem walk_endE {l : PySem.W.OpenLaw} {n k : Nat} {q : Program} {loose : List Str} {XP : (Str → Option Value) → Heap → Prop} {YP : World → Heap → Prop} {d : DefRec} {x : Str} {C : CT}
    (hn : l.most = some n) (hn2 : n ≤ sizeLine) (hdf : d.params.defaults = []) (hr : Rm k callerA)
    (F : ∀ (w : World) (mg : Str → Option Value) (fa : Addr) (h : Heap), YP w h → h.Ns mainGlobals mg → mg d.name = some (.ref fa) →
      ∃ (K : PySem.W.Frag) (fd : FuncData), K.In h ∧ (∀ (s : Shared) (u : Value), BindsTo s fd ⟨[u], []⟩ [(x, u)]) ∧ ∀ base : Heap, K.In base → base.Ns mainGlobals mg → FnG l.prog w K mg base k fa fd [x] C)
    (hC : ∀ (ns : List Int), ns.length ≤ n → (∀ z ∈ ns, Builtin.Int.intBits z ≤ 1048576) → C [.rol (ns.map .int)] (fun _ => none) (fun d _ => d = .bl true) noX) :
    PySem.W.WalkO q loose XP YP l.row.toRowW d [] (fun f vs => PySem.call f vs) := by
  refine Att.attach_callB hn hdf fun w s0 s1 mg mb fa o pm cd doc a vs ns G Y ho hd hcd hmg hobj hints hlen hbits hg => ?_
  obtain ⟨K, fd, KX, hb, hF⟩ := F w mg fa _ Y G.T.g hmg
  exact law_end KX G.T.g G.T.b G.T.builtins G.T.nolimit hg hobj hints (Nat.le_trans hlen hn2) hr hF hb (hC ns hlen hbits)
end Hw
set_option Elab.async false
set_option linter.all false
set_option maxRecDepth 100000
set_option maxHeartbeats 4000000
set_option exponentiation.threshold 2000
namespace Hw
open PySem L2 PyProof.Rows

def hfs : List (PySem.W.Frag → Bool) :=
  ([fun K => He.eqO (PySem.W.nsIn K mainGlobals "NetError") (some (some (.ref (He.ga K "NetError")))),
    fun K => He.eqO (PySem.W.nsIn K mainGlobals "InvalidRatio") (some (some (.ref (He.ga K "InvalidRatio")))),
    fun K => He.eqO (PySem.W.nsIn K mainGlobals "InvalidName") (some (some (.ref (He.ga K "InvalidName")))),
    fun K => He.eqO (PySem.W.nsIn K mainGlobals "InvalidKind") (some (some (.ref (He.ga K "InvalidKind")))),
    fun K => He.eqO (PySem.W.nsIn K mainGlobals "InvalidGain") (some (some (.ref (He.ga K "InvalidGain")))),
    fun K => exc1B PySem.Challenge.rw_heardways_k09_lines_told.prog K (He.ga K "InvalidRatio") (He.ma K (He.ga K "InvalidRatio") "__init__") "InvalidRatio.__init__" "given",
    fun K => xfB K (He.ga K "InvalidRatio"),
    fun K => exc1B PySem.Challenge.rw_heardways_k09_lines_told.prog K (He.ga K "InvalidName") (He.ma K (He.ga K "InvalidName") "__init__") "InvalidName.__init__" "given",
    fun K => xfB K (He.ga K "InvalidName"),
    fun K => exc1B PySem.Challenge.rw_heardways_k09_lines_told.prog K (He.ga K "InvalidKind") (He.ma K (He.ga K "InvalidKind") "__init__") "InvalidKind.__init__" "given",
    fun K => xfB K (He.ga K "InvalidKind"),
    fun K => exc1B PySem.Challenge.rw_heardways_k09_lines_told.prog K (He.ga K "InvalidGain") (He.ma K (He.ga K "InvalidGain") "__init__") "InvalidGain.__init__" "at",
    fun K => xfB K (He.ga K "InvalidGain"),
    fun K => fnB K (He.ga K "is_integer") "is_integer" && He.eqO (PySem.W.nsIn K mainGlobals "is_integer") (some (some (.ref (He.ga K "is_integer")))),
    fun K => fnB K (He.ga K "common_divisor") "common_divisor" && He.eqO (PySem.W.nsIn K mainGlobals "common_divisor") (some (some (.ref (He.ga K "common_divisor")))),
    fun K => fnB K (He.ga K "is_ratio") "is_ratio" && He.eqO (PySem.W.nsIn K mainGlobals "is_ratio") (some (some (.ref (He.ga K "is_ratio")))),
    fun K => fnB K (He.ga K "is_valued") "is_valued" && He.eqO (PySem.W.nsIn K mainGlobals "is_valued") (some (some (.ref (He.ga K "is_valued")))),
    fun K => fnB K (He.ga K "ratio_of") "ratio_of" && He.eqO (PySem.W.nsIn K mainGlobals "ratio_of") (some (some (.ref (He.ga K "ratio_of")))),
    fun K => fnB K (He.ga K "is_name") "is_name" && He.eqO (PySem.W.nsIn K mainGlobals "is_name") (some (some (.ref (He.ga K "is_name")))),
    fun K => fnB K (He.ga K "made") "made" && He.eqO (PySem.W.nsIn K mainGlobals "made") (some (some (.ref (He.ga K "made"))))] : List (PySem.W.Frag → Bool)) ++
  ([fun K => fnB K (He.ga K "_law_source") "_law_source" && He.eqO (PySem.W.nsIn K mainGlobals "_law_source") (some (some (.ref (He.ga K "_law_source")))),
    fun K => fnB K (He.ga K "_law_draw") "_law_draw" && He.eqO (PySem.W.nsIn K mainGlobals "_law_draw") (some (some (.ref (He.ga K "_law_draw")))),
    fun K => fnB K (He.ga K "_law_of") "_law_of" && He.eqO (PySem.W.nsIn K mainGlobals "_law_of") (some (some (.ref (He.ga K "_law_of")))),
    fun K => fnB K (He.ga K "_law_mixed") "_law_mixed" && He.eqO (PySem.W.nsIn K mainGlobals "_law_mixed") (some (some (.ref (He.ga K "_law_mixed")))),
    fun K => fnB K (He.ga K "_law_same") "_law_same" && He.eqO (PySem.W.nsIn K mainGlobals "_law_same") (some (some (.ref (He.ga K "_law_same")))),
    fun K => fnB K (He.ga K "_law_low") "_law_low" && He.eqO (PySem.W.nsIn K mainGlobals "_law_low") (some (some (.ref (He.ga K "_law_low")))),
    fun K => fnB K (He.ga K "_law_plus") "_law_plus" && He.eqO (PySem.W.nsIn K mainGlobals "_law_plus") (some (some (.ref (He.ga K "_law_plus")))),
    fun K => fnB K (He.ga K "_law_names") "_law_names" && He.eqO (PySem.W.nsIn K mainGlobals "_law_names") (some (some (.ref (He.ga K "_law_names")))),
    fun K => fnB K (He.ga K "_law_gain") "_law_gain" && He.eqO (PySem.W.nsIn K mainGlobals "_law_gain") (some (some (.ref (He.ga K "_law_gain")))),
    fun K => fnB K (He.ga K "_law_gains") "_law_gains" && He.eqO (PySem.W.nsIn K mainGlobals "_law_gains") (some (some (.ref (He.ga K "_law_gains")))),
    fun K => fnB K (He.ga K "_law_line") "_law_line" && He.eqO (PySem.W.nsIn K mainGlobals "_law_line") (some (some (.ref (He.ga K "_law_line")))),
    fun K => fnB K (He.ga K "_law_class_so") "_law_class_so" && He.eqO (PySem.W.nsIn K mainGlobals "_law_class_so") (some (some (.ref (He.ga K "_law_class_so")))),
    fun K => fnB K (He.ga K "law") "law" && He.eqO (PySem.W.nsIn K mainGlobals "law") (some (some (.ref (He.ga K "law")))),
    fun K => He.eqO (PySem.W.nsIn K mainGlobals "Line") (some (some (.ref (He.ga K "Line")))),
    fun K => He.eqO (PySem.W.nsIn K mainGlobals "Steady") (some (some (.ref (He.ga K "Steady")))),
    fun K => He.eqO (PySem.W.nsIn K mainGlobals "Read") (some (some (.ref (He.ga K "Read")))),
    fun K => He.eqO (PySem.W.nsIn K mainGlobals "Send") (some (some (.ref (He.ga K "Send")))),
    fun K => clsB K (He.ga K "Line"),
    fun K => isoB K (He.ga K "Line"),
    fun K => clsB K (He.ga K "Steady")] : List (PySem.W.Frag → Bool)) ++
  ([fun K => isoB K (He.ga K "Steady"),
    fun K => clsB K (He.ga K "Read"),
    fun K => isoB K (He.ga K "Read"),
    fun K => clsB K (He.ga K "Send"),
    fun K => isoB K (He.ga K "Send"),
    fun K => mkB K (He.ga K "Line") (He.ma K (He.ga K "Line") "__init__"),
    fun K => mkB K (He.ga K "Steady") (He.ma K (He.ga K "Steady") "__init__"),
    fun K => mkB K (He.ga K "Read") (He.ma K (He.ga K "Read") "__init__"),
    fun K => mkB K (He.ga K "Send") (He.ma K (He.ga K "Send") "__init__"),
    fun K => methB K (He.ga K "Line") "gains" (He.ma K (He.ga K "Line") "gains"),
    fun K => methB K (He.ga K "Steady") "gains" (He.ma K (He.ga K "Line") "gains"),
    fun K => methB K (He.ga K "Read") "gains" (He.ma K (He.ga K "Line") "gains"),
    fun K => methB K (He.ga K "Send") "gains" (He.ma K (He.ga K "Line") "gains"),
    fun K => methB K (He.ga K "Line") "__len__" (He.ma K (He.ga K "Line") "__len__"),
    fun K => methB K (He.ga K "Steady") "__len__" (He.ma K (He.ga K "Line") "__len__"),
    fun K => methB K (He.ga K "Read") "__len__" (He.ma K (He.ga K "Line") "__len__"),
    fun K => methB K (He.ga K "Send") "__len__" (He.ma K (He.ga K "Line") "__len__"),
    fun K => methB K (He.ga K "Line") "__repr__" (He.ma K (He.ga K "Line") "__repr__"),
    fun K => methB K (He.ga K "Steady") "__repr__" (He.ma K (He.ga K "Line") "__repr__"),
    fun K => methB K (He.ga K "Read") "__repr__" (He.ma K (He.ga K "Line") "__repr__")] : List (PySem.W.Frag → Bool)) ++
  ([fun K => methB K (He.ga K "Send") "__repr__" (He.ma K (He.ga K "Line") "__repr__"),
    fun K => methB K (He.ga K "Line") "__bool__" (He.ma K (He.ga K "Line") "__bool__"),
    fun K => methB K (He.ga K "Steady") "__bool__" (He.ma K (He.ga K "Line") "__bool__"),
    fun K => methB K (He.ga K "Read") "__bool__" (He.ma K (He.ga K "Line") "__bool__"),
    fun K => methB K (He.ga K "Send") "__bool__" (He.ma K (He.ga K "Line") "__bool__"),
    fun K => methB K (He.ga K "Line") "renamed" (He.ma K (He.ga K "Line") "renamed"),
    fun K => methB K (He.ga K "Steady") "renamed" (He.ma K (He.ga K "Line") "renamed"),
    fun K => methB K (He.ga K "Read") "renamed" (He.ma K (He.ga K "Line") "renamed"),
    fun K => methB K (He.ga K "Send") "renamed" (He.ma K (He.ga K "Line") "renamed"),
    fun K => methB K (He.ga K "Line") "__eq__" (He.ma K (He.ga K "Line") "__eq__"),
    fun K => methB K (He.ga K "Steady") "__eq__" (He.ma K (He.ga K "Line") "__eq__"),
    fun K => methB K (He.ga K "Read") "__eq__" (He.ma K (He.ga K "Line") "__eq__"),
    fun K => methB K (He.ga K "Send") "__eq__" (He.ma K (He.ga K "Line") "__eq__"),
    fun K => fnB K (He.ma K (He.ga K "Line") "__init__") "Line.__init__",
    fun K => supIB PySem.Challenge.rw_heardways_k09_lines_told.prog K (He.ga K "Send") (He.ma K (He.ga K "Send") "__init__") (He.ma K (He.ga K "Line") "__init__") "Send.__init__",
    fun K => supIB PySem.Challenge.rw_heardways_k09_lines_told.prog K (He.ga K "Read") (He.ma K (He.ga K "Read") "__init__") (He.ma K (He.ga K "Line") "__init__") "Read.__init__",
    fun K => supIB PySem.Challenge.rw_heardways_k09_lines_told.prog K (He.ga K "Steady") (He.ma K (He.ga K "Steady") "__init__") (He.ma K (He.ga K "Line") "__init__") "Steady.__init__",
    fun K => fnB K (He.ma K (He.ga K "Line") "gains") "Line.gains",
    fun K => fnB K (He.ma K (He.ga K "Line") "__len__") "Line.__len__",
    fun K => fnB K (He.ma K (He.ga K "Line") "__repr__") "Line.__repr__"] : List (PySem.W.Frag → Bool)) ++
  ([fun K => fnB K (He.ma K (He.ga K "Line") "__bool__") "Line.__bool__",
    fun K => fnB K (He.ma K (He.ga K "Line") "renamed") "Line.renamed",
    fun K => fnB K (He.ma K (He.ga K "Line") "__eq__") "Line.__eq__",
    fun K => conB K (He.ga K "Line") "KIND" (.str "line"),
    fun K => conB K (He.ga K "Steady") "KIND" (.str "steady"),
    fun K => conB K (He.ga K "Read") "KIND" (.str "read"),
    fun K => conB K (He.ga K "Send") "KIND" (.str "send"),
    fun K => conB K (He.ga K "Line") "MOVED" (.bl false),
    fun K => conB K (He.ga K "Steady") "MOVED" (.bl false),
    fun K => conB K (He.ga K "Read") "MOVED" (.bl true),
    fun K => conB K (He.ga K "Send") "MOVED" (.bl true),
    fun K => He.eqO (PySem.W.findIn K (.ref (He.ga K "Line")) "name") (some none),
    fun K => He.eqO (PySem.W.findIn K (.ref (He.ga K "Steady")) "name") (some none),
    fun K => He.eqO (PySem.W.findIn K (.ref (He.ga K "Read")) "name") (some none),
    fun K => He.eqO (PySem.W.findIn K (.ref (He.ga K "Send")) "name") (some none),
    fun K => He.eqO (PySem.W.findIn K (.ref (He.ga K "Line")) "own_gains") (some none),
    fun K => He.eqO (PySem.W.findIn K (.ref (He.ga K "Steady")) "own_gains") (some none),
    fun K => He.eqO (PySem.W.findIn K (.ref (He.ga K "Read")) "own_gains") (some none),
    fun K => He.eqO (PySem.W.findIn K (.ref (He.ga K "Send")) "own_gains") (some none),
    fun K => seB K (He.ga K "Line") (He.ma K (He.ga K "Line") "__bool__") "__bool__"] : List (PySem.W.Frag → Bool)) ++
  ([fun K => seB K (He.ga K "Steady") (He.ma K (He.ga K "Line") "__bool__") "__bool__",
    fun K => seB K (He.ga K "Read") (He.ma K (He.ga K "Line") "__bool__") "__bool__",
    fun K => seB K (He.ga K "Send") (He.ma K (He.ga K "Line") "__bool__") "__bool__",
    fun K => eqB K (He.ga K "Line") (He.ma K (He.ga K "Line") "__eq__"),
    fun K => eqB K (He.ga K "Steady") (He.ma K (He.ga K "Line") "__eq__"),
    fun K => eqB K (He.ga K "Read") (He.ma K (He.ga K "Line") "__eq__"),
    fun K => eqB K (He.ga K "Send") (He.ma K (He.ga K "Line") "__eq__"),
    fun K => (PySem.W.subIn K (.ref (He.ga K "Line")) (.ref (He.ga K "Line"))).isSome,
    fun K => (PySem.W.subIn K (.ref (He.ga K "Steady")) (.ref (He.ga K "Line"))).isSome,
    fun K => (PySem.W.subIn K (.ref (He.ga K "Read")) (.ref (He.ga K "Line"))).isSome,
    fun K => (PySem.W.subIn K (.ref (He.ga K "Send")) (.ref (He.ga K "Line"))).isSome,
    fun K => (PySem.W.subIn K (.ref (He.ga K "Line")) (.ref (He.ga K "Steady"))).isSome,
    fun K => (PySem.W.subIn K (.ref (He.ga K "Steady")) (.ref (He.ga K "Steady"))).isSome,
    fun K => (PySem.W.subIn K (.ref (He.ga K "Read")) (.ref (He.ga K "Steady"))).isSome,
    fun K => (PySem.W.subIn K (.ref (He.ga K "Send")) (.ref (He.ga K "Steady"))).isSome,
    fun K => (PySem.W.subIn K (.ref (He.ga K "Line")) (.ref (He.ga K "Read"))).isSome,
    fun K => (PySem.W.subIn K (.ref (He.ga K "Steady")) (.ref (He.ga K "Read"))).isSome,
    fun K => (PySem.W.subIn K (.ref (He.ga K "Read")) (.ref (He.ga K "Read"))).isSome,
    fun K => (PySem.W.subIn K (.ref (He.ga K "Send")) (.ref (He.ga K "Read"))).isSome,
    fun K => (PySem.W.subIn K (.ref (He.ga K "Line")) (.ref (He.ga K "Send"))).isSome] : List (PySem.W.Frag → Bool)) ++
  ([fun K => (PySem.W.subIn K (.ref (He.ga K "Steady")) (.ref (He.ga K "Send"))).isSome,
    fun K => (PySem.W.subIn K (.ref (He.ga K "Read")) (.ref (He.ga K "Send"))).isSome,
    fun K => (PySem.W.subIn K (.ref (He.ga K "Send")) (.ref (He.ga K "Send"))).isSome,
    fun K => iscB K (He.ga K "Line"),
    fun K => decide (PySem.W.kitOne K (.ref (He.ga K "Line")) (.ref (He.ga K "Line")) = some true),
    fun K => iscB K (He.ga K "Steady"),
    fun K => decide (PySem.W.kitOne K (.ref (He.ga K "Steady")) (.ref (He.ga K "Line")) = some true),
    fun K => iscB K (He.ga K "Read"),
    fun K => decide (PySem.W.kitOne K (.ref (He.ga K "Read")) (.ref (He.ga K "Line")) = some true),
    fun K => iscB K (He.ga K "Send"),
    fun K => decide (PySem.W.kitOne K (.ref (He.ga K "Send")) (.ref (He.ga K "Line")) = some true),
    fun K => seB K (He.ga K "Line") (He.ma K (He.ga K "Line") "__len__") "__len__",
    fun K => seB K (He.ga K "Steady") (He.ma K (He.ga K "Line") "__len__") "__len__",
    fun K => seB K (He.ga K "Read") (He.ma K (He.ga K "Line") "__len__") "__len__",
    fun K => seB K (He.ga K "Send") (He.ma K (He.ga K "Line") "__len__") "__len__",
    fun K => seB K (He.ga K "Line") (He.ma K (He.ga K "Line") "__repr__") "__repr__",
    fun K => seB K (He.ga K "Steady") (He.ma K (He.ga K "Line") "__repr__") "__repr__",
    fun K => seB K (He.ga K "Read") (He.ma K (He.ga K "Line") "__repr__") "__repr__",
    fun K => seB K (He.ga K "Send") (He.ma K (He.ga K "Line") "__repr__") "__repr__",
    fun K => cvalB K (He.ga K "Line") "KIND" (.str "line")] : List (PySem.W.Frag → Bool)) ++
  ([fun K => cvalB K (He.ga K "Send") "KIND" (.str "send"),
    fun K => cvalB K (He.ga K "Line") "MOVED" (.bl false),
    fun K => cvalB K (He.ga K "Read") "MOVED" (.bl true),
    fun K => He.eqO (PySem.W.nsIn K mainGlobals "isinstance") (some none),
    fun K => He.eqO (PySem.W.nsIn K mainGlobals "int") (some none),
    fun K => subTB K "int",
    fun K => He.eqO (PySem.W.nsIn K mainGlobals "bool") (some none),
    fun K => subTB K "bool",
    fun K => He.eqO (PySem.W.nsIn K mainGlobals "abs") (some none),
    fun K => He.eqO (PySem.W.nsIn K mainGlobals "tuple") (some none),
    fun K => subTB K "tuple",
    fun K => He.eqO (PySem.W.nsIn K mainGlobals "len") (some none),
    fun K => He.eqO (PySem.W.nsIn K mainGlobals "all") (some none),
    fun K => He.eqO (PySem.W.nsIn K mainGlobals "str") (some none),
    fun K => subTB K "str",
    fun K => intCB K "MOST_LETTERS" (8),
    fun K => strCB K "LETTERS" "abcdefghijklmnopqrstuvwxyz",
    fun K => tupCB K "KINDS" [.str "steady", .str "read", .str "send"],
    fun K => He.eqO (PySem.W.nsIn K mainGlobals "list") (some none),
    fun K => subTB K "list"] : List (PySem.W.Frag → Bool)) ++
  ([fun K => He.eqO (PySem.W.nsIn K mainGlobals "repr") (some none),
    fun K => He.eqO (PySem.W.nsIn K mainGlobals "range") (some none),
    fun K => He.eqO (PySem.W.nsIn K mainGlobals "enumerate") (some none),
    fun K => He.eqO (PySem.W.nsIn K mainGlobals "super") (some none)] : List (PySem.W.Frag → Bool))
def hfn : List FD :=
  ([⟨fun K => He.ga K "is_integer", "is_integer", "is_integer", s_is_integer⟩,
    ⟨fun K => He.ga K "common_divisor", "common_divisor", "common_divisor", s_common_divisor⟩,
    ⟨fun K => He.ga K "is_ratio", "is_ratio", "is_ratio", s_is_ratio⟩,
    ⟨fun K => He.ga K "is_valued", "is_valued", "is_valued", s_is_valued⟩,
    ⟨fun K => He.ga K "ratio_of", "ratio_of", "ratio_of", s_ratio_of⟩,
    ⟨fun K => He.ga K "is_name", "is_name", "is_name", s_is_name⟩,
    ⟨fun K => He.ga K "made", "made", "made", s_made⟩,
    ⟨fun K => He.ga K "_law_source", "_law_source", "_law_source", s__law_source⟩,
    ⟨fun K => He.ga K "_law_draw", "_law_draw", "_law_draw", s__law_draw⟩,
    ⟨fun K => He.ga K "_law_of", "_law_of", "_law_of", s__law_of⟩,
    ⟨fun K => He.ga K "_law_mixed", "_law_mixed", "_law_mixed", s__law_mixed⟩,
    ⟨fun K => He.ga K "_law_same", "_law_same", "_law_same", s__law_same⟩,
    ⟨fun K => He.ga K "_law_low", "_law_low", "_law_low", s__law_low⟩,
    ⟨fun K => He.ga K "_law_plus", "_law_plus", "_law_plus", s__law_plus⟩,
    ⟨fun K => He.ga K "_law_names", "_law_names", "_law_names", s__law_names⟩,
    ⟨fun K => He.ga K "_law_gain", "_law_gain", "_law_gain", s__law_gain⟩,
    ⟨fun K => He.ga K "_law_gains", "_law_gains", "_law_gains", s__law_gains⟩,
    ⟨fun K => He.ga K "_law_line", "_law_line", "_law_line", s__law_line⟩,
    ⟨fun K => He.ga K "_law_class_so", "_law_class_so", "_law_class_so", s__law_class_so⟩,
    ⟨fun K => He.ga K "law", "law", "law", s_law⟩] : List FD) ++
  ([⟨fun K => (He.ma K (He.ga K "InvalidRatio") "__init__"), "__init__", "InvalidRatio.__init__", s_InvalidRatio_init⟩,
    ⟨fun K => (He.ma K (He.ga K "InvalidName") "__init__"), "__init__", "InvalidName.__init__", s_InvalidName_init⟩,
    ⟨fun K => (He.ma K (He.ga K "InvalidKind") "__init__"), "__init__", "InvalidKind.__init__", s_InvalidKind_init⟩,
    ⟨fun K => (He.ma K (He.ga K "InvalidGain") "__init__"), "__init__", "InvalidGain.__init__", s_InvalidGain_init⟩,
    ⟨fun K => (He.ma K (He.ga K "Line") "__init__"), "__init__", "Line.__init__", s_Line___init__⟩,
    ⟨fun K => (He.ma K (He.ga K "Send") "__init__"), "__init__", "Send.__init__", s_Send___init__⟩,
    ⟨fun K => (He.ma K (He.ga K "Read") "__init__"), "__init__", "Read.__init__", s_Read___init__⟩,
    ⟨fun K => (He.ma K (He.ga K "Steady") "__init__"), "__init__", "Steady.__init__", s_Steady___init__⟩,
    ⟨fun K => (He.ma K (He.ga K "Line") "gains"), "gains", "Line.gains", s_Line_gains⟩,
    ⟨fun K => (He.ma K (He.ga K "Line") "__len__"), "__len__", "Line.__len__", s_Line___len__⟩,
    ⟨fun K => (He.ma K (He.ga K "Line") "__repr__"), "__repr__", "Line.__repr__", s_Line___repr__⟩,
    ⟨fun K => (He.ma K (He.ga K "Line") "__bool__"), "__bool__", "Line.__bool__", s_Line___bool__⟩,
    ⟨fun K => (He.ma K (He.ga K "Line") "renamed"), "renamed", "Line.renamed", s_Line_renamed⟩,
    ⟨fun K => (He.ma K (He.ga K "Line") "__eq__"), "__eq__", "Line.__eq__", s_Line___eq__⟩] : List FD)
def hnames : List PySem.Str :=
  (["__name__",
    "NetError",
    "InvalidRatio",
    "InvalidName",
    "InvalidKind",
    "InvalidGain",
    "is_integer",
    "common_divisor",
    "is_ratio",
    "is_valued",
    "ratio_of",
    "LETTERS",
    "MOST_LETTERS",
    "KINDS",
    "is_name",
    "Line",
    "Steady",
    "Read",
    "Send",
    "made"] : List PySem.Str) ++
  (["_law_source",
    "_law_draw",
    "_law_of",
    "_law_mixed",
    "_law_same",
    "_law_low",
    "_law_plus",
    "_law_names",
    "_law_gain",
    "_law_gains",
    "_law_line",
    "_law_class_so"] : List PySem.Str)
abbrev hhk : PySem.W.Hook := hookH 7 hfs hfn false
def hob (s : PySem.W.SharedT) : AlH := obsH 7 hfs hfn false (HandSHeadRun.getT s)
theorem hob_eq (s : PySem.W.SharedT) : hob s = hhk.obs s.abs := obsH_eq (HandSHeadRun.getT_eq s)
set_option maxHeartbeats 0 in
theorem hrun (w : World) : HandSHeadRun.RunEq (PySem.W.OpenLaw.row PySem.Challenge.rw_heardways_k09_lines_told) (PySem.W.view (PySem.W.OpenLaw.row PySem.Challenge.rw_heardways_k09_lines_told).prog [35]) hhk hob 60000 hnames w := by
  intro os
  kernel_rfl
theorem tk_all {h : Heap} {K : PySem.W.Frag} (c : SaysH hfs hfn false h K) : TK PySem.Challenge.rw_heardways_k09_lines_told.prog K (clF [("NetError", (He.ga K "NetError")), ("InvalidRatio", (He.ga K "InvalidRatio")), ("InvalidName", (He.ga K "InvalidName")), ("InvalidKind", (He.ga K "InvalidKind")), ("InvalidGain", (He.ga K "InvalidGain")), ("Line", (He.ga K "Line")), ("Steady", (He.ga K "Steady")), ("Read", (He.ga K "Read")), ("Send", (He.ga K "Send")), ("Line.__init__", (He.ma K (He.ga K "Line") "__init__")), ("Send.__init__", (He.ma K (He.ga K "Send") "__init__")), ("Read.__init__", (He.ma K (He.ga K "Read") "__init__")), ("Steady.__init__", (He.ma K (He.ga K "Steady") "__init__")), ("Line.gains", (He.ma K (He.ga K "Line") "gains")), ("Line.__len__", (He.ma K (He.ga K "Line") "__len__")), ("Line.__repr__", (He.ma K (He.ga K "Line") "__repr__")), ("Line.__bool__", (He.ma K (He.ga K "Line") "__bool__")), ("Line.renamed", (He.ma K (He.ga K "Line") "renamed")), ("Line.__eq__", (He.ma K (He.ga K "Line") "__eq__"))]) (He.cT K ("law", none)).1 (He.cT K ("law", none)).2 :=
  TK.of
    (⟨by decide +kernel⟩)
    (He.eqO_ok (c.b 0))
    (He.eqO_ok (c.b 1))
    (He.eqO_ok (c.b 2))
    (He.eqO_ok (c.b 3))
    (He.eqO_ok (c.b 4))
    (exc1B_ok (c.d 20) (c.b 5))
    (xfB_ok (c.b 6))
    (exc1B_ok (c.d 21) (c.b 7))
    (xfB_ok (c.b 8))
    (exc1B_ok (c.d 22) (c.b 9))
    (xfB_ok (c.b 10))
    (exc1B_ok (c.d 23) (c.b 11))
    (xfB_ok (c.b 12))
    (funAt_ok (He.eqO_ok (b2 (c.b 13)).2) (fnB_ok (c.d 0) (b2 (c.b 13)).1))
    (funAt_ok (He.eqO_ok (b2 (c.b 14)).2) (fnB_ok (c.d 1) (b2 (c.b 14)).1))
    (funAt_ok (He.eqO_ok (b2 (c.b 15)).2) (fnB_ok (c.d 2) (b2 (c.b 15)).1))
    (funAt_ok (He.eqO_ok (b2 (c.b 16)).2) (fnB_ok (c.d 3) (b2 (c.b 16)).1))
    (funAt_ok (He.eqO_ok (b2 (c.b 17)).2) (fnB_ok (c.d 4) (b2 (c.b 17)).1))
    (funAt_ok (He.eqO_ok (b2 (c.b 18)).2) (fnB_ok (c.d 5) (b2 (c.b 18)).1))
    (funAt_ok (He.eqO_ok (b2 (c.b 19)).2) (fnB_ok (c.d 6) (b2 (c.b 19)).1))
    (funAt_ok (He.eqO_ok (b2 (c.b 20)).2) (fnB_ok (c.d 7) (b2 (c.b 20)).1))
    (funAt_ok (He.eqO_ok (b2 (c.b 21)).2) (fnB_ok (c.d 8) (b2 (c.b 21)).1))
    (funAt_ok (He.eqO_ok (b2 (c.b 22)).2) (fnB_ok (c.d 9) (b2 (c.b 22)).1))
    (funAt_ok (He.eqO_ok (b2 (c.b 23)).2) (fnB_ok (c.d 10) (b2 (c.b 23)).1))
    (funAt_ok (He.eqO_ok (b2 (c.b 24)).2) (fnB_ok (c.d 11) (b2 (c.b 24)).1))
    (funAt_ok (He.eqO_ok (b2 (c.b 25)).2) (fnB_ok (c.d 12) (b2 (c.b 25)).1))
    (funAt_ok (He.eqO_ok (b2 (c.b 26)).2) (fnB_ok (c.d 13) (b2 (c.b 26)).1))
    (funAt_ok (He.eqO_ok (b2 (c.b 27)).2) (fnB_ok (c.d 14) (b2 (c.b 27)).1))
    (funAt_ok (He.eqO_ok (b2 (c.b 28)).2) (fnB_ok (c.d 15) (b2 (c.b 28)).1))
    (funAt_ok (He.eqO_ok (b2 (c.b 29)).2) (fnB_ok (c.d 16) (b2 (c.b 29)).1))
    (funAt_ok (He.eqO_ok (b2 (c.b 30)).2) (fnB_ok (c.d 17) (b2 (c.b 30)).1))
    (funAt_ok (He.eqO_ok (b2 (c.b 31)).2) (fnB_ok (c.d 18) (b2 (c.b 31)).1))
    (funAt_ok (He.eqO_ok (b2 (c.b 32)).2) (fnB_ok (c.d 19) (b2 (c.b 32)).1))
    (He.eqO_ok (c.b 33))
    (He.eqO_ok (c.b 34))
    (He.eqO_ok (c.b 35))
    (He.eqO_ok (c.b 36))
    (clsB_ok (c.b 37))
    (isoB_ok (c.b 38))
    (clsB_ok (c.b 39))
    (isoB_ok (c.b 40))
    (clsB_ok (c.b 41))
    (isoB_ok (c.b 42))
    (clsB_ok (c.b 43))
    (isoB_ok (c.b 44))
    (mkB_ok (c.b 45))
    (mkB_ok (c.b 46))
    (mkB_ok (c.b 47))
    (mkB_ok (c.b 48))
    (methB_ok (c.b 49))
    (methB_ok (c.b 50))
    (methB_ok (c.b 51))
    (methB_ok (c.b 52))
    (methB_ok (c.b 53))
    (methB_ok (c.b 54))
    (methB_ok (c.b 55))
    (methB_ok (c.b 56))
    (methB_ok (c.b 57))
    (methB_ok (c.b 58))
    (methB_ok (c.b 59))
    (methB_ok (c.b 60))
    (methB_ok (c.b 61))
    (methB_ok (c.b 62))
    (methB_ok (c.b 63))
    (methB_ok (c.b 64))
    (methB_ok (c.b 65))
    (methB_ok (c.b 66))
    (methB_ok (c.b 67))
    (methB_ok (c.b 68))
    (methB_ok (c.b 69))
    (methB_ok (c.b 70))
    (methB_ok (c.b 71))
    (methB_ok (c.b 72))
    (fnB_ok (c.d 24) (c.b 73))
    (supIB_ok (c.d 25) (c.b 74))
    (supIB_ok (c.d 26) (c.b 75))
    (supIB_ok (c.d 27) (c.b 76))
    (fnB_ok (c.d 28) (c.b 77))
    (fnB_ok (c.d 29) (c.b 78))
    (fnB_ok (c.d 30) (c.b 79))
    (fnB_ok (c.d 31) (c.b 80))
    (fnB_ok (c.d 32) (c.b 81))
    (fnB_ok (c.d 33) (c.b 82))
    (conB_ok (c.b 83))
    (conB_ok (c.b 84))
    (conB_ok (c.b 85))
    (conB_ok (c.b 86))
    (conB_ok (c.b 87))
    (conB_ok (c.b 88))
    (conB_ok (c.b 89))
    (conB_ok (c.b 90))
    (He.eqO_ok (c.b 91))
    (He.eqO_ok (c.b 92))
    (He.eqO_ok (c.b 93))
    (He.eqO_ok (c.b 94))
    (He.eqO_ok (c.b 95))
    (He.eqO_ok (c.b 96))
    (He.eqO_ok (c.b 97))
    (He.eqO_ok (c.b 98))
    (seB_ok (c.b 99))
    (seB_ok (c.b 100))
    (seB_ok (c.b 101))
    (seB_ok (c.b 102))
    (eqB_ok (c.b 103))
    (eqB_ok (c.b 104))
    (eqB_ok (c.b 105))
    (eqB_ok (c.b 106))
    (Option.isSome_iff_exists.mp (c.b 107))
    (Option.isSome_iff_exists.mp (c.b 108))
    (Option.isSome_iff_exists.mp (c.b 109))
    (Option.isSome_iff_exists.mp (c.b 110))
    (Option.isSome_iff_exists.mp (c.b 111))
    (Option.isSome_iff_exists.mp (c.b 112))
    (Option.isSome_iff_exists.mp (c.b 113))
    (Option.isSome_iff_exists.mp (c.b 114))
    (Option.isSome_iff_exists.mp (c.b 115))
    (Option.isSome_iff_exists.mp (c.b 116))
    (Option.isSome_iff_exists.mp (c.b 117))
    (Option.isSome_iff_exists.mp (c.b 118))
    (Option.isSome_iff_exists.mp (c.b 119))
    (Option.isSome_iff_exists.mp (c.b 120))
    (Option.isSome_iff_exists.mp (c.b 121))
    (Option.isSome_iff_exists.mp (c.b 122))
    (iscB_ok (c.b 123))
    (of_decide_eq_true (c.b 124))
    (iscB_ok (c.b 125))
    (of_decide_eq_true (c.b 126))
    (iscB_ok (c.b 127))
    (of_decide_eq_true (c.b 128))
    (iscB_ok (c.b 129))
    (of_decide_eq_true (c.b 130))
    (seB_ok (c.b 131))
    (seB_ok (c.b 132))
    (seB_ok (c.b 133))
    (seB_ok (c.b 134))
    (seB_ok (c.b 135))
    (seB_ok (c.b 136))
    (seB_ok (c.b 137))
    (seB_ok (c.b 138))
    (cvalB_ok (fun _ _ => .str _) (c.b 139))
    (cvalB_ok (fun _ _ => .str _) (c.b 140))
    (cvalB_ok (fun _ _ => .bl _) (c.b 141))
    (cvalB_ok (fun _ _ => .bl _) (c.b 142))
    (He.eqO_ok (c.b 143))
    (He.eqO_ok (c.b 144))
    (subTB_ok (c.b 145))
    (He.eqO_ok (c.b 146))
    (subTB_ok (c.b 147))
    (He.eqO_ok (c.b 148))
    (He.eqO_ok (c.b 149))
    (subTB_ok (c.b 150))
    (He.eqO_ok (c.b 151))
    (He.eqO_ok (c.b 152))
    (He.eqO_ok (c.b 153))
    (subTB_ok (c.b 154))
    (intCB_ok (c.b 155))
    (strCB_ok (c.b 156))
    (tupCB_ok (c.b 157))
    (He.eqO_ok (c.b 158))
    (subTB_ok (c.b 159))
    (He.eqO_ok (c.b 160))
    (He.eqO_ok (c.b 161))
    (He.eqO_ok (c.b 162))
    (He.eqO_ok (c.b 163))
end Hw
set_option Elab.async false
set_option linter.all false
set_option maxRecDepth 100000
set_option maxHeartbeats 4000000

open PySem PySem.W PyProof.Rows
set_option maxRecDepth 100000 in
set_option maxHeartbeats 0 in
theorem PySem.Challenge.cw_heardways_k09_lines_told_holds : PySem.Challenge.rw_heardways_k09_lines_told.Holds := by
  w_on; o_law
  refine HandSHeadRun.head_any (r := (PySem.W.OpenLaw.row PySem.Challenge.rw_heardways_k09_lines_told)) (q := view (PySem.W.OpenLaw.row PySem.Challenge.rw_heardways_k09_lines_told).prog [35]) (H := Hw.hhk) (ob := Hw.hob) (M := 60000) (loose := Hw.hnames) (d := HandSHeadRun.topDef (PySem.W.OpenLaw.row PySem.Challenge.rw_heardways_k09_lines_told).prog 35) (kwd := []) Hw.hob_eq (by kernel_rfl) (fun s => by kernel_rfl) Hw.hrun (by kernel_rfl) (by kernel_rfl) (by kernel_rfl) (by rfl) (by first | assumption | decide +kernel) (by decide +kernel) ⟨rfl, rfl, rfl, rfl, rfl, by decide +kernel⟩ ?hw ?hc
  case hw => w_witness2
  case hc =>
    refine Hw.walk_endE (l := PySem.Challenge.rw_heardways_k09_lines_told) (n := 63) (k := 11) (x := "_law_script") (C := Hw.lawC) rfl (by decide) (by kernel_rfl) ⟨⟨rfl, by decide, by decide⟩, rfl⟩ ?F (fun ns hl hb => ⟨ns, rfl, hl, hb, fun _ => rfl⟩)
    intro w mg fa h Y G hmg0
    obtain ⟨K, KX, c⟩ := Y
    have hmg : mg ("law" : PySem.Str) = some (.ref fa) := by
      have e : (HandSHeadRun.topDef (PySem.W.OpenLaw.row PySem.Challenge.rw_heardways_k09_lines_told).prog 35).name = ("law" : PySem.Str) := by kernel_rfl
      rw [← e]
      exact hmg0
    have T := Hw.tk_all c
    obtain ⟨fd, h4, h5⟩ := Hw.law_fn (P := (PySem.Challenge.rw_heardways_k09_lines_told).prog) (w := w) (k := 11) (C := Hw.lawC) ⟨KX, G⟩ T.f_law hmg (fun _ _ _ _ _ _ _ => rfl) fun base f fd tb F => (Hw.fg_law0 ⟨T, tb⟩ F).weak fun xs μ R RE h => Hw.law_ok h
    exact ⟨K, fd, KX, h4, h5⟩
#print axioms PySem.Challenge.cw_heardways_k09_lines_told_holds
